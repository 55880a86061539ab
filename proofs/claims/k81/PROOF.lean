import PyProof.Rows.All
import Wide.All
import OpenK.AllK
import Wide.FinOn
import HandS.ForMost
import HandS.Deep
import HandS.Wide
import HandS.TupLe
import HandS.SortOrd
import HandS.SortRule
import HandS.SortInts
import HandS.IsInst
import HandS.Style
import HandS.More
import HandS.SetFor
import HandS.DictTup
import PyProof.Rows.SetFrom
import HandS.Rev
import HandS.Conv
import PyProof.DictMoreH
import HandS.SetKeys
import PyProof.P3In
import HandS.Zip
import HandS.ExcIs
import HandS.WordsExc
import HandS.Exc
import HandS.ExcOwn
import HandS.TryMany
import HandS.Set
import HandS.TupSets
import KE.DatumOrd
import HandS.SortKw
import HandS.EndBits
import PySem.Challenge.RW_pairsheath_k81_steps_between_choices
set_option Elab.async false
set_option linter.all false
set_option maxRecDepth 100000
namespace Ev
open PySem PySem.Spec L2
open PyProof.Rows hiding St
inductive D where
  | non | bl (b : Bool) | int (i : Int) | str (x : Str)
  | tup (xs : List D) | lst (xs : List D) | fl (xs : List D)
  | dk (kvs : List (Key × D)) | dt (kvs : List (List Key × D))
  | ins (C : Addr) (fs : List (Str × D)) | obj (C dx : Addr) (fs : List (Str × D))
  
  | any
  
  | exc (a : Addr)
  
  | sh (d : D)
inductive Lv where
  | shr | top | full
  deriving DecidableEq
def ch : Lv → Lv
  | .full => .full
  | _ => .shr
mutual

def imm : D → Bool
  | .non => true | .bl _ => true | .int _ => true | .str _ => true
  | .tup xs => immAll xs | .fl xs => immAll xs
  | _ => false
def immAll : List D → Bool
  | [] => true
  | d :: ds => imm d && immAll ds
end
inductive Node : D → HO → List V → List D → Prop
  | lst {vs : List V} {ds : List D} : Node (.lst ds) (.lst vs) vs ds
  | dk {kv : List (Key × V)} {kd : List (Key × D)} : kv.map (·.1) = kd.map (·.1) → Node (.dk kd) (.dK kv) (kv.map (·.2)) (kd.map (·.2))
  | dt {kv : List (List Key × V)} {kd : List (List Key × D)} : kv.map (·.1) = kd.map (·.1) → Node (.dt kd) (.dT kv) (kv.map (·.2)) (kd.map (·.2))
  | ins {C dx : Addr} {fv : List (Str × V)} {fd : List (Str × D)} : fv.map (·.1) = fd.map (·.1) → Node (.ins C fd) (.ins C dx fv) (fv.map (·.2)) (fd.map (·.2))
  | obj {C dx : Addr} {fv : List (Str × V)} {fd : List (Str × D)} : fv.map (·.1) = fd.map (·.1) → Node (.obj C dx fd) (.ins C dx fv) (fv.map (·.2)) (fd.map (·.2))
def KSeq (K : PySem.W.Frag) (H : Hp) (a : Addr) (xs : List V) : Prop :=
  (∃ o, H a = some (.frz o (.lst xs))) ∨ ∃ (o : Obj) (its : Array Value) (n : Nat), K.lookup a = some o ∧ o.cls = .type "list" ∧ o.dict = none ∧ o.data = .seq its n ∧ its.size ≤ sizeLine ∧ Vals xs its.toList
def RdN (H : Hp) (a : Addr) (o : HO) : Prop := H a = some o ∨ (∃ od, H a = some (.frz od o)) ∧ ((∃ kv, o = .dK kv) ∨ ∃ kv, o = .dT kv)
theorem RdN.rd {H : Hp} {a : Addr} {o : HO} (h : RdN H a o) : Rd H a o := h.imp id And.left
theorem RdN.ne {H : Hp} {a : Addr} {o : HO} (h : RdN H a o) : H a ≠ none := fun e => by
  rcases h with h | ⟨⟨od, h⟩, _⟩ <;> (rw [e] at h; cases h)
theorem RdN.lst {H : Hp} {a : Addr} {vs : List V} (h : RdN H a (.lst vs)) : H a = some (.lst vs) := by
  rcases h with h | ⟨_, ⟨_, h⟩ | ⟨_, h⟩⟩
  · exact h
  · cases h
  · cases h
theorem RdN.ins {H : Hp} {a C dx : Addr} {fv : List (Str × V)} (h : RdN H a (.ins C dx fv)) : H a = some (.ins C dx fv) := by
  rcases h with h | ⟨_, ⟨_, h⟩ | ⟨_, h⟩⟩
  · exact h
  · cases h
  · cases h
theorem RdN.imp {H H' : Hp} {a : Addr} {o : HO} (h : RdN H a o) (k : ∀ o', H a = some o' → H' a = some o') : RdN H' a o := by
  rcases h with h | ⟨⟨od, h⟩, q⟩
  · exact .inl (k _ h)
  · exact .inr ⟨⟨od, k _ h⟩, q⟩
mutual

inductive Rp (K : PySem.W.Frag) (S : Addr → Prop) (H : Hp) : Lv → V → D → List Addr → Prop
  | any {l : Lv} {v : V} : Rp K S H l v .any []
  | exc {l : Lv} {a : Addr} : Rp K S H l (.ref a) (.exc a) []
  | sh {l : Lv} {v : V} {d : D} : Rp K S H .shr v d [] → Rp K S H l v (.sh d) []
  | non {l : Lv} : Rp K S H l .non .non []
  | bl {l : Lv} {b : Bool} : Rp K S H l (.bl b) (.bl b) []
  | int {l : Lv} {i : Int} : Rp K S H l (.int i) (.int i) []
  | str {l : Lv} {x : Str} : Rp K S H l (.str x) (.str x) []
  | tup {l : Lv} {a : Addr} {vs : List V} {ds : List D} {F : List Addr} : H a = some (.tup vs) → Rps K S H l vs ds F → Rp K S H l (.ref a) (.tup ds) F
  | fl {l : Lv} {a : Addr} {vs : List V} {ds : List D} : KSeq K H a vs → Rps K S H .shr vs ds [] → Rp K S H l (.ref a) (.fl ds) []
  | nd0 {a : Addr} {o : HO} {d : D} {vs : List V} {ds : List D} : Node d o vs ds → RdN H a o → S a → Rps K S H .shr vs ds [] → Rp K S H .shr (.ref a) d []
  | nd1 {l : Lv} {a : Addr} {o : HO} {d : D} {vs : List V} {ds : List D} {F : List Addr} : l ≠ .shr → Node d o vs ds → H a = some o → Rps K S H (ch l) vs ds F → Rp K S H l (.ref a) d (a :: F)
inductive Rps (K : PySem.W.Frag) (S : Addr → Prop) (H : Hp) : Lv → List V → List D → List Addr → Prop
  | nil {l : Lv} : Rps K S H l [] [] []
  | cons {l : Lv} {v : V} {d : D} {vs : List V} {ds : List D} {F G : List Addr} : Rp K S H l v d F → Rps K S H l vs ds G → Rps K S H l (v :: vs) (d :: ds) (F ++ G)
end
section
variable {K : PySem.W.Frag} {S S' : Addr → Prop} {H H' : Hp} {l : Lv} {v : V} {d : D} {F : List Addr}
mutual
theorem Rp.shr0 : ∀ {v : V} {d : D} {F : List Addr}, Rp K S H .shr v d F → F = []
  | _, _, _, .any => rfl
  | _, _, _, .exc => rfl
  | _, _, _, .sh _ => rfl
  | _, _, _, .non => rfl
  | _, _, _, .bl => rfl
  | _, _, _, .int => rfl
  | _, _, _, .str => rfl
  | _, _, _, .tup _ h => Rps.shr0 h
  | _, _, _, .fl _ _ => rfl
  | _, _, _, .nd0 _ _ _ _ => rfl
  | _, _, _, .nd1 h _ _ _ => absurd rfl h
theorem Rps.shr0 : ∀ {vs : List V} {ds : List D} {F : List Addr}, Rps K S H .shr vs ds F → F = []
  | _, _, _, .nil => rfl
  | _, _, _, .cons h1 h2 => by rw [Rp.shr0 h1, Rps.shr0 h2]; rfl
end
def Keeps (S : Addr → Prop) (F : List Addr) (H H' : Hp) : Prop :=
  ∀ b o, H b = some o → (S b ∨ b ∈ F ∨ (∃ xs, o = .tup xs) ∨ ∃ o' u, o = .frz o' u) → H' b = some o
theorem Keeps.sub {F G : List Addr} (k : Keeps S G H H') (h : ∀ a ∈ F, a ∈ G) : Keeps S F H H' := fun b o e q =>
  k b o e (q.imp id fun q => q.imp (h b) id)
theorem Keeps.same (h : Same H H') : Keeps S F H H' := fun b o e _ => h b o e
theorem kseq_keep {a : Addr} {vs : List V} (r : KSeq K H a vs) (k : Keeps S F H H') : KSeq K H' a vs := by
  rcases r with ⟨o, e⟩ | r
  · exact .inl ⟨o, k a _ e (.inr (.inr (.inr ⟨_, _, rfl⟩)))⟩
  · exact .inr r
theorem KSeq.sq {a : Addr} {vs : List V} (r : KSeq K H a vs) : SqL K H a vs := by
  rcases r with r | r
  · exact .inl (.inr r)
  · exact .inr r
theorem KSeq.of {a : Addr} {vs : List V} (r : SqL K H a vs) (h : ∀ xs, H a ≠ some (.lst xs)) : KSeq K H a vs := by
  rcases r with (r | r) | r
  · exact absurd r (h _)
  · exact .inl r
  · exact .inr r
mutual
theorem Rp.keep : ∀ {l : Lv} {v : V} {d : D} {F : List Addr}, Rp K S H l v d F → Keeps S F H H' → Rp K S H' l v d F
  | _, _, _, _, .any, _ => .any
  | _, _, _, _, .exc, _ => .exc
  | _, _, _, _, .sh h1, k => .sh (Rp.keep h1 (k.sub fun _ z => nomatch z))
  | _, _, _, _, .non, _ => .non
  | _, _, _, _, .bl, _ => .bl
  | _, _, _, _, .int, _ => .int
  | _, _, _, _, .str, _ => .str
  | _, _, _, _, .tup h1 h2, k => .tup (k _ _ h1 (.inr (.inr (.inl ⟨_, rfl⟩)))) (Rps.keep h2 k)
  | _, _, _, _, .fl h1 h3, k => .fl (kseq_keep h1 k) (Rps.keep h3 (k.sub fun _ z => nomatch z))
  | _, _, _, _, .nd0 h0 h1 h2 h3, k => .nd0 h0 (h1.imp fun _ e => k _ _ e (.inl h2)) h2 (Rps.keep h3 k)
  | _, _, _, _, .nd1 h0 h1 h2 h3, k => .nd1 h0 h1 (k _ _ h2 (.inr (.inl List.mem_cons_self))) (Rps.keep h3 (k.sub fun _ z => List.mem_cons_of_mem _ z))
theorem Rps.keep : ∀ {l : Lv} {vs : List V} {ds : List D} {F : List Addr}, Rps K S H l vs ds F → Keeps S F H H' → Rps K S H' l vs ds F
  | _, _, _, _, .nil, _ => .nil
  | _, _, _, _, .cons h1 h2, k => .cons (Rp.keep h1 (k.sub fun _ z => List.mem_append_left _ z)) (Rps.keep h2 (k.sub fun _ z => List.mem_append_right _ z))
end
mutual
theorem Rp.mono (h : ∀ a, S a → S' a) : ∀ {l : Lv} {v : V} {d : D} {F : List Addr}, Rp K S H l v d F → Rp K S' H l v d F
  | _, _, _, _, .any => .any
  | _, _, _, _, .exc => .exc
  | _, _, _, _, .sh h1 => .sh (Rp.mono h h1)
  | _, _, _, _, .non => .non
  | _, _, _, _, .bl => .bl
  | _, _, _, _, .int => .int
  | _, _, _, _, .str => .str
  | _, _, _, _, .tup h1 h2 => .tup h1 (Rps.mono h h2)
  | _, _, _, _, .fl h1 h3 => .fl h1 (Rps.mono h h3)
  | _, _, _, _, .nd0 h0 h1 h2 h3 => .nd0 h0 h1 (h _ h2) (Rps.mono h h3)
  | _, _, _, _, .nd1 h0 h1 h2 h3 => .nd1 h0 h1 h2 (Rps.mono h h3)
theorem Rps.mono (h : ∀ a, S a → S' a) : ∀ {l : Lv} {vs : List V} {ds : List D} {F : List Addr}, Rps K S H l vs ds F → Rps K S' H l vs ds F
  | _, _, _, _, .nil => .nil
  | _, _, _, _, .cons h1 h2 => .cons (Rp.mono h h1) (Rps.mono h h2)
end
mutual

theorem Rp.give (h : ∀ a, S a → S' a) : ∀ {l : Lv} {v : V} {d : D} {F : List Addr}, Rp K S H l v d F → (∀ a ∈ F, S' a) → Rp K S' H .shr v d []
  | _, _, _, _, .any, _ => .any
  | _, _, _, _, .exc, _ => .exc
  | _, _, _, _, .sh h1, _ => .sh (Rp.mono h h1)
  | _, _, _, _, .non, _ => .non
  | _, _, _, _, .bl, _ => .bl
  | _, _, _, _, .int, _ => .int
  | _, _, _, _, .str, _ => .str
  | _, _, _, _, .tup h1 h2, k => .tup h1 (Rps.give h h2 k)
  | _, _, _, _, .fl h1 h3, k => .fl h1 (Rps.mono h h3)
  | _, _, _, _, .nd0 h0 h1 h2 h3, k => .nd0 h0 h1 (h _ h2) (Rps.mono h h3)
  | _, _, _, _, .nd1 h0 h1 h2 h3, k => .nd0 h1 (.inl h2) (k _ List.mem_cons_self) (Rps.give h h3 fun a z => k a (List.mem_cons_of_mem _ z))
theorem Rps.give (h : ∀ a, S a → S' a) : ∀ {l : Lv} {vs : List V} {ds : List D} {F : List Addr}, Rps K S H l vs ds F → (∀ a ∈ F, S' a) → Rps K S' H .shr vs ds []
  | _, _, _, _, .nil, _ => .nil
  | _, _, _, _, .cons h1 h2, k => Rps.cons (F := []) (G := []) (Rp.give h h1 fun a z => k a (List.mem_append_left _ z)) (Rps.give h h2 fun a z => k a (List.mem_append_right _ z))
end
mutual
theorem Rp.of_imm {l' : Lv} : ∀ {l : Lv} {v : V} {d : D} {F : List Addr}, Rp K S H l v d F → imm d = true → F = [] ∧ Rp K S' H l' v d []
  | _, _, _, _, .any, e => by simp [imm] at e
  | _, _, _, _, .exc, e => by simp [imm] at e
  | _, _, _, _, .sh _, e => by simp [imm] at e
  | _, _, _, _, .non, _ => ⟨rfl, .non⟩
  | _, _, _, _, .bl, _ => ⟨rfl, .bl⟩
  | _, _, _, _, .int, _ => ⟨rfl, .int⟩
  | _, _, _, _, .str, _ => ⟨rfl, .str⟩
  | _, _, _, _, .tup h1 h2, e => let ⟨q, r⟩ := Rps.of_imm h2 (by simpa only [imm] using e); ⟨q, .tup h1 r⟩
  | _, _, _, _, .fl h1 h2, e => ⟨rfl, .fl h1 (Rps.of_imm h2 (by simpa only [imm] using e)).2⟩
  | _, _, _, _, .nd0 h _ _ _, e => by cases h <;> (simp only [imm] at e; cases e)
  | _, _, _, _, .nd1 _ h _ _, e => by cases h <;> (simp only [imm] at e; cases e)
theorem Rps.of_imm {l' : Lv} : ∀ {l : Lv} {vs : List V} {ds : List D} {F : List Addr}, Rps K S H l vs ds F → immAll ds = true → F = [] ∧ Rps K S' H l' vs ds []
  | _, _, _, _, .nil, _ => ⟨rfl, .nil⟩
  | _, _, _, _, .cons h1 h2, e => by
    simp only [immAll, Bool.and_eq_true] at e
    obtain ⟨q1, r1⟩ := Rp.of_imm (l' := l') h1 e.1
    obtain ⟨q2, r2⟩ := Rps.of_imm (l' := l') h2 e.2
    exact ⟨by rw [q1, q2]; rfl, Rps.cons (F := []) (G := []) r1 r2⟩
end
theorem Rp.same (h : Rp K S H l v d F) (s : Same H H') : Rp K S H' l v d F := h.keep (.same s)
theorem Rps.same {vs : List V} {ds : List D} (h : Rps K S H l vs ds F) (s : Same H H') : Rps K S H' l vs ds F := h.keep (.same s)
theorem Rps.len : ∀ {vs : List V} {ds : List D} {F : List Addr}, Rps K S H l vs ds F → vs.length = ds.length
  | _, _, _, .nil => rfl
  | _, _, _, .cons _ h => by rw [List.length_cons, List.length_cons, Rps.len h]
theorem Rp.int_inv {i : Int} (h : Rp K S H l v (.int i) F) : v = .int i ∧ F = [] := by
  cases h with
  | int => exact ⟨rfl, rfl⟩
  | nd0 h => cases h
  | nd1 _ h => cases h
theorem Rp.bl_inv {b : Bool} (h : Rp K S H l v (.bl b) F) : v = .bl b ∧ F = [] := by
  cases h with
  | bl => exact ⟨rfl, rfl⟩
  | nd0 h => cases h
  | nd1 _ h => cases h
theorem Rp.str_inv {x : Str} (h : Rp K S H l v (.str x) F) : v = .str x ∧ F = [] := by
  cases h with
  | str => exact ⟨rfl, rfl⟩
  | nd0 h => cases h
  | nd1 _ h => cases h
theorem Rp.non_inv (h : Rp K S H l v .non F) : v = .non ∧ F = [] := by
  cases h with
  | non => exact ⟨rfl, rfl⟩
  | nd0 h => cases h
  | nd1 _ h => cases h
theorem Rp.tup_inv {ds : List D} (h : Rp K S H l v (.tup ds) F) : ∃ a vs, v = .ref a ∧ H a = some (.tup vs) ∧ Rps K S H l vs ds F := by
  cases h with
  | tup h1 h2 => exact ⟨_, _, rfl, h1, h2⟩
  | nd0 h => cases h
  | nd1 _ h => cases h
theorem Rp.lst_inv {ds : List D} (h : Rp K S H l v (.lst ds) F) : ∃ a vs G, v = .ref a ∧ H a = some (.lst vs) ∧ Rps K S H (ch l) vs ds G ∧ (∀ b ∈ G, b ∈ F) ∧ (F.Nodup → G.Nodup) := by
  cases h with
  | nd0 h h1 h2 h3 => cases h; exact ⟨_, _, _, rfl, h1.lst, h3, fun _ z => z, id⟩
  | nd1 h0 h h1 h2 => cases h; exact ⟨_, _, _, rfl, h1, h2, fun _ z => List.mem_cons_of_mem _ z, fun n => (List.nodup_cons.mp n).2⟩
theorem Rp.fl_inv {ds : List D} (h : Rp K S H l v (.fl ds) F) : ∃ a vs, v = .ref a ∧ KSeq K H a vs ∧ Rps K S H .shr vs ds [] ∧ F = [] := by
  cases h with
  | fl h1 h2 => exact ⟨_, _, rfl, h1, h2, rfl⟩
  | nd0 h => cases h
  | nd1 _ h => cases h
mutual
theorem Rp.trk : ∀ {l : Lv} {v : V} {d : D} {F : List Addr}, Rp K S H l v d F → Rp K (fun a => S a ∧ H a ≠ none) H l v d F
  | _, _, _, _, .any => .any
  | _, _, _, _, .exc => .exc
  | _, _, _, _, .sh h1 => .sh (Rp.trk h1)
  | _, _, _, _, .non => .non
  | _, _, _, _, .bl => .bl
  | _, _, _, _, .int => .int
  | _, _, _, _, .str => .str
  | _, _, _, _, .tup h1 h2 => .tup h1 (Rps.trk h2)
  | _, _, _, _, .fl h1 h3 => .fl h1 (Rps.trk h3)
  | _, _, _, _, .nd0 h0 h1 h2 h3 => .nd0 h0 h1 ⟨h2, h1.ne⟩ (Rps.trk h3)
  | _, _, _, _, .nd1 h0 h1 h2 h3 => .nd1 h0 h1 h2 (Rps.trk h3)
theorem Rps.trk : ∀ {l : Lv} {vs : List V} {ds : List D} {F : List Addr}, Rps K S H l vs ds F → Rps K (fun a => S a ∧ H a ≠ none) H l vs ds F
  | _, _, _, _, .nil => .nil
  | _, _, _, _, .cons h1 h2 => .cons (Rp.trk h1) (Rps.trk h2)
end
mutual
theorem Rp.own_trk : ∀ {l : Lv} {v : V} {d : D} {F : List Addr}, Rp K S H l v d F → ∀ a ∈ F, H a ≠ none
  | _, _, _, _, .any => fun _ z => nomatch z
  | _, _, _, _, .exc => fun _ z => nomatch z
  | _, _, _, _, .sh _ => fun _ z => nomatch z
  | _, _, _, _, .non => fun _ z => nomatch z
  | _, _, _, _, .bl => fun _ z => nomatch z
  | _, _, _, _, .int => fun _ z => nomatch z
  | _, _, _, _, .str => fun _ z => nomatch z
  | _, _, _, _, .tup h1 h2 => Rps.own_trk h2
  | _, _, _, _, .fl h1 h3 => fun _ z => nomatch z
  | _, _, _, _, .nd0 h0 h1 h2 h3 => fun _ z => nomatch z
  | _, _, _, _, .nd1 h0 h1 h2 h3 => fun a z => (List.mem_cons.mp z).elim (fun e => by rw [e, h2]; exact fun z => nomatch z) (Rps.own_trk h3 a)
theorem Rps.own_trk : ∀ {l : Lv} {vs : List V} {ds : List D} {F : List Addr}, Rps K S H l vs ds F → ∀ a ∈ F, H a ≠ none
  | _, _, _, _, .nil => fun _ z => nomatch z
  | _, _, _, _, .cons h1 h2 => fun a z => (List.mem_append.mp z).elim (Rp.own_trk h1 a) (Rps.own_trk h2 a)
end
theorem Rps.get : ∀ {vs : List V} {ds : List D} {F : List Addr} {i : Nat} {d : D}, Rps K S H l vs ds F → ds[i]? = some d → ∃ v G, vs[i]? = some v ∧ Rp K S H l v d G ∧ ∀ b ∈ G, b ∈ F
  | _, _, _, _, _, .nil, e => by simp at e
  | _, _, _, 0, _, .cons h1 _, e => by
    simp at e; subst e
    exact ⟨_, _, rfl, h1, fun _ z => List.mem_append_left _ z⟩
  | _, _, _, i + 1, d, .cons _ h2, e => by
    obtain ⟨v, G, e1, r, s⟩ := Rps.get (i := i) (d := d) h2 (by simpa using e)
    exact ⟨v, G, by simpa using e1, r, fun b z => List.mem_append_right _ (s b z)⟩
theorem Rps.app : ∀ {vs : List V} {ds : List D} {F : List Addr} {us : List V} {es : List D} {G : List Addr}, Rps K S H l vs ds F → Rps K S H l us es G → Rps K S H l (vs ++ us) (ds ++ es) (F ++ G)
  | _, _, _, _, _, _, .nil, q => q
  | _, _, _, _, _, _, .cons h1 h2, q => by
    rw [List.append_assoc]
    exact .cons h1 (Rps.app h2 q)
theorem Rps.take : ∀ {vs : List V} {ds : List D} (n : Nat), Rps K S H .shr vs ds [] → Rps K S H .shr (vs.take n) (ds.take n) []
  | _, _, 0, _ => .nil
  | _, _, n + 1, h => by
    generalize hF : ([] : List Addr) = F at h
    cases h with
    | nil => exact .nil
    | cons h1 h2 =>
      have e1 := h1.shr0
      have e2 := h2.shr0
      subst e1 e2
      exact Rps.cons (F := []) (G := []) h1 (Rps.take n h2)
theorem Rps.drop : ∀ {vs : List V} {ds : List D} (n : Nat), Rps K S H .shr vs ds [] → Rps K S H .shr (vs.drop n) (ds.drop n) []
  | _, _, 0, h => h
  | _, _, n + 1, h => by
    generalize hF : ([] : List Addr) = F at h
    cases h with
    | nil => exact .nil
    | cons h1 h2 =>
      have e1 := h1.shr0
      have e2 := h2.shr0
      subst e1 e2
      exact Rps.drop n h2
end
section
variable {K : PySem.W.Frag} {S S' : Addr → Prop} {H H' : Hp} {l : Lv} {v : V} {d : D} {F : List Addr}
theorem mut_ne {a : Addr} (m : Mut (H a)) : H a ≠ none := fun e => by rw [e] at m; exact m
theorem Node.mu {d : D} {o : HO} {vs : List V} {ds : List D} (h : Node d o vs ds) : Mut (some o) := by cases h <;> trivial
mutual
theorem Rp.own_mut : ∀ {l : Lv} {v : V} {d : D} {F : List Addr}, Rp K S H l v d F → ∀ a ∈ F, Mut (H a)
  | _, _, _, _, .any => fun _ z => nomatch z
  | _, _, _, _, .exc => fun _ z => nomatch z
  | _, _, _, _, .sh _ => fun _ z => nomatch z
  | _, _, _, _, .non => fun _ z => nomatch z
  | _, _, _, _, .bl => fun _ z => nomatch z
  | _, _, _, _, .int => fun _ z => nomatch z
  | _, _, _, _, .str => fun _ z => nomatch z
  | _, _, _, _, .tup h1 h2 => Rps.own_mut h2
  | _, _, _, _, .fl h1 h3 => fun _ z => nomatch z
  | _, _, _, _, .nd0 h0 h1 h2 h3 => fun _ z => nomatch z
  | _, _, _, _, .nd1 h0 h1 h2 h3 => fun a z => (List.mem_cons.mp z).elim (fun e => by rw [e, h2]; exact h1.mu) (Rps.own_mut h3 a)
theorem Rps.own_mut : ∀ {l : Lv} {vs : List V} {ds : List D} {F : List Addr}, Rps K S H l vs ds F → ∀ a ∈ F, Mut (H a)
  | _, _, _, _, .nil => fun _ z => nomatch z
  | _, _, _, _, .cons h1 h2 => fun a z => (List.mem_append.mp z).elim (Rp.own_mut h1 a) (Rps.own_mut h2 a)
end
theorem mut_same {a : Addr} (m : Mut (H a)) (s : Same H H') : Mut (H' a) := by
  cases e : H a with
  | none => rw [e] at m; exact m.elim
  | some o => rw [s a o e]; rw [e] at m; exact m
end
structure Sv where
  d : D
  l : Lv
  al : Bool
  pn : Option Nat
structure Rv where
  d : D
  l : Lv
  al : Bool
  vw : Bool
abbrev Env := List (Option Sv)
structure Nw where
  n : Addr → Prop
  s : Addr → Prop
  p : Nat → Addr
instance : CoeFun Nw fun _ => Addr → Prop := ⟨Nw.n⟩
def AlN (N : Nw) (al : Bool) (a : Addr) : Prop := (N a ∨ N.s a) ∧ (al = false → N a)
theorem AlN.new {N : Nw} {al : Bool} {a : Addr} (h : N a) : AlN N al a := ⟨.inl h, fun _ => h⟩
theorem AlN.up {N : Nw} {al al' : Bool} {a : Addr} (h : AlN N al a) (k : al = true → al' = true) : AlN N al' a := ⟨h.1, fun e => h.2 (by
  cases al with
  | false => rfl
  | true => rw [k rfl] at e; cases e)⟩
def SR (N : Nw) (L : List Addr) (al vw : Bool) : Addr → Prop := fun a => AlN N al a ∧ (vw = false → a ∉ L)
inductive Slots (K : PySem.W.Frag) (N : Nw) (L : List Addr) (H : Hp) : St → Env → List Addr → Prop
  | nil : Slots K N L H [] [] []
  | no {x : Option V} {σ : St} {ρ : Env} {F : List Addr} : Slots K N L H σ ρ F → Slots K N L H (x :: σ) (none :: ρ) F
  | so {v : V} {s : Sv} {σ : St} {ρ : Env} {F G : List Addr} : (∀ k, s.pn = some k → v = .ref (N.p k)) → Rp K (SR N L s.al false) H s.l v s.d F → Slots K N L H σ ρ G → Slots K N L H (some v :: σ) (some s :: ρ) (F ++ G)
structure Sim (K : PySem.W.Frag) (N : Nw) (H0 : Hp) (ρ : Env) (σ : St) (H : Hp) (L : List Addr) : Prop where
  kp : ∀ b o, H0 b = some o → ¬ N b → H b = some o
  nw : ∀ b, H b = none → N b
  nd : L.Nodup
  ln : ∀ a ∈ L, N a
  mu : ∀ a ∈ L, Mut (H a)
  sl : Slots K N L H σ ρ L
theorem Sim.th {K : PySem.W.Frag} {N : Nw} {H0 H : Hp} {ρ : Env} {σ : St} {L : List Addr} (s : Sim K N H0 ρ σ H L) : ∀ a ∈ L, H a ≠ none := fun a z => mut_ne (s.mu a z)
section
variable {K : PySem.W.Frag} {N : Nw} {H0 H H' : Hp} {ρ : Env} {σ : St} {L : List Addr}
theorem Slots.keep {L0 : List Addr} : ∀ {σ : St} {ρ : Env} {F : List Addr}, Slots K N L0 H σ ρ F → (∀ al, Keeps (SR N L0 al false) F H H') → Slots K N L0 H' σ ρ F
  | _, _, _, .nil, _ => .nil
  | _, _, _, .no h, k => .no (Slots.keep h k)
  | _, _, _, .so h0 h1 h2, k => .so h0 (h1.keep ((k _).sub fun _ z => List.mem_append_left _ z)) (Slots.keep h2 fun al => (k al).sub fun _ z => List.mem_append_right _ z)
theorem Slots.mono {L0 L1 : List Addr} (h : ∀ a, a ∉ L0 → a ∉ L1) : ∀ {σ : St} {ρ : Env} {F : List Addr}, Slots K N L0 H σ ρ F → Slots K N L1 H σ ρ F
  | _, _, _, .nil => .nil
  | _, _, _, .no s => .no (Slots.mono h s)
  | _, _, _, .so h0 h1 h2 => .so h0 (h1.mono fun a z => ⟨z.1, fun e => h a (z.2 e)⟩) (Slots.mono h h2)
theorem Slots.move {L0 L1 : List Addr} (h : ∀ a, a ∉ L0 → H a ≠ none → a ∉ L1) : ∀ {σ : St} {ρ : Env} {F : List Addr}, Slots K N L0 H σ ρ F → (∀ al, Keeps (SR N L0 al false) F H H') → Slots K N L1 H' σ ρ F
  | _, _, _, .nil, _ => .nil
  | _, _, _, .no s, k => .no (Slots.move h s k)
  | _, _, _, .so h0 h1 h2, k => .so h0 ((h1.trk.keep (F := _) (fun b o e q => k _ b o e (q.imp (fun z => z.1) (fun z => z.imp (List.mem_append_left _) id)))).mono fun a z => ⟨z.1.1, fun _ => h a (z.1.2 rfl) z.2⟩) (Slots.move h h2 fun al => (k al).sub fun _ z => List.mem_append_right _ z)
theorem Slots.len {L0 : List Addr} : ∀ {σ : St} {ρ : Env} {F : List Addr}, Slots K N L0 H σ ρ F → σ.length = ρ.length
  | _, _, _, .nil => rfl
  | _, _, _, .no h => by rw [List.length_cons, List.length_cons, Slots.len h]
  | _, _, _, .so _ _ h => by rw [List.length_cons, List.length_cons, Slots.len h]
theorem Sim.same (s : Sim K N H0 ρ σ H L) (h : Same H H') : Sim K N H0 ρ σ H' L where
  kp := fun b o e n => h b o (s.kp b o e n)
  nw := fun b e => s.nw b (h.free e)
  nd := s.nd
  ln := s.ln
  mu := fun a ha => mut_same (s.mu a ha) h
  sl := s.sl.keep fun _ => .same h
theorem Slots.get {L0 : List Addr} : ∀ {σ : St} {ρ : Env} {F : List Addr} {i : Nat} {s : Sv}, Slots K N L0 H σ ρ F → ρ[i]? = some (some s) → ∃ v G, σ[i]? = some (some v) ∧ Rp K (SR N L0 s.al false) H s.l v s.d G ∧ (∀ b ∈ G, b ∈ F) ∧ ∀ k, s.pn = some k → v = .ref (N.p k)
  | _, _, _, _, _, .nil, e => by simp at e
  | _, _, _, 0, _, .no _, e => by simp at e
  | _, _, _, i + 1, s, .no h, e => by
    obtain ⟨v, G, e1, r, q⟩ := Slots.get (i := i) (s := s) h (by simpa using e)
    exact ⟨v, G, by simpa using e1, r, q⟩
  | _, _, _, 0, _, .so h0 h _, e => by
    simp at e; subst e
    exact ⟨_, _, rfl, h, fun _ z => List.mem_append_left _ z, h0⟩
  | _, _, _, i + 1, s, .so _ _ h, e => by
    obtain ⟨v, G, e1, r, q, p⟩ := Slots.get (i := i) (s := s) h (by simpa using e)
    exact ⟨v, G, by simpa using e1, r, fun b z => List.mem_append_right _ (q b z), p⟩
theorem Slots.at_ {L0 : List Addr} : ∀ {σ : St} {ρ : Env} {F : List Addr} {i : Nat}, Slots K N L0 H σ ρ F → i < ρ.length →
    ∃ F1 G F2, F = F1 ++ (G ++ F2) ∧ (∀ s, ρ[i]? = some (some s) → ∃ v, σ[i]? = some (some v) ∧ (∀ k, s.pn = some k → v = .ref (N.p k)) ∧ Rp K (SR N L0 s.al false) H s.l v s.d G) ∧
      ∀ {L1 : List Addr} {H1 : Hp} {v : V} {s : Sv} {G' : List Addr}, (∀ al, Keeps (SR N L0 al false) (F1 ++ F2) H H1) → (∀ a, a ∉ L0 → H a ≠ none → a ∉ L1) → (∀ k, s.pn = some k → v = .ref (N.p k)) → Rp K (SR N L1 s.al false) H1 s.l v s.d G' → Slots K N L1 H1 (σ.set i (some v)) (ρ.set i (some s)) (F1 ++ (G' ++ F2))
  | _, _, _, _, .nil, h => absurd h (Nat.not_lt_zero _)
  | _, _, F, 0, .no h, _ => ⟨[], [], F, rfl, fun s e => by simp at e, fun {L1 H1 v s G'} k g p r => Slots.so (F := G') p r (h.move g k)⟩
  | _, _, _, 0, .so (F := F) (G := G) h0 h1 h, _ => ⟨[], F, G, rfl, fun s e => by simp at e; subst e; exact ⟨_, rfl, h0, h1⟩, fun {L1 H1 v s G'} k g p r => Slots.so (F := G') p r (h.move g k)⟩
  | _, _, _, i + 1, .no h, hl => by
    obtain ⟨F1, G, F2, e, q, p⟩ := Slots.at_ (i := i) h (by simpa using hl)
    exact ⟨F1, G, F2, e, fun s z => by simpa using q s (by simpa using z), fun {L1 H1 v s G'} k g pp r => .no (p k g pp r)⟩
  | _, _, _, i + 1, .so (F := F) h0 h1 h, hl => by
    obtain ⟨F1, G, F2, e, q, p⟩ := Slots.at_ (i := i) h (by simpa using hl)
    refine ⟨F ++ F1, G, F2, by rw [e, List.append_assoc], fun s z => by simpa using q s (by simpa using z), fun {L1 H1 v s G'} k g pp r => ?_⟩
    rw [List.append_assoc]
    refine .so h0 ?_ (p (fun al => (k al).sub fun a z => ?_) g pp r)
    · exact (h1.trk.keep (fun b o e q => k _ b o e (q.imp (fun z => z.1) (fun z => z.imp (fun y => by simp [y]) id)))).mono fun a z => ⟨z.1.1, fun _ => g a (z.1.2 rfl) z.2⟩
    · rcases List.mem_append.mp z with z | z <;> simp [z]
theorem Sim.set {i : Nat} {v : V} {r : Sv} {G : List Addr} (s : Sim K N H0 ρ σ H L) (pp : ∀ k, r.pn = some k → v = .ref (N.p k)) (sm : Same H H') (new : ∀ a ∈ G, H a = none) (nd : G.Nodup) (rp : Rp K (fun a => SR N L r.al false a ∧ a ∉ G) H' r.l v r.d G) (hi : i < ρ.length) :
    ∃ L', Sim K N H0 (ρ.set i (some r)) (σ.set i (some v)) H' L' ∧ ∀ a ∈ L', a ∈ L ∨ a ∈ G := by
  obtain ⟨F1, G0, F2, e, _, p⟩ := s.sl.at_ hi
  have hnd := s.nd
  rw [e] at hnd
  have sub : ∀ a, a ∈ F1 ++ (G ++ F2) → a ∈ L ∨ a ∈ G := fun a z => by
    rw [e]
    rcases List.mem_append.mp z with z | z
    · exact .inl (by simp [z])
    · rcases List.mem_append.mp z with z | z
      · exact .inr z
      · exact .inl (by simp [z])
  have q := p (L1 := F1 ++ (G ++ F2)) (H1 := H') (v := v) (s := r) (G' := G) (fun al => .same sm) (fun a z t m => (sub a m).elim z fun y => t (new a y)) pp (rp.mono fun a z => ⟨z.1.1, fun m y => (sub a y).elim (z.1.2 rfl) z.2⟩)
  refine ⟨F1 ++ (G ++ F2), ⟨fun b o e n => sm b o (s.kp b o e n), fun b z => s.nw b (sm.free z), ?_, fun a z => ?_, fun a z => ?_, q⟩, sub⟩
  · rw [List.nodup_append] at hnd ⊢
    obtain ⟨n1, n2, n3⟩ := hnd
    rw [List.nodup_append] at n2 ⊢
    have inL : ∀ a, a ∈ F1 ∨ a ∈ F2 → H a ≠ none := fun a z => s.th a (by rw [e]; rcases z with z | z <;> simp [z])
    refine ⟨n1, ⟨nd, n2.2.1, fun a ha b hb z => inL b (.inr hb) (z ▸ new a ha)⟩, fun a ha b hb z => ?_⟩
    rcases List.mem_append.mp hb with hb | hb
    · exact inL a (.inl ha) (z ▸ new b hb)
    · exact n3 a ha b (by simp [hb]) z
  · rcases sub a z with z | z
    · exact s.ln a z
    · exact s.nw a (new a z)
  · rcases sub a z with z | z
    · exact mut_same (s.mu a z) sm
    · exact rp.own_mut a z
def frz (i : Nat) (ρ : Env) : Env := match ρ[i]? with
  | some (some s) => ρ.set i (some ⟨s.d, .shr, s.al, none⟩)
  | _ => ρ
theorem Sim.frz (i : Nat) (s : Sim K N H0 ρ σ H L) : ∃ L', Sim K N H0 (frz i ρ) σ H L' ∧ ∀ a ∈ L', a ∈ L := by
  unfold Ev.frz
  split
  · rename_i sv e
    have hi : i < ρ.length := (List.getElem?_eq_some_iff.mp e).1
    obtain ⟨F1, G, F2, e1, q, p⟩ := s.sl.at_ hi
    obtain ⟨v, ev, _, rp⟩ := q sv e
    have hnd := s.nd
    rw [e1] at hnd
    have sub : ∀ a, a ∈ F1 ++ ([] ++ F2) → a ∈ L := fun a z => by
      rw [e1]
      rcases List.mem_append.mp z with z | z
      · simp [z]
      · simp at z; simp [z]
    rw [List.nodup_append] at hnd
    obtain ⟨n1, n2, n3⟩ := hnd
    rw [List.nodup_append] at n2
    have out : ∀ a ∈ G, a ∉ F1 ++ ([] ++ F2) := fun a ha z => by
      rcases List.mem_append.mp z with z | z
      · exact n3 a z a (by simp [ha]) rfl
      · simp at z
        exact n2.2.2 a ha a z rfl
    have rp' : Rp K (SR N (F1 ++ ([] ++ F2)) sv.al false) H .shr v sv.d [] := rp.give (fun a z => ⟨z.1, fun m y => z.2 rfl (sub a y)⟩) fun a ha => ⟨.new (s.ln a (by rw [e1]; simp [ha])), fun _ => out a ha⟩
    have z := p (L1 := F1 ++ ([] ++ F2)) (H1 := H) (v := v) (s := ⟨sv.d, .shr, sv.al, none⟩) (G' := []) (fun al => .same (Same.refl H)) (fun a z _ m => z (sub a m)) (fun _ z => nomatch z) rp'
    have eσ : σ.set i (some v) = σ := by
      obtain ⟨h1, h2⟩ := List.getElem?_eq_some_iff.mp ev
      rw [← h2, List.set_getElem_self]
    rw [eσ] at z
    refine ⟨F1 ++ ([] ++ F2), ⟨s.kp, s.nw, ?_, fun a z => s.ln a (sub a z), fun a z => s.mu a (sub a z), z⟩, sub⟩
    rw [List.nodup_append]
    refine ⟨n1, by simpa using n2.2.1, fun a ha b hb => ?_⟩
    simp at hb
    exact n3 a ha b (by simp [hb])
  · exact ⟨L, s, fun _ z => z⟩
def frzs : List Nat → Env → Env
  | [], ρ => ρ
  | i :: is, ρ => frzs is (frz i ρ)
theorem Sim.frzs : ∀ (is : List Nat) {ρ : Env} {L : List Addr}, Sim K N H0 ρ σ H L → ∃ L', Sim K N H0 (frzs is ρ) σ H L' ∧ ∀ a ∈ L', a ∈ L
  | [], _, L, s => ⟨L, s, fun _ z => z⟩
  | i :: is, _, _, s => let ⟨_, s', h⟩ := s.frz i; let ⟨L2, s2, h2⟩ := Sim.frzs is s'; ⟨L2, s2, fun a z => h a (h2 a z)⟩
structure SimH (K : PySem.W.Frag) (N : Nw) (H0 : Hp) (ρ : Env) (σ : St) (H : Hp) (L W : List Addr) : Prop where
  kp : ∀ b o, H0 b = some o → ¬ N b → H b = some o
  nw : ∀ b, H b = none → N b
  nd : W.Nodup
  ln : ∀ a ∈ W, N a
  mu : ∀ a ∈ W, Mut (H a)
  sl : Slots K N W H σ ρ L
  sub : ∀ a ∈ L, a ∈ W
  ndl : L.Nodup
theorem SimH.th {W : List Addr} (s : SimH K N H0 ρ σ H L W) : ∀ a ∈ W, H a ≠ none := fun a z => mut_ne (s.mu a z)
theorem Sim.h (s : Sim K N H0 ρ σ H L) : SimH K N H0 ρ σ H L L := ⟨s.kp, s.nw, s.nd, s.ln, s.mu, s.sl, fun _ z => z, s.nd⟩
theorem SimH.sim {W : List Addr} (s : SimH K N H0 ρ σ H L W) : Sim K N H0 ρ σ H L := ⟨s.kp, s.nw, s.ndl, fun a z => s.ln a (s.sub a z), fun a z => s.mu a (s.sub a z), s.sl.mono fun a z m => z (s.sub a m)⟩
theorem SimH.same {W : List Addr} (s : SimH K N H0 ρ σ H L W) (h : Same H H') : SimH K N H0 ρ σ H' L W where
  kp := fun b o e n => h b o (s.kp b o e n)
  nw := fun b e => s.nw b (h.free e)
  nd := s.nd
  ln := s.ln
  mu := fun a ha => mut_same (s.mu a ha) h
  sl := s.sl.keep fun _ => .same h
  sub := s.sub
  ndl := s.ndl
theorem SimH.hold {W F : List Addr} (s : SimH K N H0 ρ σ H L W) (h : Same H H') (new : ∀ a ∈ F, H a = none) (nd : F.Nodup) (th : ∀ a ∈ F, Mut (H' a)) : SimH K N H0 ρ σ H' L (W ++ F) where
  kp := fun b o e n => h b o (s.kp b o e n)
  nw := fun b e => s.nw b (h.free e)
  nd := by
    rw [List.nodup_append]
    exact ⟨s.nd, nd, fun a ha b hb e => s.th a ha (e ▸ new b hb)⟩
  ln := fun a z => (List.mem_append.mp z).elim (s.ln a) fun z => s.nw a (new a z)
  mu := fun a z => (List.mem_append.mp z).elim (fun z => mut_same (s.mu a z) h) fun z => th a z
  sl := s.sl.move (fun a z t m => (List.mem_append.mp m).elim z fun m => t (new a m)) fun _ => .same h
  sub := fun a z => List.mem_append_left _ (s.sub a z)
  ndl := s.ndl
theorem SimH.set0 {W : List Addr} {i : Nat} {v : V} {r : Sv} (s : SimH K N H0 ρ σ H L W) (pp : ∀ k, r.pn = some k → v = .ref (N.p k)) (rp : Rp K (SR N W r.al false) H r.l v r.d []) (hi : i < ρ.length) :
    ∃ L', SimH K N H0 (ρ.set i (some r)) (σ.set i (some v)) H L' W ∧ ∀ a ∈ L', a ∈ L := by
  obtain ⟨F1, G0, F2, e, _, p⟩ := s.sl.at_ hi
  have hnd := s.ndl
  rw [e] at hnd
  have sub : ∀ a, a ∈ F1 ++ ([] ++ F2) → a ∈ L := fun a z => by
    rw [e]
    rcases List.mem_append.mp z with z | z
    · simp [z]
    · simp at z; simp [z]
  refine ⟨F1 ++ ([] ++ F2), ⟨s.kp, s.nw, s.nd, s.ln, s.mu, p (fun al => .same (Same.refl H)) (fun a z _ => z) pp rp, fun a z => s.sub a (sub a z), ?_⟩, sub⟩
  rw [List.nodup_append] at hnd ⊢
  rw [List.nodup_append] at hnd
  exact ⟨hnd.1, by simpa using hnd.2.1.2.1, fun a ha b hb => hnd.2.2 a ha b (by simp at hb; simp [hb])⟩
theorem Slots.drop1 {L0 : List Addr} : ∀ {σ : St} {ρ : Env} {F : List Addr} (i : Nat), Slots K N L0 H σ ρ F → ∃ F', Slots K N L0 H (σ.set i none) (ρ.set i none) F' ∧ F'.Sublist F
  | _, _, _, i, .nil => ⟨[], by cases i <;> exact .nil, List.Sublist.refl _⟩
  | _, _, F, 0, .no h => ⟨F, .no h, List.Sublist.refl _⟩
  | _, _, _, 0, .so (F := F) (G := G) _ h1 h => ⟨G, .no h, List.sublist_append_right F G⟩
  | _, _, _, i + 1, .no h => let ⟨F', s, q⟩ := Slots.drop1 i h; ⟨F', .no s, q⟩
  | _, _, _, i + 1, .so (F := F) h0 h1 h => let ⟨F', s, q⟩ := Slots.drop1 i h; ⟨F ++ F', .so h0 h1 s, List.Sublist.append (List.Sublist.refl F) q⟩
theorem SimH.drop1 {W : List Addr} (i : Nat) (s : SimH K N H0 ρ σ H L W) : ∃ L', SimH K N H0 (ρ.set i none) (σ.set i none) H L' W ∧ ∀ a ∈ L', a ∈ L := by
  obtain ⟨F', h, q⟩ := s.sl.drop1 i
  exact ⟨F', ⟨s.kp, s.nw, s.nd, s.ln, s.mu, h, fun a z => s.sub a (q.subset z), q.nodup s.ndl⟩, fun a z => q.subset z⟩
end
def wipeE : List Nat → Env → Env
  | [], ρ => ρ
  | i :: is, ρ => (wipeE is ρ).set i none
end Ev
set_option Elab.async false
set_option linter.all false
set_option maxRecDepth 100000
namespace Ev
open PySem PySem.Spec L2
open PyProof.Rows hiding St
abbrev EvE := Env → Option Rv
abbrev EvT := Env → Option Bool
abbrev EvA := Env → Option (List Rv)
def Post (K : PySem.W.Frag) (N : Nw) (L : List Addr) (H : Hp) (r : Rv) (Q : VK) : Prop :=
  ∀ v H' F, Same H H' → (∀ a ∈ F, H a = none) → F.Nodup → Rp K (fun a => SR N L r.al r.vw a ∧ a ∉ F) H' r.l v r.d F → Q v H'
def tE (K : PySem.W.Frag) (f : EvE) : TE := fun σ H Q => ∃ N H0 ρ L W r, SimH K N H0 ρ σ H L W ∧ f ρ = some r ∧ Post K N W H r Q
def tT (K : PySem.W.Frag) (f : EvT) : TT := fun σ H Q => ∃ N H0 ρ L W b, SimH K N H0 ρ σ H L W ∧ f ρ = some b ∧ ∀ H', Same H H' → Q b H'
abbrev PEv (X : Cx) (e : Expr) (f : EvE) : Prop := PE X e (tE X.K f)
abbrev PTv (X : Cx) (e : Expr) (f : EvT) : Prop := PT X e (tT X.K f)
abbrev PWv (X : Cx) (e : Expr) (f : EvT) : Prop := PW X e (tT X.K f)
theorem imp_e {X : Cx} {e : Expr} {t t' : TE} (h : PE X e t) (i : ∀ σ H Q, t' σ H Q → t σ H Q) : PE X e t' := ⟨fun p s σ H Q I w => h.run p s σ H Q I (i σ H Q w)⟩
theorem imp_t {X : Cx} {e : Expr} {t t' : TT} (h : PT X e t) (i : ∀ σ H Q, t' σ H Q → t σ H Q) : PT X e t' := ⟨fun p s σ H Q I w => h.run p s σ H Q I (i σ H Q w)⟩
theorem imp_w {X : Cx} {e : Expr} {t t' : TT} (h : PW X e t) (i : ∀ σ H Q, t' σ H Q → t σ H Q) : PW X e t' := ⟨fun wh p s σ H Q I w => h.run wh p s σ H Q I (i σ H Q w)⟩
def rA (d : D) : Rv := ⟨d, .full, false, false⟩
abbrev rI (i : Int) : Rv := rA (.int i)
abbrev rB (b : Bool) : Rv := rA (.bl b)
theorem bind_some {α β : Type} {x : Option α} {f : α → Option β} {b : β} (h : x.bind f = some b) : ∃ a, x = some a ∧ f a = some b := by
  cases x with
  | none => cases h
  | some a => exact ⟨a, rfl, h⟩
section
variable {K : PySem.W.Frag} {N : Nw} {H0 H H' : Hp} {ρ : Env} {σ : St} {L : List Addr} {Q : VK}
theorem Post.atom {v : V} {d : D} (p : Post K N L H (rA d) Q) (s : Same H H') (r : ∀ S, Rp K S H' .full v d []) : Q v H' := p v H' [] s (fun _ z => nomatch z) .nil (r _)
theorem Post.int {i : Int} (p : Post K N L H (rI i) Q) (s : Same H H') : Q (.int i) H' := p.atom s fun _ => .int
theorem Post.bl {i : Bool} (p : Post K N L H (rB i) Q) (s : Same H H') : Q (.bl i) H' := p.atom s fun _ => .bl
theorem same_upd {p : Addr} {o : HO} (h : H p = none) : Same H (upd H p o) := fun b x e => by
  rw [upd_ne (ne_of_none e h)]
  exact e
theorem one {W : List Addr} {fa : EvE} {x : Rv} {R : V → Hp → Prop} (sim : SimH K N H0 ρ σ H L W) (e1 : fa ρ = some x)
    (k : ∀ v H1 F, Same H H1 → (∀ a ∈ F, H a = none) → F.Nodup → Rp K (fun a => SR N W x.al x.vw a ∧ a ∉ F) H1 x.l v x.d F → R v H1) : tE K fa σ H R :=
  ⟨N, H0, ρ, L, W, x, sim, e1, fun v H1 F s n nd p => k v H1 F s n nd p⟩
theorem two {W : List Addr} {fa fb : EvE} {x y : Rv} {R : V → V → Hp → Prop} (sim : SimH K N H0 ρ σ H L W) (e1 : fa ρ = some x) (e2 : fb ρ = some y)
    (k : ∀ v w H2 F G, Same H H2 → (∀ a ∈ F, H a = none) → (∀ a ∈ G, H a = none) → F.Nodup → G.Nodup → (∀ a ∈ F, a ∉ G) → Rp K (fun a => SR N W x.al x.vw a ∧ a ∉ F ∧ a ∉ G) H2 x.l v x.d F → Rp K (fun a => SR N (W ++ F) y.al y.vw a ∧ a ∉ G) H2 y.l w y.d G → R v w H2) :
    tE K fa σ H fun v H1 => tE K fb σ H1 fun w H2 => R v w H2 :=
  one sim e1 fun v H1 F s1 n1 d1 p1 => one (sim.hold s1 n1 d1 p1.own_mut) e2 fun w H2 G s2 n2 d2 p2 =>
    k v w H2 F G (s1.trans s2) n1 (fun a z => s1.free (n2 a z)) d1 d2 (fun a z m => p1.own_trk a z (n2 a m)) ((p1.trk.same s2).mono fun a z => ⟨z.1.1, z.1.2, fun m => z.2 (n2 a m)⟩) p2
end
def eName (i : Nat) : EvE := fun ρ => match ρ[i]? with
  | some (some s) => some (if imm s.d then rA s.d else ⟨s.d, .shr, s.al, decide (s.l ≠ .shr)⟩)
  | _ => none
section
variable {X : Cx}
theorem e_name (i : Nat) {x : Str} {pos : Pos} (hN : X.N[i]? = some x := by rfl) (hv : Vis X.env.scope x := by first | exact Or.inl rfl | exact Or.inr (Or.inl rfl) | exact Or.inr (Or.inr rfl)) (hd : (x == ("__debug__" : Str)) = false := by decide)
    (hcd : (x == ("__classdict__" : Str)) = false := by decide) : PEv X (.Name x pos) (eName i) := by
  refine imp_e (pe_var hN hv hd hcd) fun σ H Q h => ?_
  obtain ⟨N, H0, ρ, L, W, r, sim, e, q⟩ := h
  unfold eName at e
  split at e
  · rename_i s es
    obtain ⟨v, G, ev, rp, sub, _⟩ := sim.sl.get es
    refine ⟨v, ev, ?_⟩
    cases hi : imm s.d with
    | true =>
      rw [hi, if_pos rfl] at e
      cases e
      exact q.atom (Same.refl H) fun S => (rp.of_imm hi).2
    | false =>
      rw [hi, if_neg Bool.false_ne_true] at e
      cases e
      refine q v H [] (Same.refl H) (fun _ z => nomatch z) .nil (rp.give (fun a z => ⟨⟨z.1, fun _ => z.2 rfl⟩, fun m => nomatch m⟩) fun a z => ⟨⟨.new (sim.ln a (sim.sub a (sub a z))), fun hvw => ?_⟩, fun m => nomatch m⟩)
      have hl : s.l = .shr := by simpa using hvw
      rw [hl] at rp
      rw [rp.shr0] at z
      cases z
  · cases e
def eC (d : D) : EvE := fun _ => some (rA d)
theorem e_int {i j pos} : PEv X (.Constant (.int i) j pos) (eC (.int i)) := imp_e pe_int fun _ H Q ⟨_, _, _, _, _, _, _, e, q⟩ => by cases e; exact q.int (Same.refl H)
theorem e_bl {b j pos} : PEv X (.Constant (.bool b) j pos) (eC (.bl b)) := imp_e pe_bl fun _ H Q ⟨_, _, _, _, _, _, _, e, q⟩ => by cases e; exact q.bl (Same.refl H)
theorem e_str {x j pos} : PEv X (.Constant (.str x) j pos) (eC (.str x)) := imp_e pe_str fun _ H Q ⟨_, _, _, _, _, _, _, e, q⟩ => by cases e; exact q.atom (Same.refl H) fun _ => .str
def eOp (C : Int → Int → Bool) (g : Int → Int → D) (fa fb : EvE) : EvE := fun ρ => (fa ρ).bind fun x => (fb ρ).bind fun y => match x.d, y.d with
  | .int i, .int j => if C i j = true then some (rA (g i j)) else none
  | _, _ => none
variable {a b c e : Expr} {fa fb fc fe : EvE} {pos : Pos}
theorem eOp_some {C : Int → Int → Bool} {g : Int → Int → D} {ρ : Env} {r : Rv} (h : eOp C g fa fb ρ = some r) : ∃ x y i j, fa ρ = some x ∧ fb ρ = some y ∧ x.d = .int i ∧ y.d = .int j ∧ C i j = true ∧ r = rA (g i j) := by
  unfold eOp at h
  obtain ⟨x, e1, h⟩ := bind_some h
  obtain ⟨y, e2, h⟩ := bind_some h
  split at h
  · rename_i i j d1 d2
    split at h
    · rename_i hc
      cases h
      exact ⟨x, y, i, j, e1, e2, d1, d2, hc, rfl⟩
    · cases h
  · cases h
theorem e_opI {op : Operator} {P : Int → Int → Prop} {C : Int → Int → Bool} {g : Int → Int → Int} (ho : OpR X (binaryOp op) (L2.rI P fun i j => .int (g i j))) (hP : ∀ i j, C i j = true → P i j) (ha : PEv X a fa) (hb : PEv X b fb) :
    PEv X (.BinOp a op b pos) (eOp C (fun i j => .int (g i j)) fa fb) := by
  refine imp_e (pe_op ho ha hb) fun σ H Q ⟨N, H0, ρ, L, W, r, sim, e, q⟩ => ?_
  obtain ⟨x, y, i, j, e1, e2, d1, d2, hc, rfl⟩ := eOp_some e
  refine two sim e1 e2 fun v w H2 F G s _ _ _ _ _ p1 p2 => ?_
  rw [d1] at p1
  rw [d2] at p2
  obtain ⟨rfl, _⟩ := p1.int_inv
  obtain ⟨rfl, _⟩ := p2.int_inv
  exact ⟨i, j, rfl, rfl, hP _ _ hc, q.int s⟩
abbrev cT : Int → Int → Bool := fun _ _ => true
theorem rI_of {g : Int → Int → V} {f : Value → Value → Sem Value} (h : OpR X f (L2.rI0 g)) : OpR X f (L2.rI (fun _ _ => True) g) := fun pins s σ H x y v u Q I r1 r2 ⟨i, j, e1, e2, _, q⟩ => h pins s σ H x y v u Q I r1 r2 ⟨i, j, e1, e2, q⟩
abbrev eAdd := eOp cT fun i j => .int (i + j)
abbrev eSub := eOp cT fun i j => .int (i - j)
abbrev eDiv := eOp (fun i j => decide (0 < j ∧ j.natAbs.log2 < 9000)) fun i j => .int (i / j)
abbrev eMod := eOp (fun i j => decide (0 < j)) fun i j => .int (i % j)
theorem e_sub (ha : PEv X a fa) (hb : PEv X b fb) : PEv X (.BinOp a .Sub b pos) (eSub fa fb) := e_opI (rI_of op_sub) (fun _ _ _ => trivial) ha hb
theorem e_div (ha : PEv X a fa) (hb : PEv X b fb) : PEv X (.BinOp a .FloorDiv b pos) (eDiv fa fb) := e_opI op_fdivW (fun i j h => (of_decide_eq_true h : 0 < j ∧ j.natAbs.log2 < 9000)) ha hb
theorem e_mod (ha : PEv X a fa) (hb : PEv X b fb) : PEv X (.BinOp a .Mod b pos) (eMod fa fb) := e_opI op_mod (fun _ _ h => of_decide_eq_true h) ha hb
def eNeg (fa : EvE) : EvE := fun ρ => (fa ρ).bind fun x => match x.d with
  | .int i => some (rI (-i))
  | _ => none
theorem e_neg (ha : PEv X a fa) : PEv X (.UnaryOp .USub a pos) (eNeg fa) := by
  refine imp_e (pe_un un_neg ha) fun σ H Q ⟨N, H0, ρ, L, W, r, sim, e, q⟩ => ?_
  unfold eNeg at e
  obtain ⟨x, e1, e⟩ := bind_some e
  split at e
  · rename_i i d1
    cases e
    refine one sim e1 fun v H1 F s _ _ p => ?_
    rw [d1] at p
    obtain ⟨rfl, _⟩ := p.int_inv
    exact ⟨i, rfl, q.int s⟩
  · cases e
def eCmp (g : D → D → Option Bool) (fa fb : EvE) : EvE := fun ρ => (fa ρ).bind fun x => (fb ρ).bind fun y => (g x.d y.d).map rB
def CmpOk (X : Cx) (op : CmpOp) (g : D → D → Option Bool) : Prop :=
  ∃ r : R2, OpR X (compareOp op) r ∧ ∀ (S S' : Addr → Prop) (H : Hp) (l l' : Lv) (v w : V) (d e : D) (F G : List Addr) (b : Bool) (Q : VK), Rp X.K S H l v d F → Rp X.K S' H l' w e G → g d e = some b → Q (.bl b) H → r v w H Q
theorem e_cmp {op : CmpOp} {g : D → D → Option Bool} (ho : CmpOk X op g) (ha : PEv X a fa) (hb : PEv X b fb) (hm : behindInMarks op b = false := by first | exact nomark _ (by decide) (by decide) | rfl) : PEv X (.Compare a [op] [b] pos) (eCmp g fa fb) := by
  obtain ⟨r, ho, hr⟩ := ho
  refine imp_e (pe_cmpR ho ha hb hm) fun σ H Q ⟨N, H0, ρ, L, W, rr, sim, e, q⟩ => ?_
  unfold eCmp at e
  obtain ⟨x, e1, e⟩ := bind_some e
  obtain ⟨y, e2, e⟩ := bind_some e
  obtain ⟨k, ek, e⟩ := Option.map_eq_some_iff.mp e
  subst e
  exact two sim e1 e2 fun v w H2 F G s _ _ _ _ _ p1 p2 => hr _ _ _ _ _ _ _ _ _ _ _ _ _ p1 p2 ek (q.bl s)
def tCmp (g : D → D → Option Bool) (fa fb : EvE) : EvT := fun ρ => (fa ρ).bind fun x => (fb ρ).bind fun y => g x.d y.d
theorem t_cmp {op : CmpOp} {g : D → D → Option Bool} (ho : CmpOk X op g) (ha : PEv X a fa) (hb : PEv X b fb) (hm : behindInMarks op b = false := by first | exact nomark _ (by decide) (by decide) | rfl) : PTv X (.Compare a [op] [b] pos) (tCmp g fa fb) := by
  obtain ⟨r, ho, hr⟩ := ho
  refine imp_t (pt_cmpR ho ha hb hm) fun σ H Q ⟨N, H0, ρ, L, W, k, sim, e, q⟩ => ?_
  unfold Ev.tCmp at e
  obtain ⟨x, e1, e⟩ := bind_some e
  obtain ⟨y, e2, e⟩ := bind_some e
  exact two sim e1 e2 fun v w H2 F G s _ _ _ _ _ p1 p2 => hr _ _ _ _ _ _ _ _ _ _ _ _ _ p1 p2 e ⟨k, rfl, q _ s⟩
def gI (p : Int → Int → Bool) : D → D → Option Bool
  | .int i, .int j => some (p i j)
  | _, _ => none
theorem gI_some {p : Int → Int → Bool} {d e : D} {b : Bool} (h : gI p d e = some b) : ∃ i j, d = .int i ∧ e = .int j ∧ b = p i j := by
  unfold gI at h
  split at h
  · cases h; exact ⟨_, _, rfl, rfl, rfl⟩
  · cases h
theorem cmpI {op : CmpOp} {p : Int → Int → Bool} (ho : OpR X (compareOp op) (L2.rI0 fun i j => .bl (p i j))) : CmpOk X op (gI p) :=
  ⟨_, ho, fun S S' H l l' v w d e F G b Q p1 p2 h q => by
    obtain ⟨i, j, rfl, rfl, rfl⟩ := gI_some h
    obtain ⟨rfl, _⟩ := p1.int_inv
    obtain ⟨rfl, _⟩ := p2.int_inv
    exact ⟨i, j, rfl, rfl, q⟩⟩
theorem CmpOk.or {op : CmpOp} {g g' : D → D → Option Bool} (h : CmpOk X op g) (h' : CmpOk X op g') : CmpOk X op (fun d e => (g d e).or (g' d e)) := by
  obtain ⟨r, ho, hr⟩ := h
  obtain ⟨r', ho', hr'⟩ := h'
  refine ⟨_, ho.or ho', fun S S' H l l' v w d e F G b Q p1 p2 h q => ?_⟩
  have h : (g d e).or (g' d e) = some b := h
  cases hg : g d e with
  | some k =>
    rw [hg] at h
    cases h
    exact .inl (hr _ _ _ _ _ _ _ _ _ _ _ _ _ p1 p2 hg q)
  | none =>
    rw [hg] at h
    exact .inr (hr' _ _ _ _ _ _ _ _ _ _ _ _ _ p1 p2 h q)
theorem CmpOk.imp {op : CmpOp} {g g' : D → D → Option Bool} (h : CmpOk X op g) (i : ∀ d e b, g' d e = some b → g d e = some b) : CmpOk X op g' := by
  obtain ⟨r, ho, hr⟩ := h
  exact ⟨r, ho, fun S S' H l l' v w d e F G b Q p1 p2 h q => hr _ _ _ _ _ _ _ _ _ _ _ _ _ p1 p2 (i _ _ _ h) q⟩
end
mutual
def pd : D → PyData
  | .non => .none | .bl b => .bool b | .int i => .int i | .str x => .str x
  | .tup xs => .tuple (pds xs) | .lst xs => .list (pds xs) | .fl xs => .list (pds xs)
  | _ => .dict []
def pds : List D → List PyData
  | [] => []
  | d :: ds => pd d :: pds ds
end
mutual

def shp (n : Nat) : D → Bool
  | .non => true | .bl _ => true | .int _ => true | .str x => PyData.strOk x
  | .tup xs => (match n with | 0 => false | m + 1 => shps m xs)
  | .lst xs => (match n with | 0 => false | m + 1 => shps m xs)
  | .fl xs => (match n with | 0 => false | m + 1 => shps m xs)
  | _ => false
def shps (n : Nat) : List D → Bool
  | [] => true
  | d :: ds => shp n d && shps n ds
end
theorem pds_map : ∀ ds : List D, pds ds = ds.map pd
  | [] => rfl
  | d :: ds => by rw [pds, pds_map ds]; rfl
theorem immAll_all : ∀ ds : List D, immAll ds = ds.all imm
  | [] => rfl
  | d :: ds => by rw [immAll, immAll_all ds]; rfl
mutual
theorem shp_ok : ∀ (n : Nat) (d : D), shp n d = true → (pd d).canLay0 = true ∧ (pd d).depth ≤ n
  | _, .non, _ => ⟨rfl, Nat.zero_le _⟩
  | _, .bl _, _ => ⟨rfl, Nat.zero_le _⟩
  | _, .int _, _ => ⟨rfl, Nat.zero_le _⟩
  | _, .str x, h => ⟨by simpa only [shp, pd, PyData.canLay0] using h, Nat.zero_le _⟩
  | 0, .tup xs, h => by simp only [shp] at h; cases h
  | 0, .lst xs, h => by simp only [shp] at h; cases h
  | 0, .fl xs, h => by simp only [shp] at h; cases h
  | n + 1, .tup xs, h => by
    simp only [shp] at h
    obtain ⟨h1, h2⟩ := shps_ok n xs h
    exact ⟨by simpa only [pd, PyData.canLay0] using h1, by simpa only [pd, PyData.depth] using Nat.succ_le_succ h2⟩
  | n + 1, .lst xs, h => by
    simp only [shp] at h
    obtain ⟨h1, h2⟩ := shps_ok n xs h
    exact ⟨by simpa only [pd, PyData.canLay0] using h1, by simpa only [pd, PyData.depth] using Nat.succ_le_succ h2⟩
  | n + 1, .fl xs, h => by
    simp only [shp] at h
    obtain ⟨h1, h2⟩ := shps_ok n xs h
    exact ⟨by simpa only [pd, PyData.canLay0] using h1, by simpa only [pd, PyData.depth] using Nat.succ_le_succ h2⟩
  | _, .dk _, h => by simp only [shp] at h; cases h
  | _, .dt _, h => by simp only [shp] at h; cases h
  | _, .ins _ _, h => by simp only [shp] at h; cases h
  | _, .obj _ _ _, h => by simp only [shp] at h; cases h
theorem shps_ok : ∀ (n : Nat) (ds : List D), shps n ds = true → PyData.canLayAll0 (pds ds) = true ∧ PyData.depthAll (pds ds) ≤ n
  | _, [], _ => ⟨rfl, Nat.zero_le _⟩
  | n, d :: ds, h => by
    simp only [shps, Bool.and_eq_true] at h
    obtain ⟨a1, a2⟩ := shp_ok n d h.1
    obtain ⟨b1, b2⟩ := shps_ok n ds h.2
    refine ⟨by simp only [pds, PyData.canLayAll0, a1, b1, Bool.and_self], ?_⟩
    simp only [pds, PyData.depthAll]
    exact Nat.max_le.mpr ⟨a2, b2⟩
end
theorem shaped_of {d : D} (h : shp 8 d = true) : SeqAt.shaped (pd d) = true := by
  obtain ⟨h1, h2⟩ := shp_ok 8 d h
  unfold SeqAt.shaped
  rw [h1, decide_eq_true (Nat.le_trans h2 (by decide))]
  rfl
section
variable {K : PySem.W.Frag} {S : Addr → Prop} {H : Hp}
mutual
theorem Rp.dp : ∀ {l : Lv} {v : V} {d : D} {F : List Addr} {n : Nat}, Rp K S H l v d F → shp n d = true → Dp K H v (pd d)
  | _, _, _, _, _, .non, _ => by simp only [pd]; exact .non
  | _, _, _, _, _, .bl, _ => by simp only [pd]; exact .bl _
  | _, _, _, _, _, .int, _ => by simp only [pd]; exact .int _
  | _, _, _, _, _, .str, _ => by simp only [pd]; exact .str _
  | _, _, _, _, 0, .tup h1 h2, h => by simp only [shp] at h; cases h
  | _, _, _, _, n + 1, .tup h1 h2, h => by simp only [shp] at h; simp only [pd]; exact .tup (SqT.of h1) (Rps.dp h2 h)
  | _, _, _, _, 0, .fl h1 h2, h => by simp only [shp] at h; cases h
  | _, _, _, _, n + 1, .fl h1 h2, h => by simp only [shp] at h; simp only [pd]; exact .lst h1.sq (Rps.dp h2 h)
  | _, _, _, _, 0, .nd0 hn _ _ _, h => by cases hn <;> (simp only [shp] at h; cases h)
  | _, _, _, _, n + 1, .nd0 hn h1 _ h3, h => by
    cases hn with
    | lst => simp only [shp] at h; simp only [pd]; exact .lst (SqL.of h1.lst) (Rps.dp h3 h)
    | _ => simp only [shp] at h; cases h
  | _, _, _, _, 0, .nd1 _ hn _ _, h => by cases hn <;> (simp only [shp] at h; cases h)
  | _, _, _, _, n + 1, .nd1 _ hn h1 h3, h => by
    cases hn with
    | lst => simp only [shp] at h; simp only [pd]; exact .lst (SqL.of h1) (Rps.dp h3 h)
    | _ => simp only [shp] at h; cases h
theorem Rps.dp : ∀ {l : Lv} {vs : List V} {ds : List D} {F : List Addr} {n : Nat}, Rps K S H l vs ds F → shps n ds = true → DpAll K H vs (pds ds)
  | _, _, _, _, _, .nil, _ => by simp only [pds]; exact .nil
  | _, _, _, _, n, .cons h1 h2, h => by
    simp only [shps, Bool.and_eq_true] at h
    simp only [pds]
    exact .cons (Rp.dp h1 h.1) (Rps.dp h2 h.2)
end
theorem Rps.ints : ∀ {l : Lv} {vs : List V} {ns : List Int} {F : List Addr}, Rps K S H l vs (ns.map .int) F → vs = ns.map V.int ∧ F = []
  | _, _, [], _, .nil => ⟨rfl, rfl⟩
  | _, _, n :: ns, _, .cons h1 h2 => by
    obtain ⟨rfl, e1⟩ := Rp.int_inv h1
    obtain ⟨e2, e3⟩ := Rps.ints h2
    rw [e1, e2, e3]
    exact ⟨rfl, rfl⟩
end
def intOf : D → Option Int
  | .int i => some i
  | _ => none
def intsOf : List D → Option (List Int)
  | [] => some []
  | d :: ds => (intOf d).bind fun i => (intsOf ds).map (i :: ·)
theorem intsOf_some : ∀ {ds : List D} {ns : List Int}, intsOf ds = some ns → ds = ns.map .int
  | [], _, h => by cases h; rfl
  | d :: ds, ns, h => by
    unfold intsOf at h
    obtain ⟨i, e1, h⟩ := bind_some h
    obtain ⟨m, e2, h⟩ := Option.map_eq_some_iff.mp h
    subst h
    rw [intsOf_some e2]
    cases d <;> first | (cases e1; rfl) | cases e1
theorem intsOf_map : ∀ ns : List Int, intsOf (ns.map .int) = some ns
  | [] => rfl
  | n :: ns => by
    show (some n).bind (fun i => (intsOf (ns.map .int)).map (i :: ·)) = _
    rw [intsOf_map ns]
    rfl
def gT (p : List Int → List Int → Bool) : D → D → Option Bool
  | .tup xs, .tup ys => (intsOf xs).bind fun ns => (intsOf ys).map fun ms => p ns ms
  | _, _ => none
theorem gT_some {p : List Int → List Int → Bool} {d e : D} {b : Bool} (h : gT p d e = some b) : ∃ ns ms : List Int, d = .tup (ns.map .int) ∧ e = .tup (ms.map .int) ∧ b = p ns ms := by
  unfold gT at h
  split at h
  · obtain ⟨ns, e1, h⟩ := bind_some h
    obtain ⟨ms, e2, h⟩ := Option.map_eq_some_iff.mp h
    rw [intsOf_some e1, intsOf_some e2]
    exact ⟨ns, ms, rfl, rfl, h.symm⟩
  · cases h
def leT (ns ms : List Int) : Bool := Ob.lexAt (fun j => decide (ns.getD j 0 = ms.getD j 0)) (fun j => decide (ns.getD j 0 ≤ ms.getD j 0)) (decide (ns.length ≤ ms.length)) 0 (min ns.length ms.length)
def geT (ns ms : List Int) : Bool := Ob.lexAt (fun j => decide (ns.getD j 0 = ms.getD j 0)) (fun j => decide (ms.getD j 0 ≤ ns.getD j 0)) (decide (ns.length ≥ ms.length)) 0 (min ns.length ms.length)
def rGeT (K : PySem.W.Frag) : R2 := fun x y H Q => ∃ (a b : Addr) (ns ms : List Int), x = .ref a ∧ y = .ref b ∧ SqT K H a (ns.map V.int) ∧ SqT K H b (ms.map V.int) ∧ Q (.bl (geT ns ms)) H
section
variable {X : Cx}
theorem op_geT (hu : X.A.units < cLine) : OpR X (compareOp .GtE) (rGeT X.K) := by
  intro pins s σ H x y v u Q I rx ry h
  obtain ⟨a, b, ns, ms, rfl, rfl, ha, hb, q⟩ := h
  cases rx
  cases ry
  obtain ⟨its, r1, p1, _⟩ := I.tuple ha
  obtain ⟨its2, r2, p2, _⟩ := I.tuple hb
  have i1 : IntsAre its ns := Vals.ints r1
  have i2 : IntsAre its2 ms := Vals.ints r2
  have e1 : its.toArray.size = ns.length := by rw [List.size_toArray]; exact i1.length
  have e2 : its2.toArray.size = ms.length := by rw [List.size_toArray]; exact i2.length
  have at1 : ∀ j (h1 : j < its.toArray.size), ∃ t, its.toArray[j] = .int (ns.getD j 0) t := fun j h1 => PyProof.Rows.IntsAre.int_at i1 _ _ (by simp at h1; simp [h1])
  have at2 : ∀ j (h1 : j < its2.toArray.size), ∃ t, its2.toArray[j] = .int (ms.getD j 0) t := fun j h1 => PyProof.Rows.IntsAre.int_at i2 _ _ (by simp at h1; simp [h1])
  have R := Ob.RcOp.tuples_ge (A := X.A) (s := s) (e := fun j => decide (ns.getD j 0 = ms.getD j 0)) (r := fun j => decide (ms.getD j 0 ≤ ns.getD j 0)) p1 p2 hu (fun j h1 h2 => by
    obtain ⟨t, et⟩ := at1 j h1
    obtain ⟨t', et'⟩ := at2 j h2
    rw [et, et']
    have z : (ns.getD j 0 == ms.getD j 0) = decide (ns.getD j 0 = ms.getD j 0) := by
      by_cases q : ns.getD j 0 = ms.getD j 0
      · rw [decide_eq_true q]; exact beq_iff_eq.mpr q
      · rw [decide_eq_false q]; exact beq_eq_false_iff_ne.mpr q
    rw [← z]
    exact SeqAt.EqAt.int_int _ _ _ _) (fun j h1 h2 _ => by
    obtain ⟨t, et⟩ := at1 j h1
    obtain ⟨t', et'⟩ := at2 j h2
    rw [et, et']
    exact Ob.RcOp.ge_int _ _ _ _)
  rw [e1, e2] at R
  have z : wpAny (model X.prog X.w) X.A (compareOp .GtE (.ref a) (.ref b)) (EP X pins σ Q) X.xe s := R X.prog X.w X.xe (EP X pins σ Q) ⟨.bl _, H, I, rfl, q⟩
  exact z
theorem cmpT {op : CmpOp} {p : List Int → List Int → Bool} (ho : OpR X (compareOp op) (fun x y H Q => ∃ (a b : Addr) (ns ms : List Int), x = .ref a ∧ y = .ref b ∧ SqT X.K H a (ns.map V.int) ∧ SqT X.K H b (ms.map V.int) ∧ Q (.bl (p ns ms)) H)) : CmpOk X op (gT p) :=
  ⟨_, ho, fun S S' H l l' v w d e F G b Q p1 p2 h q => by
    obtain ⟨ns, ms, rfl, rfl, rfl⟩ := gT_some h
    obtain ⟨a, vs, rfl, h1, r1⟩ := p1.tup_inv
    obtain ⟨a', vs', rfl, h1', r1'⟩ := p2.tup_inv
    obtain ⟨rfl, _⟩ := r1.ints
    obtain ⟨rfl, _⟩ := r1'.ints
    exact ⟨a, a', ns, ms, rfl, rfl, SqT.of h1, SqT.of h1', q⟩⟩
abbrev gLt : D → D → Option Bool := fun d e => (gI (fun i j => decide (i < j)) d e).or (gT HT.lexLt d e)
abbrev gLe : D → D → Option Bool := fun d e => (gI (fun i j => decide (i ≤ j)) d e).or (gT leT d e)
abbrev gGe : D → D → Option Bool := fun d e => (gI (fun i j => decide (j ≤ i)) d e).or (gT geT d e)
theorem c_lt (hu : X.A.units < cLine) : CmpOk X .Lt gLt := (cmpI op_lt).or (cmpT (op_ltT hu))
theorem c_le (hu : X.A.units < cLine) : CmpOk X .LtE gLe := (cmpI op_le).or (cmpT (op_leT hu))
theorem c_ge (hu : X.A.units < cLine) : CmpOk X .GtE gGe := (cmpI op_ge).or (cmpT (op_geT hu))
def deq (d e : D) : Bool := PyData.eqv (pd d) (pd e)
def gEq (d e : D) : Option Bool := if (shp 8 d && shp 8 e) = true then some (deq d e) else none
def gNe (d e : D) : Option Bool := if (shp 8 d && shp 8 e) = true then some (!deq d e) else none
theorem c_eq (hu : X.A.units + 64 < cLine) : CmpOk X .Eq gEq :=
  ⟨_, op_eqD hu, fun S S' H l l' v w d e F G b Q p1 p2 h q => by
    unfold gEq at h
    split at h
    · rename_i z
      rw [Bool.and_eq_true] at z
      cases h
      exact ⟨_, _, p1.dp z.1, p2.dp z.2, shaped_of z.1, shaped_of z.2, q⟩
    · cases h⟩
theorem c_ne (hu : X.A.units + 64 < cLine) : CmpOk X .NotEq gNe :=
  ⟨_, op_neD hu, fun S S' H l l' v w d e F G b Q p1 p2 h q => by
    unfold gNe at h
    split at h
    · rename_i z
      rw [Bool.and_eq_true] at z
      cases h
      exact ⟨_, _, p1.dp z.1, p2.dp z.2, shaped_of z.1, shaped_of z.2, q⟩
    · cases h⟩
section
variable {κ : Type} [DecidableEq κ]
def dlook (kd : List (κ × D)) (k : κ) : Option D := (kd.find? fun p => decide (p.1 = k)).map (·.2)
def dhas (kd : List (κ × D)) (k : κ) : Bool := kd.any fun p => decide (p.1 = k)
def dput (kd : List (κ × D)) (k : κ) (d : D) : List (κ × D) := if dhas kd k = true then kd.map (fun p => if p.1 = k then (p.1, d) else p) else kd ++ [(k, d)]
theorem has_keys {kv : List (κ × V)} {kd : List (κ × D)} (h : kv.map (·.1) = kd.map (·.1)) (k : κ) : (valV kv k).isSome = dhas kd k := by
  rw [← valV_any]
  show (kv.any ((fun x => decide (x = k)) ∘ fun p => p.1)) = kd.any ((fun x => decide (x = k)) ∘ fun p => p.1)
  rw [← List.any_map, ← List.any_map, h]
end
def keyOf : D → Option Key
  | .int i => some (.inl i)
  | .str x => some (.inr x)
  | _ => none
def keysOf : List D → Option (List Key)
  | [] => some []
  | d :: ds => (keyOf d).bind fun i => (keysOf ds).map (i :: ·)
section
variable {K : PySem.W.Frag} {S : Addr → Prop} {H : Hp} {l : Lv}
theorem Rp.key {v : V} {d : D} {F : List Addr} {k : Key} (p : Rp K S H l v d F) (h : keyOf d = some k) : v = kV k := by
  cases d <;> first | (cases h; first | exact p.int_inv.1 | exact p.str_inv.1) | cases h
theorem Rps.keys : ∀ {vs : List V} {ds : List D} {F : List Addr} {ks : List Key}, Rps K S H l vs ds F → keysOf ds = some ks → vs = ks.map kV
  | _, _, _, _, .nil, h => by cases h; rfl
  | _, _, _, ks, .cons h1 h2, h => by
    unfold keysOf at h
    obtain ⟨i, e1, h⟩ := bind_some h
    obtain ⟨m, e2, h⟩ := Option.map_eq_some_iff.mp h
    subst h
    rw [h1.key e1, Rps.keys h2 e2]
    rfl
theorem Rp.dk_inv {v : V} {kd : List (Key × D)} {F : List Addr} (p : Rp K S H l v (.dk kd) F) : ∃ a kv G, v = .ref a ∧ Rd H a (.dK kv) ∧ kv.map (·.1) = kd.map (·.1) ∧ Rps K S H (ch l) (kv.map (·.2)) (kd.map (·.2)) G ∧ ∀ b ∈ G, b ∈ F := by
  cases p with
  | nd0 h h1 h2 h3 => cases h with | dk e => exact ⟨_, _, _, rfl, h1.rd, e, h3, fun _ z => z⟩
  | nd1 h0 h h1 h2 => cases h with | dk e => exact ⟨_, _, _, rfl, .inl h1, e, h2, fun _ z => List.mem_cons_of_mem _ z⟩
theorem Rp.dt_inv {v : V} {kd : List (List Key × D)} {F : List Addr} (p : Rp K S H l v (.dt kd) F) : ∃ a kv G, v = .ref a ∧ Rd H a (.dT kv) ∧ kv.map (·.1) = kd.map (·.1) ∧ Rps K S H (ch l) (kv.map (·.2)) (kd.map (·.2)) G ∧ ∀ b ∈ G, b ∈ F := by
  cases p with
  | nd0 h h1 h2 h3 => cases h with | dt e => exact ⟨_, _, _, rfl, h1.rd, e, h3, fun _ z => z⟩
  | nd1 h0 h h1 h2 => cases h with | dt e => exact ⟨_, _, _, rfl, .inl h1, e, h2, fun _ z => List.mem_cons_of_mem _ z⟩
end
theorem DGet.rk {H : Hp} {a : Addr} {kvs : List (Key × V)} {k : Key} (e : Rd H a (.dK kvs)) : DGet H a (kV k) (valV kvs k) := .inl ⟨kvs, k, e, rfl, rfl⟩
theorem DGet.rt {H : Hp} {a b : Addr} {kvs : List (List Key × V)} {k : List Key} (e : Rd H a (.dT kvs)) (eb : H b = some (.tup (k.map kV))) : DGet H a (.ref b) (valV kvs k) := .inr ⟨kvs, k, b, e, rfl, eb, rfl⟩
def gInL (n : Bool) : D → D → Option Bool
  | d, .lst ds => if (shp 8 d && shps 7 ds) = true then some (n != (ds.any fun z => deq z d)) else none
  | d, .fl ds => if (shp 8 d && shps 7 ds) = true then some (n != (ds.any fun z => deq z d)) else none
  | _, _ => none
def gInD (n : Bool) : D → D → Option Bool
  | d, .dk kd => (keyOf d).map fun k => n != dhas kd k
  | .tup ds, .dt kd => (keysOf ds).map fun k => n != dhas kd k
  | _, _ => none
def gInT (n : Bool) : D → D → Option Bool
  | .int i, .tup ds => (intsOf ds).map fun ns => n != (ns.any fun z => z == i)
  | _, _ => none
theorem any_pds (ds : List D) (d : D) : ((pds ds).any fun z => PyData.eqv z (pd d)) = ds.any fun z => deq z d := by
  rw [pds_map, List.any_map]
  rfl
theorem shp_lst {ds : List D} (h : shps 7 ds = true) : shp 8 (.lst ds) = true := by simpa only [shp] using h
theorem shp_fl {ds : List D} (h : shps 7 ds = true) : shp 8 (.fl ds) = true := by simpa only [shp] using h
theorem c_inL (hu : X.A.units + 65 < cLine) : CmpOk X .In (gInL false) :=
  ⟨_, op_inD hu, fun S S' H l l' v w d e F G b Q p1 p2 h q => by
    unfold gInL at h
    split at h
    · split at h
      · rename_i z
        rw [Bool.and_eq_true] at z
        cases h
        have p3 := p2.dp (shp_lst z.2)
        have s3 := shaped_of (shp_lst z.2)
        simp only [pd] at p3 s3
        refine ⟨_, _, p1.dp z.1, p3, shaped_of z.1, s3, ?_⟩
        rw [any_pds]
        simpa using q
      · cases h
    · split at h
      · rename_i z
        rw [Bool.and_eq_true] at z
        cases h
        have p3 := p2.dp (shp_fl z.2)
        have s3 := shaped_of (shp_fl z.2)
        simp only [pd] at p3 s3
        refine ⟨_, _, p1.dp z.1, p3, shaped_of z.1, s3, ?_⟩
        rw [any_pds]
        simpa using q
      · cases h
    · cases h⟩
theorem c_ninL (hu : X.A.units + 65 < cLine) : CmpOk X .NotIn (gInL true) :=
  ⟨_, op_notInD hu, fun S S' H l l' v w d e F G b Q p1 p2 h q => by
    unfold gInL at h
    split at h
    · split at h
      · rename_i z
        rw [Bool.and_eq_true] at z
        cases h
        have p3 := p2.dp (shp_lst z.2)
        have s3 := shaped_of (shp_lst z.2)
        simp only [pd] at p3 s3
        refine ⟨_, _, p1.dp z.1, p3, shaped_of z.1, s3, ?_⟩
        rw [any_pds]
        simpa using q
      · cases h
    · split at h
      · rename_i z
        rw [Bool.and_eq_true] at z
        cases h
        have p3 := p2.dp (shp_fl z.2)
        have s3 := shaped_of (shp_fl z.2)
        simp only [pd] at p3 s3
        refine ⟨_, _, p1.dp z.1, p3, shaped_of z.1, s3, ?_⟩
        rw [any_pds]
        simpa using q
      · cases h
    · cases h⟩
def rInDict (n : Bool) : R2 := fun y x H Q => ∃ a o, x = .ref a ∧ DGet H a y o ∧ Q (.bl (n != o.isSome)) H
theorem op_inDict (hu : X.A.units + 1 < cLine) : OpR X (compareOp .In) (rInDict false) := by
  intro pins s σ H y x v u Q I ry rx ⟨a, o, e, g, q⟩
  subst e
  cases rx
  exact d_in hu I g ry fun s' I' => ⟨.bl _, H, I', rfl, by simpa using q⟩
theorem op_ninDict (hu : X.A.units + 1 < cLine) : OpR X (compareOp .NotIn) (rInDict true) := by
  intro pins s σ H y x v u Q I ry rx ⟨a, o, e, g, q⟩
  subst e
  cases rx
  exact d_notIn hu I g ry fun s' I' => ⟨.bl _, H, I', rfl, by simpa using q⟩
theorem in_dict {n : Bool} {S S' : Addr → Prop} {H : Hp} {l l' : Lv} {v w : V} {d e : D} {F G : List Addr} {b : Bool} {Q : VK} (p1 : Rp X.K S H l v d F) (p2 : Rp X.K S' H l' w e G) (h : gInD n d e = some b) (q : Q (.bl b) H) : rInDict n v w H Q := by
  unfold gInD at h
  split at h
  · obtain ⟨k, e1, h⟩ := Option.map_eq_some_iff.mp h
    obtain ⟨a, kv, _, rfl, h1, h2, _⟩ := p2.dk_inv
    refine ⟨a, _, rfl, by rw [p1.key e1]; exact DGet.rk h1, ?_⟩
    rw [has_keys h2, h]
    exact q
  · obtain ⟨k, e1, h⟩ := Option.map_eq_some_iff.mp h
    obtain ⟨a, kv, _, rfl, h1, h2, _⟩ := p2.dt_inv
    obtain ⟨c, vs, rfl, h3, h4⟩ := p1.tup_inv
    refine ⟨a, _, rfl, DGet.rt h1 (by rw [h3, h4.keys e1]), ?_⟩
    rw [has_keys h2, h]
    exact q
  · cases h
theorem flat_ints : ∀ ns : List Int, (ns.map V.int).all flatV = true
  | [] => rfl
  | n :: ns => flat_ints ns
theorem inV_ints (i : Int) : ∀ ns : List Int, inV (.int i) (ns.map V.int) = ns.any fun z => z == i
  | [] => rfl
  | n :: ns => by
    have ih := inV_ints i ns
    unfold inV at ih ⊢
    rw [List.map_cons, List.any_cons, List.any_cons, ih]
    rfl
theorem in_tup {n : Bool} {S S' : Addr → Prop} {H : Hp} {l l' : Lv} {v w : V} {d e : D} {F G : List Addr} {b : Bool} {Q : VK} (p1 : Rp X.K S H l v d F) (p2 : Rp X.K S' H l' w e G) (h : gInT n d e = some b) (q : Q (.bl b) H) : rIn X.K n v w H Q := by
  unfold gInT at h
  split at h
  · rename_i i ds
    obtain ⟨ns, e1, h⟩ := Option.map_eq_some_iff.mp h
    obtain ⟨a, vs, rfl, h1, h2⟩ := p2.tup_inv
    rw [intsOf_some e1] at h2
    obtain ⟨rfl, _⟩ := h2.ints
    obtain ⟨rfl, _⟩ := p1.int_inv
    refine ⟨a, _, rfl, .inr (SqT.of h1), rfl, flat_ints ns, ?_⟩
    rw [inV_ints]
    subst h
    cases n <;> simpa using q
  · cases h
abbrev gIn : D → D → Option Bool := fun d e => (gInL false d e).or ((gInD false d e).or (gInT false d e))
abbrev gNin : D → D → Option Bool := fun d e => (gInL true d e).or ((gInD true d e).or (gInT true d e))
theorem c_in (hu : X.A.units + 65 < cLine) : CmpOk X .In gIn := (c_inL hu).or (CmpOk.or ⟨_, op_inDict (by omega), fun S S' H l l' v w d e F G b Q p1 p2 h q => in_dict p1 p2 h q⟩ ⟨_, op_in_seq, fun S S' H l l' v w d e F G b Q p1 p2 h q => in_tup p1 p2 h q⟩)
theorem c_nin (hu : X.A.units + 65 < cLine) : CmpOk X .NotIn gNin := (c_ninL hu).or (CmpOk.or ⟨_, op_ninDict (by omega), fun S S' H l l' v w d e F G b Q p1 p2 h q => in_dict p1 p2 h q⟩ ⟨_, op_notIn_seq, fun S S' H l l' v w d e F G b Q p1 p2 h q => in_tup p1 p2 h q⟩)
end
end Ev
set_option Elab.async false
set_option linter.all false
set_option maxRecDepth 100000
namespace Ev
open PySem PySem.Spec L2
open PyProof.Rows hiding St
section
variable {X : Cx} {a b c e : Expr} {fa fb fc fe : EvE} {ga gb gc : EvT} {pos : Pos} {rest es : List Expr}
def tVal (fa : EvE) : EvT := fun ρ => (fa ρ).bind fun x => match x.d with
  | .bl k => some k
  | _ => none
theorem t_val (h : PEv X e fe) (he : ∀ whole, isTrue e X.env whole = (do let v ← whole; standAt e.pos; holding [v] (truthy v)) := by intro _; rfl) : PTv X e (tVal fe) := by
  refine imp_t (pt_val h he) fun σ H Q ⟨N, H0, ρ, L, W, k, sim, z, q⟩ => ?_
  unfold tVal at z
  obtain ⟨x, e1, z⟩ := bind_some z
  split at z
  · rename_i k' d1
    cases z
    refine one sim e1 fun v H1 F s _ _ p => ?_
    rw [d1] at p
    obtain ⟨rfl, _⟩ := p.bl_inv
    exact ⟨_, rfl, q _ s⟩
  · cases z
def tAnd (f g : EvT) : EvT := fun ρ => (f ρ).bind fun k => if k = true then g ρ else some false
def tOr (f g : EvT) : EvT := fun ρ => (f ρ).bind fun k => if k = true then some true else g ρ
def tNot (f : EvT) : EvT := fun ρ => (f ρ).map fun k => !k
theorem t_and1 (ha : PTv X a ga) : PWv X (.BoolOp .And [a] pos) ga := pw_and1 ha
theorem t_or1 (ha : PTv X a ga) : PWv X (.BoolOp .Or [a] pos) ga := pw_or1 ha
theorem t_and (ha : PTv X a ga) (hb : PWv X (.BoolOp .And (b :: rest) pos) gb) : PWv X (.BoolOp .And (a :: b :: rest) pos) (tAnd ga gb) := by
  refine imp_w (pw_and ha hb) fun σ H Q ⟨N, H0, ρ, L, W, k, sim, z, q⟩ => ?_
  unfold Ev.tAnd at z
  obtain ⟨k1, e1, z⟩ := bind_some z
  refine ⟨N, H0, ρ, L, W, k1, sim, e1, fun H1 s1 => ?_⟩
  cases k1 with
  | true => exact ⟨N, H0, ρ, L, W, k, sim.same s1, z, fun H2 s2 => q _ (s1.trans s2)⟩
  | false => cases z; exact q _ s1
theorem t_or (ha : PTv X a ga) (hb : PWv X (.BoolOp .Or (b :: rest) pos) gb) : PWv X (.BoolOp .Or (a :: b :: rest) pos) (tOr ga gb) := by
  refine imp_w (pw_or ha hb) fun σ H Q ⟨N, H0, ρ, L, W, k, sim, z, q⟩ => ?_
  unfold Ev.tOr at z
  obtain ⟨k1, e1, z⟩ := bind_some z
  refine ⟨N, H0, ρ, L, W, k1, sim, e1, fun H1 s1 => ?_⟩
  cases k1 with
  | false => exact ⟨N, H0, ρ, L, W, k, sim.same s1, z, fun H2 s2 => q _ (s1.trans s2)⟩
  | true => cases z; exact q _ s1
theorem t_bool (h : PWv X e ga) : PTv X e ga := h.pt
theorem t_not (ha : PTv X a ga) : PTv X (.UnaryOp .Not a pos) (tNot ga) := by
  refine imp_t (pt_not ha) fun σ H Q ⟨N, H0, ρ, L, W, k, sim, z, q⟩ => ?_
  unfold Ev.tNot at z
  obtain ⟨k1, e1, z⟩ := Option.map_eq_some_iff.mp z
  subst z
  exact ⟨N, H0, ρ, L, W, k1, sim, e1, fun H1 s1 => q _ s1⟩
def eAnd (f g : EvE) : EvE := fun ρ => (f ρ).bind fun x => match x.d with
  | .bl true => g ρ
  | .bl false => some (rB false)
  | _ => none
def eNot (f : EvE) : EvE := fun ρ => (f ρ).bind fun x => match x.d with
  | .bl k => some (rB !k)
  | _ => none
theorem e_not (ha : PEv X a fa) : PEv X (.UnaryOp .Not a pos) (eNot fa) := by
  refine imp_e (pe_not ha) fun σ H Q ⟨N, H0, ρ, L, W, r, sim, z, q⟩ => ?_
  unfold eNot at z
  obtain ⟨x, e1, z⟩ := bind_some z
  split at z
  · rename_i k d1
    cases z
    refine one sim e1 fun v H1 F s _ _ p => ?_
    rw [d1] at p
    obtain ⟨rfl, _⟩ := p.bl_inv
    exact ⟨_, rfl, q.bl s⟩
  · cases z
theorem e_one (op : BoolOp) (ha : PEv X a fa) : PEv X (.BoolOp op [a] pos) fa := by
  cases op <;> exact pe_one ha
theorem e_and (ha : PEv X a fa) (hb : PEv X (.BoolOp .And (b :: rest) pos) fb) : PEv X (.BoolOp .And (a :: b :: rest) pos) (eAnd fa fb) := by
  refine imp_e (pe_and ha hb) fun σ H Q ⟨N, H0, ρ, L, W, r, sim, z, q⟩ => ?_
  unfold eAnd at z
  obtain ⟨x, e1, z⟩ := bind_some z
  split at z
  · rename_i d1
    refine one sim e1 fun v H1 F s n nd p => ?_
    rw [d1] at p
    obtain ⟨rfl, hF⟩ := p.bl_inv
    subst hF
    exact ⟨true, rfl, iteT ⟨N, H0, ρ, L, W, r, sim.same s, z, fun v2 H2 F2 s2 n2 nd2 p2 => q v2 H2 F2 (s.trans s2) (fun a z => s.free (n2 a z)) nd2 p2⟩⟩
  · rename_i d1
    cases z
    refine one sim e1 fun v H1 F s n nd p => ?_
    rw [d1] at p
    obtain ⟨rfl, hF⟩ := p.bl_inv
    exact ⟨false, rfl, iteF (q.bl s)⟩
  · cases z
inductive RpL (K : PySem.W.Frag) (N : Nw) (W T : List Addr) (H : Hp) : List V → List Rv → List Addr → Prop
  | nil : RpL K N W T H [] [] []
  | cons {v : V} {r : Rv} {vs : List V} {rs : List Rv} {F G : List Addr} : Rp K (fun a => SR N W r.al r.vw a ∧ (r.vw = false → a ∉ T)) H r.l v r.d F → RpL K N W T H vs rs G → RpL K N W T H (v :: vs) (r :: rs) (F ++ G)
end
section
variable {K : PySem.W.Frag} {N : Nw} {W W' T T' : List Addr} {H H' : Hp}
theorem RpL.mono (h : ∀ al vw a, SR N W al vw a ∧ (vw = false → a ∉ T) → SR N W' al vw a ∧ (vw = false → a ∉ T')) : ∀ {vs : List V} {rs : List Rv} {F : List Addr}, RpL K N W T H vs rs F → RpL K N W' T' H vs rs F
  | _, _, _, .nil => .nil
  | _, _, _, .cons h1 h2 => .cons (h1.mono fun a z => h _ _ a z) (RpL.mono h h2)
theorem RpL.own_trk : ∀ {vs : List V} {rs : List Rv} {F : List Addr}, RpL K N W T H vs rs F → ∀ a ∈ F, H a ≠ none
  | _, _, _, .nil => fun _ z => nomatch z
  | _, _, _, .cons h1 h2 => fun a z => (List.mem_append.mp z).elim (h1.own_trk a) (RpL.own_trk h2 a)
theorem RpL.len : ∀ {vs : List V} {rs : List Rv} {F : List Addr}, RpL K N W T H vs rs F → vs.length = rs.length
  | _, _, _, .nil => rfl
  | _, _, _, .cons _ h => by rw [List.length_cons, List.length_cons, RpL.len h]
theorem RpL.full {al : Bool} : ∀ {vs : List V} {rs : List Rv} {F : List Addr}, RpL K N W T H vs rs F → rs.all (fun r => !r.vw && decide (r.l = .full)) = true → (∀ r ∈ rs, r.al = true → al = true) → Rps K (fun a => SR N W al false a ∧ a ∉ T) H .full vs (rs.map (·.d)) F
  | _, _, _, .nil, _, _ => .nil
  | _, _, _, .cons (r := r) h1 h2, e, ha => by
    rw [List.all_cons, Bool.and_eq_true, Bool.and_eq_true] at e
    obtain ⟨⟨e1, e2⟩, e3⟩ := e
    have e1 : r.vw = false := by simpa using e1
    have e2 : r.l = .full := by simpa using e2
    rw [e2] at h1
    refine .cons (h1.mono fun a z => ⟨⟨z.1.1.up (ha r List.mem_cons_self), fun _ => z.1.2 e1⟩, z.2 e1⟩) (RpL.full h2 e3 fun r hr => ha r (List.mem_cons_of_mem _ hr))
theorem RpL.give {al : Bool} (hT : ∀ a ∈ T, N a ∧ a ∉ W) : ∀ {vs : List V} {rs : List Rv} {F : List Addr}, RpL K N W T H vs rs F → (∀ a ∈ F, a ∈ T) → rs.all (fun r => !r.vw) = true → (∀ r ∈ rs, r.al = true → al = true) → Rps K (fun a => SR N W al false a) H .shr vs (rs.map (·.d)) []
  | _, _, _, .nil, _, _, _ => .nil
  | _, _, _, .cons (r := r) (F := F) h1 h2, hs, e, ha => by
    rw [List.all_cons, Bool.and_eq_true] at e
    obtain ⟨e1, e3⟩ := e
    have e1 : r.vw = false := by simpa using e1
    refine Rps.cons (F := []) (G := []) (h1.give (fun a z => ⟨z.1.1.up (ha r List.mem_cons_self), fun _ => z.1.2 e1⟩) fun a z => ⟨.new (hT a (hs a (List.mem_append_left _ z))).1, fun _ => (hT a (hs a (List.mem_append_left _ z))).2⟩)
      (RpL.give hT h2 (fun a z => hs a (List.mem_append_right _ z)) e3 fun r hr => ha r (List.mem_cons_of_mem _ hr))
theorem RpL.look : ∀ {vs : List V} {rs : List Rv} {F : List Addr}, RpL K N W T H vs rs F → Rps K (fun _ => True) H .shr vs (rs.map (·.d)) []
  | _, _, _, .nil => .nil
  | _, _, _, .cons h1 h2 => Rps.cons (F := []) (G := []) (h1.give (fun _ _ => trivial) fun _ _ => trivial) (RpL.look h2)
end
def tA (K : PySem.W.Frag) (f : EvA) : TA := fun σ H Q => ∃ N H0 ρ L W rs, SimH K N H0 ρ σ H L W ∧ f ρ = some rs ∧ ∀ vs H' T, Same H H' → (∀ a ∈ T, H a = none) → T.Nodup → RpL K N W T H' vs rs T → Q vs H'
abbrev PAv (X : Cx) (es : List Expr) (f : EvA) : Prop := PA X es (tA X.K f)
theorem imp_a {X : Cx} {e : List Expr} {t t' : TA} (h : PA X e t) (i : ∀ σ H Q, t' σ H Q → t σ H Q) : PA X e t' := ⟨fun p ps s σ H Q I w => h.run p ps s σ H Q I (i σ H Q w)⟩
def aNil : EvA := fun _ => some []
def aCons (f : EvE) (g : EvA) : EvA := fun ρ => (f ρ).bind fun r => (g ρ).bind fun rs => some (r :: rs)
section
variable {X : Cx} {a b c e : Expr} {fa fb fc fe : EvE} {ga : EvA} {pos : Pos} {rest es : List Expr}
theorem a_nil : PAv X [] aNil := imp_a pa_nil fun σ H Q ⟨N, H0, ρ, L, W, rs, sim, z, q⟩ => by
  cases z
  exact q [] H [] (Same.refl H) (fun _ z => nomatch z) .nil .nil
theorem a_cons (ha : PEv X e fe) (hr : PAv X es ga) (hs : starEach (e :: es) X.env = (false, eval e X.env) :: starEach es X.env := by rfl) : PAv X (e :: es) (aCons fe ga) := by
  refine imp_a (pa_cons ha hr hs) fun σ H Q ⟨N, H0, ρ, L, W, rs, sim, z, q⟩ => ?_
  unfold aCons at z
  obtain ⟨r, e1, z⟩ := bind_some z
  obtain ⟨rs, e2, z⟩ := bind_some z
  cases z
  refine one sim e1 fun v H1 F s1 n1 d1 p1 => ?_
  refine ⟨N, H0, ρ, L, W ++ F, rs, sim.hold s1 n1 d1 p1.own_mut, e2, fun vs H2 T s2 n2 d2 p2 => ?_⟩
  refine q (v :: vs) H2 (F ++ T) (s1.trans s2) (fun a z => (List.mem_append.mp z).elim (n1 a) fun z => s1.free (n2 a z)) ?_ (.cons ?_ (p2.mono fun al vw a z => ⟨⟨z.1.1, fun e => fun m => z.1.2 e (List.mem_append_left _ m)⟩, fun e m => (List.mem_append.mp m).elim (fun m => z.1.2 e (List.mem_append_right _ m)) (z.2 e)⟩))
  · rw [List.nodup_append]
    exact ⟨d1, d2, fun a ha b hb e => p1.own_trk a ha (e ▸ n2 b hb)⟩
  · exact (p1.trk.same s2).mono fun a z => ⟨z.1.1, fun _ m => (List.mem_append.mp m).elim z.1.2 fun m => z.2 (n2 a m)⟩
def mkTup (rs : List Rv) : Option Rv :=
  if (rs.all (fun r => !r.vw) && decide (rs.length ≤ 1000)) = true then
    some (if rs.all (fun r => !r.vw && decide (r.l = .full)) = true then ⟨.tup (rs.map (·.d)), .full, rs.any (·.al), false⟩ else ⟨.tup (rs.map (·.d)), .shr, rs.any (·.al), false⟩)
  else none
def mkLst (rs : List Rv) : Option Rv :=
  if (rs.all (fun r => !r.vw) && decide (rs.length ≤ 1000)) = true then
    some (if rs.all (fun r => !r.vw && decide (r.l = .full)) = true then ⟨.lst (rs.map (·.d)), .full, rs.any (·.al), false⟩ else ⟨.lst (rs.map (·.d)), .top, rs.any (·.al), false⟩)
  else none
def eTup (g : EvA) : EvE := fun ρ => (g ρ).bind mkTup
def eLst (g : EvA) : EvE := fun ρ => (g ρ).bind mkLst
theorem nodup1 {p : Addr} : [p].Nodup := by simp
theorem al_any {rs : List Rv} : ∀ r ∈ rs, r.al = true → rs.any (·.al) = true := fun r h e => List.any_eq_true.mpr ⟨r, h, e⟩
theorem le1000 {n : Nat} (h : n ≤ 1000) : n ≤ sizeLine := Nat.le_trans h (by rw [sizeLine_eq]; decide)
theorem e_tup {x1} (h : PAv X es ga) : PEv X (.Tuple es x1 pos) (eTup ga) := by
  refine imp_e (pe_tup h) fun σ H Q ⟨N, H0, ρ, L, W, r, sim, z, q⟩ => ?_
  unfold eTup at z
  obtain ⟨rs, e1, z⟩ := bind_some z
  unfold mkTup at z
  split at z
  · rename_i hc
    rw [Bool.and_eq_true, decide_eq_true_eq] at hc
    refine ⟨N, H0, ρ, L, W, rs, sim, e1, fun vs H1 T s1 n1 d1 p1 => ⟨le1000 (by rw [p1.len]; exact hc.2), fun p np => ?_⟩⟩
    have hT : ∀ a ∈ T, N a ∧ a ∉ W := fun a m => ⟨sim.nw a (n1 a m), fun w => sim.th a w (n1 a m)⟩
    split at z
    · rename_i hf
      cases z
      exact q _ _ T (s1.trans (same_upd np)) n1 d1 (.tup upd_same ((p1.full hf al_any).same (same_upd np)))
    · cases z
      exact q _ _ [] (s1.trans (same_upd np)) (fun _ z => nomatch z) .nil (.tup upd_same (((p1.give hT (fun _ m => m) hc.1 al_any).same (same_upd np)).mono fun a z => ⟨z, fun m => nomatch m⟩))
  · cases z
theorem e_lst (h : PAv X es ga) : PEv X (.List es pos) (eLst ga) := by
  refine imp_e (pe_lst h) fun σ H Q ⟨N, H0, ρ, L, W, r, sim, z, q⟩ => ?_
  unfold eLst at z
  obtain ⟨rs, e1, z⟩ := bind_some z
  unfold mkLst at z
  split at z
  · rename_i hc
    rw [Bool.and_eq_true, decide_eq_true_eq] at hc
    refine ⟨N, H0, ρ, L, W, rs, sim, e1, fun vs H1 T s1 n1 d1 p1 => ⟨le1000 (by rw [p1.len]; exact hc.2), fun p np => ?_⟩⟩
    have hT : ∀ a ∈ T, N a ∧ a ∉ W := fun a m => ⟨sim.nw a (n1 a m), fun w => sim.th a w (n1 a m)⟩
    have nW : p ∉ W := fun w => sim.th p w (s1.free np)
    split at z
    · rename_i hf
      cases z
      refine q _ _ (p :: T) (s1.trans (same_upd np)) (fun a m => (List.mem_cons.mp m).elim (fun e => e ▸ s1.free np) (n1 a)) (List.nodup_cons.mpr ⟨fun m => p1.own_trk p m np, d1⟩) (.nd1 (fun z => nomatch z) .lst upd_same ?_)
      exact (((p1.full hf al_any).trk).same (same_upd np)).mono fun a z => ⟨z.1.1, fun m => (List.mem_cons.mp m).elim (fun e => z.2 (e ▸ np)) z.1.2⟩
    · cases z
      refine q _ _ [p] (s1.trans (same_upd np)) (fun a m => (List.mem_cons.mp m).elim (fun e => e ▸ s1.free np) fun m => nomatch m) nodup1 (.nd1 (fun z => nomatch z) .lst upd_same ?_)
      exact (((p1.give hT (fun _ m => m) hc.1 al_any).trk).same (same_upd np)).mono fun a z => ⟨z.1, fun m => (List.mem_cons.mp m).elim (fun e => z.2 (e ▸ np)) fun m => nomatch m⟩
  · cases z
theorem e_dict {pos : Pos} : PEv X (.Dict [] [] pos) (fun _ => some ⟨.dk [], .full, false, false⟩) := by
  refine imp_e pe_dnewK fun σ H Q ⟨N, H0, ρ, L, W, r, sim, z, q⟩ p np => ?_
  cases z
  exact q _ _ [p] (same_upd np) (fun a m => (List.mem_cons.mp m).elim (fun e => e ▸ np) fun m => nomatch m) nodup1 (.nd1 (fun z => nomatch z) (.dk (kv := []) (kd := []) rfl) upd_same .nil)
theorem ix_dict (hu : X.A.units + 1 < cLine) : IxR X (fun x y H Q => ∃ a v, x = .ref a ∧ DGet H a y (some v) ∧ Q v H) := by
  intro value slice pins s σ H x y v u Q I rx ry ⟨a, z, e, g, q⟩ hs
  subst e
  obtain rfl : v = Value.ref a := rx
  unfold subscriptTail
  refine wpAny_bind ?_
  rw [getitemInPython_of_ne (dict_typeIs I g).not_modules]
  refine wpAny_bind (wpAny_specialOf (dict_typeIs I g) PySem.F.slot_dict_getitem.lookup ?_)
  have fin : wpAny (model X.prog X.w) X.A (subscripted slice false (.ref a) u) (fun r s₃ => wpAny (model X.prog X.w) X.A (letTemporaryGo value (.ref a) r >>= fun _ => pure r) (EP X pins σ Q) X.xe s₃) X.xe s := by
    rw [hs]
    exact wpAny_operating (d_getItem hu I g ry fun w' s3 I3 rw' => wpAny_bind (wpAny_letTemporaryGo (wpAny_pure ⟨z, H, I3, rw', q⟩)))
  first
    | exact wpAny_pure (wpAny_bind fin)
    | exact wpAny_bind (wpAny_pure (wpAny_bind fin))
    | exact wpAny_bind fin
def part (x : Rv) (d : D) : Rv := if imm d = true then rA d else ⟨d, .shr, x.al, x.vw⟩
def gIx : D → D → Option D
  | .lst ds, .int i => atI ds i
  | .fl ds, .int i => atI ds i
  | .tup ds, .int i => atI ds i
  | .dk kd, d => (keyOf d).bind (dlook kd)
  | .dt kd, .tup ds => (keysOf ds).bind (dlook kd)
  | _, _ => none
def eIx (fa fb : EvE) : EvE := fun ρ => (fa ρ).bind fun x => (fb ρ).bind fun y => (gIx x.d y.d).map (part x)
def rIxA (K : PySem.W.Frag) : R2 := fun x y H Q => rIx K x y H Q ∨ ∃ a v, x = .ref a ∧ DGet H a y (some v) ∧ Q v H
end
section
variable {K : PySem.W.Frag} {S S' : Addr → Prop} {H : Hp} {l l' : Lv} {v w : V} {F G : List Addr} {Q : VK}
theorem Rps.atI {vs : List V} {ds : List D} {i : Int} {d : D} (r : Rps K S H l vs ds F) (h : atI ds i = some d) : ∃ v G, atI vs i = some v ∧ Rp K S H l v d G ∧ ∀ b ∈ G, b ∈ F := by
  unfold L2.atI at h ⊢
  rw [r.len]
  obtain ⟨j, e1, e2⟩ := bind_some h
  obtain ⟨v, G, e3, q⟩ := r.get e2
  exact ⟨v, G, by rw [e1]; exact e3, q⟩
theorem look_rp {κ : Type} [DecidableEq κ] : ∀ {kv : List (κ × V)} {kd : List (κ × D)} {F : List Addr} {k : κ} {d : D}, kv.map (·.1) = kd.map (·.1) → Rps K S H l (kv.map (·.2)) (kd.map (·.2)) F → dlook kd k = some d →
    ∃ v G, valV kv k = some v ∧ Rp K S H l v d G ∧ ∀ b ∈ G, b ∈ F
  | [], [], _, k, d, _, _, h => by cases h
  | [], _ :: _, _, k, d, e, _, _ => by cases e
  | _ :: _, [], _, k, d, e, _, _ => by cases e
  | p :: kv, p' :: kd, F, k, d, e, r, h => by
    have e1 : p.1 = p'.1 := by have := congrArg List.head? e; simpa using this
    have e2 : kv.map (·.1) = kd.map (·.1) := by have := congrArg List.tail e; simpa using this
    have r : Rps K S H l (p.2 :: kv.map (·.2)) (p'.2 :: kd.map (·.2)) F := r
    cases r with
    | cons h1 h2 =>
      by_cases hk : p'.1 = k
      · have : dlook (p' :: kd) k = some p'.2 := by simp [dlook, List.find?_cons, hk]
        rw [this] at h
        cases h
        exact ⟨p.2, _, valV_pos (e1.trans hk), h1, fun _ z => List.mem_append_left _ z⟩
      · have : dlook (p' :: kd) k = dlook kd k := by simp [dlook, List.find?_cons, hk]
        rw [this] at h
        obtain ⟨v, G, q1, q2, q3⟩ := look_rp e2 h2 h
        exact ⟨v, G, by rw [valV_neg (by rw [e1]; exact hk)]; exact q1, q2, fun b z => List.mem_append_right _ (q3 b z)⟩
theorem ix_rp {d e z : D} (p1 : Rp K S H l v d F) (p2 : Rp K S' H l' w e G) (h : gIx d e = some z) (q : ∀ u l2 F2, Rp K S H l2 u z F2 → (∀ b ∈ F2, b ∈ F) → Q u H) : rIxA K v w H Q := by
  unfold gIx at h
  split at h
  · obtain ⟨a, vs, G1, rfl, h1, h2, h3, _⟩ := p1.lst_inv
    obtain ⟨rfl, _⟩ := p2.int_inv
    obtain ⟨u, G2, e1, r, sub⟩ := h2.atI h
    exact .inl (.inl ⟨a, vs, _, u, rfl, rfl, SqL.of h1, e1, q u _ _ r fun b z => h3 b (sub b z)⟩)
  · obtain ⟨a, vs, rfl, h1, h2, rfl⟩ := p1.fl_inv
    obtain ⟨rfl, _⟩ := p2.int_inv
    obtain ⟨u, G2, e1, r, sub⟩ := h2.atI h
    exact .inl (.inl ⟨a, vs, _, u, rfl, rfl, h1.sq, e1, q u _ _ r sub⟩)
  · obtain ⟨a, vs, rfl, h1, h2⟩ := p1.tup_inv
    obtain ⟨rfl, _⟩ := p2.int_inv
    obtain ⟨u, G2, e1, r, sub⟩ := h2.atI h
    exact .inl (.inr (.inl ⟨a, vs, _, u, rfl, rfl, SqT.of h1, e1, q u _ _ r sub⟩))
  · obtain ⟨k, ek, h⟩ := bind_some h
    obtain ⟨a, kv, G1, rfl, h1, h2, h3, h4⟩ := p1.dk_inv
    obtain ⟨u, G2, e1, r, sub⟩ := look_rp h2 h3 h
    refine .inr ⟨a, u, rfl, ?_, q u _ _ r fun b z => h4 b (sub b z)⟩
    rw [p2.key ek, ← e1]
    exact DGet.rk h1
  · obtain ⟨k, ek, h⟩ := bind_some h
    obtain ⟨a, kv, G1, rfl, h1, h2, h3, h4⟩ := p1.dt_inv
    obtain ⟨c, ws, rfl, h5, h6⟩ := p2.tup_inv
    obtain ⟨u, G2, e1, r, sub⟩ := look_rp h2 h3 h
    refine .inr ⟨a, u, rfl, ?_, q u _ _ r fun b z => h4 b (sub b z)⟩
    rw [← e1]
    exact DGet.rt h1 (by rw [h5, h6.keys ek])
  · cases h
theorem part_out {N : Nw} {W : List Addr} {H H1 : Hp} {x : Rv} {u : V} {d : D} {l2 : Lv} {F F2 : List Addr} {S : Addr → Prop} {Q : VK} (q : Post K N W H (part x d) Q) (s : Same H H1) (new : ∀ a ∈ F, N a ∧ a ∉ W) (hS : ∀ a, S a → SR N W x.al x.vw a)
    (r : Rp K S H1 l2 u d F2) (sub : ∀ b ∈ F2, b ∈ F) : Q u H1 := by
  unfold part at q
  cases hi : imm d with
  | true =>
    rw [hi, if_pos rfl] at q
    exact q.atom s fun S => (r.of_imm hi).2
  | false =>
    rw [hi, if_neg Bool.false_ne_true] at q
    exact q u H1 [] s (fun _ z => nomatch z) .nil (r.give (fun a z => ⟨hS a z, fun m => nomatch m⟩) fun a z => ⟨⟨.new (new a (sub a z)).1, fun _ => (new a (sub a z)).2⟩, fun m => nomatch m⟩)
end
section
variable {X : Cx} {a b c e : Expr} {fa fb fc fe : EvE} {ga : EvA} {pos : Pos} {rest es : List Expr}
theorem ix_any (hu : X.A.units + 1 < cLine) : IxR X (rIxA X.K) := ix_seq.or (ix_dict hu)
theorem e_ix (hu : X.A.units + 1 < cLine) (ha : PEv X a fa) (hb : PEv X b fb) (hs : PlainIx b := by exact fun _ _ => rfl) : PEv X (.Subscript a b pos) (eIx fa fb) := by
  refine imp_e (pe_ix (ix_any hu) ha hb hs) fun σ H Q ⟨N, H0, ρ, L, W, r, sim, z, q⟩ => ?_
  unfold eIx at z
  obtain ⟨x, e1, z⟩ := bind_some z
  obtain ⟨y, e2, z⟩ := bind_some z
  obtain ⟨d, e3, z⟩ := Option.map_eq_some_iff.mp z
  subst z
  refine two sim e1 e2 fun v w H2 F G s n1 n2 _ _ _ p1 p2 => ?_
  exact ix_rp p1 p2 e3 fun u l2 F2 r sub => part_out q s (F := F) (fun a m => ⟨sim.nw a (n1 a m), fun w => sim.th a w (n1 a m)⟩) (fun a z => z.1) r sub
def lenOf : D → Option Nat
  | .lst ds => some ds.length
  | .fl ds => some ds.length
  | .tup ds => some ds.length
  | .str x => if x.length ≤ 1000000 then some x.length else none
  | .dk kd => some kd.length
  | _ => none
def eLen (ga : EvA) : EvE := fun ρ => (ga ρ).bind fun rs => match rs with
  | [x] => (lenOf x.d).map fun n => rI n
  | _ => none
theorem arg1 {K : PySem.W.Frag} {N : Nw} {H0 H : Hp} {ρ : Env} {σ : St} {L W : List Addr} {ga : EvA} {x : Rv} {R : List V → Hp → Prop} (sim : SimH K N H0 ρ σ H L W) (e1 : ga ρ = some [x])
    (k : ∀ v H1 F, Same H H1 → (∀ a ∈ F, H a = none) → F.Nodup → Rp K (fun a => SR N W x.al x.vw a ∧ (x.vw = false → a ∉ F)) H1 x.l v x.d F → R [v] H1) : tA K ga σ H R :=
  ⟨N, H0, ρ, L, W, [x], sim, e1, fun vs H1 T s n nd p => by
    generalize hT : T = T0 at p
    cases p with
    | cons h1 h2 =>
      cases h2
      rw [List.append_nil] at hT
      subst hT
      exact k _ H1 _ s n nd (h1.mono fun a z => ⟨z.1, fun e m => z.2 e (by simpa using m)⟩)⟩
theorem call_len_d : CallR X (.builtin "len") (fun xs H Q => ∃ a kvs, xs = [.ref a] ∧ Rd H a (.dK kvs) ∧ Q (.int kvs.length) H) := by
  intro pins s σ H xs us Q I r ⟨a, kvs, e, h, q⟩
  subst e
  obtain ⟨u, rfl, rx⟩ := vals1 r
  cases rx
  exact d_len I h fun t s' I' => ⟨.int kvs.length, H, I', ⟨t, rfl⟩, q⟩
theorem e_len {p : Pos} (hm : X.mg "len" = none) (ha : PAv X (e :: es) ga) (hg : Gl X "len" := by rfl)
    (he : starEach (e :: es) X.env = (false, eval e X.env) :: starEach es X.env := by rfl) (hpl : (backTo pos (starEach es X.env)).any (·.1) = false := by rfl) : PEv X (.Call (.Name "len" p) (e :: es) [] pos) (eLen ga) := by
  refine imp_e (pe_callB (call_len_seq.or (call_len_str.or call_len_d)) hg hm PySem.boot_len ha (by decide) (by decide) he hpl) fun σ H Q ⟨N, H0, ρ, L, W, r, sim, z, q⟩ => ?_
  unfold eLen at z
  obtain ⟨rs, e1, z⟩ := bind_some z
  split at z
  · rename_i x
    obtain ⟨n, e2, z⟩ := Option.map_eq_some_iff.mp z
    subst z
    refine arg1 sim e1 fun v H1 F s _ _ p => ?_
    unfold lenOf at e2
    split at e2
    · rename_i ds hd
      rw [hd] at p
      obtain ⟨a, vs, G, rfl, h1, h2, _⟩ := p.lst_inv
      cases e2
      refine .inl ⟨a, vs, rfl, .inl (SqL.of h1), ?_⟩
      rw [h2.len]
      exact q.int s
    · rename_i ds hd
      rw [hd] at p
      obtain ⟨a, vs, rfl, h1, h2, _⟩ := p.fl_inv
      cases e2
      refine .inl ⟨a, vs, rfl, .inl h1.sq, ?_⟩
      rw [h2.len]
      exact q.int s
    · rename_i ds hd
      rw [hd] at p
      obtain ⟨a, vs, rfl, h1, h2⟩ := p.tup_inv
      cases e2
      refine .inl ⟨a, vs, rfl, .inr (SqT.of h1), ?_⟩
      rw [h2.len]
      exact q.int s
    · rename_i x hd
      rw [hd] at p
      obtain ⟨rfl, _⟩ := p.str_inv
      split at e2
      · rename_i hl
        cases e2
        exact .inr (.inl ⟨x, rfl, Nat.le_trans hl (by rw [sizeLine_eq]; decide), q.int s⟩)
      · cases e2
    · rename_i kd hd
      rw [hd] at p
      obtain ⟨a, kv, G, rfl, h1, h2, _⟩ := p.dk_inv
      cases e2
      refine .inr (.inr ⟨a, kv, rfl, h1, ?_⟩)
      have := congrArg List.length h2
      rw [List.length_map, List.length_map] at this
      rw [this]
      exact q.int s
    · cases e2
  · cases z
end
end Ev
set_option Elab.async false
set_option linter.all false
set_option maxRecDepth 100000
namespace Ev
open PySem PySem.Spec L2
open PyProof.Rows hiding St
abbrev Ret := D × Lv
abbrev RetD := D × Lv × Bool
def spD (K : PySem.W.Frag) (n : Nat) (φ : List D → Option RetD) : Sp := fun vs H Q _ => vs.length = n ∧ ∃ S ds r, Rps K S H .shr vs ds [] ∧ φ ds = some r ∧
  ∀ v H' F, Same H H' → (∀ a ∈ F, H a = none) → F.Nodup → Rp K (fun a => (H a = none ∨ r.2.2 = true ∧ S a) ∧ a ∉ F) H' r.2.1 v r.1 F → Q v H'
structure FnD (P : Program) (w : World) (K : PySem.W.Frag) (mg : Str → Option Value) (base : Heap) (k : Nat) (x : Str) (n : Nat) (φ : List D → Option RetD) : Prop where
  ok : ∃ f fd ps, FnOk P w K mg base CX0 k f fd ps (spD K n φ) ∧ mg x = some (.ref f) ∧ PySem.W.keepIn K (.ref f) = true ∧ Binds K fd ps []
def mkR (al vw : Bool) (r : RetD) : Rv := if imm r.1 = true then rA r.1 else if r.2.2 = true then ⟨r.1, r.2.1, al, vw⟩ else ⟨r.1, r.2.1, false, false⟩
def eCall (φ : List D → Option RetD) (ga : EvA) : EvE := fun ρ => (ga ρ).bind fun rs => (φ (rs.map (·.d))).map (mkR (rs.any (·.al)) (rs.any (·.vw)))
theorem Post.ret {K : PySem.W.Frag} {N : Nw} {W : List Addr} {H H1 : Hp} {r : RetD} {al vw : Bool} {v : V} {F : List Addr} {Q : VK} {S : Addr → Prop} (q : Post K N W H (mkR al vw r) Q) (s : Same H H1) (new : ∀ a ∈ F, H a = none) (nd : F.Nodup) (hS : ∀ a, S a → (N a ∧ a ∉ W ∨ r.2.2 = true ∧ SR N W al vw a) ∧ a ∉ F) (rp : Rp K S H1 r.2.1 v r.1 F) : Q v H1 := by
  unfold mkR at q
  cases hi : imm r.1 with
  | true =>
    rw [hi, if_pos rfl] at q
    exact q.atom s fun S => (rp.of_imm hi).2
  | false =>
    rw [hi, if_neg Bool.false_ne_true] at q
    cases hr : r.2.2 with
    | false =>
      rw [hr, if_neg Bool.false_ne_true] at q
      refine q v H1 F s new nd (rp.mono fun a z => ⟨?_, (hS a z).2⟩)
      rcases (hS a z).1 with h | h
      · exact ⟨.new h.1, fun _ => h.2⟩
      · rw [hr] at h; cases h.1
    | true =>
      rw [hr, if_pos rfl] at q
      refine q v H1 F s new nd (rp.mono fun a z => ⟨?_, (hS a z).2⟩)
      rcases (hS a z).1 with h | h
      · exact ⟨.new h.1, fun _ => h.2⟩
      · exact h.2
theorem RpL.give' {K : PySem.W.Frag} {N : Nw} {W : List Addr} {H : Hp} {T : List Addr} {al vw : Bool} (hT : ∀ a ∈ T, N a ∧ a ∉ W) : ∀ {vs : List V} {rs : List Rv} {F : List Addr}, RpL K N W T H vs rs F → (∀ a ∈ F, a ∈ T) → (∀ r ∈ rs, r.al = true → al = true) → (∀ r ∈ rs, r.vw = true → vw = true) → Rps K (SR N W al vw) H .shr vs (rs.map (·.d)) []
  | _, _, _, .nil, _, _, _ => .nil
  | _, _, _, .cons (r := r) (F := F) h1 h2, hs, ha, hv => by
    refine Rps.cons (F := []) (G := []) (h1.give (fun a z => ⟨z.1.1.up (ha r List.mem_cons_self), fun e => z.1.2 ?_⟩) fun a z => ⟨.new (hT a (hs a (List.mem_append_left _ z))).1, fun _ => (hT a (hs a (List.mem_append_left _ z))).2⟩)
      (RpL.give' hT h2 (fun a z => hs a (List.mem_append_right _ z)) (fun r hr => ha r (List.mem_cons_of_mem _ hr)) fun r hr => hv r (List.mem_cons_of_mem _ hr))
    cases q : r.vw with
    | false => rfl
    | true => rw [hv r List.mem_cons_self q] at e; cases e
theorem any_of {α : Type} {p : α → Bool} {l : List α} : ∀ r ∈ l, p r = true → l.any p = true := fun r h e => List.any_eq_true.mpr ⟨r, h, e⟩
section
variable {X : Cx} {k n : Nat} {x : Str} {φ : List D → Option RetD} {p pos : Pos} {e : Expr} {es : List Expr} {ga : EvA} {fe fa fb : EvE}
theorem e_call (F : FnD X.prog X.w X.K X.mg X.base k x n φ) (hr : Room k X.A) (ha : PAv X (e :: es) ga) (hg : Gl X x := by rfl) (hdb : (x == ("__debug__" : Str)) = false := by decide)
    (he : starEach (e :: es) X.env = (false, eval e X.env) :: starEach es X.env := by rfl) (hpl : (backTo pos (starEach es X.env)).any (·.1) = false := by rfl) (hn : (e :: es).length = n := by rfl) (hl : ∀ ρ rs, ga ρ = some rs → rs.length = n) :
    PEv X (.Call (.Name x p) (e :: es) [] pos) (eCall φ ga) := by
  obtain ⟨f, fd, ps, G, hm, hk, hb⟩ := F.ok
  refine imp_e (pe_call G hr hg hm hk hb .nil pass0 ha hdb he hpl) fun σ H Q ⟨N, H0, ρ, L, W, r, sim, z, q⟩ => ?_
  unfold eCall at z
  obtain ⟨rs, e1, z⟩ := bind_some z
  obtain ⟨r', e2, z⟩ := Option.map_eq_some_iff.mp z
  subst z
  refine ⟨N, H0, ρ, L, W, rs, sim, e1, fun vs H1 T s1 n1 d1 p1 => ?_⟩
  have hT : ∀ a ∈ T, N a ∧ a ∉ W := fun a m => ⟨sim.nw a (n1 a m), fun w => sim.th a w (n1 a m)⟩
  refine ⟨by rw [List.append_nil, p1.len, hl ρ rs e1], SR N W (rs.any (·.al)) (rs.any (·.vw)), rs.map (·.d), r', by rw [List.append_nil]; exact p1.give' hT (fun _ m => m) (fun r h => any_of (p := fun r : Rv => r.al) r h) (fun r h => any_of (p := fun r : Rv => r.vw) r h), e2, fun v H2 F s2 n2 d2 p2 => ?_⟩
  exact q.ret (s1.trans s2) (fun a z => s1.free (n2 a z)) d2 (fun a z => ⟨z.1.imp (fun y => ⟨sim.nw a (s1.free y), fun w => sim.th a w (s1.free y)⟩) id, z.2⟩) p2
end
theorem aNil_len {ρ : Env} {rs : List Rv} (h : aNil ρ = some rs) : rs.length = 0 := by cases h; rfl
theorem aCons_len {f : EvE} {g : EvA} {n : Nat} (hg : ∀ ρ rs, g ρ = some rs → rs.length = n) : ∀ ρ rs, aCons f g ρ = some rs → rs.length = n + 1 := fun ρ rs h => by
  unfold aCons at h
  obtain ⟨r, _, h⟩ := bind_some h
  obtain ⟨rs', e, h⟩ := bind_some h
  cases h
  rw [List.length_cons, hg ρ rs' e]
inductive Out where
  | nx (ρ : Env) | bk (ρ : Env) | ct (ρ : Env) | rt (ρ : Env) (d : D) (l : Lv) (al : Bool)
abbrev EvS := Env → Option Out
def Frm (H : Hp) (L : List Addr) (H' : Hp) (L' : List Addr) : Prop := (∀ b o, H b = some o → b ∉ L → H' b = some o) ∧ (∀ b, H' b = none → H b = none ∨ b ∈ L) ∧ ∀ b ∈ L', b ∈ L ∨ H b = none
theorem Frm.refl (H : Hp) (L : List Addr) : Frm H L H L := ⟨fun _ _ e _ => e, fun _ e => .inl e, fun _ z => .inl z⟩
theorem Frm.trans {H H1 H2 : Hp} {L L1 L2 : List Addr} (a : Frm H L H1 L1) (b : Frm H1 L1 H2 L2) : Frm H L H2 L2 :=
  ⟨fun c o e n => b.1 c o (a.1 c o e n) fun z => (a.2.2 c z).elim n fun q => (by rw [e] at q; cases q), fun c e => (b.2.1 c e).elim (a.2.1 c) fun z => (a.2.2 c z).symm, fun c z => (b.2.2 c z).elim (a.2.2 c) fun q => (a.2.1 c q).symm⟩
theorem Frm.same {H H' : Hp} {L L' : List Addr} (s : Same H H') (h : ∀ b ∈ L', b ∈ L ∨ H b = none) : Frm H L H' L' := ⟨fun b o e _ => s b o e, fun b e => .inl (s.free e), h⟩
def PostS (K : PySem.W.Frag) (N : Nw) (H0 H : Hp) (L : List Addr) : Out → Ends → Prop
  | .nx ρ, D => ∀ σ H' L', Sim K N H0 ρ σ H' L' → Frm H L H' L' → D.nx σ H'
  | .bk ρ, D => ∀ σ H' L', Sim K N H0 ρ σ H' L' → Frm H L H' L' → D.bk σ H'
  | .ct ρ, D => ∀ σ H' L', Sim K N H0 ρ σ H' L' → Frm H L H' L' → D.ct σ H'
  | .rt ρ d l al, D => ∀ v σ H' L' F, SimH K N H0 ρ σ H' L' (L' ++ F) → (∀ b o, H b = some o → b ∉ L → H' b = some o) → Rp K (fun a => AlN N al a ∧ a ∉ F ∧ a ∉ L') H' l v d F → D.rt v H'
def tS (K : PySem.W.Frag) (f : EvS) : TS := fun D σ H => ∃ N H0 ρ L o, Sim K N H0 ρ σ H L ∧ f ρ = some o ∧ PostS K N H0 H L o D
abbrev PSv (X : Cx) (st : Stmt) (f : EvS) : Prop := PS X st (tS X.K f)
abbrev PSsv (X : Cx) (st : List Stmt) (f : EvS) : Prop := PSs X st (tS X.K f)
theorem imp_s {X : Cx} {e : Stmt} {t t' : TS} (h : PS X e t) (i : ∀ D σ H, t' D σ H → t D σ H) : PS X e t' := ⟨fun p s σ H D I w => h.run p s σ H D I (i D σ H w)⟩
theorem imp_ss {X : Cx} {e : List Stmt} {t t' : TS} (h : PSs X e t) (i : ∀ D σ H, t' D σ H → t D σ H) : PSs X e t' := ⟨fun p s σ H D I w => h.run p s σ H D I (i D σ H w)⟩
theorem PostS.at_ {K : PySem.W.Frag} {N : Nw} {H0 H H1 : Hp} {L L1 : List Addr} {o : Out} {D : Ends} (p : PostS K N H0 H L o D) (f : Frm H L H1 L1) : PostS K N H0 H1 L1 o D := by
  cases o with
  | nx ρ => exact fun σ H' L' s f' => p σ H' L' s (f.trans f')
  | bk ρ => exact fun σ H' L' s f' => p σ H' L' s (f.trans f')
  | ct ρ => exact fun σ H' L' s f' => p σ H' L' s (f.trans f')
  | rt ρ d l al => exact fun v σ H' L' F s k r => p v σ H' L' F s (fun b o e n => k b o (f.1 b o e n) fun m => (f.2.2 b m).elim n fun z => by rw [e] at z; cases z) r
def sSeq (f g : EvS) : EvS := fun ρ => (f ρ).bind fun o => match o with
  | .nx ρ' => g ρ'
  | o => some o
def sNil : EvS := fun ρ => some (.nx ρ)
section
variable {X : Cx} {st : Stmt} {rest body orelse : List Stmt} {f g : EvS} {e c : Expr} {fe : EvE} {gc : EvT} {pos pos' : Pos}
theorem s_nil : PSsv X [] sNil := imp_ss pss_nil fun D σ H ⟨N, H0, ρ, L, o, sim, z, q⟩ => by
  cases z
  exact q σ H L sim (Frm.refl H L)
theorem s_cons (h1 : PSv X st f) (h2 : PSsv X rest g) : PSsv X (st :: rest) (sSeq f g) := by
  refine imp_ss (pss_cons h1 h2) fun D σ H ⟨N, H0, ρ, L, o, sim, z, q⟩ => ?_
  unfold sSeq at z
  obtain ⟨o1, e1, z⟩ := bind_some z
  refine ⟨N, H0, ρ, L, o1, sim, e1, ?_⟩
  cases o1 with
  | nx ρ' => exact fun σ' H' L' s' f' => ⟨N, H0, ρ', L', o, s', z, q.at_ f'⟩
  | bk ρ' => cases z; exact q
  | ct ρ' => cases z; exact q
  | rt ρ d l al => cases z; exact q
theorem s_one (h1 : PSv X st f) : PSsv X [st] f := pss_one h1
def sIf (c : EvT) (f g : EvS) : EvS := fun ρ => (c ρ).bind fun k => if k = true then f ρ else g ρ
theorem s_if (hc : PTv X c gc) (ha : PSsv X body f) (hb : PSsv X orelse g) : PSv X (.If c body orelse pos) (sIf gc f g) := by
  refine imp_s (ps_if hc ha hb) fun D σ H ⟨N, H0, ρ, L, o, sim, z, q⟩ => ?_
  unfold sIf at z
  obtain ⟨k, e1, z⟩ := bind_some z
  refine ⟨N, H0, ρ, L, L, k, sim.h, e1, fun H1 s1 => ?_⟩
  have fr : Frm H L H1 L := Frm.same s1 fun b z => .inl z
  cases k with
  | true => exact iteT ⟨N, H0, ρ, L, o, sim.same s1, z, q.at_ fr⟩
  | false => exact iteF ⟨N, H0, ρ, L, o, sim.same s1, z, q.at_ fr⟩
def sSet (fz : List Nat) (i : Nat) (fe : EvE) : EvS := fun ρ => (fe (frzs fz ρ)).bind fun r => if (!r.vw && decide (i < (frzs fz ρ).length)) = true then some (.nx ((frzs fz ρ).set i (some ⟨r.d, r.l, r.al, none⟩))) else none
theorem s_set (fz : List Nat) (i : Nat) {x : Str} (he : PEv X e fe) (hN : X.N.Nodup) (hi : X.N[i]? = some x := by rfl) (hx : Loc X.env.scope x := by first | exact Or.inl rfl | exact Or.inr rfl) (hs : swapsWith e (some (.Name x pos')) pos.line X.env = pure false := by rfl) (hf : X.fn x = true ∨ X.env.scope.names.lookup x = some .local := by first | exact .inl rfl | exact .inr rfl | assumption) :
    PSv X (.Assign [.Name x pos'] e pos) (sSet fz i fe) := by
  refine imp_s (ps_set hN hi hx he hs hf) fun D σ H ⟨N, H0, ρ, L, o, sim, z, q⟩ => ?_
  unfold sSet at z
  obtain ⟨L1, sim1, sub⟩ := sim.frzs fz
  obtain ⟨r, e1, z⟩ := bind_some z
  split at z
  · rename_i hc
    rw [Bool.and_eq_true, decide_eq_true_eq] at hc
    cases z
    refine one sim1.h e1 fun v H1 F s1 n1 d1 p1 => ?_
    have hv : r.vw = false := by simpa using hc.1
    obtain ⟨L2, sim2, sub2⟩ := sim1.set (r := ⟨r.d, r.l, r.al, none⟩) (fun _ z => nomatch z) s1 n1 d1 (p1.mono fun a z => ⟨⟨z.1.1, fun _ => z.1.2 hv⟩, z.2⟩) hc.2
    exact q _ H1 L2 sim2 (Frm.same s1 fun b z => (sub2 b z).imp (sub b) (n1 b))
  · cases z
end
def wipeA (ρ : Env) : Env := ρ.map fun _ => none
section
variable {K : PySem.W.Frag} {N : Nw} {H0 H H' : Hp} {ρ : Env} {σ : St} {L : List Addr}
theorem Slots.none_ {L0 L1 : List Addr} : ∀ {σ : St} {ρ : Env} {F : List Addr}, Slots K N L0 H σ ρ F → Slots K N L1 H σ (wipeA ρ) []
  | _, _, _, .nil => .nil
  | _, _, _, .no h => .no h.none_
  | _, _, _, .so _ _ h => .no h.none_
theorem Sim.none_ (s : Sim K N H0 ρ σ H L) : Sim K N H0 (wipeA ρ) σ H [] := ⟨s.kp, s.nw, List.nodup_nil, (fun _ z => nomatch z), (fun _ z => nomatch z), s.sl.none_⟩
theorem Slots.none_' {L0 L1 : List Addr} {F : List Addr} (h : Slots K N L0 H σ (wipeA ρ) F) : Slots K N L1 H σ (wipeA ρ) [] := by
  have e : ∀ ρ : Env, wipeA (wipeA ρ) = wipeA ρ := fun ρ => by unfold wipeA; rw [List.map_map]; rfl
  have := h.none_ (L1 := L1)
  rw [e] at this
  exact this
theorem Sim.h0 (s : Sim K N H0 ρ σ H L) : SimH K N H0 ρ σ H L (L ++ []) := by
  rw [List.append_nil]
  exact s.h
theorem Slots.hide {L0 : List Addr} : ∀ {σ : St} {ρ : Env} {F : List Addr} {i : Nat} {s : Sv}, Slots K N L0 H σ ρ F → ρ[i]? = some (some s) → ∃ F1 G F2 v, F = F1 ++ (G ++ F2) ∧ σ[i]? = some (some v) ∧ Rp K (SR N L0 s.al false) H s.l v s.d G ∧ Slots K N L0 H σ (ρ.set i none) (F1 ++ F2)
  | _, _, _, _, _, .nil, e => by simp at e
  | _, _, _, 0, _, .no _, e => by simp at e
  | _, _, _, i + 1, s, .no h, e => by
    obtain ⟨F1, G, F2, v, e1, e2, r, q⟩ := Slots.hide (i := i) (s := s) h (by simpa using e)
    exact ⟨F1, G, F2, v, e1, by simpa using e2, r, .no q⟩
  | _, _, _, 0, _, .so (F := F) (G := G) _ h1 h, e => by
    simp at e; subst e
    exact ⟨[], F, G, _, rfl, rfl, h1, .no h⟩
  | _, _, _, i + 1, s, .so (F := F) h0 h1 h, e => by
    obtain ⟨F1, G, F2, v, e1, e2, r, q⟩ := Slots.hide (i := i) (s := s) h (by simpa using e)
    refine ⟨F ++ F1, G, F2, v, by rw [e1, List.append_assoc], by simpa using e2, r, ?_⟩
    rw [List.append_assoc]
    exact .so h0 h1 q
end
section
variable {X : Cx} {st : Stmt} {rest body orelse : List Stmt} {f g : EvS} {e c : Expr} {fe : EvE} {gc : EvT} {pos pos' : Pos}
def sRet (fe : EvE) : EvS := fun ρ => (fe ρ).bind fun r => some (.rt (if r.vw = true then wipeA ρ else ρ) r.d r.l r.al)
theorem s_ret (he : PEv X e fe) : PSv X (.Return (some e) pos) (sRet fe) := by
  refine imp_s (ps_ret he) fun D σ H ⟨N, H0, ρ, L, o, sim, z, q⟩ => ?_
  unfold sRet at z
  obtain ⟨r, e1, z⟩ := bind_some z
  cases z
  refine one sim.h e1 fun v H1 F s1 n1 d1 p1 => ?_
  have sm := sim.same s1
  have nw : ∀ a ∈ F, N a := fun a z => sim.nw a (n1 a z)
  cases hv : r.vw with
  | true =>
    rw [hv, if_pos rfl] at q
    have n := sm.none_
    exact q v σ H1 [] F ⟨n.kp, n.nw, d1, nw, p1.own_mut, n.sl.none_', (fun _ z => nomatch z), .nil⟩ (fun b o e _ => s1 b o e) (p1.mono fun a z => ⟨z.1.1, z.2, fun z => nomatch z⟩)
  | false =>
    rw [hv, if_neg Bool.false_ne_true] at q
    exact q v σ H1 L F (sim.h.hold s1 n1 d1 p1.own_mut) (fun b o e _ => s1 b o e) (p1.mono fun a z => ⟨z.1.1, z.2, z.1.2 hv⟩)
def sRetV (i : Nat) : EvS := fun ρ => match ρ[i]? with
  | some (some s) => if imm s.d = true then some (.rt ρ s.d .full false) else some (.rt (ρ.set i none) s.d s.l s.al)
  | _ => none
theorem s_retv (i : Nat) {x : Str} (hN : X.N[i]? = some x := by rfl) (hv : Vis X.env.scope x := by first | exact Or.inl rfl | exact Or.inr (Or.inl rfl) | exact Or.inr (Or.inr rfl)) (hd : (x == ("__debug__" : Str)) = false := by decide)
    (hcd : (x == ("__classdict__" : Str)) = false := by decide) : PSv X (.Return (some (.Name x pos')) pos) (sRetV i) := by
  refine imp_s (ps_ret (pe_var hN hv hd hcd)) fun D σ H ⟨N, H0, ρ, L, o, sim, z, q⟩ => ?_
  unfold sRetV at z
  split at z
  · rename_i s es
    obtain ⟨F1, G, F2, v, eL, ev, rp, sl⟩ := sim.sl.hide es
    refine ⟨v, ev, ?_⟩
    split at z
    · rename_i hi
      cases z
      exact q v σ H L [] sim.h0 (fun _ _ e _ => e) ((rp.of_imm hi).2)
    · cases z
      have hnd := sim.nd
      rw [eL, List.nodup_append, List.nodup_append] at hnd
      have sub : ∀ a, a ∈ F1 ++ F2 → a ∈ L := fun a z => by
        rw [eL]
        rcases List.mem_append.mp z with z | z <;> simp [z]
      have subG : ∀ a, a ∈ (F1 ++ F2) ++ G → a ∈ L := fun a z => by
        rcases List.mem_append.mp z with z | z
        · exact sub a z
        · rw [eL]; simp [z]
      have nd12 : (F1 ++ F2).Nodup := by
        rw [List.nodup_append]
        exact ⟨hnd.1, hnd.2.1.2.1, fun a ha b hb => hnd.2.2 a ha b (by simp [hb])⟩
      refine q v σ H (F1 ++ F2) G ⟨sim.kp, sim.nw, ?_, fun a z => sim.ln a (subG a z), fun a z => sim.mu a (subG a z), sl.mono fun a z m => z (subG a m), fun a z => List.mem_append_left _ z, nd12⟩ (fun _ _ e _ => e) (rp.mono fun a z => ⟨z.1, fun m => z.2 rfl (by rw [eL]; simp [m]), fun m => z.2 rfl (sub a m)⟩)
      rw [List.nodup_append]
      refine ⟨nd12, hnd.2.1.1, fun a m b z e => ?_⟩
      subst e
      rcases List.mem_append.mp m with m | m
      · exact hnd.2.2 a m a (by simp [z]) rfl
      · exact hnd.2.1.2.2 a z a m rfl
  · cases z
end
inductive Tg where
  | nm (i : Nat) | tp (ts : List Tg)
mutual
def tgSet : Tg → D → Bool → Env → Option Env
  | .nm i, d, al, ρ => if i < ρ.length then some (ρ.set i (some ⟨d, if imm d = true then .full else .shr, al, none⟩)) else none
  | .tp ts, .tup ds, al, ρ => if ts.length = ds.length then tgsSet ts ds al ρ else none
  | _, _, _, _ => none
def tgsSet : List Tg → List D → Bool → Env → Option Env
  | [], [], _, ρ => some ρ
  | t :: ts, d :: ds, al, ρ => (tgSet t d al ρ).bind (tgsSet ts ds al)
  | _, _, _, _ => none
end
mutual
def tgSlots : Tg → List Nat
  | .nm i => [i]
  | .tp ts => tgsSlots ts
def tgsSlots : List Tg → List Nat
  | [] => []
  | t :: ts => tgSlots t ++ tgsSlots ts
end
def Touch (js : List Nat) (σ σ' : St) : Prop := σ'.length = σ.length ∧ ∀ j, j ∉ js → σ'[j]? = σ[j]?
theorem Touch.refl (js : List Nat) (σ : St) : Touch js σ σ := ⟨rfl, fun _ _ => rfl⟩
def tG (K : PySem.W.Frag) (t : Tg) : TG := fun v σ H Q => ∃ N H0 ρ L W d al ρ', SimH K N H0 ρ σ H L W ∧ Rp K (SR N W al false) H .shr v d [] ∧ tgSet t d al ρ = some ρ' ∧ ∀ σ' L', SimH K N H0 ρ' σ' H L' W → (∀ a ∈ L', a ∈ L) → Touch (tgSlots t) σ σ' → Q σ' H
def tGs (K : PySem.W.Frag) (ts : List Tg) : TGs := fun vs σ H Q => ∃ N H0 ρ L W ds al ρ', SimH K N H0 ρ σ H L W ∧ Rps K (SR N W al false) H .shr vs ds [] ∧ tgsSet ts ds al ρ = some ρ' ∧ ∀ σ' L', SimH K N H0 ρ' σ' H L' W → (∀ a ∈ L', a ∈ L) → Touch (tgsSlots ts) σ σ' → Q σ' H
abbrev PGv (X : Cx) (e : Expr) (t : Tg) : Prop := PG X e (tG X.K t)
abbrev PGsv (X : Cx) (es : List Expr) (ts : List Tg) : Prop := PGs X es (tGs X.K ts)
theorem imp_g {X : Cx} {e : Expr} {t t' : TG} (h : PG X e t) (i : ∀ v σ H Q, t' v σ H Q → t v σ H Q) : PG X e t' := ⟨fun p s σ H v u Q I r w => h.run p s σ H v u Q I r (i v σ H Q w)⟩
theorem imp_gs {X : Cx} {e : List Expr} {t t' : TGs} (h : PGs X e t) (i : ∀ v σ H Q, t' v σ H Q → t v σ H Q) : PGs X e t' := ⟨fun p s σ H v u Q I r w => h.run p s σ H v u Q I r (i v σ H Q w)⟩
section
variable {X : Cx} {pos pos' : Pos} {es : List Expr} {e : Expr} {t : Tg} {ts : List Tg} {fe : EvE}
theorem g_name (i : Nat) {x : Str} (hN : X.N.Nodup) (hi : X.N[i]? = some x := by rfl) (hx : Loc X.env.scope x := by first | exact Or.inl rfl | exact Or.inr rfl) (hf : X.fn x = true ∨ X.env.scope.names.lookup x = some .local := by first | exact .inl rfl | exact .inr rfl | assumption) : PGv X (.Name x pos) (.nm i) := by
  refine imp_g (pg_name hN hi hx hf) fun v σ H Q ⟨N, H0, ρ, L, W, d, al, ρ', sim, rp, z, q⟩ => ?_
  simp only [tgSet] at z
  split at z
  · rename_i hc
    cases z
    obtain ⟨L', sim', sub⟩ := sim.set0 (r := ⟨d, if imm d = true then .full else .shr, al, none⟩) (v := v) (fun _ z => nomatch z) (by
      cases hi : imm d with
      | true => exact (rp.of_imm hi).2
      | false => exact rp) hc
    refine q _ L' sim' sub ⟨List.length_set, fun j hj => ?_⟩
    rw [List.getElem?_set_ne]
    intro e
    exact hj (by simp [tgSlots, e])
  · cases z
theorem gs_nil : PGsv X [] [] := imp_gs pgs_nil fun vs σ H Q ⟨N, H0, ρ, L, W, ds, al, ρ', sim, rp, z, q⟩ => by
  generalize hF : ([] : List Addr) = F0 at rp
  cases rp with
  | nil =>
    simp only [tgsSet] at z
    cases z
    exact ⟨rfl, q σ L sim (fun _ z => z) (Touch.refl _ _)⟩
  | cons _ _ => simp only [tgsSet] at z; cases z
theorem gs_cons (h1 : PGv X e t) (h2 : PGsv X es ts) (hs : (assignEach (e :: es) X.env).map (·.2) = assign e X.env :: (assignEach es X.env).map (·.2) := by rfl) : PGsv X (e :: es) (t :: ts) := by
  refine imp_gs (pgs_cons h1 h2 hs) fun vs σ H Q ⟨N, H0, ρ, L, W, ds, al, ρ', sim, rp, z, q⟩ => ?_
  generalize hF : ([] : List Addr) = F0 at rp
  cases rp with
  | nil => simp only [tgsSet] at z; cases z
  | cons r1 r2 =>
    have e1 := r1.shr0
    have e2 := r2.shr0
    subst e1 e2
    simp only [tgsSet] at z
    obtain ⟨ρ1, z1, z2⟩ := bind_some z
    refine ⟨_, _, rfl, N, H0, ρ, L, W, _, al, ρ1, sim, r1, z1, fun σ1 L1 sim1 sub1 t1 => ⟨N, H0, ρ1, L1, W, _, al, ρ', sim1, r2, z2, fun σ2 L2 sim2 sub2 t2 => q σ2 L2 sim2 (fun a m => sub1 a (sub2 a m)) ⟨t2.1.trans t1.1, fun j hj => ?_⟩⟩⟩
    rw [tgsSlots, List.mem_append, not_or] at hj
    rw [t2.2 j hj.2, t1.2 j hj.1]
theorem g_tup {k : Nat} (hc : X.calm = true) (h : PGsv X es ts) (hn : (assignEach es X.env).length = ts.length := by rfl) (hst : (assignEach es X.env).findIdx? (·.1) = none := by rfl) : PGv X (.Tuple es k pos) (.tp ts) := by
  refine imp_g (pg_tup hc h hn hst) fun v σ H Q ⟨N, H0, ρ, L, W, d, al, ρ', sim, rp, z, q⟩ => ?_
  cases d with
  | tup ds =>
    simp only [tgSet] at z
    split at z
    · rename_i hl
      obtain ⟨a, vs, rfl, h1, h2⟩ := rp.tup_inv
      exact ⟨a, vs, rfl, SqT.of h1, by rw [h2.len, hl], N, H0, ρ, L, W, ds, al, ρ', sim, h2, z, fun σ' L' s' u t => q σ' L' s' u (by simpa only [tgSlots] using t)⟩
    · cases z
  | _ => simp only [tgSet] at z; cases z
def sAsg (fz : List Nat) (t : Tg) (fe : EvE) : EvS := fun ρ => (fe (frzs fz ρ)).bind fun r => if r.vw = true then none else (tgSet t r.d r.al (frzs fz ρ)).map .nx
theorem s_asg (fz : List Nat) {tg : Expr} (he : PEv X e fe) (hg : PGv X tg t) (hs : swapsWithSole [tg] e pos.line X.env = pure false := by rfl) (hw : swappedStores [tg] e X.env = pure none := by rfl) (h1 : (assignEach [tg] X.env).map (·.2) = [assign tg X.env] := by rfl) : PSv X (.Assign [tg] e pos) (sAsg fz t fe) := by
  refine imp_s (ps_asg he hg hs hw h1) fun D σ H ⟨N, H0, ρ, L, o, sim, z, q⟩ => ?_
  unfold sAsg at z
  obtain ⟨L1, sim1, sub⟩ := sim.frzs fz
  obtain ⟨r, e1, z⟩ := bind_some z
  split at z
  · cases z
  · rename_i hv
    have hv : r.vw = false := by simpa using hv
    obtain ⟨ρ', e2, z⟩ := Option.map_eq_some_iff.mp z
    subst z
    refine one sim1.h e1 fun v H1 F s1 n1 d1 p1 => ?_
    refine ⟨N, H0, _, L1, L1, r.d, r.al, ρ', (sim1.same s1).h, p1.give (fun a z => ⟨z.1.1, fun _ => z.1.2 hv⟩) (fun a m => ⟨.new (sim1.nw a (n1 a m)), fun _ w => sim1.th a w (n1 a m)⟩), e2, fun σ' L' sim' sub' _ => ?_⟩
    exact q σ' H1 L' sim'.sim (Frm.same s1 fun b z => .inl (sub b (sub' b z)))
end
end Ev
set_option Elab.async false
set_option linter.all false
set_option maxRecDepth 100000
namespace Ev
open PySem PySem.Spec L2
open PyProof.Rows hiding St
abbrev EvI := Env → Option (List (D × Bool))
def Kept (H : Hp) (W : List Addr) (H' : Hp) : Prop := ∀ b o, H b = some o → b ∉ W → H' b = some o
structure Yld (K : PySem.W.Frag) (N : Nw) (W : List Addr) (H1 : Hp) (J : It) (items : List (D × Bool)) : Prop where
  go : ∀ i d al H2, items[i]? = some (d, al) → Kept H1 W H2 → J.go i H2
  yld : ∀ i d al H2 x H3, items[i]? = some (d, al) → Kept H1 W H2 → J.yld i H2 x H3 → Same H2 H3 ∧ Rp K (fun a => SR N W al false a ∧ H1 a ≠ none) H3 .shr x d []
  stop : ∀ H2, Kept H1 W H2 → J.stop items.length H2
def tI (K : PySem.W.Frag) (f : EvI) : TI := fun σ H R => ∃ N H0 ρ L W items, SimH K N H0 ρ σ H L W ∧ f ρ = some items ∧ ∀ J H1, Same H H1 → Yld K N W H1 J items → R J H1
abbrev PIv (X : Cx) (tg iter : Expr) (f : EvI) : Prop := PI X tg iter (tI X.K f)
theorem imp_i {X : Cx} {tg e : Expr} {t t' : TI} (h : PI X tg e t) (i : ∀ σ H R, t' σ H R → t σ H R) : PI X tg e t' := ⟨fun p s σ H R I w => h.run p s σ H R I (i σ H R w)⟩
structure YldS (K : PySem.W.Frag) (N : Nw) (W : List Addr) (H1 : Hp) (J : It) (items : List (D × Bool)) : Prop where
  go : ∀ i d al H2, items[i]? = some (d, al) → Same H1 H2 → J.go i H2
  yld : ∀ i d al H2 x H3, items[i]? = some (d, al) → Same H1 H2 → J.yld i H2 x H3 → Same H2 H3 ∧ Rp K (fun a => SR N W al false a ∧ H1 a ≠ none) H3 .shr x d []
  stop : ∀ H2, Same H1 H2 → J.stop items.length H2
theorem Yld.s {K : PySem.W.Frag} {N : Nw} {W : List Addr} {H1 : Hp} {J : It} {items : List (D × Bool)} (Y : Yld K N W H1 J items) : YldS K N W H1 J items where
  go := fun i d al H2 e s => Y.go i d al H2 e fun b o e _ => s b o e
  yld := fun i d al H2 x H3 e s y => Y.yld i d al H2 x H3 e (fun b o e _ => s b o e) y
  stop := fun H2 s => Y.stop H2 fun b o e _ => s b o e
def tIs (K : PySem.W.Frag) (f : EvI) : TI := fun σ H R => ∃ N H0 ρ L W items, SimH K N H0 ρ σ H L W ∧ f ρ = some items ∧ ∀ J H1, Same H H1 → YldS K N W H1 J items → R J H1
abbrev PIvs (X : Cx) (tg iter : Expr) (f : EvI) : Prop := PI X tg iter (tIs X.K f)
theorem pis {X : Cx} {tg e : Expr} {f : EvI} (h : PIv X tg e f) : PIvs X tg e f := imp_i h fun σ H R ⟨N, H0, ρ, L, W, items, sim, z, q⟩ => ⟨N, H0, ρ, L, W, items, sim, z, fun J H1 s Y => q J H1 s Y.s⟩
section
variable {K : PySem.W.Frag} {N : Nw} {H0 H H' : Hp} {ρ : Env} {σ : St} {L W : List Addr}
theorem Rp.kept {S : Addr → Prop} {v : V} {d : D} (r : Rp K (fun a => S a ∧ a ∉ W) H .shr v d []) (m : ∀ a ∈ W, Mut (H a)) (k : Kept H W H') : Rp K (fun a => S a ∧ a ∉ W) H' .shr v d [] :=
  r.keep fun b o e q => k b o e (by
    rcases q with q | q | ⟨xs, rfl⟩ | ⟨o', u, rfl⟩
    · exact q.2
    · exact nomatch q
    · intro z; have := m b z; rw [e] at this; exact this
    · intro z; have := m b z; rw [e] at this; exact this)
end
section
variable {X : Cx} {tg e : Expr} {fe : EvE} {pos : Pos} {body : List Stmt} {t : Tg} {b : EvS} {it : EvI}
def iLst (fe : EvE) : EvI := fun ρ => (fe ρ).bind fun x => if x.vw = true then none else match x.d with
  | .lst ds => some (ds.map fun d => (d, x.al))
  | .fl ds => some (ds.map fun d => (d, x.al))
  | _ => none
theorem yld_list {K : PySem.W.Frag} {N : Nw} {W : List Addr} {H1 : Hp} {a : Addr} {vs : List V} {ds : List D} {al : Bool} (hl : ∀ H2, Kept H1 W H2 → SqL K H2 a vs) (hm : ∀ b ∈ W, Mut (H1 b)) (r : Rps K (SR N W al false) H1 .shr vs ds []) : Yld K N W H1 (Itl K a) (ds.map fun d => (d, al)) where
  go := fun i d al' H2 e k => by
    rw [List.getElem?_map] at e
    obtain ⟨d', e1, e2⟩ := Option.map_eq_some_iff.mp e
    obtain ⟨v, G, e3, _⟩ := r.get e1
    exact ⟨vs, v, hl H2 k, e3⟩
  yld := fun i d al' H2 x H3 e k y => by
    rw [List.getElem?_map] at e
    obtain ⟨d', e1, e2⟩ := Option.map_eq_some_iff.mp e
    cases e2
    obtain ⟨v, G, e3, rp, sub⟩ := r.get e1
    obtain ⟨e4, y⟩ := y
    subst e4
    have := y vs (hl _ k)
    rw [e3] at this
    cases this
    have hG : G = [] := rp.shr0
    subst hG
    refine ⟨Same.refl _, ?_⟩
    have z := (rp.trk.mono (S' := fun a => (AlN N al a ∧ H1 a ≠ none) ∧ a ∉ W) fun a z => ⟨⟨z.1.1, z.2⟩, z.1.2 rfl⟩).kept hm k
    exact z.mono fun a z => ⟨⟨z.1.1, fun _ => z.2⟩, z.1.2⟩
  stop := fun H2 k => ⟨vs, hl H2 k, by rw [List.length_map, r.len]; exact Nat.le_refl _⟩
theorem Kept.same {H1 H2 : Hp} {W W' : List Addr} (k : Kept H1 W H2) (h : ∀ a ∈ W, a ∈ W') : Kept H1 W' H2 := fun b o e n => k b o e fun z => n (h b z)
theorem i_lst (he : PEv X e fe) : PIv X tg e (iLst fe) := by
  refine imp_i (pi_list he) fun σ H R ⟨N, H0, ρ, L, W, items, sim, z, q⟩ => ?_
  unfold iLst at z
  obtain ⟨x, e1, z⟩ := bind_some z
  split at z
  · cases z
  · rename_i hv
    have hv : x.vw = false := by simpa using hv
    refine one sim e1 fun v H1 F s1 n1 d1 p1 => ?_
    have new : ∀ a ∈ F, N a ∧ a ∉ W := fun a m => ⟨sim.nw a (n1 a m), fun w => sim.th a w (n1 a m)⟩
    have muW : ∀ b ∈ W, Mut (H1 b) := fun b z => mut_same (sim.mu b z) s1
    split at z
    · rename_i ds hd
      cases z
      rw [hd] at p1
      have p2 := p1.give (S' := SR N W x.al false) (fun a z => ⟨z.1.1, fun _ => z.1.2 hv⟩) fun a m => ⟨.new (new a m).1, fun _ => (new a m).2⟩
      cases p2 with
      | nd0 hn h1 h2 h3 =>
        cases hn
        refine ⟨_, rfl, ⟨_, SqL.of h1.lst⟩, q _ H1 s1 (yld_list (fun H2 k => SqL.of (k _ _ h1.lst (h2.2 rfl))) muW h3)⟩
    · rename_i ds hd
      cases z
      rw [hd] at p1
      have p2 := p1.give (S' := SR N W x.al false) (fun a z => ⟨z.1.1, fun _ => z.1.2 hv⟩) fun a m => ⟨.new (new a m).1, fun _ => (new a m).2⟩
      obtain ⟨a, vs, rfl, h1, h2, _⟩ := p2.fl_inv
      refine ⟨a, rfl, ⟨_, h1.sq⟩, q _ H1 s1 (yld_list (fun H2 k => ?_) muW h2)⟩
      rcases h1 with ⟨o, h1⟩ | h1
      · refine .inl (.inr ⟨o, k _ _ h1 fun w => ?_⟩)
        have := muW a w
        rw [h1] at this
        exact this
      · exact .inr h1
    · cases z
def iLstV (fe : EvE) : EvI := fun ρ => (fe ρ).bind fun x => match x.d with
  | .lst ds => if immAll ds = true then some (ds.map fun d => (d, false)) else if x.vw = true then none else some (ds.map fun d => (d, x.al))
  | .fl ds => if immAll ds = true then some (ds.map fun d => (d, false)) else if x.vw = true then none else some (ds.map fun d => (d, x.al))
  | _ => none
theorem yldS_imm {K : PySem.W.Frag} {N : Nw} {W : List Addr} {H1 : Hp} {a : Addr} {vs : List V} {ds : List D} {S : Addr → Prop} {l : Lv} {F : List Addr} (hl : ∀ H2, Same H1 H2 → SqL K H2 a vs) (r : Rps K S H1 l vs ds F) (hi : immAll ds = true) : YldS K N W H1 (Itl K a) (ds.map fun d => (d, false)) where
  go := fun i d al' H2 e k => by
    rw [List.getElem?_map] at e
    obtain ⟨d', e1, e2⟩ := Option.map_eq_some_iff.mp e
    obtain ⟨v, G, e3, _⟩ := r.get e1
    exact ⟨vs, v, hl H2 k, e3⟩
  yld := fun i d al' H2 x H3 e k y => by
    rw [List.getElem?_map] at e
    obtain ⟨d', e1, e2⟩ := Option.map_eq_some_iff.mp e
    obtain ⟨e5, e6⟩ := Prod.mk.inj e2
    obtain ⟨v, G, e3, rp, sub⟩ := r.get e1
    obtain ⟨e4, y⟩ := y
    subst e4
    have := y vs (hl _ k)
    rw [e3] at this
    cases this
    subst e5
    have hd : imm d' = true := by
      rw [immAll_all] at hi
      exact List.all_eq_true.mp hi d' (List.mem_of_getElem? e1)
    subst e6
    exact ⟨Same.refl _, ((rp.same k).of_imm hd).2⟩
  stop := fun H2 k => ⟨vs, hl H2 k, by rw [List.length_map, r.len]; exact Nat.le_refl _⟩
theorem i_lstV (he : PEv X e fe) : PIvs X tg e (iLstV fe) := by
  refine imp_i (pi_list he) fun σ H R ⟨N, H0, ρ, L, W, items, sim, z, q⟩ => ?_
  unfold iLstV at z
  obtain ⟨x, e1, z⟩ := bind_some z
  refine one sim e1 fun v H1 F s1 n1 d1 p1 => ?_
  have new : ∀ a ∈ F, N a ∧ a ∉ W := fun a m => ⟨sim.nw a (n1 a m), fun w => sim.th a w (n1 a m)⟩
  have muW : ∀ b ∈ W, Mut (H1 b) := fun b z => mut_same (sim.mu b z) s1
  split at z
  · rename_i ds hd
    rw [hd] at p1
    split at z
    · rename_i hi
      cases z
      obtain ⟨a, vs, G, rfl, h1, h2, _⟩ := p1.lst_inv
      exact ⟨a, rfl, ⟨_, SqL.of h1⟩, q _ H1 s1 (yldS_imm (fun H2 k => SqL.of (k _ _ h1)) h2 hi)⟩
    · split at z
      · cases z
      · rename_i hv
        have hv : x.vw = false := by simpa using hv
        cases z
        have p2 := p1.give (S' := SR N W x.al false) (fun a z => ⟨z.1.1, fun _ => z.1.2 hv⟩) fun a m => ⟨.new (new a m).1, fun _ => (new a m).2⟩
        cases p2 with
        | nd0 hn h1 h2 h3 =>
          cases hn
          refine ⟨_, rfl, ⟨_, SqL.of h1.lst⟩, q _ H1 s1 (yld_list (fun H2 k => SqL.of (k _ _ h1.lst (h2.2 rfl))) muW h3).s⟩
  · rename_i ds hd
    rw [hd] at p1
    split at z
    · rename_i hi
      cases z
      obtain ⟨a, vs, rfl, h1, h2, _⟩ := p1.fl_inv
      refine ⟨a, rfl, ⟨_, h1.sq⟩, q _ H1 s1 (yldS_imm (fun H2 k => ?_) h2 hi)⟩
      rcases h1 with ⟨o, h1⟩ | h1
      · exact .inl (.inr ⟨o, k _ _ h1⟩)
      · exact .inr h1
    · split at z
      · cases z
      · rename_i hv
        have hv : x.vw = false := by simpa using hv
        cases z
        have p2 := p1.give (S' := SR N W x.al false) (fun a z => ⟨z.1.1, fun _ => z.1.2 hv⟩) fun a m => ⟨.new (new a m).1, fun _ => (new a m).2⟩
        obtain ⟨a, vs, rfl, h1, h2, _⟩ := p2.fl_inv
        refine ⟨a, rfl, ⟨_, h1.sq⟩, q _ H1 s1 (yld_list (fun H2 k => ?_) muW h2).s⟩
        rcases h1 with ⟨o, h1⟩ | h1
        · refine .inl (.inr ⟨o, k _ _ h1 fun w => ?_⟩)
          have := muW a w
          rw [h1] at this
          exact this
        · exact .inr h1
  · cases z
def iRng (lo : Int) (n : Nat) : List (D × Bool) := (List.range n).map fun (i : Nat) => (D.int (lo + (i : Int)), false)
theorem iRng_get {lo : Int} {n i : Nat} {d : D} {al : Bool} (h : (iRng lo n)[i]? = some (d, al)) : i < n ∧ d = .int (lo + (i : Int)) ∧ al = false := by
  unfold iRng at h
  rw [List.getElem?_map] at h
  obtain ⟨j, e1, e2⟩ := Option.map_eq_some_iff.mp h
  obtain ⟨h1, h2⟩ := List.getElem?_eq_some_iff.mp e1
  rw [List.getElem_range] at h2
  subst h2
  cases e2
  exact ⟨by simpa using h1, rfl, rfl⟩
theorem yld_rng {K : PySem.W.Frag} {N : Nw} {W : List Addr} {H1 : Hp} {lo : Int} {n : Nat} : Yld K N W H1 (Itr lo n) (iRng lo n) where
  go := fun i d al H2 e k => (iRng_get e).1
  yld := fun i d al H2 x H3 e k y => by
    obtain ⟨h1, rfl, rfl⟩ := iRng_get e
    obtain ⟨e1, e2⟩ := y
    subst e1 e2
    exact ⟨Same.refl _, .int⟩
  stop := fun H2 k => by
    show n ≤ (iRng lo n).length
    unfold iRng
    rw [List.length_map, List.length_range]
    exact Nat.le_refl _
def iRange (ga : EvA) : EvI := fun ρ => (ga ρ).bind fun (rs : List Rv) => match (rs.map Rv.d : List D) with
  | [.int j] => if -(2 ^ 62) ≤ j ∧ j < 2 ^ 62 then some (iRng 0 j.toNat) else none
  | [.int i, .int j] => if -(2 ^ 62) ≤ i ∧ i < 2 ^ 62 ∧ -(2 ^ 62) ≤ j ∧ j < 2 ^ 62 then some (iRng i (j - i).toNat) else none
  | _ => none
theorem RpL.ints {K : PySem.W.Frag} {N : Nw} {W T : List Addr} {H : Hp} : ∀ {vs : List V} {rs : List Rv} {F : List Addr} {ns : List Int}, RpL K N W T H vs rs F → rs.map (·.d) = ns.map .int → vs = ns.map V.int
  | _, _, _, [], .nil, _ => rfl
  | _, _, _, _ :: _, .nil, e => by cases e
  | _, _, _, [], .cons _ _, e => by cases e
  | _, _, _, n :: ns, .cons h1 h2, e => by
    have e := List.cons.inj e
    have e1 : _ = D.int n := e.1
    rw [show Rv.d _ = D.int n from e1] at h1
    rw [h1.int_inv.1, RpL.ints h2 e.2]
    rfl
theorem i_range1 {a : Expr} {ga : EvA} {p : Pos} (hm : X.mg "range" = none) (ha : PAv X [a] ga) (hl : ∀ ρ rs, ga ρ = some rs → rs.length = 1) (hg : Gl X "range" := by rfl) (hs : starEach [a] X.env = [(false, eval a X.env)] := by rfl) : PIv X tg (.Call (.Name "range" p) [a] [] pos) (iRange ga) := by
  refine imp_i (pi_range1 hg hm ha hs) fun σ H R ⟨N, H0, ρ, L, W, items, sim, z, q⟩ => ?_
  unfold iRange at z
  obtain ⟨rs, e1, z⟩ := bind_some z
  refine ⟨N, H0, ρ, L, W, rs, sim, e1, fun vs H1 T s1 n1 d1 p1 => ?_⟩
  split at z
  · rename_i j hd
    split at z
    · rename_i hc
      cases z
      have := p1.ints (ns := [j]) hd
      subst this
      exact ⟨j, rfl, hc.1, hc.2, q _ H1 s1 yld_rng⟩
    · cases z
  · rename_i i j hd
    have h1 := congrArg List.length hd
    rw [List.length_map, hl ρ rs e1] at h1
    cases h1
  · cases z
def forL (t : Tg) (b : EvS) : List (D × Bool) → Env → Option Out
  | [], ρ => some (.nx ρ)
  | (d, al) :: r, ρ => (tgSet t d al ρ).bind fun ρ1 => (b ρ1).bind fun o => match o with
    | .nx ρ2 => forL t b r ρ2
    | .ct ρ2 => forL t b r ρ2
    | .bk ρ2 => some (.nx ρ2)
    | .rt ρ2 d l al => some (.rt ρ2 d l al)
def sFor (fz : List Nat) (it : EvI) (t : Tg) (b : EvS) : EvS := fun ρ => (it (frzs fz ρ)).bind fun items => forL t b items (frzs fz ρ)
theorem s_for (fz : List Nat) (hc : X.calm = true) (hi : PIv X tg e it) (hg : PGv X tg t) (hb : PSsv X body b) (hp : PassesOwn (model X.prog X.w) X.A X.env X.xe := by exact PassesOwn.never) (hs : ∀ x, foldedSetIterable e X.env x = pure x := by intro _; rfl) : PSv X (.For tg e body [] pos) (sFor fz it t b) := by
  refine imp_s (ps_for hp hc hi hg hb hs) fun D σ H ⟨N, H0, ρ, L0, o, sim0, z, q0⟩ => ?_
  unfold sFor at z
  obtain ⟨L, sim, subL⟩ := sim0.frzs fz
  have q := q0.at_ (H1 := H) (L1 := L) ⟨fun _ _ e _ => e, fun _ e => .inl e, fun b z => .inl (subL b z)⟩
  obtain ⟨items, e1, z⟩ := bind_some z
  refine ⟨N, H0, _, L, L, items, sim.h, e1, fun J H1 s1 Y => ?_⟩
  refine ⟨fun i m σ' H' => m = items.length - i ∧ i ≤ items.length ∧ ∃ ρ' L', Sim X.K N H0 ρ' σ' H' L' ∧ Frm H1 L H' L' ∧ forL t b (items.drop i) ρ' = some o ∧ PostS X.K N H0 H' L' o D,
    ⟨items.length, by simp, Nat.zero_le _, _, L, sim.same s1, Frm.refl _ _, by simpa using z, q.at_ (Frm.same s1 fun b z => .inl z)⟩, ?_⟩
  rintro i m σ' H' ⟨rfl, hi, ρ', L', sim', fr, zi, qi⟩
  have kept : Kept H1 L H' := fr.1
  by_cases hlt : i < items.length
  · obtain ⟨⟨d, al⟩, ei⟩ : ∃ x, items[i]? = some x := ⟨items[i], List.getElem?_eq_getElem hlt⟩
    have ed : items.drop i = (d, al) :: items.drop (i + 1) := by
      rw [List.drop_eq_getElem_cons hlt]
      have := List.getElem?_eq_getElem hlt
      rw [ei] at this
      rw [← Option.some.inj this]
    rw [ed] at zi
    unfold forL at zi
    obtain ⟨ρ1, et, zi⟩ := bind_some zi
    obtain ⟨ob, eb, zi⟩ := bind_some zi
    refine .inr ⟨Y.go i d al H' ei kept, fun σ'' H'' => ∃ m', m' < items.length - i ∧ (m' = items.length - (i + 1) ∧ i + 1 ≤ items.length ∧ ∃ ρ' L', Sim X.K N H0 ρ' σ'' H'' L' ∧ Frm H1 L H'' L' ∧ forL t b (items.drop (i + 1)) ρ' = some o ∧ PostS X.K N H0 H'' L' o D), fun _ _ h => h, fun x H3 y => ?_⟩
    obtain ⟨s3, r3⟩ := Y.yld i d al H' x H3 ei kept y
    have fr3 : Frm H' L' H3 L' := Frm.same s3 fun b z => .inl z
    refine ⟨N, H0, ρ', L', L', d, al, ρ1, (sim'.same s3).h, r3.mono fun a z => ⟨z.1.1, fun _ w => (fr.2.2 a w).elim (z.1.2 rfl) z.2⟩, et, fun σ2 L2 sim2 sub2 _ => ?_⟩
    have fr2 : Frm H' L' H3 L2 := Frm.same s3 fun b z => .inl (sub2 b z)
    refine ⟨N, H0, ρ1, L2, ob, sim2.sim, eb, ?_⟩
    have again : ∀ {ρ2 : Env}, forL t b (items.drop (i + 1)) ρ2 = some o → ∀ σ4 H4 L4, Sim X.K N H0 ρ2 σ4 H4 L4 → Frm H3 L2 H4 L4 → ∃ m', m' < items.length - i ∧ (m' = items.length - (i + 1) ∧ i + 1 ≤ items.length ∧ ∃ ρ' L', Sim X.K N H0 ρ' σ4 H4 L' ∧ Frm H1 L H4 L' ∧ forL t b (items.drop (i + 1)) ρ' = some o ∧ PostS X.K N H0 H4 L' o D) :=
      fun z4 σ4 H4 L4 sim4 fr4 => ⟨_, by omega, rfl, hlt, _, L4, sim4, fr.trans (fr2.trans fr4), z4, qi.at_ (fr2.trans fr4)⟩
    cases ob with
    | nx ρ2 => exact again zi
    | ct ρ2 => exact again zi
    | bk ρ2 => cases zi; exact fun σ4 H4 L4 sim4 fr4 => qi σ4 H4 L4 sim4 (fr2.trans fr4)
    | rt ρ2 d l al => cases zi; exact qi.at_ fr2
  · have ei : i = items.length := by omega
    subst ei
    rw [List.drop_length] at zi
    unfold forL at zi
    cases zi
    exact .inl ⟨Y.stop H' kept, qi σ' H' L' sim' (Frm.refl _ _)⟩
def whL (c : EvT) (b : EvS) : Nat → Env → Option Out
  | 0, _ => none
  | n + 1, ρ => (c ρ).bind fun k => if k = true then (b ρ).bind fun o => match o with
      | .nx ρ2 => whL c b n ρ2
      | .ct ρ2 => whL c b n ρ2
      | .bk ρ2 => some (.nx ρ2)
      | .rt ρ2 d l al => some (.rt ρ2 d l al)
    else some (.nx ρ)
def fuel : Nat := 10 ^ 9
def sWhile (c : EvT) (b : EvS) : EvS := whL c b fuel
theorem s_while {c : Expr} {gc : EvT} (ht : PTv X c gc) (hb : PSsv X body b) (hp : PassesOwn (model X.prog X.w) X.A X.env X.xe := by exact PassesOwn.never) : PSv X (.While c body [] pos) (sWhile gc b) := by
  refine imp_s (ps_while hp ht hb) fun D σ H ⟨N, H0, ρ, L, o, sim, z, q⟩ => ?_
  unfold sWhile at z
  refine ⟨fun m σ' H' => ∃ ρ' L', Sim X.K N H0 ρ' σ' H' L' ∧ whL gc b m ρ' = some o ∧ PostS X.K N H0 H' L' o D, ⟨fuel, ρ, L, sim, z, q⟩, ?_⟩
  rintro m σ' H' ⟨ρ', L', sim', zi, qi⟩
  cases m with
  | zero => cases zi
  | succ m =>
    unfold whL at zi
    obtain ⟨k, ek, zi⟩ := bind_some zi
    refine ⟨N, H0, ρ', L', L', k, sim'.h, ek, fun H1 s1 => ?_⟩
    have fr1 : Frm H' L' H1 L' := Frm.same s1 fun b z => .inl z
    cases k with
    | false => cases zi; exact iteF (qi σ' H1 L' (sim'.same s1) fr1)
    | true =>
      rw [if_pos rfl] at zi
      obtain ⟨ob, eb, zi⟩ := bind_some zi
      refine iteT ⟨fun σ'' H'' => ∃ m', m' < m + 1 ∧ ∃ ρ' L', Sim X.K N H0 ρ' σ'' H'' L' ∧ whL gc b m' ρ' = some o ∧ PostS X.K N H0 H'' L' o D, fun _ _ h => h, N, H0, ρ', L', ob, sim'.same s1, eb, ?_⟩
      cases ob with
      | nx ρ2 => exact fun σ4 H4 L4 sim4 fr4 => ⟨m, Nat.lt_succ_self m, ρ2, L4, sim4, zi, qi.at_ (fr1.trans fr4)⟩
      | ct ρ2 => exact fun σ4 H4 L4 sim4 fr4 => ⟨m, Nat.lt_succ_self m, ρ2, L4, sim4, zi, qi.at_ (fr1.trans fr4)⟩
      | bk ρ2 => cases zi; exact fun σ4 H4 L4 sim4 fr4 => qi σ4 H4 L4 sim4 (fr1.trans fr4)
      | rt ρ2 d l al => cases zi; exact qi.at_ fr1
end
def entry (m : Nat) (ds : List D) : Env := ds.map (fun d => some ⟨d, .shr, true, none⟩) ++ List.replicate (m - ds.length) none
def run (body : EvS) (m : Nat) (ds : List D) : Option RetD := (body (entry m ds)).bind fun o => match o with
  | .rt _ d l al => some (d, l, al)
  | .nx _ => some (.non, .full, false)
  | _ => none
theorem slots_none {K : PySem.W.Frag} {N : Nw} {L : List Addr} {H : Hp} : ∀ n : Nat, Slots K N L H (List.replicate n none) (List.replicate n none) []
  | 0 => .nil
  | n + 1 => .no (slots_none n)
theorem slots_args {K : PySem.W.Frag} {N : Nw} {L : List Addr} {H : Hp} {n : Nat} (hL : ∀ a, N.s a → a ∉ L) : ∀ {vs : List V} {ds : List D}, Rps K N.s H .shr vs ds [] → Slots K N L H (vs.map some ++ List.replicate n none) (ds.map (fun d => some ⟨d, .shr, true, none⟩) ++ List.replicate n none) []
  | vs, ds, h => by
    generalize hF : ([] : List Addr) = F at h
    cases h with
    | nil => exact slots_none n
    | cons h1 h2 =>
      have e1 := h1.shr0
      have e2 := h2.shr0
      subst e1 e2
      exact Slots.so (s := ⟨_, .shr, true, none⟩) (F := []) (G := []) (fun _ z => nomatch z) (h1.mono fun a z => ⟨⟨.inr z, (fun e => (nomatch e))⟩, fun _ => hL a z⟩) (slots_args hL h2)
theorem def_ok {P : Program} {w : World} {K : PySem.W.Frag} {mg : Str → Option Value} {base : Heap} {x qual : Str} {st : Stmt} {f : Addr} {fd : FuncData} {N ps : List Str} {k : Nat} {body : EvS} (F : Fun K x qual st f fd) (S : FnScope N ps (defScope st))
    (hb : ∀ (cdv : Value) (A : Around) (outer : List PySem.Env) (s : Shared) (H : Hp) (E : XK), Room k (A.deeper (envOfC qual (defScope st) s.heap.objs.size f cdv)) → PSsv (cxOf CX0 P w K mg base N qual (defScope st) f cdv A outer s H E).nox (defBody st) body) :
    FnOk P w K mg base CX0 (k + 1) f fd ps (spD K ps.length (run body N.length)) := by
  refine F.ok S (fun vs H Q E h => h.1) (fun cdv A outer s H vs Q E hr h => ?_)
  obtain ⟨hl, Sx, ds, r, rp, hrun, q⟩ := h
  refine ⟨_, hb cdv A outer s H E hr, ?_⟩
  unfold run at hrun
  obtain ⟨o, e1, hrun⟩ := bind_some hrun
  refine ⟨⟨fun a => H a = none, Sx, fun _ => 0⟩, H, entry N.length ds, [], o, ⟨fun b o e _ => e, fun b e => e, List.nodup_nil, (fun _ z => nomatch z), (fun _ z => nomatch z), ?_⟩, e1, ?_⟩
  · unfold entry L2.start
    rw [rp.len]
    exact slots_args (N := ⟨fun a => H a = none, Sx, fun _ => 0⟩) (L := []) (fun _ _ z => nomatch z) rp
  · cases o with
    | nx ρ =>
      cases hrun
      exact fun σ' H' L' sim fr => q .non H' [] (fun b o e => fr.1 b o e fun z => nomatch z) (fun _ z => nomatch z) .nil .non
    | rt ρ d l al =>
      cases hrun
      refine fun v σ' H' L' F sim _ rp => q v H' F (fun b o e => sim.kp b o e (fun z => by have z : H b = none := z; rw [e] at z; cases z)) (fun a z => sim.ln a (List.mem_append_right _ z)) (List.nodup_append.mp sim.nd).2.1 (rp.mono fun a z => ⟨?_, z.2.1⟩)
      cases al with
      | false => exact .inl (z.1.2 rfl)
      | true => exact z.1.1.imp id fun y => ⟨rfl, y⟩
    | bk ρ => cases hrun
    | ct ρ => cases hrun
end Ev
set_option Elab.async false
set_option linter.all false
set_option maxRecDepth 100000
namespace Ev
open PySem PySem.Spec L2
open PyProof.Rows hiding St
def lcL (t : Tg) (c : EvT) (e : EvE) (ρ : Env) : List (D × Bool) → Option (List Rv)
  | [] => some []
  | (d, al) :: r => (tgSet t d al ρ).bind fun ρ1 => (c ρ1).bind fun k => if k = true then (e ρ1).bind fun x => if x.vw = true then none else (lcL t c e ρ r).map (x :: ·) else lcL t c e ρ r
def mkBig (rs : List Rv) : Option Rv :=
  if rs.length ≤ 1000000 then some (if rs.all (fun r => !r.vw && decide (r.l = .full)) = true then ⟨.lst (rs.map (·.d)), .full, rs.any (·.al), false⟩ else ⟨.lst (rs.map (·.d)), .top, rs.any (·.al), false⟩) else none
def eLc (it : EvI) (vs : List Nat) (t : Tg) (c : EvT) (e : EvE) : EvE := fun ρ => (it ρ).bind fun items => (lcL t c e (wipeE vs ρ) items).bind mkBig
def tYes : EvT := fun _ => some true
section
variable {K : PySem.W.Frag} {N : Nw} {H0 H H' : Hp} {ρ : Env} {σ : St} {L W T : List Addr}
theorem SimH.wipe : ∀ (vs : List Nat), SimH K N H0 ρ σ H L W → ∃ L', SimH K N H0 (wipeE vs ρ) (L2.wipe σ vs) H L' W ∧ ∀ a ∈ L', a ∈ L
  | [], s => ⟨L, s, fun _ z => z⟩
  | i :: is, s => by
    obtain ⟨L1, s1, h1⟩ := SimH.wipe is s
    obtain ⟨L2, s2, h2⟩ := s1.drop1 i
    exact ⟨L2, s2, fun a z => h1 a (h2 a z)⟩
theorem SimH.put {a : Addr} {o : HO} (s : SimH K N H0 ρ σ H L W) (ha : a ∈ W) (hl : a ∉ L) (m : Mut (some o)) : SimH K N H0 ρ σ (upd H a o) L W where
  kp := fun b u e n => by rw [upd_ne (fun z => n (by rw [z]; exact s.ln a ha))]; exact s.kp b u e n
  nw := fun b e => by
    by_cases z : b = a
    · rw [z]; exact s.ln a ha
    · rw [upd_ne z] at e; exact s.nw b e
  nd := s.nd
  ln := s.ln
  mu := fun b hb => by
    by_cases z : b = a
    · rw [z, upd_same]; exact m
    · rw [upd_ne z]; exact s.mu b hb
  sl := s.sl.keep fun al => fun b u e q => by
    have : b ≠ a := fun z => by
      subst z
      rcases q with q | q | ⟨xs, rfl⟩ | ⟨o', u', rfl⟩
      · exact q.2 rfl ha
      · exact hl q
      · have := s.mu b ha; rw [e] at this; exact this
      · have := s.mu b ha; rw [e] at this; exact this
    rw [upd_ne this]
    exact e
  sub := s.sub
  ndl := s.ndl
theorem RpL.same (s : Same H H') : ∀ {vs : List V} {rs : List Rv} {F : List Addr}, RpL K N W T H vs rs F → RpL K N W T H' vs rs F
  | _, _, _, .nil => .nil
  | _, _, _, .cons h1 h2 => .cons (h1.same s) (RpL.same s h2)
theorem RpL.grow {W' T' : List Addr} (h : ∀ a, H a ≠ none → (a ∉ W → a ∉ W') ∧ (a ∉ T → a ∉ T')) : ∀ {vs : List V} {rs : List Rv} {F : List Addr}, RpL K N W T H vs rs F → RpL K N W' T' H vs rs F
  | _, _, _, .nil => .nil
  | _, _, _, .cons h1 h2 => .cons (h1.trk.mono fun a z => ⟨⟨z.1.1.1, fun e => (h a z.2).1 (z.1.1.2 e)⟩, fun e => (h a z.2).2 (z.1.2 e)⟩) (RpL.grow h h2)
theorem RpL.snoc {r : Rv} {v : V} {G : List Addr} (p : Rp K (fun a => SR N W r.al r.vw a ∧ (r.vw = false → a ∉ T)) H r.l v r.d G) : ∀ {vs : List V} {rs : List Rv} {F : List Addr}, RpL K N W T H vs rs F → RpL K N W T H (vs ++ [v]) (rs ++ [r]) (F ++ G)
  | _, _, _, .nil => by have := RpL.cons p .nil; rw [List.append_nil] at this; exact this
  | _, _, _, .cons h1 h2 => by rw [List.append_assoc]; exact .cons h1 (RpL.snoc p h2)
theorem RpL.put {a : Addr} {o : HO} (ha : a ∈ W) (m : Mut (H a)) : ∀ {vs : List V} {rs : List Rv} {F : List Addr}, RpL K N W T H vs rs F → (∀ r ∈ rs, r.vw = false) → a ∉ F → RpL K N W T (upd H a o) vs rs F
  | _, _, _, .nil, _, _ => .nil
  | _, _, _, .cons h1 h2, hv, hF => .cons (h1.keep fun b u e q => by
      have : b ≠ a := fun z => by
        subst z
        rcases q with q | q | ⟨xs, rfl⟩ | ⟨o', u', rfl⟩
        · exact q.1.2 (hv _ List.mem_cons_self) ha
        · exact hF (List.mem_append_left _ q)
        · rw [e] at m; exact m
        · rw [e] at m; exact m
      rw [upd_ne this]
      exact e) (RpL.put ha m h2 (fun r z => hv r (List.mem_cons_of_mem _ z)) fun z => hF (List.mem_append_right _ z))
end
theorem wipe_get {σ : St} : ∀ {vs : List Nat} {j : Nat}, j ∈ vs → j < σ.length → (L2.wipe σ vs)[j]? = some none
  | v :: vs, j, h, hl => by
    unfold L2.wipe
    by_cases e : v = j
    · subst e
      rw [List.getElem?_set_self (by rw [wipe_length]; exact hl)]
    · rw [List.getElem?_set_ne e]
      exact wipe_get ((List.mem_cons.mp h).elim (fun z => absurd z.symm e) id) hl
theorem wipe_eq {σ σ' : St} {vs js : List Nat} (t : Touch js (L2.wipe σ vs) σ') (h : ∀ j ∈ js, j ∈ vs) : L2.wipe σ' vs = L2.wipe σ vs := by
  apply List.ext_getElem?
  intro j
  have hlen : σ'.length = σ.length := t.1.trans (wipe_length σ vs)
  by_cases hj : j ∈ vs
  · by_cases hl : j < σ.length
    · rw [wipe_get hj hl, wipe_get hj (by rw [hlen]; exact hl)]
    · rw [List.getElem?_eq_none (by rw [wipe_length, hlen]; omega), List.getElem?_eq_none (by rw [wipe_length]; omega)]
  · rw [wipe_out hj, t.2 j (fun z => hj (h j z))]
section
variable {X : Cx}
theorem imp_ts {X : Cx} {e : List Expr} {t t' : TT} (h : PTs X e t) (i : ∀ σ H Q, t' σ H Q → t σ H Q) : PTs X e t' := ⟨fun p s σ H Q I w => h.run p s σ H Q I (i σ H Q w)⟩
abbrev PTsv (X : Cx) (ifs : List Expr) (c : EvT) : Prop := PTs X ifs (tT X.K c)
theorem ts_nil : PTsv X [] tYes := imp_ts pts_nil fun σ H Q ⟨N, H0, ρ, L, W, k, sim, z, q⟩ => by cases z; exact q H (Same.refl H)
theorem ts_one {c : Expr} {gc : EvT} (h : PTv X c gc) : PTsv X [c] gc := pts_one h
theorem lc_core {vs : List Nat} {t : Tg} {c : EvT} {e : EvE} (hv : (tgSlots t).all (fun j => decide (j ∈ vs)) = true) {N : Nw} {H0 : Hp} {ρ : Env} {L W : List Addr} {items : List (D × Bool)} {rs : List Rv} {r : Rv} {σ : St} {H H1 : Hp} {J : It} {Q : VK} (sim : SimH X.K N H0 ρ σ H L W) (e2 : lcL t c e (wipeE vs ρ) items = some rs) (z : mkBig rs = some r) (q : Post X.K N W H r Q) (s1 : Same H H1) (Y : YldS X.K N W H1 J items) : tLc (fun _ _ R => R J H1) (tG X.K t) (tT X.K c) (tE X.K e) vs σ H Q := by
  have hv : ∀ j ∈ tgSlots t, j ∈ vs := fun j z => of_decide_eq_true (List.all_eq_true.mp hv j z)
  unfold mkBig at z
  split at z
  · rename_i hlen
    refine fun A nA => ?_
    obtain ⟨Lw, simw, subw⟩ := (sim.same s1).wipe vs
    have nAW : A ∉ W := fun w => sim.th A w (s1.free nA)
    refine ⟨fun i m Hc => m = items.length - i ∧ i ≤ items.length ∧ ∃ (r1 r2 : List Rv) (acc : List V) (T : List Addr), Hc A = some (.lst acc) ∧ RpL X.K N (W ++ [A]) T Hc acc r1 T ∧ SimH X.K N H0 (wipeE vs ρ) (L2.wipe σ vs) Hc Lw ((W ++ [A]) ++ T) ∧
      lcL t c e (wipeE vs ρ) (items.drop i) = some r2 ∧ rs = r1 ++ r2 ∧ (∀ r ∈ r1, r.vw = false) ∧ Same H1 Hc ∧ (∀ a ∈ T, H1 a = none), ⟨items.length, by simp, Nat.zero_le _, [], rs, [], [], upd_same, .nil, ?_, by simpa using e2, rfl, (fun _ z => nomatch z), same_upd nA, fun _ z => nomatch z⟩, ?_⟩
    · rw [List.append_nil]
      exact simw.hold (same_upd nA) (fun a z => (List.mem_singleton.mp z) ▸ nA) nodup1 fun a z => by rw [List.mem_singleton.mp z, upd_same]; trivial
    · rintro i m Hc ⟨rfl, hi, r1, r2, acc, T, hA, rl, simc, el, er, hvw, sc, nT⟩
      have kept : Same H1 Hc := sc
      by_cases hlt : i < items.length
      · obtain ⟨⟨d, al⟩, ei⟩ : ∃ x, items[i]? = some x := ⟨items[i], List.getElem?_eq_getElem hlt⟩
        have ed : items.drop i = (d, al) :: items.drop (i + 1) := by
          rw [List.drop_eq_getElem_cons hlt]
          have := List.getElem?_eq_getElem hlt
          rw [ei] at this
          rw [← Option.some.inj this]
        rw [ed] at el
        unfold lcL at el
        obtain ⟨ρ1, et, el⟩ := bind_some el
        obtain ⟨k, ek, el⟩ := bind_some el
        refine .inr ⟨Y.go i d al Hc ei kept, fun Hn => ∃ m', m' < items.length - i ∧ (m' = items.length - (i + 1) ∧ i + 1 ≤ items.length ∧ ∃ (r1 r2 : List Rv) (acc : List V) (T : List Addr), Hn A = some (.lst acc) ∧ RpL X.K N (W ++ [A]) T Hn acc r1 T ∧ SimH X.K N H0 (wipeE vs ρ) (L2.wipe σ vs) Hn Lw ((W ++ [A]) ++ T) ∧
          lcL t c e (wipeE vs ρ) (items.drop (i + 1)) = some r2 ∧ rs = r1 ++ r2 ∧ (∀ r ∈ r1, r.vw = false) ∧ Same H1 Hn ∧ (∀ a ∈ T, H1 a = none)), fun _ h => h, fun x H3 y => ?_⟩
        obtain ⟨s3, r3⟩ := Y.yld i d al Hc x H3 ei kept y
        have r4 : Rp X.K (SR N ((W ++ [A]) ++ T) al false) H3 .shr x d [] := by
          refine r3.mono fun a z => ⟨z.1.1, fun _ w => ?_⟩
          rcases List.mem_append.mp w with w | w
          · rcases List.mem_append.mp w with w | w
            · exact z.1.2 rfl w
            · exact z.2 (List.mem_singleton.mp w ▸ nA)
          · exact z.2 (nT a w)
        refine ⟨N, H0, wipeE vs ρ, Lw, (W ++ [A]) ++ T, d, al, ρ1, simc.same s3, r4, et, fun σ2 L2 sim2 sub2 tch => ?_⟩
        refine ⟨wipe_eq tch hv, N, H0, ρ1, L2, _, k, sim2, ek, fun H4 s4 => ?_⟩
        have s34 := s3.trans s4
        cases k with
        | false =>
          refine iteF ⟨_, by omega, rfl, hlt, r1, r2, acc, T, s34 A _ hA, rl.same s34, simc.same s34, by simpa using el, er, hvw, sc.trans s34, nT⟩
        | true =>
          rw [if_pos rfl] at el
          obtain ⟨x', ee, el⟩ := bind_some el
          split at el
          · cases el
          · rename_i hx
            have hx : x'.vw = false := by simpa using hx
            obtain ⟨r2', el2, e2'⟩ := Option.map_eq_some_iff.mp el
            subst e2'
            refine iteT ⟨N, H0, ρ1, L2, _, x', sim2.same s4, ee, fun v H5 F s5 n5 d5 p5 => ?_⟩
            have s35 := s34.trans s5
            have hA5 := s35 A _ hA
            have nF : ∀ a ∈ F, Hc a = none := fun a z => s34.free (n5 a z)
            have AF : A ∉ F := fun z => by have := nF A z; rw [hA] at this; cases this
            refine ⟨acc, hA5, ?_, _, by omega, rfl, hlt, r1 ++ [x'], r2', acc ++ [v], T ++ F, upd_same, ?_, ?_, el2, by rw [er, List.append_assoc]; rfl, fun r z => (List.mem_append.mp z).elim (hvw r) fun z => List.mem_singleton.mp z ▸ hx, fun b o e => ?_, fun a z => (List.mem_append.mp z).elim (nT a) fun z => sc.free (nF a z)⟩
            · have h1 := rl.len
              have h2 : r1.length ≤ rs.length := by rw [er, List.length_append]; omega
              have := sizeLine_eq
              omega
            · refine RpL.put (by simp) (by rw [hA5]; trivial) (RpL.snoc ?_ ((rl.grow (fun a t => ⟨id, fun z w => (List.mem_append.mp w).elim z fun w => t (nF a w)⟩)).same s35)) (fun r z => (List.mem_append.mp z).elim (hvw r) fun z => List.mem_singleton.mp z ▸ hx) fun z => (List.mem_append.mp z).elim (fun z => by have := nT A z; have := sc.free (H' := Hc) (l := A); exact absurd (rl.own_trk A z) (fun t => by
                  have hnd := simc.nd
                  rw [List.nodup_append] at hnd
                  exact hnd.2.2 A (by simp) A z rfl)) AF
              exact p5.mono fun a z => ⟨⟨z.1.1, fun e w => z.1.2 e (List.mem_append_left _ w)⟩, fun e w => (List.mem_append.mp w).elim (fun w => z.1.2 e (List.mem_append_right _ w)) z.2⟩
            · have := (simc.hold s35 nF d5 p5.own_mut)
              rw [List.append_assoc] at this
              exact this.put (by simp) (fun z => nAW (sim.sub A (subw A z))) trivial
            · have hb : b ≠ A := fun z => by rw [z, nA] at e; cases e
              rw [upd_ne hb]
              exact s35 b o (sc b o e)
      · have ei : i = items.length := by omega
        subst ei
        rw [List.drop_length] at el
        unfold lcL at el
        cases el
        rw [List.append_nil] at er
        subst er
        refine .inl ⟨Y.stop Hc kept, ?_⟩
        have hnd := simc.nd
        rw [List.nodup_append] at hnd
        have AT : A ∉ T := fun z => hnd.2.2 A (by simp) A z rfl
        have newT : ∀ a ∈ T, H a = none := fun a z => s1.free (nT a z)
        split at z
        · rename_i hf
          cases z
          refine q _ Hc (A :: T) (s1.trans sc) (fun a z => (List.mem_cons.mp z).elim (fun e => e ▸ s1.free nA) (newT a)) (List.nodup_cons.mpr ⟨AT, hnd.2.1⟩) (.nd1 (fun z => nomatch z) .lst hA ?_)
          exact (rl.full hf al_any).mono fun a z => ⟨⟨z.1.1, fun e w => z.1.2 e (List.mem_append_left _ w)⟩, fun w => (List.mem_cons.mp w).elim (fun e => z.1.2 rfl (by rw [e]; simp)) z.2⟩
        · cases z
          refine q _ Hc [A] (s1.trans sc) (fun a z => List.mem_singleton.mp z ▸ s1.free nA) nodup1 (.nd1 (fun z => nomatch z) .lst hA ?_)
          exact (rl.give (fun a z => ⟨sim.nw a (newT a z), fun w => hnd.2.2 a w a z rfl⟩) (fun _ z => z) (List.all_eq_true.mpr fun r z => by rw [hvw r z]; rfl) al_any).mono fun a z => ⟨⟨z.1, fun e w => z.2 e (List.mem_append_left _ w)⟩, fun w => z.2 rfl (List.mem_append_right _ w)⟩
  · cases z
theorem lc_read {it : EvI} {vs : List Nat} {t : Tg} {c : EvT} {e : EvE} (hv : (tgSlots t).all (fun j => decide (j ∈ vs)) = true) {σ : St} {H : Hp} {Q : VK} (h : tE X.K (eLc it vs t c e) σ H Q) : tLc (tIs X.K it) (tG X.K t) (tT X.K c) (tE X.K e) vs σ H Q := by
  obtain ⟨N, H0, ρ, L, W, r, sim, z, q⟩ := h
  unfold eLc at z
  obtain ⟨items, e1, z⟩ := bind_some z
  obtain ⟨rs, e2, z⟩ := bind_some z
  exact ⟨N, H0, ρ, L, W, items, sim, e1, fun J H1 s1 Y => lc_core hv sim e2 z q s1 Y⟩
variable {elt tg iter : Expr} {ifs : List Expr} {scope : Scope} {own : List (Str × Nat)} {pos pos' spos py : Pos} {it : EvI} {t : Tg} {c : EvT} {fe : EvE}
theorem e_lc (own : List (Str × Nat)) (hc : X.calm = true) (hN : X.N.Nodup) (hi : PIvs X tg iter it) (ok : BlkOk X.N X.env.scope scope own)
    (hg : ∀ (s : Shared) (H : Hp) (C : Addr) (cl : List (Str × Addr)) (fp : List Addr), PGv (X.blk s H scope (compEnvC scope cl C X.env) fp) tg t) (ht : ∀ (s : Shared) (H : Hp) (C : Addr) (cl : List (Str × Addr)) (fp : List Addr), PTsv (X.blk s H scope (compEnvC scope cl C X.env) fp) ifs c)
    (he : ∀ (s : Shared) (H : Hp) (C : Addr) (cl : List (Str × Addr)) (fp : List Addr), PEv (X.blk s H scope (compEnvC scope cl C X.env) fp) elt fe) (hv : (tgSlots t).all (fun j => decide (j ∈ own.map (·.2))) = true := by rfl) (hs : ∀ x, foldedSetIterable iter X.env x = pure x := by intro _; rfl) :
    PEv X (.ListComp elt [⟨tg, iter, ifs, 0⟩] scope pos) (eLc it (own.map (·.2)) t c fe) :=
  imp_e (pe_lc hc hN hi ok hg ht he hs) fun σ H Q h => lc_read hv h
theorem s_setLc (i : Nat) (own : List (Str × Nat)) {y : Str} (hc : X.calm = true) (hN : X.N.Nodup) (hi : PIvs X tg iter it) (ok : BlkOk X.N X.env.scope scope own)
    (hg : ∀ (s : Shared) (H : Hp) (C : Addr) (cl : List (Str × Addr)) (fp : List Addr), PGv (X.blk s H scope (compEnvC scope cl C X.env) fp) tg t) (ht : ∀ (s : Shared) (H : Hp) (C : Addr) (cl : List (Str × Addr)) (fp : List Addr), PTsv (X.blk s H scope (compEnvC scope cl C X.env) fp) ifs c)
    (he : ∀ (s : Shared) (H : Hp) (C : Addr) (cl : List (Str × Addr)) (fp : List Addr), PEv (X.blk s H scope (compEnvC scope cl C X.env) fp) elt fe)
    (hsw : swapsWith (.ListComp elt [⟨tg, iter, ifs, 0⟩] scope pos) (some (.Name y py)) spos.line X.env = pure true) (hy : X.N[i]? = some y := by rfl) (hyl : X.env.scope.names.lookup y = some .local := by rfl)
    (hv : (tgSlots t).all (fun j => decide (j ∈ own.map (·.2))) = true := by rfl) (hs : ∀ x, foldedSetIterable iter X.env x = pure x := by intro _; rfl) :
    PSv X (.Assign [.Name y py] (.ListComp elt [⟨tg, iter, ifs, 0⟩] scope pos) spos) (sSet [] i (eLc it (own.map (·.2)) t c fe)) := by
  refine imp_s (ps_setLc (wi := tIs X.K it) (g := tG X.K t) (tt := tT X.K c) (te := tE X.K fe) hc hN hy hyl hsw hi ok hg ht he hs) fun D σ H ⟨N, H0, ρ, L, o, sim, z, q⟩ => ?_
  unfold sSet at z
  obtain ⟨r, e1, z⟩ := bind_some z
  split at z
  · rename_i hc
    rw [Bool.and_eq_true, decide_eq_true_eq] at hc
    cases z
    refine lc_read (X := X) hv ?_
    refine one sim.h e1 fun v H1 F s1 n1 d1 p1 => ?_
    have hv : r.vw = false := by simpa using hc.1
    obtain ⟨L2, sim2, sub2⟩ := sim.set (r := ⟨r.d, r.l, r.al, none⟩) (fun _ z => nomatch z) s1 n1 d1 (p1.mono fun a z => ⟨⟨z.1.1, fun _ => z.1.2 hv⟩, z.2⟩) hc.2
    exact q _ H1 L2 sim2 (Frm.same s1 fun b z => (sub2 b z).imp id (n1 b))
  · cases z
end
end Ev
set_option Elab.async false
set_option linter.all false
set_option maxRecDepth 100000
set_option maxHeartbeats 4000000
namespace EvS
open PySem PySem.Spec L2
open PyProof.Rows hiding St
open SrtO (Srtd Stb Swo)
theorem lt_asym : ∀ (a b : List Int), HT.lexLt a b = true → HT.lexLt b a = false
  | [], [], h => by cases h
  | [], _ :: _, _ => rfl
  | _ :: _, [], h => by cases h
  | x :: a, y :: b, h => by
    rw [HT.lexLt_cons] at h ⊢
    by_cases e : x = y
    · rw [if_pos e] at h
      rw [if_pos e.symm]
      exact lt_asym a b h
    · rw [if_neg e] at h
      rw [if_neg (fun z => e z.symm)]
      have := of_decide_eq_true h
      exact decide_eq_false (by omega)
theorem lt_neg_trans : ∀ (a b c : List Int), HT.lexLt a b = false → HT.lexLt b c = false → HT.lexLt a c = false
  | [], [], _, _, h => h
  | [], _ :: _, _, h, _ => by cases h
  | _ :: _, [], [], _, _ => rfl
  | _ :: _, [], _ :: _, _, h => by cases h
  | _ :: _, _ :: _, [], _, _ => rfl
  | x :: a, y :: b, z :: c, h1, h2 => by
    rw [HT.lexLt_cons] at h1 h2 ⊢
    by_cases e : x = y
    · rw [if_pos e] at h1
      by_cases e2 : y = z
      · rw [if_pos e2] at h2
        rw [if_pos (e.trans e2)]
        exact lt_neg_trans a b c h1 h2
      · rw [if_neg e2] at h2
        rw [if_neg (by rw [e]; exact e2), e]
        exact h2
    · rw [if_neg e] at h1
      have g1 := of_decide_eq_false h1
      by_cases e2 : y = z
      · rw [← e2, if_neg e]
        exact h1
      · rw [if_neg e2] at h2
        have g2 := of_decide_eq_false h2
        rw [if_neg (by omega)]
        exact decide_eq_false (by omega)
theorem swo_lex {α : Type} (k : α → List Int) : Swo fun v u => HT.lexLt (k v) (k u) :=
  ⟨fun x y h => lt_asym _ _ h, fun x y z h1 h2 => lt_neg_trans _ _ _ h2 h1⟩
section
variable {prog : Program} {w : World} {A : Around} {E : Value → Shared → Prop} {s : Shared} {Q : Bool → Shared → Prop}
theorem oneLt_i (c : Bool) {p q : Int} {t u : Tok} (h : Q (decide (p < q)) s) : wpAny (model prog w) A (oneLt' c (.int p t) (.int q u)) Q E s := by
  cases c with
  | true => exact oneLt_int h
  | false => exact PySem.W.kat_one _ _ (PyProof.Rows.lt_int (Q := PySem.W.BoolBack Q) h)
theorem lexL_ints {b : Bool} {xs ys : List Value} {ns ms : List Int} (i : Nat) (hx : IntsAre xs ns) (hy : IntsAre ys ms) (hl : ns.length = ms.length)
    (h : Q (HT.lexLt ns ms) s) : PySem.W.KatLex prog w A b false Q (xs.zip ys) i s := by
  induction hx generalizing ys ms i with
  | nil =>
    cases hy with
    | nil => exact PySem.W.kat_nil h
    | cons q u hy => simp at hl
  | @cons p t xs ns hx ih =>
    cases hy with
    | nil => simp at hl
    | @cons q u ys ms hy =>
      have hl' : ns.length = ms.length := by simpa using hl
      show PySem.W.KatLex prog w A b false Q ((Value.int p t, Value.int q u) :: xs.zip ys) i s
      refine PySem.W.kat_cons (wpAny_eqBool_int ?_)
      rw [HT.lexLt_cons] at h
      by_cases e : p = q
      · subst e
        rw [if_pos rfl] at h
        rw [beq_self_eq_true]
        refine PySem.W.kat_yes ?_
        first
          | exact ih (i + 1) hy hl' h
          | exact ih _ _ (i + 1) hy hl' h
      · rw [if_neg e] at h
        rw [show (p == q) = false from beq_eq_false_iff_ne.mpr e]
        exact PySem.W.kat_no (oneLt_i _ h)
def Tups (h : Heap) (d : Nat) (vs : List Value) (k : Value → List Int) : Prop := ∀ v ∈ vs, TS.TupInts h v (k v) ∧ (k v).length = d
theorem Tups.keeps {h h' : Heap} {d : Nat} {vs : List Value} {k : Value → List Int} (x : Tups h d vs k) (kp : ∀ b o, h.get? b = some o → o.cls = .type "tuple" → h'.get? b = some o) : Tups h' d vs k := fun v hv =>
  ⟨(x v hv).1.keeps kp, (x v hv).2⟩
theorem firsts {h : Heap} {d : Nat} {k : Value → List Int} (hd : 1 ≤ d) : ∀ vs : List Value, Tups h d vs k → ∃ fs, PySem.W.KatTups h vs fs ∧ fs.length = vs.length ∧ ∀ f, f ∈ fs → ∃ n t, f = Value.int n t
  | [], _ => ⟨[], PySem.W.KatTups.nil, rfl, fun f hf => by simp at hf⟩
  | v :: vs, x => by
    obtain ⟨fs, kt, hl, hi⟩ := firsts hd vs fun u hu => x u (List.mem_cons_of_mem _ hu)
    obtain ⟨⟨a, xs, e1, ⟨o, ho, hc, n, hdt⟩, i⟩, hn⟩ := x v (List.mem_cons_self ..)
    subst e1
    obtain ⟨y, ys, e⟩ : ∃ y ys, xs.toList = y :: ys := by
      cases q : xs.toList with
      | nil =>
        rw [q] at i
        have l := i.length
        rw [List.length_nil, hn] at l
        omega
      | cons y ys => exact ⟨y, ys, rfl⟩
    obtain ⟨m, t, hy⟩ := i.all y (by rw [e]; exact List.mem_cons_self ..)
    refine ⟨y :: fs, PySem.W.KatTups.cons ho hc hdt ?_ kt, by simp [hl], ?_⟩
    · have z := congrArg (fun l : List Value => l[0]?) e
      simpa using z
    · intro f hf
      rcases List.mem_cons.mp hf with rfl | hf
      · exact ⟨m, t, hy⟩
      · exact hi f hf
theorem tup_cmp {d : Nat} {vs : List Value} {k : Value → List Int} (hp : Tups s.heap d vs k) : SrtO.Cmp prog w A s (tuples' true) (fun p => p.1 ∈ vs) (SrtO.lt2 fun v u => HT.lexLt (k v) (k u)) := by
  intro p q hm hm'
  obtain ⟨⟨a, xs, e1, ⟨o, ho, hc, n, hdt⟩, i⟩, l1⟩ := hp _ hm
  obtain ⟨⟨a', ys, e2, ⟨o', ho', hc', n', hdt'⟩, i'⟩, l2⟩ := hp _ hm'
  show wpAny (model prog w) A (keyLt' (tuples' true) p.1 q.1) (fun r s' => s' = s ∧ r = HT.lexLt (k p.1) (k q.1)) (fun _ _ => False) s
  rw [e1] at i l1 ⊢
  rw [e2] at i' l2 ⊢
  refine PySem.W.kat_lt ho hdt ho' hdt' ?_
  have ez : decide (xs.size < ys.size) = false := by
    have z1 := i.length
    have z2 := i'.length
    rw [Array.length_toList] at z1 z2
    exact decide_eq_false (by omega)
  rw [ez]
  exact lexL_ints 0 i i' (by omega) ⟨rfl, rfl⟩
theorem tups_sortableO {d : Nat} (hd : 1 ≤ d) {a : Addr} {vs : List Value} {k : Value → List Int} (h0 : 0 < vs.length) (hp : Tups s.heap d vs k) (ha : ∀ o, s.heap.get? a = some o → o.cls ≠ .type "tuple") : SrtO.SortableO prog w A s a vs fun v u => HT.lexLt (k v) (k u) := by
  intro h' keep
  have hp' : Tups h' d vs k := hp.keeps fun b o e c => keep b o (fun z => by subst z; exact ha o e c) e
  obtain ⟨fs, h1, h2, h3⟩ := firsts hd vs hp'
  refine ⟨tuples' true, fun Q E hq => ?_, tup_cmp (s := { s with heap := h' }) hp'⟩
  refine PySem.W.kat_kind (T := .type "int") h1 (by omega) (fun f hm => ?_) (by rfl) ?_
  · obtain ⟨x, t, rfl⟩ := h3 f hm
    exact PySem.W.Looks.now
  · have e : (Value.type "int" != Value.type "tuple") = true := by first | decide +kernel | rfl | decide
    rw [e]
    exact hq
theorem sorted_tupsO {d : Nat} (hd : 1 ≤ d) {l : Addr} {vs : List Value} {k : Value → List Int} {Q : Value → Shared → Prop} (hl : s.heap.IsList l vs.toArray) (hz : vs.length ≤ sizeLine) (hp : Tups s.heap d vs k)
    (h : ∀ (h' : Heap) (d : Addr) (out : List Value), Srtd (fun v u => HT.lexLt (k v) (k u)) out → Stb (fun v u => HT.lexLt (k v) (k u)) out vs → (∀ b o, s.heap.get? b = some o → h'.get? b = some o) → s.heap.objs.size ≤ d → (∃ n, h'.get? d = some (seqObj "list" out.toArray n)) → Q (.ref d) { s with heap := h' }) :
    wpAny (model prog w) A (call (.builtin "sorted") [.ref l]) Q E s := by
  refine SrtO.sorted_ord (swo_lex k) hl hz (fun h2 h₁ a ha kk => ?_) fun out hs hb => ?_
  · refine tups_sortableO (s := { s with heap := h₁ }) hd (by omega) (hp.keeps fun b o e _ => (kk b o e).2) fun o e => ?_
    have e' : some o = some (seqObj "list" vs.toArray 0) := e.symm.trans ha
    cases e'
    intro c
    exact absurd (Value.type.inj c) (by decide)
  · exact h _ _ out hs hb (fun b o e => PyProof.Rows.sortedAll_old e) (Nat.le_succ _) (PyProof.Rows.sortedAll_at s.heap vs out.toArray)
end
def rSortedL (K : PySem.W.Frag) : List V → Hp → VK → Prop := fun vs H Q => ∃ (a : Addr) (xs : List V) (k : V → List Int) (d : Nat), 1 ≤ d ∧ vs = [V.ref a] ∧ SqL K H a xs ∧ (∀ x ∈ xs, ∃ t, x = V.ref t ∧ H t = some (.tup ((k x).map V.int)) ∧ (k x).length = d) ∧
  ∀ ys p, Srtd (fun x y => HT.lexLt (k x) (k y)) ys → Stb (fun x y => HT.lexLt (k x) (k y)) ys xs → H p = none → Q (.ref p) (upd H p (.lst ys))
theorem cr_sortedL {X : Cx} : CallR X (.builtin "sorted") (rSortedL X.K) := by
  intro pins s σ H vs us Q I r h
  obtain ⟨a, xs, k, d, hd, rfl, hs, hx, q⟩ := h
  obtain ⟨its, rv, hl, hz⟩ := I.list hs
  obtain ⟨u, rfl, ru⟩ := vals1 r
  obtain rfl : u = Value.ref a := ru
  obtain ⟨e1, e2⟩ := refs_back rv fun x m => by
    obtain ⟨t, e, _⟩ := hx x m
    exact ⟨t, e⟩
  refine sorted_tupsO (k := fun u => k (backV u)) hd hl.isList (by rw [← rv.length]; exact hz) (fun v hv => ?_) fun h' d out h1 h2 kp hd hn => ?_
  · obtain ⟨t, rfl⟩ := e2 v hv
    have hm : V.ref t ∈ xs := by rw [e1]; exact List.mem_map.mpr ⟨_, hv, rfl⟩
    obtain ⟨t', e, ht, hlen⟩ := hx _ hm
    cases e
    obtain ⟨_, its2, r2, o, ho, hc, n, hdt⟩ := I.hok _ _ ht
    exact ⟨⟨t, its2.toArray, rfl, ⟨o, ho, hc, n, hdt⟩, Vals.ints r2⟩, hlen⟩
  · have h3 : ∀ u ∈ out, ∃ a, u = Value.ref a := fun u hu => e2 u (h2.perm.mem_iff.mp hu)
    obtain ⟨n, hn⟩ := hn
    have hb : Stb (fun x y => HT.lexLt (k x) (k y)) (out.map backV) xs := by
      rw [e1]
      exact SrtO.Stb.map (swo_lex k) backV h2
    refine ⟨.ref d, upd H d (.lst (out.map backV)), I.laid (t' := s.toks) kp hd ⟨?_, out, n, vals_back h3, hn⟩, rfl, q _ d (SrtO.srtd_map h1) hb (I.hok.fresh hd)⟩
    rw [hb.len]
    exact hz
end EvS
set_option Elab.async false
set_option linter.all false
set_option maxRecDepth 100000
namespace Ev
open PySem PySem.Spec L2
open PyProof.Rows hiding St
def whole : D → Bool
  | .lst ds => immAll ds
  | _ => false
def res (al vw : Bool) (z : Ret) : Rv := if imm z.1 = true then rA z.1 else if (whole z.1 && decide (z.2 = .top)) = true then ⟨z.1, .full, false, false⟩ else ⟨z.1, z.2, al, vw⟩
section
variable {K : PySem.W.Frag} {S : Addr → Prop} {N : Nw} {W : List Addr} {H H1 : Hp} {F : List Addr} {v : V} {Q : VK}
theorem Rp.whole {d : D} (r : Rp K S H .top v d F) (h : whole d = true) : ∀ S', Rp K S' H .full v d F := fun S' => by
  cases r with
  | nd1 h0 hn h1 h2 =>
    cases hn with
    | lst =>
      have e := h2.shr0
      subst e
      exact .nd1 (fun z => nomatch z) .lst h1 (h2.of_imm (by simpa only [Ev.whole] using h)).2
    | _ => cases h
  | fl => cases h
  | _ => cases h
theorem Post.res {z : Ret} {al vw : Bool} (q : Post K N W H (res al vw z) Q) (s : Same H H1) (new : ∀ a ∈ F, H a = none) (nd : F.Nodup) (hS : ∀ a, S a → SR N W al vw a) (rp : Rp K (fun a => S a ∧ a ∉ F) H1 z.2 v z.1 F) : Q v H1 := by
  unfold Ev.res at q
  split at q
  · rename_i hi
    exact q.atom s fun S => (rp.of_imm hi).2
  · split at q
    · rename_i hw
      rw [Bool.and_eq_true, decide_eq_true_eq] at hw
      rw [hw.2] at rp
      exact q v H1 F s new nd (rp.whole hw.1 _)
    · exact q v H1 F s new nd (rp.mono fun a z => ⟨hS a z.1, z.2⟩)
end
def Made (K : PySem.W.Frag) (S : Addr → Prop) (H : Hp) (z : Ret) (Q : VK) : Prop := ∀ v H' F, Same H H' → (∀ a ∈ F, H a = none) → F.Nodup → Rp K (fun a => S a ∧ a ∉ F) H' z.2 v z.1 F → Q v H'
def CallOk (X : Cx) (f : Value) (g : List D → Option Ret) : Prop :=
  ∃ r : List V → Hp → VK → Prop, CallR X f r ∧ ∀ (S : Addr → Prop) (H : Hp) (vs : List V) (ds : List D) (z : Ret) (Q : VK), Rps X.K S H .shr vs ds [] → g ds = some z → Made X.K S H z Q → r vs H Q
theorem CallOk.or {X : Cx} {f : Value} {g g' : List D → Option Ret} (h : CallOk X f g) (h' : CallOk X f g') : CallOk X f (fun ds => (g ds).or (g' ds)) := by
  obtain ⟨r, ho, hr⟩ := h
  obtain ⟨r', ho', hr'⟩ := h'
  refine ⟨_, ho.or ho', fun S H vs ds z Q p e q => ?_⟩
  have e : (g ds).or (g' ds) = some z := e
  cases hg : g ds with
  | some k =>
    rw [hg] at e
    cases e
    exact .inl (hr S H vs ds _ Q p hg q)
  | none =>
    rw [hg] at e
    exact .inr (hr' S H vs ds _ Q p e q)
def eBi (g : List D → Option Ret) (ga : EvA) : EvE := fun ρ => (ga ρ).bind fun rs => (g (rs.map (·.d))).map (res (rs.any (·.al)) (rs.any (·.vw)))
section
variable {X : Cx} {e : Expr} {es : List Expr} {ga : EvA} {fe fa fb : EvE} {p pos : Pos} {x : Str} {id T : String} {g : List D → Option Ret}
theorem bi_read {r : List V → Hp → VK → Prop} (hr : ∀ (S : Addr → Prop) (H : Hp) (vs : List V) (ds : List D) (z : Ret) (Q : VK), Rps X.K S H .shr vs ds [] → g ds = some z → Made X.K S H z Q → r vs H Q) {σ : St} {H : Hp} {Q : VK} (h : tE X.K (eBi g ga) σ H Q) : tA X.K ga σ H fun vs H1 => r vs H1 Q := by
  obtain ⟨N, H0, ρ, L, W, rr, sim, z, q⟩ := h
  unfold eBi at z
  obtain ⟨rs, e1, z⟩ := bind_some z
  obtain ⟨z', e2, z⟩ := Option.map_eq_some_iff.mp z
  subst z
  refine ⟨N, H0, ρ, L, W, rs, sim, e1, fun vs H1 T' s1 n1 d1 p1 => ?_⟩
  have hT : ∀ a ∈ T', N a ∧ a ∉ W := fun a m => ⟨sim.nw a (n1 a m), fun w => sim.th a w (n1 a m)⟩
  exact hr _ H1 vs _ z' Q (p1.give' hT (fun _ m => m) (fun r h => any_of (p := fun r : Rv => r.al) r h) (fun r h => any_of (p := fun r : Rv => r.vw) r h)) e2 fun v H2 F s2 n2 d2 p2 => q.res (s1.trans s2) (fun a m => s1.free (n2 a m)) d2 (fun a z => z) p2
theorem e_bi (ho : CallOk X (.builtin id) g) (hm : X.mg x = none) (hv : bootBuiltins x = some (.builtin id)) (ha : PAv X (e :: es) ga) (hg : Gl X x := by rfl) (hn : x ≠ "__name__" := by decide) (hdb : (x == ("__debug__" : Str)) = false := by decide)
    (he : starEach (e :: es) X.env = (false, eval e X.env) :: starEach es X.env := by rfl) (hpl : (backTo pos (starEach es X.env)).any (·.1) = false := by rfl) : PEv X (.Call (.Name x p) (e :: es) [] pos) (eBi g ga) := by
  obtain ⟨r, ho, hr⟩ := ho
  exact imp_e (pe_callB ho hg hm hv ha hn hdb he hpl) fun σ H Q h => bi_read hr h
theorem e_ty (ho : CallOk X (.type T) g) (hm : X.mg x = none) (hv : bootBuiltins x = some (.type T)) (ha : PAv X (e :: es) ga) (hg : Gl X x := by rfl) (hn : x ≠ "__name__" := by decide) (hdb : (x == ("__debug__" : Str)) = false := by decide)
    (he : starEach (e :: es) X.env = (false, eval e X.env) :: starEach es X.env := by rfl) (hpl : (backTo pos (starEach es X.env)).any (·.1) = false := by rfl) : PEv X (.Call (.Name x p) (e :: es) [] pos) (eBi g ga) := by
  obtain ⟨r, ho, hr⟩ := ho
  exact imp_e (pe_callTy ho hg hm hv ha hn hdb he hpl) fun σ H Q h => bi_read hr h
end
theorem Made.atom {K : PySem.W.Frag} {S : Addr → Prop} {H : Hp} {d : D} {l : Lv} {v : V} {Q : VK} (q : Made K S H (d, l) Q) (r : ∀ S, Rp K S H l v d []) : Q v H := q v H [] (Same.refl H) (fun _ z => nomatch z) .nil (r _)
theorem Made.lst {K : PySem.W.Frag} {S : Addr → Prop} {H : Hp} {ds : List D} {vs : List V} {Q : VK} (q : Made K S H (.lst ds, .top) Q) (r : Rps K S H .shr vs ds []) : ∀ p, H p = none → Q (.ref p) (upd H p (.lst vs)) := fun p np =>
  q _ _ [p] (same_upd np) (fun a m => List.mem_singleton.mp m ▸ np) nodup1 (.nd1 (fun z => nomatch z) .lst upd_same ((r.trk.same (same_upd np)).mono fun a z => ⟨z.1, fun m => z.2 (List.mem_singleton.mp m ▸ np)⟩))
theorem Rps.inv1 {K : PySem.W.Frag} {S : Addr → Prop} {H : Hp} {vs : List V} {d : D} (r : Rps K S H .shr vs [d] []) : ∃ v, vs = [v] ∧ Rp K S H .shr v d [] := by
  generalize hF : ([] : List Addr) = F at r
  cases r with
  | cons h1 h2 =>
    have e1 := h1.shr0
    subst e1
    cases h2
    exact ⟨_, rfl, h1⟩
theorem Rps.inv2 {K : PySem.W.Frag} {S : Addr → Prop} {H : Hp} {vs : List V} {d e : D} (r : Rps K S H .shr vs [d, e] []) : ∃ v w, vs = [v, w] ∧ Rp K S H .shr v d [] ∧ Rp K S H .shr w e [] := by
  generalize hF : ([] : List Addr) = F at r
  cases r with
  | cons h1 h2 =>
    have e1 := h1.shr0
    have e2 := h2.shr0
    subst e1 e2
    obtain ⟨w, rfl, h3⟩ := h2.inv1
    exact ⟨_, w, rfl, h1, h3⟩
theorem Rp.lst_shr {K : PySem.W.Frag} {S : Addr → Prop} {H : Hp} {v : V} {ds : List D} (r : Rp K S H .shr v (.lst ds) []) : ∃ a vs, v = .ref a ∧ H a = some (.lst vs) ∧ S a ∧ Rps K S H .shr vs ds [] := by
  cases r with
  | nd0 h h1 h2 h3 => cases h; exact ⟨_, _, rfl, h1.lst, h2, h3⟩
def itemsOf : D → Option (List D)
  | .lst ds => some ds
  | .fl ds => some ds
  | .tup ds => some ds
  | _ => none
theorem items_rp {K : PySem.W.Frag} {S : Addr → Prop} {H : Hp} {v : V} {d : D} {ds : List D} (r : Rp K S H .shr v d []) (h : itemsOf d = some ds) : ∃ a vs, v = .ref a ∧ (SqL K H a vs ∨ SqT K H a vs) ∧ Rps K S H .shr vs ds [] := by
  cases d with
  | lst xs => cases h; obtain ⟨a, vs, rfl, h1, _, h3⟩ := r.lst_shr; exact ⟨a, vs, rfl, .inl (SqL.of h1), h3⟩
  | fl xs => cases h; obtain ⟨a, vs, rfl, h1, h3, _⟩ := r.fl_inv; exact ⟨a, vs, rfl, .inl h1.sq, h3⟩
  | tup xs => cases h; obtain ⟨a, vs, rfl, h1, h3⟩ := r.tup_inv; exact ⟨a, vs, rfl, .inr (SqT.of h1), h3⟩
  | _ => cases h
def seqOf : D → Option (List D)
  | .lst ds => some ds
  | .fl ds => some ds
  | _ => none
theorem seq_rp {K : PySem.W.Frag} {S : Addr → Prop} {H : Hp} {v : V} {d : D} {ds : List D} (r : Rp K S H .shr v d []) (h : seqOf d = some ds) : ∃ a vs, v = .ref a ∧ SqL K H a vs ∧ Rps K S H .shr vs ds [] := by
  cases d with
  | lst xs => cases h; obtain ⟨a, vs, rfl, h1, _, h3⟩ := r.lst_shr; exact ⟨a, vs, rfl, SqL.of h1, h3⟩
  | fl xs => cases h; obtain ⟨a, vs, rfl, h1, h3, _⟩ := r.fl_inv; exact ⟨a, vs, rfl, h1.sq, h3⟩
  | _ => cases h
def bList : List D → Option Ret
  | [d] => (itemsOf d).map fun ds => (.lst ds, .top)
  | _ => none
def bMax2 : List D → Option Ret
  | [.int i, .int j] => some (.int (if j > i then j else i), .full)
  | _ => none
def bMin2 : List D → Option Ret
  | [.int i, .int j] => some (.int (if j < i then j else i), .full)
  | _ => none
def blOf : D → Option Bool
  | .bl b => some b
  | _ => none
def blsOf : List D → Option (List Bool)
  | [] => some []
  | d :: ds => (blOf d).bind fun i => (blsOf ds).map (i :: ·)
theorem blsOf_some : ∀ {ds : List D} {ns : List Bool}, blsOf ds = some ns → ds = ns.map .bl
  | [], _, h => by cases h; rfl
  | d :: ds, ns, h => by
    unfold blsOf at h
    obtain ⟨i, e1, h⟩ := bind_some h
    obtain ⟨m, e2, h⟩ := Option.map_eq_some_iff.mp h
    subst h
    rw [blsOf_some e2]
    cases d <;> first | (cases e1; rfl) | cases e1
def bAll : List D → Option Ret
  | [.lst ds] => (blsOf ds).map fun bs => (.bl (bs.all id), .full)
  | _ => none
def isort {α : Type} (lt : α → α → Bool) : List α → List α
  | [] => []
  | x :: xs => insF lt x (isort lt xs)
where insF {α : Type} (lt : α → α → Bool) (x : α) : List α → List α
  | [] => [x]
  | y :: ys => if lt y x = true then y :: insF lt x ys else x :: y :: ys
def rowOf : D → Option (List Int)
  | .tup ds => intsOf ds
  | _ => none
def rowsOfL : List D → Option (List (List Int))
  | [] => some []
  | d :: ds => (rowOf d).bind fun i => (rowsOfL ds).map (i :: ·)
def dRow (r : List Int) : D := .tup (r.map .int)
theorem rowsOfL_some : ∀ {ds : List D} {ns : List (List Int)}, rowsOfL ds = some ns → ds = ns.map dRow
  | [], _, h => by cases h; rfl
  | d :: ds, ns, h => by
    unfold rowsOfL at h
    obtain ⟨i, e1, h⟩ := bind_some h
    obtain ⟨m, e2, h⟩ := Option.map_eq_some_iff.mp h
    subst h
    rw [rowsOfL_some e2]
    cases d with
    | tup xs => rw [show xs = i.map .int from intsOf_some e1]; rfl
    | _ => cases e1
abbrev sortI (ns : List Int) : List Int := isort (fun a b => decide (a < b)) ns
abbrev sortR (rs : List (List Int)) : List (List Int) := isort HT.lexLt rs
def bSortedI : List D → Option Ret
  | [d] => ((seqOf d).bind intsOf).map fun ns => (.lst ((sortI ns).map .int), .top)
  | _ => none
def sameLen : List (List Int) → Bool
  | [] => true
  | r :: rs => decide (1 ≤ r.length) && rs.all fun q => decide (q.length = r.length)
def bSortedR : List D → Option Ret
  | [d] => (seqOf d).bind fun ds => (rowsOfL ds).bind fun rs => if sameLen rs = true then some (.lst ((sortR rs).map dRow), .top) else none
  | _ => none
section
open SrtO (Srtd Stb Swo)
theorem insF_perm {α : Type} {lt : α → α → Bool} (x : α) : ∀ l : List α, (isort.insF lt x l).Perm (x :: l)
  | [] => List.Perm.refl _
  | y :: ys => by
    unfold isort.insF
    split
    · exact ((insF_perm x ys).cons y).trans (List.Perm.swap x y ys)
    · exact List.Perm.refl _
theorem isort_perm {α : Type} {lt : α → α → Bool} : ∀ l : List α, (isort lt l).Perm l
  | [] => List.Perm.refl _
  | x :: xs => (insF_perm x _).trans ((isort_perm xs).cons x)
theorem insF_srtd {α : Type} {lt : α → α → Bool} (O : Swo lt) (x : α) : ∀ {l : List α}, Srtd lt l → Srtd lt (isort.insF lt x l)
  | [], _ => List.pairwise_singleton _ _
  | y :: ys, h => by
    unfold isort.insF
    have hh := List.pairwise_cons.mp h
    split
    · rename_i hy
      refine List.pairwise_cons.mpr ⟨fun z hz => ?_, insF_srtd O x hh.2⟩
      rcases List.mem_cons.mp ((insF_perm x ys).mem_iff.mp hz) with e | hz
      · rw [e]; exact O.asym _ _ hy
      · exact hh.1 z hz
    · rename_i hy
      have hy : lt y x = false := by simpa using hy
      refine List.pairwise_cons.mpr ⟨fun z hz => ?_, h⟩
      rcases List.mem_cons.mp hz with e | hz
      · rw [e]; exact hy
      · exact O.tr x y z hy (hh.1 z hz)
theorem isort_srtd {α : Type} {lt : α → α → Bool} (O : Swo lt) : ∀ l : List α, Srtd lt (isort lt l)
  | [] => List.Pairwise.nil
  | x :: xs => insF_srtd O x (isort_srtd O xs)
theorem insF_cls {α : Type} {lt : α → α → Bool} (O : Swo lt) (x z : α) : ∀ {l : List α}, Srtd lt l → (isort.insF lt x l).filter (SrtO.eqv lt z) = (x :: l).filter (SrtO.eqv lt z)
  | [], _ => rfl
  | y :: ys, h => by
    unfold isort.insF
    have hh := List.pairwise_cons.mp h
    split
    · rename_i hy
      have ih := insF_cls O x z hh.2
      have hxy : ¬ (SrtO.eqv lt z x = true ∧ SrtO.eqv lt z y = true) := fun ⟨a, b⟩ => by
        obtain ⟨a1, a2⟩ := SrtO.eqv_iff.mp a
        obtain ⟨b1, b2⟩ := SrtO.eqv_iff.mp b
        have := O.tr x z y a1 b2
        rw [hy] at this
        cases this
      rcases SrtO.bcase (SrtO.eqv lt z x) with q | q
      · have q' : SrtO.eqv lt z y = false := by
          rcases SrtO.bcase (SrtO.eqv lt z y) with p | p
          · exact absurd ⟨q, p⟩ hxy
          · exact p
        rw [List.filter_cons_of_neg (by rw [q']; decide), ih, List.filter_cons_of_pos q, List.filter_cons_of_pos q, List.filter_cons_of_neg (by rw [q']; decide)]
      · rw [List.filter_cons_of_neg (a := x) (by rw [q]; decide)] at ih
        rw [List.filter_cons_of_neg (a := x) (by rw [q]; decide)]
        rcases SrtO.bcase (SrtO.eqv lt z y) with p | p
        · rw [List.filter_cons_of_pos p, List.filter_cons_of_pos p, ih]
        · rw [List.filter_cons_of_neg (a := y) (by rw [p]; decide), List.filter_cons_of_neg (a := y) (by rw [p]; decide), ih]
    · rfl
theorem isort_stb {α : Type} {lt : α → α → Bool} (O : Swo lt) : ∀ l : List α, Stb lt (isort lt l) l
  | [] => Stb.refl []
  | x :: xs => by
    have ih := isort_stb O xs
    refine ⟨isort_perm _, fun z => ?_⟩
    show (isort.insF lt x (isort lt xs)).filter _ = _
    rw [insF_cls O x z (isort_srtd O xs)]
    rcases SrtO.bcase (SrtO.eqv lt z x) with q | q
    · rw [List.filter_cons_of_pos q, List.filter_cons_of_pos q, ih.cls z]
    · rw [List.filter_cons_of_neg (by rw [q]; decide), List.filter_cons_of_neg (by rw [q]; decide), ih.cls z]
theorem swo_int : Swo (fun a b : Int => decide (a < b)) := ⟨fun x y h => by
    have := of_decide_eq_true h
    exact decide_eq_false (by omega), fun x y z h1 h2 => by
    have h1 := of_decide_eq_false h1
    have h2 := of_decide_eq_false h2
    exact decide_eq_false (by omega)⟩
theorem stb_int {a b : List Int} (h : a.Perm b) : Stb (fun a b : Int => decide (a < b)) a b := by
  refine ⟨h, fun z => ?_⟩
  have e : ∀ l : List Int, l.filter (SrtO.eqv (fun a b : Int => decide (a < b)) z) = l.filter fun x => decide (x = z) := fun l => by
    congr 1
    funext x
    unfold SrtO.eqv
    by_cases q : x = z
    · subst q; simp
    · rw [decide_eq_false q]
      have : z < x ∨ x < z := by omega
      rcases this with t | t <;> simp [t]
  rw [e, e]
  have f : ∀ l : List Int, l.filter (fun x => decide (x = z)) = List.replicate (l.count z) z := fun l => by
    induction l with
    | nil => rfl
    | cons x l ih =>
      by_cases q : x = z
      · subst q; simp [ih, List.replicate_succ]
      · simp [q, ih, List.count_cons]
  rw [f, f, h.count_eq]
theorem sortI_uniq {a b : List Int} (h : a.Perm b) (hs : a.Pairwise (· ≤ ·)) : a = sortI b := by
  have s1 : Srtd (fun a b : Int => decide (a < b)) a := hs.imp fun {x y} h => decide_eq_false (by omega)
  exact SrtO.stb_uniq swo_int s1 (isort_srtd swo_int b) ⟨h.trans (isort_perm b).symm, fun z => ((stb_int h).cls z).trans ((isort_stb swo_int b).cls z).symm⟩
end
theorem Rps.mem {K : PySem.W.Frag} {S : Addr → Prop} {H : Hp} {rs : List (List Int)} : ∀ {vs : List V} {F : List Addr}, Rps K S H .shr vs (rs.map dRow) F → Paired (fun v r => ∃ a, v = V.ref a ∧ H a = some (.tup (r.map V.int))) vs rs := by
  induction rs with
  | nil => intro vs F h; cases h; exact .nil
  | cons r rs ih =>
    intro vs F h
    cases h with
    | cons h1 h2 =>
      obtain ⟨a, us, rfl, e, r1⟩ := Rp.tup_inv h1
      obtain ⟨rfl, _⟩ := r1.ints
      exact .cons ⟨a, rfl, e⟩ (ih h2)
def keyV (H : Hp) : V → List Int
  | .ref a => match H a with
    | some (.tup vs) => vs.filterMap fun v => match v with | .int i => some i | _ => none
    | _ => []
  | _ => []
theorem keyV_at {H : Hp} {a : Addr} {r : List Int} (h : H a = some (.tup (r.map V.int))) : keyV H (.ref a) = r := by
  unfold keyV
  simp only [h]
  rw [List.filterMap_map]
  exact List.filterMap_some
theorem paired_key {H : Hp} : ∀ {vs : List V} {rs : List (List Int)}, Paired (fun v r => ∃ a, v = V.ref a ∧ H a = some (.tup (r.map V.int))) vs rs → vs.map (keyV H) = rs ∧ ∀ v ∈ vs, ∃ a, v = V.ref a ∧ H a = some (.tup ((keyV H v).map V.int))
  | _, _, .nil => ⟨rfl, fun _ z => nomatch z⟩
  | _, _, .cons ⟨a, e, h⟩ t => by
    obtain ⟨i1, i2⟩ := paired_key t
    subst e
    refine ⟨by rw [List.map_cons, keyV_at h, i1], fun v hv => ?_⟩
    rcases List.mem_cons.mp hv with e | hv
    · rw [e, keyV_at h]; exact ⟨a, rfl, h⟩
    · exact i2 v hv
theorem sameLen_all {rs : List (List Int)} (h : sameLen rs = true) : ∃ d, 1 ≤ d ∧ ∀ r ∈ rs, r.length = d := by
  cases rs with
  | nil => exact ⟨1, Nat.le_refl _, fun _ z => nomatch z⟩
  | cons r rs =>
    unfold sameLen at h
    rw [Bool.and_eq_true, decide_eq_true_eq] at h
    refine ⟨r.length, h.1, fun q hq => ?_⟩
    rcases List.mem_cons.mp hq with e | hq
    · rw [e]
    · exact of_decide_eq_true (List.all_eq_true.mp h.2 q hq)
theorem rps_rows {K : PySem.W.Frag} {S : Addr → Prop} {H : Hp} : ∀ {vs : List V}, (∀ v ∈ vs, ∃ a, v = V.ref a ∧ H a = some (.tup ((keyV H v).map V.int))) → Rps K S H .shr vs ((vs.map (keyV H)).map dRow) []
  | [], _ => .nil
  | v :: vs, h => by
    obtain ⟨a, e, ha⟩ := h v List.mem_cons_self
    have r := rps_rows (K := K) (S := S) (vs := vs) fun u hu => h u (List.mem_cons_of_mem _ hu)
    refine Rps.cons (F := []) (G := []) ?_ r
    subst e
    refine .tup ha ?_
    generalize keyV H (V.ref a) = ns
    induction ns with
    | nil => exact .nil
    | cons n ns ih => exact Rps.cons (F := []) (G := []) .int ih
theorem rps_ints {K : PySem.W.Frag} {S : Addr → Prop} {H : Hp} {l : Lv} : ∀ ns : List Int, Rps K S H l (ns.map V.int) (ns.map .int) []
  | [] => .nil
  | n :: ns => Rps.cons (F := []) (G := []) .int (rps_ints ns)
section
variable {X : Cx}
theorem k_sortedI : CallOk X (.builtin "sorted") bSortedI := ⟨_, cr_sortedI, fun S H vs ds z Q r e q => by
  unfold bSortedI at e
  split at e
  · rename_i d
    obtain ⟨ns, e1, e⟩ := Option.map_eq_some_iff.mp e
    subst e
    obtain ⟨xs, e2, e3⟩ := bind_some e1
    obtain ⟨v, rfl, r1⟩ := r.inv1
    obtain ⟨a, us, rfl, h1, h2⟩ := seq_rp r1 e2
    rw [intsOf_some e3] at h2
    obtain ⟨rfl, _⟩ := h2.ints
    refine ⟨a, ns, rfl, h1, fun ns' p pm pw np => ?_⟩
    rw [sortI_uniq pm pw]
    exact q.lst (rps_ints _) p np
  · cases e⟩
theorem k_sortedR : CallOk X (.builtin "sorted") bSortedR := ⟨_, EvS.cr_sortedL, fun S H vs ds z Q r e q => by
  unfold bSortedR at e
  split at e
  · rename_i d
    obtain ⟨xs, e2, e⟩ := bind_some e
    obtain ⟨rs, e3, e⟩ := bind_some e
    split at e
    · rename_i hl
      cases e
      obtain ⟨v, rfl, r1⟩ := r.inv1
      obtain ⟨a, us, rfl, h1, h2⟩ := seq_rp r1 e2
      rw [rowsOfL_some e3] at h2
      obtain ⟨k1, k2⟩ := paired_key (Rps.mem h2)
      obtain ⟨d, hd, hlen⟩ := sameLen_all hl
      refine ⟨a, us, keyV H, d, hd, rfl, h1, fun x hx => ?_, fun ys p hs hb np => ?_⟩
      · obtain ⟨t, e, ht⟩ := k2 x hx
        exact ⟨t, e, ht, hlen _ (by rw [← k1]; exact List.mem_map_of_mem hx)⟩
      · have eo : ys.map (keyV H) = sortR rs := by
          refine SrtO.stb_uniq (EvS.swo_lex id) (SrtO.srtd_map hs) (isort_srtd (EvS.swo_lex id) rs) ?_
          have z1 := SrtO.Stb.map (EvS.swo_lex id) (keyV H) hb
          rw [k1] at z1
          have z2 := isort_stb (EvS.swo_lex (α := List Int) id) rs
          exact ⟨z1.perm.trans z2.perm.symm, fun x => (z1.cls x).trans (z2.cls x).symm⟩
        have hy : ∀ v ∈ ys, ∃ a, v = V.ref a ∧ H a = some (.tup ((keyV H v).map V.int)) := fun v hv => k2 v (hb.perm.mem_iff.mp hv)
        have z := rps_rows (K := X.K) (S := S) hy
        rw [eo] at z
        exact q.lst z p np
    · cases e
  · cases e⟩
def keysI : List (Key × D) → Option (List Int)
  | [] => some []
  | (.inl i, _) :: kd => (keysI kd).map (i :: ·)
  | (.inr _, _) :: _ => none
theorem keysI_some : ∀ {kd : List (Key × D)} {ks : List Int}, keysI kd = some ks → kd.map (·.1) = ks.map Sum.inl
  | [], _, h => by cases h; rfl
  | (.inl i, d) :: kd, ks, h => by
    unfold keysI at h
    obtain ⟨m, e, h⟩ := Option.map_eq_some_iff.mp h
    subst h
    rw [List.map_cons, keysI_some e]
    rfl
  | (.inr _, _) :: _, _, h => by cases h
def bSortedD : List D → Option Ret
  | [.dk kd] => (keysI kd).bind fun ks => if ks.length < 64 then some (.lst ((sortI ks).map .int), .top) else none
  | _ => none
theorem k_sortedD (hc : X.calm = true) : CallOk X (.builtin "sorted") bSortedD := ⟨_, call_sortedDI hc, fun S H vs ds z Q r e q => by
  unfold bSortedD at e
  split at e
  · rename_i kd
    obtain ⟨ks, e1, e⟩ := bind_some e
    split at e
    · rename_i hl
      cases e
      obtain ⟨v, rfl, r1⟩ := r.inv1
      obtain ⟨a, kv, G, rfl, h1, h2, _⟩ := r1.dk_inv
      refine ⟨a, kv, ks, rfl, h1, h2.trans (keysI_some e1), hl, fun ys p pm pw np => ?_⟩
      rw [sortI_uniq pm pw]
      exact q.lst (rps_ints _) p np
    · cases e
  · cases e⟩
abbrev bSorted : List D → Option Ret := fun ds => (bSortedD ds).or ((bSortedI ds).or (bSortedR ds))
theorem k_sorted (hc : X.calm = true) : CallOk X (.builtin "sorted") bSorted := (k_sortedD hc).or (k_sortedI.or k_sortedR)
theorem k_list : CallOk X (.type "list") bList := ⟨_, call_list_of, fun S H vs ds z Q r e q => by
  unfold bList at e
  split at e
  · rename_i d
    obtain ⟨xs, e2, e⟩ := Option.map_eq_some_iff.mp e
    subst e
    obtain ⟨v, rfl, r1⟩ := r.inv1
    obtain ⟨a, us, rfl, h1, h2⟩ := items_rp r1 e2
    exact ⟨a, us, rfl, h1, fun l nl => q.lst h2 l nl⟩
  · cases e⟩
theorem k_max2 (hc : X.calm = true) : CallOk X (.builtin "max") bMax2 := ⟨_, call_max2 hc, fun S H vs ds z Q r e q => by
  unfold bMax2 at e
  split at e
  · cases e
    obtain ⟨v, w, rfl, r1, r2⟩ := r.inv2
    obtain ⟨rfl, _⟩ := r1.int_inv
    obtain ⟨rfl, _⟩ := r2.int_inv
    exact ⟨_, _, rfl, q.atom fun _ => .int⟩
  · cases e⟩
theorem k_min2 (hc : X.calm = true) : CallOk X (.builtin "min") bMin2 := ⟨_, call_min2 hc, fun S H vs ds z Q r e q => by
  unfold bMin2 at e
  split at e
  · cases e
    obtain ⟨v, w, rfl, r1, r2⟩ := r.inv2
    obtain ⟨rfl, _⟩ := r1.int_inv
    obtain ⟨rfl, _⟩ := r2.int_inv
    exact ⟨_, _, rfl, q.atom fun _ => .int⟩
  · cases e⟩
theorem Rps.bls {K : PySem.W.Frag} {S : Addr → Prop} {H : Hp} {l : Lv} : ∀ {vs : List V} {ns : List Bool} {F : List Addr}, Rps K S H l vs (ns.map .bl) F → vs = ns.map V.bl
  | _, [], _, .nil => rfl
  | _, n :: ns, _, .cons h1 h2 => by
    obtain ⟨rfl, e1⟩ := Rp.bl_inv h1
    rw [Rps.bls h2]
    rfl
theorem k_all (hc : X.calm = true) : CallOk X (.builtin "all") bAll := ⟨_, cr_all hc, fun S H vs ds z Q r e q => by
  unfold bAll at e
  split at e
  · rename_i d
    obtain ⟨ns, e1, e⟩ := Option.map_eq_some_iff.mp e
    subst e
    obtain ⟨v, rfl, r1⟩ := r.inv1
    obtain ⟨a, us, rfl, h1, _, h2⟩ := r1.lst_shr
    rw [blsOf_some e1] at h2
    have := h2.bls
    subst this
    exact ⟨a, ns, rfl, SqL.of h1, q.atom fun _ => .bl⟩
  · cases e⟩
end
end Ev
set_option Elab.async false
set_option linter.all false
set_option maxRecDepth 100000
namespace Ev
open PySem PySem.Spec L2
open PyProof.Rows hiding St
section
variable {X : Cx} {e e2 o : Expr} {es : List Expr} {ga : EvA} {fe fa fb : EvE} {p pos apos cpos : Pos} {x : Str} {id T : String}
def tyN : D → Option String
  | .non => some "NoneType" | .bl _ => some "bool" | .int _ => some "int" | .str _ => some "str"
  | .tup _ => some "tuple" | .lst _ => some "list" | .fl _ => some "list" | .dk _ => some "dict"
  | _ => none
def eIsi (T : String) (fe : EvE) : EvE := fun ρ => (fe ρ).bind fun x => (tyN x.d).bind fun tn => (kitB tn T).map rB
theorem ty_rp {K : PySem.W.Frag} {S : Addr → Prop} {H : Hp} {l : Lv} {v : V} {d : D} {F : List Addr} {tn : String} (r : Rp K S H l v d F) (h : tyN d = some tn) : TyX K H v (.type tn) := by
  cases d with
  | non => cases h; obtain ⟨rfl, _⟩ := r.non_inv; exact .base .non
  | bl b => cases h; obtain ⟨rfl, _⟩ := r.bl_inv; exact .base (.bl _)
  | int i => cases h; obtain ⟨rfl, _⟩ := r.int_inv; exact .base (.int _)
  | str x => cases h; obtain ⟨rfl, _⟩ := r.str_inv; exact .base (.str _)
  | tup ds => cases h; obtain ⟨a, vs, rfl, h1, _⟩ := r.tup_inv; exact .base (.tup h1)
  | lst ds => cases h; obtain ⟨a, vs, G, rfl, h1, _⟩ := r.lst_inv; exact .base (.lst h1)
  | fl ds =>
    cases h
    obtain ⟨a, vs, rfl, h1, _⟩ := r.fl_inv
    rcases h1 with ⟨o, h1⟩ | ⟨o, its, n, h1, h2, _⟩
    · exact .base (.frz h1)
    · exact .kList h1 h2
  | dk kd =>
    cases h
    obtain ⟨a, kv, G, rfl, h1, _⟩ := r.dk_inv
    rcases h1 with h1 | ⟨o, h1⟩
    · exact .base (.dK h1)
    · exact .fDict h1
  | _ => cases h
theorem e_isi {t : Str} {p1 p2 : Pos} (T : String) (hm : X.mg "isinstance" = none) (hmT : X.mg t = none) (hvT : bootBuiltins t = some (.type T)) (he : PEv X e fe) (hg : Gl X "isinstance" := by rfl) (hgT : Gl X t := by rfl) (hnT : t ≠ "__name__" := by decide) (hdT : (t == ("__debug__" : Str)) = false := by decide)
    (hs1 : starEach [e, .Name t p2] X.env = (false, eval e X.env) :: starEach [.Name t p2] X.env := by rfl) (hs2 : starEach [.Name t p2] X.env = (false, eval (.Name t p2) X.env) :: starEach [] X.env := by rfl)
    (hpl : (backTo pos (starEach [.Name t p2] X.env)).any (·.1) = false := by rfl) : PEv X (.Call (.Name "isinstance" p1) [e, .Name t p2] [] pos) (eIsi T fe) := by
  have hv : bootBuiltins "isinstance" = some (.builtin "isinstance") := PyProof.Rows.boot_isinstance
  refine imp_e (pe_callB call_isi hg hm hv (pa_cons he (pa_cons (pe_bltn (v := .ty T) hgT hmT hvT rfl hnT hdT) pa_nil hs2) hs1) (by decide) (by decide) hs1 hpl) fun σ H Q ⟨N, H0, ρ, L, W, rr, sim, z, q⟩ => ?_
  unfold eIsi at z
  obtain ⟨x, e1, z⟩ := bind_some z
  obtain ⟨tn, e2, z⟩ := bind_some z
  obtain ⟨b, e3, z⟩ := Option.map_eq_some_iff.mp z
  subst z
  refine one sim e1 fun v H1 F s1 n1 d1 p1 => ?_
  exact ⟨v, .ty T, .type tn, .type T, b, rfl, .ty T, ty_rp p1 e2, kit_ty e3, q.bl s1⟩
def cutL {α : Type} (xs : List α) (lo hi : Option Int) : List α := (xs.drop (HT.sIx xs.length 0 lo)).take (HT.sIx xs.length xs.length hi - HT.sIx xs.length 0 lo)
abbrev EvO := Env → Option (Option Int)
def oNone : EvO := fun _ => some none
def oSome (fe : EvE) : EvO := fun ρ => (fe ρ).bind fun x => (intOf x.d).map some
def tO (K : PySem.W.Frag) (f : EvO) : TO := fun σ H Q => ∃ N H0 ρ L W o, SimH K N H0 ρ σ H L W ∧ f ρ = some o ∧ ∀ H', Same H H' → Q o H'
abbrev POv (X : Cx) (e : Option Expr) (f : EvO) : Prop := PO X e (tO X.K f)
theorem imp_o {e : Option Expr} {t t' : TO} (h : PO X e t) (i : ∀ σ H Q, t' σ H Q → t σ H Q) : PO X e t' := ⟨fun p s σ H Q I w => h.run p s σ H Q I (i σ H Q w)⟩
theorem o_none : POv X none oNone := imp_o po_none fun σ H Q ⟨N, H0, ρ, L, W, k, sim, z, q⟩ => by cases z; exact q H (Same.refl H)
theorem o_some (he : PEv X e fe) : POv X (some e) (oSome fe) := imp_o (po_some he) fun σ H Q ⟨N, H0, ρ, L, W, k, sim, z, q⟩ => by
  unfold oSome at z
  obtain ⟨x, e1, z⟩ := bind_some z
  obtain ⟨i, e2, z⟩ := Option.map_eq_some_iff.mp z
  subst z
  refine one sim e1 fun v H1 F s1 n1 d1 p1 => ?_
  have : x.d = .int i := by
    cases q : x.d <;> rw [q] at e2 <;> first | (cases e2; rfl) | cases e2
  rw [this] at p1
  obtain ⟨rfl, _⟩ := p1.int_inv
  exact ⟨i, rfl, q H1 s1⟩
def cutD (d : D) (lo hi : Option Int) : Option Ret := match d with
  | .lst ds => some (.lst (cutL ds lo hi), .top)
  | .fl ds => some (.lst (cutL ds lo hi), .top)
  | .tup ds => if HT.sIx ds.length 0 lo = 0 ∧ HT.sIx ds.length ds.length hi = ds.length then none else some (.tup (cutL ds lo hi), .shr)
  | _ => none
def eSl (fe : EvE) (fl fh : EvO) : EvE := fun ρ => (fe ρ).bind fun x => (fl ρ).bind fun lo => (fh ρ).bind fun hi => (cutD x.d lo hi).map (res x.al x.vw)
theorem Rps.cut {K : PySem.W.Frag} {S : Addr → Prop} {H : Hp} {vs : List V} {ds : List D} (r : Rps K S H .shr vs ds []) (lo hi : Option Int) : Rps K S H .shr (cutV vs lo hi) (cutL ds lo hi) [] := by
  unfold cutV cutL
  rw [r.len]
  exact (r.drop _).take _
theorem e_sl {lo hi : Option Expr} {fl fh : EvO} {p2 : Pos} (he : PEv X e fe) (hl : POv X lo fl) (hh : POv X hi fh) : PEv X (.Subscript e (.Slice lo hi none p2) pos) (eSl fe fl fh) := by
  refine imp_e (pe_slice (sl_list.or sl_tup) he hl hh) fun σ H Q ⟨N, H0, ρ, L, W, rr, sim, z, q⟩ => ?_
  unfold eSl at z
  obtain ⟨x, e1, z⟩ := bind_some z
  obtain ⟨l, e2, z⟩ := bind_some z
  obtain ⟨h, e3, z⟩ := bind_some z
  obtain ⟨z', e4, z⟩ := Option.map_eq_some_iff.mp z
  subst z
  refine one sim e1 fun v H1 F s1 n1 d1 p1 => ⟨N, H0, ρ, L, W, l, sim.same s1, e2, fun H2 s2 => ⟨N, H0, ρ, L, W, h, (sim.same s1).same s2, e3, fun H3 s3 => ?_⟩⟩
  have hF : ∀ a ∈ F, N a ∧ a ∉ W := fun a m => ⟨sim.nw a (n1 a m), fun w => sim.th a w (n1 a m)⟩
  have s23 := s2.trans s3
  have s13 := s1.trans s23
  have r := (p1.same s23).give (S' := SR N W x.al x.vw) (fun a z => z.1) fun a m => ⟨.new (hF a m).1, fun _ => (hF a m).2⟩
  have fin : Made X.K (SR N W x.al x.vw) H3 z' Q := fun u H4 G s4 n4 d4 p4 => q.res (s13.trans s4) (fun a m => s13.free (n4 a m)) d4 (fun a z => z) p4
  unfold cutD at e4
  split at e4
  · rename_i ds hd
    cases e4
    rw [hd] at r
    obtain ⟨a, vs, rfl, h1, _, h3⟩ := r.lst_shr
    exact .inl ⟨a, vs, rfl, SqL.of h1, fun p np => fin.lst (h3.cut l h) p np⟩
  · rename_i ds hd
    cases e4
    rw [hd] at r
    obtain ⟨a, vs, rfl, h1, h3, _⟩ := r.fl_inv
    exact .inl ⟨a, vs, rfl, h1.sq, fun p np => fin.lst (h3.cut l h) p np⟩
  · rename_i ds hd
    split at e4
    · cases e4
    · rename_i hno
      cases e4
      rw [hd] at r
      obtain ⟨a, vs, rfl, h1, h3⟩ := r.tup_inv
      refine .inr ⟨a, vs, rfl, SqT.of h1, by rw [h3.len]; exact hno, fun p np => fin _ _ [] (same_upd np) (fun _ z => nomatch z) .nil (.tup upd_same (((h3.cut l h).same (same_upd np)).mono fun a z => ⟨z, fun m => nomatch m⟩))⟩
  · cases e4
def eCat (fa fb : EvE) : EvE := fun ρ => (fa ρ).bind fun x => (fb ρ).bind fun y => match x.d, y.d with
  | .lst xs, .lst ys => if xs.length + ys.length ≤ 1000000 then some (res (x.al || y.al) (x.vw || y.vw) (.lst (xs ++ ys), .top)) else none
  | _, _ => none
def ePlus (fa fb : EvE) : EvE := fun ρ => (eAdd fa fb ρ).or (eCat fa fb ρ)
theorem mil {n : Nat} (h : n ≤ 1000000) : n ≤ sizeLine := Nat.le_trans h (by rw [sizeLine_eq]; decide)
theorem e_plus (ha : PEv X e fa) (hb : PEv X e2 fb) : PEv X (.BinOp e .Add e2 pos) (ePlus fa fb) := by
  refine imp_e (pe_op (op_add.or op_cat) ha hb) fun σ H Q ⟨N, H0, ρ, L, W, rr, sim, z, q⟩ => ?_
  unfold ePlus at z
  cases h1 : eAdd fa fb ρ with
  | some k =>
    rw [h1] at z
    cases z
    obtain ⟨x, y, i, j, e1, e2, d1, d2, hc, rfl⟩ := eOp_some h1
    refine two sim e1 e2 fun v w H2 F G s _ _ _ _ _ p1 p2 => ?_
    rw [d1] at p1
    rw [d2] at p2
    obtain ⟨rfl, _⟩ := p1.int_inv
    obtain ⟨rfl, _⟩ := p2.int_inv
    exact .inl ⟨i, j, rfl, rfl, q.int s⟩
  | none =>
    rw [h1] at z
    have z : eCat fa fb ρ = some rr := z
    unfold eCat at z
    obtain ⟨x, e1, z⟩ := bind_some z
    obtain ⟨y, e2, z⟩ := bind_some z
    split at z
    · rename_i xs ys hx hy
      split at z
      · rename_i hl
        cases z
        refine two sim e1 e2 fun v w H2 F G s n1 n2 _ _ _ p1 p2 => ?_
        have hF : ∀ a ∈ F, N a ∧ a ∉ W := fun a m => ⟨sim.nw a (n1 a m), fun w => sim.th a w (n1 a m)⟩
        have hG : ∀ a ∈ G, N a ∧ a ∉ W := fun a m => ⟨sim.nw a (n2 a m), fun w => sim.th a w (n2 a m)⟩
        have r1 := p1.give (S' := SR N W (x.al || y.al) (x.vw || y.vw)) (fun a z => ⟨z.1.1.up (fun e => by simp [e]), fun e => z.1.2 (by simp at e; exact e.1)⟩) fun a m => ⟨.new (hF a m).1, fun _ => (hF a m).2⟩
        have r2 := p2.give (S' := SR N W (x.al || y.al) (x.vw || y.vw)) (fun a z => ⟨z.1.1.up (fun e => by simp [e]), fun e m => z.1.2 (by simp at e; exact e.2) (List.mem_append_left _ m)⟩) fun a m => ⟨.new (hG a m).1, fun _ => (hG a m).2⟩
        rw [hx] at r1
        rw [hy] at r2
        obtain ⟨a, vs, rfl, h1, _, h3⟩ := r1.lst_shr
        obtain ⟨b, us, rfl, h4, _, h6⟩ := r2.lst_shr
        have fin : Made X.K (SR N W (x.al || y.al) (x.vw || y.vw)) H2 (.lst (xs ++ ys), .top) Q := fun u H4 G s4 n4 d4 p4 => q.res (s.trans s4) (fun a m => s.free (n4 a m)) d4 (fun a z => z) p4
        exact .inr ⟨a, b, vs, us, rfl, rfl, h1, h4, mil (by rw [h3.len, h6.len]; exact hl), fun p np => fin.lst (h3.app h6) p np⟩
      · cases z
    · cases z
theorem Rps.at_ {K : PySem.W.Frag} {S : Addr → Prop} {H : Hp} {vs : List V} {ds : List D} {i : Nat} {d : D} (r : Rps K S H .shr vs ds []) (h : ds[i]? = some d) : ∃ v, vs[i]? = some v ∧ Rp K S H .shr v d [] := by
  obtain ⟨v, G, e, rp, sub⟩ := r.get h
  have hG : G = [] := rp.shr0
  subst hG
  exact ⟨v, e, rp⟩
theorem seq_stays {K : PySem.W.Frag} {N : Nw} {W : List Addr} {H1 : Hp} {v : V} {d : D} {ds : List D} {al : Bool} (hm : ∀ b ∈ W, Mut (H1 b)) (r : Rp K (SR N W al false) H1 .shr v d []) (h : seqOf d = some ds) : ∃ a vs, v = .ref a ∧ (∀ H2, Kept H1 W H2 → SqL K H2 a vs) ∧ Rps K (SR N W al false) H1 .shr vs ds [] := by
  cases d with
  | lst xs =>
    cases h
    obtain ⟨a, vs, rfl, h1, h2, h3⟩ := r.lst_shr
    exact ⟨a, vs, rfl, fun H2 k => SqL.of (k _ _ h1 (h2.2 rfl)), h3⟩
  | fl xs =>
    cases h
    obtain ⟨a, vs, rfl, h1, h3, _⟩ := r.fl_inv
    refine ⟨a, vs, rfl, fun H2 k => ?_, h3⟩
    rcases h1 with ⟨o, h1⟩ | h1
    · refine .inl (.inr ⟨o, k _ _ h1 fun w => ?_⟩)
      have := hm a w
      rw [h1] at this
      exact this
    · exact .inr h1
  | _ => cases h
theorem item_stays {K : PySem.W.Frag} {N : Nw} {W : List Addr} {H1 H2 : Hp} {v : V} {d : D} {al : Bool} (hm : ∀ b ∈ W, Mut (H1 b)) (rp : Rp K (SR N W al false) H1 .shr v d []) (k : Kept H1 W H2) : Rp K (fun a => SR N W al false a ∧ H1 a ≠ none) H2 .shr v d [] := by
  have z := (rp.trk.mono (S' := fun a => (AlN N al a ∧ H1 a ≠ none) ∧ a ∉ W) fun a z => ⟨⟨z.1.1, z.2⟩, z.1.2 rfl⟩).kept hm k
  exact z.mono fun a z => ⟨⟨z.1.1, fun _ => z.2⟩, z.1.2⟩
def zipD (al : Bool) : List D → List D → List (D × Bool)
  | x :: xs, y :: ys => (.tup [x, y], al) :: zipD al xs ys
  | _, _ => []
theorem zipD_get {al : Bool} : ∀ {xs ys : List D} {i : Nat} {d : D} {al' : Bool}, (zipD al xs ys)[i]? = some (d, al') → ∃ x y, xs[i]? = some x ∧ ys[i]? = some y ∧ d = .tup [x, y] ∧ al' = al
  | [], _, _, _, _, h => by simp [zipD] at h
  | _ :: _, [], _, _, _, h => by simp [zipD] at h
  | x :: xs, y :: ys, 0, d, al', h => by
    simp [zipD] at h
    exact ⟨x, y, rfl, rfl, h.1.symm, h.2.symm⟩
  | x :: xs, y :: ys, i + 1, d, al', h => by
    obtain ⟨u, v, h1, h2, h3⟩ := zipD_get (xs := xs) (ys := ys) (i := i) (by simpa [zipD] using h)
    exact ⟨u, v, by simpa using h1, by simpa using h2, h3⟩
theorem zipD_len {al : Bool} : ∀ (xs ys : List D), (zipD al xs ys).length = min xs.length ys.length
  | [], _ => by simp [zipD]
  | _ :: _, [] => by simp [zipD]
  | x :: xs, y :: ys => by show (zipD al xs ys).length + 1 = _; rw [zipD_len xs ys, List.length_cons, List.length_cons]; omega
def iZipV (ga : EvA) : EvI := fun ρ => (ga ρ).bind fun (rs : List Rv) => match rs with
  | [x, y] => if (x.vw || y.vw) = true then none else (seqOf x.d).bind fun xs => (seqOf y.d).map fun ys => zipD (x.al || y.al) xs ys
  | _ => none
theorem i_zip {tpos : Pos} {elts : List Expr} {kk : Nat} (hm : X.mg "zip" = none) (ha : PAv X [e, e2] ga) (hg : Gl X "zip" := by rfl) (hs : starEach [e, e2] X.env = (false, eval e X.env) :: starEach [e2] X.env := by rfl) (hpl : (backTo pos (starEach [e2] X.env)).any (·.1) = false := by rfl) : PIv X (.Tuple elts kk tpos) (.Call (.Name "zip" p) [e, e2] [] pos) (iZipV ga) := by
  refine imp_i (pi_zip hg hm ha hs hpl) fun σ H R ⟨N, H0, ρ, L, W, items, sim, z, q⟩ => ?_
  unfold iZipV at z
  obtain ⟨rs, e1, z⟩ := bind_some z
  split at z
  · rename_i x y
    split at z
    · cases z
    · rename_i hv
      have hv : x.vw = false ∧ y.vw = false := by simpa using hv
      obtain ⟨xs, e2, z⟩ := bind_some z
      obtain ⟨ys, e3, z⟩ := Option.map_eq_some_iff.mp z
      subst z
      refine ⟨N, H0, ρ, L, W, [x, y], sim, e1, fun us H1 T s1 n1 d1 p1 => ?_⟩
      have hT : ∀ a ∈ T, N a ∧ a ∉ W := fun a m => ⟨sim.nw a (n1 a m), fun w => sim.th a w (n1 a m)⟩
      have muW : ∀ b ∈ W, Mut (H1 b) := fun b z => mut_same (sim.mu b z) s1
      have r := p1.give (al := x.al || y.al) hT (fun _ m => m) (by simp [hv.1, hv.2]) (fun r hr h => by
        rcases List.mem_cons.mp hr with e | hr
        · rw [← e, h]; rfl
        · rw [← List.mem_singleton.mp hr, h]; simp)
      obtain ⟨v, w, rfl, r1, r2⟩ := Rps.inv2 r
      obtain ⟨a, vs, rfl, hs1, h2⟩ := seq_stays muW r1 e2
      obtain ⟨b, ws, rfl, hs2, h3⟩ := seq_stays muW r2 e3
      refine ⟨a, b, vs, ws, rfl, hs1 H1 fun _ _ e _ => e, hs2 H1 fun _ _ e _ => e, q _ H1 s1 ⟨fun i d al H2 ei k => ?_, fun i d al H2 y H3 ei k hy => ?_, fun H2 k => ?_⟩⟩
      · obtain ⟨u, u', e4, e5, _⟩ := zipD_get ei
        obtain ⟨p1, q1, _⟩ := h2.at_ e4
        obtain ⟨p2, q2, _⟩ := h3.at_ e5
        exact ⟨vs, ws, p1, p2, hs1 H2 k, hs2 H2 k, q1, q2⟩
      · obtain ⟨u, u', e4, e5, rfl, rfl⟩ := zipD_get ei
        obtain ⟨p1, q1, rp1⟩ := h2.at_ e4
        obtain ⟨p2, q2, rp2⟩ := h3.at_ e5
        obtain ⟨T, x', y', rfl, nT, rfl, hw1, hw2⟩ := hy
        have := hw1 vs (hs1 H2 k)
        rw [q1] at this
        cases this
        have := hw2 ws (hs2 H2 k)
        rw [q2] at this
        cases this
        refine ⟨same_upd nT, .tup upd_same ?_⟩
        exact Rps.cons (F := []) (G := []) ((item_stays muW rp1 k).same (same_upd nT)) (Rps.cons (F := []) (G := []) ((item_stays muW rp2 k).same (same_upd nT)) .nil)
      · refine ⟨vs, ws, hs1 H2 k, hs2 H2 k, ?_⟩
        rw [zipD_len, h2.len, h3.len]
        omega
  · cases z
end
section
variable {K : PySem.W.Frag} {N : Nw} {H0 H H1 : Hp} {ρ : Env} {σ : St} {L : List Addr}
theorem Sim.mut {i : Nat} {s : Sv} (sim : Sim K N H0 ρ σ H L) (e : ρ[i]? = some (some s)) :
    ∃ v G, σ[i]? = some (some v) ∧ Rp K (SR N L s.al false) H s.l v s.d G ∧ G.Nodup ∧ (∀ b ∈ G, b ∈ L) ∧
      ∀ {H1 : Hp} {a : Addr} {o : HO} {s' : Sv} {G' T : List Addr}, Same H H1 → a ∈ G → Mut (some o) → (∀ b ∈ T, H b = none ∧ Mut (upd H1 a o b)) → (∀ b ∈ G', b ∈ G ∨ b ∈ T) → G'.Nodup → (s'.pn = s.pn ∨ s'.pn = none) →
        Rp K (fun b => AlN N s'.al b ∧ (b ∉ L ∨ b ∈ G) ∧ b ∉ T ∧ b ∉ G' ) (upd H1 a o) s'.l v s'.d G' →
        ∃ L', Sim K N H0 (ρ.set i (some s')) σ (upd H1 a o) L' ∧ Frm H L (upd H1 a o) L' := by
  obtain ⟨F1, G, F2, eL, get, p⟩ := sim.sl.at_ (List.getElem?_eq_some_iff.mp e).1
  obtain ⟨v, ev, hpn, rp⟩ := get s e
  have hnd := sim.nd
  rw [eL] at hnd
  have hG : ∀ b ∈ G, b ∈ L := fun b z => by rw [eL]; simp [z]
  have hnd' := hnd
  rw [List.nodup_append, List.nodup_append] at hnd
  obtain ⟨n1, ⟨n2, n3, n4⟩, n5⟩ := hnd
  have out : ∀ b ∈ G, b ∉ F1 ++ F2 := fun b hb z => by
    rcases List.mem_append.mp z with z | z
    · exact n5 b z b (by simp [hb]) rfl
    · exact n4 b hb b z rfl
  refine ⟨v, G, ev, rp, n2, hG, fun {H1 a o s' G' T} sm ha m hT hG' nG' hp' rp' => ?_⟩
  have hp2 : ∀ k, s'.pn = some k → v = .ref (N.p k) := fun k z => hp'.elim (fun y => hpn k (y ▸ z)) fun y => by rw [y] at z; cases z
  have haL := hG a ha
  have tr : H a ≠ none := sim.th a haL
  have sub : ∀ b, b ∈ F1 ++ (G' ++ F2) → b ∈ L ∨ H b = none := fun b z => by
    rw [eL]
    rcases List.mem_append.mp z with z | z
    · simp [z]
    · rcases List.mem_append.mp z with z | z
      · exact (hG' b z).elim (fun y => by simp [y]) fun y => .inr (hT b y).1
      · simp [z]
  have neq : ∀ b, b ∉ L → b ≠ a := fun b z y => z (y ▸ haL)
  have kp : ∀ al, Keeps (SR N L al false) (F1 ++ F2) H (upd H1 a o) := fun al b u eb q => by
    have : b ≠ a := fun y => by
      subst y
      rcases q with q | q | ⟨xs, rfl⟩ | ⟨o', u', rfl⟩
      · exact q.2 rfl haL
      · exact out b ha q
      · have := sim.mu b haL; rw [eb] at this; exact this
      · have := sim.mu b haL; rw [eb] at this; exact this
    rw [upd_ne this]
    exact sm b u eb
  have z := p (L1 := F1 ++ (G' ++ F2)) (H1 := upd H1 a o) (v := v) (s := s') (G' := G') kp (fun b z t w => (sub b w).elim z t) hp2 (rp'.mono fun b z => ⟨z.1, fun _ w => by
    rcases List.mem_append.mp w with w | w
    · rcases z.2.1 with y | y
      · exact y (by rw [eL]; simp [w])
      · exact out b y (by simp [w])
    · rcases List.mem_append.mp w with w | w
      · exact z.2.2.2 w
      · rcases z.2.1 with y | y
        · exact y (by rw [eL]; simp [w])
        · exact out b y (by simp [w])⟩)
  have eσ : σ.set i (some v) = σ := by
    obtain ⟨h1, h2⟩ := List.getElem?_eq_some_iff.mp ev
    rw [← h2, List.set_getElem_self]
  rw [eσ] at z
  refine ⟨F1 ++ (G' ++ F2), ⟨fun b u eb n => ?_, fun b eb => ?_, ?_, fun b w => ?_, fun b w => ?_, z⟩, ⟨fun b u eb n => ?_, fun b eb => ?_, sub⟩⟩
  · rw [upd_ne (fun y => n (by rw [y]; exact sim.ln a haL))]
    exact sm b u (sim.kp b u eb n)
  · by_cases y : b = a
    · rw [y]; exact sim.ln a haL
    · rw [upd_ne y] at eb; exact sim.nw b (sm.free eb)
  · rw [List.nodup_append, List.nodup_append]
    have inL : ∀ b, b ∈ F1 ∨ b ∈ F2 → H b ≠ none := fun b z => sim.th b (by rw [eL]; rcases z with z | z <;> simp [z])
    refine ⟨n1, ⟨nG', n3, fun b hb c hc y => ?_⟩, fun b hb c hc y => ?_⟩
    · subst y
      exact (hG' b hb).elim (fun y => out b y (by simp [hc])) fun y => inL b (.inr hc) (hT b y).1
    · subst y
      rcases List.mem_append.mp hc with hc | hc
      · exact (hG' b hc).elim (fun y => out b y (by simp [hb])) fun y => inL b (.inl hb) (hT b y).1
      · exact n5 b hb b (by simp [hc]) rfl
  · exact (sub b w).elim (sim.ln b) (sim.nw b)
  · by_cases y : b = a
    · rw [y, upd_same]; exact m
    · rw [upd_ne y]
      rcases List.mem_append.mp w with w | w
      · exact mut_same (sim.mu b (by rw [eL]; simp [w])) sm
      · rcases List.mem_append.mp w with w | w
        · rcases hG' b w with w | w
          · exact mut_same (sim.mu b (hG b w)) sm
          · have := (hT b w).2
            rw [upd_ne y] at this
            exact this
        · exact mut_same (sim.mu b (by rw [eL]; simp [w])) sm
  · rw [upd_ne (neq b n)]; exact sm b u eb
  · by_cases y : b = a
    · rw [y, upd_same] at eb; cases eb
    · rw [upd_ne y] at eb; exact .inl (sm.free eb)
end
end Ev
set_option Elab.async false
set_option linter.all false
set_option maxRecDepth 100000
namespace Ev
open PySem PySem.Spec L2
open PyProof.Rows hiding St
def keepLv (l l' : Lv) : Lv := if l = .full ∧ l' = .full then .full else .top
section
variable {K : PySem.W.Frag} {N : Nw} {H0 H H1 : Hp} {ρ : Env} {σ : St} {L : List Addr}
theorem Sim.relist {i : Nat} {sl : Lv} {sa : Bool} {sp : Option Nat} {ds : List D} (sim : Sim K N H0 ρ σ H L) (e : ρ[i]? = some (some ⟨.lst ds, sl, sa, sp⟩)) (hl : sl ≠ .shr) :
    ∃ a vs, σ[i]? = some (some (.ref a)) ∧ H a = some (.lst vs) ∧ vs.length = ds.length ∧
      ∀ {H1 : Hp} {us : List V} {rs : List Rv} {T : List Addr} {ws : List V} {es : List D} (pick : ∀ {S : Addr → Prop} {l : Lv} {F G : List Addr}, Rps K S H1 l vs ds F → Rps K S H1 l us (rs.map (·.d)) G → (F ++ G).Nodup → ∃ F', Rps K S H1 l ws es F' ∧ (∀ b ∈ F', b ∈ F ++ G) ∧ F'.Nodup),
        Same H H1 → (∀ b ∈ T, H b = none) → T.Nodup → RpL K N L T H1 us rs T → rs.all (fun r => !r.vw) = true →
        ∃ L', Sim K N H0 (ρ.set i (some ⟨.lst es, keepLv sl (if rs.all (fun r => !r.vw && decide (r.l = .full)) = true then .full else .top), sa || rs.any (·.al), sp⟩)) σ (upd H1 a (.lst ws)) L' ∧ Frm H L (upd H1 a (.lst ws)) L' := by
  obtain ⟨v, G, ev, rp, nG, hG, go⟩ := sim.mut e
  cases rp with
  | nd1 h0 hn ha r =>
    rename_i a o vs ds' F
    cases hn
    refine ⟨a, _, ev, ha, r.len, fun {H1 us rs T ws es} pick sm nT dT rl hvw => ?_⟩
    have hN : ∀ b ∈ a :: F, N b := fun b z => sim.ln b (hG b z)
    have aT : a ∉ T := fun z => by have := nT a z; rw [ha] at this; cases this
    have nFd := List.nodup_cons.mp nG
    have Tout : ∀ b ∈ T, b ∉ L := fun b z w => sim.th b w (nT b z)
    have trT : ∀ b ∈ T, Mut (H1 b) := by
      have : ∀ {vs : List V} {rs : List Rv} {F : List Addr}, RpL K N L T H1 vs rs F → ∀ a ∈ F, Mut (H1 a) := by
        intro vs rs F h
        induction h with
        | nil => exact fun _ z => nomatch z
        | cons h1 h2 ih => exact fun a z => (List.mem_append.mp z).elim (h1.own_mut a) (ih a)
      exact this rl
    have updH : ∀ {S : Addr → Prop} {l : Lv} {ws : List V} {es : List D} {F' : List Addr}, Rps K S H1 l ws es F' → (∀ b, S b → b ≠ a) → a ∉ F' → Rps K S (upd H1 a (.lst ws)) l ws es F' := fun r hS hF => r.keep fun b u eb q => by
      have : b ≠ a := fun y => by
        subst y
        have e1 := sm _ _ ha
        rcases q with q | q | ⟨xs, rfl⟩ | ⟨o', u', rfl⟩
        · exact hS _ q rfl
        · exact hF q
        · rw [e1] at eb; cases eb
        · rw [e1] at eb; cases eb
      rw [upd_ne this]
      exact eb
    by_cases hk : sl = .full ∧ rs.all (fun r => !r.vw && decide (r.l = .full)) = true
    · have hk2 : keepLv sl (if rs.all (fun r => !r.vw && decide (r.l = .full)) = true then .full else .top) = .full := by
        unfold keepLv
        rw [if_pos ⟨hk.1, if_pos hk.2⟩]
      rw [hk2]
      rw [hk.1] at r
      have r1 : Rps K (fun b => AlN N (sa || rs.any (·.al)) b ∧ (b ∉ L ∨ b ∈ a :: F) ∧ b ∉ T ∧ b ∉ a :: F) H1 .full _ ds F := ((r.trk.same sm).mono fun b z => ⟨z.1.1.up (fun e => by have e : sa = true := e; rw [e]; rfl), .inl (z.1.2 rfl), fun w => z.2 (nT b w), fun w => z.1.2 rfl (hG b w)⟩)
      have r2 : Rps K (fun b => AlN N (sa || rs.any (·.al)) b ∧ (b ∉ L ∨ b ∈ a :: F) ∧ b ∉ T ∧ b ∉ a :: F) H1 .full us (rs.map (·.d)) T := (rl.full (al := rs.any (·.al)) hk.2 al_any).mono fun b z => ⟨z.1.1.up (fun e => by rw [e]; cases sa <;> rfl), .inl (z.1.2 rfl), z.2, fun w => z.1.2 rfl (hG b w)⟩
      have dFT : (F ++ T).Nodup := by
        rw [List.nodup_append]
        exact ⟨nFd.2, dT, fun b hb c hc y => Tout c hc (y ▸ hG b (List.mem_cons_of_mem _ hb))⟩
      obtain ⟨F', r3, sub, nF'⟩ := pick r1 r2 dFT
      have aF' : a ∉ F' := fun z => (List.mem_append.mp (sub a z)).elim nFd.1 aT
      exact go (s' := ⟨_, _, _, sp⟩) (G' := a :: F') (T := T) sm List.mem_cons_self trivial (fun b z => ⟨nT b z, by rw [upd_ne (fun y => aT (by rw [← y]; exact z))]; exact trT b z⟩) (fun b z => (List.mem_cons.mp z).elim (fun y => .inl (by rw [y]; exact List.mem_cons_self)) fun z => (List.mem_append.mp (sub b z)).imp (List.mem_cons_of_mem _) id) (List.nodup_cons.mpr ⟨aF', nF'⟩) (.inl rfl)
        (.nd1 (fun z => nomatch z) .lst upd_same ((updH r3 (fun b z y => z.2.2.2 (by rw [y]; exact List.mem_cons_self)) aF').mono fun b z => ⟨z.1, z.2.1, z.2.2.1, fun w => (List.mem_cons.mp w).elim (fun y => z.2.2.2 (by rw [y]; exact List.mem_cons_self)) fun w => (List.mem_append.mp (sub b w)).elim (fun w => z.2.2.2 (List.mem_cons_of_mem _ w)) z.2.2.1⟩))
    · have hk2 : keepLv sl (if rs.all (fun r => !r.vw && decide (r.l = .full)) = true then .full else .top) = .top := by
        unfold keepLv
        refine if_neg fun z => hk ⟨z.1, ?_⟩
        by_cases q : rs.all (fun r => !r.vw && decide (r.l = .full)) = true
        · exact q
        · rw [if_neg q] at z; exact absurd z.2 (fun z => nomatch z)
      rw [hk2]
      have r1 : Rps K (fun b => AlN N (sa || rs.any (·.al)) b ∧ (b ∉ L ∨ b ∈ a :: F) ∧ b ≠ a) H1 .shr _ ds [] := (r.trk.same sm).give (fun b z => ⟨z.1.1.up (fun e => by have e : sa = true := e; rw [e]; rfl), .inl (z.1.2 rfl), fun y => z.1.2 rfl (by rw [y]; exact hG a List.mem_cons_self)⟩) fun b z => ⟨.new (hN b (List.mem_cons_of_mem _ z)), .inr (List.mem_cons_of_mem _ z), fun y => nFd.1 (y ▸ z)⟩
      have r2 : Rps K (fun b => AlN N (sa || rs.any (·.al)) b ∧ (b ∉ L ∨ b ∈ a :: F) ∧ b ≠ a) H1 .shr us (rs.map (·.d)) [] := (rl.give (al := rs.any (·.al)) (fun b z => ⟨sim.nw b (nT b z), Tout b z⟩) (fun _ z => z) hvw al_any).mono fun b z => ⟨z.1.up (fun e => by rw [e]; cases sa <;> rfl), .inl (z.2 rfl), fun y => z.2 rfl (by rw [y]; exact hG a List.mem_cons_self)⟩
      obtain ⟨F', r3, sub, nF'⟩ := pick r1 r2 .nil
      have e3 := r3.shr0
      subst e3
      exact go (s' := ⟨_, _, _, sp⟩) (G' := [a]) (T := []) sm List.mem_cons_self trivial (fun _ z => nomatch z) (fun b z => .inl (by rw [List.mem_singleton.mp z]; exact List.mem_cons_self)) nodup1 (.inl rfl)
        (.nd1 (fun z => nomatch z) .lst upd_same ((updH r3 (fun b z y => z.2.2 y) (fun z => nomatch z)).mono fun b z => ⟨z.1, z.2.1, (fun w => nomatch w), fun w => z.2.2 (List.mem_singleton.mp w)⟩))
  | nd0 hn h1 h2 h3 => exact absurd rfl hl
end
abbrev LOp := ∀ {α : Type}, (α → Option Int) → List α → List α → Option (List α)
def sLop (f : LOp) (fz : List Nat) (i : Nat) (ga : EvA) : EvS := fun ρ => match (frzs fz ρ)[i]? with
  | some (some s) => match s.d with
    | .lst ds => if decide (s.l = .shr) || decide (1000000 < ds.length) then none else (ga (frzs fz ρ)).bind fun rs => if rs.all (fun r => !r.vw) = true then (f intOf ds (rs.map (·.d))).map fun es => .nx ((frzs fz ρ).set i (some ⟨.lst es, keepLv s.l (if rs.all (fun r => !r.vw && decide (r.l = .full)) = true then .full else .top), s.al || rs.any (·.al), s.pn⟩)) else none
    | _ => none
  | _ => none
def intV : V → Option Int
  | .int i => some i
  | _ => none
structure LopOk (X : Cx) (id : String) (f : LOp) : Prop where
  ok : ∃ r : V → List V → Hp → VK → Prop, MtR X id r ∧ ∀ (H : Hp) (a : Addr) (vs us ws : List V) (Q : VK), H a = some (.lst vs) → vs.length ≤ 1000000 → f intV vs us = some ws → Q .non (upd H a (.lst ws)) → r (.ref a) us H Q
  pick : ∀ {K : PySem.W.Frag} {S : Addr → Prop} {H : Hp} {l : Lv} {vs us : List V} {ds es zs : List D} {F G : List Addr}, Rps K S H l vs ds F → Rps K S H l us es G → (F ++ G).Nodup → f intOf ds es = some zs → ∃ ws F', f intV vs us = some ws ∧ Rps K S H l ws zs F' ∧ (∀ b ∈ F', b ∈ F ++ G) ∧ F'.Nodup
section
variable {X : Cx} {e o : Expr} {es : List Expr} {ga : EvA} {fe fa fb : EvE} {pos apos cpos npos : Pos} {x m : Str} {id : String} {f : LOp}
theorem s_lop (fz : List Nat) (i : Nat) (hf : LopOk X id f) (slot : Slot "list" m id) (hty : typeOf (.builtin id) = pure (.type "method_descriptor")) (ha : PAv X (e :: es) ga)
    (hN : X.N[i]? = some x := by rfl) (hv : Vis X.env.scope x := by first | exact Or.inl rfl | exact Or.inr (Or.inl rfl) | exact Or.inr (Or.inr rfl)) (hd : (x == ("__debug__" : Str)) = false := by decide) (hcd : (x == ("__classdict__" : Str)) = false := by decide)
    (hsw : swapsWith (.Call (.Attribute (.Name x npos) m apos) (e :: es) [] cpos) none pos.line X.env = pure false := by rfl)
    (hbase : attributeBase (.Name x npos) m X.env (eval (.Name x npos) X.env) = eval (.Name x npos) X.env := by rfl)
    (hfew : ((backTo cpos (starEach (e :: es) X.env)).all (fun x => !x.1) && (backToKw cpos (keywordEach [] X.env)).all (fun x => x.1.isSome)
      && decide ((e :: es).length + ([] : List Keyword).length + (if ([] : List Keyword).isEmpty then 0 else 1) < 30)) = true := by rfl)
    (hline : (apos.endLine == cpos.line) = true := by rfl) (hs : starEach (e :: es) X.env = (false, eval e X.env) :: starEach es X.env := by rfl) (hplain : (backTo cpos (starEach es X.env)).any (·.1) = false := by rfl) :
    PSv X (.Expr (.Call (.Attribute (.Name x npos) m apos) (e :: es) [] cpos) pos) (sLop f fz i ga) := by
  obtain ⟨r, hm, hr⟩ := hf.ok
  refine imp_s (ps_expr (pe_bm PySem.F.plainAttrs_list slot hty hm (pe_var hN hv hd hcd) ha hbase hfew hline hs hplain) hsw) fun D σ H ⟨N, H0, ρ, L0, o, sim0, z, q0⟩ => ?_
  unfold sLop at z
  obtain ⟨L, sim, subL⟩ := sim0.frzs fz
  have q := q0.at_ (H1 := H) (L1 := L) ⟨fun _ _ e _ => e, fun _ e => .inl e, fun b z => .inl (subL b z)⟩
  split at z
  · rename_i s es
    split at z
    · rename_i ds hd
      split at z
      · cases z
      · rename_i hc
        obtain ⟨sd, sl, sa, sp⟩ := s
        cases hd
        simp only [Bool.or_eq_true, decide_eq_true_eq, not_or, Nat.not_lt] at hc
        obtain ⟨rs, e1, z⟩ := bind_some z
        split at z
        · rename_i hvw
          obtain ⟨zs, e2, z⟩ := Option.map_eq_some_iff.mp z
          subst z
          obtain ⟨a, vs, ev, ha', hlen, go⟩ := sim.relist es hc.1
          refine ⟨.ref a, ev, .inl ⟨rfl, vs, SqL.of ha'⟩, N, H0, _, L, L, rs, sim.h, e1, fun us H1 T s1 n1 d1 p1 => ?_⟩
          obtain ⟨v, G, ev', rp, _⟩ := sim.sl.get es
          rw [ev] at ev'
          cases ev'
          obtain ⟨a', vs', G1, e3, h1, r1, _⟩ := rp.lst_inv
          cases e3
          rw [ha'] at h1
          cases h1
          have look1 := (r1.same s1).give (S' := fun _ => True) (fun _ _ => trivial) fun _ _ => trivial
          obtain ⟨ws, _, ew, _⟩ := hf.pick look1 p1.look .nil e2
          refine hr H1 a _ us ws _ (s1 a _ ha') (by rw [hlen]; exact hc.2) ew ?_
          obtain ⟨L', sim', fr⟩ := go (ws := ws) (es := zs) (fun q1 q2 q3 => by
            obtain ⟨ws', F', e4, r4, sub, nd⟩ := hf.pick q1 q2 q3 e2
            rw [ew] at e4
            cases e4
            exact ⟨F', r4, sub, nd⟩) s1 n1 d1 p1 hvw
          exact q _ _ L' sim' fr
        · cases z
    · cases z
  · cases z
def oApp : LOp := fun _ xs ys => match ys with
  | [y] => some (xs ++ [y])
  | _ => none
theorem l_app : LopOk X "list.append" oApp where
  ok := ⟨_, mt_append, fun H a vs us ws Q h1 h2 h3 q => by
    unfold oApp at h3
    split at h3
    · cases h3
      exact ⟨a, vs, _, rfl, rfl, h1, Nat.lt_of_le_of_lt h2 (by rw [sizeLine_eq]; decide), q⟩
    · cases h3⟩
  pick := fun {K S H l vs us ds es zs F G} r1 r2 nd e => by
    unfold oApp at e
    split at e
    · rename_i y
      cases e
      cases r2 with
      | cons h1 h2 =>
        cases h2
        exact ⟨_, _, rfl, r1.app (.cons h1 .nil), fun _ z => z, nd⟩
    · cases e
end
end Ev
set_option Elab.async false
set_option linter.all false
set_option maxRecDepth 100000
namespace Ev
open PySem PySem.Spec L2
open PyProof.Rows hiding St
structure Blts (mg : Str → Option Value) : Prop where
  len : mg "len" = none
  min : mg "min" = none
  max : mg "max" = none
  sum : mg "sum" = none
  sorted : mg "sorted" = none
  list : mg "list" = none
  range : mg "range" = none
  zip : mg "zip" = none
  enumerate : mg "enumerate" = none
  abs : mg "abs" = none
  int : mg "int" = none
  isinstance : mg "isinstance" = none
  bool : mg "bool" = none
  tuple : mg "tuple" = none
  str : mg "str" = none
  set : mg "set" = none
  all : mg "all" = none
  any : mg "any" = none
  reversed : mg "reversed" = none
  dict : mg "dict" = none
theorem bt_bool : bootBuiltins "bool" = some (.type "bool") := by decide +kernel
section
variable {X : Cx} {e e2 : Expr} {fe fa fb : EvE} {pos pos' : Pos} {x : Str}
theorem x_eq (hu : X.A.units + 65 < cLine) : CmpOk X .Eq gEq := c_eq (by omega)
theorem x_ne (hu : X.A.units + 65 < cLine) : CmpOk X .NotEq gNe := c_ne (by omega)
theorem x_lt (hu : X.A.units + 65 < cLine) : CmpOk X .Lt gLt := c_lt (by omega)
theorem x_le (hu : X.A.units + 65 < cLine) : CmpOk X .LtE gLe := c_le (by omega)
theorem x_ge (hu : X.A.units + 65 < cLine) : CmpOk X .GtE gGe := c_ge (by omega)
theorem x_in (hu : X.A.units + 65 < cLine) : CmpOk X .In gIn := c_in hu
theorem x_nin (hu : X.A.units + 65 < cLine) : CmpOk X .NotIn gNin := c_nin hu
theorem x_ix (hu : X.A.units + 65 < cLine) (ha : PEv X e fa) (hb : PEv X e2 fb) (hs : PlainIx e2 := by exact fun _ _ => rfl) : PEv X (.Subscript e e2 pos) (eIx fa fb) := e_ix (by omega) ha hb hs
def sAug (g : Int → Int → Int) (i : Nat) (fe : EvE) : EvS := fun ρ => match ρ[i]? with
  | some (some s) => (fe ρ).bind fun r => match s.d, r.d with
    | .int a, .int b => some (.nx (ρ.set i (some ⟨.int (g a b), .full, false, none⟩)))
    | _, _ => none
  | _ => none
theorem s_augI {op : Operator} {g : Int → Int → Int} (i : Nat) (ho : PIp X op (ipI g)) (he : PEv X e fe) (hN : X.N.Nodup) (hi : X.N[i]? = some x := by rfl) (hx : Loc X.env.scope x := by first | exact Or.inl rfl | exact Or.inr rfl) (hf : X.fn x = true ∨ X.env.scope.names.lookup x = some .local := by first | exact .inl rfl | exact .inr rfl | assumption) :
    PSv X (.AugAssign (.Name x pos') op e pos) (sAug g i fe) := by
  refine imp_s (ps_aug hN hi hx he ho hf) fun D σ H ⟨N, H0, ρ, L, o, sim, z, q⟩ => ?_
  unfold sAug at z
  split at z
  · rename_i s es
    obtain ⟨r, e1, z⟩ := bind_some z
    split at z
    · rename_i a b ha hb
      cases z
      obtain ⟨v, G, ev, rp, sub⟩ := sim.sl.get es
      rw [ha] at rp
      obtain ⟨rfl, _⟩ := rp.int_inv
      refine ⟨.int a, ev, one sim.h e1 fun w H1 F s1 n1 d1 p1 => ?_⟩
      rw [hb] at p1
      obtain ⟨rfl, _⟩ := p1.int_inv
      obtain ⟨L2, sim2, sub2⟩ := sim.set (i := i) (v := .int (g a b)) (r := ⟨.int (g a b), .full, false, none⟩) (G := []) (fun _ z => nomatch z) s1 (fun _ z => nomatch z) .nil .int (List.getElem?_eq_some_iff.mp es).1
      exact ⟨a, b, rfl, rfl, q _ H1 L2 sim2 (Frm.same s1 fun b z => (sub2 b z).imp id fun z => nomatch z)⟩
    · cases z
  · cases z
theorem s_aadd (i : Nat) (he : PEv X e fe) (hN : X.N.Nodup) (hi : X.N[i]? = some x := by rfl) (hx : Loc X.env.scope x := by first | exact Or.inl rfl | exact Or.inr rfl) (hf : X.fn x = true ∨ X.env.scope.names.lookup x = some .local := by first | exact .inl rfl | exact .inr rfl | assumption) :
    PSv X (.AugAssign (.Name x pos') .Add e pos) (sAug (fun a b => a + b) i fe) := s_augI i ip_add he hN hi hx hf
end
def eDk : EvE := fun _ => some ⟨.dk [], .full, false, false⟩
theorem len1 {f : EvE} : ∀ ρ rs, aCons f aNil ρ = some rs → rs.length = 1 := aCons_len fun _ _ h => aNil_len h
theorem len2 {f g : EvE} : ∀ ρ rs, aCons f (aCons g aNil) ρ = some rs → rs.length = 2 := aCons_len len1
theorem hu_room {k : Nat} {A : Around} (hr : Room k A) : A.units + 65 < cLine := by have := hr.un; omega
theorem fnD_of {P : Program} {w : World} {K : PySem.W.Frag} {mg : Str → Option Value} {base : Heap} {k n : Nat} {x : Str} {φ : List D → Option RetD} {f : Addr} {fd : FuncData} {ps : List Str} (F : FnOk P w K mg base CX0 k f fd ps (spD K n φ)) (hm : mg x = some (.ref f)) (hk : PySem.W.keepIn K (.ref f) = true) (hb : Binds K fd ps []) : FnD P w K mg base k x n φ := ⟨f, fd, ps, F, hm, hk, hb⟩
end Ev
set_option Elab.async false
set_option linter.all false
set_option maxRecDepth 100000
namespace Ev
open PySem PySem.Spec L2
open PyProof.Rows hiding St
end Ev
set_option Elab.async false
set_option linter.all false
set_option maxRecDepth 100000
namespace Ev
open PySem PySem.Spec L2
open PyProof.Rows hiding St
section
variable {X : Cx} {st : Stmt} {f : EvS}
def sFz (z : List Nat) (f : EvS) : EvS := fun ρ => f (frzs z ρ)
theorem s_fz (z : List Nat) (h : PSv X st f) : PSv X st (sFz z f) := imp_s h fun D σ H ⟨N, H0, ρ, L, o, sim, e, q⟩ => by
  obtain ⟨L1, sim1, sub⟩ := sim.frzs z
  exact ⟨N, H0, frzs z ρ, L1, o, sim1, e, q.at_ (Frm.same (Same.refl H) fun b w => .inl (sub b w))⟩
end
end Ev
set_option Elab.async false
set_option linter.all false
set_option maxRecDepth 100000
namespace Ev
open PySem PySem.Spec L2
open PyProof.Rows hiding St
def dInts (ns : List Int) : List D := ns.map .int
@[simp] theorem map_int (ns : List Int) : ns.map D.int = dInts ns := rfl
def dPair (p : Int × Int) : D := .tup [.int p.1, .int p.2]
@[simp] theorem dInts_nil : dInts [] = [] := rfl
@[simp] theorem dInts_cons (n : Int) (ns : List Int) : dInts (n :: ns) = .int n :: dInts ns := rfl
@[simp] theorem dInts_len (ns : List Int) : (dInts ns).length = ns.length := List.length_map _
@[simp] theorem intsOf_d (ns : List Int) : intsOf (dInts ns) = some ns := intsOf_map ns
@[simp] theorem immAll_ints (ns : List Int) : immAll (dInts ns) = true := by
  induction ns with
  | nil => rfl
  | cons n ns ih => rw [dInts_cons, immAll, ih]; rfl
@[simp] theorem shps_ints (k : Nat) (ns : List Int) : shps k (dInts ns) = true := by
  induction ns with
  | nil => rfl
  | cons n ns ih => rw [dInts_cons, shps, ih]; simp [shp]
@[simp] theorem imm_pair (p : Int × Int) : imm (dPair p) = true := rfl
@[simp] theorem immAll_pairs (ps : List (Int × Int)) : immAll (ps.map dPair) = true := by
  induction ps with
  | nil => rfl
  | cons n ns ih => rw [List.map_cons, immAll, ih]; rfl
@[simp] theorem shp_pair (k : Nat) (p : Int × Int) : shp (k + 1) (dPair p) = true := by simp [dPair, shp, shps]
@[simp] theorem shps_pairs (k : Nat) (ps : List (Int × Int)) : shps (k + 1) (ps.map dPair) = true := by
  induction ps with
  | nil => rfl
  | cons n ns ih => rw [List.map_cons, shps, ih, shp_pair]; rfl
@[simp] theorem shps_pairs7 (ps : List (Int × Int)) : shps 7 (ps.map dPair) = true := shps_pairs 6 ps
theorem eqv_ints : ∀ a b : List Int, PyData.eqvAll (pds (dInts a)) (pds (dInts b)) = decide (a = b)
  | [], [] => by simp [pds, PyData.eqvAll]
  | [], _ :: _ => by simp [pds, PyData.eqvAll]
  | _ :: _, [] => by simp [pds, PyData.eqvAll]
  | x :: a, y :: b => by
    simp only [dInts_cons, pds, pd, PyData.eqvAll, PyData.eqv, eqv_ints a b]
    by_cases h : x = y <;> simp [h]
@[simp] theorem deq_int (a b : Int) : deq (.int a) (.int b) = decide (a = b) := by
  unfold deq
  simp only [pd, PyData.eqv]
  by_cases h : a = b <;> simp [h]
@[simp] theorem deq_ints (a b : List Int) : deq (.lst (dInts a)) (.lst (dInts b)) = decide (a = b) := by
  unfold deq
  simp only [pd, PyData.eqv]
  exact eqv_ints a b
@[simp] theorem deq_pair (p q : Int × Int) : deq (dPair p) (dPair q) = decide (p = q) := by
  unfold deq dPair
  simp only [pd, pds, PyData.eqv, PyData.eqvAll]
  obtain ⟨a, b⟩ := p
  obtain ⟨c, d⟩ := q
  by_cases h : a = c <;> by_cases h2 : b = d <;> simp [h, h2]
theorem eqv_pairs : ∀ a b : List (Int × Int), PyData.eqvAll (pds (a.map dPair)) (pds (b.map dPair)) = decide (a = b)
  | [], [] => by simp [pds, PyData.eqvAll]
  | [], _ :: _ => by simp [pds, PyData.eqvAll]
  | _ :: _, [] => by simp [pds, PyData.eqvAll]
  | x :: a, y :: b => by
    have h := deq_pair x y
    unfold deq at h
    simp only [List.map_cons, pds, PyData.eqvAll, eqv_pairs a b, h]
    by_cases h : x = y <;> simp [h]
@[simp] theorem deq_pairs (a b : List (Int × Int)) : deq (.lst (a.map dPair)) (.lst (b.map dPair)) = decide (a = b) := by
  unfold deq
  simp only [pd, PyData.eqv]
  exact eqv_pairs a b
theorem ins_map {α β : Type} (f : α → β) (lt : β → β → Bool) (x : α) : ∀ l : List α, isort.insF lt (f x) (l.map f) = (isort.insF (fun a b => lt (f a) (f b)) x l).map f
  | [] => rfl
  | y :: ys => by
    rw [List.map_cons]
    unfold isort.insF
    by_cases h : lt (f y) (f x) = true
    · rw [if_pos h, if_pos h, ins_map f lt x ys, List.map_cons]
    · rw [if_neg h, if_neg h, List.map_cons, List.map_cons]
theorem isort_map {α β : Type} (f : α → β) (lt : β → β → Bool) : ∀ l : List α, isort lt (l.map f) = (isort (fun a b => lt (f a) (f b)) l).map f
  | [] => rfl
  | x :: l => by
    rw [List.map_cons]
    show isort.insF lt (f x) (isort lt (l.map f)) = _
    rw [isort_map f lt l, ins_map]
    rfl
@[simp] theorem any_ints (ns : List Int) (a : Int) : ((dInts ns).any fun z => deq z (.int a)) = decide (a ∈ ns) := by
  induction ns with
  | nil => simp
  | cons n ns ih =>
    rw [dInts_cons, List.any_cons, ih, deq_int]
    by_cases h : n = a
    · simp [h]
    · simp [h]; exact fun z => absurd z.symm h
@[simp] theorem any_pairs (ns : List (Int × Int)) (a : Int × Int) : ((ns.map dPair).any fun z => deq z (dPair a)) = decide (a ∈ ns) := by
  induction ns with
  | nil => simp
  | cons n ns ih =>
    rw [List.map_cons, List.any_cons, ih, deq_pair]
    by_cases h : n = a
    · simp [h]
    · simp [h]; exact fun z => absurd z.symm h
end Ev
set_option Elab.async false
set_option linter.all false
set_option maxRecDepth 100000
namespace Ev
open PySem PySem.Spec L2
open PyProof.Rows hiding St
end Ev
set_option Elab.async false
set_option linter.all false
set_option maxRecDepth 100000
namespace Ev
open PySem PySem.Spec L2
open PyProof.Rows hiding St
def kids : D → List D
  | .lst ds => ds
  | .dk kd => kd.map (·.2)
  | .dt kd => kd.map (·.2)
  | .ins _ fd => fd.map (·.2)
  | .obj _ _ fd => fd.map (·.2)
  | .tup ds => ds
  | _ => []
def setSnd {κ α : Type} : List (κ × α) → Nat → α → List (κ × α)
  | [], _, _ => []
  | p :: r, 0, d => (p.1, d) :: r
  | p :: r, j + 1, d => p :: setSnd r j d
theorem setSnd_keys {κ α : Type} : ∀ (r : List (κ × α)) (j : Nat) (d : α), (setSnd r j d).map (·.1) = r.map (·.1)
  | [], _, _ => rfl
  | p :: r, 0, d => rfl
  | p :: r, j + 1, d => by
    show p.1 :: (setSnd r j d).map (·.1) = _
    rw [setSnd_keys r j d]
    rfl
theorem setSnd_vals {κ α : Type} : ∀ (r : List (κ × α)) (j : Nat) (d : α), (setSnd r j d).map (·.2) = (r.map (·.2)).set j d
  | [], _, _ => rfl
  | p :: r, 0, d => rfl
  | p :: r, j + 1, d => by
    show p.2 :: (setSnd r j d).map (·.2) = _
    rw [setSnd_vals r j d]
    rfl
def setKid : D → Nat → D → D
  | .lst ds, j, d => .lst (ds.set j d)
  | .dk kd, j, d => .dk (setSnd kd j d)
  | .dt kd, j, d => .dt (setSnd kd j d)
  | .ins C fd, j, d => .ins C (setSnd fd j d)
  | .obj C dx fd, j, d => .obj C dx (setSnd fd j d)
  | .tup ds, j, d => .tup (ds.set j d)
  | x, _, _ => x
def dAt : D → List Nat → Option D
  | d, [] => some d
  | d, j :: p => (kids d)[j]?.bind fun e => dAt e p
def dSet (d : D) : List Nat → D → D
  | [], d' => d'
  | j :: p, d' => match (kids d)[j]? with
    | some e => setKid d j (dSet e p d')
    | none => d
section
variable {K : PySem.W.Frag} {S S' : Addr → Prop} {H H' : Hp}
theorem node_kids {d : D} {o : HO} {vs : List V} {ds : List D} (n : Node d o vs ds) : ds = kids d := by
  cases n <;> rfl
theorem node_set {d : D} {o : HO} {vs : List V} {ds : List D} (n : Node d o vs ds) (j : Nat) (d' : D) : Node (setKid d j d') o vs (ds.set j d') := by
  cases n with
  | lst => exact .lst
  | dk e =>
    have := Node.dk (kv := _) (kd := setSnd _ j d') (e.trans (setSnd_keys _ j d').symm)
    rw [setSnd_vals] at this
    exact this
  | dt e =>
    have := Node.dt (kv := _) (kd := setSnd _ j d') (e.trans (setSnd_keys _ j d').symm)
    rw [setSnd_vals] at this
    exact this
  | ins e =>
    rename_i C dx fv fd
    have := Node.ins (C := C) (dx := dx) (fv := fv) (fd := setSnd fd j d') (e.trans (setSnd_keys _ j d').symm)
    rw [setSnd_vals] at this
    exact this
  | obj e =>
    rename_i C dx fv fd
    have := Node.obj (C := C) (dx := dx) (fv := fv) (fd := setSnd fd j d') (e.trans (setSnd_keys _ j d').symm)
    rw [setSnd_vals] at this
    exact this
theorem Rps.hole {l : Lv} : ∀ {vs : List V} {ds : List D} {F : List Addr} {j : Nat} {e : D}, Rps K S H l vs ds F → ds[j]? = some e →
    ∃ u A G B, F = A ++ (G ++ B) ∧ vs[j]? = some u ∧ Rp K S H l u e G ∧
      ∀ {S' : Addr → Prop} {H' : Hp} {e' : D} {G' : List Addr}, (∀ a, S a → S' a) → Keeps S (A ++ B) H H' → Rp K S' H' l u e' G' → Rps K S' H' l vs (ds.set j e') (A ++ (G' ++ B))
  | _, _, _, _, _, .nil, h => by simp at h
  | _, _, _, 0, _, .cons (F := F) (G := G) h1 h2, h => by
    simp at h
    subst h
    refine ⟨_, [], F, G, rfl, rfl, h1, fun {S' H' e' G'} hS k r => ?_⟩
    exact Rps.cons (F := G') (G := G) r ((h2.keep k).mono hS)
  | _, _, _, j + 1, _, .cons (F := F) (G := G) h1 h2, h => by
    obtain ⟨u, A, G1, B, e1, e2, r, q⟩ := Rps.hole (j := j) h2 (by simpa using h)
    subst e1
    refine ⟨u, F ++ A, G1, B, by simp, by simpa using e2, r, fun {S' H' e' G'} hS k r' => ?_⟩
    have h3 := q hS (k.sub fun b z => by simp at z ⊢; exact z.elim (fun z => .inr (.inl z)) fun z => .inr (.inr z)) r'
    have h4 := (h1.keep (k.sub fun b z => by simp [z])).mono hS
    have := Rps.cons h4 h3
    rw [List.append_assoc]
    exact this
theorem Rp.hole : ∀ {p : List Nat} {v : V} {d : D} {F : List Addr} {e : D}, Rp K S H .full v d F → dAt d p = some e → F.Nodup →
    ∃ u A G B, F = A ++ (G ++ B) ∧ Rp K S H .full u e G ∧
      ∀ {S' : Addr → Prop} {H' : Hp} {e' : D} {G' : List Addr}, (∀ a, S a → S' a) → Keeps S (A ++ B) H H' → Rp K S' H' .full u e' G' → Rp K S' H' .full v (dSet d p e') (A ++ (G' ++ B))
  | [], v, d, F, e, r, h, _ => by
    cases h
    exact ⟨v, [], F, [], by simp, r, fun {S' H' e' G'} _ _ r' => by simpa [dSet] using r'⟩
  | j :: p, v, d, F, e, r, h, nd => by
    unfold dAt at h
    obtain ⟨dj, e1, h⟩ := bind_some h
    have h9 := h
    cases r with
    | nd1 h0 hn ha hr =>
      rename_i a o vs ds F1
      have hk := node_kids hn
      rw [← hk] at e1
      obtain ⟨u, A, G, B, eF, eu, ru, q⟩ := hr.hole e1
      have nG : G.Nodup := by
        have := (List.nodup_cons.mp nd).2
        rw [eF, List.nodup_append, List.nodup_append] at this
        exact this.2.1.1
      obtain ⟨u2, A2, G2, B2, eG, r2, q2⟩ := Rp.hole (p := p) ru h nG
      refine ⟨u2, a :: (A ++ A2), G2, B2 ++ B, by rw [eF, eG]; simp, r2, fun {S' H' e' G'} hS k r' => ?_⟩
      have r3 := q2 hS (k.sub fun b z => by simp at z ⊢; rcases z with z | z <;> simp [z]) r'
      have r4 := q hS (k.sub fun b z => by simp at z ⊢; rcases z with z | z <;> simp [z]) r3
      have hs : dSet d (j :: p) e' = setKid d j (dSet dj p e') := by
        rw [dSet, ← hk, e1]
      rw [hs]
      have r5 := Rp.nd1 (K := K) (S := S') h0 (node_set hn j (dSet dj p e')) (k a o ha (.inr (.inl (by simp)))) r4
      have : a :: (A ++ A2) ++ (G' ++ (B2 ++ B)) = a :: (A ++ ((A2 ++ (G' ++ B2)) ++ B)) := by simp
      rw [this]
      exact r5
    | tup h1 h2 =>
      rename_i a vs ds
      obtain ⟨u, A, G, B, eF, eu, ru, q⟩ := h2.hole (show ds[j]? = some dj from e1)
      have nG : G.Nodup := by
        have := nd
        rw [eF, List.nodup_append, List.nodup_append] at this
        exact this.2.1.1
      obtain ⟨u2, A2, G2, B2, eG, r2, q2⟩ := Rp.hole (p := p) ru h9 nG
      refine ⟨u2, A ++ A2, G2, B2 ++ B, by rw [eF, eG]; simp, r2, fun {S' H' e' G'} hS k r' => ?_⟩
      have r3 := q2 hS (k.sub fun b z => by simp at z ⊢; rcases z with z | z <;> simp [z]) r'
      have r4 := q hS (k.sub fun b z => by simp at z ⊢; rcases z with z | z <;> simp [z]) r3
      have hs : dSet (.tup ds) (j :: p) e' = setKid (.tup ds) j (dSet dj p e') := by
        rw [dSet, e1]
      rw [hs]
      have r5 := Rp.tup (K := K) (S := S') (k a _ h1 (.inr (.inr (.inl ⟨_, rfl⟩)))) r4
      have : A ++ A2 ++ (G' ++ (B2 ++ B)) = A ++ ((A2 ++ (G' ++ B2)) ++ B) := by simp
      rw [this]
      exact r5
    | fl h1 h2 => simp [kids] at e1
    | _ => simp [kids] at e1
end
end Ev
set_option Elab.async false
set_option linter.all false
set_option maxRecDepth 100000
namespace Ev
open PySem PySem.Spec L2
open PyProof.Rows hiding St
def kidsO : HO → List V
  | .lst vs => vs
  | .dK kv => kv.map (·.2)
  | .dT kv => kv.map (·.2)
  | .ins _ _ fv => fv.map (·.2)
  | .tup vs => vs
  | _ => []
inductive AtV (H : Hp) : V → List Nat → V → Prop
  | nil {v : V} : AtV H v [] v
  | cons {a : Addr} {o : HO} {j : Nat} {p : List Nat} {u w : V} : H a = some o → (kidsO o)[j]? = some u → AtV H u p w → AtV H (.ref a) (j :: p) w
theorem AtV.fn {H : Hp} : ∀ {v : V} {p : List Nat} {u w : V}, AtV H v p u → AtV H v p w → u = w
  | _, _, _, _, .nil, .nil => rfl
  | _, _, _, _, .cons h1 h2 h3, .cons g1 g2 g3 => by
    rw [h1] at g1
    cases g1
    rw [h2] at g2
    cases g2
    exact h3.fn g3
theorem AtV.snoc {H : Hp} {a : Addr} {o : HO} {j : Nat} {w : V} (ha : H a = some o) (hj : (kidsO o)[j]? = some w) : ∀ {v : V} {p : List Nat}, AtV H v p (.ref a) → AtV H v (p ++ [j]) w
  | _, _, .nil => .cons ha hj .nil
  | _, _, .cons h1 h2 h3 => .cons h1 h2 (AtV.snoc ha hj h3)
theorem AtV.same {H H' : Hp} (s : Same H H') : ∀ {v : V} {p : List Nat} {u : V}, AtV H v p u → AtV H' v p u
  | _, _, _, .nil => .nil
  | _, _, _, .cons h1 h2 h3 => .cons (s _ _ h1) h2 (AtV.same s h3)
section
variable {K : PySem.W.Frag} {S S' : Addr → Prop} {H H' : Hp}
theorem node_kidsO {d : D} {o : HO} {vs : List V} {ds : List D} (n : Node d o vs ds) : vs = kidsO o := by
  cases n <;> rfl
theorem Rp.way : ∀ {p : List Nat} {v : V} {d : D} {F : List Addr} {e : D}, Rp K S H .full v d F → dAt d p = some e → F.Nodup →
    ∃ u A G B, F = A ++ (G ++ B) ∧ Rp K S H .full u e G ∧ AtV H v p u ∧
      ∀ {S' : Addr → Prop} {H' : Hp} {e' : D} {G' : List Addr}, (∀ a, S a → S' a) → Keeps S (A ++ B) H H' → Rp K S' H' .full u e' G' → Rp K S' H' .full v (dSet d p e') (A ++ (G' ++ B))
  | [], v, d, F, e, r, h, _ => by
    cases h
    exact ⟨v, [], F, [], by simp, r, .nil, fun {S' H' e' G'} _ _ r' => by simpa [dSet] using r'⟩
  | j :: p, v, d, F, e, r, h, nd => by
    unfold dAt at h
    obtain ⟨dj, e1, h⟩ := bind_some h
    have h9 := h
    cases r with
    | nd1 h0 hn ha hr =>
      rename_i a o vs ds F1
      have hk := node_kids hn
      have hkO := node_kidsO hn
      rw [← hk] at e1
      obtain ⟨u, A, G, B, eF, eu, ru, q⟩ := hr.hole e1
      have nG : G.Nodup := by
        have := (List.nodup_cons.mp nd).2
        rw [eF, List.nodup_append, List.nodup_append] at this
        exact this.2.1.1
      obtain ⟨u2, A2, G2, B2, eG, r2, w2, q2⟩ := Rp.way (p := p) ru h nG
      refine ⟨u2, a :: (A ++ A2), G2, B2 ++ B, by rw [eF, eG]; simp, r2, .cons ha (by rw [← hkO]; exact eu) w2, fun {S' H' e' G'} hS k r' => ?_⟩
      have r3 := q2 hS (k.sub fun b z => by simp at z ⊢; rcases z with z | z <;> simp [z]) r'
      have r4 := q hS (k.sub fun b z => by simp at z ⊢; rcases z with z | z <;> simp [z]) r3
      have hs : dSet d (j :: p) e' = setKid d j (dSet dj p e') := by
        rw [dSet, ← hk, e1]
      rw [hs]
      have r5 := Rp.nd1 (K := K) (S := S') h0 (node_set hn j (dSet dj p e')) (k a o ha (.inr (.inl (by simp)))) r4
      have : a :: (A ++ A2) ++ (G' ++ (B2 ++ B)) = a :: (A ++ ((A2 ++ (G' ++ B2)) ++ B)) := by simp
      rw [this]
      exact r5
    | tup h1 h2 =>
      rename_i a vs ds
      obtain ⟨u, A, G, B, eF, eu, ru, q⟩ := h2.hole (show ds[j]? = some dj from e1)
      have nG : G.Nodup := by
        have := nd
        rw [eF, List.nodup_append, List.nodup_append] at this
        exact this.2.1.1
      obtain ⟨u2, A2, G2, B2, eG, r2, w2, q2⟩ := Rp.way (p := p) ru h9 nG
      refine ⟨u2, A ++ A2, G2, B2 ++ B, by rw [eF, eG]; simp, r2, .cons h1 eu w2, fun {S' H' e' G'} hS k r' => ?_⟩
      have r3 := q2 hS (k.sub fun b z => by simp at z ⊢; rcases z with z | z <;> simp [z]) r'
      have r4 := q hS (k.sub fun b z => by simp at z ⊢; rcases z with z | z <;> simp [z]) r3
      have hs : dSet (.tup ds) (j :: p) e' = setKid (.tup ds) j (dSet dj p e') := by
        rw [dSet, e1]
      rw [hs]
      have r5 := Rp.tup (K := K) (S := S') (k a _ h1 (.inr (.inr (.inl ⟨_, rfl⟩)))) r4
      have : A ++ A2 ++ (G' ++ (B2 ++ B)) = A ++ ((A2 ++ (G' ++ B2)) ++ B) := by simp
      rw [this]
      exact r5
    | fl h1 h2 => simp [kids] at e1
    | _ => simp [kids] at e1
end
abbrev EvP := Env → Option (Nat × List Nat × D)
def PathOk (f : EvP) : Prop := ∀ ρ i p d, f ρ = some (i, p, d) → ∃ s : Sv, ρ[i]? = some (some s) ∧ s.l = .full ∧ dAt s.d p = some d
def tP (K : PySem.W.Frag) (f : EvP) : TE := fun σ H Q => ∃ N H0 ρ L W i p d, SimH K N H0 ρ σ H L W ∧ f ρ = some (i, p, d) ∧ ∀ u H1, Same H H1 → (∀ v0, σ[i]? = some (some v0) → AtV H1 v0 p u) → Q u H1
structure PPv (X : Cx) (e : Expr) (f : EvP) : Prop where
  run : PE X e (tP X.K f)
  ok : PathOk f
def pName (i : Nat) : EvP := fun ρ => match ρ[i]? with
  | some (some s) => if s.l = .full then some (i, [], s.d) else none
  | _ => none
section
variable {X : Cx} {e e2 : Expr} {fp : EvP} {fe : EvE} {pos : Pos}
theorem p_name (i : Nat) {x : Str} (hN : X.N[i]? = some x := by rfl) (hv : Vis X.env.scope x := by first | exact Or.inl rfl | exact Or.inr (Or.inl rfl) | exact Or.inr (Or.inr rfl)) (hd : (x == ("__debug__" : Str)) = false := by decide)
    (hcd : (x == ("__classdict__" : Str)) = false := by decide) : PPv X (.Name x pos) (pName i) where
  run := imp_e (pe_var hN hv hd hcd) fun σ H Q ⟨N, H0, ρ, L, W, j, p, d, sim, z, q⟩ => by
    unfold pName at z
    split at z
    · rename_i s es
      split at z
      · cases z
        obtain ⟨v, G, ev, rp, _⟩ := sim.sl.get es
        refine ⟨v, ev, q v H (Same.refl H) fun v0 e0 => ?_⟩
        rw [ev] at e0
        cases e0
        exact .nil
      · cases z
    · cases z
  ok := fun ρ j p d z => by
    unfold pName at z
    split at z
    · rename_i s es
      split at z
      · rename_i hl
        cases z
        exact ⟨s, es, hl, rfl⟩
      · cases z
    · cases z
theorem SimH.way {K : PySem.W.Frag} {N : Nw} {H0 H : Hp} {ρ : Env} {σ : St} {L W : List Addr} {i : Nat} {p : List Nat} {s : Sv} {e : D} (sim : SimH K N H0 ρ σ H L W) (es : ρ[i]? = some (some s)) (hl : s.l = .full) (hd : dAt s.d p = some e) :
    ∃ v0 u S G, σ[i]? = some (some v0) ∧ AtV H v0 p u ∧ Rp K S H .full u e G := by
  obtain ⟨F1, G, F2, eL, get, _⟩ := sim.sl.at_ (List.getElem?_eq_some_iff.mp es).1
  obtain ⟨v, ev, _, rp⟩ := get s es
  have nG : G.Nodup := by
    have := sim.ndl
    rw [eL, List.nodup_append, List.nodup_append] at this
    exact this.2.1.1
  rw [hl] at rp
  obtain ⟨u, A, G2, B, eG, r2, w, _⟩ := rp.way hd nG
  exact ⟨v, u, _, G2, ev, w, r2⟩
theorem dAt_snoc : ∀ {p : List Nat} {d e e' : D} {j : Nat}, dAt d p = some e → (kids e)[j]? = some e' → dAt d (p ++ [j]) = some e'
  | [], d, e, e', j, h, hj => by
    cases h
    show ((kids d)[j]?.bind fun e => dAt e []) = _
    rw [hj]
    rfl
  | i :: p, d, e, e', j, h, hj => by
    unfold dAt at h
    obtain ⟨d1, e1, h⟩ := bind_some h
    show ((kids d)[i]?.bind fun e => dAt e (p ++ [j])) = _
    rw [e1]
    exact dAt_snoc h hj
end
end Ev
set_option Elab.async false
set_option linter.all false
set_option maxRecDepth 100000
namespace Ev
open PySem PySem.Spec L2
open PyProof.Rows hiding St
def isNd : D → Bool
  | .lst _ => true | .dk _ => true | .dt _ => true | .ins _ _ => true | .obj _ _ _ => true
  | _ => false
theorem Rp.node {K : PySem.W.Frag} {S : Addr → Prop} {H : Hp} {u : V} {e : D} {G : List Addr} (r : Rp K S H .full u e G) (h : isNd e = true) : ∃ a o vs ds F, u = .ref a ∧ G = a :: F ∧ H a = some o ∧ Node e o vs ds ∧ Rps K S H .full vs ds F := by
  cases r with
  | nd1 h0 hn h1 h2 => exact ⟨_, _, _, _, _, rfl, rfl, h1, hn, h2⟩
  | _ => simp [isNd] at h
theorem Sim.store {K : PySem.W.Frag} {N : Nw} {H0 H : Hp} {ρ : Env} {σ : St} {L : List Addr} {i : Nat} {p : List Nat} {s : Sv} {e : D} (sim : Sim K N H0 ρ σ H L) (es : ρ[i]? = some (some s)) (hl : s.l = .full) (hd : dAt s.d p = some e) (hn : isNd e = true) :
    ∃ v0 a o vs ds F, σ[i]? = some (some v0) ∧ AtV H v0 p (.ref a) ∧ H a = some o ∧ Node e o vs ds ∧ (∃ S, Rps K S H .full vs ds F) ∧
      ∀ {H1 : Hp} {w : V} {dw : D} {al : Bool} {T : List Addr} {o' : HO} {e' : D}, Same H H1 → (∀ b ∈ T, H b = none) → T.Nodup → Rp K (fun b => SR N L al false b ∧ b ∉ T) H1 .full w dw T → Mut (some o') →
        (∀ {S : Addr → Prop} {H' : Hp}, Rps K S H' .full vs ds F → Rp K S H' .full w dw T → (F ++ T).Nodup → ∃ vs' ds' F', Node e' o' vs' ds' ∧ Rps K S H' .full vs' ds' F' ∧ (∀ b ∈ F', b ∈ F ++ T) ∧ F'.Nodup) →
        ∃ L', Sim K N H0 (ρ.set i (some ⟨dSet s.d p e', .full, s.al || al, s.pn⟩)) σ (upd H1 a o') L' ∧ Frm H L (upd H1 a o') L' := by
  obtain ⟨v, G, ev, rp, nG, hG, go⟩ := sim.mut es
  rw [hl] at rp
  obtain ⟨u, A, G2, B, eG, r2, w2, q2⟩ := rp.trk.way hd nG
  obtain ⟨a, o, vs, ds, F, rfl, rfl, ha, hnd, hr⟩ := r2.node hn
  refine ⟨v, a, o, vs, ds, F, ev, w2, ha, hnd, ⟨_, hr⟩, fun {H1 w dw al T o' e'} sm hT nT rw mo pick => ?_⟩
  have nG' := nG
  rw [eG, List.nodup_append, List.nodup_append] at nG'
  obtain ⟨nA, ⟨naF, nB, dFB⟩, dA⟩ := nG'
  have naF' := List.nodup_cons.mp naF
  have inG : ∀ b, b ∈ A ++ (a :: F ++ B) → b ∈ G := fun b z => by rw [eG]; exact z
  have aG : a ∈ G := inG a (by simp)
  have aL := hG a aG
  have TL : ∀ b ∈ T, b ∉ L := fun b z y => sim.th b y (hT b z)
  have aT : a ∉ T := fun z => TL a z aL
  have up : ∀ b x, b ≠ a → H1 b = some x → upd H1 a o' b = some x := fun b x n h => by rw [upd_ne n]; exact h
  -- what holds of the shared ones
  have hS1 : ∀ b, (SR N L s.al false b ∧ H b ≠ none) → b ≠ a := fun b z y => z.1.2 rfl (y ▸ aL)
  have k1 : Keeps (fun b => SR N L s.al false b ∧ H b ≠ none) (A ++ B) H (upd H1 a o') := fun b x hb q => by
    have : b ≠ a := fun y => by
      subst y
      rw [ha] at hb
      cases hb
      rcases q with q | q | ⟨xs, rfl⟩ | ⟨o2, u2, rfl⟩
      · exact hS1 b q rfl
      · rcases List.mem_append.mp q with q | q
        · exact dA b q b (by simp) rfl
        · exact dFB b (by simp) b q rfl
      · cases hnd
      · cases hnd
    exact up b x this (sm _ _ hb)
  have k2 : Keeps (fun b => SR N L s.al false b ∧ H b ≠ none) F H (upd H1 a o') := fun b x hb q => by
    have : b ≠ a := fun y => by
      subst y
      rw [ha] at hb
      cases hb
      rcases q with q | q | ⟨xs, rfl⟩ | ⟨o2, u2, rfl⟩
      · exact hS1 b q rfl
      · exact naF'.1 q
      · cases hnd
      · cases hnd
    exact up b x this (sm _ _ hb)
  have k3 : Keeps (fun b => SR N L al false b ∧ b ∉ T) T H1 (upd H1 a o') := fun b x hb q => by
    have : b ≠ a := fun y => by
      subst y
      rw [sm _ _ ha] at hb
      cases hb
      rcases q with q | q | ⟨xs, rfl⟩ | ⟨o2, u2, rfl⟩
      · exact q.1.2 rfl aL
      · exact aT q
      · cases hnd
      · cases hnd
    exact up b x this hb
  have nFT : (F ++ T).Nodup := by
    rw [List.nodup_append]
    exact ⟨naF'.2, nT, fun b hb c hc y => TL c hc (y ▸ hG b (inG b (by simp [hb])))⟩
  let S' : Addr → Prop := fun b => AlN N (s.al || al) b ∧ (b ∉ L ∨ b ∈ G) ∧ b ∉ T ∧ b ∉ G
  have h1 : ∀ b, (SR N L s.al false b ∧ H b ≠ none) → S' b := fun b z => ⟨z.1.1.up (fun e => by simp [e]), .inl (z.1.2 rfl), fun y => z.2 (hT b y), fun y => z.1.2 rfl (hG b y)⟩
  have h2 : ∀ b, (SR N L al false b ∧ b ∉ T) → S' b := fun b z => ⟨z.1.1.up (fun e => by simp [e]), .inl (z.1.2 rfl), z.2, fun y => z.1.2 rfl (hG b y)⟩
  obtain ⟨vs', ds', F', hn', r5, sub, nF'⟩ := pick ((hr.keep k2).mono h1) ((rw.keep k3).mono h2) nFT
  have aF' : a ∉ F' := fun z => (List.mem_append.mp (sub a z)).elim naF'.1 aT
  have r6 : Rp K S' (upd H1 a o') .full (.ref a) e' (a :: F') := .nd1 (fun z => nomatch z) hn' upd_same r5
  have r7 := q2 (e' := e') h1 k1 r6
  have subG : ∀ b ∈ A ++ (a :: F' ++ B), b ∈ G ∨ b ∈ T := fun b z => by
    rcases List.mem_append.mp z with z | z
    · exact .inl (inG b (by simp [z]))
    · rcases List.mem_append.mp z with z | z
      · rcases List.mem_cons.mp z with z | z
        · exact .inl (z ▸ aG)
        · rcases List.mem_append.mp (sub b z) with z | z
          · exact .inl (inG b (by simp [z]))
          · exact .inr z
      · exact .inl (inG b (by simp [z]))
  have ndG : (A ++ (a :: F' ++ B)).Nodup := by
    have offT : ∀ b, b ∈ G → b ∉ T := fun b z y => TL b y (hG b z)
    have hx : ∀ b ∈ a :: F', b ∈ a :: F ∨ b ∈ T := fun b z => by
      rcases List.mem_cons.mp z with z | z
      · exact .inl (z ▸ List.mem_cons_self)
      · exact (List.mem_append.mp (sub b z)).imp (List.mem_cons_of_mem _) id
    rw [List.nodup_append, List.nodup_append]
    refine ⟨nA, ⟨List.nodup_cons.mpr ⟨aF', nF'⟩, nB, fun b hb c hc y => ?_⟩, fun b hb c hc y => ?_⟩
    · rcases hx b hb with z | z
      · exact dFB b z c hc y
      · exact offT c (inG c (by simp [hc])) (y ▸ z)
    · rcases List.mem_append.mp hc with hc | hc
      · rcases hx c hc with z | z
        · exact dA b hb c (List.mem_append_left _ z) y
        · exact offT b (inG b (by simp [hb])) (y ▸ z)
      · exact dA b hb c (List.mem_append_right _ hc) y
  have trT : ∀ b ∈ T, H b = none ∧ Mut (upd H1 a o' b) := fun b z => ⟨hT b z, by
    rw [upd_ne (fun y => aT (by rw [← y]; exact z))]
    exact rw.own_mut b z⟩
  exact go (s' := ⟨dSet s.d p e', .full, s.al || al, s.pn⟩) (G' := A ++ (a :: F' ++ B)) (T := T) sm aG mo trT subG ndG (.inl rfl) (r7.mono fun b z => ⟨z.1, z.2.1, z.2.2.1, fun y => (subG b y).elim z.2.2.2 z.2.2.1⟩)
end Ev
set_option Elab.async false
set_option linter.all false
set_option maxRecDepth 100000
namespace Ev
open PySem PySem.Spec L2
open PyProof.Rows hiding St
def putD (f : Str) (d : D) : List (Str × D) → List (Str × D)
  | [] => [(f, d)]
  | (g, x) :: r => if g = f then (g, d) :: r else (g, x) :: putD f d r
end Ev
set_option Elab.async false
set_option linter.all false
set_option maxRecDepth 100000
namespace Ev
open PySem PySem.Spec L2
open PyProof.Rows hiding St
section
variable {κ : Type} [DecidableEq κ] {K : PySem.W.Frag} {S : Addr → Prop} {H : Hp} {l : Lv}
theorem dmap_rps {k : κ} {w : V} {d : D} (rw : Rp K S H l w d []) : ∀ {kv : List (κ × V)} {kd : List (κ × D)} {F : List Addr}, kv.map (·.1) = kd.map (·.1) → Rps K S H l (kv.map (·.2)) (kd.map (·.2)) F → F.Nodup →
    (kv.map fun q => if q.1 = k then (q.1, w) else q).map (·.1) = (kd.map fun q => if q.1 = k then (q.1, d) else q).map (·.1) ∧ ∃ F', Rps K S H l ((kv.map fun q => if q.1 = k then (q.1, w) else q).map (·.2)) ((kd.map fun q => if q.1 = k then (q.1, d) else q).map (·.2)) F' ∧ (∀ b ∈ F', b ∈ F) ∧ F'.Nodup
  | [], [], F, e, r, nd => ⟨rfl, F, r, fun _ z => z, nd⟩
  | [], _ :: _, _, e, _, _ => by cases e
  | _ :: _, [], _, e, _, _ => by cases e
  | q :: kv, q' :: kd, F, e, r, nd => by
    have e1 : q.1 = q'.1 := by have := congrArg List.head? e; simpa using this
    have e2 : kv.map (·.1) = kd.map (·.1) := by have := congrArg List.tail e; simpa using this
    obtain ⟨k1, v1⟩ := q
    obtain ⟨k2, d2⟩ := q'
    dsimp only at e1
    subst e1
    have r : Rps K S H l (v1 :: kv.map (·.2)) (d2 :: kd.map (·.2)) F := r
    cases r with
    | cons h1 h2 =>
      rename_i F1 G1
      rw [List.nodup_append] at nd
      obtain ⟨i1, F', i2, i3, i4⟩ := dmap_rps rw e2 h2 nd.2.1
      by_cases hk : k1 = k
      · refine ⟨by simp [hk]; simpa using i1, F', ?_, fun b z => List.mem_append_right _ (i3 b z), i4⟩
        simp only [List.map_cons, if_pos hk]
        exact Rps.cons (F := []) rw i2
      · refine ⟨by simp [hk]; simpa using i1, F1 ++ F', ?_, fun b z => ?_, ?_⟩
        · simp only [List.map_cons, if_neg hk]
          exact Rps.cons h1 i2
        · rcases List.mem_append.mp z with z | z
          · exact List.mem_append_left _ z
          · exact List.mem_append_right _ (i3 b z)
        · rw [List.nodup_append]
          exact ⟨nd.1, i4, fun b hb c hc y => nd.2.2 b hb c (i3 c hc) y⟩
theorem dput_rps {k : κ} {w : V} {d : D} (rw : Rp K S H l w d []) {kv : List (κ × V)} {kd : List (κ × D)} {F : List Addr} (e : kv.map (·.1) = kd.map (·.1)) (r : Rps K S H l (kv.map (·.2)) (kd.map (·.2)) F) (nd : F.Nodup) :
    (putK kv k w).map (·.1) = (dput kd k d).map (·.1) ∧ ∃ F', Rps K S H l ((putK kv k w).map (·.2)) ((dput kd k d).map (·.2)) F' ∧ (∀ b ∈ F', b ∈ F) ∧ F'.Nodup := by
  have hh : (kv.any fun p => decide (p.1 = k)) = dhas kd k := by rw [← has_keys e k, valV_any]
  unfold putK dput
  rw [hh]
  by_cases h : dhas kd k = true
  · rw [if_pos h, if_pos h]
    exact dmap_rps rw e r nd
  · rw [if_neg h, if_neg h]
    refine ⟨by simp [e], F, ?_, fun _ z => z, nd⟩
    rw [List.map_append, List.map_append]
    have := Rps.app r (Rps.cons (F := []) (G := []) rw .nil)
    rw [List.append_nil, List.append_nil] at this
    exact this
end
def putAt (d : D) (y : D) (w : D) : Option D := match d with
  | .dk kd => if kd.length < 1000000 then (keyOf y).map fun k => .dk (dput kd k w) else none
  | .dt kd => if kd.length < 1000000 then (match y with | .tup ks => (keysOf ks).map fun k => .dt (dput kd k w) | _ => none) else none
  | _ => none
def sPutP (fz : List Nat) (fp : EvP) (fk fv : EvE) : EvS := fun ρ0 => (fv (frzs fz ρ0)).bind fun r => (fp (frzs fz ρ0)).bind fun z => (fk (frzs fz ρ0)).bind fun y => (putAt z.2.2 y.d r.d).bind fun e' => match (frzs fz ρ0)[z.1]? with
  | some (some s) => if imm r.d = true then some (.nx ((frzs fz ρ0).set z.1 (some ⟨dSet s.d z.2.1 e', .full, s.al || false, s.pn⟩))) else none
  | _ => none
section
variable {X : Cx} {e ix value : Expr} {fp : EvP} {fk fv : EvE} {pos pos' : Pos}
theorem s_putp (fz : List Nat) (hu : X.A.units + 65 < cLine) (h : PPv X e fp) (hk : PEv X ix fk) (hv : PEv X value fv) (hs : swapsWith value (some (.Subscript e ix pos')) pos.line X.env = pure false := by rfl) :
    PSv X (.Assign [.Subscript e ix pos'] value pos) (sPutP fz fp fk fv) := by
  refine imp_s (ps_dput (by omega) h.run hk hv hs) fun D σ H ⟨N, H0, ρ0, L0, o, sim0, z, q0⟩ => ?_
  obtain ⟨L, sim, subL⟩ := sim0.frzs fz
  have q := q0.at_ (H1 := H) (L1 := L) ⟨fun _ _ e _ => e, fun _ e => .inl e, fun b z => .inl (subL b z)⟩
  unfold sPutP at z
  generalize frzs fz ρ0 = ρ at sim z
  obtain ⟨r, e1, z1⟩ := bind_some z
  obtain ⟨⟨i, p, d⟩, e2, z2⟩ := bind_some z1
  obtain ⟨y, e3, z3⟩ := bind_some z2
  obtain ⟨e', e4, z4⟩ := bind_some z3
  clear z z1 z2 z3
  dsimp only at z4 e4
  split at z4
  · rename_i s es
    split at z4
    · rename_i hi
      cases z4
      refine one sim.h e1 fun w H1 T s1 n1 d1 p1 => ?_
      obtain ⟨s', es', hl, hd⟩ := h.ok ρ i p d e2
      rw [es] at es'
      cases es'
      have hold := sim.h.hold s1 n1 d1 p1.own_mut
      refine ⟨N, H0, ρ, L, L ++ T, i, p, d, hold, e2, fun u H2 s2 at2 => ?_⟩
      refine one (hold.same s2) e3 fun ky H3 T3 s3 n3 d3 p3 => ?_
      have sall : Same H H3 := s1.trans (s2.trans s3)
      have rw0 : ∀ {S : Addr → Prop} {H' : Hp} {l' : Lv}, Same H1 H' → Rp X.K S H' l' w r.d [] := fun sm => ((p1.same sm).of_imm hi).2
      cases d with
      | dk kd =>
        obtain ⟨v0, a, o, vs, ds, F, ev, w2, ha, hnd, hx, go⟩ := sim.store es hl hd rfl
        clear hx
        have := (at2 v0 ev).fn ((w2.same s1).same s2)
        subst this
        unfold putAt at e4
        dsimp only at e4
        split at e4
        · rename_i hlen
          obtain ⟨k, e5, rfl⟩ := Option.map_eq_some_iff.mp e4
          cases hnd with
          | dk ek =>
            rename_i kv
            have hlen' : kv.length < sizeLine := by
              have := congrArg List.length ek
              rw [List.length_map, List.length_map] at this
              rw [this, sizeLine_eq]
              omega
            obtain ⟨L', sim', fr⟩ := go (H1 := H3) (w := w) (dw := r.d) (al := false) (T := []) (e' := .dk (dput kd k r.d)) (o' := .dK (putK kv k w)) sall (fun _ z => nomatch z) .nil (rw0 (s2.trans s3)) trivial (fun r1 r2 nd => by
              rw [List.append_nil] at nd
              obtain ⟨i1, F', i2, i3, i4⟩ := dput_rps (k := k) r2 ek r1 nd
              exact ⟨_, _, F', .dk i1, i2, fun b z => by simpa using i3 b z, i4⟩)
            refine ⟨a, _, rfl, ?_, q _ _ L' sim' fr⟩
            rw [p3.key e5]
            exact DPut.k (sall _ _ ha) hlen'
        · cases e4
      | dt kd =>
        obtain ⟨v0, a, o, vs, ds, F, ev, w2, ha, hnd, hx, go⟩ := sim.store es hl hd rfl
        clear hx
        have := (at2 v0 ev).fn ((w2.same s1).same s2)
        subst this
        unfold putAt at e4
        dsimp only at e4
        split at e4
        · rename_i hlen
          split at e4
          · rename_i ks hy
            obtain ⟨k, e5, rfl⟩ := Option.map_eq_some_iff.mp e4
            rw [hy] at p3
            obtain ⟨c, ws, rfl, h5, h6⟩ := p3.tup_inv
            cases hnd with
            | dt ek =>
              rename_i kv
              have hlen' : kv.length < sizeLine := by
                have := congrArg List.length ek
                rw [List.length_map, List.length_map] at this
                rw [this, sizeLine_eq]
                omega
              obtain ⟨L', sim', fr⟩ := go (H1 := H3) (w := w) (dw := r.d) (al := false) (T := []) (e' := .dt (dput kd k r.d)) (o' := .dT (putK kv k w)) sall (fun _ z => nomatch z) .nil (rw0 (s2.trans s3)) trivial (fun r1 r2 nd => by
                rw [List.append_nil] at nd
                obtain ⟨i1, F', i2, i3, i4⟩ := dput_rps (k := k) r2 ek r1 nd
                exact ⟨_, _, F', .dt i1, i2, fun b z => by simpa using i3 b z, i4⟩)
              refine ⟨a, _, rfl, ?_, q _ _ L' sim' fr⟩
              exact DPut.t (sall _ _ ha) (by rw [h5, h6.keys e5]) hlen'
          · cases e4
        · cases e4
      | _ => simp [putAt] at e4
    · cases z4
  · cases z4
end
end Ev
set_option Elab.async false
set_option linter.all false
set_option maxRecDepth 100000
namespace Ev
open PySem PySem.Spec L2
open PyProof.Rows hiding St
section
variable {X : Cx} {e ix : Expr} {es : List Expr} {fp : EvP} {fk fe : EvE} {pos apos cpos : Pos}
def pIx (fp : EvP) (fk : EvE) : EvP := fun ρ => (fp ρ).bind fun z => (fk ρ).bind fun y => match z.2.2, y.d with
  | .lst ds, .int k => (L2.ixN ds.length k).bind fun j => ds[j]?.map fun e => (z.1, z.2.1 ++ [j], e)
  | _, _ => none
theorem pIx_some {ρ : Env} {i : Nat} {p : List Nat} {d : D} (z : pIx fp fk ρ = some (i, p, d)) : ∃ p0 ds y k j, fp ρ = some (i, p0, .lst ds) ∧ fk ρ = some y ∧ y.d = .int k ∧ L2.ixN ds.length k = some j ∧ ds[j]? = some d ∧ p = p0 ++ [j] := by
  unfold pIx at z
  obtain ⟨⟨i0, p0, d0⟩, e1, z1⟩ := bind_some z
  obtain ⟨y, e2, z2⟩ := bind_some z1
  clear z z1
  dsimp only at z2
  split at z2
  · rename_i ds k hy
    obtain ⟨j, e3, z3⟩ := bind_some z2
    obtain ⟨e, e4, e5⟩ := Option.map_eq_some_iff.mp z3
    cases e5
    exact ⟨p0, ds, y, k, j, e1, e2, hy, e3, e4, rfl⟩
  · cases z2
theorem p_ix (hu : X.A.units + 65 < cLine) (h : PPv X e fp) (hk : PEv X ix fk) (hs : PlainIx ix := by exact fun _ _ => rfl) : PPv X (.Subscript e ix pos) (pIx fp fk) where
  run := imp_e (pe_ix (ix_any (by omega)) h.run hk hs) fun σ H Q ⟨N, H0, ρ, L, W, i, p, d, sim, z, q⟩ => by
    obtain ⟨p0, ds, y, k, j, e1, e2, hy, e3, e4, rfl⟩ := pIx_some z
    obtain ⟨s, es, hl, hd⟩ := h.ok ρ i p0 _ e1
    obtain ⟨v0, u', S, G, ev, w, r⟩ := sim.way es hl hd
    refine ⟨N, H0, ρ, L, W, i, p0, _, sim, e1, fun u H1 s1 at1 => ?_⟩
    refine one (sim.same s1) e2 fun ky H2 T s2 n2 d2 p2 => ?_
    have w1 := at1 v0 ev
    have := w1.fn (w.same s1)
    subst this
    rw [hy] at p2
    obtain ⟨rfl, _⟩ := p2.int_inv
    obtain ⟨a, vs, G1, rfl, h1, h2, _, _⟩ := r.lst_inv
    obtain ⟨v, G2, e5, _, _⟩ := h2.get e4
    have sall := s1.trans s2
    refine .inl (.inl ⟨a, vs, k, v, rfl, rfl, SqL.of (sall a _ h1), ?_, q v H2 sall fun v1 e0 => ?_⟩)
    · unfold L2.atI
      rw [h2.len, e3]
      exact e5
    · rw [ev] at e0
      cases e0
      exact (w1.same s2).snoc (sall a _ h1) e5
  ok := fun ρ i p d z => by
    obtain ⟨p0, ds, y, k, j, e1, e2, hy, e3, e4, rfl⟩ := pIx_some z
    obtain ⟨s, es, hl, hd⟩ := h.ok ρ i p0 _ e1
    exact ⟨s, es, hl, dAt_snoc hd e4⟩
def sAppP (fz : List Nat) (fp : EvP) (fe : EvE) : EvS := fun ρ0 => (fp (frzs fz ρ0)).bind fun z => (fe (frzs fz ρ0)).bind fun r => match z.2.2, (frzs fz ρ0)[z.1]? with
  | .lst ds, some (some s) => if r.vw = false ∧ r.l = .full ∧ ds.length ≤ 1000000 then some (.nx ((frzs fz ρ0).set z.1 (some ⟨dSet s.d z.2.1 (.lst (ds ++ [r.d])), .full, s.al || r.al, s.pn⟩))) else none
  | _, _ => none
theorem s_appp {x : Expr} (fz : List Nat) (h : PPv X e fp) (ha : PAv X [x] (aCons fe aNil))
    (hsw : swapsWith (.Call (.Attribute e "append" apos) [x] [] cpos) none pos.line X.env = pure false := by rfl)
    (hbase : attributeBase e "append" X.env (eval e X.env) = eval e X.env := by rfl)
    (hfew : ((backTo cpos (starEach [x] X.env)).all (fun x => !x.1) && (backToKw cpos (keywordEach [] X.env)).all (fun x => x.1.isSome)
      && decide ([x].length + ([] : List Keyword).length + (if ([] : List Keyword).isEmpty then 0 else 1) < 30)) = true := by rfl)
    (hline : (apos.endLine == cpos.line) = true := by rfl) (hs : starEach [x] X.env = (false, eval x X.env) :: starEach [] X.env := by rfl) (hplain : (backTo cpos (starEach [] X.env)).any (·.1) = false := by rfl) :
    PSv X (.Expr (.Call (.Attribute e "append" apos) [x] [] cpos) pos) (sAppP fz fp fe) := by
  obtain ⟨r0, hm, hr⟩ := (l_app (X := X)).ok
  refine imp_s (ps_expr (pe_bm PySem.F.plainAttrs_list PySem.F.slot_list_append PySem.F.type_list_append hm h.run ha hbase hfew hline hs hplain) hsw) fun D σ H ⟨N, H0, ρ0, L0, o, sim0, z, q0⟩ => ?_
  obtain ⟨L, sim, subL⟩ := sim0.frzs fz
  have q := q0.at_ (H1 := H) (L1 := L) ⟨fun _ _ e _ => e, fun _ e => .inl e, fun b z => .inl (subL b z)⟩
  unfold sAppP at z
  generalize frzs fz ρ0 = ρ at sim z
  obtain ⟨⟨i, p, d⟩, e1, z1⟩ := bind_some z
  obtain ⟨r, e2, z2⟩ := bind_some z1
  clear z z1
  dsimp only at z2
  split at z2
  · rename_i ds s es
    split at z2
    · rename_i hc
      obtain ⟨hvw, hfull, hlen⟩ := hc
      cases z2
      obtain ⟨s', es', hl, hd⟩ := h.ok ρ i p _ e1
      rw [es] at es'
      cases es'
      obtain ⟨v0, a, o, vs, ds', F, ev, w2, ha', hnd, ⟨S0, hx⟩, go⟩ := sim.store es hl hd rfl
      cases hnd
      have hlv := hx.len
      refine ⟨N, H0, ρ, L, L, i, p, _, sim.h, e1, fun u H1 s1 at1 => ?_⟩
      have := (at1 v0 ev).fn (w2.same s1)
      subst this
      refine ⟨.inl ⟨rfl, vs, SqL.of (s1 _ _ ha')⟩, N, H0, ρ, L, L, [r], sim.h.same s1, ?_, fun us H2 T s2 n2 d2 p2 => ?_⟩
      · unfold aCons aNil
        rw [e2]
        rfl
      have hall : [r].all (fun r => !r.vw && decide (r.l = .full)) = true := by simp [hvw, hfull]
      have p3 := p2.full (al := r.al) hall (fun r' m e => by rw [List.mem_singleton.mp m] at e; exact e)
      have sall := s1.trans s2
      generalize hds : [r].map (·.d) = rd at p3
      cases p3 with
      | nil => cases hds
      | cons hw hrest =>
        rename_i w dw us' ds'' F1 G1
        have hds : r.d = dw ∧ [] = ds'' := by simpa using hds
        obtain ⟨rfl, rfl⟩ := hds
        cases hrest
        have nF : (∀ b ∈ F1, H b = none) := fun b m => s1.free (n2 b (by simpa using m))
        have dF : F1.Nodup := by simpa using d2
        obtain ⟨L', sim', fr⟩ := go (H1 := H2) (w := w) (dw := r.d) (al := r.al) (T := F1) (e' := .lst (ds ++ [r.d])) (o' := .lst (vs ++ [w])) sall nF dF (hw.mono fun b z => by simpa [SR] using z) trivial (fun r1 r2 nd => by
          refine ⟨_, _, F ++ F1, .lst, ?_, fun b z => z, nd⟩
          have := Rps.app r1 (Rps.cons (G := []) r2 .nil)
          rw [List.append_nil] at this
          exact this)
        exact hr H2 a vs [w] (vs ++ [w]) _ (sall _ _ ha') (by rw [hlv]; exact hlen) rfl (q _ _ L' sim' fr)
    · cases z2
  · cases z2
end
end Ev
set_option Elab.async false
set_option linter.all false
set_option maxRecDepth 100000
namespace Ev
open PySem PySem.Spec L2
open PyProof.Rows hiding St
end Ev
set_option Elab.async false
set_option linter.all false
set_option maxRecDepth 100000
namespace Ev
open PySem PySem.Spec L2
open PyProof.Rows hiding St
end Ev
set_option Elab.async false
set_option linter.all false
set_option maxRecDepth 100000
namespace Ev
open PySem PySem.Spec L2
open PyProof.Rows hiding St
end Ev
set_option Elab.async false
set_option linter.all false
set_option maxRecDepth 100000
namespace Ev
open PySem PySem.Spec L2
open PyProof.Rows hiding St
def sBad : EvS := fun _ => none
end Ev
set_option Elab.async false
set_option linter.all false
set_option maxRecDepth 100000
namespace Ev
open PySem PySem.Spec L2
open PyProof.Rows hiding St
end Ev
set_option Elab.async false
set_option linter.all false
set_option maxRecDepth 100000
namespace Ev
open PySem PySem.Spec L2
open PyProof.Rows hiding St
def rdName (i : Nat) : Env → Option D := fun ρ => match ρ[i]? with
  | some (some s) => some s.d
  | _ => none
def isDct : D → Bool
  | .dk _ => true
  | .dt _ => true
  | _ => false
structure DP (X : Cx) (e : Expr) (fd : Env → Option D) : Prop where
  run : ∃ te, PE X e te ∧ ∀ {N : Nw} {H0 H : Hp} {ρ : Env} {σ : St} {L W : List Addr} {dd : D}, SimH X.K N H0 ρ σ H L W → fd ρ = some dd → isDct dd = true →
    ∃ d u vs ds, Rd H d u ∧ Node dd u vs ds ∧ (∃ S l F, Rps X.K S H l vs ds F) ∧ ∀ {H2 : Hp} {R : VK}, (∀ b o, b ≠ d → H b = some o → H2 b = some o) → R (.ref d) H2 → te σ H2 R
theorem rp_dct {K : PySem.W.Frag} {S : Addr → Prop} {H : Hp} {l : Lv} {v : V} {dd : D} {F : List Addr} (r : Rp K S H l v dd F) (h : isDct dd = true) : ∃ d u vs ds, v = .ref d ∧ Rd H d u ∧ Node dd u vs ds ∧ ∃ S l F, Rps K S H l vs ds F := by
  cases r with
  | nd0 hn h1 h2 h3 => exact ⟨_, _, _, _, rfl, h1.rd, hn, _, _, _, h3⟩
  | nd1 h0 hn h1 h2 => exact ⟨_, _, _, _, rfl, .inl h1, hn, _, _, _, h2⟩
  | _ => cases h
section
variable {X : Cx} {e : Expr} {pos : Pos} {C : Addr} {f : Str}
theorem dp_name (i : Nat) {x : Str} (hN : X.N[i]? = some x := by rfl) (hv : Vis X.env.scope x := by first | exact Or.inl rfl | exact Or.inr (Or.inl rfl) | exact Or.inr (Or.inr rfl)) (hd : (x == ("__debug__" : Str)) = false := by decide)
    (hcd : (x == ("__classdict__" : Str)) = false := by decide) : DP X (.Name x pos) (rdName i) := by
  refine ⟨_, pe_var hN hv hd hcd, fun {N H0 H ρ σ L W dd} sim z hD => ?_⟩
  unfold rdName at z
  split at z
  · rename_i s es
    cases z
    obtain ⟨v, G, ev, rp, _⟩ := sim.sl.get es
    obtain ⟨d, u, vs, ds, rfl, hu, hn, hr⟩ := rp_dct rp hD
    exact ⟨d, u, vs, ds, hu, hn, hr, fun {H2 R} k r => ⟨_, ev, r⟩⟩
  · cases z
end
def keyD : Key → D
  | .inl i => .int i
  | .inr x => .str x
def itDK : D → Option (List D)
  | .dk kd => if immAll (kd.map (·.2)) = true then some (kd.map fun p => .tup [keyD p.1, p.2]) else none
  | _ => none
def hideN (ρ : Env) : Env := ρ.map fun s => match s with
  | some s => if imm s.d = true then some ⟨s.d, .full, false, none⟩ else none
  | none => none
theorem key_rp {K : PySem.W.Frag} {S : Addr → Prop} {H : Hp} {l : Lv} (k : Key) : Rp K S H l (kV k) (keyD k) [] := by
  cases k with
  | inl i => exact .int
  | inr x => exact .str
theorem hide_slots {K : PySem.W.Frag} {N : Nw} {L : List Addr} {H H2 : Hp} {N2 : Nw} (hk : ∀ b o, H b = some o → (¬ Mut (some o)) → H2 b = some o) : ∀ {σ : St} {ρ : Env} {F : List Addr}, Slots K N L H σ ρ F → Slots K N2 [] H2 σ (hideN ρ) []
  | _, _, _, .nil => .nil
  | _, _, _, .no h => .no (hide_slots hk h)
  | _, _, _, .so (s := s) (v := v) h0 h1 h => by
    show Slots K N2 [] H2 _ ((if imm s.d = true then some ⟨s.d, .full, false, none⟩ else none) :: hideN _) []
    by_cases hi : imm s.d = true
    · rw [if_pos hi]
      refine Slots.so (s := ⟨s.d, .full, false, none⟩) (F := []) (G := []) (fun _ z => nomatch z) ?_ (hide_slots hk h)
      have := (h1.of_imm (S' := fun _ => False) (l' := .shr) hi).2
      have := this.keep (H' := H2) fun b o e q => hk b o e (by
        rcases q with q | q | ⟨xs, rfl⟩ | ⟨o', u, rfl⟩
        · exact q.elim
        · exact nomatch q
        · exact fun z => z
        · exact fun z => z)
      exact (this.of_imm hi).2
    · rw [if_neg hi]
      exact .no (hide_slots hk h)
def eLcD (itD : D → Option (List D)) (fd : Env → Option D) (vs : List Nat) (t : Tg) (c : EvT) (e : EvE) : EvE := fun ρ => (fd ρ).bind fun x => (itD x).bind fun ds => (lcL t c e (wipeE vs (hideN ρ)) (ds.map fun d => (d, false))).bind fun rs => (mkBig rs).map fun r => ⟨r.d, r.l, false, false⟩
theorem immAll_get : ∀ {ds : List D} {i : Nat} {d : D}, immAll ds = true → ds[i]? = some d → imm d = true := fun {ds i d} h e => by
  rw [immAll_all] at h
  exact List.all_eq_true.mp h d (List.mem_of_getElem? e)
section
variable {K : PySem.W.Frag} {S : Addr → Prop} {H' : Hp} {x : Addr} {od : Obj} {u : HO}
mutual

theorem Rp.unlock (hx : H' x = some (.frz od u)) (hu : ∀ xs, u ≠ .lst xs) (hS : ∀ a, S a → a ≠ x) : ∀ {l : Lv} {v : V} {d : D} {F : List Addr}, Rp K S H' l v d F → (∀ a ∈ F, a ≠ x) → Rp K S (upd H' x u) l v d F
  | _, _, _, _, .any, _ => .any
  | _, _, _, _, .exc, _ => .exc
  | _, _, _, _, .sh h1, _ => .sh (Rp.unlock hx hu hS h1 (fun _ z => nomatch z))
  | _, _, _, _, .non, _ => .non
  | _, _, _, _, .bl, _ => .bl
  | _, _, _, _, .int, _ => .int
  | _, _, _, _, .str, _ => .str
  | _, _, _, _, .tup h1 h2, hF => .tup (by rw [upd_ne (fun y => by rw [y, hx] at h1; cases h1)]; exact h1) (Rps.unlock hx hu hS h2 hF)
  | _, _, _, _, .fl h1 h3, hF => .fl (by
      rcases h1 with ⟨o, h1⟩ | h1
      · exact .inl ⟨o, by rw [upd_ne (fun y => by rw [y, hx] at h1; cases h1; exact hu _ rfl)]; exact h1⟩
      · exact .inr h1) (Rps.unlock hx hu hS h3 (fun _ z => nomatch z))
  | _, _, _, _, .nd0 h0 h1 h2 h3, hF => .nd0 h0 (h1.imp fun _ e => by rw [upd_ne (hS _ h2)]; exact e) h2 (Rps.unlock hx hu hS h3 (fun _ z => nomatch z))
  | _, _, _, _, .nd1 h0 h1 h2 h3, hF => .nd1 h0 h1 (by rw [upd_ne (hF _ List.mem_cons_self)]; exact h2) (Rps.unlock hx hu hS h3 (fun a z => hF a (List.mem_cons_of_mem _ z)))
theorem Rps.unlock (hx : H' x = some (.frz od u)) (hu : ∀ xs, u ≠ .lst xs) (hS : ∀ a, S a → a ≠ x) : ∀ {l : Lv} {vs : List V} {ds : List D} {F : List Addr}, Rps K S H' l vs ds F → (∀ a ∈ F, a ≠ x) → Rps K S (upd H' x u) l vs ds F
  | _, _, _, _, .nil, _ => .nil
  | _, _, _, _, .cons h1 h2, hF => .cons (Rp.unlock hx hu hS h1 fun a z => hF a (List.mem_append_left _ z)) (Rps.unlock hx hu hS h2 fun a z => hF a (List.mem_append_right _ z))
end
end
section
variable {X : Cx} {elt e : Expr} {ifs : List Expr} {scope : Scope} {own : List (Str × Nat)} {pos apos cpos tpos : Pos} {t : Tg} {c : EvT} {fe : EvE} {fd : Env → Option D} {elts : List Expr} {kk : Nat}
theorem yld_dk {K : PySem.W.Frag} {N : Nw} {H2 : Hp} {d : Addr} {o : Obj} {kv : List (Key × V)} {kd : List (Key × D)} {S : Addr → Prop} {l : Lv} {F : List Addr} (hd : H2 d = some (.frz o (.dK kv))) (hk : kv.map (·.1) = kd.map (·.1)) (hr : Rps K S H2 l (kv.map (·.2)) (kd.map (·.2)) F) (hi : immAll (kd.map (·.2)) = true) :
    YldS K N [] H2 (Iti d o kv) ((kd.map fun p => D.tup [keyD p.1, p.2]).map fun d => (d, false)) where
  go := fun i d' al H3 e s => by
    refine ⟨s d _ hd, ?_⟩
    have := (List.getElem?_eq_some_iff.mp e).1
    have e2 := congrArg List.length hk
    simp at this e2
    omega
  yld := fun i d' al H3 x H4 e s y => by
    obtain ⟨T, k, v, e1, rfl, hT, rfl⟩ := y
    rw [List.getElem?_map, List.getElem?_map] at e
    obtain ⟨d2, e2, e3⟩ := Option.map_eq_some_iff.mp e
    obtain ⟨p, e4, rfl⟩ := Option.map_eq_some_iff.mp e2
    cases e3
    have hk1 : k = p.1 := by
      have := congrArg (fun l => l[i]?) hk
      simp only [List.getElem?_map, e1, e4, Option.map_some] at this
      exact Option.some.inj this
    subst hk1
    have sm : Same H3 (upd H3 T (.tup [kV p.1, v])) := same_upd hT
    obtain ⟨w, G, e5, rp, _⟩ := hr.get (i := i) (d := p.2) (by rw [List.getElem?_map, e4]; rfl)
    rw [List.getElem?_map, e1] at e5
    cases e5
    have ip := immAll_get hi (i := i) (d := p.2) (by rw [List.getElem?_map, e4]; rfl)
    refine ⟨sm, .tup upd_same (Rps.cons (F := []) (G := []) (key_rp _) (Rps.cons (F := []) (G := []) ?_ .nil))⟩
    exact ((rp.same (s.trans sm)).of_imm ip).2
  stop := fun H3 s => ⟨s d _ hd, by
    have e2 := congrArg List.length hk
    simp at e2 ⊢
    omega⟩
theorem lcD_core {vs : List Nat} (hv : (tgSlots t).all (fun j => decide (j ∈ vs)) = true) {N : Nw} {H0 H : Hp} {ρ : Env} {σ : St} {L W : List Addr} {ds : List D} {rs : List Rv} {r : Rv} {d : Addr} {u : HO} {od : Obj} {Q : VK} {J : It} (sim : SimH X.K N H0 ρ σ H L W) (hu : H d = some u) (mu : Mut (some u)) (hl : ∀ xs, u ≠ .lst xs)
    (e2 : lcL t c fe (wipeE vs (hideN ρ)) (ds.map fun d => (d, false)) = some rs) (e3 : mkBig rs = some r) (q : Post X.K N W H ⟨r.d, r.l, false, false⟩ Q)
    (Y : YldS X.K ⟨fun a => upd H d (.frz od u) a = none, fun _ => False, fun _ => 0⟩ [] (upd H d (.frz od u)) J (ds.map fun d => (d, false))) :
    tLc (fun _ _ R => R J (upd H d (.frz od u))) (tG X.K t) (tT X.K c) (tE X.K fe) vs σ (upd H d (.frz od u)) fun v H' => H' d = some (.frz od u) ∧ Q v (upd H' d u) := by
  have kp : ∀ b o, H b = some o → ¬ Mut (some o) → upd H d (.frz od u) b = some o := fun b o e n => by
    rw [upd_ne]
    · exact e
    · rintro rfl
      rw [hu] at e
      cases e
      exact n mu
  have sim2 : SimH X.K ⟨fun a => upd H d (.frz od u) a = none, fun _ => False, fun _ => 0⟩ (upd H d (.frz od u)) (hideN ρ) σ (upd H d (.frz od u)) [] [] :=
    ⟨fun _ _ e _ => e, fun _ e => e, List.nodup_nil, (fun _ z => nomatch z), (fun _ z => nomatch z), hide_slots kp sim.sl, (fun _ z => nomatch z), List.nodup_nil⟩
  refine lc_core (H := upd H d (.frz od u)) hv sim2 e2 e3 (fun v H' F s n nd rp => ?_) (Same.refl _) Y
  have hd' : H' d = some (.frz od u) := s d _ upd_same
  have sm : Same H (upd H' d u) := fun b o e => by
    by_cases hb : b = d
    · subst hb
      rw [upd_same]
      rw [hu] at e
      exact e
    · rw [upd_ne hb]
      exact s b o (by rw [upd_ne hb]; exact e)
  have nH : ∀ a, upd H d (.frz od u) a = none → H a = none ∧ a ≠ d := fun a e => by
    by_cases ha : a = d
    · subst ha
      rw [upd_same] at e
      cases e
    · rw [upd_ne ha] at e
      exact ⟨e, ha⟩
  refine ⟨hd', q v _ F sm (fun a z => (nH a (n a z)).1) nd ?_⟩
  have rp2 : Rp X.K (fun a => (H a = none ∧ a ≠ d) ∧ a ∉ F) H' r.l v r.d F := rp.mono fun a z => ⟨nH a (z.1.1.1.elim id fun y => y.elim), z.2⟩
  exact (rp2.unlock hd' hl (fun a z => z.1.2) fun a z => (nH a (n a z)).2).mono fun a z => ⟨⟨.new (sim.nw a z.1.1), fun _ w => sim.th a w z.1.1⟩, z.2⟩
theorem lcD_core2 {vs : List Nat} (hv : (tgSlots t).all (fun j => decide (j ∈ vs)) = true) {N : Nw} {H0 H : Hp} {ρ : Env} {σ : St} {L W : List Addr} {ds : List D} {rs : List Rv} {r : Rv} {Q : VK} {J : It} (sim : SimH X.K N H0 ρ σ H L W)
    (e2 : lcL t c fe (wipeE vs (hideN ρ)) (ds.map fun d => (d, false)) = some rs) (e3 : mkBig rs = some r) (q : Post X.K N W H ⟨r.d, r.l, false, false⟩ Q)
    (Y : YldS X.K ⟨fun a => H a = none, fun _ => False, fun _ => 0⟩ [] H J (ds.map fun d => (d, false))) :
    tLc (fun _ _ R => R J H) (tG X.K t) (tT X.K c) (tE X.K fe) vs σ H Q := by
  have sim2 : SimH X.K ⟨fun a => H a = none, fun _ => False, fun _ => 0⟩ H (hideN ρ) σ H [] [] :=
    ⟨fun _ _ e _ => e, fun _ e => e, List.nodup_nil, (fun _ z => nomatch z), (fun _ z => nomatch z), hide_slots (fun _ _ e _ => e) sim.sl, (fun _ z => nomatch z), List.nodup_nil⟩
  refine lc_core (H := H) hv sim2 e2 e3 (fun v H' F s n nd rp => ?_) (Same.refl _) Y
  have rp : Rp X.K (fun a => (((H a = none ∨ False) ∧ _) ∧ _) ∧ _) H' r.l v r.d F := rp
  exact q v _ F s n nd (rp.mono fun a z => ⟨⟨.new (sim.nw a (z.1.1.1.elim id fun y => y.elim)), fun _ w => sim.th a w (z.1.1.1.elim id fun y => y.elim)⟩, z.2⟩)
theorem pe_lockO {X : Cx} {e : Expr} {t : TE} (h : PE X e t) : PE X e (fun σ H Q => tLockE t σ H Q ∨ t σ H Q) := ⟨fun pins s σ H Q I hw => hw.elim ((pe_lock h).run pins s σ H Q I) (h.run pins s σ H Q I)⟩
theorem e_lcDK (own : List (Str × Nat)) (hc : X.calm = true) (hN : X.N.Nodup) (he : DP X e fd) (ok : BlkOk X.N X.env.scope scope own)
    (hg : ∀ (s : Shared) (H : Hp) (C : Addr) (cl : List (Str × Addr)) (fp : List Addr), PGv (X.blk s H scope (compEnvC scope cl C X.env) fp) (.Tuple elts kk tpos) t) (ht : ∀ (s : Shared) (H : Hp) (C : Addr) (cl : List (Str × Addr)) (fp : List Addr), PTsv (X.blk s H scope (compEnvC scope cl C X.env) fp) ifs c)
    (hel : ∀ (s : Shared) (H : Hp) (C : Addr) (cl : List (Str × Addr)) (fp : List Addr), PEv (X.blk s H scope (compEnvC scope cl C X.env) fp) elt fe) (hv : (tgSlots t).all (fun j => decide (j ∈ own.map (·.2))) = true := by rfl)
    (hs : ∀ x, foldedSetIterable (.Call (.Attribute e "items" apos) [] [] cpos) X.env x = pure x := by intro _; rfl) (hbase : attributeBase e "items" X.env (eval e X.env) = eval e X.env := by rfl) (hline : (apos.endLine == cpos.line) = true := by rfl) :
    PEv X (.ListComp elt [⟨.Tuple elts kk tpos, .Call (.Attribute e "items" apos) [] [] cpos, ifs, 0⟩] scope pos) (eLcD itDK fd (own.map (·.2)) t c fe) := by
  obtain ⟨te, pe, run⟩ := he.run
  refine imp_e (pe_lockO (pe_lc (g := tG X.K t) (tt := tT X.K c) (te := tE X.K fe) hc hN (pi_items pe hbase hline) ok hg ht hel hs)) fun σ H Q h => ?_
  obtain ⟨N, H0, ρ, L, W, r, sim, z, q⟩ := h
  unfold eLcD at z
  obtain ⟨dd, e0, z⟩ := bind_some z
  obtain ⟨ds, e1, z⟩ := bind_some z
  obtain ⟨rs, e2, z⟩ := bind_some z
  obtain ⟨r0, e3, z⟩ := Option.map_eq_some_iff.mp z
  subst z
  unfold itDK at e1
  split at e1
  · rename_i kd
    split at e1
    · rename_i hi
      cases e1
      obtain ⟨d, u, vs, es, hu, hn, ⟨S, l, F, hr⟩, go⟩ := run sim e0 rfl
      cases hn with
      | dk hk =>
        rename_i kv
        rcases hu with hu | ⟨od, hfr⟩
        case inr =>
          refine .inr (go (fun _ _ _ e => e) ⟨d, od, kv, rfl, hfr, ?_⟩)
          exact lcD_core2 hv sim e2 e3 q (yld_dk (S := S) (l := l) (F := F) hfr hk hr hi)
        refine .inl ⟨d, _, hu, trivial, fun od => ?_⟩
        have hfr : upd H d (.frz od (.dK kv)) d = some (.frz od (.dK kv)) := upd_same
        refine go (fun b o hb e => by rw [upd_ne hb]; exact e) ⟨d, od, kv, rfl, hfr, ?_⟩
        refine lcD_core hv sim hu trivial (fun _ z => nomatch z) e2 e3 q (yld_dk (S := fun _ => False) (l := .shr) (F := []) hfr hk ?_ hi)
        have h2 := (hr.of_imm (S' := fun _ => False) (l' := .shr) hi).2
        exact h2.keep fun b o e qq => by
          have hb : b ≠ d := fun y => by
            subst y
            rw [hu] at e
            cases e
            rcases qq with qq | qq | ⟨xs, qq⟩ | ⟨o', u', qq⟩
            · exact qq.elim
            · exact nomatch qq
            · cases qq
            · cases qq
          rw [upd_ne hb]
          exact e
    · cases e1
  · cases e1
end
end Ev
set_option Elab.async false
set_option linter.all false
set_option maxRecDepth 100000
namespace Ev
open PySem PySem.Spec L2
open PyProof.Rows hiding St
end Ev
set_option Elab.async false
set_option linter.all false
set_option maxRecDepth 100000
namespace Ev
open PySem PySem.Spec L2
open PyProof.Rows hiding St
section
variable {X : Cx} {e : Expr} {es : List Expr} {fa fb : EvE} {ga : EvA} {pos : Pos} {ta : TE} {t : TA}
theorem Post.ints {K : PySem.W.Frag} {N : Nw} {W : List Addr} {H H1 : Hp} {ns : List Int} {Q : VK} (q : Post K N W H ⟨.lst (ns.map .int), .full, false, false⟩ Q) (s : Same H H1) : ∀ p, H1 p = none → Q (.ref p) (upd H1 p (.lst (ns.map V.int))) := fun p np =>
  q _ _ [p] (s.trans (same_upd np)) (fun a m => by rw [List.mem_singleton.mp m]; exact s.free np) nodup1 (.nd1 (fun z => nomatch z) .lst upd_same (rps_ints ns))
end
end Ev
set_option Elab.async false
set_option linter.all false
set_option maxRecDepth 100000
namespace Ev
open PySem PySem.Spec L2
open PyProof.Rows hiding St
abbrev EvX := Env → Option (Env × Rv)
def tX (K : PySem.W.Frag) (f : EvX) : TE := fun σ H Q => ∃ N H0 ρ L ρ' r, Sim K N H0 ρ σ H L ∧ f ρ = some (ρ', r) ∧ ∀ H1 L1, Sim K N H0 ρ' σ H1 L1 → Frm H L H1 L1 → Post K N L1 H1 r Q
abbrev PXv (X : Cx) (e : Expr) (f : EvX) : Prop := PE X e (tX X.K f)
section
variable {X : Cx} {e o tg : Expr} {es : List Expr} {fe : EvE} {fx : EvX} {pos pos' apos cpos p npos : Pos} {body : List Stmt} {t : Tg} {b : EvS} {x : Str} {id : String} {g : List D → Option Ret}
def sSetX (i : Nat) (fx : EvX) : EvS := fun ρ => (fx ρ).bind fun p => if (!p.2.vw && decide (i < p.1.length)) = true then some (.nx (p.1.set i (some ⟨p.2.d, p.2.l, p.2.al, none⟩))) else none
theorem s_setX (i : Nat) {x : Str} (he : PXv X e fx) (hN : X.N.Nodup) (hi : X.N[i]? = some x := by rfl) (hx : Loc X.env.scope x := by first | exact Or.inl rfl | exact Or.inr rfl) (hs : swapsWith e (some (.Name x pos')) pos.line X.env = pure false := by rfl) (hf : X.fn x = true ∨ X.env.scope.names.lookup x = some .local := by first | exact .inl rfl | exact .inr rfl | assumption) :
    PSv X (.Assign [.Name x pos'] e pos) (sSetX i fx) := by
  refine imp_s (ps_set hN hi hx he hs hf) fun D σ H ⟨N, H0, ρ, L, o, sim, z, q⟩ => ?_
  unfold sSetX at z
  obtain ⟨⟨ρ', r⟩, e1, z⟩ := bind_some z
  split at z
  · rename_i hc
    rw [Bool.and_eq_true, decide_eq_true_eq] at hc
    cases z
    refine ⟨N, H0, ρ, L, ρ', r, sim, e1, fun H1 L1 sim1 fr v H2 F s2 n2 d2 p2 => ?_⟩
    have hv : r.vw = false := by simpa using hc.1
    obtain ⟨L2, sim2, sub2⟩ := sim1.set (r := ⟨r.d, r.l, r.al, none⟩) (fun _ z => nomatch z) s2 n2 d2 (p2.mono fun a z => ⟨⟨z.1.1, fun _ => z.1.2 hv⟩, z.2⟩) hc.2
    exact q _ H2 L2 sim2 (fr.trans (Frm.same s2 fun b z => (sub2 b z).imp (fun z => z) (n2 b)))
  · cases z
end
end Ev
set_option Elab.async false
set_option linter.all false
set_option maxRecDepth 100000
namespace Ev
open PySem PySem.Spec L2
open PyProof.Rows hiding St
section
variable {X : Cx} {e o tg : Expr} {es : List Expr} {fe fo : EvE} {fx : EvX} {pos pos' apos cpos p npos : Pos} {x : Str} {id : String}
theorem RpL.one {K : PySem.W.Frag} {N : Nw} {L : List Addr} {H : Hp} {v : V} {r : Rv} {F : List Addr} (h : Rp K (fun a => SR N L r.al r.vw a ∧ a ∉ F) H r.l v r.d F) : RpL K N L F H [v] [r] F := by
  have := RpL.cons (T := F) (h.mono fun a z => ⟨z.1, fun _ => z.2⟩) (RpL.nil (K := K) (N := N) (W := L) (T := F) (H := H))
  rw [List.append_nil] at this
  exact this
end
theorem keepLv_full {l : Lv} (h : l ≠ .shr) : keepLv l .full = l := by
  cases l <;> first | rfl | exact absurd rfl h
section
variable {X : Cx} {pos p0 apos cpos npos : Pos} {x : Str} {j : Option String}
theorem Sim.fewer {K : PySem.W.Frag} {N : Nw} {H0 H : Hp} {ρ : Env} {σ : St} {L : List Addr} {i : Nat} {s : Sv} {ds ds' : List D} (sim : Sim K N H0 ρ σ H L) (es : ρ[i]? = some (some s)) (hd : s.d = .lst ds) (hl : s.l ≠ .shr) :
    ∃ (a : Addr) (vs : List V), σ[i]? = some (some (.ref a)) ∧ H a = some (.lst vs) ∧ vs.length = ds.length ∧ (∀ (k : Nat) (d : D), ds[k]? = some d → imm d = true → ∃ v : V, vs[k]? = some v ∧ ∀ (S : Addr → Prop) (ws : List V), Rp K S (upd H a (.lst ws)) .full v d []) ∧
      ∀ {ws : List V}, (∀ {S : Addr → Prop} {l : Lv} {F : List Addr}, F.Nodup → Rps K S H l vs ds F → ∃ F', Rps K S H l ws ds' F' ∧ (∀ b ∈ F', b ∈ F) ∧ F'.Nodup) → ∃ L', Sim K N H0 (ρ.set i (some ⟨.lst ds', s.l, s.al, s.pn⟩)) σ (upd H a (.lst ws)) L' ∧ Frm H L (upd H a (.lst ws)) L' := by
  obtain ⟨sd, sl, sa, sp⟩ := s
  dsimp only at hd hl
  subst hd
  obtain ⟨a, vs, ev, ha, hlen, go⟩ := sim.relist es hl
  obtain ⟨v, G, ev2, rp, _⟩ := sim.sl.get es
  rw [ev] at ev2
  cases ev2
  obtain ⟨a', vs', G1, e3, h1, r1, _⟩ := rp.lst_inv
  cases e3
  rw [ha] at h1
  cases h1
  refine ⟨a, vs, ev, ha, hlen, fun k d ek hi => ?_, fun {ws} pick => ?_⟩
  · obtain ⟨v, G2, e4, r4, _⟩ := r1.get ek
    refine ⟨v, e4, fun S ws => ?_⟩
    have r5 := (r4.of_imm (S' := fun _ => False) (l' := .full) hi).2
    refine ((r5.keep (H' := upd H a (.lst ws)) fun b o eb q => ?_).mono (fun _ z => z.elim))
    have : b ≠ a := fun y => by
      subst y
      rw [ha] at eb
      cases eb
      rcases q with q | q | ⟨xs, q⟩ | ⟨o', u, q⟩
      · exact q
      · cases q
      · cases q
      · cases q
    rw [upd_ne this]
    exact eb
  · obtain ⟨L', sim', fr'⟩ := go (rs := []) (us := []) (T := []) (ws := ws) (es := ds') (fun r1 r2 nd => by
      obtain ⟨F', h1, h2, h3⟩ := pick (List.nodup_append.mp nd).1 r1
      exact ⟨F', h1, fun b z => List.mem_append_left _ (h2 b z), h3⟩) (Same.refl H) (fun _ z => nomatch z) .nil .nil rfl
    refine ⟨L', ?_, fr'⟩
    have e4 : ([] : List Rv).all (fun r => !r.vw && decide (r.l = .full)) = true := rfl
    have e5 : ([] : List Rv).any (·.al) = false := rfl
    rw [e4, if_pos rfl, keepLv_full hl, e5, Bool.or_false] at sim'
    exact sim'
end
end Ev
set_option Elab.async false
set_option linter.all false
set_option maxRecDepth 100000
namespace Ev
open PySem PySem.Spec L2
open PyProof.Rows hiding St
inductive HArgs (K : PySem.W.Frag) (S : Addr → Prop) (H : Hp) : List Bool → List V → List D → List Addr → Prop
  | nil : HArgs K S H [] [] [] []
  | sh {ms : List Bool} {v : V} {d : D} {vs : List V} {ds : List D} {F : List Addr} : Rp K S H .shr v d [] → HArgs K S H ms vs ds F → HArgs K S H (false :: ms) (v :: vs) (d :: ds) F
  | ov {ms : List Bool} {v : V} {d : D} {vs : List V} {ds : List D} {F G : List Addr} : isNd d = true → Rp K S H .full v d G → HArgs K S H ms vs ds F → HArgs K S H (true :: ms) (v :: vs) (d :: ds) (G ++ F)
inductive HBack (K : PySem.W.Frag) (S : Addr → Prop) (H : Hp) : List V → List (Option D) → List Addr → Prop
  | nil : HBack K S H [] [] []
  | no {v : V} {vs : List V} {ds : List (Option D)} {F : List Addr} : HBack K S H vs ds F → HBack K S H (v :: vs) (none :: ds) F
  | so {v : V} {d : D} {vs : List V} {ds : List (Option D)} {F G : List Addr} : Rp K S H .full v d G → HBack K S H vs ds F → HBack K S H (v :: vs) (some d :: ds) (G ++ F)
theorem HArgs.mono {K : PySem.W.Frag} {S S' : Addr → Prop} {H : Hp} (h : ∀ a, S a → S' a) : ∀ {ms : List Bool} {vs : List V} {ds : List D} {F : List Addr}, HArgs K S H ms vs ds F → HArgs K S' H ms vs ds F
  | _, _, _, _, .nil => .nil
  | _, _, _, _, .sh r q => .sh (r.mono h) (HArgs.mono h q)
  | _, _, _, _, .ov i r q => .ov i (r.mono h) (HArgs.mono h q)
theorem HArgs.len {K : PySem.W.Frag} {S : Addr → Prop} {H : Hp} : ∀ {ms : List Bool} {vs : List V} {ds : List D} {F : List Addr}, HArgs K S H ms vs ds F → vs.length = ms.length ∧ ds.length = ms.length
  | _, _, _, _, .nil => ⟨rfl, rfl⟩
  | _, _, _, _, .sh _ q => ⟨by rw [List.length_cons, List.length_cons, q.len.1], by rw [List.length_cons, List.length_cons, q.len.2]⟩
  | _, _, _, _, .ov _ _ q => ⟨by rw [List.length_cons, List.length_cons, q.len.1], by rw [List.length_cons, List.length_cons, q.len.2]⟩
theorem HArgs.mu {K : PySem.W.Frag} {S : Addr → Prop} {H : Hp} : ∀ {ms : List Bool} {vs : List V} {ds : List D} {F : List Addr}, HArgs K S H ms vs ds F → ∀ a ∈ F, Mut (H a)
  | _, _, _, _, .nil => fun _ z => nomatch z
  | _, _, _, _, .sh _ q => q.mu
  | _, _, _, _, .ov _ r q => fun a z => (List.mem_append.mp z).elim (r.own_mut a) (q.mu a)
end Ev
set_option Elab.async false
set_option linter.all false
set_option maxRecDepth 100000
namespace Ev
open PySem PySem.Spec L2
open PyProof.Rows hiding St
theorem HBack.mono {K : PySem.W.Frag} {S S' : Addr → Prop} {H : Hp} (h : ∀ a, S a → S' a) : ∀ {vs : List V} {ds : List (Option D)} {F : List Addr}, HBack K S H vs ds F → HBack K S' H vs ds F
  | _, _, _, .nil => .nil
  | _, _, _, .no q => .no (HBack.mono h q)
  | _, _, _, .so r q => .so (r.mono h) (HBack.mono h q)
theorem HArgs.ref {K : PySem.W.Frag} {S : Addr → Prop} {H : Hp} : ∀ {ms : List Bool} {vs : List V} {ds : List D} {F : List Addr}, HArgs K S H ms vs ds F → ∀ (k : Nat) (v : V), vs[k]? = some v → ms[k]? = some true → ∃ a, v = V.ref a
  | _, _, _, _, .nil, _, _, e, _ => by simp at e
  | _, _, _, _, .sh _ q, 0, _, _, e => by simp at e
  | _, _, _, _, .ov hi r q, 0, _, e, _ => by
    obtain ⟨a, o, vs, ds, F, rfl, _⟩ := r.node hi
    simp at e
    exact ⟨a, e.symm⟩
  | _, _, _, _, .sh _ q, k + 1, v, e1, e2 => q.ref k v (by simpa using e1) (by simpa using e2)
  | _, _, _, _, .ov _ _ q, k + 1, v, e1, e2 => q.ref k v (by simpa using e1) (by simpa using e2)
end Ev
set_option Elab.async false
set_option linter.all false
set_option maxRecDepth 100000
namespace Ev
open PySem PySem.Spec L2
open PyProof.Rows hiding St
inductive MA where
  | val (r : Rv) | slot (j : Nat) (s : Sv)
abbrev EvM := Env → Option (List MA)
inductive RowM (K : PySem.W.Frag) (N : Nw) (W T : List Addr) (H : Hp) (σ : St) : List MA → List V → List Addr → Prop
  | nil : RowM K N W T H σ [] [] []
  | val {r : Rv} {v : V} {as : List MA} {vs : List V} {F G : List Addr} : Rp K (fun a => SR N W r.al false a ∧ a ∉ T) H r.l v r.d F → RowM K N W T H σ as vs G → RowM K N W T H σ (.val r :: as) (v :: vs) (F ++ G)
  | slot {j : Nat} {s : Sv} {v : V} {as : List MA} {vs : List V} {G : List Addr} : σ[j]? = some (some v) → RowM K N W T H σ as vs G → RowM K N W T H σ (.slot j s :: as) (v :: vs) G
theorem RowM.mono {K : PySem.W.Frag} {N : Nw} {W W' T T' : List Addr} {H : Hp} {σ : St} (h : ∀ a, a ∉ W ∧ a ∉ T → a ∉ W' ∧ a ∉ T') : ∀ {as : List MA} {vs : List V} {F : List Addr}, RowM K N W T H σ as vs F → RowM K N W' T' H σ as vs F
  | _, _, _, .nil => .nil
  | _, _, _, .val r q => .val (r.mono fun a z => ⟨⟨z.1.1, fun _ => (h a ⟨z.1.2 rfl, z.2⟩).1⟩, (h a ⟨z.1.2 rfl, z.2⟩).2⟩) (RowM.mono h q)
  | _, _, _, .slot e q => .slot e (RowM.mono h q)
theorem RowM.len {K : PySem.W.Frag} {N : Nw} {W T : List Addr} {H : Hp} {σ : St} : ∀ {as : List MA} {vs : List V} {F : List Addr}, RowM K N W T H σ as vs F → vs.length = as.length
  | _, _, _, .nil => rfl
  | _, _, _, .val _ q => by rw [List.length_cons, List.length_cons, q.len]
  | _, _, _, .slot _ q => by rw [List.length_cons, List.length_cons, q.len]
end Ev
set_option Elab.async false
set_option linter.all false
set_option maxRecDepth 100000
namespace Ev
open PySem PySem.Spec L2
open PyProof.Rows hiding St
section
variable {K : PySem.W.Frag} {N : Nw}
theorem Slots.put {L0 : List Addr} {H : Hp} {σ : St} {ρ : Env} {F G : List Addr} {i : Nat} {v : V} {s : Sv} (h : Slots K N L0 H σ ρ F) (ev : σ[i]? = some (some v)) (pp : ∀ k, s.pn = some k → v = .ref (N.p k)) (rp : Rp K (SR N L0 s.al false) H s.l v s.d G) :
    ∃ F', Slots K N L0 H σ (ρ.set i (some s)) F' ∧ (∀ b ∈ F', b ∈ F ∨ b ∈ G) ∧ (F.Nodup → G.Nodup → (∀ b ∈ G, b ∉ F) → F'.Nodup) := by
  have hi : i < ρ.length := by rw [← h.len]; exact (List.getElem?_eq_some_iff.mp ev).1
  obtain ⟨F1, G0, F2, eF, _, p⟩ := h.at_ hi
  have z := p (L1 := L0) (H1 := H) (v := v) (s := s) (G' := G) (fun _ => .same (Same.refl H)) (fun _ z _ => z) pp rp
  have eσ : σ.set i (some v) = σ := by
    obtain ⟨h1, h2⟩ := List.getElem?_eq_some_iff.mp ev
    rw [← h2, List.set_getElem_self]
  rw [eσ] at z
  refine ⟨_, z, fun b m => ?_, fun nF nG dis => ?_⟩
  · rw [eF]
    rcases List.mem_append.mp m with m | m
    · exact .inl (by simp [m])
    · exact (List.mem_append.mp m).elim .inr fun m => .inl (by simp [m])
  · rw [eF] at nF dis
    rw [List.nodup_append, List.nodup_append] at nF
    rw [List.nodup_append, List.nodup_append]
    exact ⟨nF.1, ⟨nG, nF.2.1.2.1, fun a m b m2 e => dis a m (by rw [e]; simp [m2])⟩, fun a m b m2 e => (List.mem_append.mp m2).elim (fun m2 => dis b m2 (by rw [← e]; simp [m])) fun m2 => nF.2.2 a m b (by simp [m2]) e⟩
end
end Ev
set_option Elab.async false
set_option linter.all false
set_option maxRecDepth 100000
namespace Ev
open PySem PySem.Spec L2
open PyProof.Rows hiding St
end Ev
set_option Elab.async false
set_option linter.all false
set_option maxRecDepth 100000
namespace Ev
open PySem PySem.Spec L2
open PyProof.Rows hiding St
theorem Slots.any {K : PySem.W.Frag} {N : Nw} {L : List Addr} {H : Hp} (y : Option V) : ∀ {σ : St} {ρ : Env} {F : List Addr} (i : Nat), Slots K N L H σ ρ F → ρ[i]? = some none → Slots K N L H (σ.set i y) ρ F
  | _, _, _, _, .nil, h => by simp at h
  | _, _, _, 0, .no h, _ => .no h
  | _, _, _, i + 1, .no h, e => .no (Slots.any y i h (by simpa using e))
  | _, _, _, 0, .so _ _ _, e => by simp at e
  | _, _, _, i + 1, .so h0 h1 h, e => .so h0 h1 (Slots.any y i h (by simpa using e))
theorem Sim.any {K : PySem.W.Frag} {N : Nw} {H0 H : Hp} {ρ : Env} {σ : St} {L : List Addr} (s : Sim K N H0 ρ σ H L) (y : Option V) {i : Nat} (h : ρ[i]? = some none) : Sim K N H0 ρ (σ.set i y) H L := ⟨s.kp, s.nw, s.nd, s.ln, s.mu, s.sl.any y i h⟩
theorem Slots.wipe {K : PySem.W.Frag} {N : Nw} {L : List Addr} {H : Hp} : ∀ {σ : St} {ρ : Env} {F : List Addr} (i : Nat), Slots K N L H σ ρ F → ∃ F', Slots K N L H σ (ρ.set i none) F' ∧ F'.Sublist F
  | _, _, _, i, .nil => ⟨[], by cases i <;> exact .nil, List.Sublist.refl _⟩
  | _, _, F, 0, .no h => ⟨F, .no h, List.Sublist.refl _⟩
  | _, _, _, 0, .so (F := F) (G := G) _ _ h => ⟨G, .no h, List.sublist_append_right F G⟩
  | _, _, _, i + 1, .no h => let ⟨F', s, q⟩ := Slots.wipe i h; ⟨F', .no s, q⟩
  | _, _, _, i + 1, .so (F := F) h0 h1 h => let ⟨F', s, q⟩ := Slots.wipe i h; ⟨F ++ F', .so h0 h1 s, List.Sublist.append (List.Sublist.refl F) q⟩
theorem Sim.wipe {K : PySem.W.Frag} {N : Nw} {H0 H : Hp} {ρ : Env} {σ : St} {L : List Addr} (s : Sim K N H0 ρ σ H L) (i : Nat) : ∃ L', Sim K N H0 (ρ.set i none) σ H L' ∧ ∀ b ∈ L', b ∈ L := by
  obtain ⟨F', h, q⟩ := s.sl.wipe i
  exact ⟨F', ⟨s.kp, s.nw, q.nodup s.nd, fun a z => s.ln a (q.subset z), fun a z => s.mu a (q.subset z), h.mono fun a z m => z (q.subset m)⟩, fun b z => q.subset z⟩
end Ev
set_option Elab.async false
set_option linter.all false
set_option maxRecDepth 100000
namespace Ev
open PySem PySem.Spec L2
open PyProof.Rows hiding St
def lend (i : Nat) (ρ : Env) : Env := match ρ[i]? with
  | some (some s) => ρ.set i (some ⟨s.d, .shr, true, none⟩)
  | _ => ρ
def eBor (i : Nat) (fe : EvE) : EvE := fun ρ => (fe (lend i ρ)).bind fun r => if imm r.d = true then some (rA r.d) else if r.al = false ∧ r.vw = false then some r else none
theorem Slots.conv {K : PySem.W.Frag} {N N' : Nw} {L L' : List Addr} {H : Hp} (hp : N'.p = N.p) (h : ∀ al a, SR N L al false a → SR N' L' al false a) : ∀ {σ : St} {ρ : Env} {F : List Addr}, Slots K N L H σ ρ F → Slots K N' L' H σ ρ F
  | _, _, _, .nil => .nil
  | _, _, _, .no q => .no (Slots.conv hp h q)
  | _, _, _, .so h0 h1 q => .so (fun k e => by rw [hp]; exact h0 k e) (h1.mono fun a z => h _ a z) (Slots.conv hp h q)
theorem SimH.lend {K : PySem.W.Frag} {N : Nw} {H0 H : Hp} {ρ : Env} {σ : St} {L W : List Addr} (sim : SimH K N H0 ρ σ H L W) (i : Nat) :
    ∃ (N' : Nw) (L' W' : List Addr), SimH K N' H (lend i ρ) σ H L' W' ∧ ∀ a, SR N' W' false false a → SR N W false false a := by
  unfold Ev.lend
  split
  · rename_i s es
    obtain ⟨F1, G, F2, v, eL, ev, rp, sl⟩ := sim.sl.hide es
    have gW : ∀ a ∈ G, a ∈ W := fun a m => sim.sub a (by rw [eL]; simp [m])
    let W' := W.filter fun a => decide (a ∉ G)
    have hW' : ∀ a, a ∈ W' ↔ a ∈ W ∧ a ∉ G := fun a => by
      show a ∈ W.filter _ ↔ _
      rw [List.mem_filter, decide_eq_true_eq]
    let N' : Nw := ⟨fun a => N a ∧ a ∉ G, fun a => N.s a ∨ a ∈ G, N.p⟩
    have out : ∀ a, a ∉ W → a ∉ G := fun a n m => n (gW a m)
    have cv : ∀ al a, SR N W al false a → SR N' W' al false a := fun al a z => by
      have hG := out a (z.2 rfl)
      refine ⟨⟨z.1.1.imp (fun y => ⟨y, hG⟩) .inl, fun e => ⟨z.1.2 e, hG⟩⟩, fun _ m => z.2 rfl ((hW' a).mp m).1⟩
    have sl' : Slots K N' W' H σ (ρ.set i none) (F1 ++ F2) := Slots.conv (N := N) (N' := N') (L := W) (L' := W') rfl cv sl
    have nd := sim.ndl
    rw [eL, List.nodup_append, List.nodup_append] at nd
    obtain ⟨a1, ⟨a2, a3, a4⟩, a5⟩ := nd
    have n12 : (F1 ++ F2).Nodup := by
      rw [List.nodup_append]
      exact ⟨a1, a3, fun a m b m2 => a5 a m b (by simp [m2])⟩
    have g12 : ∀ b ∈ F1 ++ F2, b ∉ G := fun b m m2 => (List.mem_append.mp m).elim (fun y => a5 b y b (by simp [m2]) rfl) fun y => a4 b m2 b y rfl
    have sub12 : ∀ b ∈ F1 ++ F2, b ∈ L := fun b m => by
      rw [eL]
      rcases List.mem_append.mp m with m | m <;> simp [m]
    obtain ⟨F', h1, h2, h3⟩ := sl'.put (s := ⟨s.d, .shr, true, none⟩) (G := []) ev (fun _ z => nomatch z) (rp.give (fun a z => ⟨⟨z.1.1.imp (fun y => ⟨y, out a (z.2 rfl)⟩) .inl, (fun e => nomatch e)⟩, fun _ m => z.2 rfl ((hW' a).mp m).1⟩) fun a m => ⟨⟨.inr (.inr m), (fun e => nomatch e)⟩, fun _ m2 => ((hW' a).mp m2).2 m⟩)
    rw [List.set_set] at h1
    refine ⟨N', F', W', ⟨fun b o e _ => e, fun b e => ⟨sim.nw b e, fun m => sim.th b (gW b m) e⟩, List.filter_sublist.nodup sim.nd, fun a m => ⟨sim.ln a ((hW' a).mp m).1, ((hW' a).mp m).2⟩, fun a m => sim.mu a ((hW' a).mp m).1, h1, fun a m => (hW' a).mpr ?_, h3 n12 .nil (fun _ z => nomatch z)⟩, fun a z => ?_⟩
    · rcases h2 a m with y | y
      · exact ⟨sim.sub a (sub12 a y), g12 a y⟩
      · cases y
    · have hn := z.1.2 rfl
      exact ⟨.new hn.1, fun _ m => z.2 rfl ((hW' a).mpr ⟨m, hn.2⟩)⟩
  · exact ⟨N, L, W, ⟨fun b o e _ => e, sim.nw, sim.nd, sim.ln, sim.mu, sim.sl, sim.sub, sim.ndl⟩, fun a z => z⟩
theorem bor_te {K : PySem.W.Frag} {fe : EvE} {i : Nat} {σ : St} {H : Hp} {Q : VK} (h : tE K (eBor i fe) σ H Q) : tE K fe σ H Q := by
  obtain ⟨N, H0, ρ, L, W, r, sim, z, q⟩ := h
  unfold eBor at z
  obtain ⟨r', e1, z⟩ := bind_some z
  obtain ⟨N', L', W', sim', cv⟩ := sim.lend i
  refine ⟨N', H, _, L', W', r', sim', e1, fun v H1 F s1 n1 d1 p1 => ?_⟩
  split at z
  · rename_i hi
    cases z
    exact q.atom s1 fun S => (p1.of_imm hi).2
  · split at z
    · rename_i hc
      cases z
      obtain ⟨rd, rl, ra, rv⟩ := r
      obtain ⟨h1, h2⟩ := hc
      dsimp only at h1 h2
      subst h1 h2
      exact q v H1 F s1 n1 d1 (p1.mono fun a z => ⟨cv a z.1, z.2⟩)
    · cases z
section
variable {X : Cx} {e : Expr} {fe : EvE} {elt tg iter : Expr} {ifs : List Expr} {scope : Scope} {pos spos py : Pos} {it : EvI} {t : Tg} {c : EvT}
theorem e_bor (i : Nat) (he : PEv X e fe) : PEv X e (eBor i fe) := imp_e he fun _ _ _ h => bor_te h
end
end Ev
set_option Elab.async false
set_option linter.all false
set_option maxRecDepth 100000
namespace Ev
open PySem PySem.Spec L2
open PyProof.Rows hiding St
theorem for_run {K : PySem.W.Frag} {N : Nw} {H0 H1 : Hp} {ρX : Env} {σ : St} {L : List Addr} {t : Tg} {b : EvS} {J : It} {items : List (D × Bool)} {o : Out} {De : Ends} (sim : Sim K N H0 ρX σ H1 L) (Y : Yld K N L H1 J items) (z : forL t b items ρX = some o) (q : PostS K N H0 H1 L o De) :
    ∃ W : Nat → Nat → St → Hp → Prop, (∃ m, W 0 m σ H1) ∧ ∀ i m σ H, W i m σ H →
      (J.stop i H ∧ De.nx σ H) ∨ (J.go i H ∧ ∃ N' : St → Hp → Prop, (∀ σ' H', N' σ' H' → ∃ m', m' < m ∧ W (i + 1) m' σ' H') ∧ ∀ x H', J.yld i H x H' → tG K t x σ H' fun σ2 H2 => tS K b { De with nx := N', ct := N', bk := De.nx } σ2 H2) := by
  refine ⟨fun i m σ' H' => m = items.length - i ∧ i ≤ items.length ∧ ∃ ρ' L', Sim K N H0 ρ' σ' H' L' ∧ Frm H1 L H' L' ∧ forL t b (items.drop i) ρ' = some o ∧ PostS K N H0 H' L' o De,
    ⟨items.length, by simp, Nat.zero_le _, _, L, sim, Frm.refl _ _, by simpa using z, q⟩, ?_⟩
  rintro i m σ' H' ⟨rfl, hi, ρ', L', sim', fr, zi, qi⟩
  have kept : Kept H1 L H' := fr.1
  by_cases hlt : i < items.length
  · obtain ⟨⟨d, al⟩, ei⟩ : ∃ x, items[i]? = some x := ⟨items[i], List.getElem?_eq_getElem hlt⟩
    have ed : items.drop i = (d, al) :: items.drop (i + 1) := by
      rw [List.drop_eq_getElem_cons hlt]
      have := List.getElem?_eq_getElem hlt
      rw [ei] at this
      rw [← Option.some.inj this]
    rw [ed] at zi
    unfold forL at zi
    obtain ⟨ρ1, et, zi⟩ := bind_some zi
    obtain ⟨ob, eb, zi⟩ := bind_some zi
    refine .inr ⟨Y.go i d al H' ei kept, fun σ'' H'' => ∃ m', m' < items.length - i ∧ (m' = items.length - (i + 1) ∧ i + 1 ≤ items.length ∧ ∃ ρ' L', Sim K N H0 ρ' σ'' H'' L' ∧ Frm H1 L H'' L' ∧ forL t b (items.drop (i + 1)) ρ' = some o ∧ PostS K N H0 H'' L' o De), fun _ _ h => h, fun x H3 y => ?_⟩
    obtain ⟨s3, r3⟩ := Y.yld i d al H' x H3 ei kept y
    have fr3 : Frm H' L' H3 L' := Frm.same s3 fun b z => .inl z
    refine ⟨N, H0, ρ', L', L', d, al, ρ1, (sim'.same s3).h, r3.mono fun a z => ⟨z.1.1, fun _ w => (fr.2.2 a w).elim (z.1.2 rfl) z.2⟩, et, fun σ2 L2 sim2 sub2 _ => ?_⟩
    have fr2 : Frm H' L' H3 L2 := Frm.same s3 fun b z => .inl (sub2 b z)
    refine ⟨N, H0, ρ1, L2, ob, sim2.sim, eb, ?_⟩
    have again : ∀ {ρ2 : Env}, forL t b (items.drop (i + 1)) ρ2 = some o → ∀ σ4 H4 L4, Sim K N H0 ρ2 σ4 H4 L4 → Frm H3 L2 H4 L4 → ∃ m', m' < items.length - i ∧ (m' = items.length - (i + 1) ∧ i + 1 ≤ items.length ∧ ∃ ρ' L', Sim K N H0 ρ' σ4 H4 L' ∧ Frm H1 L H4 L' ∧ forL t b (items.drop (i + 1)) ρ' = some o ∧ PostS K N H0 H4 L' o De) :=
      fun z4 σ4 H4 L4 sim4 fr4 => ⟨_, by omega, rfl, hlt, _, L4, sim4, fr.trans (fr2.trans fr4), z4, qi.at_ (fr2.trans fr4)⟩
    cases ob with
    | nx ρ2 => exact again zi
    | ct ρ2 => exact again zi
    | bk ρ2 => cases zi; exact fun σ4 H4 L4 sim4 fr4 => qi σ4 H4 L4 sim4 (fr2.trans fr4)
    | rt ρ2 d l al => cases zi; exact qi.at_ fr2
  · have ei : i = items.length := by omega
    subst ei
    rw [List.drop_length] at zi
    unfold forL at zi
    cases zi
    exact .inl ⟨Y.stop H' kept, qi σ' H' L' sim' (Frm.refl _ _)⟩
def noPin (k : Nat) (ρ : Env) : Bool := ρ.all fun o => match o with
  | some s => decide (s.pn ≠ some k)
  | none => true
def clr (k : Nat) (ρ : Env) : Env := ρ.map fun o => o.map fun s => if s.pn = some k then ⟨s.d, s.l, s.al, none⟩ else s
def backH (j k : Nat) (s : Sv) : Out → Option Out
  | .nx ρ => match ρ[j]? with
    | some (some s2) => if s2.pn = some k then some (.nx ((clr k ρ).set j (some s))) else none
    | _ => none
  | .rt ρ d l al => some (.rt (clr k ρ) d l al)
  | _ => none
def topP : Env → Nat
  | [] => 0
  | some s :: ρ => match s.pn with
    | some k => max (k + 1) (topP ρ)
    | none => topP ρ
  | none :: ρ => topP ρ
theorem topP_no : ∀ (ρ : Env) (k : Nat), topP ρ ≤ k → noPin k ρ = true
  | [], _, _ => rfl
  | none :: ρ, k, h => by
    show (true && noPin k ρ) = true
    rw [topP_no ρ k h]; rfl
  | some s :: ρ, k, h => by
    show (decide (s.pn ≠ some k) && noPin k ρ) = true
    unfold topP at h
    cases e : s.pn with
    | none =>
      rw [e] at h
      rw [topP_no ρ k h]; rfl
    | some j =>
      rw [e] at h
      dsimp only at h
      rw [topP_no ρ k (by omega)]
      simp; omega
def sForH (fp : EvP) (t : Tg) (b : EvS) : EvS := fun ρ => (fp ρ).bind fun z => match z.2.2, ρ[z.1]? with
  | .lst ds, some (some s) => if immAll ds = true ∧ isNd s.d = true then (forL t b (ds.map fun d => (d, false)) (ρ.set z.1 (some ⟨.any, .full, false, some (topP ρ)⟩))).bind (backH z.1 (topP ρ) s) else none
  | _, _ => none
theorem Slots.into {K : PySem.W.Frag} {N N' : Nw} {L L' : List Addr} {H : Hp} {k0 : Nat} (hp : ∀ k, k ≠ k0 → N'.p k = N.p k) (h : ∀ al a, SR N L al false a → SR N' L' al false a) : ∀ {σ : St} {ρ : Env} {F : List Addr}, Slots K N L H σ ρ F → noPin k0 ρ = true → Slots K N' L' H σ ρ F
  | _, _, _, .nil, _ => .nil
  | _, _, _, .no q, e => .no (Slots.into hp h q (by simpa [noPin] using e))
  | _, _, _, .so (s := s) h0 h1 q, e => by
    simp only [noPin, List.all_cons, Bool.and_eq_true, decide_eq_true_eq] at e
    exact .so (fun k ek => by rw [hp k fun z => e.1 (by rw [ek, z])]; exact h0 k ek) (h1.mono fun a z => h _ a z) (Slots.into hp h q e.2)
theorem Slots.outof {K : PySem.W.Frag} {N N' : Nw} {L L' : List Addr} {H : Hp} {k0 : Nat} (hp : ∀ k, k ≠ k0 → N'.p k = N.p k) (h : ∀ al a, SR N' L' al false a → SR N L al false a) : ∀ {σ : St} {ρ : Env} {F : List Addr}, Slots K N' L' H σ ρ F → Slots K N L H σ (clr k0 ρ) F
  | _, _, _, .nil => .nil
  | _, _, _, .no q => .no (Slots.outof hp h q)
  | _, _, _, .so (s := s) h0 h1 q => by
    have r := Slots.outof (k0 := k0) hp h q
    by_cases e : s.pn = some k0
    · have z := Slots.so (K := K) (N := N) (L := L) (H := H) (s := ⟨s.d, s.l, s.al, none⟩) (fun _ z => nomatch z) (h1.mono fun a z => h _ a z) r
      unfold clr at z ⊢
      rw [List.map_cons, Option.map_some, if_pos e]
      exact z
    · have z := Slots.so (K := K) (N := N) (L := L) (H := H) (s := s) (fun k ek => by rw [← hp k fun z => e (by rw [ek, z])]; exact h0 k ek) (h1.mono fun a z => h _ a z) r
      unfold clr at z ⊢
      rw [List.map_cons, Option.map_some, if_neg e]
      exact z
end Ev
set_option Elab.async false
set_option linter.all false
set_option maxRecDepth 100000
namespace Ev
open PySem PySem.Spec L2
open PyProof.Rows hiding St
section
variable {X : Cx} {tg e : Expr} {fp : EvP} {t : Tg} {b : EvS} {body : List Stmt} {pos : Pos}
theorem s_forH (hc : X.calm = true) (h : PPv X e fp) (hg : PGv X tg t) (hb : PSsv X body b) (hp : PassesOwn (model X.prog X.w) X.A X.env X.xe := by exact PassesOwn.never) (hs : ∀ x, foldedSetIterable e X.env x = pure x := by intro _; rfl) : PSv X (.For tg e body [] pos) (sForH fp t b) := by
  refine imp_s (ps_for hp hc (pi_list h.run) hg hb hs) fun De σ H ⟨N, H0, ρ, L, o, sim, z, q⟩ => ?_
  unfold sForH at z
  obtain ⟨⟨j, p, d⟩, e1, z⟩ := bind_some z
  dsimp only at z
  split at z
  · rename_i ds s es
    split at z
    · rename_i hcd
      obtain ⟨hi, hnd⟩ := hcd
      generalize hk0 : topP ρ = k0 at z
      have hnp : noPin k0 ρ = true := topP_no ρ k0 (by omega)
      obtain ⟨o1, z1, z2⟩ := bind_some z
      obtain ⟨s', es', hl, hdp⟩ := h.ok ρ j p _ e1
      rw [es] at es'
      cases es'
      obtain ⟨F1, G, F2, v0, eL, ev, rp, sl⟩ := sim.sl.hide es
      have nd := sim.nd
      rw [eL, List.nodup_append, List.nodup_append] at nd
      obtain ⟨a1, ⟨a2, a3, a4⟩, a5⟩ := nd
      rw [hl] at rp
      obtain ⟨u, A, G2, B, eG, ru, w2, _⟩ := rp.way hdp a2
      obtain ⟨a, ob, vs, ds', F3, rfl, eG2, ha, hn, hr⟩ := ru.node rfl
      cases hn with
      | lst =>
        obtain ⟨a0, o0, vs0, ds0, F0, rfl, _⟩ := rp.node hnd
        have aG : a ∈ G := by rw [eG, eG2]; simp
        have gL : ∀ b ∈ G, b ∈ L := fun b m => by rw [eL]; simp [m]
        have n12 : (F1 ++ F2).Nodup := by
          rw [List.nodup_append]
          exact ⟨a1, a3, fun a m b m2 => a5 a m b (by simp [m2])⟩
        have g12 : ∀ b ∈ F1 ++ F2, b ∉ G := fun b m m2 => (List.mem_append.mp m).elim (fun y => a5 b y b (by simp [m2]) rfl) fun y => a4 b m2 b y rfl
        have sub12 : ∀ b ∈ F1 ++ F2, b ∈ L := fun b m => by
          rw [eL]
          rcases List.mem_append.mp m with m | m <;> simp [m]
        refine ⟨N, H0, ρ, L, L, j, p, _, sim.h, e1, fun u' H1 s1 at1 => ?_⟩
        have := (at1 _ ev).fn (w2.same s1)
        subst this
        refine ⟨a, rfl, ⟨vs, SqL.of (s1 _ _ ha)⟩, ?_⟩
        let N' : Nw := ⟨fun a => N a ∧ a ∉ G, fun a => N.s a ∧ a ∉ G, fun k => if k = k0 then a0 else N.p k⟩
        have hpin : ∀ k, k ≠ k0 → N'.p k = N.p k := fun k hk => if_neg hk
        have cvI : ∀ al b, SR N L al false b → SR N' (F1 ++ F2) al false b := fun al b w => by
          have hG : b ∉ G := fun m => w.2 rfl (gL b m)
          exact ⟨⟨w.1.1.imp (fun y => ⟨y, hG⟩) (fun y => ⟨y, hG⟩), fun ee => ⟨w.1.2 ee, hG⟩⟩, fun _ m => w.2 rfl (sub12 b m)⟩
        have np1 : noPin k0 (ρ.set j none) = true := by
          unfold noPin at hnp ⊢
          rw [List.all_eq_true] at hnp ⊢
          intro x hx
          rcases List.mem_or_eq_of_mem_set hx with hx | hx
          · exact hnp x hx
          · rw [hx]
        have sl1 : Slots X.K N' (F1 ++ F2) H σ (ρ.set j none) (F1 ++ F2) := sl.into hpin cvI np1
        obtain ⟨F4, sl2, f1, f2⟩ := sl1.put (s := ⟨.any, .full, false, some k0⟩) (G := []) ev (fun k ek => by cases ek; show V.ref a0 = V.ref (if k0 = k0 then a0 else N.p k0); rw [if_pos rfl]) .any
        rw [List.set_set] at sl2
        have nF4 := f2 n12 .nil (fun _ z => nomatch z)
        have F4s : ∀ b ∈ F4, b ∈ F1 ++ F2 := fun b m => (f1 b m).resolve_right (fun z => nomatch z)
        have F4L : ∀ b ∈ F4, b ∈ L := fun b m => sub12 b (F4s b m)
        have gN : ∀ b ∈ G, H b ≠ none := fun b m => sim.th b (gL b m)
        have simI : Sim X.K N' H (ρ.set j (some ⟨.any, .full, false, some k0⟩)) σ H F4 := ⟨fun b o e _ => e, fun b e => ⟨sim.nw b e, fun m => gN b m e⟩, nF4, fun b m => ⟨sim.ln b (F4L b m), g12 b (F4s b m)⟩, fun b m => sim.mu b (F4L b m), sl2.mono fun b y m => y (F4s b m)⟩
        have simI1 := simI.same s1
        have hvs := ((hr.same s1).of_imm (S' := SR N' F4 false false) (l' := .shr) hi).2
        have muW : ∀ b ∈ F4, Mut (H1 b) := simI1.mu
        have Y : Yld X.K N' F4 H1 (Itl X.K a) (ds.map fun d => (d, false)) := yld_list (fun H2 k => SqL.of (k _ _ (s1 _ _ ha) fun m => g12 a (F4s a m) aG)) muW hvs
        -- what stands behind the loop stands for us, too
        have keepG : ∀ {ρ2 : Env} {σ2 : St} {H2 : Hp} {L2 : List Addr}, Sim X.K N' H ρ2 σ2 H2 L2 → ∀ b o, H b = some o → (b ∈ G ∨ ¬ N b) → H2 b = some o := fun s2 b o e m => s2.kp b o e fun y => m.elim y.2 fun m => m y.1
        refine for_run simI1 Y z1 ?_
        have cvO : ∀ {L2 : List Addr}, ∀ al b, SR N' L2 al false b → SR N L2 al false b := fun al b w => ⟨⟨w.1.1.imp And.left And.left, fun ee => (w.1.2 ee).1⟩, w.2⟩
        cases o1 with
        | bk ρ2 => cases z2
        | ct ρ2 => cases z2
        | nx ρ2 =>
          have z2 : (match ρ2[j]? with
            | some (some s2) => if s2.pn = some k0 then some (Out.nx ((clr k0 ρ2).set j (some s))) else none
            | _ => none) = some o := z2
          split at z2
          · rename_i s2 es2
            split at z2
            · rename_i hpk
              cases z2
              intro σ2 H2 L2 sim2 fr2
              obtain ⟨v2, _, ev2, _, _, hp2⟩ := sim2.sl.get es2
              have hv2 := hp2 k0 hpk
              have : N'.p k0 = a0 := if_pos rfl
              rw [this] at hv2
              subst hv2
              have L2G : ∀ b ∈ L2, b ∉ G := fun b m => (sim2.ln b m).2
              have slO : Slots X.K N (L2 ++ G) H2 σ2 (clr k0 ρ2) L2 := sim2.sl.outof hpin fun al b w => ⟨⟨w.1.1.imp And.left And.left, fun ee => (w.1.2 ee).1⟩, fun _ m => (List.mem_append.mp m).elim (w.2 rfl) (w.1.1.elim And.right And.right)⟩
              have f4G : ∀ b ∈ G, b ∉ F4 := fun b m m2 => g12 b (F4s b m2) m
              have kp2 : ∀ b o, H b = some o → b ∉ F4 → H2 b = some o := fun b o e n => fr2.1 b o (s1 b o e) n
              have newL : ∀ b ∈ L2, b ∈ L ∨ H b = none := fun b m => (fr2.2.2 b m).imp (F4L b) s1.free
              have rpO : Rp X.K (SR N (L2 ++ G) s.al false) H2 .full (.ref a0) s.d G := (rp.trk.keep (H' := H2) fun b o e m => kp2 b o e fun m4 => by
                rcases m with m | m | ⟨xs, rfl⟩ | ⟨o', u, rfl⟩
                · exact m.1.2 rfl (F4L b m4)
                · exact f4G b m m4
                · have := simI.mu b m4; rw [e] at this; exact this
                · have := simI.mu b m4; rw [e] at this; exact this).mono fun b w => ⟨w.1.1, fun _ m => (List.mem_append.mp m).elim (fun m => (newL b m).elim (w.1.2 rfl) w.2) fun m => w.1.2 rfl (gL b m)⟩
              obtain ⟨v9, _, ev9, _, _, pin9⟩ := sim.sl.get es
              rw [ev] at ev9
              cases ev9
              obtain ⟨F6, sl6, g1, g2⟩ := slO.put (s := s) ev2 pin9 (by rw [hl]; exact rpO)
              have n6 := g2 sim2.nd a2 fun b m m2 => L2G b m2 m
              refine q σ2 H2 F6 ⟨fun b o e n => sim2.kp b o (sim.kp b o e n) fun y => n y.1, fun b e => (sim2.nw b e).1, n6, fun b m => (g1 b m).elim (fun m => (sim2.ln b m).1) fun m => sim.ln b (gL b m), fun b m => ?_, sl6.mono fun b y m => y ((g1 b m).elim (List.mem_append_left _) (List.mem_append_right _))⟩ ⟨fun b o e n => kp2 b o e fun m => n (F4L b m), fun b e => (fr2.2.1 b e).imp s1.free (F4L b), fun b m => (g1 b m).elim (newL b) fun m => .inl (gL b m)⟩
              rcases g1 b m with m | m
              · exact sim2.mu b m
              · obtain ⟨o, eo⟩ : ∃ o, H b = some o := Option.ne_none_iff_exists'.mp (gN b m)
                rw [kp2 b o eo (f4G b m), ← eo]
                exact sim.mu b (gL b m)
            · cases z2
          · cases z2
        | rt ρ2 d2 l2 al2 =>
          have z2 : some (Out.rt (clr k0 ρ2) d2 l2 al2) = some o := z2
          cases z2
          intro v σ2 H2 L2 F5 sim2 kp2 rp2
          refine q v σ2 H2 L2 F5 ⟨fun b o e n => ?_, fun b e => (sim2.nw b e).1, sim2.nd, fun b m => (sim2.ln b m).1, sim2.mu, sim2.sl.outof hpin cvO, sim2.sub, sim2.ndl⟩ (fun b o e n => kp2 b o (s1 b o e) fun m => n (F4L b m)) (rp2.mono fun b w => ⟨⟨w.1.1.imp And.left And.left, fun ee => (w.1.2 ee).1⟩, w.2⟩)
          exact sim2.kp b o (sim.kp b o e n) fun y => n y.1
    · cases z
  · cases z
end
end Ev
set_option Elab.async false
set_option linter.all false
set_option maxRecDepth 100000
namespace Ev
open PySem PySem.Spec L2
open PyProof.Rows hiding St
abbrev DctO (u : HO) : Prop := (∃ kv, u = .dK kv) ∨ ∃ kv, u = .dT kv
theorem DctO.mu {u : HO} (h : DctO u) : Mut (some u) := by
  rcases h with ⟨kv, rfl⟩ | ⟨kv, rfl⟩ <;> trivial
section
variable {K : PySem.W.Frag} {S : Addr → Prop} {H : Hp} {x : Addr} {od : Obj} {u : HO}
mutual
theorem Rp.free (hx : H x = some (.frz od u)) (hd : DctO u) : ∀ {l : Lv} {v : V} {d : D} {F : List Addr}, Rp K S H l v d F → (∀ a ∈ F, a ≠ x) → Rp K S (upd H x u) l v d F
  | _, _, _, _, .any, _ => .any
  | _, _, _, _, .exc, _ => .exc
  | _, _, _, _, .sh h1, _ => .sh (Rp.free hx hd h1 (fun _ z => nomatch z))
  | _, _, _, _, .non, _ => .non
  | _, _, _, _, .bl, _ => .bl
  | _, _, _, _, .int, _ => .int
  | _, _, _, _, .str, _ => .str
  | _, _, _, _, .tup h1 h2, hF => .tup (by rw [upd_ne (fun y => by rw [y, hx] at h1; cases h1)]; exact h1) (Rps.free hx hd h2 hF)
  | _, _, _, _, .fl h1 h3, hF => .fl (by
      rcases h1 with ⟨o, h1⟩ | h1
      · exact .inl ⟨o, by rw [upd_ne (fun y => by rw [y, hx] at h1; cases h1; rcases hd with ⟨_, e⟩ | ⟨_, e⟩ <;> cases e)]; exact h1⟩
      · exact .inr h1) (Rps.free hx hd h3 (fun _ z => nomatch z))
  | _, _, _, _, .nd0 (a := a) h0 h1 h2 h3, hF => .nd0 h0 (by
      by_cases e : a = x
      · subst e
        rcases h1 with h1 | ⟨⟨o', h1⟩, _⟩
        · rw [hx] at h1
          cases h1
          cases h0
        · rw [hx] at h1
          cases h1
          exact .inl upd_same
      · exact h1.imp fun _ q => by rw [upd_ne e]; exact q) h2 (Rps.free hx hd h3 (fun _ z => nomatch z))
  | _, _, _, _, .nd1 h0 h1 h2 h3, hF => .nd1 h0 h1 (by rw [upd_ne (hF _ List.mem_cons_self)]; exact h2) (Rps.free hx hd h3 (fun a z => hF a (List.mem_cons_of_mem _ z)))
theorem Rps.free (hx : H x = some (.frz od u)) (hd : DctO u) : ∀ {l : Lv} {vs : List V} {ds : List D} {F : List Addr}, Rps K S H l vs ds F → (∀ a ∈ F, a ≠ x) → Rps K S (upd H x u) l vs ds F
  | _, _, _, _, .nil, _ => .nil
  | _, _, _, _, .cons h1 h2, hF => .cons (Rp.free hx hd h1 fun a z => hF a (List.mem_append_left _ z)) (Rps.free hx hd h2 fun a z => hF a (List.mem_append_right _ z))
end
variable {N : Nw} {H0 : Hp} {ρ : Env} {σ : St} {L W : List Addr}
theorem Slots.free {L0 : List Addr} (hx : H x = some (.frz od u)) (hd : DctO u) : ∀ {σ : St} {ρ : Env} {F : List Addr}, Slots K N L0 H σ ρ F → (∀ a ∈ F, a ≠ x) → Slots K N L0 (upd H x u) σ ρ F
  | _, _, _, .nil, _ => .nil
  | _, _, _, .no h, k => .no (Slots.free hx hd h k)
  | _, _, _, .so h0 h1 h2, k => .so h0 (h1.free hx hd fun a z => k a (List.mem_append_left _ z)) (Slots.free hx hd h2 fun a z => k a (List.mem_append_right _ z))
theorem SimH.free {ρ' : Env} {σ' : St} {H' : Hp} {L' W : List Addr} (s : Sim K N H0 ρ σ H L) (hu : H x = some u) (hd : DctO u) (s' : SimH K N (upd H x (.frz od u)) ρ' σ' H' L' W) (hx : H' x = some (.frz od u)) : SimH K N H0 ρ' σ' (upd H' x u) L' W := by
  have hw : ∀ a ∈ W, a ≠ x := fun a m e => by
    have := s'.mu a m
    rw [e, hx] at this
    exact this
  refine ⟨fun b o e n => ?_, fun b e => s'.nw b ?_, s'.nd, s'.ln, fun a m => ?_, s'.sl.free hx hd fun a m => hw a (s'.sub a m), s'.sub, s'.ndl⟩
  · have h1 := s.kp b o e n
    by_cases q : b = x
    · subst q; rw [upd_same]; rw [hu] at h1; exact h1
    · rw [upd_ne q]; exact s'.kp b o (by rw [upd_ne q]; exact h1) n
  · by_cases q : b = x
    · subst q; rw [upd_same] at e; cases e
    · rw [upd_ne q] at e; exact e
  · rw [upd_ne (hw a m)]; exact s'.mu a m
theorem frm_free {H' : Hp} {L' : List Addr} (hu : H x = some u) (k : Frm (upd H x (.frz od u)) L H' L') : Frm H L (upd H' x u) L' := by
  refine ⟨fun b o e n => ?_, fun b e => ?_, fun b m => (k.2.2 b m).imp id fun e => ?_⟩
  · by_cases q : b = x
    · subst q; rw [upd_same]; rw [hu] at e; exact e
    · rw [upd_ne q]; exact k.1 b o (by rw [upd_ne q]; exact e) n
  · by_cases q : b = x
    · subst q; rw [upd_same] at e; cases e
    · rw [upd_ne q] at e
      exact (k.2.1 b e).imp (fun z => by rw [upd_ne q] at z; exact z) id
  · by_cases q : b = x
    · subst q; rw [upd_same] at e; cases e
    · rw [upd_ne q] at e; exact e
theorem PostS.free {o : Out} {D : Ends} (s : Sim K N H0 ρ σ H L) (hu : H x = some u) (hd : DctO u) (hn : x ∉ L) (q : PostS K N H0 H L o D) :
    PostS K N (upd H x (.frz od u)) (upd H x (.frz od u)) L o ⟨fun σ' H' => H' x = some (.frz od u) ∧ D.nx σ' (upd H' x u), fun v H' => H' x = some (.frz od u) ∧ D.rt v (upd H' x u), fun σ' H' => H' x = some (.frz od u) ∧ D.bk σ' (upd H' x u), fun σ' H' => H' x = some (.frz od u) ∧ D.ct σ' (upd H' x u)⟩ := by
  have go : ∀ {ρ' : Env} {σ' : St} {H' : Hp} {L' : List Addr}, Sim K N (upd H x (.frz od u)) ρ' σ' H' L' → Frm (upd H x (.frz od u)) L H' L' → H' x = some (.frz od u) ∧ Sim K N H0 ρ' σ' (upd H' x u) L' ∧ Frm H L (upd H' x u) L' := fun s' k => by
    have hx := k.1 x _ upd_same hn
    exact ⟨hx, (SimH.free s hu hd s'.h hx).sim, frm_free hu k⟩
  cases o with
  | nx ρ' => exact fun σ' H' L' s' k => let ⟨a, b, c⟩ := go s' k; ⟨a, q _ _ _ b c⟩
  | bk ρ' => exact fun σ' H' L' s' k => let ⟨a, b, c⟩ := go s' k; ⟨a, q _ _ _ b c⟩
  | ct ρ' => exact fun σ' H' L' s' k => let ⟨a, b, c⟩ := go s' k; ⟨a, q _ _ _ b c⟩
  | rt ρ' d l al =>
    intro v σ' H' L' F s' k rp
    have hx := k x _ upd_same hn
    have hw : ∀ a ∈ L' ++ F, a ≠ x := fun a m e => by
      have := s'.mu a m
      rw [e, hx] at this
      exact this
    refine ⟨hx, q v σ' _ L' F (SimH.free s hu hd s' hx) (fun b o e n => ?_) (rp.free hx hd fun a m => hw a (List.mem_append_right _ m))⟩
    by_cases e2 : b = x
    · subst e2; rw [upd_same]; rw [hu] at e; exact e
    · rw [upd_ne e2]; exact k b o (by rw [upd_ne e2]; exact e) n
end
end Ev
set_option Elab.async false
set_option linter.all false
set_option maxRecDepth 100000
namespace Ev
open PySem PySem.Spec L2
open PyProof.Rows hiding St
section
variable {K : PySem.W.Frag} {H : Hp} {x : Addr} {od : Obj} {u : HO} {N : Nw} {H0 : Hp} {ρ : Env} {σ : St} {L W : List Addr}
theorem Post.free {r : Rv} {Q : VK} (hu : H x = some u) (hd : DctO u) (q : Post K N W H r Q) : Post K N W (upd H x (.frz od u)) r fun v H' => H' x = some (.frz od u) ∧ Q v (upd H' x u) := fun v H1 F s n nd rp => by
  have hx := s x _ upd_same
  have nF : ∀ a ∈ F, H a = none ∧ a ≠ x := fun a m => by
    have := n a m
    by_cases e : a = x
    · subst e; rw [upd_same] at this; cases this
    · rw [upd_ne e] at this; exact ⟨this, e⟩
  refine ⟨hx, q v _ F (fun b o e => ?_) (fun a m => (nF a m).1) nd (rp.free hx hd fun a m => (nF a m).2)⟩
  by_cases e2 : b = x
  · subst e2; rw [upd_same]; rw [hu] at e; exact e
  · rw [upd_ne e2]; exact s b o (by rw [upd_ne e2]; exact e)
end
end Ev
set_option Elab.async false
set_option linter.all false
set_option maxRecDepth 100000
namespace Ev
open PySem PySem.Spec L2
open PyProof.Rows hiding St
end Ev
set_option Elab.async false
set_option linter.all false
set_option maxRecDepth 100000
namespace Ev
open PySem PySem.Spec L2
open PyProof.Rows hiding St
section
variable {κ : Type} [DecidableEq κ]
theorem key_at : ∀ {kv : List (κ × V)} {kd : List (κ × D)} {k : κ} {n : Nat}, kv.map (·.1) = kd.map (·.1) → (kd.findIdx? fun q => decide (q.1 = k)) = some n → ∃ v, valV kv k = some v ∧ (kv.map (·.2))[n]? = some v
  | [], [], k, n, _, h => by simp at h
  | [], _ :: _, k, n, e, _ => by cases e
  | _ :: _, [], k, n, e, _ => by cases e
  | p :: kv, p' :: kd, k, n, e, h => by
    have e1 : p.1 = p'.1 := by have := congrArg List.head? e; simpa using this
    have e2 : kv.map (·.1) = kd.map (·.1) := by have := congrArg List.tail e; simpa using this
    rw [List.findIdx?_cons] at h
    by_cases hk : p.1 = k
    · have hk' : p'.1 = k := e1.symm.trans hk
      simp [hk'] at h
      subst h
      exact ⟨p.2, valV_pos hk, rfl⟩
    · have hk' : ¬ p'.1 = k := fun z => hk (e1.trans z)
      simp [hk'] at h
      obtain ⟨j', hj, rfl⟩ := h
      obtain ⟨v, q1, q2⟩ := key_at e2 (by simpa using hj)
      exact ⟨v, by rw [valV_neg hk]; exact q1, by simpa using q2⟩
theorem key_no : ∀ {kd : List (κ × D)} {k : κ}, (kd.findIdx? fun q => decide (q.1 = k)) = none → dhas kd k = false
  | kd, k, h => by
    unfold dhas
    rw [List.findIdx?_eq_none_iff] at h
    rw [List.any_eq_false]
    intro x hx
    have := h x hx
    simpa using this
end
def sda (kd : List (Key × D)) (k : Key) (d : D) : Option (List (Key × D)) := match kd.findIdx? (fun q => decide (q.1 = k)) with
  | some n => match ((kd.map fun q => q.2)[n]? : Option D) with
    | some (.lst ds) => if ds.length ≤ 1000000 then some (setSnd kd n (.lst (ds ++ [d]))) else none
    | _ => none
  | none => some (kd ++ [(k, .lst [d])])
def sSDA (i : Nat) (fk : EvE) (j : Nat) : EvS := fun ρ => match ρ[i]? with
  | some (some s) => match s.d with
    | .dk kd => (fk ρ).bind fun y => (keyOf y.d).bind fun k => match ρ[j]? with
      | some (some r) => if s.l = .full ∧ imm r.d = true ∧ kd.length < 1000000 then (sda kd k r.d).map fun kd' => .nx (ρ.set i (some ⟨.dk kd', .full, s.al || false, s.pn⟩)) else none
      | _ => none
    | _ => none
  | _ => none
section
variable {X : Cx} {e : Expr} {fk : EvE} {pos apos cpos npos apos2 cpos2 npos2 lpos : Pos} {x x2 : Str}
theorem s_sda (i j : Nat) (hk : PEv X e fk)
    (hN : X.N[i]? = some x := by rfl) (hvs : Vis X.env.scope x := by first | exact Or.inl rfl | exact Or.inr (Or.inl rfl) | exact Or.inr (Or.inr rfl)) (hd : (x == ("__debug__" : Str)) = false := by decide) (hcd : (x == ("__classdict__" : Str)) = false := by decide)
    (hN2 : X.N[j]? = some x2 := by rfl) (hvs2 : Vis X.env.scope x2 := by first | exact Or.inl rfl | exact Or.inr (Or.inl rfl) | exact Or.inr (Or.inr rfl)) (hd2 : (x2 == ("__debug__" : Str)) = false := by decide) (hcd2 : (x2 == ("__classdict__" : Str)) = false := by decide)
    (m : M2 X (.Name x npos) "setdefault" apos e (.List [] lpos) cpos := by exact ⟨rfl, rfl, rfl, rfl⟩)
    (hsw : swapsWith (.Call (.Attribute (.Call (.Attribute (.Name x npos) "setdefault" apos) [e, .List [] lpos] [] cpos) "append" apos2) [.Name x2 npos2] [] cpos2) none pos.line X.env = pure false := by rfl)
    (hbase : attributeBase (.Call (.Attribute (.Name x npos) "setdefault" apos) [e, .List [] lpos] [] cpos) "append" X.env (eval (.Call (.Attribute (.Name x npos) "setdefault" apos) [e, .List [] lpos] [] cpos) X.env) = eval (.Call (.Attribute (.Name x npos) "setdefault" apos) [e, .List [] lpos] [] cpos) X.env := by rfl)
    (hfew : ((backTo cpos2 (starEach [.Name x2 npos2] X.env)).all (fun x => !x.1) && (backToKw cpos2 (keywordEach [] X.env)).all (fun x => x.1.isSome)
      && decide ([Expr.Name x2 npos2].length + ([] : List Keyword).length + (if ([] : List Keyword).isEmpty then 0 else 1) < 30)) = true := by rfl)
    (hline : (apos2.endLine == cpos2.line) = true := by rfl) (hs : starEach [.Name x2 npos2] X.env = (false, eval (.Name x2 npos2) X.env) :: starEach [] X.env := by rfl) (hplain : (backTo cpos2 (starEach [] X.env)).any (·.1) = false := by rfl) :
    PSv X (.Expr (.Call (.Attribute (.Call (.Attribute (.Name x npos) "setdefault" apos) [e, .List [] lpos] [] cpos) "append" apos2) [.Name x2 npos2] [] cpos2) pos) (sSDA i fk j) := by
  obtain ⟨r0, hm, hr⟩ := (l_app (X := X)).ok
  refine imp_s (ps_expr (pe_bm PySem.F.plainAttrs_list PySem.F.slot_list_append PySem.F.type_list_append hm (pe_dsetd (pe_var hN hvs hd hcd) hk (pe_lst pa_nil) m) (pa_cons (pe_var hN2 hvs2 hd2 hcd2) pa_nil hs) hbase hfew hline hs hplain) hsw) fun D σ H ⟨N, H0, ρ, L, o, sim, z, q⟩ => ?_
  unfold sSDA at z
  split at z
  · rename_i s es
    split at z
    · rename_i kd hd
      obtain ⟨y, e1, z⟩ := bind_some z
      obtain ⟨k, e3, z⟩ := bind_some z
      split at z
      · rename_i r er
        split at z
        · rename_i hc
          obtain ⟨hl, hi, hlen⟩ := hc
          obtain ⟨kd', e4, z⟩ := Option.map_eq_some_iff.mp z
          subst z
          obtain ⟨v0, a, o, vs, ds, F, ev, w2, ha, hnd, ⟨S0, hx⟩, go⟩ := sim.store (p := []) (e := .dk kd) es hl (by rw [← hd]; rfl) rfl
          cases w2
          obtain ⟨vj, Gj, evj, rpj, _⟩ := sim.sl.get er
          have rj0 : ∀ {S : Addr → Prop} {H' : Hp} {l' : Lv}, Same H H' → Rp X.K S H' l' vj r.d [] := fun sm => ((rpj.same sm).of_imm hi).2
          cases hnd with
          | dk ek =>
            rename_i kv
            refine ⟨.ref a, ev, a, rfl, .inl ⟨kv, .inl ha⟩, one sim.h e1 fun ky H1 T s1 n1 d1 p1 => ?_⟩
            have hkk := p1.key e3
            subst hkk
            refine ⟨Nat.zero_le _, fun p hp => ?_⟩
            have spp : Same H1 (upd H1 p (.lst [])) := fun b u eb => by
              rw [upd_ne (ne_of_none eb hp)]
              exact eb
            have hap : a ≠ p := fun z => by
              have := s1 _ _ ha
              rw [z, hp] at this
              cases this
            have sall := s1.trans spp
            have hlen' : kv.length < sizeLine := by
              have := congrArg List.length ek
              rw [List.length_map, List.length_map] at this
              rw [this, sizeLine_eq]
              omega
            have hh := has_keys ek k
            refine ⟨kv, k, sall _ _ ha, rfl, hlen', fun v' hv' => ?_, fun hn => ?_⟩
            · -- there
              unfold sda at e4
              split at e4
              · rename_i n en
                split at e4
                · rename_i ds' eds
                  split at e4
                  · rename_i hlds
                    cases e4
                    obtain ⟨v1, k1, k2⟩ := key_at ek en
                    rw [hv'] at k1
                    cases k1
                    have hd' : dAt s.d [n] = some (.lst ds') := by
                      rw [hd]
                      show (((kd.map (·.2))[n]?).bind fun e => dAt e []) = _
                      rw [eds]
                      rfl
                    obtain ⟨v2, a2, o2, vs2, ds2, F2, ev2, w3, ha2, hnd2, ⟨S2, hx2⟩, go2⟩ := sim.store (p := [n]) (e := .lst ds') es hl hd' rfl
                    rw [ev] at ev2
                    cases ev2
                    cases w3 with
                    | cons g1 g2 g3 =>
                      rw [ha] at g1
                      cases g1
                      have g2 : (kv.map (·.2))[n]? = _ := g2
                      rw [k2] at g2
                      cases g2
                      cases g3
                      cases hnd2
                      have hlv := hx2.len
                      refine ⟨.inl ⟨rfl, vs2, SqL.of (sall _ _ ha2)⟩, vj, evj, ?_⟩
                      refine hr _ a2 vs2 [vj] (vs2 ++ [vj]) _ (sall _ _ ha2) (by rw [hlv]; exact hlds) rfl ?_
                      obtain ⟨L', sim', fr⟩ := go2 (H1 := upd H1 p (.lst [])) (w := vj) (dw := r.d) (al := false) (T := []) (e' := .lst (ds' ++ [r.d])) (o' := .lst (vs2 ++ [vj])) sall (fun _ z => nomatch z) .nil (rj0 sall) trivial (fun r1 r2 nd => by
                        rw [List.append_nil] at nd
                        refine ⟨_, _, F2, .lst, ?_, fun b z => by simpa using z, nd⟩
                        have := Rps.app r1 (Rps.cons (F := []) (G := []) r2 .nil)
                        rw [List.append_nil, List.append_nil] at this
                        exact this)
                      have hset : dSet s.d [n] (.lst (ds' ++ [r.d])) = .dk (setSnd kd n (.lst (ds' ++ [r.d]))) := by
                        rw [hd]
                        unfold dSet
                        show (match (kd.map (·.2))[n]? with | some e => _ | none => _) = _
                        rw [eds]
                        rfl
                      rw [hset] at sim'
                      exact q _ _ L' sim' fr
                  · cases e4
                · cases e4
              · rename_i en
                have := key_no en
                rw [← hh, hv'] at this
                cases this
            · -- not there
              rw [hn] at hh
              have hh : dhas kd k = false := hh.symm
              have e5 : kd' = kd ++ [(k, .lst [r.d])] := by
                unfold sda at e4
                split at e4
                · rename_i n en
                  obtain ⟨v1, k1, k2⟩ := key_at ek en
                  rw [hn] at k1
                  cases k1
                · cases e4
                  rfl
              have hput : putK kv k (V.ref p) = kv ++ [(k, V.ref p)] := by
                unfold putK
                rw [if_neg]
                rw [valV_any, hn]
                exact Bool.false_ne_true
              refine ⟨.inl ⟨rfl, [], SqL.of (by rw [upd_ne (Ne.symm hap), upd_same])⟩, vj, evj, ?_⟩
              refine hr _ p [] [vj] [vj] _ (by rw [upd_ne (Ne.symm hap), upd_same]) (Nat.zero_le _) rfl ?_
              have e6 : upd (upd (upd H1 p (.lst [])) a (.dK (putK kv k (.ref p)))) p (.lst [vj]) = upd (upd H1 p (.lst [vj])) a (.dK (putK kv k (.ref p))) := by
                funext b
                by_cases hb : b = p
                · subst hb
                  rw [upd_same, upd_ne (Ne.symm hap), upd_same]
                · rw [upd_ne hb]
                  by_cases hb2 : b = a
                  · subst hb2
                    rw [upd_same, upd_same]
                  · rw [upd_ne hb2, upd_ne hb2, upd_ne hb, upd_ne hb]
              rw [e6]
              have sH : Same H (upd H1 p (.lst [vj])) := fun b u eb => by
                have := s1 b u eb
                rw [upd_ne (ne_of_none this hp)]
                exact this
              obtain ⟨L', sim', fr⟩ := go (H1 := upd H1 p (.lst [vj])) (w := .ref p) (dw := .lst [r.d]) (al := false) (T := [p]) (e' := .dk (kd ++ [(k, .lst [r.d])])) (o' := .dK (putK kv k (.ref p))) sH
                (fun b z => by rw [List.mem_singleton.mp z]; exact s1.free hp) nodup1 (.nd1 (fun z => nomatch z) .lst upd_same (by
                  have := Rps.cons (F := []) (G := []) (rj0 (S := fun b => SR N L false false b ∧ b ∉ [p]) (l' := .full) sH) .nil
                  exact this)) trivial (fun r1 r2 nd => by
                  have e7 : (putK kv k (V.ref p)).map (·.1) = (kd ++ [(k, Ev.D.lst [r.d])]).map (·.1) := by
                    rw [hput, List.map_append, List.map_append, ek]
                    rfl
                  refine ⟨_, _, F ++ [p], .dk e7, ?_, fun b z => z, nd⟩
                  rw [hput, List.map_append, List.map_append]
                  have := Rps.app r1 (Rps.cons (G := []) r2 .nil)
                  rw [List.append_nil] at this
                  exact this)
              subst e5
              rw [hd] at sim'
              exact q _ _ L' sim' fr
        · cases z
      · cases z
    · cases z
  · cases z
end
end Ev
set_option Elab.async false
set_option linter.all false
set_option maxRecDepth 100000
namespace Ev
open PySem PySem.Spec L2
open PyProof.Rows hiding St
section
variable {K : PySem.W.Frag} {S : Addr → Prop} {H : Hp} {l : Lv}
theorem Rps.erase : ∀ {vs : List V} {ds : List D} {F : List Addr} (j : Nat), Rps K S H l vs ds F → F.Nodup → ∃ F', Rps K S H l (vs.eraseIdx j) (ds.eraseIdx j) F' ∧ (∀ b ∈ F', b ∈ F) ∧ F'.Nodup
  | _, _, _, j, .nil, nd => ⟨[], .nil, fun _ z => z, nd⟩
  | _, _, _, 0, .cons (F := F) (G := G) h1 h2, nd => ⟨G, h2, fun b z => List.mem_append_right _ z, (List.nodup_append.mp nd).2.1⟩
  | _, _, _, j + 1, .cons (F := F) (G := G) h1 h2, nd => by
    rw [List.nodup_append] at nd
    obtain ⟨F', r, sub, nd'⟩ := Rps.erase j h2 nd.2.1
    refine ⟨F ++ F', .cons h1 r, fun b z => ?_, ?_⟩
    · rcases List.mem_append.mp z with z | z
      · exact List.mem_append_left _ z
      · exact List.mem_append_right _ (sub b z)
    · rw [List.nodup_append]
      exact ⟨nd.1, nd', fun b hb c hc y => nd.2.2 b hb c (sub c hc) y⟩
end
end Ev
set_option Elab.async false
set_option linter.all false
set_option maxRecDepth 100000
namespace Ev
open PySem PySem.Spec L2
open PyProof.Rows hiding St
def sExtI (i : Nat) (fe : EvE) : EvS := fun ρ => match ρ[i]? with
  | some (some s) => match s.d with
    | .lst ds => (fe ρ).bind fun y => match y.d with
      | .lst es => if s.l ≠ .shr ∧ ds.length + es.length ≤ 1000000 ∧ immAll es = true then some (.nx (ρ.set i (some ⟨.lst (ds ++ es), keepLv s.l .full, s.al || false, s.pn⟩))) else none
      | _ => none
    | _ => none
  | _ => none
section
variable {X : Cx} {e : Expr} {fe : EvE} {pos apos cpos npos : Pos} {x : Str}
theorem s_extI (i : Nat) (hk : PEv X e fe)
    (hN : X.N[i]? = some x := by rfl) (hvs : Vis X.env.scope x := by first | exact Or.inl rfl | exact Or.inr (Or.inl rfl) | exact Or.inr (Or.inr rfl)) (hd : (x == ("__debug__" : Str)) = false := by decide) (hcd : (x == ("__classdict__" : Str)) = false := by decide)
    (hsw : swapsWith (.Call (.Attribute (.Name x npos) "extend" apos) [e] [] cpos) none pos.line X.env = pure false := by rfl)
    (hbase : attributeBase (.Name x npos) "extend" X.env (eval (.Name x npos) X.env) = eval (.Name x npos) X.env := by rfl)
    (hfew : ((backTo cpos (starEach [e] X.env)).all (fun x => !x.1) && (backToKw cpos (keywordEach [] X.env)).all (fun x => x.1.isSome)
      && decide ([e].length + ([] : List Keyword).length + (if ([] : List Keyword).isEmpty then 0 else 1) < 30)) = true := by rfl)
    (hline : (apos.endLine == cpos.line) = true := by rfl) (hs : starEach [e] X.env = (false, eval e X.env) :: starEach [] X.env := by rfl) (hplain : (backTo cpos (starEach [] X.env)).any (·.1) = false := by rfl) :
    PSv X (.Expr (.Call (.Attribute (.Name x npos) "extend" apos) [e] [] cpos) pos) (sExtI i fe) := by
  refine imp_s (ps_expr (pe_bm PySem.F.plainAttrs_list PySem.F.slot_list_extend PySem.F.type_list_extend mt_extend (pe_var hN hvs hd hcd) (pa_cons hk pa_nil hs) hbase hfew hline hs hplain) hsw) fun D σ H ⟨N, H0, ρ, L, o, sim, z, q⟩ => ?_
  unfold sExtI at z
  split at z
  · rename_i s es
    split at z
    · rename_i ds hd
      obtain ⟨y, e1, z⟩ := bind_some z
      split at z
      · rename_i es' hy
        split at z
        · rename_i hc
          cases z
          obtain ⟨sd, sl, sa, sp⟩ := s
          dsimp only at hd hc
          subst hd
          obtain ⟨a, vs, ev, ha, hlen, go⟩ := sim.relist es hc.1
          refine ⟨.ref a, ev, .inl ⟨rfl, vs, SqL.of ha⟩, one sim.h e1 fun ky H1 T s1 n1 d1 p1 => ?_⟩
          rw [hy] at p1
          obtain ⟨a2, vs2, G2, rfl, h1, h2, _⟩ := p1.lst_inv
          have hlen2 := h2.len
          have himm := hc.2.2
          refine ⟨a, a2, vs, vs2, rfl, rfl, s1 _ _ ha, h1, by rw [hlen, hlen2, sizeLine_eq]; have := hc.2.1; omega, ?_⟩
          obtain ⟨L', sim', fr⟩ := go (H1 := H1) (us := []) (rs := []) (T := []) (ws := vs ++ vs2) (es := ds ++ es') (fun r1 r2 nd => by
            cases r2
            rw [List.append_nil] at nd
            have := Rps.app r1 (Rps.of_imm h2 himm).2
            rw [List.append_nil] at this
            exact ⟨_, this, fun b z => by simpa using z, nd⟩) s1 (fun _ z => nomatch z) .nil .nil rfl
          exact q _ _ L' sim' fr
        · cases z
      · cases z
    · cases z
  · cases z
end
end Ev
namespace Ev
open PySem
open PySem.SeqAt PySem.MeetsSeq
open PySem.AutoSeq1 (wpAny_loadPart')
theorem rem_walk (at_ : Addr) (its : Array Value) (cnt : Nat) (w0 : Value) (p : Value → Bool) (j : Nat) (inb : j < its.size) (yes : p its[j] = true) (small : its.size ≤ sizeLine) :
    ∀ (left i : Nat), j - i = left → i ≤ j → (∀ m (hm : m < its.size), i ≤ m → m < j → p its[m] = false) →
      Meets (Builtin.«list.remove.loop» ⟨[.ref at_, w0, rawInt i], []⟩) (fun A R s =>
        s.heap.get? at_ = some { cls := .type "list", dict := none, data := .seq its cnt, slots := #[] } ∧ (∀ y, y ∈ its → EqAt A.in1 s y w0 (p y)) ∧
          R (.ok (.ret .none)) { s with heap := s.heap.update at_ (Obj.mapSeq fun xs => xs.eraseIdxIfInBounds j) })
  | 0, i, hk, hij, hno => fun prog w A R s h => by
    obtain ⟨hp, g, d, tk, os⟩ := s
    obtain ⟨hl, he, hR⟩ := h
    obtain rfl : i = j := by omega
    wp_walk using wpAny_loadPart' hl
    have here : its[((i : Nat) : Int).toNat]? = some its[i] := by simp [inb]
    rw [here]
    refine wpAny_bind (he _ (Array.getElem_mem inb) prog w _ _ ?_)
    rw [yes]
    have fits : (its.eraseIdxIfInBounds i).size ≤ sizeLine + 1 := Nat.le_trans (size_erased its _) (Nat.le_succ_of_le small)
    wp_walk using (wpAny_updateSeq hl rfl (hz := small) (_hz' := fits)), wpAny_loadPart' hl
    simpa using hR
  | left + 1, i, hk, hij, hno => fun prog w A R s h => by
    obtain ⟨hp, g, d, tk, os⟩ := s
    obtain ⟨hl, he, hR⟩ := h
    have inb2 : i < its.size := by omega
    wp_walk using wpAny_loadPart' hl
    have here : its[((i : Nat) : Int).toNat]? = some its[i] := by simp [inb2]
    have next : ((i : Int) + 1) = ((i + 1 : Nat) : Int) := by push_cast; rfl
    rw [here]
    refine wpAny_bind (he _ (Array.getElem_mem inb2) prog w _ _ ?_)
    rw [hno i inb2 (Nat.le_refl _) (by omega)]
    wp_walk
    rw [next]
    exact ⟨plainId_quiet plain_remove_loop _, codeAny_builtin entry_remove_loop (by
      rw [Around.under_plainId plain_remove_loop]
      exact rem_walk at_ its cnt w0 p j inb yes small left (i + 1) (by omega) (by omega) (fun m hm q1 q2 => hno m hm (by omega) q2) prog w A R _ ⟨hl, he, hR⟩)⟩
theorem rem_meets (at_ : Addr) (its : Array Value) (cnt : Nat) (w0 : Value) (p : Value → Bool) (j : Nat) (inb : j < its.size) (yes : p its[j] = true) (small : its.size ≤ sizeLine) (hno : ∀ m (hm : m < its.size), m < j → p its[m] = false) :
    Meets (Builtin.«list.remove» ⟨[.ref at_, w0], []⟩) (fun A R s =>
        s.heap.get? at_ = some { cls := .type "list", dict := none, data := .seq its cnt, slots := #[] } ∧ (∀ y, y ∈ its → EqAt A.in1 s y w0 (p y)) ∧
          R (.ok (.ret .none)) { s with heap := s.heap.update at_ (Obj.mapSeq fun xs => xs.eraseIdxIfInBounds j) }) := fun prog w A R s h => by
  obtain ⟨hp, g, d, tk, os⟩ := s
  obtain ⟨hl, he, hR⟩ := h
  wp_walk using wpAny_loadPart' hl
  exact ⟨plainId_quiet plain_remove_loop _, codeAny_builtin entry_remove_loop (by
    rw [Around.under_plainId plain_remove_loop]
    exact rem_walk at_ its cnt w0 p j inb yes small _ 0 rfl (Nat.zero_le _) (fun m hm _ q2 => hno m hm q2) prog w A R _ ⟨hl, he, hR⟩)⟩
end Ev
namespace Ev
open PySem PySem.Spec L2
open PyProof.Rows hiding St
section
variable {X : Cx}
def rRemD (K : PySem.W.Frag) : V → List V → Hp → VK → Prop := fun x xs H Q => ∃ (a : Addr) (y : V) (d : PyData) (vs : List V) (ds : List PyData) (j : Nat) (z : PyData), x = V.ref a ∧ xs = [y] ∧ H a = some (.lst vs) ∧ DpAll K H vs ds ∧ Dp K H y d ∧
  SeqAt.shaped (.list ds) = true ∧ SeqAt.shaped d = true ∧ ds[j]? = some z ∧ PyData.eqv z d = true ∧ (∀ (m : Nat) (z' : PyData), m < j → ds[m]? = some z' → PyData.eqv z' d = false) ∧ Q .non (upd H a (.lst (vs.eraseIdx j)))
theorem mt_remD (hu : X.A.units + 65 < cLine) : MtR X "list.remove" (rRemD X.K) := by
  intro pins s σ H x xs v us Q I rx rxs h
  obtain ⟨a, y, d, vs, ds, j, z, rfl, rfl, hH, ha, hy, sl, sd, hz, hzj, hno, q⟩ := h
  cases rx
  obtain ⟨uy, rfl, ry⟩ := rxs.one
  obtain ⟨bs, r1⟩ := Dp.reads I d y uy hy ry
  have lay := SeqAt.canLay_of_shaped sl
  have hroom : X.A.units + 1 + min (PyData.depthAll ds) d.depth < cLine := room_in_shaped sd hu
  obtain ⟨zz, its, n, rv, hl, ho⟩ := I.lstM hH
  obtain ⟨as, h4⟩ := Dp.readsAll I ds _ its ha rv
  have hn : its.length = ds.length := SeqAt.ReadsAll.length ds its as h4
  have hmap : its.map (SeqAt.readOf s.heap) = ds := SeqAt.readsAll_map ds its as lay h4
  obtain ⟨hjd, _⟩ := List.getElem?_eq_some_iff.mp hz
  have hjl : j < its.length := by omega
  have hj : j < its.toArray.size := by simpa using hjl
  have look : ∀ (m : Nat) (hm : m < its.toArray.size) (z' : PyData), ds[m]? = some z' → SeqAt.readOf s.heap its.toArray[m] = z' := fun m hm z' hz' => by
    have hml : m < its.length := by simpa using hm
    rw [← hmap, List.getElem?_map, List.getElem?_eq_getElem hml] at hz'
    have e1 : SeqAt.readOf s.heap its[m] = z' := Option.some.inj hz'
    simpa using e1
  refine call_meets PySem.F.slot_list_remove ⟨_, ho, rfl⟩ PySem.F.entry_list_remove (PySem.F.args_list_remove_2 _ _)
    (rem_meets a its.toArray n uy (fun u => PyData.eqv (SeqAt.readOf s.heap u) d) j hj ?_ (by rw [List.size_toArray]; omega) ?_)
    ⟨ho, SeqAt.items_eqAt (vs := its.toArray) (show ReadsAll s.heap its.toArray.toList ds as from h4) r1 lay (SeqAt.canLay_of_shaped sd) hroom, ?_⟩
  · show PyData.eqv (SeqAt.readOf s.heap its.toArray[j]) d = true
    rw [look j hj z hz]
    exact hzj
  · intro m hm hmj
    have hz' : ds[m]? = some (ds[m]'(by omega)) := List.getElem?_eq_getElem (by omega)
    show PyData.eqv (SeqAt.readOf s.heap its.toArray[m]) d = false
    rw [look m hm _ hz']
    exact hno m _ hmj hz'
  · refine ⟨.non, _, I.lset (its' := its.eraseIdx j) (t' := s.toks) hH ho ?_ (rv.eraseIdx j) ?_, rfl, q⟩
    · show its.toArray.eraseIdxIfInBounds j = (its.eraseIdx j).toArray
      rw [List.eraseIdxIfInBounds_toArray]
    · have := len_erase vs j
      omega
end
def sRemI (i : Nat) (fe : EvE) : EvS := fun ρ => match ρ[i]? with
  | some (some s) => match s.d with
    | .lst ds => (fe ρ).bind fun y => (ds.findIdx? fun z => deq z y.d).bind fun j => if s.l ≠ .shr ∧ (shp 8 y.d && shps 7 ds) = true then some (.nx (ρ.set i (some ⟨.lst (ds.eraseIdx j), keepLv s.l .full, s.al || false, s.pn⟩))) else none
    | _ => none
  | _ => none
section
variable {X : Cx} {e : Expr} {fe : EvE} {pos apos cpos npos : Pos} {x : Str}
theorem s_remI (i : Nat) (hu : X.A.units + 65 < cLine) (hk : PEv X e fe)
    (hN : X.N[i]? = some x := by rfl) (hvs : Vis X.env.scope x := by first | exact Or.inl rfl | exact Or.inr (Or.inl rfl) | exact Or.inr (Or.inr rfl)) (hd : (x == ("__debug__" : Str)) = false := by decide) (hcd : (x == ("__classdict__" : Str)) = false := by decide)
    (hsw : swapsWith (.Call (.Attribute (.Name x npos) "remove" apos) [e] [] cpos) none pos.line X.env = pure false := by rfl)
    (hbase : attributeBase (.Name x npos) "remove" X.env (eval (.Name x npos) X.env) = eval (.Name x npos) X.env := by rfl)
    (hfew : ((backTo cpos (starEach [e] X.env)).all (fun x => !x.1) && (backToKw cpos (keywordEach [] X.env)).all (fun x => x.1.isSome)
      && decide ([e].length + ([] : List Keyword).length + (if ([] : List Keyword).isEmpty then 0 else 1) < 30)) = true := by rfl)
    (hline : (apos.endLine == cpos.line) = true := by rfl) (hs : starEach [e] X.env = (false, eval e X.env) :: starEach [] X.env := by rfl) (hplain : (backTo cpos (starEach [] X.env)).any (·.1) = false := by rfl) :
    PSv X (.Expr (.Call (.Attribute (.Name x npos) "remove" apos) [e] [] cpos) pos) (sRemI i fe) := by
  refine imp_s (ps_expr (pe_bm PySem.F.plainAttrs_list PySem.F.slot_list_remove PySem.F.type_list_remove (mt_remD hu) (pe_var hN hvs hd hcd) (pa_cons hk pa_nil hs) hbase hfew hline hs hplain) hsw) fun D σ H ⟨N, H0, ρ, L, o, sim, z, q⟩ => ?_
  unfold sRemI at z
  split at z
  · rename_i s es
    split at z
    · rename_i ds hd
      obtain ⟨y, e1, z⟩ := bind_some z
      obtain ⟨j, ej, z⟩ := bind_some z
      split at z
      · rename_i hc
        cases z
        obtain ⟨sd, sl, sa, sp⟩ := s
        dsimp only at hd hc
        subst hd
        obtain ⟨hne, hsh⟩ := hc
        rw [Bool.and_eq_true] at hsh
        obtain ⟨a, vs, ev, ha, hlen, go⟩ := sim.relist es hne
        obtain ⟨v', G, ev', rp, _⟩ := sim.sl.get es
        rw [ev] at ev'
        cases ev'
        obtain ⟨a', vs', G1, e3, h1, r1, _⟩ := rp.lst_inv
        cases e3
        rw [ha] at h1
        cases h1
        refine ⟨.ref a, ev, .inl ⟨rfl, vs, SqL.of ha⟩, one sim.h e1 fun ky H1 T s1 n1 d1 p1 => ?_⟩
        obtain ⟨hj, hp, hno⟩ := List.findIdx?_eq_some_iff_getElem.mp ej
        have s3 := shaped_of (shp_lst hsh.2)
        simp only [pd] at s3
        refine ⟨a, ky, pd y.d, vs, pds ds, j, pd ds[j], rfl, rfl, s1 _ _ ha, (r1.same s1).dp hsh.2, p1.dp hsh.1, s3, shaped_of hsh.1, by rw [pds_map, List.getElem?_map, List.getElem?_eq_getElem hj]; rfl, hp, fun m z' hm hz => ?_, ?_⟩
        · rw [pds_map, List.getElem?_map, List.getElem?_eq_getElem (by omega)] at hz
          cases hz
          have := hno m hm
          simpa [deq] using this
        · obtain ⟨L', sim', fr⟩ := go (H1 := H1) (us := []) (rs := []) (T := []) (ws := vs.eraseIdx j) (es := ds.eraseIdx j) (fun r1 r2 nd => by
            cases r2
            rw [List.append_nil] at nd
            obtain ⟨F', q1, q2, q3⟩ := r1.erase j nd
            exact ⟨F', q1, fun b z => by simpa using q2 b z, q3⟩) s1 (fun _ z => nomatch z) .nil .nil rfl
          exact q _ _ L' sim' fr
      · cases z
    · cases z
  · cases z
end
end Ev
set_option Elab.async false
set_option linter.all false
set_option maxRecDepth 100000
namespace Ev
open PySem PySem.Spec L2
open PyProof.Rows hiding St
end Ev
set_option Elab.async false
set_option linter.all false
set_option maxRecDepth 100000
namespace Ev
open PySem PySem.Spec L2
open PyProof.Rows hiding St
section
variable {K : PySem.W.Frag} {N : Nw} {H0 H : Hp} {ρ : Env} {σ : St} {L : List Addr}
theorem Slots.cut {L0 : List Addr} : ∀ {σ : St} {ρ : Env} {F : List Addr} {j : Nat} {s : Sv}, Slots K N L0 H σ ρ F → ρ[j]? = some (some s) →
    ∃ v G F', σ[j]? = some (some v) ∧ Rp K (SR N L0 s.al false) H s.l v s.d G ∧ Slots K N L0 H σ (ρ.set j none) F' ∧ F.Perm (G ++ F')
  | _, _, _, _, _, .nil, e => by simp at e
  | _, _, _, 0, _, .no _, e => by simp at e
  | _, _, _, j + 1, s, .no h, e => by
    obtain ⟨v, G, F', e1, r, q, p⟩ := Slots.cut (j := j) (s := s) h (by simpa using e)
    exact ⟨v, G, F', by simpa using e1, r, .no q, p⟩
  | _, _, _, 0, _, .so (G := F2) h0 h h2, e => by
    simp at e; subst e
    exact ⟨_, _, F2, rfl, h, .no h2, List.Perm.refl _⟩
  | _, _, _, j + 1, s, .so (F := F1) h0 h h2, e => by
    obtain ⟨v, G, F', e1, r, q, p⟩ := Slots.cut (j := j) (s := s) h2 (by simpa using e)
    refine ⟨v, G, F1 ++ F', by simpa using e1, r, .so h0 h q, ?_⟩
    have h3 := List.Perm.append_left F1 p
    refine h3.trans ?_
    rw [← List.append_assoc, ← List.append_assoc]
    exact List.Perm.append_right F' List.perm_append_comm
def rem (H : Hp) (G : List Addr) : Hp := fun b => if b ∈ G then none else H b
theorem rem_in {G : List Addr} {b : Addr} (h : b ∈ G) : rem H G b = none := if_pos h
theorem rem_out {G : List Addr} {b : Addr} (h : b ∉ G) : rem H G b = H b := if_neg h
theorem rem_same (H : Hp) (G : List Addr) : Same (rem H G) H := fun b o e => by
  by_cases h : b ∈ G
  · rw [rem_in h] at e; cases e
  · rw [rem_out h] at e; exact e
theorem Sim.out (sim : Sim K N H0 ρ σ H L) {j : Nat} {s : Sv} (e : ρ[j]? = some (some s)) :
    ∃ v G L', σ[j]? = some (some v) ∧ Rp K (SR N L s.al false) H s.l v s.d G ∧ Sim K N H0 (ρ.set j none) σ (rem H G) L' ∧ L.Perm (G ++ L') := by
  obtain ⟨v, G, L', e1, r, q, p⟩ := sim.sl.cut e
  have nd := p.nodup_iff.mp sim.nd
  rw [List.nodup_append] at nd
  have inG : ∀ b ∈ G, b ∈ L := fun b h => p.mem_iff.mpr (List.mem_append_left _ h)
  have inL : ∀ b ∈ L', b ∈ L := fun b h => p.mem_iff.mpr (List.mem_append_right _ h)
  have off : ∀ b ∈ L', b ∉ G := fun b h1 h2 => nd.2.2 b h2 b h1 rfl
  refine ⟨v, G, L', e1, r, ⟨fun b o e n => ?_, fun b h => ?_, nd.2.1, fun a h => sim.ln a (inL a h), fun a h => by rw [rem_out (off a h)]; exact sim.mu a (inL a h), ?_⟩, p⟩
  · rw [rem_out fun h => n (sim.ln b (inG b h))]
    exact sim.kp b o e n
  · by_cases hb : b ∈ G
    · exact sim.ln b (inG b hb)
    · rw [rem_out hb] at h
      exact sim.nw b h
  · refine (q.keep fun al b o hb z => ?_).mono fun a h1 h2 => h1 (inL a h2)
    rw [rem_out]
    · exact hb
    · intro hG
      rcases z with z | z | ⟨xs, rfl⟩ | ⟨o', u, rfl⟩
      · exact z.2 rfl (inG b hG)
      · exact off b z hG
      · have := sim.mu b (inG b hG)
        rw [hb] at this
        cases this
      · have := sim.mu b (inG b hG)
        rw [hb] at this
        cases this
theorem Frm.rem {G L L' Lf : List Addr} {Hf : Hp} (p : L.Perm (G ++ L')) (f : Frm (rem H G) L' Hf Lf) : Frm H L Hf Lf := by
  have inG : ∀ b ∈ G, b ∈ L := fun b h => p.mem_iff.mpr (List.mem_append_left _ h)
  have inL : ∀ b ∈ L', b ∈ L := fun b h => p.mem_iff.mpr (List.mem_append_right _ h)
  refine ⟨fun b o e n => f.1 b o ?_ fun z => n (inL b z), fun b e => ?_, fun b h => ?_⟩
  · rw [rem_out fun z => n (inG b z)]
    exact e
  · rcases f.2.1 b e with h | h
    · by_cases hb : b ∈ G
      · exact .inr (inG b hb)
      · rw [rem_out hb] at h
        exact .inl h
    · exact .inr (inL b h)
  · rcases f.2.2 b h with h | h
    · exact .inl (inL b h)
    · by_cases hb : b ∈ G
      · exact .inl (inG b hb)
      · rw [rem_out hb] at h
        exact .inr h
end
def sAppMv (i j : Nat) (fe : EvE) : EvS := fun ρ => match ρ[i]? with
  | some (some s) => match ρ[j]? with
    | some (some r) => match s.d with
      | .lst ds => (fe ρ).bind fun x => if s.l ≠ .shr ∧ r.l = .full ∧ i ≠ j ∧ ds.length ≤ 1000000 ∧ imm x.d = true then some (.nx ((ρ.set j none).set i (some ⟨.lst (ds ++ [.tup [x.d, r.d]]), keepLv s.l .full, s.al || r.al, s.pn⟩))) else none
      | _ => none
    | _ => none
  | _ => none
section
variable {X : Cx} {e : Expr} {fe : EvE} {pos apos cpos npos npos2 tpos : Pos} {x y : Str}
theorem s_appMv (i j : Nat) {ct : Nat} (he : PEv X e fe)
    (hN : X.N[i]? = some x := by rfl) (hvs : Vis X.env.scope x := by first | exact Or.inl rfl | exact Or.inr (Or.inl rfl) | exact Or.inr (Or.inr rfl)) (hd : (x == ("__debug__" : Str)) = false := by decide) (hcd : (x == ("__classdict__" : Str)) = false := by decide)
    (hN2 : X.N[j]? = some y := by rfl) (hvs2 : Vis X.env.scope y := by first | exact Or.inl rfl | exact Or.inr (Or.inl rfl) | exact Or.inr (Or.inr rfl)) (hd2 : (y == ("__debug__" : Str)) = false := by decide) (hcd2 : (y == ("__classdict__" : Str)) = false := by decide)
    (hsw : swapsWith (.Call (.Attribute (.Name x npos) "append" apos) [.Tuple [e, .Name y npos2] ct tpos] [] cpos) none pos.line X.env = pure false := by rfl)
    (hbase : attributeBase (.Name x npos) "append" X.env (eval (.Name x npos) X.env) = eval (.Name x npos) X.env := by rfl)
    (hfew : ((backTo cpos (starEach [.Tuple [e, .Name y npos2] ct tpos] X.env)).all (fun x => !x.1) && (backToKw cpos (keywordEach [] X.env)).all (fun x => x.1.isSome)
      && decide ([Expr.Tuple [e, .Name y npos2] ct tpos].length + ([] : List Keyword).length + (if ([] : List Keyword).isEmpty then 0 else 1) < 30)) = true := by rfl)
    (hline : (apos.endLine == cpos.line) = true := by rfl) (hs : starEach [.Tuple [e, .Name y npos2] ct tpos] X.env = (false, eval (.Tuple [e, .Name y npos2] ct tpos) X.env) :: starEach [] X.env := by rfl) (hplain : (backTo cpos (starEach [] X.env)).any (·.1) = false := by rfl)
    (hs1 : starEach [e, .Name y npos2] X.env = (false, eval e X.env) :: starEach [.Name y npos2] X.env := by rfl) (hs2 : starEach [.Name y npos2] X.env = (false, eval (.Name y npos2) X.env) :: starEach [] X.env := by rfl) :
    PSv X (.Expr (.Call (.Attribute (.Name x npos) "append" apos) [.Tuple [e, .Name y npos2] ct tpos] [] cpos) pos) (sAppMv i j fe) := by
  obtain ⟨r0, hm, hr⟩ := (l_app (X := X)).ok
  refine imp_s (ps_expr (pe_bm PySem.F.plainAttrs_list PySem.F.slot_list_append PySem.F.type_list_append hm (pe_var hN hvs hd hcd) (pa_cons (pe_tup (pa_cons he (pa_cons (pe_var hN2 hvs2 hd2 hcd2) pa_nil hs2) hs1)) pa_nil hs) hbase hfew hline hs hplain) hsw) fun D σ H ⟨N, H0, ρ, L, o, sim, z, q⟩ => ?_
  unfold sAppMv at z
  split at z
  · rename_i s es
    split at z
    · rename_i r er
      split at z
      · rename_i ds hds
        obtain ⟨xv, e1, z⟩ := bind_some z
        split at z
        · rename_i hc
          obtain ⟨hl, hrl, hij, hlen, him⟩ := hc
          cases z
          obtain ⟨sd, sl, sa, sp⟩ := s
          dsimp only at hds hl
          subst hds
          obtain ⟨vj, G, L', evj, rj, sim', pm⟩ := sim.out er
          have es' : (ρ.set j none)[i]? = some (some ⟨.lst ds, sl, sa, sp⟩) := by rw [List.getElem?_set_ne (fun h => hij h.symm)]; exact es
          obtain ⟨a, vs, ev, ha, hvl, go⟩ := sim'.relist es' hl
          have haH : H a = some (.lst vs) := rem_same H G _ _ ha
          have inG : ∀ b ∈ G, b ∈ L := fun b h => pm.mem_iff.mpr (List.mem_append_left _ h)
          have nd := pm.nodup_iff.mp sim.nd
          rw [List.nodup_append] at nd
          refine ⟨.ref a, ev, .inl ⟨rfl, vs, SqL.of haH⟩, one sim.h e1 fun ve H1 T s1 n1 d1 p1 => ?_⟩
          refine ⟨vj, evj, by rw [sizeLine_eq]; show 2 ≤ 16777216; decide, fun p hp => ?_⟩
          have spp : Same H1 (upd H1 p (.tup [ve, vj])) := fun b u eb => by
            rw [upd_ne (ne_of_none eb hp)]
            exact eb
          have sall := s1.trans spp
          refine hr _ a vs [.ref p] (vs ++ [.ref p]) _ (sall _ _ haH) (by rw [hvl]; exact hlen) rfl ?_
          rw [hrl] at rj
          have r1 : Rp X.K (fun b => SR N L' r.al false b ∧ b ∉ G) (upd H1 p (.tup [ve, vj])) .full (.ref p) (.tup [xv.d, r.d]) G := by
            have h1 := (((p1.same spp).of_imm (S' := fun b => SR N L' r.al false b ∧ b ∉ G) (l' := .full) him).2)
            have h2 := (rj.same sall).mono (S' := fun b => SR N L' r.al false b ∧ b ∉ G) fun b z => ⟨⟨z.1, fun e w => z.2 e (pm.mem_iff.mpr (List.mem_append_right _ w))⟩, fun w => z.2 rfl (inG b w)⟩
            have := Rp.tup (K := X.K) (S := fun b => SR N L' r.al false b ∧ b ∉ G) (H := upd H1 p (.tup [ve, vj])) (a := p) upd_same (Rps.cons (F := []) h1 (Rps.cons h2 .nil))
            rw [List.append_nil] at this
            exact this
          obtain ⟨Lf, simf, fr⟩ := go (H1 := upd H1 p (.tup [ve, vj])) (us := [.ref p]) (rs := [⟨.tup [xv.d, r.d], .full, r.al, false⟩]) (T := G) (ws := vs ++ [.ref p]) (es := ds ++ [.tup [xv.d, r.d]]) (fun q1 q2 q3 => ⟨_, q1.app q2, fun _ z => z, q3⟩) ((rem_same H G).trans sall) (fun b z => rem_in z) nd.1 (RpL.one r1) rfl
          have e7 : (sa || [(⟨.tup [xv.d, r.d], .full, r.al, false⟩ : Rv)].any fun r => r.al) = (sa || r.al) := by simp
          rw [e7] at simf
          exact q _ _ Lf simf (fr.rem pm)
        · cases z
      · cases z
    · cases z
  · cases z
end
end Ev
set_option Elab.async false
set_option linter.all false
set_option maxRecDepth 100000
set_option maxHeartbeats 4000000
namespace Ev
open PySem PySem.Spec L2
open PyProof.Rows hiding St
end Ev
set_option Elab.async false
set_option linter.all false
namespace Ev
open PySem PySem.Spec L2 PyProof
open PyProof.Rows hiding St
end Ev
set_option Elab.async false
set_option linter.all false
namespace Ev
open PySem PySem.Spec L2
open PyProof.Rows hiding St
end Ev
set_option Elab.async false
set_option linter.all false
set_option maxRecDepth 100000
namespace Ev
open PySem PySem.Spec L2
open PyProof.Rows hiding St
end Ev
set_option Elab.async false
set_option linter.all false
set_option maxRecDepth 100000
namespace Ev
open PySem PySem.Spec L2
open PyProof.Rows hiding St
end Ev
set_option Elab.async false
set_option linter.all false
namespace Ev
open PySem PySem.Spec L2
open PyProof.Rows hiding St
end Ev
set_option Elab.async false
set_option linter.all false
set_option maxRecDepth 100000
namespace L2
open PySem PySem.Spec PyProof.Rows PyProof
end L2
namespace Ev
open PySem PySem.Spec L2
open PyProof.Rows hiding St
end Ev
set_option Elab.async false
set_option linter.all false
set_option maxRecDepth 100000
namespace Ev
open PySem PySem.Spec L2
open PyProof.Rows hiding St
theorem Frm.s {H H1 : Hp} {L : List Addr} (s : Same H H1) : Frm H L H1 L := Frm.same s fun b z => .inl z
end Ev
set_option Elab.async false
set_option linter.all false
set_option maxRecDepth 100000
namespace L2
open PySem PySem.Spec PyProof.Rows
end L2
namespace Ev
open PySem PySem.Spec L2
open PyProof.Rows hiding St
end Ev
set_option Elab.async false
set_option linter.all false
set_option maxRecDepth 100000
namespace Ev
open PySem PySem.Spec L2
open PyProof.Rows hiding St
end Ev
set_option Elab.async false
set_option linter.all false
set_option maxRecDepth 100000
namespace Ev
open PySem PySem.Spec L2
open PyProof.Rows hiding St
end Ev
set_option Elab.async false
set_option linter.all false
set_option maxRecDepth 100000
namespace Ev
open PySem PySem.Spec L2
open PyProof.Rows hiding St
end Ev
set_option Elab.async false
set_option linter.all false
set_option maxRecDepth 100000
namespace Ev
open PySem PySem.Spec L2
open PyProof.Rows hiding St
end Ev
set_option Elab.async false
set_option linter.all false
set_option maxRecDepth 100000
namespace Ev
open PySem PySem.Spec L2
open PyProof.Rows hiding St
end Ev
set_option Elab.async false
set_option linter.all false
set_option maxRecDepth 100000
namespace Ev
open PySem PySem.Spec L2
open PyProof.Rows hiding St
end Ev
set_option Elab.async false
set_option linter.all false
set_option maxRecDepth 100000
namespace Ev
open PySem PySem.Spec L2
open PyProof.Rows hiding St
end Ev
set_option Elab.async false
set_option linter.all false
set_option maxRecDepth 100000
namespace Ev
open PySem PySem.Spec L2
open PyProof.Rows hiding St
end Ev
set_option Elab.async false
set_option linter.all false
set_option maxRecDepth 100000
namespace Ev
open PySem PySem.Spec L2
open PyProof.Rows hiding St
end Ev
set_option Elab.async false
set_option linter.all false
set_option maxRecDepth 100000
namespace Ev
open PySem PySem.Spec L2
open PyProof.Rows hiding St
abbrev Cod := Int → Option Value
end Ev
set_option Elab.async false
set_option linter.all false
set_option maxRecDepth 100000
namespace Ev
open PySem PySem.Spec L2
open PyProof.Rows hiding St
abbrev EvC := Env → Option Int
end Ev
set_option Elab.async false
set_option linter.all false
set_option maxRecDepth 100000
namespace Ev
open PySem PySem.Spec L2
open PyProof.Rows hiding St
def tB (b : Bool) : EvT := fun _ => some b
def selH : List (List Int × EvS) → Int → EvS
  | [], _ => sBad
  | (_, h) :: [], _ => h
  | (ks, h) :: q :: r, c => sIf (tB (ks.contains c)) h (selH (q :: r) c)
theorem sIf_tB {b : Bool} {f g : EvS} {ρ : Env} : sIf (tB b) f g ρ = if b = true then f ρ else g ρ := rfl
section
variable {X : Cx} {cd : Cod} {g : EvC} {nB : EvS} {body suite : List Stmt} {b₀ : Stmt} {x n : Str} {np pos pos' : Pos} {i : Nat} {cls0 : Value} {ks : List Int} {hs : Int → EvS}
inductive HdsE (X : Cx) (cd : Cod) : List ExceptHandler → List (List Int × EvS) → Prop
  | nil : HdsE X cd [] []
  | cons {x : Str} {c : Value} {ks : List Int} {h : EvS} {b₀ : Stmt} {suite : List Stmt} {np pos' : Pos} {hds : List ExceptHandler} {l : List (List Int × EvS)} (hc : Names X x c) (hk : ∀ n C, cd n = some C → PySem.W.exmOne X.K C c = some (ks.contains n))
      (hsu : ∀ (a : Addr) (oe : Obj) (C : Value) (d : Option Addr) (pn : List (Addr × Obj)), Zc C d oe → (∃ vs, oe.data = .fields vs) → PSsv (X.suite a ((a, oe) :: pn)) (b₀ :: suite) h) (r : HdsE X cd hds l) :
      HdsE X cd (.ExceptHandler (some (.Name x np)) none (b₀ :: suite) pos' :: hds) ((ks, h) :: l)
theorem HdsE.ok {Wout : WX} : ∀ {hds : List ExceptHandler} {l : List (List Int × EvS)}, HdsE X cd hds l → ∃ l', HdsOk X hds l' ∧ ∀ n C D σ H, cd n = some C → (l.flatMap (·.1)).contains n = true → tS X.K (selH l n) D σ H → wMany X.K Wout D l' C none σ H
  | _, _, .nil => ⟨[], .nil, fun n C D σ H _ h _ => nomatch h⟩
  | _, _, @HdsE.cons _ _ _ c ks h _ _ _ _ _ [] hc hk hsu r => by
    obtain ⟨l', h1, h2⟩ := HdsE.ok (Wout := Wout) r
    refine ⟨(c, fun _ _ _ => tS X.K h) :: l', .cons hc (fun a oe C d pn hz hf => hsu a oe C d pn hz hf) h1, fun n C D σ H hcd hm z => ?_⟩
    have hm : ks.contains n = true := by simpa using hm
    exact ⟨ks.contains n, hk n C hcd, fun e a na => z, fun e => by rw [hm] at e; cases e⟩
  | _, _, @HdsE.cons _ _ _ c ks h _ _ _ _ _ (p :: l) hc hk hsu r => by
    obtain ⟨l', h1, h2⟩ := HdsE.ok (Wout := Wout) r
    refine ⟨(c, fun _ _ _ => tS X.K h) :: l', .cons hc (fun a oe C d pn hz hf => hsu a oe C d pn hz hf) h1, fun n C D σ H hcd hm ⟨N, H0, ρ, L, o, sim, z, q⟩ => ?_⟩
    have z : sIf (tB (ks.contains n)) h (selH (p :: l) n) ρ = some o := z
    rw [sIf_tB] at z
    refine ⟨ks.contains n, hk n C hcd, fun e a na => ?_, fun e => ?_⟩
    · rw [e, if_pos rfl] at z
      exact ⟨N, H0, ρ, L, o, sim, z, q⟩
    · rw [e, if_neg Bool.false_ne_true] at z
      refine h2 n C D σ H hcd ?_ ⟨N, H0, ρ, L, o, sim, z, q⟩
      rw [List.flatMap_cons, List.contains_append, e, Bool.false_or] at hm
      exact hm
end
end Ev
set_option Elab.async false
set_option linter.all false
set_option maxRecDepth 100000
namespace Ev
open PySem PySem.Spec L2
open PyProof.Rows hiding St
end Ev
set_option Elab.async false
set_option linter.all false
set_option maxRecDepth 100000
namespace Ev
open PySem PySem.Spec L2
open PyProof.Rows hiding St
end Ev
set_option Elab.async false
set_option linter.all false
set_option maxRecDepth 100000
set_option maxHeartbeats 3200000
namespace Ev
open PySem PySem.Spec L2
open PyProof.Rows hiding St
abbrev set0 (w : World) : Obj := { cls := .type "set", dict := none, data := .set #[] 0 (.fresh 0 0 (!w.params.followText "set-order")) }
end Ev
set_option Elab.async false
set_option linter.all false
set_option maxRecDepth 100000
namespace Ev
open PySem PySem.Spec L2
open PyProof.Rows hiding St
def dd {α : Type} [DecidableEq α] : List α → List α
  | [] => []
  | x :: xs => if x ∈ xs then dd xs else x :: dd xs
end Ev
set_option Elab.async false
set_option linter.all false
set_option maxRecDepth 100000
namespace Ev
open PySem PySem.Spec L2
open PyProof.Rows hiding St
end Ev
set_option Elab.async false
set_option linter.all false
set_option maxRecDepth 100000
namespace Ev
open PySem PySem.Spec L2
open PyProof.Rows hiding St
end Ev
set_option Elab.async false
set_option linter.all false
set_option maxRecDepth 100000
namespace Ev
open PySem PySem.Spec L2
open PyProof.Rows hiding St
end Ev
set_option Elab.async false
set_option linter.all false
set_option maxRecDepth 100000
namespace Ev
open PySem PySem.Spec L2
open PyProof.Rows hiding St
end Ev
set_option Elab.async false
set_option linter.all false
set_option maxRecDepth 100000
namespace Ev
open PySem PySem.Spec L2
open PyProof.Rows hiding St
end Ev
set_option Elab.async false
set_option linter.all false
set_option maxRecDepth 100000
namespace Ev
open PySem PySem.Spec L2
open PyProof.Rows hiding St
end Ev
set_option Elab.async false
set_option linter.all false
set_option maxRecDepth 100000
namespace Ev
open PySem PySem.Spec L2
open PyProof.Rows hiding St
end Ev
set_option Elab.async false
set_option linter.all false
set_option maxRecDepth 100000
namespace Ev
open PySem PySem.Spec L2
open PyProof.Rows hiding St
end Ev
set_option Elab.async false
set_option linter.all false
set_option maxRecDepth 100000
namespace Ev
open PySem PySem.Spec L2
open PyProof.Rows hiding St
theorem AtV.cut {H : Hp} : ∀ {v : V} {p q : List Nat} {u : V}, AtV H v (p ++ q) u → ∃ m, AtV H v p m ∧ AtV H m q u
  | v, [], q, u, h => ⟨v, .nil, h⟩
  | _, j :: p, q, u, .cons h1 h2 h3 => by
    obtain ⟨m, a, b⟩ := AtV.cut h3
    exact ⟨m, .cons h1 h2 a, b⟩
end Ev
set_option Elab.async false
set_option linter.all false
set_option maxRecDepth 100000
namespace Ev
open PySem PySem.Spec L2
open PyProof.Rows hiding St
def backB (j i k : Nat) (s : Sv) (p : List Nat) : Out → Option Out
  | .nx ρ => match ρ[j]?, ρ[i]? with
    | some (some s2), some (some s3) => if s2.pn = some k ∧ s3.pn = some (k + 1) ∧ s3.l = .full then some (.nx ((clr (k + 1) (clr k (ρ.set i none))).set j (some ⟨dSet s.d p s3.d, .full, s.al || s3.al, s.pn⟩))) else none
    | _, _ => none
  | _ => none
def sBor (fp : EvP) (i : Nat) (b : EvS) : EvS := fun ρ => (fp ρ).bind fun z => match ρ[z.1]? with
  | some (some s) => if z.1 ≠ i ∧ i < ρ.length ∧ isNd s.d = true ∧ isNd z.2.2 = true then (b (((ρ.set i none).set z.1 (some ⟨.any, .full, false, some (topP ρ)⟩)).set i (some ⟨z.2.2, .full, s.al, some (topP ρ + 1)⟩))).bind (backB z.1 i (topP ρ) s z.2.1) else none
  | _ => none
theorem noPin_set {k : Nat} {ρ : Env} {i : Nat} (h : noPin k ρ = true) : noPin k (ρ.set i none) = true := by
  unfold noPin at h ⊢
  rw [List.all_eq_true] at h ⊢
  intro x hx
  rcases List.mem_or_eq_of_mem_set hx with hx | hx
  · exact h x hx
  · rw [hx]
section
variable {X : Cx} {e : Expr} {fp : EvP} {b : EvS} {rest : List Stmt} {pos pos' : Pos} {x : Str}
theorem s_bor (i : Nat) (h : PPv X e fp) (hb : PSsv X rest b) (hN : X.N.Nodup) (hi : X.N[i]? = some x := by rfl) (hx : Loc X.env.scope x := by first | exact Or.inl rfl | exact Or.inr rfl) (hs : swapsWith e (some (.Name x pos')) pos.line X.env = pure false := by rfl) (hf : X.fn x = true ∨ X.env.scope.names.lookup x = some .local := by first | exact .inl rfl | exact .inr rfl | assumption) :
    PSsv X (.Assign [.Name x pos'] e pos :: rest) (sBor fp i b) := by
  refine imp_ss (pss_cons (ps_set hN hi hx h.run hs hf) hb) fun De σ H ⟨N, H0, ρ, L0, o, sim0, z, q⟩ => ?_
  unfold sBor at z
  obtain ⟨⟨j, p, d⟩, e1, z⟩ := bind_some z
  dsimp only at z
  split at z
  · rename_i s es
    split at z
    · rename_i hcd
      obtain ⟨hji, hil, hnd, hnd2⟩ := hcd
      generalize hk0 : topP ρ = k0 at z
      have hnp0 : noPin k0 ρ = true := topP_no ρ k0 (by omega)
      have hnp1 : noPin (k0 + 1) ρ = true := topP_no ρ (k0 + 1) (by omega)
      obtain ⟨o1, z1, z2⟩ := bind_some z
      obtain ⟨s', es', hl, hdp⟩ := h.ok ρ j p _ e1
      rw [es] at es'
      cases es'
      refine ⟨N, H0, ρ, L0, L0, j, p, d, sim0.h, e1, fun u' H1 s1 at1 => ?_⟩
      obtain ⟨L, sim, subL⟩ := sim0.wipe i
      have es1 : (ρ.set i none)[j]? = some (some s) := by rw [List.getElem?_set_ne (fun q => hji q.symm)]; exact es
      obtain ⟨F1, G, F2, v0, eL, ev, rp, sl⟩ := sim.sl.hide es1
      have nd := sim.nd
      rw [eL, List.nodup_append, List.nodup_append] at nd
      obtain ⟨a1, ⟨a2, a3, a4⟩, a5⟩ := nd
      rw [hl] at rp
      obtain ⟨a0, o0, vs0, ds0, F0, hv0, _⟩ := rp.node hnd
      obtain ⟨u, A, G2, B, eG, ru, w2, q2⟩ := rp.trk.way hdp a2
      obtain ⟨au, ou, vsu, dsu, Fu, hu, _⟩ := ru.node hnd2
      have := (w2.same s1).fn (at1 _ ev)
      subst this
      have gL : ∀ b ∈ G, b ∈ L := fun b m => by rw [eL]; simp [m]
      have a2' := a2
      rw [eG, List.nodup_append, List.nodup_append] at a2'
      obtain ⟨nA, ⟨nG2, nB, dGB⟩, dA⟩ := a2'
      have aG : ∀ b ∈ A, b ∈ G := fun b m => by rw [eG]; simp [m]
      have bG : ∀ b ∈ B, b ∈ G := fun b m => by rw [eG]; simp [m]
      have g2G : ∀ b ∈ G2, b ∈ G := fun b m => by rw [eG]; simp [m]
      have abG : ∀ b ∈ A ++ B, b ∈ G := fun b m => (List.mem_append.mp m).elim (aG b) (bG b)
      have ab2 : ∀ b ∈ G2, b ∉ A ++ B := fun b m m2 => (List.mem_append.mp m2).elim (fun y => dA b y b (by simp [m]) rfl) fun y => dGB b m b y rfl
      have n12 : (F1 ++ F2).Nodup := by
        rw [List.nodup_append]
        exact ⟨a1, a3, fun a m b m2 => a5 a m b (by simp [m2])⟩
      have g12 : ∀ b ∈ F1 ++ F2, b ∉ G := fun b m m2 => (List.mem_append.mp m).elim (fun y => a5 b y b (by simp [m2]) rfl) fun y => a4 b m2 b y rfl
      have sub12 : ∀ b ∈ F1 ++ F2, b ∈ L := fun b m => by
        rw [eL]
        rcases List.mem_append.mp m with m | m <;> simp [m]
      let LB : List Addr := (F1 ++ F2) ++ G2
      have lbL : ∀ b ∈ LB, b ∈ L := fun b m => (List.mem_append.mp m).elim (sub12 b) fun m => gL b (g2G b m)
      have lbAB : ∀ b ∈ LB, b ∉ A ++ B := fun b m => (List.mem_append.mp m).elim (fun m m2 => g12 b m (abG b m2)) (ab2 b)
      let N1 : Nw := ⟨N.n, N.s, fun k => if k = k0 then a0 else N.p k⟩
      let N' : Nw := ⟨fun a => N a ∧ a ∉ A ++ B, fun a => N.s a ∧ a ∉ A ++ B, fun k => if k = k0 + 1 then au else N1.p k⟩
      have hp1 : ∀ k, k ≠ k0 → N1.p k = N.p k := fun k hk => if_neg hk
      have hp2 : ∀ k, k ≠ k0 + 1 → N'.p k = N1.p k := fun k hk => if_neg hk
      have pk0 : N'.p k0 = a0 := by
        rw [hp2 k0 (by omega)]
        exact if_pos rfl
      have pk1 : N'.p (k0 + 1) = au := if_pos rfl
      have cvI : ∀ al b, SR N1 L al false b → SR N' LB al false b := fun al b w => by
        have hG : b ∉ A ++ B := fun m => w.2 rfl (gL b (abG b m))
        exact ⟨⟨w.1.1.imp (fun y => ⟨y, hG⟩) (fun y => ⟨y, hG⟩), fun ee => ⟨w.1.2 ee, hG⟩⟩, fun _ m => w.2 rfl (lbL b m)⟩
      have np0 : noPin k0 ((ρ.set i none).set j none) = true := noPin_set (noPin_set hnp0)
      have np1 : noPin (k0 + 1) ((ρ.set i none).set j none) = true := noPin_set (noPin_set hnp1)
      have sl0 : Slots X.K N1 L H σ ((ρ.set i none).set j none) (F1 ++ F2) := sl.into hp1 (fun _ _ w => w) np0
      have sl1 : Slots X.K N' LB H σ ((ρ.set i none).set j none) (F1 ++ F2) := sl0.into hp2 cvI np1
      obtain ⟨F4, sl2, f1, f2⟩ := sl1.put (s := ⟨.any, .full, false, some k0⟩) (G := []) ev (fun k ek => by cases ek; rw [pk0]; exact hv0) .any
      rw [List.set_set] at sl2
      have nF4 := f2 n12 .nil (fun _ z => nomatch z)
      have F4s : ∀ b ∈ F4, b ∈ F1 ++ F2 := fun b m => (f1 b m).resolve_right (fun z => nomatch z)
      obtain ⟨E1, E0, E2, eF4, _, put⟩ := sl2.at_ (i := i) (by rw [List.length_set, List.length_set]; exact hil)
      have slI := put (L1 := LB) (H1 := H) (v := u) (s := ⟨d, .full, s.al, some (k0 + 1)⟩) (G' := G2) (fun _ => .same (Same.refl H)) (fun _ z _ => z) (fun k ek => by cases ek; rw [pk1]; exact hu) (ru.mono fun a w => cvI _ a w.1)
      have eE : ∀ b ∈ E1 ++ (G2 ++ E2), b ∈ LB := fun b m => by
        rcases List.mem_append.mp m with m | m
        · exact List.mem_append_left _ (F4s b (by rw [eF4]; simp [m]))
        · rcases List.mem_append.mp m with m | m
          · exact List.mem_append_right _ m
          · exact List.mem_append_left _ (F4s b (by rw [eF4]; simp [m]))
      have nF5 : (E1 ++ (G2 ++ E2)).Nodup := by
        rw [eF4, List.nodup_append, List.nodup_append] at nF4
        obtain ⟨b1, ⟨_, b3, _⟩, b5⟩ := nF4
        rw [List.nodup_append, List.nodup_append]
        refine ⟨b1, ⟨nG2, b3, fun a m b m2 e => ?_⟩, fun a m b m2 e => ?_⟩
        · subst e
          exact g12 a (F4s a (by rw [eF4]; simp [m2])) (g2G a m)
        · subst e
          rcases List.mem_append.mp m2 with m2 | m2
          · exact g12 a (F4s a (by rw [eF4]; simp [m])) (g2G a m2)
          · exact b5 a m a (by simp [m2]) rfl
      generalize hF5 : E1 ++ (G2 ++ E2) = F5 at slI eE nF5
      have F5L : ∀ b ∈ F5, b ∈ L := fun b m => lbL b (eE b m)
      have gN : ∀ b ∈ A ++ B, H b ≠ none := fun b m => sim.th b (gL b (abG b m))
      have simI : Sim X.K N' H (((ρ.set i none).set j (some ⟨.any, .full, false, some k0⟩)).set i (some ⟨d, .full, s.al, some (k0 + 1)⟩)) (σ.set i (some u)) H F5 := ⟨fun b o e _ => e, fun b e => ⟨sim.nw b e, fun m => gN b m e⟩, nF5, fun b m => ⟨sim.ln b (F5L b m), lbAB b (eE b m)⟩, fun b m => sim.mu b (F5L b m), slI.mono fun b y m => y (eE b m)⟩
      have simI1 := simI.same s1
      have cvO1 : ∀ {L2 : List Addr}, ∀ al b, SR N' L2 al false b → SR N1 L2 al false b := fun al b w => ⟨⟨w.1.1.imp And.left And.left, fun ee => (w.1.2 ee).1⟩, w.2⟩
      refine ⟨N', H, _, F5, o1, simI1, z1, ?_⟩
      cases o1 with
      | bk ρ2 => cases z2
      | ct ρ2 => cases z2
      | rt ρ2 d2 l2 al2 => cases z2
      | nx ρ2 =>
        unfold backB at z2
        dsimp only at z2
        split at z2
        · rename_i s2 s3 es2 es3
          split at z2
          · rename_i hpk
            obtain ⟨hpk0, hpk1, hl3⟩ := hpk
            cases z2
            intro σ2 H2 L2 sim2 fr2
            obtain ⟨v2, _, ev2, _, _, hpv2⟩ := sim2.sl.get es2
            have hv2 := hpv2 k0 hpk0
            rw [pk0, ← hv0] at hv2
            subst hv2
            obtain ⟨v3', _, ev3', _, _, hpv3⟩ := sim2.sl.get es3
            have hv3 := hpv3 (k0 + 1) hpk1
            rw [pk1, ← hu] at hv3
            subst hv3
            obtain ⟨D1, G3, D2, v3, eL2, ev3, rp3, sl3⟩ := sim2.sl.hide es3
            rw [ev3'] at ev3
            cases ev3
            rw [hl3] at rp3
            have n2 := sim2.nd
            rw [eL2, List.nodup_append, List.nodup_append] at n2
            obtain ⟨c1, ⟨c2, c3, c4⟩, c5⟩ := n2
            have nD : (D1 ++ D2).Nodup := by
              rw [List.nodup_append]
              exact ⟨c1, c3, fun a m b m2 => c5 a m b (by simp [m2])⟩
            have d3 : ∀ b ∈ D1 ++ D2, b ∉ G3 := fun b m m2 => (List.mem_append.mp m).elim (fun y => c5 b y b (by simp [m2]) rfl) fun y => c4 b m2 b y rfl
            have dL2 : ∀ b ∈ D1 ++ D2, b ∈ L2 := fun b m => by
              rw [eL2]
              rcases List.mem_append.mp m with m | m <;> simp [m]
            have g3L2 : ∀ b ∈ G3, b ∈ L2 := fun b m => by rw [eL2]; simp [m]
            have l2AB : ∀ b ∈ L2, b ∉ A ++ B := fun b m => (sim2.ln b m).2
            have inL2 : ∀ b, b ∈ L2 → b ∈ D1 ++ D2 ∨ b ∈ G3 := fun b m => by
              rw [eL2] at m
              rcases List.mem_append.mp m with m | m
              · exact .inl (by simp [m])
              · rcases List.mem_append.mp m with m | m
                · exact .inr m
                · exact .inl (by simp [m])
            let LL : List Addr := (D1 ++ D2) ++ (A ++ (G3 ++ B))
            have llc : ∀ b, b ∈ LL → b ∈ L2 ∨ b ∈ A ++ B := fun b m => by
              rcases List.mem_append.mp m with m | m
              · exact .inl (dL2 b m)
              · rcases List.mem_append.mp m with m | m
                · exact .inr (by simp [m])
                · rcases List.mem_append.mp m with m | m
                  · exact .inl (g3L2 b m)
                  · exact .inr (by simp [m])
            have kp2 : ∀ b o, H b = some o → b ∉ F5 → H2 b = some o := fun b o e n => fr2.1 b o (s1 b o e) n
            have newL : ∀ b ∈ L2, b ∈ L ∨ H b = none := fun b m => (fr2.2.2 b m).imp (F5L b) s1.free
            have abF5 : ∀ b ∈ A ++ B, b ∉ F5 := fun b m m2 => lbAB b (eE b m2) m
            have slO0 : Slots X.K N1 L2 H2 σ2 (clr (k0 + 1) (ρ2.set i none)) (D1 ++ D2) := sl3.outof hp2 cvO1
            have slO1 : Slots X.K N' L2 H2 σ2 (ρ2.set i none) (D1 ++ D2) := sl3
            let N2 : Nw := ⟨N'.n, N'.s, fun k => if k = k0 + 1 then au else N.p k⟩
            have hq1 : ∀ k, k ≠ k0 → N'.p k = N2.p k := fun k hk => by
              show (if k = k0 + 1 then au else N1.p k) = if k = k0 + 1 then au else N.p k
              rw [hp1 k hk]
            have hq2 : ∀ k, k ≠ k0 + 1 → N2.p k = N.p k := fun k hk => if_neg hk
            have slA : Slots X.K N2 L2 H2 σ2 (clr k0 (ρ2.set i none)) (D1 ++ D2) := sl3.outof hq1 (fun _ _ w => w)
            have slO : Slots X.K N LL H2 σ2 (clr (k0 + 1) (clr k0 (ρ2.set i none))) (D1 ++ D2) := slA.outof hq2 fun al b w => ⟨⟨w.1.1.imp And.left And.left, fun ee => (w.1.2 ee).1⟩, fun _ m => (llc b m).elim (w.2 rfl) (w.1.1.elim And.right And.right)⟩
            have rpO : Rp X.K (SR N LL (s.al || s3.al) false) H2 .full v2 (dSet s.d p s3.d) (A ++ (G3 ++ B)) := by
              refine q2 (fun b w => ⟨w.1.1.up fun e => by rw [e]; rfl, fun _ m => (llc b m).elim (fun m => (newL b m).elim (w.1.2 rfl) w.2) fun m => w.1.2 rfl (gL b (abG b m))⟩) (fun b o e m => kp2 b o e fun m5 => ?_) (rp3.mono fun b w => ⟨⟨w.1.1.imp And.left And.left, fun ee => (w.1.2 (by
                cases hs3 : s3.al with
                | false => rfl
                | true => rw [hs3, Bool.or_true] at ee; cases ee)).1⟩, fun _ m => (llc b m).elim (w.2 rfl) (w.1.1.elim And.right And.right)⟩)
              rcases m with m | m | ⟨xs, rfl⟩ | ⟨o', u, rfl⟩
              · exact m.1.2 rfl (F5L b m5)
              · exact abF5 b m m5
              · have := simI.mu b m5; rw [e] at this; exact this
              · have := simI.mu b m5; rw [e] at this; exact this
            obtain ⟨v9, _, ev9, _, _, pin9⟩ := sim.sl.get es1
            rw [ev] at ev9
            cases ev9
            obtain ⟨F6, sl6, g1, g2⟩ := slO.put (s := ⟨dSet s.d p s3.d, .full, s.al || s3.al, s.pn⟩) ev2 pin9 rpO
            have nO : (A ++ (G3 ++ B)).Nodup := by
              rw [List.nodup_append, List.nodup_append]
              refine ⟨nA, ⟨c2, nB, fun a m b m2 e => ?_⟩, fun a m b m2 e => ?_⟩
              · subst e
                exact l2AB a (g3L2 a m) (by simp [m2])
              · subst e
                rcases List.mem_append.mp m2 with m2 | m2
                · exact l2AB a (g3L2 a m2) (by simp [m])
                · exact dA a m a (by simp [m2]) rfl
            have n6 := g2 nD nO fun b m m2 => by
              rcases List.mem_append.mp m with m | m
              · exact l2AB b (dL2 b m2) (by simp [m])
              · rcases List.mem_append.mp m with m | m
                · exact d3 b m2 m
                · exact l2AB b (dL2 b m2) (by simp [m])
            have g1' : ∀ b ∈ F6, b ∈ LL := fun b m => (g1 b m).elim (fun m => List.mem_append_left _ m) fun m => List.mem_append_right _ m
            refine q σ2 H2 F6 ⟨fun b o e n => sim2.kp b o (sim.kp b o e n) fun y => n y.1, fun b e => (sim2.nw b e).1, n6, fun b m => (llc b (g1' b m)).elim (fun m => (sim2.ln b m).1) fun m => sim.ln b (gL b (abG b m)), fun b m => ?_, sl6.mono fun b y m => y (g1' b m)⟩ ⟨fun b o e n => kp2 b o e fun m => n (subL b (F5L b m)), fun b e => (fr2.2.1 b e).imp s1.free fun m => subL b (F5L b m), fun b m => (llc b (g1' b m)).elim (fun m => (newL b m).imp (subL b) id) fun m => .inl (subL b (gL b (abG b m)))⟩
            rcases llc b (g1' b m) with m | m
            · exact sim2.mu b m
            · obtain ⟨o, eo⟩ : ∃ o, H b = some o := Option.ne_none_iff_exists'.mp (gN b m)
              rw [kp2 b o eo (abF5 b m), ← eo]
              exact sim.mu b (gL b (abG b m))
          · cases z2
        · cases z2
    · cases z
  · cases z
end
end Ev
set_option Elab.async false
set_option linter.all false
set_option maxRecDepth 100000
namespace Ev
open PySem PySem.Spec L2
open PyProof.Rows hiding St
def xPopA (i : Nat) (fk : EvE) : EvX := fun ρ => match ρ[i]? with
  | some (some s) => match s.d with
    | .lst ds => (fk ρ).bind fun y => match y.d with
      | .int k => (L2.ixN ds.length k).bind fun j => if s.l ≠ .shr ∧ immAll ds = true ∧ ds.length ≤ 1000000 then (ds[j]?).map fun d => (ρ.set i (some ⟨.lst (ds.eraseIdx j), s.l, s.al, s.pn⟩), rA d) else none
      | _ => none
    | _ => none
  | _ => none
def xLst1 (fx : EvX) : EvX := fun ρ => (fx ρ).bind fun p => if imm p.2.d = true then some (p.1, ⟨.lst [p.2.d], .full, false, false⟩) else none
section
variable {X : Cx} {e : Expr} {fk : EvE} {fx : EvX} {pos apos cpos npos : Pos} {x : Str}
theorem x_popA (i : Nat) (hk : PEv X e fk)
    (hN : X.N[i]? = some x := by rfl) (hvs : Vis X.env.scope x := by first | exact Or.inl rfl | exact Or.inr (Or.inl rfl) | exact Or.inr (Or.inr rfl)) (hd : (x == ("__debug__" : Str)) = false := by decide) (hcd : (x == ("__classdict__" : Str)) = false := by decide)
    (hbase : attributeBase (.Name x npos) "pop" X.env (eval (.Name x npos) X.env) = eval (.Name x npos) X.env := by rfl)
    (hfew : ((backTo cpos (starEach [e] X.env)).all (fun x => !x.1) && (backToKw cpos (keywordEach [] X.env)).all (fun x => x.1.isSome)
      && decide ([e].length + ([] : List Keyword).length + (if ([] : List Keyword).isEmpty then 0 else 1) < 30)) = true := by rfl)
    (hline : (apos.endLine == cpos.line) = true := by rfl) (hs : starEach [e] X.env = (false, eval e X.env) :: starEach [] X.env := by rfl) (hplain : (backTo cpos (starEach [] X.env)).any (·.1) = false := by rfl) :
    PXv X (.Call (.Attribute (.Name x npos) "pop" apos) [e] [] cpos) (xPopA i fk) := by
  refine imp_e (pe_bm PySem.F.plainAttrs_list PySem.F.slot_list_pop PySem.F.type_list_pop mt_popAt (pe_var hN hvs hd hcd) (pa_cons hk pa_nil hs) hbase hfew hline hs hplain) fun σ H Q ⟨N, H0, ρ, L, ρ', r, sim, z, q⟩ => ?_
  unfold xPopA at z
  split at z
  · rename_i s es
    split at z
    · rename_i ds hd
      obtain ⟨y, e1, z⟩ := bind_some z
      split at z
      · rename_i k hy
        obtain ⟨j, e3, z⟩ := bind_some z
        split at z
        · rename_i hc
          obtain ⟨d, ed, z⟩ := Option.map_eq_some_iff.mp z
          cases z
          obtain ⟨a0, vs0, ev0, ha0, hlen0, _⟩ := sim.fewer (ds' := ds) es hd hc.1
          refine ⟨.ref a0, ev0, .inl ⟨rfl, vs0, SqL.of ha0⟩, one sim.h e1 fun ky H1 T s1 n1 d1 p1 => ?_⟩
          rw [hy] at p1
          obtain ⟨rfl, _⟩ := p1.int_inv
          obtain ⟨g1, g2, g3, g4⟩ := ixN_seq e3
          have hsz := hc.2.2
          obtain ⟨a, vs, ev, ha, hlen, get, go⟩ := (sim.same s1).fewer (ds' := ds.eraseIdx j) es hd hc.1
          rw [ev0] at ev
          cases ev
          obtain ⟨w, ew, rw1⟩ := get j d ed (immAll_get hc.2.1 ed)
          obtain ⟨L1, sim1, fr⟩ := go (ws := vs.eraseIdx j) (fun nd r => r.erase j nd)
          exact ⟨a0, vs, k, j, w, rfl, rfl, ha, by omega, by omega, by rw [hlen]; exact g1, ew, (q _ L1 sim1 ((Frm.same s1 fun b z => .inl z).trans fr)).atom (Same.refl _) fun S => rw1 S _⟩
        · cases z
      · cases z
    · cases z
  · cases z
theorem x_lst1 (he : PXv X e fx) (hs : starEach [e] X.env = (false, eval e X.env) :: starEach [] X.env := by rfl) : PXv X (.List [e] pos) (xLst1 fx) := by
  refine imp_e (pe_lst (pa_cons he pa_nil hs)) fun σ H Q ⟨N, H0, ρ, L, ρ', r, sim, z, q⟩ => ?_
  unfold xLst1 at z
  obtain ⟨⟨ρ1, r1⟩, e1, z⟩ := bind_some z
  split at z
  · rename_i hi
    cases z
    refine ⟨N, H0, ρ, L, ρ1, r1, sim, e1, fun H1 L1 sim1 fr v H2 F s2 n2 d2 p2 => ⟨le1000 (by simp), fun p np => ?_⟩⟩
    obtain ⟨_, rp⟩ := p2.of_imm (l' := .full) (S' := fun _ => False) hi
    have q := q H1 L1 sim1 fr
    refine q _ _ [p] (s2.trans (same_upd np)) (fun a m => (List.mem_cons.mp m).elim (fun e => e ▸ s2.free np) fun m => nomatch m) nodup1 (.nd1 (fun z => nomatch z) .lst upd_same (Rps.cons (F := []) (G := []) ?_ .nil))
    exact (rp.same (same_upd np)).mono fun a z => z.elim
  · cases z
end
end Ev
set_option Elab.async false
set_option linter.all false
set_option maxRecDepth 100000
namespace Tg
open PySem PySem.Spec L2 Ev
open PyProof.Rows hiding St
@[reducible] def letB {α β : Type} (x : α) (k : α → β) : β := k x
@[reducible] def bindO {α β : Type} (o : Option α) (k : α → Option β) : Option β := o.bind k
theorem bindO_some {α β : Type} {o : Option α} {k : α → Option β} {y : β} (h : bindO o k = some y) : ∃ x, o = some x ∧ k x = some y := bind_some h
inductive Ctl (σ R : Type) where
  | nx (s : σ) | bk (s : σ) | rt (r : R)
def forS {α σ : Type} : List α → σ → (α → σ → Option σ) → Option σ
  | [], s, _ => some s
  | x :: xs, s, f => bindO (f x s) fun s' => forS xs s' f
def forC {α σ R : Type} : List α → σ → (α → σ → Option (Ctl σ R)) → Option (σ ⊕ R)
  | [], s, _ => some (.inl s)
  | x :: xs, s, f => bindO (f x s) fun c => match c with
    | .nx s' => forC xs s' f
    | .bk s' => some (.inl s')
    | .rt r => some (.inr r)
def whS {σ : Type} : Nat → σ → (σ → Option Bool) → (σ → Option σ) → Option σ
  | 0, _, _, _ => none
  | n + 1, s, c, f => bindO (c s) fun k => if k = true then bindO (f s) fun s' => whS n s' c f else some s
def onS {σ R T : Type} (o : Option (σ ⊕ R)) (k : σ → Option T) (q : R → T) : Option T := bindO o fun c => match c with
  | .inl s => k s
  | .inr r => some (q r)
def big {α : Type} (xs : List α) : Option (List α) := if xs.length ≤ 1000000 then some xs else none
def appO {α : Type} (xs : List α) (x : α) : Option (List α) := if xs.length ≤ 1000000 then some (xs ++ [x]) else none
def catO {α : Type} (xs ys : List α) : Option (List α) := if xs.length + ys.length ≤ 1000000 then some (xs ++ ys) else none
def idx {α : Type} (xs : List α) (i : Int) : Option α := atI xs i
def lcM {α β : Type} (xs : List α) (p : α → Option Bool) (f : α → Option β) : Option (List β) := match xs with
  | [] => some []
  | x :: r => bindO (p x) fun k => if k = true then bindO (f x) fun y => (lcM r p f).map (y :: ·) else lcM r p f
def divO (i j : Int) : Option Int := if 0 < j ∧ j.natAbs.log2 < 9000 then some (i / j) else none
def modO (i j : Int) : Option Int := if 0 < j then some (i % j) else none
def rngO (i j : Int) : Option (List Int) := if -(2 ^ 62) ≤ i ∧ i < 2 ^ 62 ∧ -(2 ^ 62) ≤ j ∧ j < 2 ^ 62 then some ((List.range (j - i).toNat).map fun (k : Nat) => i + (k : Int)) else none
def aget {κ α : Type} [DecidableEq κ] (m : List (κ × α)) (k : κ) : Option α := (m.find? fun p => decide (p.1 = k)).map (·.2)
def ahas {κ α : Type} [DecidableEq κ] (m : List (κ × α)) (k : κ) : Bool := m.any fun p => decide (p.1 = k)
def aput {κ α : Type} [DecidableEq κ] (m : List (κ × α)) (k : κ) (v : α) : List (κ × α) := if ahas m k = true then m.map (fun p => if p.1 = k then (p.1, v) else p) else m ++ [(k, v)]
def aputO {κ α : Type} [DecidableEq κ] (m : List (κ × α)) (k : κ) (v : α) : Option (List (κ × α)) := if m.length < 1000000 then some (aput m k v) else none
abbrev dI : Int → D := D.int
abbrev dB : Bool → D := D.bl
section
variable {α β γ δ ε κ : Type}
abbrev dL (e : α → D) (xs : List α) : D := .lst (xs.map e)
abbrev dF (e : α → D) (xs : List α) : D := .fl (xs.map e)
abbrev dT2 (e : α → D) (f : β → D) (p : α × β) : D := .tup [e p.1, f p.2]
abbrev dKI (e : α → D) (m : List (Int × α)) : D := .dk (m.map fun p => (.inl p.1, e p.2))
end
inductive Md where
  | s | a | t | f | p (k : Nat)
structure Cl where
  d : D
  m : Md
  al : Bool
def Md.ok : Md → Sv → Prop
  | .s, x => x.l = .shr
  | .a, _ => True
  | .t, x => x.l ≠ .shr
  | .f, x => x.l = .full
  | .p k, x => x.l = .full ∧ x.pn = some k
structure Cl.ok (c : Cl) (s : Sv) : Prop where
  d : s.d = c.d
  m : imm c.d = false → c.m.ok s
  al : imm c.d = false → s.al = true → c.al = true
abbrev CS := List (Option Cl)
structure Rel (ρ : Ev.Env) (cs : CS) : Prop where
  len : ρ.length = cs.length
  at_ : ∀ (i : Nat) (c : Cl), cs[i]? = some (some c) → ∃ s, ρ[i]? = some (some s) ∧ c.ok s
def nthC : CS → Nat → Option Cl
  | [], _ => none
  | c :: _, 0 => c
  | _ :: cs, i + 1 => nthC cs i
theorem nthC_at : ∀ {cs : CS} {i : Nat} {c : Cl}, nthC cs i = some c → cs[i]? = some (some c)
  | [], _, _, h => by cases h
  | x :: _, 0, _, h => by simp only [nthC] at h; rw [h]; rfl
  | _ :: cs, i + 1, c, h => by simpa using nthC_at (cs := cs) (i := i) h
theorem Rel.nthC {ρ : Ev.Env} {cs : CS} (r : Rel ρ cs) {i : Nat} {c : Cl} (h : nthC cs i = some c) : ∃ s, ρ[i]? = some (some s) ∧ c.ok s := r.at_ i c (nthC_at h)
theorem Rel.lt {ρ : Ev.Env} {cs : CS} (r : Rel ρ cs) {i : Nat} {c : Cl} (h : Tg.nthC cs i = some c) : i < ρ.length := by
  obtain ⟨s, e, _⟩ := r.nthC h
  exact (List.getElem?_eq_some_iff.mp e).1
def put : CS → Nat → Cl → CS
  | [], _, _ => []
  | _ :: cs, 0, c => some c :: cs
  | x :: cs, i + 1, c => x :: put cs i c
theorem put_set : ∀ (cs : CS) (i : Nat) (c : Cl), put cs i c = cs.set i (some c)
  | [], _, _ => rfl
  | _ :: cs, 0, _ => rfl
  | x :: cs, i + 1, c => by show x :: put cs i c = _; rw [put_set cs i c]; rfl
theorem Rel.put {ρ : Ev.Env} {cs : CS} (r : Rel ρ cs) {i : Nat} {c : Cl} {s : Sv} (h : c.ok s) : Rel (ρ.set i (some s)) (put cs i c) where
  len := by rw [put_set, List.length_set, List.length_set, r.len]
  at_ := fun j c' e => by
    rw [put_set, List.getElem?_set] at e
    rw [List.getElem?_set]
    by_cases q : i = j
    · subst q
      rw [if_pos rfl] at e
      rw [if_pos rfl]
      split at e
      · rename_i hl
        cases e
        rw [if_pos (by rw [r.len]; exact hl)]
        exact ⟨s, rfl, h⟩
      · cases e
    · rw [if_neg q] at e
      rw [if_neg q]
      exact r.at_ j c' e
def leM : Md → Md → Bool
  | .s, .s => true | .f, .f => true | .f, .t => true | .t, .t => true | _, .a => true
  | .p _, .f => true | .p _, .t => true | .p k, .p j => decide (k = j) | _, _ => false
theorem leM_ok {m n : Md} (h : leM m n = true) {x : Sv} (k : m.ok x) : n.ok x := by
  cases m <;> cases n <;> first
    | exact k
    | trivial
    | (cases h; done)
    | (simp only [Md.ok] at k ⊢; rw [k]; decide)
    | exact k.1
    | (show x.l ≠ .shr; rw [k.1]; decide)
    | (have e := of_decide_eq_true h; subst e; exact k)
inductive Le : CS → CS → Prop
  | nil : Le [] []
  | no {x : Option Cl} {cs es : CS} : Le cs es → Le (x :: cs) (none :: es)
  | so {d : D} {m n : Md} {a b : Bool} {cs es : CS} : leM m n = true → (!a || b) = true → Le cs es → Le (some ⟨d, m, a⟩ :: cs) (some ⟨d, n, b⟩ :: es)
theorem Le.rel : ∀ {cs es : CS} {ρ : Ev.Env}, Le cs es → Rel ρ cs → Rel ρ es
  | _, _, _, .nil, r => r
  | _, _, [], .no h, r => by have := r.len; simp at this
  | _, _, [], .so h _ _, r => by have := r.len; simp at this
  | _, _, x :: ρ, .no (cs := cs) (es := es) h, r => by
    have q : Rel ρ es := h.rel ⟨by simpa using r.len, fun i c e => by simpa using r.at_ (i + 1) c (by simpa using e)⟩
    exact ⟨by simp [q.len], fun i c e => by
      cases i with
      | zero => simp at e
      | succ i => simpa using q.at_ i c (by simpa using e)⟩
  | _, _, x :: ρ, .so (d := d) (m := m) (n := n) (a := a) (b := b) (cs := cs) (es := es) h1 h2 h, r => by
    have q : Rel ρ es := h.rel ⟨by simpa using r.len, fun i c e => by simpa using r.at_ (i + 1) c (by simpa using e)⟩
    exact ⟨by simp [q.len], fun i c e => by
      cases i with
      | zero =>
        simp at e
        subst e
        obtain ⟨s, e1, k⟩ := r.at_ 0 ⟨d, m, a⟩ (by simp)
        refine ⟨s, e1, k.d, fun z => leM_ok h1 (k.m z), fun z w => ?_⟩
        have := k.al z w
        simp only at this
        subst this
        simpa using h2
      | succ i => simpa using q.at_ i c (by simpa using e)⟩
def fzC : CS → Nat → CS
  | [], _ => []
  | x :: cs, 0 => x.map (fun c => ⟨c.d, .s, c.al⟩) :: cs
  | x :: cs, i + 1 => x :: fzC cs i
def fzsC : List Nat → CS → CS
  | [], cs => cs
  | i :: is, cs => fzsC is (fzC cs i)
theorem fzC_get : ∀ (cs : CS) (i j : Nat) (c : Cl), (fzC cs i)[j]? = some (some c) → (j ≠ i ∧ cs[j]? = some (some c)) ∨ (j = i ∧ ∃ c0, cs[j]? = some (some c0) ∧ c = ⟨c0.d, .s, c0.al⟩)
  | [], _, _, _, h => by simp [fzC] at h
  | x :: cs, 0, 0, c, h => by
    cases x with
    | none => simp [fzC] at h
    | some c0 => simp [fzC] at h; exact .inr ⟨rfl, c0, rfl, h.symm⟩
  | x :: cs, 0, j + 1, c, h => .inl ⟨by omega, by simpa [fzC] using h⟩
  | x :: cs, i + 1, 0, c, h => .inl ⟨by omega, by simpa [fzC] using h⟩
  | x :: cs, i + 1, j + 1, c, h => by
    rcases fzC_get cs i j c (by simpa [fzC] using h) with ⟨h1, h2⟩ | ⟨h1, c0, h2, h3⟩
    · exact .inl ⟨by omega, by simpa using h2⟩
    · exact .inr ⟨by omega, c0, by simpa using h2, h3⟩
theorem fzC_len : ∀ (cs : CS) (i : Nat), (fzC cs i).length = cs.length
  | [], _ => rfl
  | x :: cs, 0 => rfl
  | x :: cs, i + 1 => by show (fzC cs i).length + 1 = _; rw [fzC_len cs i]; rfl
theorem frz_get (ρ : Ev.Env) (i j : Nat) : (frz i ρ)[j]? = if j = i then (ρ[j]?).map (fun x => x.map fun s => ⟨s.d, .shr, s.al, none⟩) else ρ[j]? := by
  unfold frz
  by_cases h : j = i
  · subst h
    rw [if_pos rfl]
    cases e : ρ[j]? with
    | none => simp [e]
    | some x =>
      cases x with
      | none => simp [e]
      | some s =>
        have := (List.getElem?_eq_some_iff.mp e).1
        simp [this]
  · rw [if_neg h]
    split
    · rw [List.getElem?_set_ne (fun z => h z.symm)]
    · rfl
theorem frz_len (ρ : Ev.Env) (i : Nat) : (frz i ρ).length = ρ.length := by
  unfold frz
  split <;> simp
theorem Rel.fz {ρ : Ev.Env} {cs : CS} (r : Rel ρ cs) (i : Nat) : Rel (frz i ρ) (fzC cs i) where
  len := by rw [frz_len, fzC_len, r.len]
  at_ := fun j c e => by
    rw [frz_get]
    rcases fzC_get cs i j c e with ⟨h1, h2⟩ | ⟨h1, c0, h2, rfl⟩
    · rw [if_neg h1]
      exact r.at_ j c h2
    · rw [if_pos h1]
      obtain ⟨s, e1, k⟩ := r.at_ j c0 h2
      rw [e1]
      exact ⟨_, rfl, k.d, fun _ => rfl, k.al⟩
theorem Rel.fzs : ∀ (is : List Nat) {ρ : Ev.Env} {cs : CS}, Rel ρ cs → Rel (frzs is ρ) (fzsC is cs)
  | [], _, _, r => r
  | i :: is, _, _, r => Rel.fzs is (r.fz i)
def leL : Lv → Lv → Bool
  | .shr, _ => true | .top, .top => true | .top, .full => true | .full, .full => true | _, _ => false
structure ROk (r : Rv) (d : D) (l : Lv) (al vw : Bool) : Prop where
  d : r.d = d
  l : leL l r.l = true
  al : r.al = true → al = true
  vw : r.vw = true → vw = true
def JE (cs : CS) (f : EvE) (d : D) (l : Lv) (al vw : Bool) : Prop := ∀ ρ, Rel ρ cs → ∃ r, f ρ = some r ∧ ROk r d l al vw
abbrev JI (cs : CS) (f : EvE) (d : D) : Prop := JE cs f d .full false false
def JEo {α : Type} (cs : CS) (f : EvE) (e : α → D) (o : Option α) (l : Lv) (al vw : Bool) : Prop := ∀ x, o = some x → JE cs f (e x) l al vw
def JT (cs : CS) (f : EvT) (b : Bool) : Prop := ∀ ρ, Rel ρ cs → f ρ = some b
def JTo (cs : CS) (f : EvT) (o : Option Bool) : Prop := ∀ b, o = some b → JT cs f b
structure AOk (rs : List Rv) (ds : List D) (fl al vw : Bool) : Prop where
  d : rs.map (·.d) = ds
  fl : fl = true → ∀ r ∈ rs, r.l = .full
  al : ∀ r ∈ rs, r.al = true → al = true
  vw : ∀ r ∈ rs, r.vw = true → vw = true
def JA (cs : CS) (g : EvA) (ds : List D) (fl al vw : Bool) : Prop := ∀ ρ, Rel ρ cs → ∃ rs, g ρ = some rs ∧ AOk rs ds fl al vw
def JIt {α : Type} (cs : CS) (it : EvI) (xs : List α) (e : α → D) (al : Bool) : Prop := ∀ ρ, Rel ρ cs → ∃ a, (a = true → al = true) ∧ it ρ = some (xs.map fun x => (e x, a))
def JS {T : Type} (cs : CS) (b : EvS) (o : Option T) (Ψ : T → Out → Prop) : Prop := ∀ ρ, Rel ρ cs → ∀ t, o = some t → ∃ out, b ρ = some out ∧ Ψ t out
def ΨR {R : Type} (e : R → D) (l : Lv) (a : Bool) (P : R → Ev.Env → Prop := fun _ _ => True) (r : R) : Out → Prop
  | .rt ρ d l' a' => d = e r ∧ leL l l' = true ∧ (a' = true → a = true) ∧ P r ρ
  | _ => False
def ΨJ {σ : Type} (C : σ → CS) (s : σ) : Out → Prop
  | .nx ρ => Rel ρ (C s)
  | _ => False
def ΨL {σ : Type} (C : σ → CS) (s : σ) : Out → Prop
  | .nx ρ => Rel ρ (C s)
  | .ct ρ => Rel ρ (C s)
  | _ => False
def ΨC {σ R : Type} (C : σ → CS) (e : R → D) (l : Lv) (a : Bool) (P : R → Ev.Env → Prop := fun _ _ => True) : Ctl σ R → Out → Prop
  | .nx s, .nx ρ => Rel ρ (C s)
  | .nx s, .ct ρ => Rel ρ (C s)
  | .bk s, .bk ρ => Rel ρ (C s)
  | .rt r, .rt ρ d l' a' => d = e r ∧ leL l l' = true ∧ (a' = true → a = true) ∧ P r ρ
  | _, _ => False
end Tg
set_option Elab.async false
set_option linter.all false
set_option maxRecDepth 100000
namespace Tg
open PySem PySem.Spec L2 Ev
open PyProof.Rows hiding St
theorem ROk.i (d : D) : ROk (rA d) d .full false false := ⟨rfl, rfl, fun h => h, fun h => h⟩
theorem leL_shr (l : Lv) : leL .shr l = true := by cases l <;> rfl
theorem leL_full {l : Lv} (h : leL .full l = true) : l = .full := by cases l <;> first | rfl | cases h
theorem leL_trans {a b c : Lv} (h : leL a b = true) (h2 : leL b c = true) : leL a c = true := by cases a <;> cases b <;> cases c <;> first | rfl | (cases h; done) | (cases h2; done)
section
variable {cs : CS} {f g : EvE} {ga : EvA} {t t2 : EvT} {i j : Int} {d d2 : D} {l l2 : Lv} {a a2 v v2 : Bool} {α β γ δ ε : Type} {e : α → D} {e2 : β → D}
theorem JE.w (h : JE cs f d l a v) (hl : leL l2 l = true := by rfl) (ha : (!a || a2) = true := by rfl) (hv : (!v || v2) = true := by rfl) : JE cs f d l2 a2 v2 := fun ρ r => by
  obtain ⟨x, e, k⟩ := h ρ r
  refine ⟨x, e, k.d, leL_trans hl k.l, fun z => ?_, fun z => ?_⟩
  · have := k.al z; subst this; simpa using ha
  · have := k.vw z; subst this; simpa using hv
theorem JE.cast (h : JE cs f d l a v) (e : d = d2) : JE cs f d2 l a v := e ▸ h
theorem jn_i {i : Nat} {d : D} {m : Md} {al : Bool} (h : nthC cs i = some ⟨d, m, al⟩) (hi : imm d = true) : JI cs (eName i) d := fun ρ r => by
  obtain ⟨s, e, k⟩ := r.nthC h
  refine ⟨rA d, ?_, .i _⟩
  have hd : s.d = d := k.d
  unfold eName
  rw [e]
  simp only [hd, hi, if_true]
theorem jn_s {i : Nat} {d : D} {al : Bool} (h : nthC cs i = some ⟨d, .s, al⟩) : JE cs (eName i) d .shr al false := fun ρ r => by
  obtain ⟨s, e, k⟩ := r.nthC h
  unfold eName
  rw [e]
  by_cases hi : imm s.d = true
  · exact ⟨rA s.d, by simp only [hi, if_true], k.d, rfl, fun h => (nomatch h), fun h => nomatch h⟩
  · refine ⟨_, by simp only [hi]; rfl, k.d, rfl, ?_, ?_⟩
    · exact k.al (by rw [← k.d]; simpa using hi)
    · intro z
      have := k.m (by rw [← k.d]; simpa using hi)
      have : s.l = .shr := this
      simp [this] at z
theorem jn_v {i : Nat} {d : D} {m : Md} {al : Bool} (h : nthC cs i = some ⟨d, m, al⟩) : JE cs (eName i) d .shr al true := fun ρ r => by
  obtain ⟨s, e, k⟩ := r.nthC h
  unfold eName
  rw [e]
  by_cases hi : imm s.d = true
  · exact ⟨rA s.d, by simp only [hi, if_true], k.d, rfl, fun h => (nomatch h), fun h => rfl⟩
  · refine ⟨_, by simp only [hi]; rfl, k.d, rfl, ?_, fun _ => rfl⟩
    exact k.al (by rw [← k.d]; simpa using hi)
theorem jc : JI cs (eC d) d := fun ρ r => ⟨rA d, rfl, .i d⟩
theorem je_op {C : Int → Int → Bool} {G : Int → Int → D} (h1 : JE cs f (.int i) l a v) (h2 : JE cs g (.int j) l2 a2 v2) (hc : C i j = true) : JI cs (eOp C G f g) (G i j) := fun ρ r => by
  obtain ⟨x, e1, k1⟩ := h1 ρ r
  obtain ⟨y, e2, k2⟩ := h2 ρ r
  refine ⟨rA (G i j), ?_, .i _⟩
  unfold eOp
  rw [e1, e2]
  simp only [Option.bind_some, k1.d, k2.d, hc, if_true]
theorem je_add (h1 : JE cs f (.int i) l a v) (h2 : JE cs g (.int j) l2 a2 v2) : JI cs (ePlus f g) (.int (i + j)) := fun ρ r => by
  obtain ⟨x, e, k⟩ := je_op (C := cT) (G := fun i j => .int (i + j)) h1 h2 rfl ρ r
  refine ⟨x, ?_, k⟩
  have e' : eAdd f g ρ = some x := e
  unfold ePlus
  rw [e']
  rfl
theorem je_sub (h1 : JE cs f (.int i) l a v) (h2 : JE cs g (.int j) l2 a2 v2) : JI cs (eSub f g) (.int (i - j)) := je_op (C := cT) (G := fun i j => .int (i - j)) h1 h2 rfl
theorem je_divO {k : Int} (h1 : JE cs f (.int i) l a v) (h2 : JE cs g (.int j) l2 a2 v2) (h : divO i j = some k) : JI cs (eDiv f g) (.int k) := by
  unfold divO at h
  split at h
  · cases h
    exact je_op (G := fun i j => .int (i / j)) h1 h2 (decide_eq_true ‹_›)
  · cases h
theorem je_divL (h1 : JE cs f (.int i) l a v) (h2 : JE cs g (.int j) l2 a2 v2) (h : decide (0 < j ∧ j.natAbs.log2 < 9000) = true := by decide +kernel) : JI cs (eDiv f g) (.int (i / j)) := je_divO h1 h2 (by unfold divO; rw [if_pos (of_decide_eq_true h)])
theorem je_modO {k : Int} (h1 : JE cs f (.int i) l a v) (h2 : JE cs g (.int j) l2 a2 v2) (h : modO i j = some k) : JI cs (eMod f g) (.int k) := by
  unfold modO at h
  split at h
  · cases h
    exact je_op (G := fun i j => .int (i % j)) h1 h2 (decide_eq_true ‹_›)
  · cases h
theorem je_modP (h1 : JE cs f (.int i) l a v) (h2 : JE cs g (.int j) l2 a2 v2) (h : 0 < j) : JI cs (eMod f g) (.int (i % j)) := je_modO h1 h2 (by unfold modO; rw [if_pos h])
theorem je_modL (h1 : JE cs f (.int i) l a v) (h2 : JE cs g (.int j) l2 a2 v2) (h : decide (0 < j) = true := by decide) : JI cs (eMod f g) (.int (i % j)) := je_modP h1 h2 (of_decide_eq_true h)
theorem je_neg (h1 : JE cs f (.int i) l a v) : JI cs (eNeg f) (.int (-i)) := fun ρ r => by
  obtain ⟨x, e1, k1⟩ := h1 ρ r
  refine ⟨rA (.int (-i)), ?_, .i _⟩
  unfold eNeg
  rw [e1]
  simp only [Option.bind_some, k1.d]
def maxI (i j : Int) : Int := if j > i then j else i
def minI (i j : Int) : Int := if j < i then j else i
theorem je_cmp {G : D → D → Option Bool} {b : Bool} (h1 : JE cs f d l a v) (h2 : JE cs g d2 l2 a2 v2) (h : G d d2 = some b) : JI cs (eCmp G f g) (.bl b) := fun ρ r => by
  obtain ⟨x, e1, k1⟩ := h1 ρ r
  obtain ⟨y, e2, k2⟩ := h2 ρ r
  refine ⟨rA (.bl b), ?_, .i _⟩
  unfold eCmp
  rw [e1, e2]
  simp only [Option.bind_some, k1.d, k2.d, h]
  rfl
theorem jt_cmp {G : D → D → Option Bool} {b : Bool} (h1 : JE cs f d l a v) (h2 : JE cs g d2 l2 a2 v2) (h : G d d2 = some b) : JT cs (tCmp G f g) b := fun ρ r => by
  obtain ⟨x, e1, k1⟩ := h1 ρ r
  obtain ⟨y, e2, k2⟩ := h2 ρ r
  unfold Ev.tCmp
  rw [e1, e2]
  simp only [Option.bind_some, k1.d, k2.d, h]
theorem q_ltI : gLt (.int i) (.int j) = some (decide (i < j)) := rfl
theorem q_geI : gGe (.int i) (.int j) = some (decide (i ≥ j)) := rfl
def ltP2 (p q : Int × Int) : Bool := HT.lexLt [p.1, p.2] [q.1, q.2]
def leP2 (p q : Int × Int) : Bool := leT [p.1, p.2] [q.1, q.2]
theorem q_le2 (p q : Int × Int) : gLe (dT2 dI dI p) (dT2 dI dI q) = some (leP2 p q) := rfl
structure EqOk (n : Nat) (e : α → D) [DecidableEq α] : Prop where
  shp : ∀ x m, n ≤ m → shp m (e x) = true
  eq : ∀ x y, deq (e x) (e y) = decide (x = y)
theorem ek_int : EqOk 0 dI := ⟨fun x m _ => by simp [Ev.shp], fun x y => deq_int x y⟩
theorem shps_map {n : Nat} (h : ∀ x, shp n (e x) = true) : ∀ xs : List α, shps n (xs.map e) = true
  | [] => rfl
  | x :: xs => by rw [List.map_cons, shps, h, shps_map h xs]; rfl
theorem eqvAll_map [DecidableEq α] (h : ∀ x y, deq (e x) (e y) = decide (x = y)) : ∀ xs ys : List α, PyData.eqvAll (pds (xs.map e)) (pds (ys.map e)) = decide (xs = ys)
  | [], [] => by simp [pds, PyData.eqvAll]
  | [], _ :: _ => by simp [pds, PyData.eqvAll]
  | _ :: _, [] => by simp [pds, PyData.eqvAll]
  | x :: xs, y :: ys => by
    have hh := h x y
    unfold deq at hh
    simp only [List.map_cons, pds, PyData.eqvAll, eqvAll_map h xs ys, hh]
    by_cases q : x = y <;> simp [q]
theorem ek_list [DecidableEq α] {n : Nat} (h : EqOk n e) : EqOk (n + 1) (dL e) := ⟨fun x m hm => by
    obtain ⟨k, rfl⟩ : ∃ k, m = k + 1 := ⟨m - 1, by omega⟩
    simp only [Ev.shp]
    exact shps_map (fun y => h.shp y k (by omega)) x, fun x y => by
    unfold deq
    simp only [pd, PyData.eqv]
    exact eqvAll_map h.eq x y⟩
theorem ek_t2 [DecidableEq α] [DecidableEq β] {n m : Nat} (h : EqOk n e) (h2 : EqOk m e2) : EqOk (max n m + 1) (dT2 e e2) := ⟨fun x k hk => by
    obtain ⟨k, rfl⟩ : ∃ j, k = j + 1 := ⟨k - 1, by omega⟩
    simp only [Ev.shp, shps]
    rw [h.shp _ k (by omega), h2.shp _ k (by omega)]
    rfl, fun x y => by
    have q1 := h.eq x.1 y.1
    have q2 := h2.eq x.2 y.2
    unfold deq at q1 q2 ⊢
    simp only [pd, pds, PyData.eqv, PyData.eqvAll, q1, q2]
    obtain ⟨x1, x2⟩ := x
    obtain ⟨y1, y2⟩ := y
    by_cases z1 : x1 = y1 <;> by_cases z2 : x2 = y2 <;> simp [z1, z2]⟩
theorem q_eq [DecidableEq α] {n : Nat} (h : EqOk n e) (x y : α) [Decidable (x = y)] (hn : decide (n ≤ 8) = true := by decide) : gEq (e x) (e y) = some (decide (x = y)) := by
  unfold gEq
  rw [h.shp x 8 (of_decide_eq_true hn), h.shp y 8 (of_decide_eq_true hn), h.eq]
  simp only [Bool.and_self, if_true]
  congr 1
  first | exact decide_eq_decide.mpr Iff.rfl | exact congrArg _ (decide_eq_decide.mpr Iff.rfl)
theorem q_ne [DecidableEq α] {n : Nat} (h : EqOk n e) (x y : α) [Decidable (x = y)] (hn : decide (n ≤ 8) = true := by decide) : gNe (e x) (e y) = some (!decide (x = y)) := by
  unfold gNe
  rw [h.shp x 8 (of_decide_eq_true hn), h.shp y 8 (of_decide_eq_true hn), h.eq]
  simp only [Bool.and_self, if_true]
  congr 1
  first | exact decide_eq_decide.mpr Iff.rfl | exact congrArg _ (decide_eq_decide.mpr Iff.rfl)
theorem any_map_mem' [DecidableEq α] (h : ∀ x y, deq (e x) (e y) = decide (x = y)) (x : α) : ∀ xs : List α, ((xs.map e).any fun z => deq z (e x)) = decide (x ∈ xs)
  | [] => by simp
  | y :: ys => by
    rw [List.map_cons, List.any_cons, any_map_mem' h x ys, h]
    by_cases q : y = x
    · simp [q]
    · simp [q]; exact fun z => absurd z.symm q
theorem any_map_mem [DecidableEq α] (h : ∀ x y, deq (e x) (e y) = decide (x = y)) (x : α) (xs : List α) [Decidable (x ∈ xs)] : ((xs.map e).any fun z => deq z (e x)) = decide (x ∈ xs) := by
  rw [any_map_mem' h x xs]
  exact decide_eq_decide.mpr Iff.rfl
theorem or_none_l {γ : Type} (x : Option γ) : (none : Option γ).or x = x := by cases x <;> rfl
theorem gInL_l (n : Bool) (d : D) (ds : List D) : gInL n d (.lst ds) = if (shp 8 d && shps 7 ds) = true then some (n != (ds.any fun z => deq z d)) else none := by cases d <;> rfl
theorem q_ninL [DecidableEq α] {n : Nat} (h : EqOk n e) (x : α) (xs : List α) [Decidable (x ∈ xs)] (hn : decide (n ≤ 7) = true := by decide) : gNin (e x) (dL e xs) = some (!decide (x ∈ xs)) := by
  have hn := of_decide_eq_true hn
  show (gInL true (e x) (.lst (xs.map e))).or _ = _
  rw [gInL_l, h.shp x 8 (by omega), shps_map (fun y => h.shp y 7 hn), any_map_mem h.eq]
  cases decide (x ∈ xs) <;> rfl
theorem dhas_KI (m : List (Int × α)) (k : Int) : dhas (m.map fun p => ((.inl p.1 : Key), e p.2)) (.inl k) = ahas m k := by
  unfold dhas ahas
  rw [List.any_map]
  congr 1
  funext p
  simp only [Function.comp]
  by_cases h : p.1 = k <;> simp [h]
theorem dlook_KI (m : List (Int × α)) (k : Int) : dlook (m.map fun p => ((.inl p.1 : Key), e p.2)) (.inl k) = (aget m k).map e := by
  unfold dlook aget
  rw [List.find?_map, Option.map_map, Option.map_map]
  have : ((fun (p : Key × D) => decide (p.1 = .inl k)) ∘ fun (p : Int × α) => ((.inl p.1 : Key), e p.2)) = fun p => decide (p.1 = k) := by
    funext p
    simp only [Function.comp]
    by_cases h : p.1 = k <;> simp [h]
  rw [this]
  rfl
theorem q_inKI (m : List (Int × α)) (k : Int) : gIn (.int k) (dKI e m) = some (ahas m k) := by
  show some (false != dhas _ _) = _
  rw [dhas_KI]
  cases ahas m k <;> rfl
theorem q_ninKI (m : List (Int × α)) (k : Int) : gNin (.int k) (dKI e m) = some (!ahas m k) := by
  show some (true != dhas _ _) = _
  rw [dhas_KI]
  cases ahas m k <;> rfl
theorem q_inT2 (x : Int) (p : Int × Int) : gIn (.int x) (dT2 dI dI p) = some (p.1 == x || p.2 == x) := by
  show some (false != ([p.1, p.2].any fun z => z == x)) = _
  simp
theorem jt_val {b : Bool} (h : JE cs f (.bl b) l a v) : JT cs (tVal f) b := fun ρ r => by
  obtain ⟨x, e1, k1⟩ := h ρ r
  unfold tVal
  rw [e1]
  simp only [Option.bind_some, k1.d]
theorem jt_and {b c : Bool} (h : JT cs t b) (h2 : JT cs t2 c) : JT cs (tAnd t t2) (b && c) := fun ρ r => by
  unfold Ev.tAnd
  rw [h ρ r]
  cases b with
  | true => exact h2 ρ r
  | false => rfl
theorem jt_or {b c : Bool} (h : JT cs t b) (h2 : JT cs t2 c) : JT cs (tOr t t2) (b || c) := fun ρ r => by
  unfold Ev.tOr
  rw [h ρ r]
  cases b with
  | false => exact h2 ρ r
  | true => rfl
theorem jt_not {b : Bool} (h : JT cs t b) : JT cs (tNot t) (!b) := fun ρ r => by
  unfold Ev.tNot
  rw [h ρ r]
  rfl
theorem jt_andO {b c : Bool} {o : Option Bool} (h : JT cs t b) (h2 : JTo cs t2 o) (hc : (if b = true then o else some false) = some c) : JT cs (tAnd t t2) c := fun ρ r => by
  unfold Ev.tAnd
  rw [h ρ r]
  cases b with
  | true => exact h2 c hc ρ r
  | false => cases hc; rfl
theorem jt_orO {b c : Bool} {o : Option Bool} (h : JT cs t b) (h2 : JTo cs t2 o) (hc : (if b = true then some true else o) = some c) : JT cs (tOr t t2) c := fun ρ r => by
  unfold Ev.tOr
  rw [h ρ r]
  cases b with
  | false => exact h2 c hc ρ r
  | true => cases hc; rfl
theorem jto_p {b : Bool} (h : JT cs t b) : JTo cs t (some b) := fun c e => by cases e; exact h
theorem jto_b {k : α → Option Bool} {o : Option α} (h : ∀ x, o = some x → JTo cs t (k x)) : JTo cs t (bindO o k) := fun c e => by
  obtain ⟨x, e1, e2⟩ := bindO_some e
  exact h x e1 c e2
theorem jeo_p {x : α} (h : JE cs f (e x) l a v) : JEo cs f e (some x) l a v := fun c q => by cases q; exact h
theorem jeo_b {k : β → Option α} {o : Option β} (h : ∀ x, o = some x → JEo cs f e (k x) l a v) : JEo cs f e (bindO o k) l a v := fun c q => by
  obtain ⟨x, e1, e2⟩ := bindO_some q
  exact h x e1 c e2
theorem je_not {b : Bool} (h : JE cs f (.bl b) l a v) : JI cs (eNot f) (.bl !b) := fun ρ r => by
  obtain ⟨x, e1, k1⟩ := h ρ r
  refine ⟨rA (.bl !b), ?_, .i _⟩
  unfold eNot
  rw [e1]
  simp only [Option.bind_some, k1.d]
theorem je_andO {b c : Bool} {o : Option Bool} (h : JE cs f (.bl b) l a v) (h2 : JEo cs g dB o .full false false) (hc : (if b = true then o else some false) = some c) : JI cs (eAnd f g) (.bl c) := fun ρ r => by
  obtain ⟨x, e1, k1⟩ := h ρ r
  unfold eAnd
  rw [e1]
  simp only [Option.bind_some, k1.d]
  cases b with
  | true => exact h2 c hc ρ r
  | false => cases hc; exact ⟨_, rfl, .i _⟩
theorem je_and {b c : Bool} (h : JE cs f (.bl b) l a v) (h2 : JI cs g (.bl c)) : JI cs (eAnd f g) (.bl (b && c)) := je_andO (o := some c) h (jeo_p (e := dB) h2) (by cases b <;> rfl)
theorem ja_nil : JA cs aNil [] true false false := fun ρ r => ⟨[], rfl, rfl, fun _ _ h => (nomatch h), fun _ h => (nomatch h), fun _ h => nomatch h⟩
def isFull : Lv → Bool
  | .full => true
  | _ => false
theorem ja_cons {ds : List D} {fl al vw : Bool} (h : JE cs f d l a v) (h2 : JA cs ga ds fl al vw) : JA cs (aCons f ga) (d :: ds) (isFull l && fl) (a || al) (v || vw) := fun ρ r => by
  obtain ⟨x, e1, k1⟩ := h ρ r
  obtain ⟨rs, e2, k2⟩ := h2 ρ r
  refine ⟨x :: rs, ?_, ?_, ?_, ?_, ?_⟩
  · unfold aCons
    rw [e1, e2]
    rfl
  · rw [List.map_cons, k1.d, k2.d]
  · intro z y hy
    rw [Bool.and_eq_true] at z
    rcases List.mem_cons.mp hy with rfl | hy
    · have hl : l = .full := by cases l <;> first | rfl | (cases z.1; done)
      subst hl
      exact leL_full k1.l
    · exact k2.fl z.2 y hy
  · intro y hy z
    rcases List.mem_cons.mp hy with rfl | hy
    · rw [k1.al z]; rfl
    · rw [k2.al y hy z]; cases a <;> rfl
  · intro y hy z
    rcases List.mem_cons.mp hy with rfl | hy
    · rw [k1.vw z]; rfl
    · rw [k2.vw y hy z]; cases v <;> rfl
theorem AOk.nvw {rs : List Rv} {ds : List D} {fl al : Bool} (k : AOk rs ds fl al false) : rs.all (fun r => !r.vw) = true := List.all_eq_true.mpr fun y hy => by
  cases z : y.vw with
  | false => rfl
  | true => exact nomatch k.vw y hy z
theorem AOk.anyal {rs : List Rv} {ds : List D} {fl al vw : Bool} (k : AOk rs ds fl al vw) (h : rs.any (·.al) = true) : al = true := by
  obtain ⟨y, hy, z⟩ := List.any_eq_true.mp h
  exact k.al y hy z
theorem AOk.anyvw {rs : List Rv} {ds : List D} {fl al vw : Bool} (k : AOk rs ds fl al vw) (h : rs.any (·.vw) = true) : vw = true := by
  obtain ⟨y, hy, z⟩ := List.any_eq_true.mp h
  exact k.vw y hy z
theorem AOk.allfull {rs : List Rv} {ds : List D} {al : Bool} (k : AOk rs ds true al false) : rs.all (fun r => !r.vw && decide (r.l = .full)) = true := List.all_eq_true.mpr fun y hy => by
  rw [k.fl rfl y hy]
  have := List.all_eq_true.mp k.nvw y hy
  simp [this]
theorem je_tup {ds : List D} {fl al : Bool} (h : JA cs ga ds fl al false) (hl : decide (ds.length ≤ 1000) = true := by rfl) : JE cs (eTup ga) (.tup ds) (if fl = true then .full else .shr) al false := fun ρ r => by
  obtain ⟨rs, e2, k⟩ := h ρ r
  have hlen : rs.length ≤ 1000 := by rw [← List.length_map (f := fun r : Rv => r.d), k.d]; exact of_decide_eq_true hl
  unfold eTup mkTup
  rw [e2]
  simp only [Option.bind_some]
  rw [if_pos (by rw [k.nvw, decide_eq_true hlen]; rfl)]
  cases fl with
  | true => rw [if_pos k.allfull]; exact ⟨_, rfl, by rw [k.d], rfl, k.anyal, fun h => nomatch h⟩
  | false =>
    split
    · exact ⟨_, rfl, by rw [k.d], rfl, k.anyal, fun h => nomatch h⟩
    · exact ⟨_, rfl, by rw [k.d], rfl, k.anyal, fun h => nomatch h⟩
theorem je_lst {ds : List D} {fl al : Bool} (h : JA cs ga ds fl al false) (hl : decide (ds.length ≤ 1000) = true := by rfl) : JE cs (eLst ga) (.lst ds) (if fl = true then .full else .top) al false := fun ρ r => by
  obtain ⟨rs, e2, k⟩ := h ρ r
  have hlen : rs.length ≤ 1000 := by rw [← List.length_map (f := fun r : Rv => r.d), k.d]; exact of_decide_eq_true hl
  unfold eLst mkLst
  rw [e2]
  simp only [Option.bind_some]
  rw [if_pos (by rw [k.nvw, decide_eq_true hlen]; rfl)]
  cases fl with
  | true => rw [if_pos k.allfull]; exact ⟨_, rfl, by rw [k.d], rfl, k.anyal, fun h => nomatch h⟩
  | false =>
    split
    · exact ⟨_, rfl, by rw [k.d], rfl, k.anyal, fun h => nomatch h⟩
    · exact ⟨_, rfl, by rw [k.d], rfl, k.anyal, fun h => nomatch h⟩
theorem je_dk : JI cs eDk (.dk []) := fun ρ r => ⟨_, rfl, rfl, rfl, fun h => (nomatch h), fun h => nomatch h⟩
theorem part_ok {x : Rv} (k : ROk x d l a v) (d' : D) : ROk (part x d') d' (if imm d' = true then .full else .shr) a v := by
  unfold Ev.part
  by_cases hi : imm d' = true
  · rw [if_pos hi, if_pos hi]
    exact ⟨rfl, rfl, fun h => (nomatch h), fun h => nomatch h⟩
  · rw [if_neg hi, if_neg hi]
    exact ⟨rfl, rfl, k.al, k.vw⟩
theorem part_okI {x : Rv} {d' : D} (h : imm d' = true) : ROk (part x d') d' .full false false := by
  unfold Ev.part
  rw [if_pos h]
  exact .i d'
theorem je_ix {d' : D} (h1 : JE cs f d l a v) (h2 : JE cs g d2 l2 a2 v2) (h : gIx d d2 = some d') : JE cs (eIx f g) d' .shr a v := fun ρ r => by
  obtain ⟨x, e1, k1⟩ := h1 ρ r
  obtain ⟨y, e2, k2⟩ := h2 ρ r
  refine ⟨part x d', ?_, ?_⟩
  · unfold eIx
    rw [e1, e2]
    simp only [Option.bind_some, k1.d, k2.d, h, Option.map_some]
  · have := part_ok k1 d'
    exact ⟨this.d, leL_shr _, this.al, this.vw⟩
theorem je_ixI {d' : D} (h1 : JE cs f d l a v) (h2 : JE cs g d2 l2 a2 v2) (h : gIx d d2 = some d') (hi : imm d' = true) : JI cs (eIx f g) d' := fun ρ r => by
  obtain ⟨x, e1, k1⟩ := h1 ρ r
  obtain ⟨y, e2, k2⟩ := h2 ρ r
  refine ⟨part x d', ?_, part_okI hi⟩
  unfold eIx
  rw [e1, e2]
  simp only [Option.bind_some, k1.d, k2.d, h, Option.map_some]
theorem atI_map {xs : List α} {y : α} (h : idx xs i = some y) : atI (xs.map e) i = some (e y) := by
  unfold idx atI at h
  unfold atI
  rw [List.length_map]
  obtain ⟨j, e1, e2⟩ := bind_some h
  rw [e1]
  simp only [Option.bind_some, List.getElem?_map, e2, Option.map_some]
theorem x_l {xs : List α} {y : α} (h : idx xs i = some y) : gIx (dL e xs) (.int i) = some (e y) := atI_map h
theorem x_f {xs : List α} {y : α} (h : idx xs i = some y) : gIx (dF e xs) (.int i) = some (e y) := atI_map h
theorem x_KI {m : List (Int × α)} {k : Int} {y : α} (h : aget m k = some y) : gIx (dKI e m) (.int k) = some (e y) := by
  show dlook _ _ = _
  rw [dlook_KI, h]
  rfl
theorem je_len {n : Nat} (h : JE cs f d l a v) (hn : lenOf d = some n) : JI cs (eLen (aCons f aNil)) (.int n) := fun ρ r => by
  obtain ⟨x, e1, k1⟩ := h ρ r
  refine ⟨rI n, ?_, .i _⟩
  unfold eLen aCons aNil
  simp only [e1, Option.bind_some, k1.d, hn, Option.map_some]
  rfl
theorem n_l (xs : List α) : lenOf (dL e xs) = some xs.length := by show some _ = _; rw [List.length_map]
theorem n_f (xs : List α) : lenOf (dF e xs) = some xs.length := by show some _ = _; rw [List.length_map]
def JO (cs : CS) (f : EvO) (o : Option Int) : Prop := ∀ ρ, Rel ρ cs → f ρ = some o
theorem jo_n : JO cs oNone none := fun ρ r => rfl
theorem jo_s (h : JE cs f (.int i) l a v) : JO cs (oSome f) (some i) := fun ρ r => by
  obtain ⟨x, e1, k1⟩ := h ρ r
  unfold oSome
  rw [e1]
  simp only [Option.bind_some, k1.d, intOf, Option.map_some]
theorem cutL_map (xs : List α) (lo hi : Option Int) : cutL (xs.map e) lo hi = (cutL xs lo hi).map e := by
  unfold cutL
  rw [List.length_map, List.map_take, List.map_drop]
theorem je_slI {f1 f2 : EvO} {lo hi : Option Int} {d' : D} {l' : Lv} (h : JE cs f d l a v) (h1 : JO cs f1 lo) (h2 : JO cs f2 hi) (hz : cutD d lo hi = some (d', l')) (hi' : imm d' = true ∨ whole d' = true ∧ l' = .top) : JI cs (eSl f f1 f2) d' := fun ρ r => by
  obtain ⟨x, e1, k1⟩ := h ρ r
  refine ⟨res x.al x.vw (d', l'), ?_, ?_⟩
  · unfold eSl
    rw [e1]
    simp only [Option.bind_some, h1 ρ r, h2 ρ r, k1.d, hz, Option.map_some]
  · unfold res
    by_cases q : imm d' = true
    · rw [if_pos q]; exact .i _
    · rw [if_neg q]
      rcases hi' with hi' | ⟨h3, h4⟩
      · exact absurd hi' q
      · rw [if_pos (by rw [h3, h4]; rfl)]
        exact ⟨rfl, rfl, fun h => (nomatch h), fun h => nomatch h⟩
theorem immAll_map (h : ∀ x, imm (e x) = true) : ∀ xs : List α, immAll (xs.map e) = true
  | [] => rfl
  | x :: xs => by rw [List.map_cons, immAll, h, immAll_map h xs]; rfl
theorem je_slLI {f1 f2 : EvO} {lo hi : Option Int} {xs : List α} (h : JE cs f (dL e xs) l a v) (h1 : JO cs f1 lo) (h2 : JO cs f2 hi) (hi' : ∀ x, imm (e x) = true) : JI cs (eSl f f1 f2) (dL e (cutL xs lo hi)) :=
  JE.cast (je_slI h h1 h2 rfl (.inr ⟨by rw [cutL_map]; exact immAll_map hi' _, rfl⟩)) (by rw [cutL_map])
theorem je_slFI {f1 f2 : EvO} {lo hi : Option Int} {xs : List α} (h : JE cs f (dF e xs) l a v) (h1 : JO cs f1 lo) (h2 : JO cs f2 hi) (hi' : ∀ x, imm (e x) = true) : JI cs (eSl f f1 f2) (dL e (cutL xs lo hi)) :=
  JE.cast (je_slI h h1 h2 rfl (.inr ⟨by rw [cutL_map]; exact immAll_map hi' _, rfl⟩)) (by rw [cutL_map])
theorem catO_len {xs ys zs : List α} (h : catO xs ys = some zs) : xs.length + ys.length ≤ 1000000 ∧ zs = xs ++ ys := by
  unfold catO at h
  split at h
  · cases h; exact ⟨‹_›, rfl⟩
  · cases h
theorem je_catI {xs ys zs : List α} (h : JE cs f (dL e xs) l a v) (h2 : JE cs g (dL e ys) l2 a2 v2) (hz : catO xs ys = some zs) (hi' : ∀ x, imm (e x) = true) : JI cs (ePlus f g) (dL e zs) := fun ρ r => by
  obtain ⟨x, e1, k1⟩ := h ρ r
  obtain ⟨y, e2, k2⟩ := h2 ρ r
  obtain ⟨hl, rfl⟩ := catO_len hz
  refine ⟨⟨.lst (xs.map e ++ ys.map e), .full, false, false⟩, ?_, ?_⟩
  · unfold ePlus eCat eAdd eOp
    rw [e1, e2]
    simp only [Option.bind_some, k1.d, k2.d, List.length_map]
    rw [if_pos hl]
    unfold res
    rw [if_neg (fun z => nomatch z), if_pos]
    · rfl
    · show (immAll _ && _) = true
      rw [← List.map_append, immAll_map hi']
      rfl
  · exact ⟨by simp, rfl, fun h => (nomatch h), fun h => nomatch h⟩
theorem res_I {al vw : Bool} {d' : D} {l' : Lv} (hi : imm d' = true ∨ whole d' = true ∧ l' = .top) : ROk (res al vw (d', l')) d' .full false false := by
  unfold res
  by_cases q : imm d' = true
  · rw [if_pos q]; exact .i _
  · rw [if_neg q]
    rcases hi with hi | ⟨h3, h4⟩
    · exact absurd hi q
    · rw [if_pos (by rw [h3, h4]; rfl)]
      exact ⟨rfl, rfl, fun h => (nomatch h), fun h => nomatch h⟩
theorem je_biI {G : List D → Option Ret} {ds : List D} {fl al vw : Bool} {l' : Lv} {d' : D} (h : JA cs ga ds fl al vw) (hz : G ds = some (d', l')) (hi : imm d' = true ∨ whole d' = true ∧ l' = .top) : JI cs (eBi G ga) d' := fun ρ r => by
  obtain ⟨rs, e2, k⟩ := h ρ r
  refine ⟨res (rs.any (·.al)) (rs.any (·.vw)) (d', l'), ?_, res_I hi⟩
  unfold eBi
  rw [e2]
  simp only [Option.bind_some, k.d, hz, Option.map_some]
theorem whole_map {xs : List α} (h : ∀ x, imm (e x) = true) : whole (dL e xs) = true := immAll_map h xs
theorem b_min : bMin2 [.int i, .int j] = some (.int (minI i j), .full) := rfl
theorem b_max : bMax2 [.int i, .int j] = some (.int (maxI i j), .full) := rfl
theorem blsOf_map : ∀ xs : List Bool, blsOf (xs.map dB) = some xs
  | [] => rfl
  | x :: xs => by
    show (some x).bind (fun i => (blsOf (xs.map dB)).map (i :: ·)) = _
    rw [blsOf_map xs]
    rfl
theorem b_all (xs : List Bool) : bAll [dL dB xs] = some (.bl (xs.all id), .full) := by
  unfold bAll
  simp only [blsOf_map, Option.map_some]
theorem b_list (xs : List α) : bList [dL e xs] = some (dL e xs, .top) := rfl
theorem rowsOf_m {ro : α → List Int} (h : ∀ x, e x = dRow (ro x)) : ∀ xs : List α, rowsOfL (xs.map e) = some (xs.map ro)
  | [] => rfl
  | x :: xs => by
    rw [List.map_cons, rowsOfL, rowsOf_m h xs, h]
    unfold rowOf dRow
    simp only [intsOf_map, Option.bind_some, Option.map_some, List.map_cons]
theorem b_sortedR {ro : α → List Int} {n : Nat} (h : ∀ x, e x = dRow (ro x)) (hn : ∀ x, (ro x).length = n + 1) (xs : List α) : bSorted [dL e xs] = some (dL e (isort (fun x y => HT.lexLt (ro x) (ro y)) xs), .top) := by
  cases xs with
  | nil => rfl
  | cons x xs =>
    have h1 : bSortedI [dL e (x :: xs)] = none := by
      unfold bSortedI
      simp only [seqOf, Option.bind_some, List.map_cons]
      rw [h]
      rfl
    show (bSortedI _).or (bSortedR _) = _
    rw [h1, or_none_l]
    unfold bSortedR
    have hl : sameLen ((x :: xs).map ro) = true := by
      unfold sameLen
      rw [List.map_cons]
      simp [hn]
    simp only [seqOf, Option.bind_some, rowsOf_m h, hl, if_true]
    have : sortR ((x :: xs).map ro) = (isort (fun x y => HT.lexLt (ro x) (ro y)) (x :: xs)).map ro := isort_map _ _ _
    rw [this, List.map_map]
    have : dRow ∘ ro = e := by funext y; exact (h y).symm
    rw [this]
abbrev sort2 (xs : List (Int × Int)) : List (Int × Int) := isort ltP2 xs
theorem b_sorted2 (xs : List (Int × Int)) : bSorted [dL (dT2 dI dI) xs] = some (dL (dT2 dI dI) (sort2 xs), .top) := b_sortedR (e := dT2 dI dI) (ro := fun p => [p.1, p.2]) (n := 1) (fun _ => rfl) (fun _ => rfl) xs
def RetE (φ : List D → Option RetD) (ds : List D) (d : D) (l : Lv) (al : Bool) : Prop := ∃ l' a', φ ds = some (d, l', a') ∧ leL l l' = true ∧ (a' = true → al = true)
theorem mkR_ok {d : D} {l' : Lv} {a' al' vw' ral al vw : Bool} (hl : leL l l' = true) (ha : a' = true → ral = true) (h1 : al' = true → al = true) (h2 : vw' = true → vw = true) : ROk (mkR al' vw' (d, l', a')) d l (ral && al) (ral && vw) := by
  unfold mkR
  split
  · exact ⟨rfl, by cases l <;> rfl, fun h => (nomatch h), fun h => (nomatch h)⟩
  · split
    · rename_i h
      have h : a' = true := h
      refine ⟨rfl, hl, fun z => ?_, fun z => ?_⟩
      · rw [ha h, h1 z]; rfl
      · rw [ha h, h2 z]; rfl
    · exact ⟨rfl, hl, fun h => (nomatch h), fun h => (nomatch h)⟩
theorem mkR_okI {z : RetD} {al vw : Bool} (hi : imm z.1 = true) : ROk (mkR al vw z) z.1 .full false false := by
  unfold mkR
  rw [if_pos hi]
  exact .i _
theorem je_call {R : List D → Option RetD} {ds : List D} {fl al vw ral : Bool} (h : JA cs ga ds fl al vw) (hR : RetE R ds d l ral) : JE cs (eCall R ga) d l (ral && al) (ral && vw) := fun ρ r => by
  obtain ⟨rs, e2, k⟩ := h ρ r
  obtain ⟨l', a', e3, k3, k4⟩ := hR
  refine ⟨mkR (rs.any (·.al)) (rs.any (·.vw)) (d, l', a'), ?_, mkR_ok k3 k4 k.anyal k.anyvw⟩
  unfold eCall
  rw [e2]
  simp only [Option.bind_some, k.d, e3, Option.map_some]
theorem je_callI {R : List D → Option RetD} {ds : List D} {fl al vw ral : Bool} (h : JA cs ga ds fl al vw) (hR : RetE R ds d l ral) (hi : imm d = true) : JI cs (eCall R ga) d := fun ρ r => by
  obtain ⟨rs, e2, k⟩ := h ρ r
  obtain ⟨l', a', e3, k3, k4⟩ := hR
  refine ⟨mkR (rs.any (·.al)) (rs.any (·.vw)) (d, l', a'), ?_, mkR_okI (z := (d, l', a')) hi⟩
  unfold eCall
  rw [e2]
  simp only [Option.bind_some, k.d, e3, Option.map_some]
theorem je_isi {T : String} {tn : String} {b : Bool} (h1 : JE cs f d l a v) (h2 : tyN d = some tn) (h3 : kitB tn T = some b) : JI cs (eIsi T f) (.bl b) := fun ρ r => by
  obtain ⟨x, e1, k1⟩ := h1 ρ r
  refine ⟨rB b, ?_, .i _⟩
  unfold eIsi
  rw [e1]
  simp only [Option.bind_some, k1.d, h2, h3, Option.map_some]
end
end Tg
set_option Elab.async false
set_option linter.all false
set_option maxRecDepth 100000
namespace Tg
open PySem PySem.Spec L2 Ev
open PyProof.Rows hiding St
mutual
def tgC : Tg → D → Bool → CS → Option CS
  | .nm i, d, al, cs => if i < cs.length then some (put cs i ⟨d, .s, al⟩) else none
  | .tp ts, .tup ds, al, cs => if ts.length = ds.length then tgsC ts ds al cs else none
  | _, _, _, _ => none
def tgsC : List Tg → List D → Bool → CS → Option CS
  | [], [], _, cs => some cs
  | t :: ts, d :: ds, al, cs => (tgC t d al cs).bind (tgsC ts ds al)
  | _, _, _, _ => none
end
mutual
theorem tgC_ok : ∀ {t : Tg} {d : D} {al al' : Bool} {cs cs' : CS} {ρ : Ev.Env}, tgC t d al cs = some cs' → (al' = true → al = true) → Rel ρ cs → ∃ ρ', tgSet t d al' ρ = some ρ' ∧ Rel ρ' cs'
  | .nm i, d, al, al', cs, cs', ρ, h, ha, r => by
    simp only [tgC] at h
    split at h
    · rename_i hi
      cases h
      refine ⟨ρ.set i (some ⟨d, if imm d = true then .full else .shr, al', none⟩), ?_, r.put ⟨rfl, fun z => ?_, fun _ => ha⟩⟩
      · simp only [tgSet]
        rw [if_pos (by rw [r.len]; exact hi)]
      · simp only [z]
        rfl
    · cases h
  | .tp ts, d, al, al', cs, cs', ρ, h, ha, r => by
    cases d with
    | tup ds =>
      simp only [tgC] at h
      split at h
      · rename_i hl
        obtain ⟨ρ', e, r'⟩ := tgsC_ok h ha r
        exact ⟨ρ', by simp only [tgSet]; rw [if_pos hl]; exact e, r'⟩
      · cases h
    | _ => simp only [tgC] at h; cases h
theorem tgsC_ok : ∀ {ts : List Tg} {ds : List D} {al al' : Bool} {cs cs' : CS} {ρ : Ev.Env}, tgsC ts ds al cs = some cs' → (al' = true → al = true) → Rel ρ cs → ∃ ρ', tgsSet ts ds al' ρ = some ρ' ∧ Rel ρ' cs'
  | [], [], al, al', cs, cs', ρ, h, ha, r => by
    simp only [tgsC] at h
    cases h
    exact ⟨ρ, by simp only [tgsSet], r⟩
  | t :: ts, d :: ds, al, al', cs, cs', ρ, h, ha, r => by
    simp only [tgsC] at h
    obtain ⟨c1, h1, h2⟩ := bind_some h
    obtain ⟨ρ1, e1, r1⟩ := tgC_ok h1 ha r
    obtain ⟨ρ2, e2, r2⟩ := tgsC_ok h2 ha r1
    exact ⟨ρ2, by simp only [tgsSet]; rw [e1]; exact e2, r2⟩
  | [], _ :: _, al, al', cs, cs', ρ, h, ha, r => by simp only [tgsC] at h; cases h
  | _ :: _, [], al, al', cs, cs', ρ, h, ha, r => by simp only [tgsC] at h; cases h
end
def drop1 : CS → Nat → CS
  | [], _ => []
  | _ :: cs, 0 => none :: cs
  | x :: cs, i + 1 => x :: drop1 cs i
theorem drop1_set : ∀ (cs : CS) (i : Nat), drop1 cs i = cs.set i none
  | [], _ => rfl
  | _ :: cs, 0 => rfl
  | x :: cs, i + 1 => by show x :: drop1 cs i = _; rw [drop1_set cs i]; rfl
theorem Rel.drop1 {ρ : Ev.Env} {cs : CS} (r : Rel ρ cs) (i : Nat) : Rel (ρ.set i none) (drop1 cs i) where
  len := by rw [drop1_set, List.length_set, List.length_set, r.len]
  at_ := fun j c e => by
    rw [drop1_set, List.getElem?_set] at e
    rw [List.getElem?_set]
    by_cases q : i = j
    · subst q
      rw [if_pos rfl] at e
      split at e <;> cases e
    · rw [if_neg q] at e
      rw [if_neg q]
      exact r.at_ j c e
def wipeC : List Nat → CS → CS
  | [], cs => cs
  | i :: is, cs => drop1 (wipeC is cs) i
theorem Rel.wipe : ∀ (is : List Nat) {ρ : Ev.Env} {cs : CS}, Rel ρ cs → Rel (wipeE is ρ) (wipeC is cs)
  | [], _, _, r => r
  | i :: is, _, _, r => (Rel.wipe is r).drop1 i
section
variable {cs : CS} {f g : EvE} {ga : EvA} {t t2 : EvT} {i j : Int} {d d2 : D} {l l2 : Lv} {a a2 v v2 : Bool} {α β γ δ ε : Type} {e : α → D} {e2 : β → D}
theorem jit_l {xs : List α} (h : JE cs f (dL e xs) l a false) : JIt cs (iLst f) xs e a := fun ρ r => by
  obtain ⟨x, e1, k⟩ := h ρ r
  refine ⟨x.al, k.al, ?_⟩
  have hv : x.vw = false := by
    cases q : x.vw with
    | false => rfl
    | true => exact nomatch k.vw q
  unfold iLst
  rw [e1]
  simp only [Option.bind_some, hv, k.d, List.map_map]
  rfl
theorem rngO_some {i j : Int} {xs : List Int} (h : rngO i j = some xs) : (-(2 ^ 62) ≤ i ∧ i < 2 ^ 62 ∧ -(2 ^ 62) ≤ j ∧ j < 2 ^ 62) ∧ xs = (List.range (j - i).toNat).map fun (k : Nat) => i + (k : Int) := by
  unfold rngO at h
  split at h
  · cases h; exact ⟨‹_›, rfl⟩
  · cases h
theorem jit_r1 {xs : List Int} {j : Int} (h : JE cs f (.int j) l a v) (hx : rngO 0 j = some xs) : JIt cs (iRange (aCons f aNil)) xs dI false := fun ρ r => by
  obtain ⟨x, e1, k⟩ := h ρ r
  obtain ⟨hc, rfl⟩ := rngO_some hx
  refine ⟨false, fun z => z, ?_⟩
  unfold iRange aCons aNil
  simp only [e1, Option.bind_some, List.map_cons, List.map_nil, k.d]
  rw [if_pos ⟨hc.2.2.1, hc.2.2.2⟩]
  simp [iRng]
theorem zipD_map {al : Bool} : ∀ (xs : List α) (ys : List β), zipD al (xs.map e) (ys.map e2) = (xs.zip ys).map fun x => (dT2 e e2 x, al)
  | [], _ => by simp [zipD]
  | _ :: _, [] => by simp [zipD]
  | x :: xs, y :: ys => by simp only [List.map_cons, zipD, List.zip_cons_cons, zipD_map xs ys]
theorem jit_zip {xs : List α} {ys : List β} (h : JE cs f (dL e xs) l a false) (h2 : JE cs g (dL e2 ys) l2 a2 false) : JIt cs (iZipV (aCons f (aCons g aNil))) (xs.zip ys) (dT2 e e2) (a || a2) := fun ρ r => by
  obtain ⟨x, e1, k⟩ := h ρ r
  obtain ⟨y, e3, k2⟩ := h2 ρ r
  refine ⟨x.al || y.al, fun z => ?_, ?_⟩
  · rcases Bool.or_eq_true _ _ ▸ z with z | z
    · rw [k.al z]; rfl
    · rw [k2.al z]; cases a <;> rfl
  have hv : x.vw = false := by
    cases q : x.vw with
    | false => rfl
    | true => exact nomatch k.vw q
  have hv2 : y.vw = false := by
    cases q : y.vw with
    | false => rfl
    | true => exact nomatch k2.vw q
  unfold iZipV aCons aNil
  simp only [e1, e3, Option.bind_some, hv, hv2, k.d, k2.d, seqOf, Option.map_some]
  rw [if_neg (by simp), zipD_map]
theorem lc_ok {tg : Tg} {c : EvT} {el : EvE} {p : α → Option Bool} {F : α → Option β} {B : α → CS} {cs0 : CS} (ht : ∀ x, tgC tg (e x) a cs0 = some (B x)) (hc : ∀ x, JTo (B x) c (p x)) (he : ∀ x, JEo (B x) el e2 (F x) l a2 false) {ρ : Ev.Env} (r : Rel ρ cs0) {a' : Bool} (ha : a' = true → a = true) :
    ∀ {xs : List α} {ys : List β}, lcM xs p F = some ys → ∃ rs, lcL tg c el ρ (xs.map fun x => (e x, a')) = some rs ∧ AOk rs (ys.map e2) (isFull l) a2 false ∧ rs.length = ys.length
  | [], ys, h => by
    cases h
    exact ⟨[], rfl, ⟨rfl, fun _ _ h => (nomatch h), fun _ h => (nomatch h), fun _ h => (nomatch h)⟩, rfl⟩
  | x :: xs, ys, h => by
    unfold lcM at h
    obtain ⟨k, e1, h⟩ := bindO_some h
    obtain ⟨ρ1, e3, r1⟩ := tgC_ok (ht x) ha r
    rw [List.map_cons]
    unfold lcL
    rw [e3]
    simp only [Option.bind_some, hc x k e1 ρ1 r1]
    cases k with
    | false =>
      obtain ⟨rs, h1, h2, h3⟩ := lc_ok ht hc he r ha (xs := xs) (ys := ys) h
      exact ⟨rs, h1, h2, h3⟩
    | true =>
      rw [if_pos rfl] at h
      obtain ⟨y, e4, h⟩ := bindO_some h
      obtain ⟨zs, e5, h⟩ := Option.map_eq_some_iff.mp h
      subst h
      obtain ⟨rs, h1, h2, h3⟩ := lc_ok ht hc he r ha (xs := xs) (ys := zs) e5
      obtain ⟨r0, e6, k0⟩ := he x y e4 ρ1 r1
      have hv : r0.vw = false := by
        cases q : r0.vw with
        | false => rfl
        | true => exact nomatch k0.vw q
      refine ⟨r0 :: rs, ?_, ⟨?_, ?_, ?_, ?_⟩, by simp [h3]⟩
      · simp only [if_true, e6, Option.bind_some, hv, h1]
        rfl
      · rw [List.map_cons, k0.d, h2.d]; rfl
      · intro z y hy
        rcases List.mem_cons.mp hy with rfl | hy
        · have hl : l = .full := by cases l <;> first | rfl | (cases z; done)
          subst hl
          exact leL_full k0.l
        · exact h2.fl z y hy
      · intro y hy z
        rcases List.mem_cons.mp hy with rfl | hy
        · exact k0.al z
        · exact h2.al y hy z
      · intro y hy z
        rcases List.mem_cons.mp hy with rfl | hy
        · exact k0.vw z
        · exact h2.vw y hy z
theorem big_some {xs ys : List α} (h : big xs = some ys) : xs.length ≤ 1000000 ∧ ys = xs := by
  unfold big at h
  split at h
  · cases h; exact ⟨‹_›, rfl⟩
  · cases h
theorem je_lcM {it : EvI} {vs : List Nat} {tg : Tg} {c : EvT} {el : EvE} {p : α → Option Bool} {F : α → Option β} {B : α → CS} {xs : List α} {ys : List β} (hit : JIt cs it xs e a) (ht : ∀ x, tgC tg (e x) a (wipeC vs cs) = some (B x)) (hc : ∀ x, JTo (B x) c (p x)) (he : ∀ x, JEo (B x) el e2 (F x) l a2 false) (h : bindO (lcM xs p F) big = some ys) : JE cs (eLc it vs tg c el) (dL e2 ys) (if isFull l = true then .full else .top) a2 false := fun ρ r => by
  obtain ⟨a', ha, e1⟩ := hit ρ r
  obtain ⟨zs, e3, e4⟩ := bindO_some h
  obtain ⟨hl, rfl⟩ := big_some e4
  obtain ⟨rs, h1, h2, h3⟩ := lc_ok ht hc he (r.wipe vs) ha e3
  unfold eLc
  rw [e1]
  simp only [Option.bind_some, h1]
  unfold mkBig
  rw [if_pos (by rw [h3]; exact hl)]
  by_cases q : isFull l = true
  · rw [if_pos q]
    rw [q] at h2
    rw [if_pos h2.allfull]
    exact ⟨_, rfl, by rw [h2.d], rfl, h2.anyal, fun h => (nomatch h)⟩
  · rw [if_neg q]
    split
    · exact ⟨_, rfl, by rw [h2.d], rfl, h2.anyal, fun h => (nomatch h)⟩
    · exact ⟨_, rfl, by rw [h2.d], rfl, h2.anyal, fun h => (nomatch h)⟩
theorem lcM_p {p : α → Bool} {F : α → β} : ∀ xs : List α, lcM xs (fun x => some (p x)) (fun x => some (F x)) = some ((xs.filter p).map F)
  | [] => rfl
  | x :: xs => by
    unfold lcM
    rw [lcM_p xs]
    cases h : p x <;> simp [bindO, h]
theorem je_lcP {it : EvI} {vs : List Nat} {tg : Tg} {c : EvT} {el : EvE} {p : α → Bool} {F : α → β} {B : α → CS} {xs : List α} {ys : List β} (hit : JIt cs it xs e a) (ht : ∀ x, tgC tg (e x) a (wipeC vs cs) = some (B x)) (hc : ∀ x, JT (B x) c (p x)) (he : ∀ x, JE (B x) el (e2 (F x)) l a2 false) (h : big ((xs.filter p).map F) = some ys) : JE cs (eLc it vs tg c el) (dL e2 ys) (if isFull l = true then .full else .top) a2 false :=
  je_lcM (p := fun x => some (p x)) (F := fun x => some (F x)) hit ht (fun x => jto_p (hc x)) (fun x => jeo_p (he x)) (by rw [lcM_p]; exact h)
theorem jt_yes : JT cs tYes true := fun _ _ => rfl
end
section
variable {cs : CS} {f g : EvE} {ga : EvA} {t : EvT} {b b1 b2 b3 : EvS} {i : Nat} {d : D} {l l2 : Lv} {a a2 v v2 : Bool} {α β σ R T : Type} {e : α → D} {Ψ : T → Out → Prop} {o o1 o2 : Option T} {fz z : List Nat}
theorem js_last (h : JS cs (sSeq b sNil) o Ψ) : JS cs b o Ψ := fun ρ r t ht => by
  obtain ⟨out, e1, q⟩ := h ρ r t ht
  refine ⟨out, ?_, q⟩
  unfold sSeq sNil at e1
  obtain ⟨o', e2, e3⟩ := bind_some e1
  rw [e2]
  cases o' <;> exact e3
theorem js_nil (h : JS cs b o Ψ) : JS cs (sSeq sNil b) o Ψ := h
theorem js_bind {k : α → Option T} {x : Option α} (h : ∀ y, x = some y → JS cs b (k y) Ψ) : JS cs b (bindO x k) Ψ := fun ρ r t ht => by
  obtain ⟨y, e1, e2⟩ := bindO_some ht
  exact h y e1 ρ r t e2
def mdOf : Lv → Md
  | .full => .f
  | .top => .t
  | .shr => .a
theorem mdOf_ok {l : Lv} {x : Sv} (h : leL l x.l = true) : (mdOf l).ok x := by
  obtain ⟨d, l', a, p⟩ := x
  cases l <;> cases l' <;> first | trivial | (cases h; done) | (show Lv.full = Lv.full; rfl) | (intro z; cases z)
theorem js_set {k : α → Option T} {x : α} (he : JE (fzsC fz cs) f (e x) l a false) (hi : decide (i < (fzsC fz cs).length) = true) (h : ∀ x, JS (put (fzsC fz cs) i ⟨e x, mdOf l, a⟩) b (k x) Ψ) : JS cs (sSeq (sSet fz i f) b) (letB x k) Ψ := fun ρ r t ht => by
  have r1 := r.fzs fz
  obtain ⟨y, e1, k1⟩ := he _ r1
  have hv : y.vw = false := by
    cases q : y.vw with
    | false => rfl
    | true => exact nomatch k1.vw q
  obtain ⟨out, e2, q⟩ := h x _ (r1.put (i := i) (s := ⟨y.d, y.l, y.al, none⟩) ⟨k1.d, fun _ => mdOf_ok k1.l, fun _ => k1.al⟩) t ht
  refine ⟨out, ?_, q⟩
  unfold sSeq sSet
  simp only [e1, Option.bind_some, hv]
  rw [if_pos (by rw [r1.len, hi]; rfl)]
  exact e2
theorem js_asg {k : α → Option T} {x : α} {tg : Tg} {B : α → CS} (he : JE (fzsC fz cs) f (e x) l a false) (ht : ∀ x, tgC tg (e x) a (fzsC fz cs) = some (B x)) (h : ∀ x, JS (B x) b (k x) Ψ) : JS cs (sSeq (sAsg fz tg f) b) (letB x k) Ψ := fun ρ r t hh => by
  have r1 := r.fzs fz
  obtain ⟨y, e1, k1⟩ := he _ r1
  have hv : y.vw = false := by
    cases q : y.vw with
    | false => rfl
    | true => exact nomatch k1.vw q
  obtain ⟨ρ', e3, r2⟩ := tgC_ok (al' := y.al) (ht x) k1.al r1
  obtain ⟨out, e2, q⟩ := h x _ r2 t hh
  refine ⟨out, ?_, q⟩
  unfold sSeq sAsg
  simp only [e1, Option.bind_some, hv, k1.d, e3, Option.map_some]
  exact e2
theorem js_fz (h : JS (fzsC z cs) (sSeq b1 b) o Ψ) : JS cs (sSeq (sFz z b1) b) o Ψ := fun ρ r t ht => h _ (r.fzs z) t ht
theorem js_if {c : Bool} (hc : JT cs t c) (h1 : JS cs (sSeq b1 b) o1 Ψ) (h2 : JS cs (sSeq b2 b) o2 Ψ) : JS cs (sSeq (sIf t b1 b2) b) (if c = true then o1 else o2) Ψ := fun ρ r t' ht => by
  have e1 := hc ρ r
  unfold sSeq sIf
  rw [e1]
  simp only [Option.bind_some]
  cases c with
  | true => exact h1 ρ r t' ht
  | false => exact h2 ρ r t' ht
theorem js_ifJ {c : Bool} {C : σ → CS} {s1 s2 : Option σ} {k : σ → Option T} (hc : JT cs t c) (h1 : JS cs b1 s1 (ΨJ C)) (h2 : JS cs b2 s2 (ΨJ C)) (h : ∀ s, JS (C s) b (k s) Ψ) : JS cs (sSeq (sIf t b1 b2) b) (bindO (if c = true then s1 else s2) k) Ψ := fun ρ r t' ht => by
  obtain ⟨s, e1, e2⟩ := bindO_some ht
  have e3 := hc ρ r
  have : ∃ out, (sIf t b1 b2) ρ = some out ∧ ΨJ C s out := by
    unfold sIf
    rw [e3]
    simp only [Option.bind_some]
    cases c with
    | true => exact h1 ρ r s e1
    | false => exact h2 ρ r s e1
  obtain ⟨out, e4, q⟩ := this
  cases out with
  | nx ρ' =>
    obtain ⟨out2, e5, q2⟩ := h s ρ' q t' e2
    refine ⟨out2, ?_, q2⟩
    unfold sSeq
    rw [e4]
    exact e5
  | _ => exact q.elim
theorem js_endJ {C : σ → CS} {s : σ} (h : Le cs (C s)) : JS cs sNil (some s) (ΨJ C) := fun ρ r t ht => by
  cases ht
  exact ⟨_, rfl, h.rel r⟩
theorem js_endL {C : σ → CS} {s : σ} (h : Le cs (C s)) : JS cs sNil (some s) (ΨL C) := fun ρ r t ht => by
  cases ht
  exact ⟨_, rfl, h.rel r⟩
theorem js_endC {C : σ → CS} {s : σ} {er : R → D} {lr : Lv} {ra : Bool} (h : Le cs (C s)) : JS cs sNil (some (.nx s)) (ΨC C er lr ra P) := fun ρ r t ht => by
  cases ht
  exact ⟨_, rfl, h.rel r⟩
def RetOk (Ψ : T → Out → Prop) (q : R → T) (er : R → D) (lr : Lv) (ra : Bool) (P : R → Ev.Env → Prop := fun _ _ => True) : Prop := ∀ ρ r l a, leL lr l = true → (a = true → ra = true) → P r ρ → Ψ (q r) (.rt ρ (er r) l a)
theorem ret_R {er : R → D} {lr : Lv} {ra : Bool} {P : R → Ev.Env → Prop} : RetOk (ΨR er lr ra P) (fun r => r) er lr ra P := fun ρ r l a h h2 h3 => ⟨rfl, h, h2, h3⟩
theorem ret_C {C : σ → CS} {er : R → D} {lr : Lv} {ra : Bool} {P : R → Ev.Env → Prop} : RetOk (ΨC C er lr ra P) (fun r => Ctl.rt r) er lr ra P := fun ρ r l a h h2 h3 => ⟨rfl, h, h2, h3⟩
theorem js_ret {q : R → T} {er : R → D} {lr : Lv} {ra : Bool} {x : R} {P : R → Ev.Env → Prop} (hr : RetOk Ψ q er lr ra P) (he : JE cs f (er x) l a v) (hl : leL lr l = true := by rfl) (ha : (!a || ra) = true := by rfl) (hP : ∀ ρ, Rel ρ cs → P x ρ ∧ (v = true → P x (wipeA ρ)) := by exact fun _ _ => ⟨trivial, fun _ => trivial⟩) : JS cs (sSeq (sRet f) b) (some (q x)) Ψ := fun ρ r t ht => by
  cases ht
  obtain ⟨y, e1, k1⟩ := he _ r
  refine ⟨.rt (if y.vw = true then wipeA ρ else ρ) y.d y.l y.al, ?_, ?_⟩
  · unfold sSeq sRet
    simp only [e1, Option.bind_some]
  · rw [k1.d]
    refine hr _ x _ _ (leL_trans hl k1.l) (fun z => by have := k1.al z; subst this; simpa using ha) ?_
    by_cases hv : y.vw = true
    · rw [if_pos hv]; exact (hP ρ r).2 (k1.vw hv)
    · rw [if_neg hv]; exact (hP ρ r).1
theorem js_retV {q : R → T} {er : R → D} {lr : Lv} {ra : Bool} {x : R} {m : Md} {P : R → Ev.Env → Prop} (hr : RetOk Ψ q er lr ra P) (h : nthC cs i = some ⟨er x, m, a⟩) (hm : (∀ s, m.ok s → leL lr s.l = true)) (ha : (!a || ra) = true := by rfl) (hlr : leL lr .full = true := by rfl) (hP : ∀ ρ, Rel ρ cs → P x ρ ∧ P x (ρ.set i none) := by exact fun _ _ => ⟨trivial, trivial⟩) : JS cs (sSeq (sRetV i) b) (some (q x)) Ψ := fun ρ r t ht => by
  cases ht
  obtain ⟨s, e1, k⟩ := r.nthC h
  by_cases hi : imm s.d = true
  · refine ⟨.rt ρ s.d .full false, ?_, ?_⟩
    · unfold sSeq sRetV
      rw [e1]
      simp only [Option.bind_some, hi, if_true]
    · rw [k.d]
      exact hr _ x _ _ hlr (fun z => nomatch z) (hP ρ r).1
  · have hi' : imm (er x) = false := by rw [← show s.d = er x from k.d]; simpa using hi
    refine ⟨.rt (ρ.set i none) s.d s.l s.al, ?_, ?_⟩
    · unfold sSeq sRetV
      rw [e1]
      simp only [hi]
      rfl
    · rw [k.d]
      exact hr _ x _ _ (hm _ (k.m hi')) (fun z => by have := k.al hi' z; simp only at this; subst this; simpa using ha) (hP ρ r).2
theorem md_f : ∀ s, Md.f.ok s → leL .full s.l = true := fun s h => by rw [show s.l = .full from h]; rfl
theorem md_t : ∀ s, Md.t.ok s → leL .top s.l = true := fun s h => by
  have h : s.l ≠ .shr := h
  cases e : s.l <;> first | rfl | exact absurd e h
theorem js_for {C : σ → CS} {it : EvI} {tg : Tg} {body : EvS} {xs : List α} {s0 : σ} {F : α → σ → Option σ} {B : α → σ → CS} {k : σ → Option T} (hit : JIt (fzsC fz cs) it xs e a) (h0 : Le (fzsC fz cs) (C s0)) (ht : ∀ x s, tgC tg (e x) a (C s) = some (B x s)) (hb : ∀ x s, JS (B x s) body (F x s) (ΨL C)) (h : ∀ s, JS (C s) b (k s) Ψ) : JS cs (sSeq (sFor fz it tg body) b) (bindO (forS xs s0 F) k) Ψ := fun ρ r t hh => by
  have r1 := r.fzs fz
  obtain ⟨a', ha, e1⟩ := hit _ r1
  obtain ⟨s', e2, e3⟩ := bindO_some hh
  have go : ∀ (xs : List α) (s : σ) (ρ : Ev.Env), Rel ρ (C s) → ∀ s', forS xs s F = some s' → ∃ ρ', forL tg body (xs.map fun x => (e x, a')) ρ = some (.nx ρ') ∧ Rel ρ' (C s') := by
    intro xs
    induction xs with
    | nil => intro s ρ r s' h; cases h; exact ⟨ρ, rfl, r⟩
    | cons x xs ih =>
      intro s ρ r s' h
      unfold forS at h
      obtain ⟨s1, g1, g2⟩ := bindO_some h
      obtain ⟨ρ1, g3, r3⟩ := tgC_ok (ht x s) ha r
      obtain ⟨out, g4, q4⟩ := hb x s ρ1 r3 s1 g1
      rw [List.map_cons]
      unfold forL
      rw [g3]
      simp only [Option.bind_some, g4]
      cases out with
      | nx ρ2 => exact ih s1 ρ2 q4 s' g2
      | ct ρ2 => exact ih s1 ρ2 q4 s' g2
      | bk ρ2 => exact q4.elim
      | rt ρ2 d l a' => exact q4.elim
  obtain ⟨ρ', g1, r2⟩ := go xs s0 _ (h0.rel r1) s' e2
  obtain ⟨out, e5, q⟩ := h s' ρ' r2 t e3
  refine ⟨out, ?_, q⟩
  unfold sSeq sFor
  rw [e1]
  simp only [Option.bind_some, g1]
  exact e5
theorem js_forC {C : σ → CS} {it : EvI} {tg : Tg} {body : EvS} {xs : List α} {s0 : σ} {F : α → σ → Option (Ctl σ R)} {B : α → σ → CS} {k : σ → Option T} {q : R → T} {er : R → D} {lr : Lv} {ra : Bool} {P : R → Ev.Env → Prop} (hr : RetOk Ψ q er lr ra P) (hit : JIt (fzsC fz cs) it xs e a) (h0 : Le (fzsC fz cs) (C s0)) (ht : ∀ x s, tgC tg (e x) a (C s) = some (B x s)) (hb : ∀ x s, JS (B x s) body (F x s) (ΨC C er lr ra P)) (h : ∀ s, JS (C s) b (k s) Ψ) : JS cs (sSeq (sFor fz it tg body) b) (onS (forC xs s0 F) k q) Ψ := fun ρ r t hh => by
  have r1 := r.fzs fz
  obtain ⟨a', ha, e1⟩ := hit _ r1
  unfold onS at hh
  obtain ⟨c', e2, e3⟩ := bindO_some hh
  have go : ∀ (xs : List α) (s : σ) (ρ : Ev.Env), Rel ρ (C s) → ∀ c', forC xs s F = some c' → ∃ out, forL tg body (xs.map fun x => (e x, a')) ρ = some out ∧ (match c', out with
      | .inl s', .nx ρ' => Rel ρ' (C s')
      | .inr r, .rt ρ d l a' => d = er r ∧ leL lr l = true ∧ (a' = true → ra = true) ∧ P r ρ
      | _, _ => False) := by
    intro xs
    induction xs with
    | nil => intro s ρ r s' h; cases h; exact ⟨.nx ρ, rfl, r⟩
    | cons x xs ih =>
      intro s ρ r s' h
      unfold forC at h
      obtain ⟨s1, g1, g2⟩ := bindO_some h
      obtain ⟨ρ1, g3, r3⟩ := tgC_ok (ht x s) ha r
      obtain ⟨out, g4, q4⟩ := hb x s ρ1 r3 s1 g1
      rw [List.map_cons]
      unfold forL
      rw [g3]
      simp only [Option.bind_some, g4]
      cases s1 with
      | nx s1 => cases out with
        | nx ρ2 => exact ih s1 ρ2 q4 s' g2
        | ct ρ2 => exact ih s1 ρ2 q4 s' g2
        | bk ρ2 => exact q4.elim
        | rt ρ2 d l a' => exact q4.elim
      | bk s1 => cases out with
        | bk ρ2 => cases g2; exact ⟨.nx ρ2, rfl, q4⟩
        | nx ρ2 => exact q4.elim
        | ct ρ2 => exact q4.elim
        | rt ρ2 d l a' => exact q4.elim
      | rt r1 => cases out with
        | rt ρ2 d l a' => cases g2; exact ⟨.rt ρ2 d l a', rfl, q4⟩
        | nx ρ2 => exact q4.elim
        | ct ρ2 => exact q4.elim
        | bk ρ2 => exact q4.elim
  obtain ⟨out, g1, r2⟩ := go xs s0 _ (h0.rel r1) c' e2
  unfold sSeq sFor
  rw [e1]
  simp only [Option.bind_some, g1]
  cases c' with
  | inl s' => cases out with
    | nx ρ' => exact h s' ρ' r2 t e3
    | _ => exact r2.elim
  | inr r1 => cases out with
    | rt ρ2 d l a' =>
      cases e3
      refine ⟨_, rfl, ?_⟩
      rw [r2.1]
      exact hr _ _ _ _ r2.2.1 r2.2.2.1 r2.2.2.2
    | _ => exact r2.elim
theorem js_while {C : σ → CS} {tc : EvT} {body : EvS} {s0 : σ} {c : σ → Option Bool} {F : σ → Option σ} {k : σ → Option T} (h0 : Le cs (C s0)) (hc : ∀ s, JTo (C s) tc (c s)) (hb : ∀ s, JS (C s) body (F s) (ΨL C)) (h : ∀ s, JS (C s) b (k s) Ψ) : JS cs (sSeq (sWhile tc body) b) (bindO (whS fuel s0 c F) k) Ψ := fun ρ r t hh => by
  obtain ⟨s', e2, e3⟩ := bindO_some hh
  have go : ∀ (n : Nat) (s : σ) (ρ : Ev.Env), Rel ρ (C s) → ∀ s', whS n s c F = some s' → ∃ ρ', whL tc body n ρ = some (.nx ρ') ∧ Rel ρ' (C s') := by
    intro n
    induction n with
    | zero => intro s ρ r s' h; cases h
    | succ n ih =>
      intro s ρ r s' h
      unfold whS at h
      obtain ⟨kb, g1, g2⟩ := bindO_some h
      unfold whL
      rw [hc s kb g1 ρ r]
      simp only [Option.bind_some]
      cases kb with
      | false => cases g2; exact ⟨ρ, rfl, r⟩
      | true =>
        rw [if_pos rfl] at g2 ⊢
        obtain ⟨s1, g3, g4⟩ := bindO_some g2
        obtain ⟨out, g5, q4⟩ := hb s ρ r s1 g3
        rw [g5]
        simp only [Option.bind_some]
        cases out with
        | nx ρ2 => exact ih s1 ρ2 q4 s' g4
        | ct ρ2 => exact ih s1 ρ2 q4 s' g4
        | bk ρ2 => exact q4.elim
        | rt ρ2 d l a' => exact q4.elim
  obtain ⟨ρ', g1, r2⟩ := go fuel s0 ρ (h0.rel r) s' e2
  obtain ⟨out, e5, q⟩ := h s' ρ' r2 t e3
  refine ⟨out, ?_, q⟩
  unfold sSeq sWhile
  rw [g1]
  exact e5
theorem appO_some {xs ys : List α} {x : α} (h : appO xs x = some ys) : xs.length ≤ 1000000 ∧ ys = xs ++ [x] := by
  unfold appO at h
  split at h
  · cases h; exact ⟨‹_›, rfl⟩
  · cases h
def keepM : Md → Lv → Md
  | .f, .full => .f
  | .p k, .full => .p k
  | _, _ => .t
theorem keepM_ok {m : Md} {l l2 : Lv} {x y : Sv} (hm : m.ok x) (hl : leL l l2 = true) (hy : y.l = keepLv x.l l2) (hp : y.pn = x.pn) : (keepM m l).ok y := by
  unfold keepLv at hy
  have ht : y.l ≠ .shr := by rw [hy]; split <;> decide
  cases m <;> cases l <;> first
    | exact ht
    | (show y.l = .full; rw [hy, show x.l = .full from hm, leL_full hl]; rfl)
    | (refine ⟨?_, by rw [hp]; exact hm.2⟩; rw [hy, hm.1, leL_full hl]; rfl)
def ownM : Md → Bool
  | .t => true
  | .f => true
  | .p _ => true
  | _ => false
theorem ownM_ok {m : Md} {x : Sv} (h : ownM m = true) (k : m.ok x) : x.l ≠ .shr := by
  cases m <;> first | exact absurd h (by decide) | exact k | (intro z; rw [show x.l = .full from k] at z; cases z) | (intro z; rw [k.1] at z; cases z)
theorem js_app {xs : List α} {x : α} {m : Md} {k : List α → Option T} (hn : nthC (fzsC fz cs) i = some ⟨dL e xs, m, a⟩) (he : JE (fzsC fz cs) f (e x) l a2 false) (hm : ownM m = true) (h : ∀ ys, JS (put (fzsC fz cs) i ⟨dL e ys, keepM m l, a || a2⟩) b (k ys) Ψ) : JS cs (sSeq (sLop oApp fz i (aCons f aNil)) b) (bindO (appO xs x) k) Ψ := fun ρ r t ht => by
  have r1 := r.fzs fz
  obtain ⟨s, e1, k1⟩ := r1.nthC hn
  obtain ⟨y, e2, k2⟩ := he _ r1
  obtain ⟨zs, e3, e4⟩ := bindO_some ht
  obtain ⟨hl, rfl⟩ := appO_some e3
  have hv : y.vw = false := by
    cases q : y.vw with
    | false => rfl
    | true => exact nomatch k2.vw q
  have hml := k1.m rfl
  have hne := ownM_ok hm hml
  have hd : s.d = .lst (xs.map e) := k1.d
  have hs : Cl.ok ⟨dL e (xs ++ [x]), keepM m l, a || a2⟩ ⟨.lst (xs.map e ++ [y.d]), keepLv s.l (if [y].all (fun r => !r.vw && decide (r.l = .full)) = true then .full else .top), s.al || [y].any (·.al), s.pn⟩ := by
    refine ⟨by simp [k2.d], fun _ => ?_, fun _ z => ?_⟩
    · have e5 : [y].all (fun r => !r.vw && decide (r.l = .full)) = decide (y.l = .full) := by simp [hv]
      rw [e5]
      refine keepM_ok (l2 := if decide (y.l = .full) = true then .full else .top) hml ?_ rfl rfl
      cases l with
      | full => rw [leL_full k2.l]; rfl
      | top => split <;> rfl
      | shr => exact leL_shr _
    · rcases Bool.or_eq_true _ _ ▸ z with z | z
      · have := k1.al rfl z
        simp only at this
        rw [this]; rfl
      · have : a2 = true := k2.al (by simpa using z)
        rw [this]
        cases a <;> rfl
  obtain ⟨out, e6, q⟩ := h _ _ (r1.put (i := i) hs) t e4
  refine ⟨out, ?_, q⟩
  have : sLop oApp fz i (aCons f aNil) ρ = some (.nx ((frzs fz ρ).set i (some ⟨.lst (xs.map e ++ [y.d]), keepLv s.l (if [y].all (fun r => !r.vw && decide (r.l = .full)) = true then .full else .top), s.al || [y].any (·.al), s.pn⟩))) := by
    unfold sLop
    rw [e1]
    simp only [hd]
    rw [if_neg (by simp [hne]; omega)]
    unfold aCons aNil
    simp only [e2, Option.bind_some]
    rw [if_pos (by simp [hv])]
    rfl
  unfold sSeq
  rw [this]
  exact e6
theorem js_aug {G : Int → Int → Int} {x y : Int} {c : Cl} {k : Int → Option T} (hn : nthC cs i = some c) (hd : c.d = .int x) (he : JE cs f (.int y) l a v) (h : ∀ z, JS (put cs i ⟨.int z, .f, false⟩) b (k z) Ψ) : JS cs (sSeq (sAug G i f) b) (letB (G x y) k) Ψ := fun ρ r t ht => by
  obtain ⟨s, e1, k1⟩ := r.nthC hn
  obtain ⟨w, e2, k2⟩ := he _ r
  obtain ⟨out, e6, q⟩ := h (G x y) _ (r.put (i := i) (s := ⟨.int (G x y), .full, false, none⟩) ⟨rfl, fun _ => rfl, fun _ => id⟩) t ht
  refine ⟨out, ?_, q⟩
  unfold sSeq sAug
  rw [e1]
  simp only [e2, Option.bind_some, k1.d, hd, k2.d]
  exact e6
theorem rel_entry : ∀ (n : Nat) (ds : List D), ds.length ≤ n → Rel (entry n ds) (ds.map (fun d => some ⟨d, .s, true⟩) ++ List.replicate (n - ds.length) none) := fun n ds h => by
  refine ⟨by simp [entry], fun i c e => ?_⟩
  unfold entry
  rw [List.getElem?_append] at e ⊢
  simp only [List.length_map] at e ⊢
  split at e
  · rename_i hi
    rw [if_pos hi]
    rw [List.getElem?_map] at e ⊢
    cases q : ds[i]? with
    | none => rw [q] at e; simp at e
    | some d =>
      rw [q] at e
      simp at e
      subst e
      exact ⟨_, rfl, rfl, fun _ => rfl, fun _ => id⟩
  · rw [List.getElem?_replicate] at e
    split at e <;> simp at e
theorem fn_ok {body : EvS} {n : Nat} {ds : List D} {o : Option R} {er : R → D} {lr : Lv} {ra : Bool} {x : R} (h : JS (ds.map (fun d => some ⟨d, .s, true⟩) ++ List.replicate (n - ds.length) none) body o (ΨR er lr ra)) (hx : o = some x) (hn : ds.length ≤ n) : RetE (Ev.run body n) ds (er x) lr ra := by
  obtain ⟨out, e1, q⟩ := h _ (rel_entry n ds hn) x hx
  cases out with
  | rt ρ d l a' =>
    refine ⟨l, a', ?_, q.2.1, q.2.2.1⟩
    unfold Ev.run
    rw [e1, ← q.1]
    rfl
  | _ => exact q.elim
end
end Tg
set_option Elab.async false
set_option linter.all false
set_option maxRecDepth 100000
namespace Tg
open PySem PySem.Spec L2 Ev
open PyProof.Rows hiding St
theorem dSet_snoc : ∀ {p : List Nat} {d x : D} {j : Nat} {y : D} (d' : D), dAt d p = some x → (kids x)[j]? = some y → dSet d (p ++ [j]) d' = dSet d p (setKid x j d')
  | [], d, x, j, y, d', h, hj => by
    cases h
    show (match (kids d)[j]? with | some e => setKid d j (dSet e [] d') | none => d) = setKid d j d'
    rw [hj]
    rfl
  | k :: p, d, x, j, y, d', h, hj => by
    unfold dAt at h
    obtain ⟨e, e1, e2⟩ := bind_some h
    show (match (kids d)[k]? with | some e => setKid d k (dSet e (p ++ [j]) d') | none => d) = (match (kids d)[k]? with | some e => setKid d k (dSet e p (setKid x j d')) | none => d)
    rw [e1]
    show setKid d k _ = setKid d k _
    rw [dSet_snoc d' e2 hj]
theorem dAt_snoc : ∀ {p : List Nat} {d x : D} {j : Nat} {y : D}, dAt d p = some x → (kids x)[j]? = some y → dAt d (p ++ [j]) = some y
  | [], d, x, j, y, h, hj => by
    cases h
    show ((kids d)[j]?.bind fun e => dAt e []) = _
    rw [hj]
    rfl
  | k :: p, d, x, j, y, h, hj => by
    unfold dAt at h
    obtain ⟨e, e1, e2⟩ := bind_some h
    show ((kids d)[k]?.bind fun e => dAt e (p ++ [j])) = _
    rw [e1]
    exact dAt_snoc e2 hj
def fullM : Md → Bool
  | .f => true
  | .p _ => true
  | _ => false
theorem fullM_ok {m : Md} {x : Sv} (h : fullM m = true) (k : m.ok x) : x.l = .full := by
  cases m <;> first | exact absurd h (by decide) | exact k | exact k.1
def JP (cs : CS) (fp : EvP) (i : Nat) (m : Md) (d : D) (a : Bool) (upd : D → D) : Prop := fullM m = true ∧ ∀ ρ, Rel ρ cs → ∃ p s, fp ρ = some (i, p, d) ∧ ρ[i]? = some (some s) ∧ m.ok s ∧ (s.al = true → a = true) ∧ dAt s.d p = some d ∧ ∀ d', dSet s.d p d' = upd d'
theorem ok_keep {m : Md} {x y : Sv} (h : fullM m = true) (k : m.ok x) (hl : y.l = .full) (hp : y.pn = x.pn) : m.ok y := by
  cases m <;> first | exact absurd h (by decide) | exact hl | exact ⟨hl, by rw [hp]; exact k.2⟩
section
variable {cs : CS} {f g : EvE} {fp : EvP} {b : EvS} {i : Nat} {mm : Md} {d d2 : D} {l l2 : Lv} {a a2 v v2 : Bool} {α β σ R T : Type} {e : α → D} {Ψ : T → Out → Prop} {upd : D → D} {fz : List Nat}
theorem jp_name (h : nthC cs i = some ⟨d, mm, a⟩) (hm : fullM mm = true := by rfl) (hi : imm d = false := by rfl) : JP cs (pName i) i mm d a (fun x => x) := ⟨hm, fun ρ r => by
  obtain ⟨s, e, k⟩ := r.nthC h
  have ho : mm.ok s := k.m hi
  have hl : s.l = .full := fullM_ok hm ho
  have hd : s.d = d := k.d
  refine ⟨[], s, ?_, e, ho, k.al hi, by rw [← hd]; rfl, fun _ => rfl⟩
  unfold pName
  rw [e]
  simp only [hl, if_true, hd]⟩
def setI {α : Type} (xs : List α) (k : Int) (y : α) : List α := match L2.ixN xs.length k with
  | some j => xs.set j y
  | none => xs
theorem jp_ix {xs : List α} {k : Int} {y : α} (h : JP cs fp i mm (dL e xs) a upd) (hk : JE cs g (.int k) l a2 v) (hy : idx xs k = some y) : JP cs (pIx fp g) i mm (e y) a (fun x => upd (.lst ((xs.map e).set ((L2.ixN xs.length k).getD 0) x))) := ⟨h.1, fun ρ r => by
  obtain ⟨p, s, e1, e2, e3, e4, e5, e6⟩ := h.2 ρ r
  obtain ⟨z, g1, g2⟩ := hk ρ r
  unfold idx atI at hy
  obtain ⟨j, h1, h2⟩ := bind_some hy
  have h3 : (xs.map e)[j]? = some (e y) := by rw [List.getElem?_map, h2]; rfl
  refine ⟨p ++ [j], s, ?_, e2, e3, e4, dAt_snoc e5 h3, fun d' => ?_⟩
  · unfold pIx
    rw [e1, g1]
    simp only [Option.bind_some, g2.d, List.length_map, h1, h3, Option.map_some]
  · rw [dSet_snoc d' e5 h3, e6, h1]
    rfl⟩
theorem upd_ix {xs : List α} {k : Int} {y : α} (hy : (L2.ixN xs.length k).isSome = true) : D.lst ((xs.map e).set ((L2.ixN xs.length k).getD 0) (e y)) = dL e (setI xs k y) := by
  obtain ⟨j, hj⟩ := Option.isSome_iff_exists.mp hy
  unfold setI
  rw [hj]
  show D.lst ((xs.map e).set j (e y)) = D.lst ((xs.set j y).map e)
  rw [List.map_set]
theorem ix_some {xs : List α} {k : Int} {y : α} (h : idx xs k = some y) : (L2.ixN xs.length k).isSome = true := by
  unfold idx atI at h
  obtain ⟨j, h1, h2⟩ := bind_some h
  rw [h1]
  rfl
theorem dput_KI (m : List (Int × α)) (k : Int) (y : α) : dput (m.map fun p => ((.inl p.1 : Key), e p.2)) (.inl k) (e y) = (aput m k y).map fun p => (.inl p.1, e p.2) := by
  unfold dput aput
  rw [dhas_KI]
  split
  · rw [List.map_map, List.map_map]
    refine List.map_congr_left fun p _ => ?_
    simp only [Function.comp]
    by_cases h : p.1 = k <;> simp [h]
  · simp
theorem aputO_some {κ : Type} [DecidableEq κ] {m m' : List (κ × α)} {k : κ} {y : α} (h : aputO m k y = some m') : m.length < 1000000 ∧ m' = aput m k y := by
  unfold aputO at h
  split at h
  · cases h; exact ⟨‹_›, rfl⟩
  · cases h
theorem p_KI {m m' : List (Int × α)} {k : Int} {y : α} (h : aputO m k y = some m') : Ev.putAt (dKI e m) (.int k) (e y) = some (dKI e m') := by
  obtain ⟨hl, rfl⟩ := aputO_some h
  show (if (m.map _).length < 1000000 then _ else _) = _
  rw [List.length_map, if_pos hl]
  show some (D.dk (dput _ _ _)) = _
  rw [dput_KI]
theorem js_putP {fk fv : EvE} {M : Type} {eM : M → D} {m : M} {o : Option M} {k : M → Option T} {dk dv : D} {W : M → D} (hp : JP (fzsC fz cs) fp i mm (eM m) a upd) (hk : JE (fzsC fz cs) fk dk l a2 v) {l3 : Lv} {a3 v3 : Bool} (hv : JE (fzsC fz cs) fv dv l3 a3 v3) (hi : imm dv = true) (hput : ∀ m', o = some m' → Ev.putAt (eM m) dk dv = some (eM m')) (hu : ∀ m', o = some m' → upd (eM m') = W m') (h : ∀ m', JS (put (fzsC fz cs) i ⟨W m', mm, a⟩) b (k m') Ψ) : JS cs (sSeq (sPutP fz fp fk fv) b) (bindO o k) Ψ := fun ρ r t ht => by
  have r1 := r.fzs fz
  obtain ⟨m', e1, e2⟩ := bindO_some ht
  obtain ⟨p, s, g1, g2, g3, g4, g5, g6⟩ := hp.2 _ r1
  obtain ⟨y, k1, k2⟩ := hk _ r1
  obtain ⟨w, q1, q2⟩ := hv _ r1
  obtain ⟨out, e6, q⟩ := h m' _ (r1.put (i := i) (s := ⟨dSet s.d p (eM m'), .full, s.al || false, s.pn⟩) ⟨by rw [g6, hu m' e1], fun _ => ok_keep hp.1 g3 rfl rfl, fun _ z => g4 (by simpa using z)⟩) t e2
  refine ⟨out, ?_, q⟩
  unfold sSeq sPutP
  simp only [q1, g1, k1, Option.bind_some, q2.d, k2.d, hput m' e1, g2, hi, if_true]
  exact e6
theorem js_appP {fe : EvE} {xs : List α} {x : α} {k : List α → Option T} {W : List α → D} (hp : JP (fzsC fz cs) fp i mm (dL e xs) a upd) (hv : JE (fzsC fz cs) fe (e x) .full a2 false) (hu : ∀ ys, appO xs x = some ys → upd (dL e ys) = W ys) (h : ∀ ys, JS (put (fzsC fz cs) i ⟨W ys, mm, a || a2⟩) b (k ys) Ψ) : JS cs (sSeq (sAppP fz fp fe) b) (bindO (appO xs x) k) Ψ := fun ρ r t ht => by
  have r1 := r.fzs fz
  obtain ⟨ys, e1, e2⟩ := bindO_some ht
  obtain ⟨hl, rfl⟩ := appO_some e1
  obtain ⟨p, s, g1, g2, g3, g4, g5, g6⟩ := hp.2 _ r1
  obtain ⟨w, q1, q2⟩ := hv _ r1
  have hvw : w.vw = false := by
    cases q : w.vw with
    | false => rfl
    | true => exact nomatch q2.vw q
  obtain ⟨out, e6, q⟩ := h _ _ (r1.put (i := i) (s := ⟨dSet s.d p (.lst (xs.map e ++ [w.d])), .full, s.al || w.al, s.pn⟩) ⟨by rw [g6, ← hu _ e1, q2.d]; show upd (D.lst (xs.map e ++ [e x])) = upd (D.lst ((xs ++ [x]).map e)); rw [List.map_append]; rfl, fun _ => ok_keep hp.1 g3 rfl rfl, fun _ z => by
    rcases Bool.or_eq_true _ _ ▸ z with z | z
    · rw [g4 z]; rfl
    · rw [q2.al z]; cases a <;> rfl⟩) t e2
  refine ⟨out, ?_, q⟩
  unfold sSeq sAppP
  simp only [q1, g1, Option.bind_some, g2]
  rw [if_pos ⟨hvw, leL_full q2.l, by simpa using hl⟩]
  exact e6
end
end Tg
set_option Elab.async false
set_option linter.all false
set_option maxRecDepth 100000
namespace Tg
open PySem PySem.Spec L2 Ev
open PyProof.Rows hiding St
noncomputable def pick {α : Type} (P : α → Prop) : Option α := open Classical in if h : ∃ x, P x then some h.choose else none
section
variable {cs : CS} {f : EvE} {b : EvS} {d : D} {l : Lv} {a v : Bool} {α β γ δ T : Type} {e : α → D} {e2 : β → D} {e3 : γ → D} {e4 : δ → D} {Ψ : T → Out → Prop}
theorem jit_lI {xs : List α} (hi : ∀ x, imm (e x) = true) (h : JE cs f (dL e xs) l a v) : JIt cs (iLstV f) xs e false := fun ρ r => by
  obtain ⟨x, e1, k⟩ := h ρ r
  refine ⟨false, id, ?_⟩
  unfold iLstV
  rw [e1]
  simp only [Option.bind_some, k.d, immAll_map hi, if_true, List.map_map]
  rfl
theorem jit_lW {xs : List α} (h : JE cs f (dL e xs) l a false) : JIt cs (iLstV f) xs e a := fun ρ r => by
  obtain ⟨x, e1, k⟩ := h ρ r
  have hv : x.vw = false := by
    cases q : x.vw with
    | false => rfl
    | true => exact nomatch k.vw q
  unfold iLstV
  rw [e1]
  simp only [Option.bind_some, k.d]
  by_cases q : immAll (xs.map e) = true
  · refine ⟨false, (fun z => nomatch z), ?_⟩
    rw [if_pos q, List.map_map]
    rfl
  · refine ⟨x.al, k.al, ?_⟩
    rw [if_neg q, if_neg (by rw [hv]; exact Bool.false_ne_true), List.map_map]
    rfl
end
end Tg
set_option Elab.async false
set_option linter.all false
set_option maxRecDepth 100000
namespace Tg
open PySem PySem.Spec L2 Ev
open PyProof.Rows hiding St
inductive Hid : CS → CS → Prop
  | nil : Hid [] []
  | no {x : Option Cl} {cs es : CS} : Hid cs es → Hid (x :: cs) (none :: es)
  | so {d : D} {m : Md} {a : Bool} {cs es : CS} : imm d = true → Hid cs es → Hid (some ⟨d, m, a⟩ :: cs) (some ⟨d, .a, true⟩ :: es)
theorem Hid.rel : ∀ {cs es : CS} {ρ : Ev.Env}, Hid cs es → Rel ρ cs → Rel (hideN ρ) es
  | _, _, ρ, .nil, r => by
    have := r.len
    cases ρ with
    | nil => exact ⟨rfl, fun i c e => by simp at e⟩
    | cons x ρ => simp at this
  | _, _, [], .no h, r => by have := r.len; simp at this
  | _, _, [], .so h _, r => by have := r.len; simp at this
  | _, _, x :: ρ, .no (cs := cs) (es := es) h, r => by
    have q : Rel (hideN ρ) es := h.rel ⟨by simpa using r.len, fun i c e => by simpa using r.at_ (i + 1) c (by simpa using e)⟩
    refine ⟨by simpa [hideN] using q.len, fun i c e => ?_⟩
    cases i with
    | zero => simp at e
    | succ i => simpa [hideN] using q.at_ i c (by simpa using e)
  | _, _, x :: ρ, .so (d := d) (m := m) (a := a) (cs := cs) (es := es) hi h, r => by
    have q : Rel (hideN ρ) es := h.rel ⟨by simpa using r.len, fun i c e => by simpa using r.at_ (i + 1) c (by simpa using e)⟩
    refine ⟨by simpa [hideN] using q.len, fun i c e => ?_⟩
    cases i with
    | zero =>
      simp at e
      subst e
      obtain ⟨s, e1, k⟩ := r.at_ 0 ⟨d, m, a⟩ (by simp)
      have : x = some s := by simpa using e1
      subst this
      have hd : s.d = d := k.d
      have hx : imm s.d = true := by rw [hd]; exact hi
      refine ⟨⟨s.d, .full, false, none⟩, by simp [hideN, hx], hd, fun z => trivial, fun z _ => rfl⟩
    | succ i => simpa [hideN] using q.at_ i c (by simpa using e)
section
variable {cs cs0 : CS} {fd : Ev.Env → Option D} {l : Lv} {a2 : Bool} {α β : Type} {e : α → D} {e2 : β → D}
theorem rd_name {i : Nat} {d : D} {m : Md} {a : Bool} (h : nthC cs i = some ⟨d, m, a⟩) : ∀ ρ, Rel ρ cs → rdName i ρ = some d := fun ρ r => by
  obtain ⟨s, e1, k⟩ := r.nthC h
  unfold rdName
  rw [e1]
  exact congrArg some k.d
theorem lcD_ok {itD : D → Option (List D)} {d : D} {vs : List Nat} {tg : Tg} {c : EvT} {el : EvE} {p : α → Option Bool} {F : α → Option β} {B : α → CS} {xs : List α} {ys : List β} (hd : ∀ ρ, Rel ρ cs → fd ρ = some d) (hit : itD d = some (xs.map e)) (hh : Hid cs cs0) (ht : ∀ x, tgC tg (e x) false (wipeC vs cs0) = some (B x)) (hc : ∀ x, JTo (B x) c (p x)) (he : ∀ x, JEo (B x) el e2 (F x) l a2 false) (h : bindO (lcM xs p F) big = some ys) : JE cs (eLcD itD fd vs tg c el) (dL e2 ys) (if isFull l = true then .full else .top) false false := fun ρ r => by
  obtain ⟨zs, e3, e4⟩ := bindO_some h
  obtain ⟨hl, rfl⟩ := big_some e4
  obtain ⟨rs, h1, h2, h3⟩ := lc_ok (a := false) ht hc he ((hh.rel r).wipe vs) (a' := false) id e3
  have e5 : (xs.map e).map (fun d => (d, false)) = xs.map fun x => (e x, false) := by rw [List.map_map]; rfl
  unfold eLcD
  rw [hd ρ r]
  simp only [Option.bind_some, hit, e5, h1]
  unfold mkBig
  rw [if_pos (by rw [h3]; exact hl)]
  by_cases q : isFull l = true
  · rw [if_pos q]
    rw [q] at h2
    rw [if_pos h2.allfull]
    exact ⟨_, rfl, by rw [h2.d], rfl, fun h => (nomatch h), fun h => (nomatch h)⟩
  · rw [if_neg q]
    split
    · exact ⟨_, rfl, by rw [h2.d], rfl, fun h => (nomatch h), fun h => (nomatch h)⟩
    · exact ⟨_, rfl, by rw [h2.d], rfl, fun h => (nomatch h), fun h => (nomatch h)⟩
theorem it_KI (hi : ∀ x, imm (e x) = true) (m : List (Int × α)) : itDK (dKI e m) = some (m.map (dT2 dI e)) := by
  show (if immAll _ = true then _ else _) = _
  rw [if_pos (by rw [List.map_map]; exact immAll_map (e := fun p : Int × α => e p.2) (fun x => hi x.2) m), List.map_map]
  rfl
end
end Tg
set_option Elab.async false
set_option linter.all false
set_option maxRecDepth 100000
namespace Tg
open PySem PySem.Spec Ev
end Tg
set_option Elab.async false
set_option linter.all false
set_option maxRecDepth 100000
namespace Tg
open PySem PySem.Spec Ev
section
variable {α β : Type} {e : α → D} {e2 : β → D} {cs : CS} {f g : EvE} {l l2 : Lv} {a a2 v v2 : Bool}
theorem n_t {xs : List D} {n : Nat} (h : xs.length = n) : lenOf (.tup xs) = some n := by rw [← h]; rfl
end
end Tg
set_option Elab.async false
set_option linter.all false
set_option maxRecDepth 100000
namespace Tg
open PySem PySem.Spec L2 Ev
open PyProof.Rows hiding St
section
variable {cs cs' : CS} {f g : EvE} {fx : EvX} {ga : EvA} {b : EvS} {d d2 : D} {l l2 : Lv} {a a2 v v2 : Bool} {α β T R σ : Type} {e : α → D} {e2 : β → D} {Ψ : T → Out → Prop} {i j : Nat} {o : Option T}
def JX (cs : CS) (fx : EvX) (cs' : CS) (d : D) (l : Lv) (a v : Bool) : Prop := ∀ ρ, Rel ρ cs → ∃ ρ' r, fx ρ = some (ρ', r) ∧ Rel ρ' cs' ∧ ROk r d l a v
theorem js_setX {k : α → Option T} {x : α} (h : JX cs fx cs' (e x) l a false) (hi : decide (i < cs'.length) = true) (hk : ∀ x, JS (put cs' i ⟨e x, mdOf l, a⟩) b (k x) Ψ) : JS cs (sSeq (sSetX i fx) b) (letB x k) Ψ := fun ρ r t ht => by
  obtain ⟨ρ', y, e1, r1, k1⟩ := h ρ r
  have hv : y.vw = false := by
    cases q : y.vw with
    | false => rfl
    | true => exact nomatch k1.vw q
  obtain ⟨out, e2, q⟩ := hk x _ (r1.put (i := i) (s := ⟨y.d, y.l, y.al, none⟩) ⟨k1.d, fun _ => mdOf_ok k1.l, fun _ => k1.al⟩) t ht
  refine ⟨out, ?_, q⟩
  unfold sSeq sSetX
  simp only [e1, Option.bind_some, hv]
  rw [if_pos (by rw [r1.len, hi]; rfl)]
  exact e2
end
end Tg
set_option Elab.async false
set_option linter.all false
set_option maxRecDepth 100000
namespace Tg
open PySem PySem.Spec L2 Ev
open PyProof.Rows hiding St
section
variable {cs cs' : CS} {f : EvE} {fx : EvX} {g : EvM} {b : EvS} {d d2 : D} {l l2 : Lv} {a a2 v v2 : Bool} {α β T R σ : Type} {e : α → D} {e2 : β → D} {Ψ : T → Out → Prop} {i j : Nat} {o : Option T}
def hideC (cs : CS) (j : Nat) : CS := cs.set j none
theorem Rel.hide {ρ : Ev.Env} (r : Rel ρ cs) (j : Nat) : Rel (ρ.set j none) (hideC cs j) where
  len := by unfold hideC; rw [List.length_set, List.length_set, r.len]
  at_ := fun k c e => by
    unfold hideC at e
    rw [List.getElem?_set] at e ⊢
    by_cases q : j = k
    · subst q
      rw [if_pos rfl] at e
      split at e <;> simp at e
    · rw [if_neg q] at e
      rw [if_neg q]
      exact r.at_ k c e
theorem Rel.tail {ρ : Ev.Env} {x : Option Sv} {c : Option Cl} (r : Rel (x :: ρ) (c :: cs)) : Rel ρ cs := ⟨by simpa using r.len, fun i c e => by simpa using r.at_ (i + 1) c (by simpa using e)⟩
end
end Tg
set_option Elab.async false
set_option linter.all false
set_option maxRecDepth 100000
namespace Tg
open PySem PySem.Spec L2 Ev
open PyProof.Rows hiding St
end Tg
set_option Elab.async false
set_option linter.all false
set_option maxRecDepth 100000
namespace Tg
open PySem PySem.Spec L2 Ev
open PyProof.Rows hiding St
section
variable {cs : CS} {f g : EvE} {b : EvS} {l l2 : Lv} {a a2 : Bool} {α T : Type} {e : α → D} {Ψ : T → Out → Prop} {i : Nat} {fz : List Nat}
def sortKO (m : List (Int × α)) : Option (List Int) := if m.length < 64 then some (sortI (m.map (·.1))) else none
theorem b_sortedK {m : List (Int × α)} {ks : List Int} (h : sortKO m = some ks) : bSorted [dKI e m] = some (dL dI ks, .top) := by
  unfold sortKO at h
  split at h
  · rename_i hl
    cases h
    have hk : ∀ m : List (Int × α), keysI (m.map fun p => (Sum.inl p.1, e p.2)) = some (m.map (·.1)) := fun m => by
      induction m with
      | nil => rfl
      | cons p m ih =>
        show (keysI (m.map fun p => (Sum.inl p.1, e p.2))).map (p.1 :: ·) = _
        rw [ih]
        rfl
    have : bSortedD [dKI e m] = some (dL dI (sortI (m.map (·.1))), .top) := by
      show (keysI (m.map fun p => (Sum.inl p.1, e p.2))).bind _ = _
      rw [hk, Option.bind_some, if_pos (by rw [List.length_map]; exact hl)]
    show (bSortedD _).or _ = _
    rw [this]
    rfl
  · cases h
end
end Tg
set_option Elab.async false
set_option linter.all false
set_option maxRecDepth 100000
namespace Tg
open PySem PySem.Spec L2 Ev
open PyProof.Rows hiding St
end Tg
set_option Elab.async false
set_option linter.all false
set_option maxRecDepth 100000
namespace Tg
open PySem PySem.Spec L2 Ev
open PyProof.Rows hiding St
def lendC : CS → Nat → CS
  | [], _ => []
  | x :: cs, 0 => x.map (fun c => ⟨c.d, .s, true⟩) :: cs
  | x :: cs, i + 1 => x :: lendC cs i
theorem lendC_get : ∀ (cs : CS) (i j : Nat) (c : Cl), (lendC cs i)[j]? = some (some c) → (j ≠ i ∧ cs[j]? = some (some c)) ∨ (j = i ∧ ∃ c0, cs[j]? = some (some c0) ∧ c = ⟨c0.d, .s, true⟩)
  | [], _, _, _, h => by simp [lendC] at h
  | x :: cs, 0, 0, c, h => by
    cases x with
    | none => simp [lendC] at h
    | some c0 => simp [lendC] at h; exact .inr ⟨rfl, c0, rfl, h.symm⟩
  | x :: cs, 0, j + 1, c, h => .inl ⟨by omega, by simpa [lendC] using h⟩
  | x :: cs, i + 1, 0, c, h => .inl ⟨by omega, by simpa [lendC] using h⟩
  | x :: cs, i + 1, j + 1, c, h => by
    rcases lendC_get cs i j c (by simpa [lendC] using h) with ⟨h1, h2⟩ | ⟨h1, c0, h2, h3⟩
    · exact .inl ⟨by omega, by simpa using h2⟩
    · exact .inr ⟨by omega, c0, by simpa using h2, h3⟩
theorem lendC_len : ∀ (cs : CS) (i : Nat), (lendC cs i).length = cs.length
  | [], _ => rfl
  | x :: cs, 0 => rfl
  | x :: cs, i + 1 => by show (lendC cs i).length + 1 = _; rw [lendC_len cs i]; rfl
theorem lend_get (ρ : Ev.Env) (i j : Nat) : (Ev.lend i ρ)[j]? = if j = i then (ρ[j]?).map (fun x => x.map fun s => ⟨s.d, .shr, true, none⟩) else ρ[j]? := by
  unfold Ev.lend
  by_cases h : j = i
  · subst h
    rw [if_pos rfl]
    cases e : ρ[j]? with
    | none => simp [e]
    | some x =>
      cases x with
      | none => simp [e]
      | some s =>
        have := (List.getElem?_eq_some_iff.mp e).1
        simp [this]
  · rw [if_neg h]
    split
    · rw [List.getElem?_set_ne (fun z => h z.symm)]
    · rfl
theorem lend_len (ρ : Ev.Env) (i : Nat) : (Ev.lend i ρ).length = ρ.length := by
  unfold Ev.lend
  split <;> simp
theorem Rel.lend {ρ : Ev.Env} {cs : CS} (r : Rel ρ cs) (i : Nat) : Rel (Ev.lend i ρ) (lendC cs i) where
  len := by rw [lend_len, lendC_len, r.len]
  at_ := fun j c e => by
    rw [lend_get]
    rcases lendC_get cs i j c e with ⟨h1, h2⟩ | ⟨h1, c0, h2, rfl⟩
    · rw [if_neg h1]
      exact r.at_ j c h2
    · rw [if_pos h1]
      obtain ⟨s, e1, k⟩ := r.at_ j c0 h2
      rw [e1]
      exact ⟨_, rfl, k.d, fun _ => rfl, fun _ => id⟩
theorem je_bor {cs : CS} {f : EvE} {d : D} {l : Lv} (i : Nat) (h : JE (lendC cs i) f d l false false) : JE cs (eBor i f) d l false false := fun ρ r => by
  obtain ⟨x, e1, k1⟩ := h _ (r.lend i)
  unfold eBor
  rw [e1]
  simp only [Option.bind_some]
  have h1 : x.al = false := by
    cases q : x.al with
    | false => rfl
    | true => exact nomatch k1.al q
  have h2 : x.vw = false := by
    cases q : x.vw with
    | false => rfl
    | true => exact nomatch k1.vw q
  by_cases hi : imm x.d = true
  · rw [if_pos hi]
    exact ⟨_, rfl, k1.d, (by cases l <;> rfl), (fun h => nomatch h), (fun h => nomatch h)⟩
  · rw [if_neg hi, if_pos ⟨h1, h2⟩]
    exact ⟨x, rfl, k1⟩
end Tg
set_option Elab.async false
set_option linter.all false
set_option maxRecDepth 100000
namespace Tg
open PySem PySem.Spec L2 Ev
open PyProof.Rows hiding St
section
variable {cs : CS} {b : EvS} {a : Bool} {α σ R T : Type} {e : α → D} {Ψ : T → Out → Prop}
theorem forS_go {C : σ → CS} {tg : Tg} {body : EvS} {F : α → σ → Option σ} {B : α → σ → CS} (ht : ∀ x s, tgC tg (e x) a (C s) = some (B x s)) (hb : ∀ x s, JS (B x s) body (F x s) (ΨL C)) {a' : Bool} (ha : a' = true → a = true) :
    ∀ (xs : List α) (s : σ) (ρ : Ev.Env), Rel ρ (C s) → ∀ s', forS xs s F = some s' → ∃ ρ', forL tg body (xs.map fun x => (e x, a')) ρ = some (.nx ρ') ∧ Rel ρ' (C s') := by
  intro xs
  induction xs with
  | nil => intro s ρ r s' h; cases h; exact ⟨ρ, rfl, r⟩
  | cons x xs ih =>
    intro s ρ r s' h
    unfold forS at h
    obtain ⟨s1, g1, g2⟩ := bindO_some h
    obtain ⟨ρ1, g3, r3⟩ := tgC_ok (ht x s) ha r
    obtain ⟨out, g4, q4⟩ := hb x s ρ1 r3 s1 g1
    rw [List.map_cons]
    unfold forL
    rw [g3]
    simp only [Option.bind_some, g4]
    cases out with
    | nx ρ2 => exact ih s1 ρ2 q4 s' g2
    | ct ρ2 => exact ih s1 ρ2 q4 s' g2
    | bk ρ2 => exact q4.elim
    | rt ρ2 d l a' => exact q4.elim
theorem leM_pp (k : Nat) : leM (.p k) (.p k) = true := by simp [leM]
def pinOk (cs : CS) (j : Nat) : Nat → CS → Bool
  | _, [] => true
  | i, some ⟨_, .p k, _⟩ :: es => ((i == j) || (match nthC cs i with
    | some ⟨d, .p k', _⟩ => !imm d && (k == k')
    | _ => false)) && pinOk cs j (i + 1) es
  | i, _ :: es => pinOk cs j (i + 1) es
theorem pinOk_at {cs : CS} {j : Nat} : ∀ {n : Nat} {es : CS}, pinOk cs j n es = true → ∀ {i : Nat} {d : D} {k : Nat} {al : Bool}, es[i]? = some (some ⟨d, .p k, al⟩) → n + i ≠ j → ∃ d' al', nthC cs (n + i) = some ⟨d', .p k, al'⟩ ∧ imm d' = false
  | _, [], _, i, _, _, _, e, _ => by simp at e
  | n, x :: es, h, 0, d, k, al, e, hj => by
    simp at e
    subst e
    simp only [pinOk, Bool.and_eq_true, Bool.or_eq_true, beq_iff_eq] at h
    rcases h.1 with h1 | h1
    · exact absurd h1 (by simpa using hj)
    · split at h1
      · rename_i d2 k2 a2 e2
        simp only [Bool.and_eq_true, Bool.not_eq_true', beq_iff_eq] at h1
        rw [h1.2]
        exact ⟨d2, a2, by simpa using e2, h1.1⟩
      · cases h1
  | n, x :: es, h, i + 1, d, k, al, e, hj => by
    have h2 : pinOk cs j (n + 1) es = true := by
      cases x with
      | none => simpa [pinOk] using h
      | some c =>
        obtain ⟨d0, m0, a0⟩ := c
        cases m0 <;> first
          | (simpa [pinOk] using h)
          | (simp only [pinOk, Bool.and_eq_true] at h; exact h.2)
    have := pinOk_at h2 (i := i) (by simpa using e) (by omega)
    rw [show n + (i + 1) = n + 1 + i by omega]
    exact this
theorem topP_lt : ∀ {ρ : Ev.Env} {i k : Nat} {s : Sv}, ρ[i]? = some (some s) → s.pn = some k → k < topP ρ
  | [], _, _, _, e, _ => by simp at e
  | x :: ρ, 0, k, s, e, h => by
    simp at e
    subst e
    unfold topP
    rw [h]
    exact Nat.lt_of_lt_of_le (Nat.lt_succ_self k) (Nat.le_max_left _ _)
  | x :: ρ, i + 1, k, s, e, h => by
    have := topP_lt (ρ := ρ) (i := i) (by simpa using e) h
    unfold topP
    cases x with
    | none => exact this
    | some s0 =>
      cases e0 : s0.pn with
      | none => simpa [e0] using this
      | some k0 => simp only [e0]; omega
theorem clr_get (k : Nat) (ρ : Ev.Env) (i : Nat) : (clr k ρ)[i]? = (ρ[i]?).map fun o => o.map fun s => if s.pn = some k then ⟨s.d, s.l, s.al, none⟩ else s := by
  unfold clr
  rw [List.getElem?_map]
theorem rel_back {ρ0 ρ : Ev.Env} {cs es : CS} {j : Nat} {c : Cl} {s0 : Sv} (r0 : Rel ρ0 cs) (r : Rel ρ es) (hp : pinOk cs j 0 es = true) (e0 : ρ0[j]? = some (some s0)) (k0 : c.ok s0) : Rel ((clr (topP ρ0) ρ).set j (some s0)) (put es j c) where
  len := by rw [put_set, List.length_set, List.length_set]; unfold clr; rw [List.length_map, r.len]
  at_ := fun i c' e => by
    rw [put_set, List.getElem?_set] at e
    rw [List.getElem?_set]
    by_cases q : j = i
    · subst q
      rw [if_pos rfl] at e ⊢
      split at e
      · rename_i hl
        cases e
        rw [if_pos (by unfold clr; rw [List.length_map, r.len]; exact hl)]
        exact ⟨s0, rfl, k0⟩
      · cases e
    · rw [if_neg q] at e ⊢
      obtain ⟨s, e1, k1⟩ := r.at_ i c' e
      rw [clr_get, e1]
      by_cases hk : s.pn = some (topP ρ0)
      · refine ⟨⟨s.d, s.l, s.al, none⟩, by simp [hk], k1.d, fun hi => ?_, k1.al⟩
        have hm := k1.m hi
        obtain ⟨d1, m1, a1⟩ := c'
        cases m1 with
        | p k =>
          obtain ⟨d', al', e2, hi2⟩ := pinOk_at hp e (by simpa using fun z => q z.symm)
          obtain ⟨s2, e3, k3⟩ := r0.nthC e2
          have h3 := k3.m hi2
          have := topP_lt (by simpa using e3) h3.2
          have h4 : s.pn = some k := hm.2
          rw [h4] at hk
          have := Option.some.inj hk
          omega
        | _ => exact hm
      · exact ⟨s, by simp [hk], k1.d, k1.m, k1.al⟩
theorem js_forH {C : Nat → σ → CS} {fp : EvP} {tg : Tg} {body : EvS} {xs : List α} {s0 : σ} {F : α → σ → Option σ} {B : Nat → α → σ → CS} {k : σ → Option T} {i : Nat} {mm : Md} {dd : D} {upd : D → D} {a2 : Bool} (hp : JP cs fp i mm (dL e xs) a upd) (hn : nthC cs i = some ⟨dd, mm, a2⟩) (hnd : isNd dd = true) (him : ∀ x, imm (e x) = true)
    (h0 : ∀ kp, Le (put cs i ⟨.any, .p kp, false⟩) (C kp s0)) (hs : ∀ kp s, nthC (C kp s) i = some ⟨.any, .p kp, false⟩) (hq : ∀ kp s, pinOk cs i 0 (C kp s) = true)
    (ht : ∀ kp x s, tgC tg (e x) false (C kp s) = some (B kp x s)) (hb : ∀ kp x s, JS (B kp x s) body (F x s) (ΨL (C kp))) (h : ∀ kp s, JS (put (C kp s) i ⟨dd, mm, a2⟩) b (k s) Ψ) : JS cs (sSeq (sForH fp tg body) b) (bindO (forS xs s0 F) k) Ψ := fun ρ r t hh => by
  obtain ⟨s', e2, e3⟩ := bindO_some hh
  obtain ⟨p, sv, e4, e5, e6, _, _, _⟩ := hp.2 ρ r
  obtain ⟨sv', e5', k5⟩ := r.nthC hn
  rw [e5] at e5'
  cases e5'
  have r1 : Rel (ρ.set i (some ⟨.any, .full, false, some (topP ρ)⟩)) (C (topP ρ) s0) := (h0 (topP ρ)).rel (r.put ⟨rfl, fun _ => ⟨rfl, rfl⟩, fun _ => id⟩)
  obtain ⟨ρ', g1, r2⟩ := forS_go (a' := false) (ht _) (hb _) (fun z => nomatch z) xs s0 _ r1 s' e2
  obtain ⟨s2, e7, k7⟩ := r2.nthC (hs _ _)
  have hpn := (k7.m rfl).2
  obtain ⟨out, e8, q⟩ := h (topP ρ) s' _ (rel_back r r2 (hq _ _) e5 k5) t e3
  refine ⟨out, ?_, q⟩
  have him' : immAll (xs.map e) = true := immAll_map him xs
  have hsd : isNd sv.d = true := by rw [k5.d]; exact hnd
  unfold sSeq sForH
  rw [e4]
  simp only [Option.bind_some, e5]
  rw [if_pos ⟨him', hsd⟩, List.map_map]
  have g1' : forL tg body (xs.map ((fun d => (d, false)) ∘ e)) (ρ.set i (some ⟨.any, .full, false, some (topP ρ)⟩)) = some (.nx ρ') := g1
  rw [g1']
  simp only [Option.bind_some]
  unfold backH
  simp only [e7]
  rw [if_pos hpn]
  exact e8
end
end Tg
set_option Elab.async false
set_option linter.all false
set_option maxRecDepth 100000
namespace Tg
open PySem PySem.Spec L2 Ev
open PyProof.Rows hiding St
end Tg
set_option Elab.async false
set_option linter.all false
set_option maxRecDepth 100000
namespace Tg
open PySem PySem.Spec L2 Ev
open PyProof.Rows hiding St
end Tg
set_option Elab.async false
set_option linter.all false
set_option maxRecDepth 100000
namespace Tg
open PySem PySem.Spec L2 Ev
open PyProof.Rows hiding St
section
variable {cs : CS} {f g : EvE} {b : EvS} {l l1 l2 : Lv} {a a1 a2 v v1 v2 : Bool} {α T : Type} {e : α → D} {Ψ : T → Out → Prop} {i j : Nat}
def sdaO (m : List (Int × List α)) (k : Int) (x : α) : Option (List (Int × List α)) := if m.length < 1000000 then (match m.findIdx? (fun p => decide (p.1 = k)) with
  | some n => (m[n]?).bind fun q => if q.2.length ≤ 1000000 then some (m.set n (q.1, q.2 ++ [x])) else none
  | none => some (m ++ [(k, [x])])) else none
theorem ok_same {d d' : D} {m : Md} {s : Sv} (k1 : Cl.ok ⟨d, m, a⟩ s) (hi : imm d = false) (hm : fullM m = true) : Cl.ok ⟨d', m, a⟩ ⟨d', .full, s.al || false, s.pn⟩ :=
  ⟨rfl, fun _ => ok_keep hm (k1.m hi) rfl rfl, fun _ z => k1.al hi (by simpa using z)⟩
theorem map_eraseIdxE (e : α → D) : ∀ (xs : List α) (j : Nat), (xs.map e).eraseIdx j = (xs.eraseIdx j).map e
  | [], _ => rfl
  | _ :: _, 0 => rfl
  | x :: xs, j + 1 => by
    show e x :: (xs.map e).eraseIdx j = e x :: (xs.eraseIdx j).map e
    rw [map_eraseIdxE e xs j]
theorem sda_KI {m m' : List (Int × List α)} {k : Int} {x : α} (h : sdaO m k x = some m') : sda (m.map fun p => ((.inl p.1 : Key), dL e p.2)) (.inl k) (e x) = some (m'.map fun p => (.inl p.1, dL e p.2)) := by
  unfold sdaO at h
  split at h
  · have hf : (m.map fun p => ((.inl p.1 : Key), dL e p.2)).findIdx? (fun q => decide (q.1 = .inl k)) = m.findIdx? (fun p => decide (p.1 = k)) := by
      rw [List.findIdx?_map]
      congr 1
      funext p
      by_cases hp : p.1 = k <;> simp [Function.comp, hp]
    unfold sda
    rw [hf]
    split at h
    · rename_i n en
      obtain ⟨q, eq, h⟩ := bind_some h
      split at h
      · rename_i hl
        cases h
        try rw [en]
        have hq : ((m.map fun p => ((.inl p.1 : Key), dL e p.2)).map fun q => q.2)[n]? = some (D.lst (q.2.map e)) := by
          rw [List.map_map, List.getElem?_map, eq]
          rfl
        simp only [hq]
        rw [if_pos (by rw [List.length_map]; exact hl)]
        congr 1
        have : ∀ (m : List (Int × List α)) (n : Nat), m[n]? = some q → setSnd (m.map fun p => ((.inl p.1 : Key), dL e p.2)) n (D.lst (q.2.map e ++ [e x])) = (m.set n (q.1, q.2 ++ [x])).map fun p => (.inl p.1, dL e p.2) := by
          intro m
          induction m with
          | nil => intro n h; simp at h
          | cons p m ih =>
            intro n h
            cases n with
            | zero =>
              cases h
              simp [setSnd]
            | succ n =>
              have := ih n (by simpa using h)
              simp only [List.map_cons, setSnd, List.set_cons_succ]
              rw [this]
        exact this m n eq
      · cases h
    · rename_i en
      cases h
      try rw [en]
      simp
  · cases h
theorem js_sda {m : List (Int × List α)} {k : Int} {x : α} {mm : Md} {mj : Md} {aj : Bool} {kk : List (Int × List α) → Option T} (hn : nthC cs i = some ⟨dKI (dL e) m, mm, a⟩) (hm : fullM mm = true) (hk : JE cs f (.int k) l1 a1 v1) (hj : nthC cs j = some ⟨e x, mj, aj⟩) (hi : imm (e x) = true)
    (h : ∀ m', JS (put cs i ⟨dKI (dL e) m', mm, a⟩) b (kk m') Ψ) : JS cs (sSeq (sSDA i f j) b) (bindO (sdaO m k x) kk) Ψ := fun ρ r t ht => by
  obtain ⟨s, e1, k1⟩ := r.nthC hn
  obtain ⟨sj, ej, kj⟩ := r.nthC hj
  have hfull := fullM_ok hm (k1.m rfl)
  have hd : s.d = .dk (m.map fun p => (.inl p.1, dL e p.2)) := k1.d
  have hdj : sj.d = e x := kj.d
  obtain ⟨yk, e2, k2⟩ := hk _ r
  obtain ⟨m', e4, e5⟩ := bindO_some ht
  have hsd := sda_KI (e := e) e4
  have hl : m.length < 1000000 := by
    unfold sdaO at e4
    split at e4
    · assumption
    · cases e4
  obtain ⟨out, e6, q⟩ := h _ _ (r.put (i := i) (ok_same (d' := dKI (dL e) m') k1 rfl hm)) t e5
  refine ⟨out, ?_, q⟩
  unfold sSeq sSDA
  rw [e1]
  have hko : keyOf (D.int k) = some (.inl k) := rfl
  simp only [hd, e2, Option.bind_some, k2.d, hko, ej]
  rw [if_pos ⟨hfull, by rw [hdj]; exact hi, by rw [List.length_map]; exact hl⟩, hdj, hsd]
  exact e6
end
end Tg
set_option Elab.async false
set_option linter.all false
set_option maxRecDepth 100000
namespace Tg
open PySem PySem.Spec L2 Ev
open PyProof.Rows hiding St
section
variable {cs : CS} {f g : EvE} {b : EvS} {l l1 l2 : Lv} {a a1 a2 v v1 v2 : Bool} {α T : Type} {e : α → D} {Ψ : T → Out → Prop} {i j : Nat}
abbrev SS : Type := { x : Str // PyData.strOk x = true }
abbrev mkS (x : Str) (h : PyData.strOk x = true) : SS := ⟨x, h⟩
abbrev dSS (x : SS) : D := .str x.1
theorem ek_str : EqOk 0 dSS := ⟨fun x m _ => by simp [Ev.shp]; exact x.2, fun x y => by
  unfold deq
  simp only [pd, PyData.eqv]
  by_cases h : x = y
  · simp [h]
  · have : x.1 ≠ y.1 := fun z => h (Subtype.ext z)
    simp [h, this]⟩
def extO (xs ys : List α) : Option (List α) := if xs.length + ys.length ≤ 1000000 then some (xs ++ ys) else none
theorem js_ext {xs ys : List α} {mm : Md} {kk : List α → Option T} (hn : nthC cs i = some ⟨dL e xs, mm, a⟩) (hm : fullM mm = true) (hk : JE cs f (dL e ys) l1 a1 v1) (hi : ∀ x, imm (e x) = true)
    (h : ∀ zs, JS (put cs i ⟨dL e zs, mm, a⟩) b (kk zs) Ψ) : JS cs (sSeq (sExtI i f) b) (bindO (extO xs ys) kk) Ψ := fun ρ r t ht => by
  obtain ⟨s, e1, k1⟩ := r.nthC hn
  have hfull := fullM_ok hm (k1.m rfl)
  have hd : s.d = .lst (xs.map e) := k1.d
  obtain ⟨y, e2, k2⟩ := hk _ r
  obtain ⟨m', e4, e5⟩ := bindO_some ht
  unfold extO at e4
  split at e4
  · rename_i hl
    cases e4
    obtain ⟨out, e6, q⟩ := h _ _ (r.put (i := i) (ok_same (d' := dL e (xs ++ ys)) k1 rfl hm)) t e5
    refine ⟨out, ?_, q⟩
    unfold sSeq sExtI
    rw [e1]
    simp only [hd, e2, Option.bind_some, k2.d]
    rw [if_pos ⟨by rw [hfull]; decide, by rw [List.length_map, List.length_map]; exact hl, immAll_map hi ys⟩, hfull, ← List.map_append]
    exact e6
  · cases e4
def remO [DecidableEq α] (xs : List α) (x : α) : Option (List α) := (xs.findIdx? fun y => decide (y = x)).map xs.eraseIdx
theorem js_rem [DecidableEq α] {n : Nat} {xs : List α} {x : α} {mm : Md} {kk : List α → Option T} (he : EqOk n e) (hn : nthC cs i = some ⟨dL e xs, mm, a⟩) (hm : fullM mm = true) (hk : JE cs f (e x) l1 a1 v1)
    (h : ∀ zs, JS (put cs i ⟨dL e zs, mm, a⟩) b (kk zs) Ψ) (hb : decide (n ≤ 7) = true := by decide) : JS cs (sSeq (sRemI i f) b) (bindO (remO xs x) kk) Ψ := fun ρ r t ht => by
  obtain ⟨s, e1, k1⟩ := r.nthC hn
  have hb := of_decide_eq_true hb
  have hfull := fullM_ok hm (k1.m rfl)
  have hd : s.d = .lst (xs.map e) := k1.d
  obtain ⟨y, e2, k2⟩ := hk _ r
  obtain ⟨m', e4, e5⟩ := bindO_some ht
  unfold remO at e4
  obtain ⟨j, ej, e7⟩ := Option.map_eq_some_iff.mp e4
  subst e7
  obtain ⟨out, e6, q⟩ := h _ _ (r.put (i := i) (ok_same (d' := dL e (xs.eraseIdx j)) k1 rfl hm)) t e5
  refine ⟨out, ?_, q⟩
  unfold sSeq sRemI
  rw [e1]
  have hf : (xs.map e).findIdx? (fun z => deq z (e x)) = some j := by
    rw [List.findIdx?_map, ← ej]
    congr 1
    funext z
    exact he.eq z x
  simp only [hd, e2, Option.bind_some, k2.d, hf]
  rw [if_pos ⟨by rw [hfull]; decide, by rw [he.shp x 8 (by omega), shps_map (fun y => he.shp y 7 hb)]; rfl⟩, hfull, map_eraseIdxE]
  exact e6
end
end Tg
set_option Elab.async false
set_option linter.all false
set_option maxRecDepth 100000
namespace Tg
open PySem PySem.Spec L2 Ev
open PyProof.Rows hiding St
end Tg
set_option Elab.async false
set_option linter.all false
set_option maxRecDepth 100000
namespace Tg
open PySem PySem.Spec L2 Ev
open PyProof.Rows hiding St
end Tg
set_option Elab.async false
set_option linter.all false
set_option maxRecDepth 100000
namespace Tg
open PySem PySem.Spec L2 Ev
open PyProof.Rows hiding St
section
variable {cs : CS} {f g : EvE} {b : EvS} {l l1 l2 : Lv} {a a1 aj v v1 v2 : Bool} {α β T : Type} {e : α → D} {e2 : β → D} {Ψ : T → Out → Prop} {i j : Nat}
theorem js_appMv {xs : List (α × β)} {x : α} {y : β} {m mj : Md} {k : List (α × β) → Option T} (hn : nthC cs i = some ⟨dL (dT2 e e2) xs, m, a⟩) (hj : nthC cs j = some ⟨e2 y, mj, aj⟩) (he : JE cs f (e x) l1 a1 v1) (hi : imm (e x) = true) (hni : imm (e2 y) = false) (hm : ownM m = true) (hmj : fullM mj = true) (hij : decide (i ≠ j) = true)
    (h : ∀ ys, JS (put (hideC cs j) i ⟨dL (dT2 e e2) ys, m, a || aj⟩) b (k ys) Ψ) : JS cs (sSeq (sAppMv i j f) b) (bindO (appO xs (x, y)) k) Ψ := fun ρ r t ht => by
  obtain ⟨s, e1, k1⟩ := r.nthC hn
  obtain ⟨sj, ej, kj⟩ := r.nthC hj
  obtain ⟨w, ew, kw⟩ := he _ r
  obtain ⟨zs, e3, e4⟩ := bindO_some ht
  obtain ⟨hl, rfl⟩ := appO_some e3
  have hml := k1.m rfl
  have hne := ownM_ok hm hml
  have hfj := fullM_ok hmj (kj.m hni)
  have hd : s.d = .lst (xs.map (dT2 e e2)) := k1.d
  have hdj : sj.d = e2 y := kj.d
  have hs : Cl.ok ⟨dL (dT2 e e2) (xs ++ [(x, y)]), m, a || aj⟩ ⟨.lst (xs.map (dT2 e e2) ++ [.tup [w.d, sj.d]]), keepLv s.l .full, s.al || sj.al, s.pn⟩ := by
    refine ⟨by simp [kw.d, hdj], fun _ => ?_, fun _ z => ?_⟩
    · have := keepM_ok (m := m) (l := .full) (l2 := .full) (x := s) (y := ⟨.lst (xs.map (dT2 e e2) ++ [.tup [w.d, sj.d]]), keepLv s.l .full, s.al || sj.al, s.pn⟩) hml rfl rfl rfl
      have hk : keepM m .full = m := by cases m <;> first | rfl | exact absurd hm (by decide)
      rw [hk] at this
      exact this
    · rcases Bool.or_eq_true _ _ ▸ z with z | z
      · have := k1.al rfl z
        simp only at this
        rw [this]; rfl
      · have := kj.al hni z
        simp only at this
        rw [this]; cases a <;> rfl
  obtain ⟨out, e6, q⟩ := h _ _ ((r.hide j).put (i := i) hs) t e4
  refine ⟨out, ?_, q⟩
  unfold sSeq sAppMv
  rw [e1, ej]
  simp only [hd, ew, Option.bind_some]
  rw [if_pos ⟨hne, hfj, of_decide_eq_true hij, by rw [List.length_map]; exact hl, by rw [kw.d]; exact hi⟩]
  exact e6
end
end Tg
set_option Elab.async false
set_option linter.all false
set_option maxRecDepth 100000
namespace Tg
open PySem PySem.Spec L2 Ev
open PyProof.Rows hiding St
end Tg
set_option Elab.async false
set_option linter.all false
set_option maxRecDepth 100000
namespace Tg
open PySem PySem.Spec L2 Ev
open PyProof.Rows hiding St
end Tg
set_option Elab.async false
set_option linter.all false
set_option maxRecDepth 100000
namespace Tg
open PySem PySem.Spec L2 Ev
open PyProof.Rows hiding St
section
variable {cs : CS} {f g fk fv : EvE} {fp : EvP} {b : EvS} {i : Nat} {mm : Md} {d d2 : D} {l l2 : Lv} {a a2 a3 v v2 : Bool} {α β σ R T : Type} {e : α → D} {Ψ : T → Out → Prop} {upd : D → D} {fz : List Nat}
theorem imm_flI (xs : List Int) : imm (dF dI xs) = true := immAll_map (fun _ => rfl) xs
end
end Tg
set_option Elab.async false
set_option linter.all false
set_option maxRecDepth 100000
namespace Tg
open PySem PySem.Spec L2 Ev
open PyProof.Rows hiding St
end Tg
set_option Elab.async false
set_option linter.all false
set_option maxRecDepth 100000
namespace Tg
open PySem PySem.Spec L2 Ev
open PyProof.Rows hiding St
end Tg
namespace Tg
open PySem PySem.Spec L2 Ev
open PyProof.Rows hiding St
theorem js_le {cs : CS} {b : EvS} {T : Type} {o : Option T} {Ψ : T → Out → Prop} (C : CS) (h : Le cs C) (k : JS C b o Ψ) : JS cs b o Ψ := fun ρ r t ht => k ρ (h.rel r) t ht
end Tg
namespace Tg
open PySem PySem.Spec L2 Ev
open PyProof.Rows hiding St
end Tg
set_option Elab.async false
set_option linter.all false
set_option maxRecDepth 100000
namespace Tg
open PySem PySem.Spec L2 Ev
open PyProof.Rows hiding St
end Tg
namespace Tg
open PySem PySem.Spec L2 Ev
open PyProof.Rows hiding St
end Tg
set_option Elab.async false
set_option linter.all false
set_option maxRecDepth 100000
namespace Tg
open PySem PySem.Spec L2 Ev
open PyProof.Rows hiding St
end Tg
set_option Elab.async false
set_option linter.all false
set_option maxRecDepth 100000
namespace Tg
open PySem PySem.Spec L2 Ev
open PyProof.Rows hiding St
end Tg
set_option Elab.async false
set_option linter.all false
set_option maxRecDepth 100000
namespace Tg
open PySem PySem.Spec L2 Ev
open PyProof.Rows hiding St
end Tg
set_option Elab.async false
set_option linter.all false
set_option maxRecDepth 100000
namespace Tg
open PySem PySem.Spec L2 Ev
open PyProof.Rows hiding St
end Tg
set_option Elab.async false
set_option linter.all false
set_option maxRecDepth 100000
namespace Tg
open PySem PySem.Spec L2 Ev
open PyProof.Rows hiding St
end Tg
set_option Elab.async false
set_option linter.all false
set_option maxRecDepth 100000
namespace Tg
open PySem PySem.Spec L2 Ev
open PyProof.Rows hiding St
end Tg
set_option Elab.async false
set_option linter.all false
set_option maxRecDepth 100000
namespace Tg
open PySem PySem.Spec L2 Ev
open PyProof.Rows hiding St
end Tg
set_option Elab.async false
set_option linter.all false
set_option maxRecDepth 100000
namespace Tg
open PySem PySem.Spec L2 Ev
open PyProof.Rows hiding St
end Tg
set_option Elab.async false
set_option linter.all false
set_option maxRecDepth 100000
namespace Tg
open PySem PySem.Spec L2 Ev
open PyProof.Rows hiding St
end Tg
set_option Elab.async false
set_option linter.all false
set_option maxRecDepth 100000
namespace Tg
open PySem PySem.Spec L2 Ev
open PyProof.Rows hiding St
end Tg
set_option Elab.async false
set_option linter.all false
set_option maxRecDepth 100000
namespace Tg
open PySem PySem.Spec L2 Ev
open PyProof.Rows hiding St
theorem rel_back2 {ρ0 ρ : Ev.Env} {cs es : CS} {j : Nat} {c : Cl} {s0 : Sv} (r0 : Rel ρ0 cs) (r : Rel ρ es) (hp : pinOk cs j 0 es = true) (k0 : c.ok s0) : Rel ((clr (topP ρ0 + 1) (clr (topP ρ0) ρ)).set j (some s0)) (put es j c) where
  len := by rw [put_set, List.length_set, List.length_set]; unfold clr; rw [List.length_map, List.length_map, r.len]
  at_ := fun i c' e => by
    rw [put_set, List.getElem?_set] at e
    rw [List.getElem?_set]
    by_cases q : j = i
    · subst q
      rw [if_pos rfl] at e ⊢
      split at e
      · rename_i hl
        cases e
        rw [if_pos (by unfold clr; rw [List.length_map, List.length_map, r.len]; exact hl)]
        exact ⟨s0, rfl, k0⟩
      · cases e
    · rw [if_neg q] at e ⊢
      obtain ⟨s, e1, k1⟩ := r.at_ i c' e
      rw [clr_get, clr_get, e1]
      by_cases hk : s.pn = some (topP ρ0) ∨ s.pn = some (topP ρ0 + 1)
      · have hno : ∀ k, c'.m = .p k → imm c'.d = false → False := fun k hm hi => by
          obtain ⟨d1, m1, a1⟩ := c'
          dsimp only at hm
          subst hm
          obtain ⟨d', al', e2, hi2⟩ := pinOk_at hp e (by simpa using fun z => q z.symm)
          obtain ⟨s2, e3, k3⟩ := r0.nthC e2
          have h3 := k3.m hi2
          have h5 := topP_lt (by simpa using e3) h3.2
          have h4 : s.pn = some k := (k1.m hi).2
          rw [h4] at hk
          rcases hk with hk | hk
          · have := Option.some.inj hk
            omega
          · have := Option.some.inj hk
            omega
        have key : ∃ s', (Option.map (fun o => Option.map (fun s => if s.pn = some (topP ρ0 + 1) then (⟨s.d, s.l, s.al, none⟩ : Sv) else s) o) (Option.map (fun o => Option.map (fun s => if s.pn = some (topP ρ0) then (⟨s.d, s.l, s.al, none⟩ : Sv) else s) o) (some (some s)))) = some (some s') ∧ s'.d = s.d ∧ s'.l = s.l ∧ s'.al = s.al := by
          refine ⟨_, rfl, ?_, ?_, ?_⟩
          all_goals (dsimp only; split <;> split <;> rfl)
        obtain ⟨s', e9, d9, l9, a9⟩ := key
        refine ⟨s', e9, by rw [d9]; exact k1.d, fun hi => ?_, fun hi => by rw [a9]; exact k1.al hi⟩
        have hm := k1.m hi
        cases hc : c'.m with
        | p k => exact (hno k hc hi).elim
        | s => rw [hc] at hm; show s'.l = _; rw [l9]; exact hm
        | a => trivial
        | t => rw [hc] at hm; show s'.l ≠ _; rw [l9]; exact hm
        | f => rw [hc] at hm; show s'.l = _; rw [l9]; exact hm
      · have h1 : ¬ s.pn = some (topP ρ0) := fun z => hk (.inl z)
        have h2 : ¬ s.pn = some (topP ρ0 + 1) := fun z => hk (.inr z)
        exact ⟨s, by simp [h1, h2], k1.d, k1.m, k1.al⟩
section
variable {cs : CS} {fp : EvP} {body : EvS} {i j : Nat} {mm : Md} {d dd : D} {a a2 : Bool} {σ T : Type} {Ψ : T → Out → Prop} {upd : D → D}
theorem js_bor {C : Nat → σ → CS} {o : Option σ} {k : σ → Option T} {g W : σ → D} (hp : JP cs fp j mm d a upd) (hn : nthC cs j = some ⟨dd, mm, a2⟩) (hnd : isNd dd = true) (hnd2 : isNd d = true)
    (hji : decide (j ≠ i) = true) (hil : decide (i < cs.length) = true)
    (hb : ∀ kp, JS (put (put (hideC cs i) j ⟨.any, .p kp, false⟩) i ⟨d, .p (kp + 1), a⟩) body o (ΨJ (C kp)))
    (hj : ∀ kp s, nthC (C kp s) j = some ⟨.any, .p kp, false⟩) (hi : ∀ kp s, nthC (C kp s) i = some ⟨g s, .p (kp + 1), a⟩) (hg : ∀ s, imm (g s) = false)
    (hq : ∀ kp s, pinOk cs j 0 (hideC (C kp s) i) = true) (hW : ∀ s, upd (g s) = W s)
    (h : ∀ kp s, JS (put (hideC (C kp s) i) j ⟨W s, mm, a⟩) sNil (k s) Ψ) : JS cs (sBor fp i body) (bindO o k) Ψ := fun ρ r t hh => by
  obtain ⟨s', e2, e3⟩ := bindO_some hh
  obtain ⟨p, sv, e4, e5, e6, e7, e8, e9⟩ := hp.2 ρ r
  obtain ⟨sv', e5', k5⟩ := r.nthC hn
  rw [e5] at e5'
  cases e5'
  have r1 : Rel (((ρ.set i none).set j (some ⟨.any, .full, false, some (topP ρ)⟩)).set i (some ⟨d, .full, sv.al, some (topP ρ + 1)⟩)) (put (put (hideC cs i) j ⟨.any, .p (topP ρ), false⟩) i ⟨d, .p (topP ρ + 1), a⟩) :=
    Rel.put (c := ⟨d, .p (topP ρ + 1), a⟩) (Rel.put (c := ⟨.any, .p (topP ρ), false⟩) (r.hide i) (s := ⟨.any, .full, false, some (topP ρ)⟩) ⟨rfl, fun _ => ⟨rfl, rfl⟩, fun _ => id⟩) ⟨rfl, fun _ => ⟨rfl, rfl⟩, fun _ z => e7 z⟩
  obtain ⟨out, g1, g2⟩ := hb (topP ρ) _ r1 s' e2
  cases out with
  | nx ρ2 =>
    have r2 : Rel ρ2 (C (topP ρ) s') := g2
    obtain ⟨s2, f2, k2⟩ := r2.nthC (hj (topP ρ) s')
    obtain ⟨s3, f3, k3⟩ := r2.nthC (hi (topP ρ) s')
    have hp2 := (k2.m rfl).2
    have hp3 := k3.m (hg s')
    have hil' : i < ρ.length := by rw [r.len]; exact of_decide_eq_true hil
    obtain ⟨out2, g3, g4⟩ := h (topP ρ) s' _ (rel_back2 r (r2.hide i) (hq _ _) (j := j) (c := ⟨W s', mm, a⟩) (s0 := ⟨dSet sv.d p s3.d, .full, sv.al || s3.al, sv.pn⟩) ⟨by rw [e9, ← hW, k3.d], fun _ => ok_keep hp.1 e6 rfl rfl, fun _ z => by
      rcases Bool.or_eq_true _ _ ▸ z with z | z
      · exact e7 z
      · exact k3.al (hg s') z⟩) t e3
    refine ⟨out2, ?_, g4⟩
    unfold sBor
    rw [e4]
    simp only [Option.bind_some, e5]
    rw [if_pos ⟨of_decide_eq_true hji, hil', by rw [k5.d]; exact hnd, hnd2⟩, g1]
    simp only [Option.bind_some]
    unfold backB
    simp only [f2, f3]
    rw [if_pos ⟨hp2, hp3.2, hp3.1⟩]
    exact g3
  | bk ρ2 => exact g2.elim
  | ct ρ2 => exact g2.elim
  | rt ρ2 d l al => exact g2.elim
end
end Tg
set_option Elab.async false
set_option linter.all false
set_option maxRecDepth 100000
namespace Tg
open PySem PySem.Spec L2 Ev
open PyProof.Rows hiding St
def popAO {α : Type} (xs : List α) (k : Int) : Option (List α × α) := if xs.length ≤ 1000000 then (L2.ixN xs.length k).bind fun j => (xs[j]?).map fun x => (xs.eraseIdx j, x) else none
section
variable {cs cs' : CS} {f : EvE} {fx : EvX} {i : Nat} {d : D} {l l1 : Lv} {a a1 v v1 : Bool} {α : Type} {e : α → D}
theorem jx_popA {xs : List α} {p : List α × α} {k : Int} {m : Md} (hn : nthC cs i = some ⟨dL e xs, m, a⟩) (hm : ownM m = true) (hk : JE cs f (.int k) l1 a1 v1) (hi : ∀ x, imm (e x) = true) (h : popAO xs k = some p) : JX cs (xPopA i f) (put cs i ⟨dL e p.1, m, a⟩) (e p.2) .full false false := fun ρ r => by
  obtain ⟨s, e1, k1⟩ := r.nthC hn
  obtain ⟨yk, e2, k2⟩ := hk _ r
  unfold popAO at h
  split at h
  · rename_i hl
    obtain ⟨j, ej, h⟩ := Option.bind_eq_some_iff.mp h
    obtain ⟨x, ex, h⟩ := Option.map_eq_some_iff.mp h
    subst h
    have hml := k1.m rfl
    have hne := ownM_ok hm hml
    have hd : s.d = .lst (xs.map e) := k1.d
    refine ⟨_, rA (e x), ?_, r.put (i := i) (s := ⟨.lst ((xs.map e).eraseIdx j), s.l, s.al, s.pn⟩) ⟨by show D.lst _ = dL e _; rw [map_eraseIdxE], fun _ => ?_, fun _ z => k1.al rfl z⟩, .i _⟩
    · unfold xPopA
      rw [e1]
      simp only [hd, e2, Option.bind_some, k2.d]
      rw [List.length_map, ej]
      simp only [Option.bind_some]
      rw [if_pos ⟨hne, immAll_map hi xs, hl⟩, List.getElem?_map, ex]
      rfl
    · cases m <;> exact hml
  · cases h
theorem jx_lst1 (h : JX cs fx cs' d l a v) (hi : imm d = true) : JX cs (xLst1 fx) cs' (.lst [d]) .full false false := fun ρ r => by
  obtain ⟨ρ', y, e1, r1, k⟩ := h ρ r
  refine ⟨ρ', ⟨.lst [d], .full, false, false⟩, ?_, r1, ⟨rfl, rfl, (fun z => nomatch z), (fun z => nomatch z)⟩⟩
  unfold xLst1
  simp only [e1, Option.bind_some, k.d]
  rw [if_pos hi]
end
end Tg
set_option Elab.async false
set_option linter.all false
set_option maxRecDepth 100000
set_option maxHeartbeats 4000000
namespace Pr
open PySem PySem.Spec L2 Ev Tg
open PyProof.Rows hiding St
noncomputable section
def p_law_cell_at (x_script : List Int) (x_k : Int) : Option Int :=
if decide (x_k < (x_script.length : Int)) = true then
(bindO (idx x_script x_k) fun v1 =>
some v1)
else
(some (0 : Int))
def p_law_many (x_cell : Int) : Option Int :=
if decide ((x_cell % (6 : Int)) = (5 : Int)) = true then
(some ((x_cell / (6 : Int)) % (25 : Int)))
else
(some ((x_cell / (6 : Int)) % (11 : Int)))
def p_law_mates_L2 (x_a : Int) (x_b : Int) (x_side : Int) (x_mates_here : List (List (Int × Int))) : Option ((List (List (Int × Int)))) :=
bindO (idx x_mates_here x_side) fun v10 =>
bindO (bindO (if ((!decide (x_a = x_b)) && ((!(ahas v10 x_a)) && (!(ahas v10 x_b)))) = true then
bindO (aputO v10 x_a x_b) fun x_mate =>
bindO (aputO x_mate x_b x_a) fun x_mate_2 =>
some x_mate_2
else
some v10) fun (s12 : (List (Int × Int))) =>
some s12) fun (s13 : (List (Int × Int))) =>
some (setI x_mates_here x_side s13)
def p_law_mates_L1 (x_script : List Int) (x_many_here : Int) (x_k : Int) (x_mates_here : List (List (Int × Int))) : Option ((List (List (Int × Int)))) :=
bindO (idx x_script ((2 : Int) + x_k)) fun v2 =>
letB (v2 : Int) fun x_cell =>
bindO (modO x_cell x_many_here) fun v3 =>
letB (v3 : Int) fun x_a =>
bindO (divO x_cell x_many_here) fun v4 =>
bindO (modO v4 x_many_here) fun v5 =>
letB (v5 : Int) fun x_b =>
letB ([(x_k % (2 : Int))] : List Int) fun x_sides =>
bindO (divO x_cell x_many_here) fun v6 =>
bindO (divO v6 x_many_here) fun v7 =>
bindO (if decide ((v7 % (5 : Int)) = (2 : Int)) = true then
letB ([(0 : Int), (1 : Int)] : List Int) fun x_sides_2 =>
some x_sides_2
else
some x_sides) fun (s8 : (List Int)) =>
bindO (forS s8 x_mates_here (fun (x14 : Int) (s14 : (List (List (Int × Int)))) => p_law_mates_L2 x_a x_b x14 s14)) fun s14 =>
some s14
def p_law_mates (x_script : List Int) (x_many_here : Int) : Option (List (List (Int × Int))) :=
letB ([([] : List (Int × Int)), ([] : List (Int × Int))] : List (List (Int × Int))) fun x_mates_here =>
if decide (x_many_here = (0 : Int)) = true then
(some x_mates_here)
else
(bindO (rngO 0 ((cutL x_script (some (2 : Int)) (some (162 : Int))).length : Int)) fun v1 =>
bindO (forS v1 x_mates_here (fun (x15 : Int) (s15 : (List (List (Int × Int)))) => p_law_mates_L1 x_script x_many_here x15 s15)) fun s15 =>
some s15)
def p_law_pairs (x_mate : List (Int × Int)) : Option (List (Int × Int)) :=
bindO (bindO (lcM x_mate (fun y1 => (some (decide (y1.1 < y1.2)))) (fun y1 => (some (y1.1, y1.2)))) big) fun v2 =>
some (sort2 v2)
def p_law_unlike (x_one : List (Int × Int)) (x_other : List (Int × Int)) : Option (List (Int × Int)) :=
bindO (big ((x_one.filter fun y1 => (!(decide (y1 ∈ x_other)))).map fun y1 => y1)) fun v2 =>
letB (v2 : List (Int × Int)) fun x_found =>
bindO (big ((x_other.filter fun y3 => (!(decide (y3 ∈ x_one)))).map fun y3 => y3)) fun v4 =>
bindO (catO x_found v4) fun v5 =>
some (sort2 v5)
def p_law_heaps_L2 (x_rest : List (Int × Int)) (x_heap : List (Int × Int)) (x_k : Int) : Option ((List (Int × Int)) × (List (Int × Int)) × Int) :=
bindO (bindO (lcM x_rest (fun y2 => (bindO (idx x_heap x_k) fun v3 => bindO (if (y2.1 == v3.1 || y2.2 == v3.1) = true then some true else (bindO (idx x_heap x_k) fun v4 => some (y2.1 == v4.2 || y2.2 == v4.2))) fun v5 => some v5)) (fun y2 => (some y2))) big) fun v6 =>
letB (v6 : List (Int × Int)) fun x_near =>
bindO (big ((x_rest.filter fun y7 => (!(decide (y7 ∈ x_near)))).map fun y7 => y7)) fun v8 =>
letB (v8 : List (Int × Int)) fun x_rest_2 =>
bindO (extO x_heap x_near) fun x_heap_2 =>
letB (x_k + (1 : Int) : Int) fun x_k_2 =>
some (x_rest_2, x_heap_2, x_k_2)
def p_law_heaps_L1 (x_heaps_here : List (List (Int × Int))) (x_rest : List (Int × Int)) : Option ((List (List (Int × Int))) × (List (Int × Int))) :=
bindO (popAO x_rest (0 : Int)) fun v1 =>
letB ([v1.2] : List (Int × Int)) fun x_heap =>
letB ((0 : Int) : Int) fun x_k =>
bindO (whS fuel (v1.1, x_heap, x_k) (fun (s9 : (List (Int × Int)) × (List (Int × Int)) × Int) => (some (decide (s9.2.2 < (s9.2.1.length : Int))))) (fun (s9 : (List (Int × Int)) × (List (Int × Int)) × Int) => p_law_heaps_L2 s9.1 s9.2.1 s9.2.2)) fun s9 =>
bindO (appO x_heaps_here (sort2 s9.2.1)) fun x_heaps_here_2 =>
some (x_heaps_here_2, s9.1)
def p_law_heaps (x_ties : List (Int × Int)) : Option (List (List (Int × Int))) :=
letB (([] : List (List (Int × Int))) : List (List (Int × Int))) fun x_heaps_here =>
letB (x_ties : List (Int × Int)) fun x_rest =>
bindO (whS fuel (x_heaps_here, x_rest) (fun (s10 : (List (List (Int × Int))) × (List (Int × Int))) => (some (!decide (s10.2 = ([] : List (Int × Int)))))) (fun (s10 : (List (List (Int × Int))) × (List (Int × Int))) => p_law_heaps_L1 s10.1 s10.2)) fun s10 =>
some s10.1
def p_law_whole (x_found : Int) : Option Bool :=
some (true && (!false))
def p_led_from_L1 (x_beside : List (Int × (List Int))) (x_found : List Int) (x_onward : List Int) : Option ((List Int) × (List Int)) :=
bindO (idx x_onward (0 : Int)) fun v2 =>
bindO (appO x_found v2) fun x_found_2 =>
bindO (idx x_onward (0 : Int)) fun v3 =>
bindO (aget x_beside v3) fun v4 =>
bindO (big ((v4.filter fun y5 => (!(decide (y5 ∈ x_found_2)))).map fun y5 => y5)) fun v6 =>
letB (v6 : List Int) fun x_onward_2 =>
some (x_found_2, x_onward_2)
def p_led_from (x_start : Int) (x_beside : List (Int × (List Int))) : Option (List Int) :=
letB ([x_start] : List Int) fun x_found =>
bindO (aget x_beside x_start) fun v1 =>
letB (v1 : List Int) fun x_onward =>
bindO (whS fuel (x_found, x_onward) (fun (s7 : (List Int) × (List Int)) => (some (!decide (s7.2 = ([] : List Int))))) (fun (s7 : (List Int) × (List Int)) => p_led_from_L1 x_beside s7.1 s7.2)) fun s7 =>
some s7.1
def p_tie_of (x_a : Int) (x_b : Int) : Option (Int × Int) :=
some ((minI x_a x_b), (maxI x_a x_b))
def p_law_choice_L1 (x_pair : Int × Int) (x_used : List (Int × Bool)) (x_last : Int × Int) : Option (Ctl ((List (Int × Bool)) × (Int × Int)) (Bool)) :=
if ((!true) || (!decide ((2 : Int) = (2 : Int)))) = true then
(some (.rt false))
else
(letB (x_pair.1 : Int) fun x_a =>
letB (x_pair.2 : Int) fun x_b =>
bindO (p_law_whole x_a) fun v1 =>
bindO (if (!v1) = true then some true else (bindO (p_law_whole x_b) fun v2 => some ((!v2) || (decide (x_a ≥ x_b) || (ahas x_used x_a || (ahas x_used x_b || (leP2 x_pair x_last))))))) fun v3 =>
if v3 = true then
(some (.rt false))
else
(bindO (aputO x_used x_a true) fun x_used_2 =>
bindO (aputO x_used_2 x_b true) fun x_used_3 =>
letB (x_pair : Int × Int) fun x_last_2 =>
some (.nx (x_used_3, x_last_2))))
def p_law_choice (x_pairs_here : List (Int × Int)) : Option Bool :=
if (!true) = true then
(some false)
else
(letB (([] : List (Int × Bool)) : List (Int × Bool)) fun x_used =>
letB (((-(1 : Int)), (-(1 : Int))) : Int × Int) fun x_last =>
onS (forC x_pairs_here (x_used, x_last) (fun (x4 : Int × Int) (s4 : (List (Int × Bool)) × (Int × Int)) => p_law_choice_L1 x4 s4.1 s4.2)) (fun s4 =>
some true) (fun r => r))
def p_between_L1 (x_a : Int) (x_b : Int) (x_beside : List (Int × (List Int))) : Option ((List (Int × (List Int)))) :=
bindO (sdaO x_beside x_a x_b) fun x_beside_2 =>
bindO (sdaO x_beside_2 x_b x_a) fun x_beside_3 =>
some x_beside_3
def p_between_L3 (x_beside : List (Int × (List Int))) (x_count : Int) (x_kind : SS) (x_start : Int) (x_found : List (SS × (List Int))) (x_seen : List Int) : Option ((List (SS × (List Int))) × (List Int)) :=
bindO (if (!(decide (x_start ∈ x_seen))) = true then (bindO (aget x_beside x_start) fun v8 => some (decide ((v8.length : Int) = x_count))) else some false) fun v9 =>
bindO (if v9 = true then
bindO (p_led_from x_start x_beside) fun v10 =>
letB (v10 : List Int) fun x_points =>
bindO (extO x_seen x_points) fun x_seen_2 =>
bindO (appO x_found (x_kind, x_points)) fun x_found_2 =>
some (x_seen_2, x_found_2)
else
some (x_seen, x_found)) fun (s11 : (List Int) × (List (SS × (List Int)))) =>
some (s11.2, s11.1)
def p_between_L2 (x_beside : List (Int × (List Int))) (x_count : Int) (x_kind : SS) (x_found : List (SS × (List Int))) (x_seen : List Int) : Option ((List (SS × (List Int))) × (List Int)) :=
bindO (sortKO x_beside) fun v7 =>
bindO (forS v7 (x_found, x_seen) (fun (x12 : Int) (s12 : (List (SS × (List Int))) × (List Int)) => p_between_L3 x_beside x_count x_kind x12 s12.1 s12.2)) fun s12 =>
some (s12.1, s12.2)
def p_between (x_one : List (Int × Int)) (x_other : List (Int × Int)) : Option (List (SS × (List Int))) :=
letB (([] : List (Int × (List Int))) : List (Int × (List Int))) fun x_beside =>
bindO (big ((x_one.filter fun y1 => (!(decide (y1 ∈ x_other)))).map fun y1 => y1)) fun v2 =>
bindO (big ((x_other.filter fun y3 => (!(decide (y3 ∈ x_one)))).map fun y3 => y3)) fun v4 =>
bindO (catO v2 v4) fun v5 =>
bindO (forS v5 x_beside (fun (x6 : Int × Int) (s6 : (List (Int × (List Int)))) => p_between_L1 x6.1 x6.2 s6)) fun s6 =>
letB (([] : List (SS × (List Int))) : List (SS × (List Int))) fun x_found =>
letB (([] : List Int) : List Int) fun x_seen =>
bindO (forS ([((1 : Int), (mkS "row" (by decide +kernel))), ((2 : Int), (mkS "ring" (by decide +kernel)))]) (x_found, x_seen) (fun (x13 : Int × SS) (s13 : (List (SS × (List Int))) × (List Int)) => p_between_L2 s6 x13.1 x13.2 s13.1 s13.2)) fun s13 =>
some s13.1
def p_ties_along (x_points : List Int) : Option (List (Int × Int)) :=
bindO (bindO (lcM (x_points.zip (cutL x_points (some (1 : Int)) none)) (fun y1 => (some true)) (fun y1 => (bindO (p_tie_of y1.1 y1.2) fun v2 => some v2))) big) fun v3 =>
some v3
def p_exchanged (x_pairs : List (Int × Int)) (x_row : List Int) : Option (List (Int × Int)) :=
bindO (p_ties_along x_row) fun v1 =>
letB (v1 : List (Int × Int)) fun x_ties =>
bindO (big ((x_pairs.filter fun y2 => (!(decide (y2 ∈ x_ties)))).map fun y2 => y2)) fun v3 =>
letB (v3 : List (Int × Int)) fun x_kept =>
bindO (big ((x_ties.filter fun y4 => (!(decide (y4 ∈ x_pairs)))).map fun y4 => y4)) fun v5 =>
bindO (catO x_kept v5) fun v6 =>
some (sort2 v6)
def p_exchanged_ring (x_pairs : List (Int × Int)) (x_ring : List Int) : Option (List (Int × Int)) :=
bindO (catO x_ring (cutL x_ring none (some (1 : Int)))) fun v1 =>
bindO (p_exchanged x_pairs v1) fun v2 =>
some v2
def p_turned_along (x_pairs : List (Int × Int)) (x_told : SS × (List Int)) : Option (List (Int × Int)) :=
letB (x_told : SS × (List Int)) fun q1 =>
if decide (q1.1 = (mkS "row" (by decide +kernel))) = true then
(bindO (p_exchanged x_pairs q1.2) fun v2 =>
some v2)
else
(bindO (p_exchanged_ring x_pairs q1.2) fun v3 =>
some v3)
def p_steps_L1 (x_told : SS × (List Int)) (x_pairs : List (Int × Int)) (x_found : List (List (Int × Int))) : Option ((List (Int × Int)) × (List (List (Int × Int)))) :=
bindO (p_turned_along x_pairs x_told) fun v2 =>
letB (v2 : List (Int × Int)) fun x_pairs_2 =>
bindO (appO x_found x_pairs_2) fun x_found_2 =>
some (x_pairs_2, x_found_2)
def p_steps (x_one : List (Int × Int)) (x_other : List (Int × Int)) : Option (List (List (Int × Int))) :=
letB (x_one : List (Int × Int)) fun x_pairs =>
letB ([x_pairs] : List (List (Int × Int))) fun x_found =>
bindO (p_between x_one x_other) fun v1 =>
bindO (forS v1 (x_pairs, x_found) (fun (x3 : SS × (List Int)) (s3 : (List (Int × Int)) × (List (List (Int × Int)))) => p_steps_L1 x3 s3.1 s3.2)) fun s3 =>
some s3.2
def p_law_L1 (x_found : List (List (Int × Int))) (x_k : Int) (x_heaps_here : List (List (Int × Int))) : Option (Ctl ((List (List (Int × Int)))) (Bool)) :=
bindO (idx x_found x_k) fun v23 =>
bindO (idx x_found (x_k + (1 : Int))) fun v24 =>
bindO (p_law_unlike v23 v24) fun v25 =>
letB (v25 : List (Int × Int)) fun x_step =>
if (!(decide (x_step ∈ x_heaps_here))) = true then
(some (.rt false))
else
(bindO (remO x_heaps_here x_step) fun x_heaps_here_2 =>
some (.nx x_heaps_here_2))
def p_law (x_script : List Int) : Option Bool :=
bindO (p_law_cell_at x_script (0 : Int)) fun v1 =>
bindO (p_law_many v1) fun v2 =>
letB (v2 : Int) fun x_many_here =>
bindO (p_law_mates x_script x_many_here) fun v3 =>
letB (v3 : List (List (Int × Int))) fun x_mates_here =>
bindO (idx x_mates_here (0 : Int)) fun v4 =>
bindO (p_law_pairs v4) fun v5 =>
letB (v5 : List (Int × Int)) fun x_one =>
bindO (idx x_mates_here (1 : Int)) fun v6 =>
bindO (p_law_pairs v6) fun v7 =>
letB (v7 : List (Int × Int)) fun x_other =>
bindO (p_law_cell_at x_script (1 : Int)) fun v8 =>
bindO (if decide ((v8 % (9 : Int)) = (4 : Int)) = true then
letB (([] : List (Int × Int)) : List (Int × Int)) fun x_other_2 =>
some x_other_2
else
some x_other) fun (s9 : (List (Int × Int))) =>
letB ([x_one, s9] : List (List (Int × Int))) fun x_handed =>
bindO (idx x_handed (0 : Int)) fun v10 =>
bindO (idx x_handed (1 : Int)) fun v11 =>
bindO (p_steps v10 v11) fun v12 =>
letB (v12 : List (List (Int × Int))) fun x_found =>
bindO (p_law_unlike x_one s9) fun v13 =>
bindO (p_law_heaps v13) fun v14 =>
letB (v14 : List (List (Int × Int))) fun x_heaps_here =>
if ((!decide (x_handed = [x_one, s9])) || ((!true) || (!decide ((x_found.length : Int) = ((x_heaps_here.length : Int) + (1 : Int)))))) = true then
(some false)
else
(bindO (bindO (lcM x_found (fun y15 => (some true)) (fun y15 => (bindO (p_law_choice y15) fun v16 => some v16))) big) fun v17 =>
bindO (if (!(v17.all id)) = true then some true else (bindO (idx x_found (0 : Int)) fun v18 => bindO (if (!decide (v18 = x_one)) = true then some true else (bindO (idx x_found (-(1 : Int))) fun v19 => some (!decide (v19 = s9)))) fun v20 => some v20)) fun v21 =>
if v21 = true then
(some false)
else
(bindO (rngO 0 ((x_found.length : Int) - (1 : Int))) fun v22 =>
onS (forC v22 x_heaps_here (fun (x26 : Int) (s26 : (List (List (Int × Int)))) => p_law_L1 x_found x26 s26)) (fun s26 =>
bindO (idx x_handed (0 : Int)) fun v27 =>
bindO (appO v27 (x_many_here, (x_many_here + (1 : Int)))) fun w28 =>
bindO (idx (setI x_handed (0 : Int) w28) (1 : Int)) fun v29 =>
bindO (appO v29 (x_many_here, (x_many_here + (1 : Int)))) fun w30 =>
bindO (idx x_found (0 : Int)) fun v31 =>
bindO (if decide (v31 = x_one) = true then (bindO (idx x_found (-(1 : Int))) fun v32 => some (decide (v32 = s9))) else some false) fun v33 =>
some v33) (fun r => r)))
end
end Pr
set_option Elab.async false
set_option linter.all false
set_option maxRecDepth 100000
set_option maxHeartbeats 4000000
namespace Pr
open PySem PySem.Spec L2 Ev Tg
open PyProof.Rows hiding St
noncomputable section
def B_tie_of : EvS :=
  (sRet (eTup (aCons (eBi bMin2 (aCons (eName 0) (aCons (eName 1) aNil))) (aCons (eBi bMax2 (aCons (eName 0) (aCons (eName 1) aNil))) aNil))))
def R_tie_of : List D → Option RetD := run B_tie_of 2
def CT_led_from_1 : EvT :=
  (tCmp gNin (eName 4) (eName 2))
def CE_led_from_1 : EvE :=
  (eName 4)
def C_led_from_1 : EvE :=
  (eLc (iLstV (eIx (eName 1) (eIx (eName 3) (eC (.int 0))))) [4] (.nm 4) CT_led_from_1 CE_led_from_1)
def WT_led_from_1 : EvT :=
  (tCmp gNe (eName 3) (eLst aNil))
def WB_led_from_1 : EvS :=
  (sSeq (sLop oApp [] 2 (aCons (eIx (eName 3) (eC (.int 0))) aNil)) (sSet [] 3 C_led_from_1))
def W_led_from_1 : EvS :=
  (sWhile WT_led_from_1 WB_led_from_1)
def B_led_from : EvS :=
  (sSeq (sSet [] 2 (eLst (aCons (eName 0) aNil))) (sSeq (sSet [] 3 (eIx (eName 1) (eName 0))) (sSeq W_led_from_1 (sRetV 2))))
def R_led_from : List D → Option RetD := run B_led_from 5
def B_law_cell_at : EvS :=
  (sSeq (sIf (tCmp gLt (eName 1) (eLen (aCons (eName 0) aNil))) (sRet (eIx (eName 0) (eName 1))) sNil) (sRet (eC (.int 0))))
def R_law_cell_at : List D → Option RetD := run B_law_cell_at 2
def B_law_whole : EvS :=
  (sRet (eAnd (eIsi "int" (eName 0)) (eNot (eIsi "bool" (eName 0)))))
def R_law_whole : List D → Option RetD := run B_law_whole 1
def B_law_many : EvS :=
  (sSeq (sIf (tCmp gEq (eMod (eName 0) (eC (.int 6))) (eC (.int 5))) (sRet (eMod (eDiv (eName 0) (eC (.int 6))) (eC (.int 25)))) sNil) (sRet (eMod (eDiv (eName 0) (eC (.int 6))) (eC (.int 11)))))
def R_law_many : List D → Option RetD := run B_law_many 1
def FB_law_mates_1 : EvS :=
  (sBor (pIx (pName 2) (eName 8)) 9 (sIf (tAnd (tCmp gNe (eName 5) (eName 6)) (tAnd (tCmp gNin (eName 5) (eName 9)) (tCmp gNin (eName 6) (eName 9)))) (sSeq (sPutP [] (pName 9) (eName 5) (eName 6)) (sPutP [] (pName 9) (eName 6) (eName 5))) sNil))
def F_law_mates_1 : EvS :=
  (sForH (pName 7) (.nm 8) FB_law_mates_1)
def FB_law_mates_2 : EvS :=
  (sSeq (sSet [] 4 (eIx (eName 0) (ePlus (eC (.int 2)) (eName 3)))) (sSeq (sSet [] 5 (eMod (eName 4) (eName 1))) (sSeq (sSet [] 6 (eMod (eDiv (eName 4) (eName 1)) (eName 1))) (sSeq (sSet [] 7 (eLst (aCons (eMod (eName 3) (eC (.int 2))) aNil))) (sSeq (sIf (tCmp gEq (eMod (eDiv (eDiv (eName 4) (eName 1)) (eName 1)) (eC (.int 5))) (eC (.int 2))) (sSet [] 7 (eLst (aCons (eC (.int 0)) (aCons (eC (.int 1)) aNil)))) sNil) F_law_mates_1)))))
def F_law_mates_2 : EvS :=
  (sFor [] (iRange (aCons (eLen (aCons (eSl (eName 0) (oSome (eC (.int 2))) (oSome (eC (.int 162)))) aNil)) aNil)) (.nm 3) FB_law_mates_2)
def B_law_mates : EvS :=
  (sSeq (sSet [] 2 (eLst (aCons eDk (aCons eDk aNil)))) (sSeq (sIf (tCmp gEq (eName 1) (eC (.int 0))) (sRetV 2) sNil) (sSeq F_law_mates_2 (sRetV 2))))
def R_law_mates : List D → Option RetD := run B_law_mates 10
def CT_law_pairs_1 : EvT :=
  (tCmp gLt (eName 1) (eName 2))
def CE_law_pairs_1 : EvE :=
  (eTup (aCons (eName 1) (aCons (eName 2) aNil)))
def C_law_pairs_1 : EvE :=
  (eLcD itDK (rdName 0) [1, 2] (.tp [(.nm 1), (.nm 2)]) CT_law_pairs_1 CE_law_pairs_1)
def B_law_pairs : EvS :=
  (sRet (eBi bSorted (aCons C_law_pairs_1 aNil)))
def R_law_pairs : List D → Option RetD := run B_law_pairs 3
def CT_law_unlike_1 : EvT :=
  (tCmp gNin (eName 3) (eName 1))
def CE_law_unlike_1 : EvE :=
  (eName 3)
def C_law_unlike_1 : EvE :=
  (eLc (iLstV (eName 0)) [3] (.nm 3) CT_law_unlike_1 CE_law_unlike_1)
def CT_law_unlike_2 : EvT :=
  (tCmp gNin (eName 3) (eName 0))
def C_law_unlike_2 : EvE :=
  (eLc (iLstV (eName 1)) [3] (.nm 3) CT_law_unlike_2 CE_law_unlike_1)
def B_law_unlike : EvS :=
  (sSeq (sSet [] 2 C_law_unlike_1) (sRet (eBi bSorted (aCons (ePlus (eName 2) C_law_unlike_2) aNil))))
def R_law_unlike : List D → Option RetD := run B_law_unlike 4
def CT_law_heaps_1 : EvT :=
  (tOr (tCmp gIn (eIx (eIx (eName 3) (eName 4)) (eC (.int 0))) (eName 6)) (tCmp gIn (eIx (eIx (eName 3) (eName 4)) (eC (.int 1))) (eName 6)))
def CE_law_heaps_1 : EvE :=
  (eName 6)
def C_law_heaps_1 : EvE :=
  (eLc (iLstV (eName 2)) [6] (.nm 6) CT_law_heaps_1 CE_law_heaps_1)
def CT_law_heaps_2 : EvT :=
  (tCmp gNin (eName 6) (eName 5))
def C_law_heaps_2 : EvE :=
  (eLc (iLstV (eName 2)) [6] (.nm 6) CT_law_heaps_2 CE_law_heaps_1)
def WT_law_heaps_1 : EvT :=
  (tCmp gLt (eName 4) (eLen (aCons (eName 3) aNil)))
def WB_law_heaps_1 : EvS :=
  (sSeq (sSet [] 5 C_law_heaps_1) (sSeq (sSet [] 2 C_law_heaps_2) (sSeq (sExtI 3 (eName 5)) (sAug (fun a b => a + b) 4 (eC (.int 1))))))
def W_law_heaps_1 : EvS :=
  (sWhile WT_law_heaps_1 WB_law_heaps_1)
def WT_law_heaps_2 : EvT :=
  (tCmp gNe (eName 2) (eLst aNil))
def WB_law_heaps_2 : EvS :=
  (sSeq (sSetX 3 (xLst1 (xPopA 2 (eC (.int 0))))) (sSeq (sSet [] 4 (eC (.int 0))) (sSeq W_law_heaps_1 (sLop oApp [] 1 (aCons (eBi bSorted (aCons (eName 3) aNil)) aNil)))))
def W_law_heaps_2 : EvS :=
  (sWhile WT_law_heaps_2 WB_law_heaps_2)
def B_law_heaps : EvS :=
  (sSeq (sSet [] 1 (eLst aNil)) (sSeq (sSet [] 2 (eBi bList (aCons (eName 0) aNil))) (sSeq W_law_heaps_2 (sRetV 1))))
def R_law_heaps : List D → Option RetD := run B_law_heaps 7
def CE_ties_along_1 : EvE :=
  (eCall R_tie_of (aCons (eName 1) (aCons (eName 2) aNil)))
def C_ties_along_1 : EvE :=
  (eLc (iZipV (aCons (eName 0) (aCons (eSl (eName 0) (oSome (eC (.int 1))) oNone) aNil))) [1, 2] (.tp [(.nm 1), (.nm 2)]) tYes CE_ties_along_1)
def B_ties_along : EvS :=
  (sRet C_ties_along_1)
def R_ties_along : List D → Option RetD := run B_ties_along 3
def CT_between_1 : EvT :=
  (tCmp gNin (eName 11) (eName 1))
def CE_between_1 : EvE :=
  (eName 11)
def C_between_1 : EvE :=
  (eLc (iLstV (eName 0)) [11] (.nm 11) CT_between_1 CE_between_1)
def CT_between_2 : EvT :=
  (tCmp gNin (eName 11) (eName 0))
def C_between_2 : EvE :=
  (eLc (iLstV (eName 1)) [11] (.nm 11) CT_between_2 CE_between_1)
def FB_between_1 : EvS :=
  (sSeq (sSDA 2 (eName 3) 4) (sSDA 2 (eName 4) 3))
def F_between_1 : EvS :=
  (sFor [] (iLst (ePlus C_between_1 C_between_2)) (.tp [(.nm 3), (.nm 4)]) FB_between_1)
def FB_between_2 : EvS :=
  (sIf (tAnd (tCmp gNin (eName 9) (eName 6)) (tCmp gEq (eLen (aCons (eIx (eName 2) (eName 9)) aNil)) (eName 7))) (sSeq (sSet [] 10 (eCall R_led_from (aCons (eName 9) (aCons (eName 2) aNil)))) (sSeq (sExtI 6 (eName 10)) (sAppMv 5 10 (eName 8)))) sNil)
def F_between_2 : EvS :=
  (sFor [] (iLst (eBi bSorted (aCons (eName 2) aNil))) (.nm 9) FB_between_2)
def FB_between_3 : EvS :=
  F_between_2
def F_between_3 : EvS :=
  (sFor [] (iLst (eLst (aCons (eTup (aCons (eC (.int 1)) (aCons (eC (.str "row")) aNil))) (aCons (eTup (aCons (eC (.int 2)) (aCons (eC (.str "ring")) aNil))) aNil)))) (.tp [(.nm 7), (.nm 8)]) FB_between_3)
def B_between : EvS :=
  (sSeq (sSet [] 2 eDk) (sSeq F_between_1 (sSeq (sSet [] 5 (eLst aNil)) (sSeq (sSet [] 6 (eLst aNil)) (sSeq F_between_3 (sRetV 5))))))
def R_between : List D → Option RetD := run B_between 12
def FB_law_choice_1 : EvS :=
  (sSeq (sIf (tOr (tNot (tVal (eIsi "tuple" (eName 3)))) (tCmp gNe (eLen (aCons (eName 3) aNil)) (eC (.int 2)))) (sRet (eC (.bl false))) sNil) (sSeq (sSet [] 4 (eIx (eName 3) (eC (.int 0)))) (sSeq (sSet [] 5 (eIx (eName 3) (eC (.int 1)))) (sSeq (sIf (tOr (tNot (tVal (eCall R_law_whole (aCons (eName 4) aNil)))) (tOr (tNot (tVal (eCall R_law_whole (aCons (eName 5) aNil)))) (tOr (tCmp gGe (eName 4) (eName 5)) (tOr (tCmp gIn (eName 4) (eName 1)) (tOr (tCmp gIn (eName 5) (eName 1)) (tCmp gLe (eName 3) (eName 2))))))) (sRet (eC (.bl false))) sNil) (sSeq (sPutP [] (pName 1) (eName 4) (eC (.bl true))) (sSeq (sPutP [] (pName 1) (eName 5) (eC (.bl true))) (sSet [] 2 (eName 3))))))))
def F_law_choice_1 : EvS :=
  (sFor [] (iLst (eName 0)) (.nm 3) FB_law_choice_1)
def B_law_choice : EvS :=
  (sSeq (sIf (tNot (tVal (eIsi "list" (eName 0)))) (sRet (eC (.bl false))) sNil) (sSeq (sSet [] 1 eDk) (sSeq (sSet [] 2 (eTup (aCons (eNeg (eC (.int 1))) (aCons (eNeg (eC (.int 1))) aNil)))) (sSeq F_law_choice_1 (sRet (eC (.bl true)))))))
def R_law_choice : List D → Option RetD := run B_law_choice 6
def CT_exchanged_1 : EvT :=
  (tCmp gNin (eName 4) (eName 2))
def CE_exchanged_1 : EvE :=
  (eName 4)
def C_exchanged_1 : EvE :=
  (eLc (iLstV (eName 0)) [4] (.nm 4) CT_exchanged_1 CE_exchanged_1)
def CT_exchanged_2 : EvT :=
  (tCmp gNin (eName 4) (eName 0))
def C_exchanged_2 : EvE :=
  (eLc (iLstV (eName 2)) [4] (.nm 4) CT_exchanged_2 CE_exchanged_1)
def B_exchanged : EvS :=
  (sSeq (sSet [] 2 (eCall R_ties_along (aCons (eName 1) aNil))) (sSeq (sSet [] 3 C_exchanged_1) (sRet (eBi bSorted (aCons (ePlus (eName 3) C_exchanged_2) aNil)))))
def R_exchanged : List D → Option RetD := run B_exchanged 5
def B_exchanged_ring : EvS :=
  (sRet (eCall R_exchanged (aCons (eName 0) (aCons (ePlus (eName 1) (eSl (eName 1) oNone (oSome (eC (.int 1))))) aNil))))
def R_exchanged_ring : List D → Option RetD := run B_exchanged_ring 2
def B_turned_along : EvS :=
  (sSeq (sAsg [] (.tp [(.nm 2), (.nm 3)]) (eName 1)) (sSeq (sIf (tCmp gEq (eName 2) (eC (.str "row"))) (sRet (eCall R_exchanged (aCons (eName 0) (aCons (eName 3) aNil)))) sNil) (sRet (eCall R_exchanged_ring (aCons (eName 0) (aCons (eName 3) aNil))))))
def R_turned_along : List D → Option RetD := run B_turned_along 4
def FB_steps_1 : EvS :=
  (sSeq (sSet [] 2 (eCall R_turned_along (aCons (eName 2) (aCons (eName 4) aNil)))) (sLop oApp [2] 3 (aCons (eName 2) aNil)))
def F_steps_1 : EvS :=
  (sFor [] (iLst (eCall R_between (aCons (eName 0) (aCons (eName 1) aNil)))) (.nm 4) FB_steps_1)
def B_steps : EvS :=
  (sSeq (sSet [] 2 (eBi bList (aCons (eName 0) aNil))) (sSeq (sSet [2] 3 (eLst (aCons (eName 2) aNil))) (sSeq F_steps_1 (sRetV 3))))
def R_steps : List D → Option RetD := run B_steps 5
def CE_law_1 : EvE :=
  (eCall R_law_choice (aCons (eName 10) aNil))
def C_law_1 : EvE :=
  (eLc (iLstV (eName 6)) [10] (.nm 10) tYes CE_law_1)
def FB_law_1 : EvS :=
  (sSeq (sSet [] 9 (eCall R_law_unlike (aCons (eIx (eName 6) (eName 8)) (aCons (eIx (eName 6) (ePlus (eName 8) (eC (.int 1)))) aNil)))) (sSeq (sIf (tCmp gNin (eName 9) (eName 7)) (sRet (eC (.bl false))) sNil) (sRemI 7 (eName 9))))
def F_law_1 : EvS :=
  (sFor [] (iRange (aCons (eSub (eLen (aCons (eName 6) aNil)) (eC (.int 1))) aNil)) (.nm 8) FB_law_1)
def B_law : EvS :=
  (sSeq (sSet [] 1 (eCall R_law_many (aCons (eCall R_law_cell_at (aCons (eName 0) (aCons (eC (.int 0)) aNil))) aNil))) (sSeq (sSet [] 2 (eCall R_law_mates (aCons (eName 0) (aCons (eName 1) aNil)))) (sSeq (sSet [] 3 (eCall R_law_pairs (aCons (eIx (eName 2) (eC (.int 0))) aNil))) (sSeq (sSet [] 4 (eCall R_law_pairs (aCons (eIx (eName 2) (eC (.int 1))) aNil))) (sSeq (sIf (tCmp gEq (eMod (eCall R_law_cell_at (aCons (eName 0) (aCons (eC (.int 1)) aNil))) (eC (.int 9))) (eC (.int 4))) (sSet [] 4 (eLst aNil)) sNil) (sSeq (sSet [] 5 (eLst (aCons (eBi bList (aCons (eName 3) aNil)) (aCons (eBi bList (aCons (eName 4) aNil)) aNil)))) (sSeq (sSet [] 6 (eCall R_steps (aCons (eIx (eName 5) (eC (.int 0))) (aCons (eIx (eName 5) (eC (.int 1))) aNil)))) (sSeq (sSet [] 7 (eCall R_law_heaps (aCons (eCall R_law_unlike (aCons (eName 3) (aCons (eName 4) aNil))) aNil))) (sSeq (sFz [3, 4] (sIf (tOr (tCmp gNe (eName 5) (eLst (aCons (eName 3) (aCons (eName 4) aNil)))) (tOr (tNot (tVal (eIsi "list" (eName 6)))) (tCmp gNe (eLen (aCons (eName 6) aNil)) (ePlus (eLen (aCons (eName 7) aNil)) (eC (.int 1)))))) (sRet (eC (.bl false))) sNil)) (sSeq (sIf (tOr (tNot (tVal (eBi bAll (aCons (eBor 6 C_law_1) aNil)))) (tOr (tCmp gNe (eIx (eName 6) (eC (.int 0))) (eName 3)) (tCmp gNe (eIx (eName 6) (eNeg (eC (.int 1)))) (eName 4)))) (sRet (eC (.bl false))) sNil) (sSeq F_law_1 (sSeq (sAppP [] (pIx (pName 5) (eC (.int 0))) (eTup (aCons (eName 1) (aCons (ePlus (eName 1) (eC (.int 1))) aNil)))) (sSeq (sAppP [] (pIx (pName 5) (eC (.int 1))) (eTup (aCons (eName 1) (aCons (ePlus (eName 1) (eC (.int 1))) aNil)))) (sRet (eAnd (eCmp gEq (eIx (eName 6) (eC (.int 0))) (eName 3)) (eCmp gEq (eIx (eName 6) (eNeg (eC (.int 1)))) (eName 4)))))))))))))))))
def R_law : List D → Option RetD := run B_law 11
end
end Pr
set_option Elab.async false
set_option linter.all false
set_option maxRecDepth 100000
set_option maxHeartbeats 4000000
namespace Pr
open PySem PySem.Spec L2 Ev Tg
open PyProof.Rows hiding St
noncomputable section
local macro_rules | `(tactic| walk_at "lk") => `(tactic| simp [List.lookup_cons, List.findIdx?_cons, putD])
theorem kb_int_bool : kitB "int" "bool" = some false := by decide +kernel
theorem kb_int_int : kitB "int" "int" = some true := by decide +kernel
theorem kb_list_list : kitB "list" "list" = some true := by decide +kernel
theorem kb_tuple_tuple : kitB "tuple" "tuple" = some true := by decide +kernel
theorem p_law_cell_at_ok (x_script : List Int) (x_k : Int) (r : Int) (h : p_law_cell_at x_script x_k = some r) : RetE (R_law_cell_at) [(dF dI) x_script, dI x_k] (dI r) .full false :=
  fn_ok (n := 2) (ds := [(dF dI) x_script, dI x_k]) (o := p_law_cell_at x_script x_k) (er := dI) (by
    unfold p_law_cell_at B_law_cell_at
    exact (js_if (jt_cmp (d := (dI x_k)) (d2 := (dI (x_script.length : Int))) (jn_i (i := 1) rfl rfl) (je_len (d := ((dF dI) x_script)) (jn_i (i := 0) rfl (imm_flI x_script)) (n_f _)) q_ltI) (js_bind fun v1 h1 =>
(js_ret (q := (fun r => r)) (er := dI) (x := v1) (l := .full) ret_R (je_ixI (d := ((dF dI) x_script)) (d2 := (dI x_k)) (jn_i (i := 0) rfl (imm_flI x_script)) (jn_i (i := 1) rfl rfl) (x_f (e := dI) h1) rfl))) (js_nil (js_last (js_ret (q := (fun r => r)) (er := dI) (x := (0 : Int)) (l := .full) ret_R jc))))) h (Nat.le_of_ble_eq_true rfl)
theorem p_law_many_ok (x_cell : Int) (r : Int) (h : p_law_many x_cell = some r) : RetE (R_law_many) [dI x_cell] (dI r) .full false :=
  fn_ok (n := 1) (ds := [dI x_cell]) (o := p_law_many x_cell) (er := dI) (by
    unfold p_law_many B_law_many
    exact (js_if (jt_cmp (d := (dI (x_cell % (6 : Int)))) (d2 := (dI (5 : Int))) (je_modL (jn_i (i := 0) rfl rfl) jc) jc (q_eq ek_int (x_cell % (6 : Int)) (5 : Int))) (js_ret (q := (fun r => r)) (er := dI) (x := ((x_cell / (6 : Int)) % (25 : Int))) (l := .full) ret_R (je_modL (je_divL (jn_i (i := 0) rfl rfl) jc) jc)) (js_nil (js_last (js_ret (q := (fun r => r)) (er := dI) (x := ((x_cell / (6 : Int)) % (11 : Int))) (l := .full) ret_R (je_modL (je_divL (jn_i (i := 0) rfl rfl) jc) jc)))))) h (Nat.le_of_ble_eq_true rfl)
abbrev K_law_mates_L2 (x_script : List Int) (x_many_here : Int) (x_a : Int) (x_b : Int) (x_sides : Nat) : ((List (List (Int × Int)))) → CS := fun s => [some ⟨(dF dI) x_script, .a, true⟩, some ⟨dI x_many_here, .a, true⟩, some ⟨(dL (dKI dI)) s, .f, false⟩, none, none, some ⟨dI x_a, .a, true⟩, some ⟨dI x_b, .a, true⟩, some ⟨D.any, .p x_sides, false⟩, none, none]
theorem p_law_mates_L2_ok (x_script : List Int) (x_many_here : Int) (x_a : Int) (x_b : Int) (x_sides : Nat) (x_side : Int) (x_mates_here : List (List (Int × Int))) : JS [some ⟨(dF dI) x_script, .a, true⟩, some ⟨dI x_many_here, .a, true⟩, some ⟨(dL (dKI dI)) x_mates_here, .f, false⟩, none, none, some ⟨dI x_a, .a, true⟩, some ⟨dI x_b, .a, true⟩, some ⟨D.any, .p x_sides, false⟩, some ⟨dI x_side, .s, false⟩, none] (FB_law_mates_1) (p_law_mates_L2 x_a x_b x_side x_mates_here) (ΨL (K_law_mates_L2 x_script x_many_here x_a x_b x_sides)) := by
  unfold p_law_mates_L2 FB_law_mates_1
  exact (js_bind fun v10 h10 =>
(js_bor (i := 9) (j := 2) (C := fun kp11 (s13 : (List (Int × Int))) => [some ⟨(dF dI) x_script, .a, true⟩, some ⟨dI x_many_here, .a, true⟩, some ⟨D.any, .p kp11, false⟩, none, none, some ⟨dI x_a, .a, true⟩, some ⟨dI x_b, .a, true⟩, some ⟨D.any, .p x_sides, false⟩, none, some ⟨(dKI dI) s13, .p (kp11 + 1), false⟩]) (g := fun (s13 : (List (Int × Int))) => (dKI dI) s13) (W := (fun s13 => (dL (dKI dI)) (setI x_mates_here x_side s13))) (jp_ix (e := (dKI dI)) (jp_name (i := 2) rfl) (jn_i (i := 8) rfl rfl) h10) rfl rfl rfl rfl rfl (fun kp11 => (js_last (js_le [some ⟨(dF dI) x_script, .a, true⟩, some ⟨dI x_many_here, .a, true⟩, some ⟨D.any, .p kp11, false⟩, none, none, some ⟨dI x_a, .a, true⟩, some ⟨dI x_b, .a, true⟩, some ⟨D.any, .p x_sides, false⟩, some ⟨dI x_side, .s, false⟩, some ⟨(dKI dI) v10, .p (kp11 + 1), false⟩] (.so rfl rfl (.so rfl rfl (.so (leM_pp _) rfl (.no (.no (.so rfl rfl (.so rfl rfl (.so (leM_pp _) rfl (.so rfl rfl (.so (leM_pp _) rfl .nil)))))))))) (js_ifJ (C := fun (s12 : (List (Int × Int))) => [some ⟨(dF dI) x_script, .a, true⟩, some ⟨dI x_many_here, .a, true⟩, some ⟨D.any, .p kp11, false⟩, none, none, some ⟨dI x_a, .a, true⟩, some ⟨dI x_b, .a, true⟩, some ⟨D.any, .p x_sides, false⟩, none, some ⟨(dKI dI) s12, .p (kp11 + 1), false⟩]) (jt_and (jt_cmp (d := (dI x_a)) (d2 := (dI x_b)) (jn_i (i := 5) rfl rfl) (jn_i (i := 6) rfl rfl) (q_ne ek_int x_a x_b)) (jt_and (jt_cmp (d := (dI x_a)) (d2 := ((dKI dI) v10)) (jn_i (i := 5) rfl rfl) (jn_v (i := 9) rfl) (q_ninKI (e := dI) v10 x_a)) (jt_cmp (d := (dI x_b)) (d2 := ((dKI dI) v10)) (jn_i (i := 6) rfl rfl) (jn_v (i := 9) rfl) (q_ninKI (e := dI) v10 x_b)))) (js_putP (fz := []) (eM := (dKI dI)) (W := (fun x_mate => (dKI dI) x_mate)) (jp_name (i := 9) rfl) (jn_i (i := 5) rfl rfl) (jn_i (i := 6) rfl rfl) rfl (fun m' h => p_KI (e := dI) h) (fun _ _ => rfl) fun x_mate =>
(js_last (js_putP (fz := []) (eM := (dKI dI)) (W := (fun x_mate_2 => (dKI dI) x_mate_2)) (jp_name (i := 9) rfl) (jn_i (i := 6) rfl rfl) (jn_i (i := 5) rfl rfl) rfl (fun m' h => p_KI (e := dI) h) (fun _ _ => rfl) fun x_mate_2 =>
(js_endJ (s := x_mate_2) (.so rfl rfl (.so rfl rfl (.so (leM_pp _) rfl (.no (.no (.so rfl rfl (.so rfl rfl (.so (leM_pp _) rfl (.no (.so (leM_pp _) rfl .nil)))))))))))))) (js_endJ (s := v10) (.so rfl rfl (.so rfl rfl (.so (leM_pp _) rfl (.no (.no (.so rfl rfl (.so rfl rfl (.so (leM_pp _) rfl (.no (.so (leM_pp _) rfl .nil))))))))))) fun s12 =>
(js_endJ (s := s12) (.so rfl rfl (.so rfl rfl (.so (leM_pp _) rfl (.no (.no (.so rfl rfl (.so rfl rfl (.so (leM_pp _) rfl (.no (.so (leM_pp _) rfl .nil))))))))))))))) (fun _ _ => rfl) (fun _ _ => rfl) (fun _ => rfl) (fun _ _ => by first | rfl | simp [pinOk, hideC, nthC, imm]) (fun _ => congrArg (fun z => z) (upd_ix (e := (dKI dI)) (ix_some h10))) fun kp11 s13 =>
(js_endL (s := (setI x_mates_here x_side s13)) (.so rfl rfl (.so rfl rfl (.so rfl rfl (.no (.no (.so rfl rfl (.so rfl rfl (.so (leM_pp _) rfl (.no (.no .nil)))))))))))))
abbrev K_law_mates_L1 (x_script : List Int) (x_many_here : Int) : ((List (List (Int × Int)))) → CS := fun s => [some ⟨(dF dI) x_script, .a, true⟩, some ⟨dI x_many_here, .a, true⟩, some ⟨(dL (dKI dI)) s, .f, false⟩, none, none, none, none, none, none, none]
theorem p_law_mates_L1_ok (x_script : List Int) (x_many_here : Int) (x_k : Int) (x_mates_here : List (List (Int × Int))) : JS [some ⟨(dF dI) x_script, .a, true⟩, some ⟨dI x_many_here, .a, true⟩, some ⟨(dL (dKI dI)) x_mates_here, .f, false⟩, some ⟨dI x_k, .s, false⟩, none, none, none, none, none, none] (FB_law_mates_2) (p_law_mates_L1 x_script x_many_here x_k x_mates_here) (ΨL (K_law_mates_L1 x_script x_many_here)) := by
  unfold p_law_mates_L1 FB_law_mates_2
  exact (js_bind fun v2 h2 =>
(js_set (fz := []) (e := dI) (je_ixI (d := ((dF dI) x_script)) (d2 := (dI ((2 : Int) + x_k))) (jn_i (i := 0) rfl (imm_flI x_script)) (je_add jc (jn_i (i := 3) rfl rfl)) (x_f (e := dI) h2) rfl) rfl fun x_cell =>
(js_bind fun v3 h3 =>
(js_set (fz := []) (e := dI) (je_modO (jn_i (i := 4) rfl rfl) (jn_i (i := 1) rfl rfl) h3) rfl fun x_a =>
(js_bind fun v4 h4 =>
(js_bind fun v5 h5 =>
(js_set (fz := []) (e := dI) (je_modO (je_divO (jn_i (i := 4) rfl rfl) (jn_i (i := 1) rfl rfl) h4) (jn_i (i := 1) rfl rfl) h5) rfl fun x_b =>
(js_set (fz := []) (e := (dL dI)) (JE.w (l2 := .full) (a2 := false) (v2 := false) (je_lst (ja_cons (je_modL (jn_i (i := 3) rfl rfl) jc) ja_nil))) rfl fun x_sides =>
(js_bind fun v6 h6 =>
(js_bind fun v7 h7 =>
(js_ifJ (C := fun (s8 : (List Int)) => [some ⟨(dF dI) x_script, .a, true⟩, some ⟨dI x_many_here, .a, true⟩, some ⟨(dL (dKI dI)) x_mates_here, .f, false⟩, none, none, some ⟨dI x_a, .a, true⟩, some ⟨dI x_b, .a, true⟩, some ⟨(dL dI) s8, .f, false⟩, none, none]) (jt_cmp (d := (dI (v7 % (5 : Int)))) (d2 := (dI (2 : Int))) (je_modL (je_divO (je_divO (jn_i (i := 4) rfl rfl) (jn_i (i := 1) rfl rfl) h6) (jn_i (i := 1) rfl rfl) h7) jc) jc (q_eq ek_int (v7 % (5 : Int)) (2 : Int))) (js_last (js_set (fz := []) (e := (dL dI)) (JE.w (l2 := .full) (a2 := false) (v2 := false) (je_lst (ja_cons jc (ja_cons jc ja_nil)))) rfl fun x_sides_2 =>
(js_endJ (s := x_sides_2) (.so rfl rfl (.so rfl rfl (.so rfl rfl (.no (.no (.so rfl rfl (.so rfl rfl (.so rfl rfl (.no (.no .nil))))))))))))) (js_endJ (s := x_sides) (.so rfl rfl (.so rfl rfl (.so rfl rfl (.no (.no (.so rfl rfl (.so rfl rfl (.so rfl rfl (.no (.no .nil))))))))))) fun s8 =>
(js_last (js_forH (e := dI) (C := fun kp9 => K_law_mates_L2 x_script x_many_here x_a x_b kp9) (jp_name (i := 7) rfl) rfl rfl (fun _ => rfl) (fun kp9 => (.so rfl rfl (.so rfl rfl (.so rfl rfl (.no (.no (.so rfl rfl (.so rfl rfl (.so (leM_pp _) rfl (.no (.no .nil))))))))))) (fun _ _ => rfl) (fun _ _ => rfl) (fun _ _ _ => rfl) (fun kp9 x14 s14 => p_law_mates_L2_ok x_script x_many_here x_a x_b kp9 x14 s14) (fun kp9 s14 =>
(js_endL (s := s14) (.so rfl rfl (.so rfl rfl (.so rfl rfl (.no (.no (.no (.no (.no (.no (.no .nil)))))))))))))))))))))))))
theorem p_law_mates_ok (x_script : List Int) (x_many_here : Int) (r : (List (List (Int × Int)))) (h : p_law_mates x_script x_many_here = some r) : RetE (R_law_mates) [(dF dI) x_script, dI x_many_here] ((dL (dKI dI)) r) .full false :=
  fn_ok (n := 10) (ds := [(dF dI) x_script, dI x_many_here]) (o := p_law_mates x_script x_many_here) (er := (dL (dKI dI))) (by
    unfold p_law_mates B_law_mates
    exact (js_set (fz := []) (e := (dL (dKI dI))) (JE.w (l2 := .full) (a2 := false) (v2 := false) (je_lst (ja_cons je_dk (ja_cons je_dk ja_nil)))) rfl fun x_mates_here =>
(js_if (jt_cmp (d := (dI x_many_here)) (d2 := (dI (0 : Int))) (jn_i (i := 1) rfl rfl) jc (q_eq ek_int x_many_here (0 : Int))) (js_retV (q := (fun r => r)) (er := (dL (dKI dI))) (x := x_mates_here) (m := .f) (i := 2) ret_R rfl md_f) (js_nil (js_bind fun v1 h1 =>
(js_for (fz := []) (e := dI) (C := K_law_mates_L1 x_script x_many_here) (jit_r1 (je_len (d := ((dL dI) (cutL x_script (some (2 : Int)) (some (162 : Int))))) (je_slFI (e := dI) (jn_i (i := 0) rfl (imm_flI x_script)) (jo_s jc) (jo_s jc) (fun _ => rfl)) (n_l _)) h1) (.so rfl rfl (.so rfl rfl (.so rfl rfl (.no (.no (.no (.no (.no (.no (.no .nil)))))))))) (fun _ _ => rfl) (fun x15 s15 => p_law_mates_L1_ok x_script x_many_here x15 s15) (fun s15 =>
(js_last (js_retV (q := (fun r => r)) (er := (dL (dKI dI))) (x := s15) (m := .f) (i := 2) ret_R rfl md_f))))))))) h (Nat.le_of_ble_eq_true rfl)
theorem p_law_pairs_ok (x_mate : List (Int × Int)) (r : (List (Int × Int))) (h : p_law_pairs x_mate = some r) : RetE (R_law_pairs) [(dKI dI) x_mate] ((dL (dT2 dI dI)) r) .full false :=
  fn_ok (n := 3) (ds := [(dKI dI) x_mate]) (o := p_law_pairs x_mate) (er := (dL (dT2 dI dI))) (by
    unfold p_law_pairs B_law_pairs
    exact (js_last (js_bind fun v2 h2 =>
(js_ret (q := (fun r => r)) (er := (dL (dT2 dI dI))) (x := (sort2 v2)) (l := .full) ret_R (je_biI (ja_cons (JE.w (l2 := .full) (a2 := false) (v2 := false) (lcD_ok (e := (dT2 dI dI)) (e2 := (dT2 dI dI)) (rd_name (i := 0) rfl) (it_KI (e := dI) (fun _ => rfl) _) (.no (.no (.no .nil))) (fun _ => rfl) (fun y1 => (jto_p (jt_cmp (d := (dI y1.1)) (d2 := (dI y1.2)) (jn_i (i := 1) rfl rfl) (jn_i (i := 2) rfl rfl) q_ltI))) (fun y1 => (jeo_p (JE.w (l2 := .full) (a2 := false) (v2 := false) (je_tup (ja_cons (jn_i (i := 1) rfl rfl) (ja_cons (jn_i (i := 2) rfl rfl) ja_nil)))))) h2)) ja_nil) (b_sorted2 _) (.inr ⟨whole_map (fun _ => rfl), rfl⟩)))))) h (Nat.le_of_ble_eq_true rfl)
theorem p_law_unlike_ok (x_one : List (Int × Int)) (x_other : List (Int × Int)) (r : (List (Int × Int))) (h : p_law_unlike x_one x_other = some r) : RetE (R_law_unlike) [(dL (dT2 dI dI)) x_one, (dL (dT2 dI dI)) x_other] ((dL (dT2 dI dI)) r) .full false :=
  fn_ok (n := 4) (ds := [(dL (dT2 dI dI)) x_one, (dL (dT2 dI dI)) x_other]) (o := p_law_unlike x_one x_other) (er := (dL (dT2 dI dI))) (by
    unfold p_law_unlike B_law_unlike
    exact (js_bind fun v2 h2 =>
(js_set (fz := []) (e := (dL (dT2 dI dI))) (JE.w (l2 := .full) (a2 := false) (v2 := false) (je_lcP (e := (dT2 dI dI)) (e2 := (dT2 dI dI)) (F := fun (y1 : Int × Int) => y1) (jit_lI (e := (dT2 dI dI)) (fun _ => rfl) (jn_s (i := 0) rfl)) (fun _ => rfl) (fun y1 => (jt_cmp (d := ((dT2 dI dI) y1)) (d2 := ((dL (dT2 dI dI)) x_other)) (jn_i (i := 3) rfl rfl) (jn_s (i := 1) rfl) (q_ninL (ek_t2 ek_int ek_int) y1 x_other))) (fun y1 => (jn_i (i := 3) rfl rfl)) h2)) rfl fun x_found =>
(js_last (js_bind fun v4 h4 =>
(js_bind fun v5 h5 =>
(js_ret (q := (fun r => r)) (er := (dL (dT2 dI dI))) (x := (sort2 v5)) (l := .full) ret_R (je_biI (ja_cons (je_catI (e := (dT2 dI dI)) (jn_v (i := 2) rfl) (JE.w (l2 := .full) (a2 := false) (v2 := false) (je_lcP (e := (dT2 dI dI)) (e2 := (dT2 dI dI)) (F := fun (y3 : Int × Int) => y3) (jit_lI (e := (dT2 dI dI)) (fun _ => rfl) (jn_s (i := 1) rfl)) (fun _ => rfl) (fun y3 => (jt_cmp (d := ((dT2 dI dI) y3)) (d2 := ((dL (dT2 dI dI)) x_one)) (jn_i (i := 3) rfl rfl) (jn_s (i := 0) rfl) (q_ninL (ek_t2 ek_int ek_int) y3 x_one))) (fun y3 => (jn_i (i := 3) rfl rfl)) h4)) h5 (fun _ => rfl)) ja_nil) (b_sorted2 _) (.inr ⟨whole_map (fun _ => rfl), rfl⟩))))))))) h (Nat.le_of_ble_eq_true rfl)
abbrev K_law_heaps_L2 (x_heaps_here : List (List (Int × Int))) : ((List (Int × Int)) × (List (Int × Int)) × Int) → CS := fun s => [none, some ⟨(dL (dL (dT2 dI dI))) x_heaps_here, .f, false⟩, some ⟨(dL (dT2 dI dI)) s.1, .f, false⟩, some ⟨(dL (dT2 dI dI)) s.2.1, .f, false⟩, some ⟨dI s.2.2, .a, true⟩, none, none]
theorem p_law_heaps_L2_ok (x_heaps_here : List (List (Int × Int))) (x_rest : List (Int × Int)) (x_heap : List (Int × Int)) (x_k : Int) : JS [none, some ⟨(dL (dL (dT2 dI dI))) x_heaps_here, .f, false⟩, some ⟨(dL (dT2 dI dI)) x_rest, .f, false⟩, some ⟨(dL (dT2 dI dI)) x_heap, .f, false⟩, some ⟨dI x_k, .a, true⟩, none, none] (WB_law_heaps_1) (p_law_heaps_L2 x_rest x_heap x_k) (ΨL (K_law_heaps_L2 x_heaps_here)) := by
  unfold p_law_heaps_L2 WB_law_heaps_1
  exact (js_bind fun v6 h6 =>
(js_set (fz := []) (e := (dL (dT2 dI dI))) (JE.w (l2 := .full) (a2 := false) (v2 := false) (je_lcM (e := (dT2 dI dI)) (e2 := (dT2 dI dI)) (jit_lI (e := (dT2 dI dI)) (fun _ => rfl) (jn_v (i := 2) rfl)) (fun _ => rfl) (fun y2 => (jto_b fun v3 h3 => (jto_b fun v5 h5 => (jto_p (jt_orO (jt_cmp (d := (dI v3.1)) (d2 := ((dT2 dI dI) y2)) (je_ixI (d' := dI v3.1) (je_ixI (d := ((dL (dT2 dI dI)) x_heap)) (d2 := (dI x_k)) (jn_v (i := 3) rfl) (jn_i (i := 4) rfl rfl) (x_l (e := (dT2 dI dI)) h3) rfl) jc rfl rfl) (jn_i (i := 6) rfl rfl) (q_inT2 v3.1 y2)) (jto_b fun v4 h4 => (jto_p (jt_cmp (d := (dI v4.2)) (d2 := ((dT2 dI dI) y2)) (je_ixI (d' := dI v4.2) (je_ixI (d := ((dL (dT2 dI dI)) x_heap)) (d2 := (dI x_k)) (jn_v (i := 3) rfl) (jn_i (i := 4) rfl rfl) (x_l (e := (dT2 dI dI)) h4) rfl) jc rfl rfl) (jn_i (i := 6) rfl rfl) (q_inT2 v4.2 y2)))) h5))))) (fun y2 => (jeo_p (jn_i (i := 6) rfl rfl))) h6)) rfl fun x_near =>
(js_le [none, some ⟨(dL (dL (dT2 dI dI))) x_heaps_here, .f, false⟩, some ⟨(dL (dT2 dI dI)) x_rest, .f, false⟩, some ⟨(dL (dT2 dI dI)) x_heap, .f, false⟩, some ⟨dI x_k, .a, true⟩, some ⟨(dL (dT2 dI dI)) x_near, .f, false⟩, none] (.no (.so rfl rfl (.so rfl rfl (.so rfl rfl (.so rfl rfl (.so rfl rfl (.no .nil))))))) (js_bind fun v8 h8 =>
(js_set (fz := []) (e := (dL (dT2 dI dI))) (JE.w (l2 := .full) (a2 := false) (v2 := false) (je_lcP (e := (dT2 dI dI)) (e2 := (dT2 dI dI)) (F := fun (y7 : Int × Int) => y7) (jit_lI (e := (dT2 dI dI)) (fun _ => rfl) (jn_v (i := 2) rfl)) (fun _ => rfl) (fun y7 => (jt_cmp (d := ((dT2 dI dI) y7)) (d2 := ((dL (dT2 dI dI)) x_near)) (jn_i (i := 6) rfl rfl) (jn_v (i := 5) rfl) (q_ninL (ek_t2 ek_int ek_int) y7 x_near))) (fun y7 => (jn_i (i := 6) rfl rfl)) h8)) rfl fun x_rest_2 =>
(js_ext (i := 3) (e := (dT2 dI dI)) rfl rfl (jn_v (i := 5) rfl) (fun _ => rfl) fun x_heap_2 =>
(js_last (js_aug (G := fun a b => a + b) (x := x_k) rfl rfl jc fun x_k_2 =>
(js_endL (s := (x_rest_2, x_heap_2, x_k_2)) (.no (.so rfl rfl (.so rfl rfl (.so rfl rfl (.so rfl rfl (.no (.no .nil))))))))))))))))
abbrev K_law_heaps_L1  : ((List (List (Int × Int))) × (List (Int × Int))) → CS := fun s => [none, some ⟨(dL (dL (dT2 dI dI))) s.1, .f, false⟩, some ⟨(dL (dT2 dI dI)) s.2, .f, false⟩, none, none, none, none]
theorem p_law_heaps_L1_ok (x_heaps_here : List (List (Int × Int))) (x_rest : List (Int × Int)) : JS [none, some ⟨(dL (dL (dT2 dI dI))) x_heaps_here, .f, false⟩, some ⟨(dL (dT2 dI dI)) x_rest, .f, false⟩, none, none, none, none] (WB_law_heaps_2) (p_law_heaps_L1 x_heaps_here x_rest) (ΨL (K_law_heaps_L1 )) := by
  unfold p_law_heaps_L1 WB_law_heaps_2
  exact (js_bind fun v1 h1 =>
(js_setX (e := (dL (dT2 dI dI))) (i := 3) (jx_lst1 (jx_popA (i := 2) (e := (dT2 dI dI)) rfl rfl jc (fun _ => rfl) h1) rfl) rfl fun x_heap =>
(js_set (fz := []) (e := dI) jc rfl fun x_k =>
(js_le [none, some ⟨(dL (dL (dT2 dI dI))) x_heaps_here, .f, false⟩, some ⟨(dL (dT2 dI dI)) v1.1, .f, false⟩, some ⟨(dL (dT2 dI dI)) x_heap, .f, false⟩, some ⟨dI x_k, .f, false⟩, none, none] (.no (.so rfl rfl (.so rfl rfl (.so rfl rfl (.so rfl rfl (.no (.no .nil))))))) (js_while (C := K_law_heaps_L2 x_heaps_here) (.no (.so rfl rfl (.so rfl rfl (.so rfl rfl (.so rfl rfl (.no (.no .nil))))))) (fun s9 => (jto_p (jt_cmp (d := (dI s9.2.2)) (d2 := (dI (s9.2.1.length : Int))) (jn_i (i := 4) rfl rfl) (je_len (d := ((dL (dT2 dI dI)) s9.2.1)) (jn_v (i := 3) rfl) (n_l _)) q_ltI))) (fun s9 => p_law_heaps_L2_ok x_heaps_here s9.1 s9.2.1 s9.2.2) (fun s9 =>
(js_last (js_app (fz := []) (e := (dL (dT2 dI dI))) rfl (je_biI (ja_cons (jn_v (i := 3) rfl) ja_nil) (b_sorted2 _) (.inr ⟨whole_map (fun _ => rfl), rfl⟩)) rfl fun x_heaps_here_2 =>
(js_endL (s := (x_heaps_here_2, s9.1)) (.no (.so rfl rfl (.so rfl rfl (.no (.no (.no (.no .nil))))))))))))))))
theorem p_law_heaps_ok (x_ties : List (Int × Int)) (r : (List (List (Int × Int)))) (h : p_law_heaps x_ties = some r) : RetE (R_law_heaps) [(dL (dT2 dI dI)) x_ties] ((dL (dL (dT2 dI dI))) r) .full false :=
  fn_ok (n := 7) (ds := [(dL (dT2 dI dI)) x_ties]) (o := p_law_heaps x_ties) (er := (dL (dL (dT2 dI dI)))) (by
    unfold p_law_heaps B_law_heaps
    exact (js_set (fz := []) (e := (dL (dL (dT2 dI dI)))) (JE.w (l2 := .full) (a2 := false) (v2 := false) (je_lst ja_nil)) rfl fun x_heaps_here =>
(js_set (fz := []) (e := (dL (dT2 dI dI))) (je_biI (ja_cons (jn_s (i := 0) rfl) ja_nil) (b_list (e := (dT2 dI dI)) _) (.inr ⟨whole_map (fun _ => rfl), rfl⟩)) rfl fun x_rest =>
(js_while (C := K_law_heaps_L1) (.no (.so rfl rfl (.so rfl rfl (.no (.no (.no (.no .nil))))))) (fun s10 => (jto_p (jt_cmp (d := ((dL (dT2 dI dI)) s10.2)) (d2 := ((dL (dT2 dI dI)) ([] : List (Int × Int)))) (jn_v (i := 2) rfl) (JE.w (l2 := .full) (a2 := false) (v2 := false) (je_lst ja_nil)) (q_ne (ek_list (ek_t2 ek_int ek_int)) s10.2 ([] : List (Int × Int)))))) (fun s10 => p_law_heaps_L1_ok s10.1 s10.2) (fun s10 =>
(js_last (js_retV (q := (fun r => r)) (er := (dL (dL (dT2 dI dI)))) (x := s10.1) (m := .f) (i := 1) ret_R rfl md_f))))))) h (Nat.le_of_ble_eq_true rfl)
theorem p_law_whole_ok (x_found : Int) (r : Bool) (h : p_law_whole x_found = some r) : RetE (R_law_whole) [dI x_found] (dB r) .full false :=
  fn_ok (n := 1) (ds := [dI x_found]) (o := p_law_whole x_found) (er := dB) (by
    unfold p_law_whole B_law_whole
    exact (js_last (js_ret (q := (fun r => r)) (er := dB) (x := (true && (!false))) (l := .full) ret_R (je_and (je_isi (d := (dI x_found)) (jn_i (i := 0) rfl rfl) rfl kb_int_int) (je_not (je_isi (d := (dI x_found)) (jn_i (i := 0) rfl rfl) rfl kb_int_bool)))))) h (Nat.le_of_ble_eq_true rfl)
abbrev K_led_from_L1 (x_beside : List (Int × (List Int))) : ((List Int) × (List Int)) → CS := fun s => [none, some ⟨(dKI (dL dI)) x_beside, .s, true⟩, some ⟨(dL dI) s.1, .f, false⟩, some ⟨(dL dI) s.2, .a, true⟩, none]
theorem p_led_from_L1_ok (x_beside : List (Int × (List Int))) (x_found : List Int) (x_onward : List Int) : JS [none, some ⟨(dKI (dL dI)) x_beside, .s, true⟩, some ⟨(dL dI) x_found, .f, false⟩, some ⟨(dL dI) x_onward, .a, true⟩, none] (WB_led_from_1) (p_led_from_L1 x_beside x_found x_onward) (ΨL (K_led_from_L1 x_beside)) := by
  unfold p_led_from_L1 WB_led_from_1
  exact (js_le [none, some ⟨(dKI (dL dI)) x_beside, .s, true⟩, some ⟨(dL dI) x_found, .f, false⟩, some ⟨(dL dI) x_onward, .a, true⟩, none] (.no (.so rfl rfl (.so rfl rfl (.so rfl rfl (.no .nil))))) (js_bind fun v2 h2 =>
(js_app (fz := []) (e := dI) rfl (je_ixI (d := ((dL dI) x_onward)) (d2 := (dI (0 : Int))) (jn_v (i := 3) rfl) jc (x_l (e := dI) h2) rfl) rfl fun x_found_2 =>
(js_last (js_bind fun v3 h3 =>
(js_bind fun v4 h4 =>
(js_bind fun v6 h6 =>
(js_set (fz := []) (e := (dL dI)) (JE.w (l2 := .full) (a2 := false) (v2 := false) (je_lcP (e := dI) (e2 := dI) (F := fun (y5 : Int) => y5) (jit_lI (e := dI) (fun _ => rfl) (je_ix (d := ((dKI (dL dI)) x_beside)) (d2 := (dI v3)) (jn_s (i := 1) rfl) (je_ixI (d := ((dL dI) x_onward)) (d2 := (dI (0 : Int))) (jn_v (i := 3) rfl) jc (x_l (e := dI) h3) rfl) (x_KI (e := (dL dI)) h4))) (fun _ => rfl) (fun y5 => (jt_cmp (d := (dI y5)) (d2 := ((dL dI) x_found_2)) (jn_i (i := 4) rfl rfl) (jn_v (i := 2) rfl) (q_ninL ek_int y5 x_found_2))) (fun y5 => (jn_i (i := 4) rfl rfl)) h6)) rfl fun x_onward_2 =>
(js_endL (s := (x_found_2, x_onward_2)) (.no (.so rfl rfl (.so rfl rfl (.so rfl rfl (.no .nil))))))))))))))
theorem p_led_from_ok (x_start : Int) (x_beside : List (Int × (List Int))) (r : (List Int)) (h : p_led_from x_start x_beside = some r) : RetE (R_led_from) [dI x_start, (dKI (dL dI)) x_beside] ((dL dI) r) .full false :=
  fn_ok (n := 5) (ds := [dI x_start, (dKI (dL dI)) x_beside]) (o := p_led_from x_start x_beside) (er := (dL dI)) (by
    unfold p_led_from B_led_from
    exact (js_set (fz := []) (e := (dL dI)) (JE.w (l2 := .full) (a2 := false) (v2 := false) (je_lst (ja_cons (jn_i (i := 0) rfl rfl) ja_nil))) rfl fun x_found =>
(js_bind fun v1 h1 =>
(js_set (fz := []) (e := (dL dI)) (je_ix (d := ((dKI (dL dI)) x_beside)) (d2 := (dI x_start)) (jn_s (i := 1) rfl) (jn_i (i := 0) rfl rfl) (x_KI (e := (dL dI)) h1)) rfl fun x_onward =>
(js_while (C := K_led_from_L1 x_beside) (.no (.so rfl rfl (.so rfl rfl (.so rfl rfl (.no .nil))))) (fun s7 => (jto_p (jt_cmp (d := ((dL dI) s7.2)) (d2 := ((dL dI) ([] : List Int))) (jn_v (i := 3) rfl) (JE.w (l2 := .full) (a2 := false) (v2 := false) (je_lst ja_nil)) (q_ne (ek_list ek_int) s7.2 ([] : List Int))))) (fun s7 => p_led_from_L1_ok x_beside s7.1 s7.2) (fun s7 =>
(js_last (js_retV (q := (fun r => r)) (er := (dL dI)) (x := s7.1) (m := .f) (i := 2) ret_R rfl md_f)))))))) h (Nat.le_of_ble_eq_true rfl)
theorem p_tie_of_ok (x_a : Int) (x_b : Int) (r : (Int × Int)) (h : p_tie_of x_a x_b = some r) : RetE (R_tie_of) [dI x_a, dI x_b] ((dT2 dI dI) r) .full false :=
  fn_ok (n := 2) (ds := [dI x_a, dI x_b]) (o := p_tie_of x_a x_b) (er := (dT2 dI dI)) (by
    unfold p_tie_of B_tie_of
    exact (js_last (js_ret (q := (fun r => r)) (er := (dT2 dI dI)) (x := ((minI x_a x_b), (maxI x_a x_b))) (l := .full) ret_R (JE.w (l2 := .full) (a2 := false) (v2 := false) (je_tup (ja_cons (je_biI (ja_cons (jn_i (i := 0) rfl rfl) (ja_cons (jn_i (i := 1) rfl rfl) ja_nil)) b_min (.inl rfl)) (ja_cons (je_biI (ja_cons (jn_i (i := 0) rfl rfl) (ja_cons (jn_i (i := 1) rfl rfl) ja_nil)) b_max (.inl rfl)) ja_nil))))))) h (Nat.le_of_ble_eq_true rfl)
abbrev K_law_choice_L1  : ((List (Int × Bool)) × (Int × Int)) → CS := fun s => [none, some ⟨(dKI dB) s.1, .f, false⟩, some ⟨(dT2 dI dI) s.2, .a, true⟩, none, none, none]
theorem p_law_choice_L1_ok (x_pair : Int × Int) (x_used : List (Int × Bool)) (x_last : Int × Int) : JS [none, some ⟨(dKI dB) x_used, .f, false⟩, some ⟨(dT2 dI dI) x_last, .a, true⟩, some ⟨(dT2 dI dI) x_pair, .s, true⟩, none, none] (FB_law_choice_1) (p_law_choice_L1 x_pair x_used x_last) (ΨC (K_law_choice_L1 ) dB .full false) := by
  unfold p_law_choice_L1 FB_law_choice_1
  exact (js_if (jt_or (jt_not (jt_val (je_isi (d := ((dT2 dI dI) x_pair)) (jn_i (i := 3) rfl rfl) rfl kb_tuple_tuple))) (jt_cmp (d := (dI (2 : Int))) (d2 := (dI (2 : Int))) (je_len (n := 2) (d := ((dT2 dI dI) x_pair)) (jn_i (i := 3) rfl rfl) (n_t rfl)) jc (q_ne ek_int (2 : Int) (2 : Int)))) (js_ret (q := (fun r => Ctl.rt r)) (er := dB) (x := false) (l := .full) ret_C jc) (js_nil (js_set (fz := []) (e := dI) (je_ixI (d' := dI x_pair.1) (jn_i (i := 3) rfl rfl) jc rfl rfl) rfl fun x_a =>
(js_le [none, some ⟨(dKI dB) x_used, .f, false⟩, some ⟨(dT2 dI dI) x_last, .a, true⟩, some ⟨(dT2 dI dI) x_pair, .s, true⟩, some ⟨dI x_a, .f, false⟩, none] (.no (.so rfl rfl (.so rfl rfl (.so rfl rfl (.so rfl rfl (.no .nil)))))) (js_set (fz := []) (e := dI) (je_ixI (d' := dI x_pair.2) (jn_i (i := 3) rfl rfl) jc rfl rfl) rfl fun x_b =>
(js_bind fun v1 h1 =>
(js_bind fun v3 h3 =>
(js_if (jt_orO (jt_not (jt_val (je_callI (ja_cons (jn_i (i := 4) rfl rfl) ja_nil) (p_law_whole_ok x_a v1 h1) rfl))) (jto_b fun v2 h2 => (jto_p (jt_or (jt_not (jt_val (je_callI (ja_cons (jn_i (i := 5) rfl rfl) ja_nil) (p_law_whole_ok x_b v2 h2) rfl))) (jt_or (jt_cmp (d := (dI x_a)) (d2 := (dI x_b)) (jn_i (i := 4) rfl rfl) (jn_i (i := 5) rfl rfl) q_geI) (jt_or (jt_cmp (d := (dI x_a)) (d2 := ((dKI dB) x_used)) (jn_i (i := 4) rfl rfl) (jn_v (i := 1) rfl) (q_inKI (e := dB) x_used x_a)) (jt_or (jt_cmp (d := (dI x_b)) (d2 := ((dKI dB) x_used)) (jn_i (i := 5) rfl rfl) (jn_v (i := 1) rfl) (q_inKI (e := dB) x_used x_b)) (jt_cmp (d := ((dT2 dI dI) x_pair)) (d2 := ((dT2 dI dI) x_last)) (jn_i (i := 3) rfl rfl) (jn_i (i := 2) rfl rfl) (q_le2 x_pair x_last)))))))) h3) (js_ret (q := (fun r => Ctl.rt r)) (er := dB) (x := false) (l := .full) ret_C jc) (js_nil (js_putP (fz := []) (eM := (dKI dB)) (W := (fun x_used_2 => (dKI dB) x_used_2)) (jp_name (i := 1) rfl) (jn_i (i := 4) rfl rfl) jc rfl (fun m' h => p_KI (e := dB) h) (fun _ _ => rfl) fun x_used_2 =>
(js_putP (fz := []) (eM := (dKI dB)) (W := (fun x_used_3 => (dKI dB) x_used_3)) (jp_name (i := 1) rfl) (jn_i (i := 5) rfl rfl) jc rfl (fun m' h => p_KI (e := dB) h) (fun _ _ => rfl) fun x_used_3 =>
(js_last (js_set (fz := []) (e := (dT2 dI dI)) (jn_i (i := 3) rfl rfl) rfl fun x_last_2 =>
(js_endC (s := (x_used_3, x_last_2)) (.no (.so rfl rfl (.so rfl rfl (.no (.no (.no .nil))))))))))))))))))))
theorem p_law_choice_ok (x_pairs_here : List (Int × Int)) (r : Bool) (h : p_law_choice x_pairs_here = some r) : RetE (R_law_choice) [(dL (dT2 dI dI)) x_pairs_here] (dB r) .full false :=
  fn_ok (n := 6) (ds := [(dL (dT2 dI dI)) x_pairs_here]) (o := p_law_choice x_pairs_here) (er := dB) (by
    unfold p_law_choice B_law_choice
    exact (js_if (jt_not (jt_val (je_isi (d := ((dL (dT2 dI dI)) x_pairs_here)) (jn_s (i := 0) rfl) rfl kb_list_list))) (js_ret (q := (fun r => r)) (er := dB) (x := false) (l := .full) ret_R jc) (js_nil (js_set (fz := []) (e := (dKI dB)) je_dk rfl fun x_used =>
(js_set (fz := []) (e := (dT2 dI dI)) (JE.w (l2 := .full) (a2 := false) (v2 := false) (je_tup (ja_cons (je_neg jc) (ja_cons (je_neg jc) ja_nil)))) rfl fun x_last =>
(js_forC (fz := []) (e := (dT2 dI dI)) (C := K_law_choice_L1) (er := dB) (lr := .full) (ra := false) (q := (fun r => r)) ret_R (jit_l (e := (dT2 dI dI)) (jn_s (i := 0) rfl)) (.no (.so rfl rfl (.so rfl rfl (.no (.no (.no .nil)))))) (fun _ _ => rfl) (fun x4 s4 => p_law_choice_L1_ok x4 s4.1 s4.2) (fun s4 =>
(js_last (js_le [none, some ⟨(dKI dB) s4.1, .f, false⟩, some ⟨(dT2 dI dI) s4.2, .a, true⟩, none, none, none] (.no (.so rfl rfl (.so rfl rfl (.no (.no (.no .nil)))))) (js_ret (q := (fun r => r)) (er := dB) (x := true) (l := .full) ret_R jc)))))))))) h (Nat.le_of_ble_eq_true rfl)
abbrev K_between_L1  : ((List (Int × (List Int)))) → CS := fun s => [none, none, some ⟨(dKI (dL dI)) s, .f, false⟩, none, none, none, none, none, none, none, none, none]
theorem p_between_L1_ok (x_a : Int) (x_b : Int) (x_beside : List (Int × (List Int))) : JS [none, none, some ⟨(dKI (dL dI)) x_beside, .f, false⟩, some ⟨dI x_a, .s, false⟩, some ⟨dI x_b, .s, false⟩, none, none, none, none, none, none, none] (FB_between_1) (p_between_L1 x_a x_b x_beside) (ΨL (K_between_L1 )) := by
  unfold p_between_L1 FB_between_1
  exact (js_sda (i := 2) (j := 4) (e := dI) rfl rfl (jn_i (i := 3) rfl rfl) rfl rfl fun x_beside_2 =>
(js_last (js_le [none, none, some ⟨(dKI (dL dI)) x_beside_2, .f, false⟩, some ⟨dI x_a, .s, false⟩, some ⟨dI x_b, .s, false⟩, none, none, none, none, none, none, none] (.no (.no (.so rfl rfl (.so rfl rfl (.so rfl rfl (.no (.no (.no (.no (.no (.no (.no .nil)))))))))))) (js_sda (i := 2) (j := 3) (e := dI) rfl rfl (jn_i (i := 4) rfl rfl) rfl rfl fun x_beside_3 =>
(js_endL (s := x_beside_3) (.no (.no (.so rfl rfl (.no (.no (.no (.no (.no (.no (.no (.no (.no .nil)))))))))))))))))
abbrev K_between_L3 (x_beside : List (Int × (List Int))) (x_count : Int) (x_kind : SS) : ((List (SS × (List Int))) × (List Int)) → CS := fun s => [none, none, some ⟨(dKI (dL dI)) x_beside, .f, false⟩, none, none, some ⟨(dL (dT2 dSS (dL dI))) s.1, .f, false⟩, some ⟨(dL dI) s.2, .f, false⟩, some ⟨dI x_count, .a, true⟩, some ⟨dSS x_kind, .a, true⟩, none, none, none]
theorem p_between_L3_ok (x_beside : List (Int × (List Int))) (x_count : Int) (x_kind : SS) (x_start : Int) (x_found : List (SS × (List Int))) (x_seen : List Int) : JS [none, none, some ⟨(dKI (dL dI)) x_beside, .f, false⟩, none, none, some ⟨(dL (dT2 dSS (dL dI))) x_found, .f, false⟩, some ⟨(dL dI) x_seen, .f, false⟩, some ⟨dI x_count, .a, true⟩, some ⟨dSS x_kind, .a, true⟩, some ⟨dI x_start, .s, false⟩, none, none] (FB_between_2) (p_between_L3 x_beside x_count x_kind x_start x_found x_seen) (ΨL (K_between_L3 x_beside x_count x_kind)) := by
  unfold p_between_L3 FB_between_2
  exact (js_last (js_bind fun v9 h9 =>
(js_ifJ (C := fun (s11 : (List Int) × (List (SS × (List Int)))) => [none, none, some ⟨(dKI (dL dI)) x_beside, .f, false⟩, none, none, some ⟨(dL (dT2 dSS (dL dI))) s11.2, .f, false⟩, some ⟨(dL dI) s11.1, .f, false⟩, some ⟨dI x_count, .a, true⟩, some ⟨dSS x_kind, .a, true⟩, none, none, none]) (jt_andO (jt_cmp (d := (dI x_start)) (d2 := ((dL dI) x_seen)) (jn_i (i := 9) rfl rfl) (jn_v (i := 6) rfl) (q_ninL ek_int x_start x_seen)) (jto_b fun v8 h8 => (jto_p (jt_cmp (d := (dI (v8.length : Int))) (d2 := (dI x_count)) (je_len (d := ((dL dI) v8)) (je_ix (d := ((dKI (dL dI)) x_beside)) (d2 := (dI x_start)) (jn_v (i := 2) rfl) (jn_i (i := 9) rfl rfl) (x_KI (e := (dL dI)) h8)) (n_l _)) (jn_i (i := 7) rfl rfl) (q_eq ek_int (v8.length : Int) x_count)))) h9) (js_bind fun v10 h10 =>
(js_set (fz := []) (e := (dL dI)) (JE.w (l2 := .full) (a2 := false) (v2 := false) (je_call (ja_cons (jn_i (i := 9) rfl rfl) (ja_cons (jn_v (i := 2) rfl) ja_nil)) (p_led_from_ok x_start x_beside v10 h10))) rfl fun x_points =>
(js_ext (i := 6) (e := dI) rfl rfl (jn_v (i := 10) rfl) (fun _ => rfl) fun x_seen_2 =>
(js_last (js_appMv (e := dSS) (e2 := (dL dI)) (i := 5) (j := 10) rfl rfl (jn_i (i := 8) rfl rfl) rfl rfl rfl rfl rfl fun x_found_2 =>
(js_endJ (s := (x_seen_2, x_found_2)) (.no (.no (.so rfl rfl (.no (.no (.so rfl rfl (.so rfl rfl (.so rfl rfl (.so rfl rfl (.no (.no (.no .nil)))))))))))))))))) (js_endJ (s := (x_seen, x_found)) (.no (.no (.so rfl rfl (.no (.no (.so rfl rfl (.so rfl rfl (.so rfl rfl (.so rfl rfl (.no (.no (.no .nil))))))))))))) fun s11 =>
(js_endL (s := (s11.2, s11.1)) (.no (.no (.so rfl rfl (.no (.no (.so rfl rfl (.so rfl rfl (.so rfl rfl (.so rfl rfl (.no (.no (.no .nil))))))))))))))))
abbrev K_between_L2 (x_beside : List (Int × (List Int))) : ((List (SS × (List Int))) × (List Int)) → CS := fun s => [none, none, some ⟨(dKI (dL dI)) x_beside, .f, false⟩, none, none, some ⟨(dL (dT2 dSS (dL dI))) s.1, .f, false⟩, some ⟨(dL dI) s.2, .f, false⟩, none, none, none, none, none]
theorem p_between_L2_ok (x_beside : List (Int × (List Int))) (x_count : Int) (x_kind : SS) (x_found : List (SS × (List Int))) (x_seen : List Int) : JS [none, none, some ⟨(dKI (dL dI)) x_beside, .f, false⟩, none, none, some ⟨(dL (dT2 dSS (dL dI))) x_found, .f, false⟩, some ⟨(dL dI) x_seen, .f, false⟩, some ⟨dI x_count, .s, false⟩, some ⟨dSS x_kind, .s, false⟩, none, none, none] (FB_between_3) (p_between_L2 x_beside x_count x_kind x_found x_seen) (ΨL (K_between_L2 x_beside)) := by
  unfold p_between_L2 FB_between_3
  exact (js_last (js_bind fun v7 h7 =>
(js_for (fz := []) (e := dI) (C := K_between_L3 x_beside x_count x_kind) (jit_l (e := dI) (je_biI (ja_cons (jn_v (i := 2) rfl) ja_nil) (b_sortedK (e := (dL dI)) h7) (.inr ⟨whole_map (fun _ => rfl), rfl⟩))) (.no (.no (.so rfl rfl (.no (.no (.so rfl rfl (.so rfl rfl (.so rfl rfl (.so rfl rfl (.no (.no (.no .nil)))))))))))) (fun _ _ => rfl) (fun x12 s12 => p_between_L3_ok x_beside x_count x_kind x12 s12.1 s12.2) (fun s12 =>
(js_endL (s := (s12.1, s12.2)) (.no (.no (.so rfl rfl (.no (.no (.so rfl rfl (.so rfl rfl (.no (.no (.no (.no (.no .nil)))))))))))))))))
theorem p_between_ok (x_one : List (Int × Int)) (x_other : List (Int × Int)) (r : (List (SS × (List Int)))) (h : p_between x_one x_other = some r) : RetE (R_between) [(dL (dT2 dI dI)) x_one, (dL (dT2 dI dI)) x_other] ((dL (dT2 dSS (dL dI))) r) .full false :=
  fn_ok (n := 12) (ds := [(dL (dT2 dI dI)) x_one, (dL (dT2 dI dI)) x_other]) (o := p_between x_one x_other) (er := (dL (dT2 dSS (dL dI)))) (by
    unfold p_between B_between
    exact (js_set (fz := []) (e := (dKI (dL dI))) je_dk rfl fun x_beside =>
(js_bind fun v2 h2 =>
(js_bind fun v4 h4 =>
(js_bind fun v5 h5 =>
(js_for (fz := []) (e := (dT2 dI dI)) (C := K_between_L1) (jit_l (e := (dT2 dI dI)) (je_catI (e := (dT2 dI dI)) (JE.w (l2 := .full) (a2 := false) (v2 := false) (je_lcP (e := (dT2 dI dI)) (e2 := (dT2 dI dI)) (F := fun (y1 : Int × Int) => y1) (jit_lI (e := (dT2 dI dI)) (fun _ => rfl) (jn_s (i := 0) rfl)) (fun _ => rfl) (fun y1 => (jt_cmp (d := ((dT2 dI dI) y1)) (d2 := ((dL (dT2 dI dI)) x_other)) (jn_i (i := 11) rfl rfl) (jn_s (i := 1) rfl) (q_ninL (ek_t2 ek_int ek_int) y1 x_other))) (fun y1 => (jn_i (i := 11) rfl rfl)) h2)) (JE.w (l2 := .full) (a2 := false) (v2 := false) (je_lcP (e := (dT2 dI dI)) (e2 := (dT2 dI dI)) (F := fun (y3 : Int × Int) => y3) (jit_lI (e := (dT2 dI dI)) (fun _ => rfl) (jn_s (i := 1) rfl)) (fun _ => rfl) (fun y3 => (jt_cmp (d := ((dT2 dI dI) y3)) (d2 := ((dL (dT2 dI dI)) x_one)) (jn_i (i := 11) rfl rfl) (jn_s (i := 0) rfl) (q_ninL (ek_t2 ek_int ek_int) y3 x_one))) (fun y3 => (jn_i (i := 11) rfl rfl)) h4)) h5 (fun _ => rfl))) (.no (.no (.so rfl rfl (.no (.no (.no (.no (.no (.no (.no (.no (.no .nil)))))))))))) (fun _ _ => rfl) (fun x6 s6 => p_between_L1_ok x6.1 x6.2 s6) (fun s6 =>
(js_set (fz := []) (e := (dL (dT2 dSS (dL dI)))) (JE.w (l2 := .full) (a2 := false) (v2 := false) (je_lst ja_nil)) rfl fun x_found =>
(js_set (fz := []) (e := (dL dI)) (JE.w (l2 := .full) (a2 := false) (v2 := false) (je_lst ja_nil)) rfl fun x_seen =>
(js_for (fz := []) (e := (dT2 dI dSS)) (C := K_between_L2 s6) (jit_l (e := (dT2 dI dSS)) (JE.w (l2 := .full) (a2 := false) (v2 := false) (je_lst (ja_cons (JE.w (l2 := .full) (a2 := false) (v2 := false) (je_tup (ja_cons jc (ja_cons jc ja_nil)))) (ja_cons (JE.w (l2 := .full) (a2 := false) (v2 := false) (je_tup (ja_cons jc (ja_cons jc ja_nil)))) ja_nil))))) (.no (.no (.so rfl rfl (.no (.no (.so rfl rfl (.so rfl rfl (.no (.no (.no (.no (.no .nil)))))))))))) (fun _ _ => rfl) (fun x13 s13 => p_between_L2_ok s6 x13.1 x13.2 s13.1 s13.2) (fun s13 =>
(js_last (js_le [none, none, some ⟨(dKI (dL dI)) s6, .f, false⟩, none, none, some ⟨(dL (dT2 dSS (dL dI))) s13.1, .f, false⟩, some ⟨(dL dI) s13.2, .f, false⟩, none, none, none, none, none] (.no (.no (.so rfl rfl (.no (.no (.so rfl rfl (.so rfl rfl (.no (.no (.no (.no (.no .nil)))))))))))) (js_retV (q := (fun r => r)) (er := (dL (dT2 dSS (dL dI)))) (x := s13.1) (m := .f) (i := 5) ret_R rfl md_f)))))))))))))) h (Nat.le_of_ble_eq_true rfl)
theorem p_ties_along_ok (x_points : List Int) (r : (List (Int × Int))) (h : p_ties_along x_points = some r) : RetE (R_ties_along) [(dL dI) x_points] ((dL (dT2 dI dI)) r) .full false :=
  fn_ok (n := 3) (ds := [(dL dI) x_points]) (o := p_ties_along x_points) (er := (dL (dT2 dI dI))) (by
    unfold p_ties_along B_ties_along
    exact (js_last (js_bind fun v3 h3 =>
(js_ret (q := (fun r => r)) (er := (dL (dT2 dI dI))) (x := v3) (l := .full) ret_R (JE.w (l2 := .full) (a2 := false) (v2 := false) (je_lcM (e := (dT2 dI dI)) (e2 := (dT2 dI dI)) (jit_zip (e := dI) (e2 := dI) (jn_s (i := 0) rfl) (je_slLI (e := dI) (jn_s (i := 0) rfl) (jo_s jc) jo_n (fun _ => rfl))) (fun _ => rfl) (fun y1 => (jto_p jt_yes)) (fun y1 => (jeo_b fun v2 h2 => (jeo_p (je_callI (ja_cons (jn_i (i := 1) rfl rfl) (ja_cons (jn_i (i := 2) rfl rfl) ja_nil)) (p_tie_of_ok y1.1 y1.2 v2 h2) rfl)))) h3)))))) h (Nat.le_of_ble_eq_true rfl)
theorem p_exchanged_ok (x_pairs : List (Int × Int)) (x_row : List Int) (r : (List (Int × Int))) (h : p_exchanged x_pairs x_row = some r) : RetE (R_exchanged) [(dL (dT2 dI dI)) x_pairs, (dL dI) x_row] ((dL (dT2 dI dI)) r) .full false :=
  fn_ok (n := 5) (ds := [(dL (dT2 dI dI)) x_pairs, (dL dI) x_row]) (o := p_exchanged x_pairs x_row) (er := (dL (dT2 dI dI))) (by
    unfold p_exchanged B_exchanged
    exact (js_bind fun v1 h1 =>
(js_set (fz := []) (e := (dL (dT2 dI dI))) (JE.w (l2 := .full) (a2 := false) (v2 := false) (je_call (ja_cons (jn_s (i := 1) rfl) ja_nil) (p_ties_along_ok x_row v1 h1))) rfl fun x_ties =>
(js_bind fun v3 h3 =>
(js_set (fz := []) (e := (dL (dT2 dI dI))) (JE.w (l2 := .full) (a2 := false) (v2 := false) (je_lcP (e := (dT2 dI dI)) (e2 := (dT2 dI dI)) (F := fun (y2 : Int × Int) => y2) (jit_lI (e := (dT2 dI dI)) (fun _ => rfl) (jn_s (i := 0) rfl)) (fun _ => rfl) (fun y2 => (jt_cmp (d := ((dT2 dI dI) y2)) (d2 := ((dL (dT2 dI dI)) x_ties)) (jn_i (i := 4) rfl rfl) (jn_v (i := 2) rfl) (q_ninL (ek_t2 ek_int ek_int) y2 x_ties))) (fun y2 => (jn_i (i := 4) rfl rfl)) h3)) rfl fun x_kept =>
(js_last (js_bind fun v5 h5 =>
(js_bind fun v6 h6 =>
(js_ret (q := (fun r => r)) (er := (dL (dT2 dI dI))) (x := (sort2 v6)) (l := .full) ret_R (je_biI (ja_cons (je_catI (e := (dT2 dI dI)) (jn_v (i := 3) rfl) (JE.w (l2 := .full) (a2 := false) (v2 := false) (je_lcP (e := (dT2 dI dI)) (e2 := (dT2 dI dI)) (F := fun (y4 : Int × Int) => y4) (jit_lI (e := (dT2 dI dI)) (fun _ => rfl) (jn_v (i := 2) rfl)) (fun _ => rfl) (fun y4 => (jt_cmp (d := ((dT2 dI dI) y4)) (d2 := ((dL (dT2 dI dI)) x_pairs)) (jn_i (i := 4) rfl rfl) (jn_s (i := 0) rfl) (q_ninL (ek_t2 ek_int ek_int) y4 x_pairs))) (fun y4 => (jn_i (i := 4) rfl rfl)) h5)) h6 (fun _ => rfl)) ja_nil) (b_sorted2 _) (.inr ⟨whole_map (fun _ => rfl), rfl⟩))))))))))) h (Nat.le_of_ble_eq_true rfl)
theorem p_exchanged_ring_ok (x_pairs : List (Int × Int)) (x_ring : List Int) (r : (List (Int × Int))) (h : p_exchanged_ring x_pairs x_ring = some r) : RetE (R_exchanged_ring) [(dL (dT2 dI dI)) x_pairs, (dL dI) x_ring] ((dL (dT2 dI dI)) r) .full false :=
  fn_ok (n := 2) (ds := [(dL (dT2 dI dI)) x_pairs, (dL dI) x_ring]) (o := p_exchanged_ring x_pairs x_ring) (er := (dL (dT2 dI dI))) (by
    unfold p_exchanged_ring B_exchanged_ring
    exact (js_last (js_bind fun v1 h1 =>
(js_bind fun v2 h2 =>
(js_ret (q := (fun r => r)) (er := (dL (dT2 dI dI))) (x := v2) (l := .full) ret_R (JE.w (l2 := .full) (a2 := false) (v2 := false) (je_call (ja_cons (jn_s (i := 0) rfl) (ja_cons (je_catI (e := dI) (jn_s (i := 1) rfl) (je_slLI (e := dI) (jn_s (i := 1) rfl) jo_n (jo_s jc) (fun _ => rfl)) h1 (fun _ => rfl)) ja_nil)) (p_exchanged_ok x_pairs v1 v2 h2)))))))) h (Nat.le_of_ble_eq_true rfl)
theorem p_turned_along_ok (x_pairs : List (Int × Int)) (x_told : SS × (List Int)) (r : (List (Int × Int))) (h : p_turned_along x_pairs x_told = some r) : RetE (R_turned_along) [(dL (dT2 dI dI)) x_pairs, (dT2 dSS (dL dI)) x_told] ((dL (dT2 dI dI)) r) .full false :=
  fn_ok (n := 4) (ds := [(dL (dT2 dI dI)) x_pairs, (dT2 dSS (dL dI)) x_told]) (o := p_turned_along x_pairs x_told) (er := (dL (dT2 dI dI))) (by
    unfold p_turned_along B_turned_along
    exact (js_asg (fz := []) (e := (dT2 dSS (dL dI))) (jn_s (i := 1) rfl) (fun _ => rfl) fun q1 =>
(js_if (jt_cmp (d := (dSS q1.1)) (d2 := (dSS (mkS "row" (by decide +kernel)))) (jn_i (i := 2) rfl rfl) jc (q_eq ek_str q1.1 (mkS "row" (by decide +kernel)))) (js_bind fun v2 h2 =>
(js_ret (q := (fun r => r)) (er := (dL (dT2 dI dI))) (x := v2) (l := .full) ret_R (JE.w (l2 := .full) (a2 := false) (v2 := false) (je_call (ja_cons (jn_s (i := 0) rfl) (ja_cons (jn_s (i := 3) rfl) ja_nil)) (p_exchanged_ok x_pairs q1.2 v2 h2))))) (js_nil (js_last (js_bind fun v3 h3 =>
(js_ret (q := (fun r => r)) (er := (dL (dT2 dI dI))) (x := v3) (l := .full) ret_R (JE.w (l2 := .full) (a2 := false) (v2 := false) (je_call (ja_cons (jn_s (i := 0) rfl) (ja_cons (jn_s (i := 3) rfl) ja_nil)) (p_exchanged_ring_ok x_pairs q1.2 v3 h3)))))))))) h (Nat.le_of_ble_eq_true rfl)
abbrev K_steps_L1  : ((List (Int × Int)) × (List (List (Int × Int)))) → CS := fun s => [none, none, some ⟨(dL (dT2 dI dI)) s.1, .s, false⟩, some ⟨(dL (dL (dT2 dI dI))) s.2, .t, false⟩, none]
theorem p_steps_L1_ok (x_told : SS × (List Int)) (x_pairs : List (Int × Int)) (x_found : List (List (Int × Int))) : JS [none, none, some ⟨(dL (dT2 dI dI)) x_pairs, .s, false⟩, some ⟨(dL (dL (dT2 dI dI))) x_found, .t, false⟩, some ⟨(dT2 dSS (dL dI)) x_told, .s, false⟩] (FB_steps_1) (p_steps_L1 x_told x_pairs x_found) (ΨL (K_steps_L1 )) := by
  unfold p_steps_L1 FB_steps_1
  exact (js_le [none, none, some ⟨(dL (dT2 dI dI)) x_pairs, .s, false⟩, some ⟨(dL (dL (dT2 dI dI))) x_found, .t, false⟩, some ⟨(dT2 dSS (dL dI)) x_told, .s, false⟩] (.no (.no (.so rfl rfl (.so rfl rfl (.so rfl rfl .nil))))) (js_bind fun v2 h2 =>
(js_set (fz := []) (e := (dL (dT2 dI dI))) (JE.w (l2 := .full) (a2 := false) (v2 := false) (je_call (ja_cons (jn_s (i := 2) rfl) (ja_cons (jn_s (i := 4) rfl) ja_nil)) (p_turned_along_ok x_pairs x_told v2 h2))) rfl fun x_pairs_2 =>
(js_last (js_app (fz := [2]) (e := (dL (dT2 dI dI))) rfl (jn_s (i := 2) rfl) rfl fun x_found_2 =>
(js_endL (s := (x_pairs_2, x_found_2)) (.no (.no (.so rfl rfl (.so rfl rfl (.no .nil)))))))))))
theorem p_steps_ok (x_one : List (Int × Int)) (x_other : List (Int × Int)) (r : (List (List (Int × Int)))) (h : p_steps x_one x_other = some r) : RetE (R_steps) [(dL (dT2 dI dI)) x_one, (dL (dT2 dI dI)) x_other] ((dL (dL (dT2 dI dI))) r) .top false :=
  fn_ok (n := 5) (ds := [(dL (dT2 dI dI)) x_one, (dL (dT2 dI dI)) x_other]) (o := p_steps x_one x_other) (er := (dL (dL (dT2 dI dI)))) (by
    unfold p_steps B_steps
    exact (js_set (fz := []) (e := (dL (dT2 dI dI))) (je_biI (ja_cons (jn_s (i := 0) rfl) ja_nil) (b_list (e := (dT2 dI dI)) _) (.inr ⟨whole_map (fun _ => rfl), rfl⟩)) rfl fun x_pairs =>
(js_set (fz := [2]) (e := (dL (dL (dT2 dI dI)))) (JE.w (l2 := .top) (a2 := false) (v2 := false) (je_lst (ja_cons (jn_s (i := 2) rfl) ja_nil))) rfl fun x_found =>
(js_bind fun v1 h1 =>
(js_for (fz := []) (e := (dT2 dSS (dL dI))) (C := K_steps_L1) (jit_l (e := (dT2 dSS (dL dI))) (JE.w (l2 := .full) (a2 := false) (v2 := false) (je_call (ja_cons (jn_s (i := 0) rfl) (ja_cons (jn_s (i := 1) rfl) ja_nil)) (p_between_ok x_one x_other v1 h1)))) (.no (.no (.so rfl rfl (.so rfl rfl (.no .nil))))) (fun _ _ => rfl) (fun x3 s3 => p_steps_L1_ok x3 s3.1 s3.2) (fun s3 =>
(js_last (js_retV (q := (fun r => r)) (er := (dL (dL (dT2 dI dI)))) (x := s3.2) (m := .t) (i := 3) ret_R rfl md_t)))))))) h (Nat.le_of_ble_eq_true rfl)
abbrev K_law_L1 (x_many_here : Int) (x_one : List (Int × Int)) (x_other : List (Int × Int)) (x_handed : List (List (Int × Int))) (x_found : List (List (Int × Int))) : ((List (List (Int × Int)))) → CS := fun s => [none, some ⟨dI x_many_here, .a, true⟩, none, some ⟨(dL (dT2 dI dI)) x_one, .s, false⟩, some ⟨(dL (dT2 dI dI)) x_other, .s, false⟩, some ⟨(dL (dL (dT2 dI dI))) x_handed, .f, false⟩, some ⟨(dL (dL (dT2 dI dI))) x_found, .t, false⟩, some ⟨(dL (dL (dT2 dI dI))) s, .f, false⟩, none, none, none]
theorem p_law_L1_ok (x_many_here : Int) (x_one : List (Int × Int)) (x_other : List (Int × Int)) (x_handed : List (List (Int × Int))) (x_found : List (List (Int × Int))) (x_k : Int) (x_heaps_here : List (List (Int × Int))) : JS [none, some ⟨dI x_many_here, .a, true⟩, none, some ⟨(dL (dT2 dI dI)) x_one, .s, false⟩, some ⟨(dL (dT2 dI dI)) x_other, .s, false⟩, some ⟨(dL (dL (dT2 dI dI))) x_handed, .f, false⟩, some ⟨(dL (dL (dT2 dI dI))) x_found, .t, false⟩, some ⟨(dL (dL (dT2 dI dI))) x_heaps_here, .f, false⟩, some ⟨dI x_k, .s, false⟩, none, none] (FB_law_1) (p_law_L1 x_found x_k x_heaps_here) (ΨC (K_law_L1 x_many_here x_one x_other x_handed x_found) dB .full false) := by
  unfold p_law_L1 FB_law_1
  exact (js_bind fun v23 h23 =>
(js_bind fun v24 h24 =>
(js_bind fun v25 h25 =>
(js_set (fz := []) (e := (dL (dT2 dI dI))) (JE.w (l2 := .full) (a2 := false) (v2 := false) (je_call (ja_cons (je_ix (d := ((dL (dL (dT2 dI dI))) x_found)) (d2 := (dI x_k)) (jn_v (i := 6) rfl) (jn_i (i := 8) rfl rfl) (x_l (e := (dL (dT2 dI dI))) h23)) (ja_cons (je_ix (d := ((dL (dL (dT2 dI dI))) x_found)) (d2 := (dI (x_k + (1 : Int)))) (jn_v (i := 6) rfl) (je_add (jn_i (i := 8) rfl rfl) jc) (x_l (e := (dL (dT2 dI dI))) h24)) ja_nil)) (p_law_unlike_ok v23 v24 v25 h25))) rfl fun x_step =>
(js_if (jt_cmp (d := ((dL (dT2 dI dI)) x_step)) (d2 := ((dL (dL (dT2 dI dI))) x_heaps_here)) (jn_v (i := 9) rfl) (jn_v (i := 7) rfl) (q_ninL (ek_list (ek_t2 ek_int ek_int)) x_step x_heaps_here)) (js_ret (q := (fun r => Ctl.rt r)) (er := dB) (x := false) (l := .full) ret_C jc) (js_nil (js_last (js_rem (i := 7) (e := (dL (dT2 dI dI))) (ek_list (ek_t2 ek_int ek_int)) rfl rfl (jn_v (i := 9) rfl) fun x_heaps_here_2 =>
(js_endC (s := x_heaps_here_2) (.no (.so rfl rfl (.no (.so rfl rfl (.so rfl rfl (.so rfl rfl (.so rfl rfl (.so rfl rfl (.no (.no (.no .nil))))))))))))))))))))
theorem p_law_ok (x_script : List Int) (r : Bool) (h : p_law x_script = some r) : RetE (R_law) [(dF dI) x_script] (dB r) .full false :=
  fn_ok (n := 11) (ds := [(dF dI) x_script]) (o := p_law x_script) (er := dB) (by
    unfold p_law B_law
    exact (js_bind fun v1 h1 =>
(js_bind fun v2 h2 =>
(js_set (fz := []) (e := dI) (je_callI (ja_cons (je_callI (ja_cons (jn_i (i := 0) rfl (imm_flI x_script)) (ja_cons jc ja_nil)) (p_law_cell_at_ok x_script (0 : Int) v1 h1) rfl) ja_nil) (p_law_many_ok v1 v2 h2) rfl) rfl fun x_many_here =>
(js_bind fun v3 h3 =>
(js_set (fz := []) (e := (dL (dKI dI))) (JE.w (l2 := .full) (a2 := false) (v2 := false) (je_call (ja_cons (jn_i (i := 0) rfl (imm_flI x_script)) (ja_cons (jn_i (i := 1) rfl rfl) ja_nil)) (p_law_mates_ok x_script x_many_here v3 h3))) rfl fun x_mates_here =>
(js_bind fun v4 h4 =>
(js_bind fun v5 h5 =>
(js_set (fz := []) (e := (dL (dT2 dI dI))) (JE.w (l2 := .full) (a2 := false) (v2 := false) (je_call (ja_cons (je_ix (d := ((dL (dKI dI)) x_mates_here)) (d2 := (dI (0 : Int))) (jn_v (i := 2) rfl) jc (x_l (e := (dKI dI)) h4)) ja_nil) (p_law_pairs_ok v4 v5 h5))) rfl fun x_one =>
(js_bind fun v6 h6 =>
(js_bind fun v7 h7 =>
(js_set (fz := []) (e := (dL (dT2 dI dI))) (JE.w (l2 := .full) (a2 := false) (v2 := false) (je_call (ja_cons (je_ix (d := ((dL (dKI dI)) x_mates_here)) (d2 := (dI (1 : Int))) (jn_v (i := 2) rfl) jc (x_l (e := (dKI dI)) h6)) ja_nil) (p_law_pairs_ok v6 v7 h7))) rfl fun x_other =>
(js_bind fun v8 h8 =>
(js_ifJ (C := fun (s9 : (List (Int × Int))) => [none, some ⟨dI x_many_here, .a, true⟩, none, some ⟨(dL (dT2 dI dI)) x_one, .f, false⟩, some ⟨(dL (dT2 dI dI)) s9, .f, false⟩, none, none, none, none, none, none]) (jt_cmp (d := (dI (v8 % (9 : Int)))) (d2 := (dI (4 : Int))) (je_modL (je_callI (ja_cons (jn_i (i := 0) rfl (imm_flI x_script)) (ja_cons jc ja_nil)) (p_law_cell_at_ok x_script (1 : Int) v8 h8) rfl) jc) jc (q_eq ek_int (v8 % (9 : Int)) (4 : Int))) (js_last (js_set (fz := []) (e := (dL (dT2 dI dI))) (JE.w (l2 := .full) (a2 := false) (v2 := false) (je_lst ja_nil)) rfl fun x_other_2 =>
(js_endJ (s := x_other_2) (.no (.so rfl rfl (.no (.so rfl rfl (.so rfl rfl (.no (.no (.no (.no (.no (.no .nil)))))))))))))) (js_endJ (s := x_other) (.no (.so rfl rfl (.no (.so rfl rfl (.so rfl rfl (.no (.no (.no (.no (.no (.no .nil)))))))))))) fun s9 =>
(js_set (fz := []) (e := (dL (dL (dT2 dI dI)))) (JE.w (l2 := .full) (a2 := false) (v2 := false) (je_lst (ja_cons (je_biI (ja_cons (jn_v (i := 3) rfl) ja_nil) (b_list (e := (dT2 dI dI)) _) (.inr ⟨whole_map (fun _ => rfl), rfl⟩)) (ja_cons (je_biI (ja_cons (jn_v (i := 4) rfl) ja_nil) (b_list (e := (dT2 dI dI)) _) (.inr ⟨whole_map (fun _ => rfl), rfl⟩)) ja_nil)))) rfl fun x_handed =>
(js_bind fun v10 h10 =>
(js_bind fun v11 h11 =>
(js_bind fun v12 h12 =>
(js_set (fz := []) (e := (dL (dL (dT2 dI dI)))) (JE.w (l2 := .top) (a2 := false) (v2 := false) (je_call (ja_cons (je_ix (d := ((dL (dL (dT2 dI dI))) x_handed)) (d2 := (dI (0 : Int))) (jn_v (i := 5) rfl) jc (x_l (e := (dL (dT2 dI dI))) h10)) (ja_cons (je_ix (d := ((dL (dL (dT2 dI dI))) x_handed)) (d2 := (dI (1 : Int))) (jn_v (i := 5) rfl) jc (x_l (e := (dL (dT2 dI dI))) h11)) ja_nil)) (p_steps_ok v10 v11 v12 h12))) rfl fun x_found =>
(js_bind fun v13 h13 =>
(js_bind fun v14 h14 =>
(js_set (fz := []) (e := (dL (dL (dT2 dI dI)))) (JE.w (l2 := .full) (a2 := false) (v2 := false) (je_call (ja_cons (JE.w (l2 := .full) (a2 := false) (v2 := false) (je_call (ja_cons (jn_v (i := 3) rfl) (ja_cons (jn_v (i := 4) rfl) ja_nil)) (p_law_unlike_ok x_one s9 v13 h13))) ja_nil) (p_law_heaps_ok v13 v14 h14))) rfl fun x_heaps_here =>
(js_fz (z := [3, 4]) (js_if (jt_or (jt_cmp (d := ((dL (dL (dT2 dI dI))) x_handed)) (d2 := ((dL (dL (dT2 dI dI))) ([x_one, s9]))) (jn_v (i := 5) rfl) (JE.w (l2 := .top) (a2 := false) (v2 := false) (je_lst (ja_cons (jn_s (i := 3) rfl) (ja_cons (jn_s (i := 4) rfl) ja_nil)))) (q_ne (ek_list (ek_list (ek_t2 ek_int ek_int))) x_handed ([x_one, s9]))) (jt_or (jt_not (jt_val (je_isi (d := ((dL (dL (dT2 dI dI))) x_found)) (jn_v (i := 6) rfl) rfl kb_list_list))) (jt_cmp (d := (dI (x_found.length : Int))) (d2 := (dI ((x_heaps_here.length : Int) + (1 : Int)))) (je_len (d := ((dL (dL (dT2 dI dI))) x_found)) (jn_v (i := 6) rfl) (n_l _)) (je_add (je_len (d := ((dL (dL (dT2 dI dI))) x_heaps_here)) (jn_v (i := 7) rfl) (n_l _)) jc) (q_ne ek_int (x_found.length : Int) ((x_heaps_here.length : Int) + (1 : Int)))))) (js_le [none, some ⟨dI x_many_here, .a, true⟩, none, some ⟨(dL (dT2 dI dI)) x_one, .s, false⟩, some ⟨(dL (dT2 dI dI)) s9, .s, false⟩, some ⟨(dL (dL (dT2 dI dI))) x_handed, .f, false⟩, some ⟨(dL (dL (dT2 dI dI))) x_found, .t, false⟩, some ⟨(dL (dL (dT2 dI dI))) x_heaps_here, .f, false⟩, none, none, none] (.no (.so rfl rfl (.no (.so rfl rfl (.so rfl rfl (.so rfl rfl (.so rfl rfl (.so rfl rfl (.no (.no (.no .nil))))))))))) (js_ret (q := (fun r => r)) (er := dB) (x := false) (l := .full) ret_R jc)) (js_nil (js_bind fun v17 h17 =>
(js_bind fun v21 h21 =>
(js_if (jt_orO (jt_not (jt_val (je_biI (ja_cons (je_bor 6 (JE.w (l2 := .full) (a2 := false) (v2 := false) (je_lcM (e := (dL (dT2 dI dI))) (e2 := dB) (jit_lW (e := (dL (dT2 dI dI))) (jn_s (i := 6) rfl)) (fun _ => rfl) (fun y15 => (jto_p jt_yes)) (fun y15 => (jeo_b fun v16 h16 => (jeo_p (je_callI (ja_cons (jn_s (i := 10) rfl) ja_nil) (p_law_choice_ok y15 v16 h16) rfl)))) h17))) ja_nil) (b_all _) (.inl rfl)))) (jto_b fun v18 h18 => (jto_b fun v20 h20 => (jto_p (jt_orO (jt_cmp (d := ((dL (dT2 dI dI)) v18)) (d2 := ((dL (dT2 dI dI)) x_one)) (je_ix (d := ((dL (dL (dT2 dI dI))) x_found)) (d2 := (dI (0 : Int))) (jn_v (i := 6) rfl) jc (x_l (e := (dL (dT2 dI dI))) h18)) (jn_s (i := 3) rfl) (q_ne (ek_list (ek_t2 ek_int ek_int)) v18 x_one)) (jto_b fun v19 h19 => (jto_p (jt_cmp (d := ((dL (dT2 dI dI)) v19)) (d2 := ((dL (dT2 dI dI)) s9)) (je_ix (d := ((dL (dL (dT2 dI dI))) x_found)) (d2 := (dI (-(1 : Int)))) (jn_v (i := 6) rfl) (je_neg jc) (x_l (e := (dL (dT2 dI dI))) h19)) (jn_s (i := 4) rfl) (q_ne (ek_list (ek_t2 ek_int ek_int)) v19 s9)))) h20)))) h21) (js_ret (q := (fun r => r)) (er := dB) (x := false) (l := .full) ret_R jc) (js_nil (js_bind fun v22 h22 =>
(js_forC (fz := []) (e := dI) (C := K_law_L1 x_many_here x_one s9 x_handed x_found) (er := dB) (lr := .full) (ra := false) (q := (fun r => r)) ret_R (jit_r1 (je_sub (je_len (d := ((dL (dL (dT2 dI dI))) x_found)) (jn_v (i := 6) rfl) (n_l _)) jc) h22) (.no (.so rfl rfl (.no (.so rfl rfl (.so rfl rfl (.so rfl rfl (.so rfl rfl (.so rfl rfl (.no (.no (.no .nil))))))))))) (fun _ _ => rfl) (fun x26 s26 => p_law_L1_ok x_many_here x_one s9 x_handed x_found x26 s26) (fun s26 =>
(js_le [none, some ⟨dI x_many_here, .a, true⟩, none, some ⟨(dL (dT2 dI dI)) x_one, .s, false⟩, some ⟨(dL (dT2 dI dI)) s9, .s, false⟩, some ⟨(dL (dL (dT2 dI dI))) x_handed, .f, false⟩, some ⟨(dL (dL (dT2 dI dI))) x_found, .t, false⟩, some ⟨(dL (dL (dT2 dI dI))) s26, .f, false⟩, none, none, none] (.no (.so rfl rfl (.no (.so rfl rfl (.so rfl rfl (.so rfl rfl (.so rfl rfl (.so rfl rfl (.no (.no (.no .nil))))))))))) (js_bind fun v27 h27 =>
(js_appP (fz := []) (e := (dT2 dI dI)) (W := (fun w28 => (dL (dL (dT2 dI dI))) (setI x_handed (0 : Int) w28))) (jp_ix (e := (dL (dT2 dI dI))) (jp_name (i := 5) rfl) jc h27) (JE.w (l2 := .full) (a2 := false) (v2 := false) (je_tup (ja_cons (jn_i (i := 1) rfl rfl) (ja_cons (je_add (jn_i (i := 1) rfl rfl) jc) ja_nil)))) (fun ys _ => congrArg (fun z => z) (upd_ix (e := (dL (dT2 dI dI))) (ix_some h27))) fun w28 =>
(js_bind fun v29 h29 =>
(js_appP (fz := []) (e := (dT2 dI dI)) (W := (fun w30 => (dL (dL (dT2 dI dI))) (setI (setI x_handed (0 : Int) w28) (1 : Int) w30))) (jp_ix (e := (dL (dT2 dI dI))) (jp_name (i := 5) rfl) jc h29) (JE.w (l2 := .full) (a2 := false) (v2 := false) (je_tup (ja_cons (jn_i (i := 1) rfl rfl) (ja_cons (je_add (jn_i (i := 1) rfl rfl) jc) ja_nil)))) (fun ys _ => congrArg (fun z => z) (upd_ix (e := (dL (dT2 dI dI))) (ix_some h29))) fun w30 =>
(js_last (js_bind fun v31 h31 =>
(js_bind fun v33 h33 =>
(js_ret (q := (fun r => r)) (er := dB) (x := v33) (l := .full) ret_R (je_andO (je_cmp (d := ((dL (dT2 dI dI)) v31)) (d2 := ((dL (dT2 dI dI)) x_one)) (je_ix (d := ((dL (dL (dT2 dI dI))) x_found)) (d2 := (dI (0 : Int))) (jn_v (i := 6) rfl) jc (x_l (e := (dL (dT2 dI dI))) h31)) (jn_s (i := 3) rfl) (q_eq (ek_list (ek_t2 ek_int ek_int)) v31 x_one)) (jeo_b fun v32 h32 => (jeo_p (je_cmp (d := ((dL (dT2 dI dI)) v32)) (d2 := ((dL (dT2 dI dI)) s9)) (je_ix (d := ((dL (dL (dT2 dI dI))) x_found)) (d2 := (dI (-(1 : Int)))) (jn_v (i := 6) rfl) (je_neg jc) (x_l (e := (dL (dT2 dI dI))) h32)) (jn_s (i := 4) rfl) (q_eq (ek_list (ek_t2 ek_int ek_int)) v32 s9)))) h33)))))))))))))))))))))))))))))))))))))))))) h (Nat.le_of_ble_eq_true rfl)
end
end Pr
set_option Elab.async false
set_option linter.all false
set_option maxRecDepth 100000
set_option maxHeartbeats 4000000
namespace Pr
open PySem PySem.Spec L2 Ev Tg
open PyProof.Rows hiding St
noncomputable section
def topS (i : Nat) : Stmt := PySem.Challenge.pw_pairsheath_k81_steps_between_choices.main.body.getD i (.Pass ⟨0, 0, 0, 0⟩)
abbrev s_tie_of : Stmt := topS 1
abbrev N_tie_of : List Str := ["a", "b"]
theorem sc_tie_of : FnScope N_tie_of ["a", "b"] (defScope s_tie_of) := ⟨rfl, rfl, rfl, by decide +kernel, rfl, by decide +kernel, by decide +kernel⟩
theorem ok_tie_of {P : Program} {w : World} {K : PySem.W.Frag} {mg : Str → Option Value} {base : Heap} {f : Addr} {fd : FuncData} (F : Fun K "tie_of" "tie_of" s_tie_of f fd) (hB : Blts mg)  : FnOk P w K mg base CX0 1 f fd ["a", "b"] (spD K 2 R_tie_of) := by
  refine def_ok (k := 0) F sc_tie_of fun cdv A outer s H E hr => ?_
  have hu := hu_room hr
  have nd := sc_tie_of.nd
  exact (s_one (s_ret (e_tup (a_cons (e_bi (k_min2 rfl) hB.min PyProof.Rows.boot_min (a_cons (e_name 0) (a_cons (e_name 1) a_nil))) (a_cons (e_bi (k_max2 rfl) hB.max PyProof.Rows.boot_max (a_cons (e_name 0) (a_cons (e_name 1) a_nil))) a_nil)))))
abbrev s_led_from : Stmt := topS 5
abbrev N_led_from : List Str := ["start", "beside", "found", "onward", "b"]
theorem sc_led_from : FnScope N_led_from ["start", "beside"] (defScope s_led_from) := ⟨rfl, rfl, rfl, by decide +kernel, rfl, by decide +kernel, by decide +kernel⟩
theorem ok_led_from {P : Program} {w : World} {K : PySem.W.Frag} {mg : Str → Option Value} {base : Heap} {f : Addr} {fd : FuncData} (F : Fun K "led_from" "led_from" s_led_from f fd) (hB : Blts mg)  : FnOk P w K mg base CX0 1 f fd ["start", "beside"] (spD K 2 R_led_from) := by
  refine def_ok (k := 0) F sc_led_from fun cdv A outer s H E hr => ?_
  have hu := hu_room hr
  have nd := sc_led_from.nd
  exact (s_cons (s_set [] 2 (e_lst (a_cons (e_name 0) a_nil)) nd) (s_cons (s_set [] 3 (x_ix hu (e_name 1) (e_name 0)) nd) (s_cons (s_while (t_cmp (x_ne hu) (e_name 3) (e_lst a_nil)) (s_cons (s_lop [] 2 l_app PySem.F.slot_list_append PySem.F.type_list_append (a_cons (x_ix hu (e_name 3) e_int) a_nil)) (s_one (s_setLc 3 [("b", 4)] rfl nd (i_lstV (x_ix hu (e_name 1) (x_ix hu (e_name 3) e_int))) (blkOk_by (N := N_led_from) (sc := defScope s_led_from) (by decide +kernel)) (fun _ _ _ _ _ => (g_name 4 nd)) (fun _ _ _ _ _ => (ts_one (t_cmp (x_nin hu) (e_name 4) (e_name 2)))) (fun _ _ _ _ _ => (e_name 4)) (sw_true rfl rfl rfl (by decide +kernel)))))) (s_one (s_retv 2)))))
abbrev s_law_cell_at : Stmt := topS 11
abbrev N_law_cell_at : List Str := ["_law_script", "_law_k"]
theorem sc_law_cell_at : FnScope N_law_cell_at ["_law_script", "_law_k"] (defScope s_law_cell_at) := ⟨rfl, rfl, rfl, by decide +kernel, rfl, by decide +kernel, by decide +kernel⟩
theorem ok_law_cell_at {P : Program} {w : World} {K : PySem.W.Frag} {mg : Str → Option Value} {base : Heap} {f : Addr} {fd : FuncData} (F : Fun K "_law_cell_at" "_law_cell_at" s_law_cell_at f fd) (hB : Blts mg)  : FnOk P w K mg base CX0 1 f fd ["_law_script", "_law_k"] (spD K 2 R_law_cell_at) := by
  refine def_ok (k := 0) F sc_law_cell_at fun cdv A outer s H E hr => ?_
  have hu := hu_room hr
  have nd := sc_law_cell_at.nd
  exact (s_cons (s_if (t_cmp (x_lt hu) (e_name 1) (e_len hB.len (a_cons (e_name 0) a_nil))) (s_one (s_ret (x_ix hu (e_name 0) (e_name 1)))) s_nil) (s_one (s_ret e_int)))
abbrev s_law_whole : Stmt := topS 12
abbrev N_law_whole : List Str := ["_law_found"]
theorem sc_law_whole : FnScope N_law_whole ["_law_found"] (defScope s_law_whole) := ⟨rfl, rfl, rfl, by decide +kernel, rfl, by decide +kernel, by decide +kernel⟩
theorem ok_law_whole {P : Program} {w : World} {K : PySem.W.Frag} {mg : Str → Option Value} {base : Heap} {f : Addr} {fd : FuncData} (F : Fun K "_law_whole" "_law_whole" s_law_whole f fd) (hB : Blts mg)  : FnOk P w K mg base CX0 1 f fd ["_law_found"] (spD K 1 R_law_whole) := by
  refine def_ok (k := 0) F sc_law_whole fun cdv A outer s H E hr => ?_
  have hu := hu_room hr
  have nd := sc_law_whole.nd
  exact (s_one (s_ret (e_and (e_isi "int" hB.isinstance hB.int PyProof.Rows.boot_int (e_name 0)) (e_one _ (e_not (e_isi "bool" hB.isinstance hB.bool bt_bool (e_name 0)))))))
abbrev s_law_many : Stmt := topS 13
abbrev N_law_many : List Str := ["_law_cell"]
theorem sc_law_many : FnScope N_law_many ["_law_cell"] (defScope s_law_many) := ⟨rfl, rfl, rfl, by decide +kernel, rfl, by decide +kernel, by decide +kernel⟩
theorem ok_law_many {P : Program} {w : World} {K : PySem.W.Frag} {mg : Str → Option Value} {base : Heap} {f : Addr} {fd : FuncData} (F : Fun K "_law_many" "_law_many" s_law_many f fd) (hB : Blts mg)  : FnOk P w K mg base CX0 1 f fd ["_law_cell"] (spD K 1 R_law_many) := by
  refine def_ok (k := 0) F sc_law_many fun cdv A outer s H E hr => ?_
  have hu := hu_room hr
  have nd := sc_law_many.nd
  exact (s_cons (s_if (t_cmp (x_eq hu) (e_mod (e_name 0) e_int) e_int) (s_one (s_ret (e_mod (e_div (e_name 0) e_int) e_int))) s_nil) (s_one (s_ret (e_mod (e_div (e_name 0) e_int) e_int))))
abbrev s_law_mates : Stmt := topS 14
abbrev N_law_mates : List Str := ["_law_script", "_law_many_here", "_law_mates_here", "_law_k", "_law_cell", "_law_a", "_law_b", "_law_sides", "_law_side", "_law_mate"]
theorem sc_law_mates : FnScope N_law_mates ["_law_script", "_law_many_here"] (defScope s_law_mates) := ⟨rfl, rfl, rfl, by decide +kernel, rfl, by decide +kernel, by decide +kernel⟩
theorem ok_law_mates {P : Program} {w : World} {K : PySem.W.Frag} {mg : Str → Option Value} {base : Heap} {f : Addr} {fd : FuncData} (F : Fun K "_law_mates" "_law_mates" s_law_mates f fd) (hB : Blts mg)  : FnOk P w K mg base CX0 1 f fd ["_law_script", "_law_many_here"] (spD K 2 R_law_mates) := by
  refine def_ok (k := 0) F sc_law_mates fun cdv A outer s H E hr => ?_
  have hu := hu_room hr
  have nd := sc_law_mates.nd
  exact (s_cons (s_set [] 2 (e_lst (a_cons e_dict (a_cons e_dict a_nil))) nd) (s_cons (s_if (t_cmp (x_eq hu) (e_name 1) e_int) (s_one (s_retv 2)) s_nil) (s_cons (s_for [] rfl (i_range1 hB.range (a_cons (e_len hB.len (a_cons (e_sl (e_name 0) (o_some e_int) (o_some e_int)) a_nil)) a_nil) len1) (g_name 3 nd) (s_cons (s_set [] 4 (x_ix hu (e_name 0) (e_plus e_int (e_name 3))) nd) (s_cons (s_set [] 5 (e_mod (e_name 4) (e_name 1)) nd) (s_cons (s_set [] 6 (e_mod (e_div (e_name 4) (e_name 1)) (e_name 1)) nd) (s_cons (s_set [] 7 (e_lst (a_cons (e_mod (e_name 3) e_int) a_nil)) nd) (s_cons (s_if (t_cmp (x_eq hu) (e_mod (e_div (e_div (e_name 4) (e_name 1)) (e_name 1)) e_int) e_int) (s_one (s_set [] 7 (e_lst (a_cons e_int (a_cons e_int a_nil))) nd)) s_nil) (s_one (s_forH rfl (p_name 7) (g_name 8 nd) (s_bor 9 (p_ix hu (p_name 2) (e_name 8)) (s_one (s_if (t_bool (t_and (t_cmp (x_ne hu) (e_name 5) (e_name 6)) (t_and (t_cmp (x_nin hu) (e_name 5) (e_name 9)) (t_and1 (t_cmp (x_nin hu) (e_name 6) (e_name 9)))))) (s_cons (s_putp [] hu (p_name 9) (e_name 5) (e_name 6)) (s_one (s_putp [] hu (p_name 9) (e_name 6) (e_name 5)))) s_nil)) nd))))))))) (s_one (s_retv 2)))))
abbrev s_law_pairs : Stmt := topS 15
abbrev N_law_pairs : List Str := ["_law_mate", "_law_a", "_law_b"]
theorem sc_law_pairs : FnScope N_law_pairs ["_law_mate"] (defScope s_law_pairs) := ⟨rfl, rfl, rfl, by decide +kernel, rfl, by decide +kernel, by decide +kernel⟩
theorem ok_law_pairs {P : Program} {w : World} {K : PySem.W.Frag} {mg : Str → Option Value} {base : Heap} {f : Addr} {fd : FuncData} (F : Fun K "_law_pairs" "_law_pairs" s_law_pairs f fd) (hB : Blts mg)  : FnOk P w K mg base CX0 1 f fd ["_law_mate"] (spD K 1 R_law_pairs) := by
  refine def_ok (k := 0) F sc_law_pairs fun cdv A outer s H E hr => ?_
  have hu := hu_room hr
  have nd := sc_law_pairs.nd
  exact (s_one (s_ret (e_bi (k_sorted rfl) hB.sorted PyProof.Rows.boot_sorted (a_cons (e_lcDK [("_law_a", 1), ("_law_b", 2)] rfl nd (dp_name 0) (blkOk_by (N := N_law_pairs) (sc := defScope s_law_pairs) (by decide +kernel)) (fun _ _ _ _ _ => (g_tup rfl (gs_cons (g_name 1 nd) (gs_cons (g_name 2 nd) gs_nil)))) (fun _ _ _ _ _ => (ts_one (t_cmp (x_lt hu) (e_name 1) (e_name 2)))) (fun _ _ _ _ _ => (e_tup (a_cons (e_name 1) (a_cons (e_name 2) a_nil))))) a_nil))))
abbrev s_law_unlike : Stmt := topS 17
abbrev N_law_unlike : List Str := ["_law_one", "_law_other", "_law_found", "_law_pair"]
theorem sc_law_unlike : FnScope N_law_unlike ["_law_one", "_law_other"] (defScope s_law_unlike) := ⟨rfl, rfl, rfl, by decide +kernel, rfl, by decide +kernel, by decide +kernel⟩
theorem ok_law_unlike {P : Program} {w : World} {K : PySem.W.Frag} {mg : Str → Option Value} {base : Heap} {f : Addr} {fd : FuncData} (F : Fun K "_law_unlike" "_law_unlike" s_law_unlike f fd) (hB : Blts mg)  : FnOk P w K mg base CX0 1 f fd ["_law_one", "_law_other"] (spD K 2 R_law_unlike) := by
  refine def_ok (k := 0) F sc_law_unlike fun cdv A outer s H E hr => ?_
  have hu := hu_room hr
  have nd := sc_law_unlike.nd
  exact (s_cons (s_setLc 2 [("_law_pair", 3)] rfl nd (i_lstV (e_name 0)) (blkOk_by (N := N_law_unlike) (sc := defScope s_law_unlike) (by decide +kernel)) (fun _ _ _ _ _ => (g_name 3 nd)) (fun _ _ _ _ _ => (ts_one (t_cmp (x_nin hu) (e_name 3) (e_name 1)))) (fun _ _ _ _ _ => (e_name 3)) (sw_true rfl rfl rfl (by decide +kernel))) (s_one (s_ret (e_bi (k_sorted rfl) hB.sorted PyProof.Rows.boot_sorted (a_cons (e_plus (e_name 2) (e_lc [("_law_pair", 3)] rfl nd (i_lstV (e_name 1)) (blkOk_by (N := N_law_unlike) (sc := defScope s_law_unlike) (by decide +kernel)) (fun _ _ _ _ _ => (g_name 3 nd)) (fun _ _ _ _ _ => (ts_one (t_cmp (x_nin hu) (e_name 3) (e_name 0)))) (fun _ _ _ _ _ => (e_name 3)))) a_nil)))))
abbrev s_law_heaps : Stmt := topS 18
abbrev N_law_heaps : List Str := ["_law_ties", "_law_heaps_here", "_law_rest", "_law_heap", "_law_k", "_law_near", "_law_tie"]
theorem sc_law_heaps : FnScope N_law_heaps ["_law_ties"] (defScope s_law_heaps) := ⟨rfl, rfl, rfl, by decide +kernel, rfl, by decide +kernel, by decide +kernel⟩
theorem ok_law_heaps {P : Program} {w : World} {K : PySem.W.Frag} {mg : Str → Option Value} {base : Heap} {f : Addr} {fd : FuncData} (F : Fun K "_law_heaps" "_law_heaps" s_law_heaps f fd) (hB : Blts mg)  : FnOk P w K mg base CX0 1 f fd ["_law_ties"] (spD K 1 R_law_heaps) := by
  refine def_ok (k := 0) F sc_law_heaps fun cdv A outer s H E hr => ?_
  have hu := hu_room hr
  have nd := sc_law_heaps.nd
  exact (s_cons (s_set [] 1 (e_lst a_nil) nd) (s_cons (s_set [] 2 (e_ty (k_list) hB.list PyProof.Rows.boot_list (a_cons (e_name 0) a_nil)) nd) (s_cons (s_while (t_cmp (x_ne hu) (e_name 2) (e_lst a_nil)) (s_cons (s_setX 3 (x_lst1 (x_popA 2 e_int)) nd) (s_cons (s_set [] 4 e_int nd) (s_cons (s_while (t_cmp (x_lt hu) (e_name 4) (e_len hB.len (a_cons (e_name 3) a_nil))) (s_cons (s_set [] 5 (e_lc [("_law_tie", 6)] rfl nd (i_lstV (e_name 2)) (blkOk_by (N := N_law_heaps) (sc := defScope s_law_heaps) (by decide +kernel)) (fun _ _ _ _ _ => (g_name 6 nd)) (fun _ _ _ _ _ => (ts_one (t_bool (t_or (t_cmp (x_in hu) (x_ix hu (x_ix hu (e_name 3) (e_name 4)) e_int) (e_name 6)) (t_or1 (t_cmp (x_in hu) (x_ix hu (x_ix hu (e_name 3) (e_name 4)) e_int) (e_name 6))))))) (fun _ _ _ _ _ => (e_name 6))) nd) (s_cons (s_setLc 2 [("_law_tie", 6)] rfl nd (i_lstV (e_name 2)) (blkOk_by (N := N_law_heaps) (sc := defScope s_law_heaps) (by decide +kernel)) (fun _ _ _ _ _ => (g_name 6 nd)) (fun _ _ _ _ _ => (ts_one (t_cmp (x_nin hu) (e_name 6) (e_name 5)))) (fun _ _ _ _ _ => (e_name 6)) (sw_true rfl rfl rfl (by decide +kernel))) (s_cons (s_extI 3 (e_name 5)) (s_one (s_aadd 4 e_int nd)))))) (s_one (s_lop [] 1 l_app PySem.F.slot_list_append PySem.F.type_list_append (a_cons (e_bi (k_sorted rfl) hB.sorted PyProof.Rows.boot_sorted (a_cons (e_name 3) a_nil)) a_nil))))))) (s_one (s_retv 1)))))
abbrev s_ties_along : Stmt := topS 2
abbrev N_ties_along : List Str := ["points", "a", "b"]
theorem sc_ties_along : FnScope N_ties_along ["points"] (defScope s_ties_along) := ⟨rfl, rfl, rfl, by decide +kernel, rfl, by decide +kernel, by decide +kernel⟩
theorem ok_ties_along {P : Program} {w : World} {K : PySem.W.Frag} {mg : Str → Option Value} {base : Heap} {f : Addr} {fd : FuncData} (F : Fun K "ties_along" "ties_along" s_ties_along f fd) (hB : Blts mg) (G_tie_of : FnD P w K mg base 1 "tie_of" 2 R_tie_of) : FnOk P w K mg base CX0 2 f fd ["points"] (spD K 1 R_ties_along) := by
  refine def_ok (k := 1) F sc_ties_along fun cdv A outer s H E hr => ?_
  have hu := hu_room hr
  have nd := sc_ties_along.nd
  exact (s_one (s_ret (e_lc [("a", 1), ("b", 2)] rfl nd (pis (i_zip hB.zip (a_cons (e_name 0) (a_cons (e_sl (e_name 0) (o_some e_int) o_none) a_nil)))) (blkOk_by (N := N_ties_along) (sc := defScope s_ties_along) (by decide +kernel)) (fun _ _ _ _ _ => (g_tup rfl (gs_cons (g_name 1 nd) (gs_cons (g_name 2 nd) gs_nil)))) (fun _ _ _ _ _ => ts_nil) (fun _ _ _ _ _ => (e_call G_tie_of (hr.mono (by decide)) (a_cons (e_name 1) (a_cons (e_name 2) a_nil)) (hl := len2))))))
abbrev s_between : Stmt := topS 6
abbrev N_between : List Str := ["one", "other", "beside", "a", "b", "found", "seen", "count", "kind", "start", "points", "tie"]
theorem sc_between : FnScope N_between ["one", "other"] (defScope s_between) := ⟨rfl, rfl, rfl, by decide +kernel, rfl, by decide +kernel, by decide +kernel⟩
theorem ok_between {P : Program} {w : World} {K : PySem.W.Frag} {mg : Str → Option Value} {base : Heap} {f : Addr} {fd : FuncData} (F : Fun K "between" "between" s_between f fd) (hB : Blts mg) (G_led_from : FnD P w K mg base 1 "led_from" 2 R_led_from) : FnOk P w K mg base CX0 2 f fd ["one", "other"] (spD K 2 R_between) := by
  refine def_ok (k := 1) F sc_between fun cdv A outer s H E hr => ?_
  have hu := hu_room hr
  have nd := sc_between.nd
  exact (s_cons (s_set [] 2 e_dict nd) (s_cons (s_for [] rfl (i_lst (e_plus (e_lc [("tie", 11)] rfl nd (i_lstV (e_name 0)) (blkOk_by (N := N_between) (sc := defScope s_between) (by decide +kernel)) (fun _ _ _ _ _ => (g_name 11 nd)) (fun _ _ _ _ _ => (ts_one (t_cmp (x_nin hu) (e_name 11) (e_name 1)))) (fun _ _ _ _ _ => (e_name 11))) (e_lc [("tie", 11)] rfl nd (i_lstV (e_name 1)) (blkOk_by (N := N_between) (sc := defScope s_between) (by decide +kernel)) (fun _ _ _ _ _ => (g_name 11 nd)) (fun _ _ _ _ _ => (ts_one (t_cmp (x_nin hu) (e_name 11) (e_name 0)))) (fun _ _ _ _ _ => (e_name 11))))) (g_tup rfl (gs_cons (g_name 3 nd) (gs_cons (g_name 4 nd) gs_nil))) (s_cons (s_sda 2 4 (e_name 3)) (s_one (s_sda 2 3 (e_name 4))))) (s_cons (s_set [] 5 (e_lst a_nil) nd) (s_cons (s_set [] 6 (e_lst a_nil) nd) (s_cons (s_for [] rfl (i_lst (e_lst (a_cons (e_tup (a_cons e_int (a_cons e_str a_nil))) (a_cons (e_tup (a_cons e_int (a_cons e_str a_nil))) a_nil)))) (g_tup rfl (gs_cons (g_name 7 nd) (gs_cons (g_name 8 nd) gs_nil))) (s_one (s_for [] rfl (i_lst (e_bi (k_sorted rfl) hB.sorted PyProof.Rows.boot_sorted (a_cons (e_name 2) a_nil))) (g_name 9 nd) (s_one (s_if (t_bool (t_and (t_cmp (x_nin hu) (e_name 9) (e_name 6)) (t_and1 (t_cmp (x_eq hu) (e_len hB.len (a_cons (x_ix hu (e_name 2) (e_name 9)) a_nil)) (e_name 7))))) (s_cons (s_set [] 10 (e_call G_led_from (hr.mono (by decide)) (a_cons (e_name 9) (a_cons (e_name 2) a_nil)) (hl := len2)) nd) (s_cons (s_extI 6 (e_name 10)) (s_one (s_appMv 5 10 (e_name 8))))) s_nil))))) (s_one (s_retv 5)))))))
abbrev s_law_choice : Stmt := topS 16
abbrev N_law_choice : List Str := ["_law_pairs_here", "_law_used", "_law_last", "_law_pair", "_law_a", "_law_b"]
theorem sc_law_choice : FnScope N_law_choice ["_law_pairs_here"] (defScope s_law_choice) := ⟨rfl, rfl, rfl, by decide +kernel, rfl, by decide +kernel, by decide +kernel⟩
theorem ok_law_choice {P : Program} {w : World} {K : PySem.W.Frag} {mg : Str → Option Value} {base : Heap} {f : Addr} {fd : FuncData} (F : Fun K "_law_choice" "_law_choice" s_law_choice f fd) (hB : Blts mg) (G_law_whole : FnD P w K mg base 1 "_law_whole" 1 R_law_whole) : FnOk P w K mg base CX0 2 f fd ["_law_pairs_here"] (spD K 1 R_law_choice) := by
  refine def_ok (k := 1) F sc_law_choice fun cdv A outer s H E hr => ?_
  have hu := hu_room hr
  have nd := sc_law_choice.nd
  exact (s_cons (s_if (t_not (t_val (e_isi "list" hB.isinstance hB.list PyProof.Rows.boot_list (e_name 0)))) (s_one (s_ret e_bl)) s_nil) (s_cons (s_set [] 1 e_dict nd) (s_cons (s_set [] 2 (e_tup (a_cons (e_neg e_int) (a_cons (e_neg e_int) a_nil))) nd) (s_cons (s_for [] rfl (i_lst (e_name 0)) (g_name 3 nd) (s_cons (s_if (t_bool (t_or (t_not (t_val (e_isi "tuple" hB.isinstance hB.tuple PyProof.Rows.boot_tuple (e_name 3)))) (t_or1 (t_cmp (x_ne hu) (e_len hB.len (a_cons (e_name 3) a_nil)) e_int)))) (s_one (s_ret e_bl)) s_nil) (s_cons (s_set [] 4 (x_ix hu (e_name 3) e_int) nd) (s_cons (s_set [] 5 (x_ix hu (e_name 3) e_int) nd) (s_cons (s_if (t_bool (t_or (t_not (t_val (e_call G_law_whole (hr.mono (by decide)) (a_cons (e_name 4) a_nil) (hl := len1)))) (t_or (t_not (t_val (e_call G_law_whole (hr.mono (by decide)) (a_cons (e_name 5) a_nil) (hl := len1)))) (t_or (t_cmp (x_ge hu) (e_name 4) (e_name 5)) (t_or (t_cmp (x_in hu) (e_name 4) (e_name 1)) (t_or (t_cmp (x_in hu) (e_name 5) (e_name 1)) (t_or1 (t_cmp (x_le hu) (e_name 3) (e_name 2))))))))) (s_one (s_ret e_bl)) s_nil) (s_cons (s_putp [] hu (p_name 1) (e_name 4) e_bl) (s_cons (s_putp [] hu (p_name 1) (e_name 5) e_bl) (s_one (s_set [] 2 (e_name 3) nd))))))))) (s_one (s_ret e_bl))))))
abbrev s_exchanged : Stmt := topS 3
abbrev N_exchanged : List Str := ["pairs", "row", "ties", "kept", "tie"]
theorem sc_exchanged : FnScope N_exchanged ["pairs", "row"] (defScope s_exchanged) := ⟨rfl, rfl, rfl, by decide +kernel, rfl, by decide +kernel, by decide +kernel⟩
theorem ok_exchanged {P : Program} {w : World} {K : PySem.W.Frag} {mg : Str → Option Value} {base : Heap} {f : Addr} {fd : FuncData} (F : Fun K "exchanged" "exchanged" s_exchanged f fd) (hB : Blts mg) (G_ties_along : FnD P w K mg base 2 "ties_along" 1 R_ties_along) : FnOk P w K mg base CX0 3 f fd ["pairs", "row"] (spD K 2 R_exchanged) := by
  refine def_ok (k := 2) F sc_exchanged fun cdv A outer s H E hr => ?_
  have hu := hu_room hr
  have nd := sc_exchanged.nd
  exact (s_cons (s_set [] 2 (e_call G_ties_along (hr.mono (by decide)) (a_cons (e_name 1) a_nil) (hl := len1)) nd) (s_cons (s_setLc 3 [("tie", 4)] rfl nd (i_lstV (e_name 0)) (blkOk_by (N := N_exchanged) (sc := defScope s_exchanged) (by decide +kernel)) (fun _ _ _ _ _ => (g_name 4 nd)) (fun _ _ _ _ _ => (ts_one (t_cmp (x_nin hu) (e_name 4) (e_name 2)))) (fun _ _ _ _ _ => (e_name 4)) (sw_true rfl rfl rfl (by decide +kernel))) (s_one (s_ret (e_bi (k_sorted rfl) hB.sorted PyProof.Rows.boot_sorted (a_cons (e_plus (e_name 3) (e_lc [("tie", 4)] rfl nd (i_lstV (e_name 2)) (blkOk_by (N := N_exchanged) (sc := defScope s_exchanged) (by decide +kernel)) (fun _ _ _ _ _ => (g_name 4 nd)) (fun _ _ _ _ _ => (ts_one (t_cmp (x_nin hu) (e_name 4) (e_name 0)))) (fun _ _ _ _ _ => (e_name 4)))) a_nil))))))
abbrev s_exchanged_ring : Stmt := topS 4
abbrev N_exchanged_ring : List Str := ["pairs", "ring"]
theorem sc_exchanged_ring : FnScope N_exchanged_ring ["pairs", "ring"] (defScope s_exchanged_ring) := ⟨rfl, rfl, rfl, by decide +kernel, rfl, by decide +kernel, by decide +kernel⟩
theorem ok_exchanged_ring {P : Program} {w : World} {K : PySem.W.Frag} {mg : Str → Option Value} {base : Heap} {f : Addr} {fd : FuncData} (F : Fun K "exchanged_ring" "exchanged_ring" s_exchanged_ring f fd) (hB : Blts mg) (G_exchanged : FnD P w K mg base 3 "exchanged" 2 R_exchanged) : FnOk P w K mg base CX0 4 f fd ["pairs", "ring"] (spD K 2 R_exchanged_ring) := by
  refine def_ok (k := 3) F sc_exchanged_ring fun cdv A outer s H E hr => ?_
  have hu := hu_room hr
  have nd := sc_exchanged_ring.nd
  exact (s_one (s_ret (e_call G_exchanged (hr.mono (by decide)) (a_cons (e_name 0) (a_cons (e_plus (e_name 1) (e_sl (e_name 1) o_none (o_some e_int))) a_nil)) (hl := len2))))
abbrev s_turned_along : Stmt := topS 8
abbrev N_turned_along : List Str := ["pairs", "told", "kind", "points"]
theorem sc_turned_along : FnScope N_turned_along ["pairs", "told"] (defScope s_turned_along) := ⟨rfl, rfl, rfl, by decide +kernel, rfl, by decide +kernel, by decide +kernel⟩
theorem ok_turned_along {P : Program} {w : World} {K : PySem.W.Frag} {mg : Str → Option Value} {base : Heap} {f : Addr} {fd : FuncData} (F : Fun K "turned_along" "turned_along" s_turned_along f fd) (hB : Blts mg) (G_exchanged : FnD P w K mg base 3 "exchanged" 2 R_exchanged) (G_exchanged_ring : FnD P w K mg base 4 "exchanged_ring" 2 R_exchanged_ring) : FnOk P w K mg base CX0 5 f fd ["pairs", "told"] (spD K 2 R_turned_along) := by
  refine def_ok (k := 4) F sc_turned_along fun cdv A outer s H E hr => ?_
  have hu := hu_room hr
  have nd := sc_turned_along.nd
  exact (s_cons (s_asg [] (e_name 1) (g_tup rfl (gs_cons (g_name 2 nd) (gs_cons (g_name 3 nd) gs_nil)))) (s_cons (s_if (t_cmp (x_eq hu) (e_name 2) e_str) (s_one (s_ret (e_call G_exchanged (hr.mono (by decide)) (a_cons (e_name 0) (a_cons (e_name 3) a_nil)) (hl := len2)))) s_nil) (s_one (s_ret (e_call G_exchanged_ring (hr.mono (by decide)) (a_cons (e_name 0) (a_cons (e_name 3) a_nil)) (hl := len2))))))
abbrev s_steps : Stmt := topS 9
abbrev N_steps : List Str := ["one", "other", "pairs", "found", "told"]
theorem sc_steps : FnScope N_steps ["one", "other"] (defScope s_steps) := ⟨rfl, rfl, rfl, by decide +kernel, rfl, by decide +kernel, by decide +kernel⟩
theorem ok_steps {P : Program} {w : World} {K : PySem.W.Frag} {mg : Str → Option Value} {base : Heap} {f : Addr} {fd : FuncData} (F : Fun K "steps" "steps" s_steps f fd) (hB : Blts mg) (G_between : FnD P w K mg base 2 "between" 2 R_between) (G_turned_along : FnD P w K mg base 5 "turned_along" 2 R_turned_along) : FnOk P w K mg base CX0 6 f fd ["one", "other"] (spD K 2 R_steps) := by
  refine def_ok (k := 5) F sc_steps fun cdv A outer s H E hr => ?_
  have hu := hu_room hr
  have nd := sc_steps.nd
  exact (s_cons (s_set [] 2 (e_ty (k_list) hB.list PyProof.Rows.boot_list (a_cons (e_name 0) a_nil)) nd) (s_cons (s_set [2] 3 (e_lst (a_cons (e_name 2) a_nil)) nd) (s_cons (s_for [] rfl (i_lst (e_call G_between (hr.mono (by decide)) (a_cons (e_name 0) (a_cons (e_name 1) a_nil)) (hl := len2))) (g_name 4 nd) (s_cons (s_set [] 2 (e_call G_turned_along (hr.mono (by decide)) (a_cons (e_name 2) (a_cons (e_name 4) a_nil)) (hl := len2)) nd) (s_one (s_lop [2] 3 l_app PySem.F.slot_list_append PySem.F.type_list_append (a_cons (e_name 2) a_nil))))) (s_one (s_retv 3)))))
abbrev s_law : Stmt := topS 19
abbrev N_law : List Str := ["_law_script", "_law_many_here", "_law_mates_here", "_law_one", "_law_other", "_law_handed", "_law_found", "_law_heaps_here", "_law_k", "_law_step", "_law_pairs_here"]
theorem sc_law : FnScope N_law ["_law_script"] (defScope s_law) := ⟨rfl, rfl, rfl, by decide +kernel, rfl, by decide +kernel, by decide +kernel⟩
theorem ok_law {P : Program} {w : World} {K : PySem.W.Frag} {mg : Str → Option Value} {base : Heap} {f : Addr} {fd : FuncData} (F : Fun K "law" "law" s_law f fd) (hB : Blts mg) (G_law_many : FnD P w K mg base 1 "_law_many" 1 R_law_many) (G_law_cell_at : FnD P w K mg base 1 "_law_cell_at" 2 R_law_cell_at) (G_law_mates : FnD P w K mg base 1 "_law_mates" 2 R_law_mates) (G_law_pairs : FnD P w K mg base 1 "_law_pairs" 1 R_law_pairs) (G_steps : FnD P w K mg base 6 "steps" 2 R_steps) (G_law_heaps : FnD P w K mg base 1 "_law_heaps" 1 R_law_heaps) (G_law_unlike : FnD P w K mg base 1 "_law_unlike" 2 R_law_unlike) (G_law_choice : FnD P w K mg base 2 "_law_choice" 1 R_law_choice) : FnOk P w K mg base CX0 7 f fd ["_law_script"] (spD K 1 R_law) := by
  refine def_ok (k := 6) F sc_law fun cdv A outer s H E hr => ?_
  have hu := hu_room hr
  have nd := sc_law.nd
  exact (s_cons (s_set [] 1 (e_call G_law_many (hr.mono (by decide)) (a_cons (e_call G_law_cell_at (hr.mono (by decide)) (a_cons (e_name 0) (a_cons e_int a_nil)) (hl := len2)) a_nil) (hl := len1)) nd) (s_cons (s_set [] 2 (e_call G_law_mates (hr.mono (by decide)) (a_cons (e_name 0) (a_cons (e_name 1) a_nil)) (hl := len2)) nd) (s_cons (s_set [] 3 (e_call G_law_pairs (hr.mono (by decide)) (a_cons (x_ix hu (e_name 2) e_int) a_nil) (hl := len1)) nd) (s_cons (s_set [] 4 (e_call G_law_pairs (hr.mono (by decide)) (a_cons (x_ix hu (e_name 2) e_int) a_nil) (hl := len1)) nd) (s_cons (s_if (t_cmp (x_eq hu) (e_mod (e_call G_law_cell_at (hr.mono (by decide)) (a_cons (e_name 0) (a_cons e_int a_nil)) (hl := len2)) e_int) e_int) (s_one (s_set [] 4 (e_lst a_nil) nd)) s_nil) (s_cons (s_set [] 5 (e_lst (a_cons (e_ty (k_list) hB.list PyProof.Rows.boot_list (a_cons (e_name 3) a_nil)) (a_cons (e_ty (k_list) hB.list PyProof.Rows.boot_list (a_cons (e_name 4) a_nil)) a_nil))) nd) (s_cons (s_set [] 6 (e_call G_steps (hr.mono (by decide)) (a_cons (x_ix hu (e_name 5) e_int) (a_cons (x_ix hu (e_name 5) e_int) a_nil)) (hl := len2)) nd) (s_cons (s_set [] 7 (e_call G_law_heaps (hr.mono (by decide)) (a_cons (e_call G_law_unlike (hr.mono (by decide)) (a_cons (e_name 3) (a_cons (e_name 4) a_nil)) (hl := len2)) a_nil) (hl := len1)) nd) (s_cons (s_fz [3, 4] (s_if (t_bool (t_or (t_cmp (x_ne hu) (e_name 5) (e_lst (a_cons (e_name 3) (a_cons (e_name 4) a_nil)))) (t_or (t_not (t_val (e_isi "list" hB.isinstance hB.list PyProof.Rows.boot_list (e_name 6)))) (t_or1 (t_cmp (x_ne hu) (e_len hB.len (a_cons (e_name 6) a_nil)) (e_plus (e_len hB.len (a_cons (e_name 7) a_nil)) e_int)))))) (s_one (s_ret e_bl)) s_nil)) (s_cons (s_if (t_bool (t_or (t_not (t_val (e_bi (k_all rfl) hB.all PyProof.Rows.boot_all (a_cons (e_bor 6 (e_lc [("_law_pairs_here", 10)] rfl nd (i_lstV (e_name 6)) (blkOk_by (N := N_law) (sc := defScope s_law) (by decide +kernel)) (fun _ _ _ _ _ => (g_name 10 nd)) (fun _ _ _ _ _ => ts_nil) (fun _ _ _ _ _ => (e_call G_law_choice (hr.mono (by decide)) (a_cons (e_name 10) a_nil) (hl := len1))))) a_nil)))) (t_or (t_cmp (x_ne hu) (x_ix hu (e_name 6) e_int) (e_name 3)) (t_or1 (t_cmp (x_ne hu) (x_ix hu (e_name 6) (e_neg e_int)) (e_name 4)))))) (s_one (s_ret e_bl)) s_nil) (s_cons (s_for [] rfl (i_range1 hB.range (a_cons (e_sub (e_len hB.len (a_cons (e_name 6) a_nil)) e_int) a_nil) len1) (g_name 8 nd) (s_cons (s_set [] 9 (e_call G_law_unlike (hr.mono (by decide)) (a_cons (x_ix hu (e_name 6) (e_name 8)) (a_cons (x_ix hu (e_name 6) (e_plus (e_name 8) e_int)) a_nil)) (hl := len2)) nd) (s_cons (s_if (t_cmp (x_nin hu) (e_name 9) (e_name 7)) (s_one (s_ret e_bl)) s_nil) (s_one (s_remI 7 hu (e_name 9)))))) (s_cons (s_appp [] (p_ix hu (p_name 5) e_int) (a_cons (e_tup (a_cons (e_name 1) (a_cons (e_plus (e_name 1) e_int) a_nil))) a_nil)) (s_cons (s_appp [] (p_ix hu (p_name 5) e_int) (a_cons (e_tup (a_cons (e_name 1) (a_cons (e_plus (e_name 1) e_int) a_nil))) a_nil)) (s_one (s_ret (e_and (e_cmp (x_eq hu) (x_ix hu (e_name 6) e_int) (e_name 3)) (e_one _ (e_cmp (x_eq hu) (x_ix hu (e_name 6) (e_neg e_int)) (e_name 4)))))))))))))))))))
end
end Pr
set_option Elab.async false
set_option linter.all false
set_option maxRecDepth 100000
namespace Tg
open PySem PySem.Spec L2 Ev
open PyProof.Rows hiding St
section
variable {α β σ R T κ : Type}
@[simp] theorem letB_eq (x : α) (k : α → β) : letB x k = k x := Eq.trans rfl rfl
@[simp] theorem bindO_s (x : α) (k : α → Option β) : bindO (some x) k = k x := Eq.trans rfl rfl
@[simp] theorem onS_l (s : σ) (k : σ → Option T) (q : R → T) : onS (some (.inl s)) k q = k s := Eq.trans rfl rfl
@[simp] theorem onS_r (r : R) (k : σ → Option T) (q : R → T) : onS (some (.inr r)) k q = some (q r) := Eq.trans rfl rfl
theorem forS_inv {xs : List α} {s0 : σ} {f : α → σ → Option σ} (P : List α → σ → Prop) (h0 : P [] s0)
    (hs : ∀ pre x post s, xs = pre ++ x :: post → P pre s → ∃ s', f x s = some s' ∧ P (pre ++ [x]) s') : ∃ s', forS xs s0 f = some s' ∧ P xs s' := by
  have go : ∀ (post pre : List α) (s : σ), xs = pre ++ post → P pre s → ∃ s', forS post s f = some s' ∧ P xs s' := by
    intro post
    induction post with
    | nil => exact fun pre s e p => ⟨s, rfl, by rw [e, List.append_nil]; exact p⟩
    | cons x post ih =>
      intro pre s e p
      obtain ⟨s1, e1, p1⟩ := hs pre x post s e p
      obtain ⟨s2, e2, p2⟩ := ih (pre ++ [x]) s1 (by rw [e, List.append_assoc]; rfl) p1
      exact ⟨s2, by unfold forS; rw [e1]; exact e2, p2⟩
  exact go xs [] s0 rfl h0
theorem forC_inv {xs : List α} {s0 : σ} {f : α → σ → Option (Ctl σ R)} (P : List α → σ → Prop) (Q : R → Prop) (h0 : P [] s0)
    (hs : ∀ pre x post s, xs = pre ++ x :: post → P pre s → (∃ s', f x s = some (.nx s') ∧ P (pre ++ [x]) s') ∨ ∃ r, f x s = some (.rt r) ∧ Q r) :
    (∃ s', forC xs s0 f = some (.inl s') ∧ P xs s') ∨ ∃ r, forC xs s0 f = some (.inr r) ∧ Q r := by
  have go : ∀ (post pre : List α) (s : σ), xs = pre ++ post → P pre s → (∃ s', forC post s f = some (.inl s') ∧ P xs s') ∨ ∃ r, forC post s f = some (.inr r) ∧ Q r := by
    intro post
    induction post with
    | nil => exact fun pre s e p => .inl ⟨s, rfl, by rw [e, List.append_nil]; exact p⟩
    | cons x post ih =>
      intro pre s e p
      rcases hs pre x post s e p with ⟨s1, e1, p1⟩ | ⟨r, e1, q⟩
      · rcases ih (pre ++ [x]) s1 (by rw [e, List.append_assoc]; rfl) p1 with ⟨s2, e2, p2⟩ | ⟨r, e2, q⟩
        · exact .inl ⟨s2, by unfold forC; rw [e1]; exact e2, p2⟩
        · exact .inr ⟨r, by unfold forC; rw [e1]; exact e2, q⟩
      · exact .inr ⟨r, by unfold forC; rw [e1]; rfl, q⟩
  exact go xs [] s0 rfl h0
theorem forC_nx {xs : List α} {s0 : σ} {f : α → σ → Option (Ctl σ R)} (P : List α → σ → Prop) (h0 : P [] s0)
    (hs : ∀ pre x post s, xs = pre ++ x :: post → P pre s → ∃ s', f x s = some (.nx s') ∧ P (pre ++ [x]) s') : ∃ s', forC xs s0 f = some (.inl s') ∧ P xs s' := by
  rcases forC_inv (R := R) P (fun _ => False) h0 (fun pre x post s e p => .inl (hs pre x post s e p)) with h | ⟨_, _, h⟩
  · exact h
  · exact h.elim
theorem whS_inv {s0 : σ} {c : σ → Option Bool} {f : σ → Option σ} (P : σ → Prop) (m : σ → Nat) {n : Nat} (hn : m s0 < n) (h0 : P s0)
    (hs : ∀ s, P s → c s = some false ∨ c s = some true ∧ ∃ s', f s = some s' ∧ P s' ∧ m s' < m s) : ∃ s', whS n s0 c f = some s' ∧ P s' ∧ c s' = some false := by
  induction n generalizing s0 with
  | zero => omega
  | succ n ih =>
    unfold whS
    rcases hs s0 h0 with h | ⟨h, s1, e1, p1, l1⟩
    · exact ⟨s0, by rw [h]; rfl, h0, h⟩
    · obtain ⟨s2, e2, p2, c2⟩ := ih (s0 := s1) (by omega) p1
      exact ⟨s2, by rw [h]; simp [bindO, e1]; exact e2, p2, c2⟩
theorem fuel_big {n : Nat} (h : n < 1000000) : n < fuel := by unfold fuel; omega
theorem big_e {xs : List α} (h : xs.length ≤ 1000000) : big xs = some xs := if_pos h
theorem appO_e {xs : List α} {x : α} (h : xs.length ≤ 1000000) : appO xs x = some (xs ++ [x]) := if_pos h
theorem catO_e {xs ys : List α} (h : xs.length + ys.length ≤ 1000000) : catO xs ys = some (xs ++ ys) := if_pos h
theorem lcM_e {xs : List α} {p : α → Option Bool} {f : α → Option β} (p' : α → Bool) (f' : α → β) (hp : ∀ x ∈ xs, p x = some (p' x)) (hf : ∀ x ∈ xs, p' x = true → f x = some (f' x)) : lcM xs p f = some ((xs.filter p').map f') := by
  induction xs with
  | nil => rfl
  | cons x xs ih =>
    unfold lcM
    rw [hp x List.mem_cons_self, ih (fun y hy => hp y (List.mem_cons_of_mem _ hy)) fun y hy => hf y (List.mem_cons_of_mem _ hy)]
    cases h : p' x with
    | true => simp [bindO, hf x List.mem_cons_self h, h]
    | false => simp [bindO, h]
theorem lcM_map {xs : List α} {f : α → Option β} (f' : α → β) (hf : ∀ x ∈ xs, f x = some (f' x)) : lcM xs (fun _ => some true) f = some (xs.map f') := by
  rw [lcM_e (fun _ => true) f' (fun _ _ => rfl) fun x hx _ => hf x hx, List.filter_eq_self.mpr (fun _ _ => rfl)]
theorem rng_e {n : Nat} (h : n ≤ 1000000000) : rngO 0 (n : Int) = some ((List.range n).map fun (k : Nat) => (k : Int)) := by
  unfold rngO
  rw [if_pos (by omega)]
  simp
theorem idx_nat (xs : List α) (k : Nat) : idx xs (k : Int) = xs[k]? := by
  unfold idx atI ixN
  by_cases h : k < xs.length
  · rw [if_pos (by omega), if_pos (by omega)]
    simp
  · rw [if_pos (by omega), if_neg (by omega)]
    simp
    omega
theorem idx_lt {xs : List α} {k : Nat} (h : k < xs.length) : idx xs (k : Int) = some xs[k] := by rw [idx_nat, List.getElem?_eq_getElem h]
theorem divW {i j : Int} (h : 0 < j) (h2 : j.natAbs.log2 < 9000) : divO i j = some (i / j) := if_pos ⟨h, h2⟩
theorem modP {i j : Int} (h : 0 < j) : modO i j = some (i % j) := if_pos h
section
variable [DecidableEq κ]
theorem ahas_iff {m : List (κ × α)} {k : κ} : ahas m k = (aget m k).isSome := by
  unfold ahas aget
  rw [Option.isSome_map]
  induction m with
  | nil => rfl
  | cons p m ih =>
    rw [List.any_cons, List.find?_cons]
    by_cases h : p.1 = k <;> simp [h, ih]
theorem aget_put (m : List (κ × α)) (k k' : κ) (v : α) : aget (aput m k v) k' = if k = k' then some v else aget m k' := by
  unfold aput
  by_cases h : ahas m k = true
  · rw [if_pos h]
    have e : ∀ m : List (κ × α), ahas m k = true → aget (m.map fun p => if p.1 = k then (p.1, v) else p) k' = if k = k' then some v else aget m k' := by
      intro m
      induction m with
      | nil => intro h; simp [ahas] at h
      | cons p m ih =>
        intro h
        by_cases hp : p.1 = k
        · by_cases hk : k = k'
          · subst hk
            simp [aget, hp]
          · rw [if_neg hk]
            have hne : ¬ p.1 = k' := fun z => hk (hp.symm.trans z)
            by_cases h2 : ahas m k = true
            · have := ih h2
              rw [if_neg hk] at this
              unfold aget at this ⊢
              rw [List.map_cons, List.find?_cons, List.find?_cons]
              simp only [hp, if_true]
              rw [show decide (k = k') = false from decide_eq_false hk]
              exact this
            · have h3 : m.map (fun p => if p.1 = k then (p.1, v) else p) = m := by
                rw [List.map_congr_left (g := id)]
                · simp
                · intro q hq
                  have : ¬ q.1 = k := fun z => h2 (List.any_eq_true.mpr ⟨q, hq, by simp [z]⟩)
                  simp [this]
              unfold aget
              rw [List.map_cons, h3, List.find?_cons, List.find?_cons]
              simp [hp, hk]
        · have h2 : ahas m k = true := by
            unfold ahas at h ⊢
            rw [List.any_cons] at h
            simpa [hp] using h
          have := ih h2
          unfold aget at this ⊢
          rw [List.map_cons, List.find?_cons, List.find?_cons]
          simp only [hp, if_false]
          by_cases hk : p.1 = k'
          · have : ¬ k = k' := fun z => hp (hk.trans z.symm)
            simp [hk, this]
          · simp only [hk, decide_false]
            exact this
    exact e m h
  · rw [if_neg h]
    have hn : aget m k = none := by
      have := ahas_iff (m := m) (k := k)
      cases e : aget m k with
      | none => rfl
      | some x => rw [e] at this; exact absurd this h
    unfold aget at hn ⊢
    rw [List.find?_append]
    by_cases hk : k = k'
    · subst hk
      rw [if_pos rfl]
      rw [Option.map_eq_none_iff] at hn
      rw [hn]
      simp
    · rw [if_neg hk]
      cases m.find? (fun p => decide (p.1 = k')) with
      | some x => simp
      | none => simp [hk]
theorem ahas_put (m : List (κ × α)) (k k' : κ) (v : α) : ahas (aput m k v) k' = (decide (k = k') || ahas m k') := by
  rw [ahas_iff, aget_put, ahas_iff]
  by_cases h : k = k' <;> simp [h]
theorem aput_len (m : List (κ × α)) (k : κ) (v : α) : (aput m k v).length ≤ m.length + 1 := by
  unfold aput
  split <;> simp
theorem aputO_e {m : List (κ × α)} {k : κ} {v : α} (h : m.length < 1000000) : aputO m k v = some (aput m k v) := if_pos h
theorem aput_new {m : List (κ × α)} {k : κ} {v : α} (h : ahas m k = false) : aput m k v = m ++ [(k, v)] := by
  unfold aput
  rw [if_neg (by rw [h]; exact Bool.false_ne_true)]
@[simp] theorem aget_nil (k : κ) : aget ([] : List (κ × α)) k = none := rfl
@[simp] theorem ahas_nil (k : κ) : ahas ([] : List (κ × α)) k = false := rfl
end
end
theorem minI_eq (i j : Int) : minI i j = min i j := by unfold minI; split <;> omega
theorem maxI_eq (i j : Int) : maxI i j = max i j := by unfold maxI; split <;> omega
theorem swo2 : SrtO.Swo ltP2 := ⟨fun x y h => EvS.lt_asym _ _ h, fun x y z h1 h2 => EvS.lt_neg_trans _ _ _ h2 h1⟩
theorem perm2 (xs : List (Int × Int)) : (sort2 xs).Perm xs := isort_perm xs
theorem permI (xs : List Int) : (sortI xs).Perm xs := isort_perm xs
theorem srt2 (xs : List (Int × Int)) : (sort2 xs).Pairwise fun a b => ltP2 b a = false := isort_srtd swo2 xs
theorem srtI (xs : List Int) : (sortI xs).Pairwise fun a b => a ≤ b := (isort_srtd swo_int xs).imp fun h => by have := of_decide_eq_false h; omega
end Tg
set_option Elab.async false
set_option linter.all false
namespace Tg
open PySem PySem.Spec L2 Ev
open PyProof.Rows hiding St
section
variable {α β σ R T κ : Type}
theorem rng_at {n : Nat} {pre post : List Int} {x : Int} (e : (List.range n).map (fun (k : Nat) => (k : Int)) = pre ++ x :: post) : pre.length < n ∧ x = (pre.length : Int) := by
  have h1 := congrArg List.length e
  simp at h1
  have h2 : ((List.range n).map fun (k : Nat) => (k : Int))[pre.length]? = some x := by rw [e]; simp
  rw [List.getElem?_map, List.getElem?_range (by omega)] at h2
  simp at h2
  exact ⟨by omega, h2.symm⟩
theorem forS_rng {n : Nat} {s0 : σ} {f : Int → σ → Option σ} (P : Nat → σ → Prop) (h0 : P 0 s0)
    (hs : ∀ (k : Nat) s, k < n → P k s → (∃ s', f k s = some s' ∧ P (k + 1) s')) : ∃ s', forS ((List.range n).map fun (k : Nat) => (k : Int)) s0 f = some s' ∧ P n s' := by
  have := forS_inv (xs := (List.range n).map fun (k : Nat) => (k : Int)) (f := f) (fun pre s => P pre.length s) h0 fun pre x post s e p => by
    obtain ⟨hk, hx⟩ := rng_at e
    have := hs pre.length s hk p
    rw [hx, List.length_append]
    exact this
  simpa using this
end
end Tg
set_option Elab.async false
set_option linter.all false
set_option maxRecDepth 100000
namespace Pr
open PySem PySem.Spec L2 Ev Tg
open PyProof.Rows hiding St
theorem aget_cons {κ α : Type} [DecidableEq κ] (p : κ × α) (m : List (κ × α)) (k : κ) : aget (p :: m) k = if p.1 = k then some p.2 else aget m k := by
  unfold aget
  rw [List.find?_cons]
  by_cases h : p.1 = k <;> simp [h]
theorem cutL_len {α : Type} (xs : List α) (lo hi : Option Int) : (cutL xs lo hi).length ≤ xs.length := by
  unfold cutL
  rw [List.length_take, List.length_drop]
  omega
theorem ahas_keys {κ α : Type} [DecidableEq κ] {m : List (κ × α)} {k : κ} : ahas m k = decide (k ∈ m.map (·.1)) := by
  unfold ahas
  rw [Bool.eq_iff_iff, decide_eq_true_eq, List.any_eq_true, List.mem_map]
  constructor
  · rintro ⟨p, h, e⟩; exact ⟨p, h, of_decide_eq_true e⟩
  · rintro ⟨p, h, e⟩; exact ⟨p, h, decide_eq_true e⟩
theorem ahas_key {κ α : Type} [DecidableEq κ] {m : List (κ × α)} {k : κ} : ahas m k = true ↔ k ∈ m.map (·.1) := by rw [ahas_keys, decide_eq_true_eq]
end Pr
set_option Elab.async false
set_option linter.all false
namespace Pr
open PySem PySem.Spec L2 Ev Tg
open PyProof.Rows hiding St
section
variable {α : Type}
theorem cut_to (xs : List α) (k : Nat) : cutL xs none (some (k : Int)) = xs.take k := by
  unfold cutL
  rw [HT.sIx_none, HT.sIx_nat, List.drop_zero]
  by_cases h : k ≤ xs.length
  · rw [show min k xs.length - 0 = k by omega]
  · rw [List.take_of_length_le (by omega), List.take_of_length_le (by omega)]
theorem cut_from (xs : List α) (k : Nat) : cutL xs (some (k : Int)) none = xs.drop k := by
  unfold cutL
  rw [HT.sIx_none, HT.sIx_nat]
  by_cases h : k ≤ xs.length
  · rw [show min k xs.length = k by omega, List.take_of_length_le (by rw [List.length_drop]; omega)]
  · rw [List.drop_eq_nil_of_le (by omega), List.drop_eq_nil_of_le (by omega)]
    simp
theorem cut_mid (xs : List α) (i j : Nat) (h : i ≤ j) : cutL xs (some (i : Int)) (some (j : Int)) = (xs.take j).drop i := by
  unfold cutL
  rw [HT.sIx_nat, HT.sIx_nat, List.drop_take]
  by_cases h1 : i ≤ xs.length
  · rw [show min i xs.length = i by omega]
    by_cases h2 : j ≤ xs.length
    · rw [show min j xs.length = j by omega]
    · rw [List.take_of_length_le (by rw [List.length_drop]; omega), List.take_of_length_le (by rw [List.length_drop]; omega)]
  · rw [List.drop_eq_nil_of_le (by omega), List.drop_eq_nil_of_le (by omega)]
    simp
theorem cut_1 (xs : List α) : cutL xs (some (1 : Int)) none = xs.tail := by
  have := cut_from xs 1
  rw [show ((1 : Nat) : Int) = 1 from rfl] at this
  rw [this, List.drop_one]
theorem cut_t1 (xs : List α) : cutL xs none (some (1 : Int)) = xs.take 1 := cut_to xs 1
theorem idx_last (xs : List α) : idx xs (-(1 : Int)) = xs.getLast? := by
  unfold idx atI ixN
  rw [if_neg (by decide), List.getLast?_eq_getElem?]
  by_cases h : xs = []
  · subst h; rfl
  · have : 0 < xs.length := List.length_pos_iff.mpr h
    rw [if_pos (by omega)]
    simp only [Option.bind_some]
    congr 1
    omega
end
theorem lt2' (p q : Int × Int) : ltP2 p q = true ↔ p.1 < q.1 ∨ p.1 = q.1 ∧ p.2 < q.2 := by
  unfold ltP2
  rw [HT.lexLt_cons, HT.lexLt_cons]
  have : HT.lexLt [] [] = false := rfl
  rw [this]
  by_cases h : p.1 = q.1
  · rw [if_pos h]
    by_cases h2 : p.2 = q.2
    · rw [if_pos h2]; simp; omega
    · rw [if_neg h2]; simp; omega
  · rw [if_neg h]; simp; omega
theorem srt_uniq : ∀ {xs ys : List (Int × Int)}, xs.Pairwise (fun a b => ltP2 b a = false) → ys.Pairwise (fun a b => ltP2 b a = false) → xs.Perm ys → xs = ys
  | [], ys, _, _, p => (List.Perm.nil_eq p)
  | x :: xs, [], _, _, p => absurd p.length_eq (by simp)
  | x :: xs, y :: ys, h1, h2, p => by
    have g1 := List.pairwise_cons.mp h1
    have g2 := List.pairwise_cons.mp h2
    have e : x = y := by
      rcases List.mem_cons.mp (p.mem_iff.mp List.mem_cons_self) with e | m
      · exact e
      · rcases List.mem_cons.mp (p.mem_iff.mpr List.mem_cons_self) with e | m2
        · exact e.symm
        · have a1 := g2.1 x m
          have a2 := g1.1 y m2
          rw [← Bool.not_eq_true, lt2'] at a1 a2
          obtain ⟨x1, x2⟩ := x
          obtain ⟨y1, y2⟩ := y
          simp only at a1 a2
          have : x1 = y1 := by omega
          have : x2 = y2 := by omega
          simp [*]
    subst e
    rw [srt_uniq g1.2 g2.2 (List.Perm.cons_inv p)]
theorem sort2_perm {xs ys : List (Int × Int)} (p : xs.Perm ys) : sort2 xs = sort2 ys := srt_uniq (srt2 xs) (srt2 ys) ((perm2 xs).trans (p.trans (perm2 ys).symm))
theorem sort2_id (xs : List (Int × Int)) : sort2 (sort2 xs) = sort2 xs := sort2_perm (perm2 xs)
end Pr
set_option Elab.async false
set_option linter.all false
set_option maxRecDepth 100000
namespace Pr
open PySem PySem.Spec L2 Ev Tg
open PyProof.Rows hiding St
abbrev Pairs := List (Int × Int)
def mt1 (x : Int) (p : Int × Int) : Option Int := if p.1 = x then some p.2 else if p.2 = x then some p.1 else none
def mate (ps : Pairs) (x : Int) : Option Int := ps.findSome? (mt1 x)
def pts (ps : Pairs) : List Int := ps.flatMap fun p => [p.1, p.2]
structure Mt (ps : Pairs) : Prop where
  lt : ∀ p ∈ ps, p.1 < p.2
  nd : (pts ps).Nodup
theorem pts_app (a b : Pairs) : pts (a ++ b) = pts a ++ pts b := List.flatMap_append
theorem pts_cons (p : Int × Int) (b : Pairs) : pts (p :: b) = p.1 :: p.2 :: pts b := rfl
theorem mem_pts {ps : Pairs} {x : Int} : x ∈ pts ps ↔ ∃ p ∈ ps, x = p.1 ∨ x = p.2 := by
  unfold pts
  simp
theorem mate_some {ps : Pairs} {x y : Int} (h : mate ps x = some y) : (x, y) ∈ ps ∨ (y, x) ∈ ps := by
  unfold mate at h
  obtain ⟨p, hp, e⟩ := List.exists_of_findSome?_eq_some h
  unfold mt1 at e
  split at e
  · rename_i h1; cases e; subst h1; exact .inl hp
  · split at e
    · rename_i h1; cases e; subst h1; exact .inr hp
    · cases e
theorem Mt.nil : Mt [] := ⟨fun _ h => (nomatch h), List.nodup_nil⟩
theorem pts_perm {a b : Pairs} (h : a.Perm b) : (pts a).Perm (pts b) := h.flatMap_right _
theorem Mt.perm {a b : Pairs} (h : a.Perm b) (m : Mt a) : Mt b := ⟨fun p hp => m.lt p (h.mem_iff.mpr hp), (pts_perm h).nodup_iff.mp m.nd⟩
theorem Mt.sub {a b : Pairs} (h : a.Sublist b) (m : Mt b) : Mt a := ⟨fun p hp => m.lt p (h.subset hp), m.nd.sublist (by
  unfold pts
  induction h with
  | slnil => exact .slnil
  | cons a h ih => exact (ih ⟨fun p hp => m.lt p (List.mem_cons_of_mem _ hp), (List.nodup_append.mp m.nd).2.1⟩).trans (List.sublist_append_right _ _)
  | cons_cons a h ih => exact List.Sublist.append (List.Sublist.refl _) (ih ⟨fun p hp => m.lt p (List.mem_cons_of_mem _ hp), (List.nodup_append.mp m.nd).2.1⟩))⟩
theorem mate_iff {ps : Pairs} (m : Mt ps) {x y : Int} : mate ps x = some y ↔ (x, y) ∈ ps ∨ (y, x) ∈ ps := by
  refine ⟨mate_some, fun h => ?_⟩
  induction ps with
  | nil => rcases h with h | h <;> cases h
  | cons p ps ih =>
    obtain ⟨a, b⟩ := p
    have nd := m.nd
    rw [pts_cons] at nd
    simp only [List.nodup_cons, List.mem_cons, not_or] at nd
    obtain ⟨⟨hab, ha⟩, hb, nd'⟩ := nd
    have m' : Mt ps := ⟨fun p hp => m.lt p (List.mem_cons_of_mem _ hp), nd'⟩
    unfold mate
    rw [List.findSome?_cons]
    unfold mt1
    by_cases e1 : a = x
    · rw [if_pos e1]
      subst e1
      simp only [List.mem_cons, Prod.mk.injEq] at h
      rcases h with (⟨_, h⟩ | h) | (⟨h1, h2⟩ | h)
      · rw [h]
      · exact absurd (mem_pts.mpr ⟨_, h, .inl rfl⟩) ha
      · exact absurd h2 hab
      · exact absurd (mem_pts.mpr ⟨_, h, .inr rfl⟩) ha
    · rw [if_neg e1]
      by_cases e2 : b = x
      · rw [if_pos e2]
        subst e2
        simp only [List.mem_cons, Prod.mk.injEq] at h
        rcases h with (⟨h1, _⟩ | h) | (⟨h1, _⟩ | h)
        · exact absurd h1.symm e1
        · exact absurd (mem_pts.mpr ⟨_, h, .inl rfl⟩) hb
        · rw [h1]
        · exact absurd (mem_pts.mpr ⟨_, h, .inr rfl⟩) hb
      · rw [if_neg e2]
        refine ih m' ?_
        simp only [List.mem_cons, Prod.mk.injEq] at h
        rcases h with (⟨h1, _⟩ | h) | (⟨_, h1⟩ | h)
        · exact absurd h1.symm e1
        · exact .inl h
        · exact absurd h1.symm e2
        · exact .inr h
end Pr
set_option Elab.async false
set_option linter.all false
set_option maxRecDepth 100000
namespace Pr
open PySem PySem.Spec L2 Ev Tg
open PyProof.Rows hiding St
abbrev tk (a b : Int) : Int × Int := (min a b, max a b)
theorem tk_comm (a b : Int) : tk a b = tk b a := Prod.ext (by show min a b = min b a; omega) (by show max a b = max b a; omega)
def al : List Int → Pairs
  | a :: b :: r => tk a b :: al (b :: r)
  | _ => []
theorem al_len : ∀ row : List Int, (al row).length = row.length - 1
  | [] => rfl
  | [_] => rfl
  | a :: b :: r => by
    show (al (b :: r)).length + 1 = _
    rw [al_len (b :: r)]
    simp
theorem al_get : ∀ {row : List Int} {k : Nat} {a b : Int}, row[k]? = some a → row[k + 1]? = some b → (al row)[k]? = some (tk a b)
  | [], _, _, _, h, _ => by simp at h
  | [_], 0, _, _, _, h => by simp at h
  | [_], k + 1, _, _, h, _ => by simp at h
  | x :: y :: r, 0, a, b, h, h2 => by
    simp at h h2
    subst h h2
    rfl
  | x :: y :: r, k + 1, a, b, h, h2 => by
    show (tk x y :: al (y :: r))[k + 1]? = _
    rw [List.getElem?_cons_succ]
    exact al_get (row := y :: r) (by simpa using h) (by simpa using h2)
theorem al_at {row : List Int} {k : Nat} {p : Int × Int} (h : (al row)[k]? = some p) : ∃ a b, row[k]? = some a ∧ row[k + 1]? = some b ∧ p = tk a b := by
  have hk := (List.getElem?_eq_some_iff.mp h).1
  rw [al_len] at hk
  have h1 : row[k]? = some row[k] := List.getElem?_eq_getElem (by omega)
  have h2 : row[k + 1]? = some row[k + 1] := List.getElem?_eq_getElem (by omega)
  refine ⟨_, _, h1, h2, ?_⟩
  rw [al_get h1 h2] at h
  exact (Option.some.inj h).symm
theorem al_app : ∀ (xs : List Int) (a b : Int) (ys : List Int), al (xs ++ a :: b :: ys) = al (xs ++ [a]) ++ tk a b :: al (b :: ys)
  | [], a, b, ys => rfl
  | [x], a, b, ys => rfl
  | x :: y :: xs, a, b, ys => by
    show tk x y :: al ((y :: xs) ++ a :: b :: ys) = tk x y :: (al ((y :: xs) ++ [a]) ++ _)
    rw [al_app (y :: xs) a b ys]
theorem al_zip : ∀ row : List Int, (row.zip row.tail).map (fun y => tk y.1 y.2) = al row
  | [] => rfl
  | [_] => rfl
  | a :: b :: r => by
    show tk a b :: ((b :: r).zip (b :: r).tail).map (fun y => tk y.1 y.2) = _
    rw [al_zip (b :: r)]
    rfl
theorem nd_get {α : Type} {xs : List α} (nd : xs.Nodup) {i j : Nat} {x : α} (h1 : xs[i]? = some x) (h2 : xs[j]? = some x) : i = j := by
  obtain ⟨a, b⟩ := List.getElem?_eq_some_iff.mp h1
  obtain ⟨c, d⟩ := List.getElem?_eq_some_iff.mp h2
  rw [List.nodup_iff_pairwise_ne, List.pairwise_iff_getElem] at nd
  rcases Nat.lt_trichotomy i j with h | h | h
  · exact absurd (b.trans d.symm) (nd i j a c h)
  · exact h
  · exact absurd (d.trans b.symm) (nd j i c a h)
theorem al_end {row : List Int} (nd : row.Nodup) {k i : Nat} {p : Int × Int} {x : Int} (h : (al row)[k]? = some p) (hx : row[i]? = some x) (hp : x = p.1 ∨ x = p.2) : i = k ∨ i = k + 1 := by
  obtain ⟨a, b, h1, h2, rfl⟩ := al_at h
  have : x = a ∨ x = b := by
    rcases hp with hp | hp
    · have hp : x = min a b := hp
      omega
    · have hp : x = max a b := hp
      omega
  rcases this with rfl | rfl
  · exact .inl (nd_get nd hx h1)
  · exact .inr (nd_get nd hx h2)
theorem al_mem {row : List Int} {p : Int × Int} (h : p ∈ al row) : p.1 ∈ row ∧ p.2 ∈ row := by
  obtain ⟨k, hk, e⟩ := List.getElem_of_mem h
  obtain ⟨a, b, h1, h2, rfl⟩ := al_at (List.getElem?_eq_some_iff.mpr ⟨hk, e⟩)
  have ha := List.mem_of_getElem? h1
  have hb := List.mem_of_getElem? h2
  constructor
  · show min a b ∈ row
    rcases Int.le_total a b with h | h
    · rw [Int.min_eq_left h]; exact ha
    · rw [Int.min_eq_right h]; exact hb
  · show max a b ∈ row
    rcases Int.le_total a b with h | h
    · rw [Int.max_eq_right h]; exact hb
    · rw [Int.max_eq_left h]; exact ha
theorem al_nd {row : List Int} (nd : row.Nodup) : (al row).Nodup := by
  rw [List.nodup_iff_pairwise_ne, List.pairwise_iff_getElem]
  intro i j hi hj hij e
  have g1 : (al row)[i]? = some (al row)[i] := List.getElem?_eq_getElem hi
  have g2 : (al row)[j]? = some (al row)[i] := by rw [List.getElem?_eq_getElem hj, e]
  obtain ⟨a, b, h1, h2, h3⟩ := al_at g1
  have q1 : a = (tk a b).1 ∨ a = (tk a b).2 := by show a = min a b ∨ a = max a b; omega
  have q2 : b = (tk a b).1 ∨ b = (tk a b).2 := by show b = min a b ∨ b = max a b; omega
  rw [h3] at g2
  have := al_end nd g2 h1 q1
  have := al_end nd g2 h2 q2
  omega
end Pr
set_option Elab.async false
set_option linter.all false
set_option maxRecDepth 100000
namespace Pr
open PySem PySem.Spec L2 Ev Tg
open PyProof.Rows hiding St
def rg (ring : List Int) : Pairs := al (ring ++ ring.take 1)
theorem rg_len {ring : List Int} (h : ring ≠ []) : (rg ring).length = ring.length := by
  have : 0 < ring.length := List.length_pos_iff.mpr h
  unfold rg
  rw [al_len, List.length_append, List.length_take]
  omega
theorem rg_mem {ring : List Int} {p : Int × Int} (h : p ∈ rg ring) : p.1 ∈ ring ∧ p.2 ∈ ring := by
  have h1 := al_mem (row := ring ++ ring.take 1) h
  have : ∀ x, x ∈ ring ++ ring.take 1 → x ∈ ring := fun x hx => (List.mem_append.mp hx).elim id List.mem_of_mem_take
  exact ⟨this _ h1.1, this _ h1.2⟩
theorem rg_at {ring : List Int} {k : Nat} {p : Int × Int} (h : (rg ring)[k]? = some p) : ∃ a b, ring[k]? = some a ∧ ((k + 1 < ring.length ∧ ring[k + 1]? = some b) ∨ (k + 1 = ring.length ∧ ring[0]? = some b)) ∧ p = tk a b := by
  have hne : ring ≠ [] := fun e => by subst e; simp [rg, al] at h
  have hk := (List.getElem?_eq_some_iff.mp h).1
  rw [rg_len hne] at hk
  obtain ⟨a, b, h1, h2, h3⟩ := al_at (row := ring ++ ring.take 1) h
  rw [List.getElem?_append_left hk] at h1
  refine ⟨a, b, h1, ?_, h3⟩
  by_cases hk2 : k + 1 < ring.length
  · rw [List.getElem?_append_left hk2] at h2
    exact .inl ⟨hk2, h2⟩
  · have : k + 1 = ring.length := by omega
    rw [this, List.getElem?_append_right (Nat.le_refl _), Nat.sub_self] at h2
    rw [List.getElem?_take_of_lt (by omega)] at h2
    exact .inr ⟨this, h2⟩
theorem rg_get {ring : List Int} {k : Nat} {a b : Int} (h1 : ring[k]? = some a) (h2 : (k + 1 < ring.length ∧ ring[k + 1]? = some b) ∨ (k + 1 = ring.length ∧ ring[0]? = some b)) : (rg ring)[k]? = some (tk a b) := by
  have hk := (List.getElem?_eq_some_iff.mp h1).1
  refine al_get (row := ring ++ ring.take 1) (by rw [List.getElem?_append_left hk]; exact h1) ?_
  rcases h2 with ⟨h, h2⟩ | ⟨h, h2⟩
  · rw [List.getElem?_append_left h]; exact h2
  · rw [h, List.getElem?_append_right (Nat.le_refl _), Nat.sub_self, List.getElem?_take_of_lt (by omega)]; exact h2
theorem rg_nd {ring : List Int} (nd : ring.Nodup) (h3 : 3 ≤ ring.length) : (rg ring).Nodup := by
  rw [List.nodup_iff_pairwise_ne, List.pairwise_iff_getElem]
  intro i j hi hj hij e
  have g1 : (rg ring)[i]? = some (rg ring)[i] := List.getElem?_eq_getElem hi
  have g2 : (rg ring)[j]? = some (rg ring)[i] := by rw [List.getElem?_eq_getElem hj, e]
  obtain ⟨a, b, h1, h2, e1⟩ := rg_at g1
  obtain ⟨c, d, h4, h5, e2⟩ := rg_at g2
  rw [e1] at e2
  have q : (a = c ∧ b = d) ∨ (a = d ∧ b = c) := by
    have x := congrArg Prod.fst e2
    have y := congrArg Prod.snd e2
    have x : min a b = min c d := x
    have y : max a b = max c d := y
    omega
  rcases q with ⟨rfl, rfl⟩ | ⟨rfl, rfl⟩
  · have := nd_get nd h1 h4; omega
  · rcases h2 with ⟨l2, h2⟩ | ⟨l2, h2⟩ <;> rcases h5 with ⟨l5, h5⟩ | ⟨l5, h5⟩
    · have := nd_get nd h1 h5; have := nd_get nd h2 h4; omega
    · have := nd_get nd h1 h5; have := nd_get nd h2 h4; omega
    · have := nd_get nd h1 h5; have := nd_get nd h2 h4; omega
    · have := nd_get nd h1 h5; have := nd_get nd h2 h4; omega
end Pr
set_option Elab.async false
set_option linter.all false
set_option maxRecDepth 100000
namespace Pr
open PySem PySem.Spec L2 Ev Tg
open PyProof.Rows hiding St
theorem len_of_sub {α : Type} [DecidableEq α] : ∀ {xs ys : List α}, xs.Nodup → (∀ x ∈ xs, x ∈ ys) → xs.length ≤ ys.length
  | [], _, _, _ => Nat.zero_le _
  | x :: xs, ys, nd, h => by
    rw [List.nodup_cons] at nd
    have hx : x ∈ ys := h x List.mem_cons_self
    have := len_of_sub (ys := ys.erase x) nd.2 fun y hy => by
      have hne : y ≠ x := fun e => nd.1 (e ▸ hy)
      exact (List.mem_erase_of_ne hne).mpr (h y (List.mem_cons_of_mem _ hy))
    rw [List.length_erase_of_mem hx] at this
    have hp : 0 < ys.length := List.length_pos_of_mem hx
    rw [List.length_cons]
    omega
theorem perm_of_iff {α : Type} [DecidableEq α] : ∀ {xs ys : List α}, xs.Nodup → ys.Nodup → (∀ x, x ∈ xs ↔ x ∈ ys) → xs.Perm ys := fun {xs ys} h1 h2 h => by
  rw [List.perm_iff_count]
  intro a
  by_cases m : a ∈ xs
  · rw [h1.count, h2.count, if_pos m, if_pos ((h a).mp m)]
  · rw [List.count_eq_zero_of_not_mem m, List.count_eq_zero_of_not_mem fun z => m ((h a).mpr z)]
theorem nd_le {n : Nat} {xs : List Int} (nd : xs.Nodup) (h : ∀ x ∈ xs, 0 ≤ x ∧ x < n) : xs.length ≤ n := by
  have := len_of_sub (ys := (List.range n).map fun (k : Nat) => (k : Int)) nd fun x hx => by
    have := h x hx
    exact List.mem_map.mpr ⟨x.toNat, List.mem_range.mpr (by omega), by omega⟩
  simpa using this
abbrev Up (xs : List Int) : Prop := xs.Pairwise fun a b => a < b
theorem Up.nd {xs : List Int} (h : Up xs) : xs.Nodup := h.imp fun h => by omega
theorem sortI_up {xs : List Int} (nd : xs.Nodup) : Up (sortI xs) := by
  have h1 := srtI xs
  have h2 : (sortI xs).Nodup := (permI xs).nodup_iff.mpr nd
  exact (h1.and h2).imp fun ⟨a, b⟩ => by omega
theorem up_uniq : ∀ {xs ys : List Int}, Up xs → Up ys → (∀ x, x ∈ xs ↔ x ∈ ys) → xs = ys
  | [], [], _, _, _ => rfl
  | [], y :: ys, _, _, h => absurd ((h y).mpr List.mem_cons_self) (fun z => nomatch z)
  | x :: xs, [], _, _, h => absurd ((h x).mp List.mem_cons_self) (fun z => nomatch z)
  | x :: xs, y :: ys, h1, h2, h => by
    have g1 := List.pairwise_cons.mp h1
    have g2 := List.pairwise_cons.mp h2
    have e : x = y := by
      rcases List.mem_cons.mp ((h x).mp List.mem_cons_self) with e | m
      · exact e
      · rcases List.mem_cons.mp ((h y).mpr List.mem_cons_self) with e | m2
        · exact e.symm
        · have := g2.1 x m
          have := g1.1 y m2
          omega
    subst e
    rw [up_uniq g1.2 g2.2 fun z => ?_]
    constructor
    · intro hz
      rcases List.mem_cons.mp ((h z).mp (List.mem_cons_of_mem _ hz)) with e | m
      · subst e; exact absurd (g1.1 z hz) (by omega)
      · exact m
    · intro hz
      rcases List.mem_cons.mp ((h z).mpr (List.mem_cons_of_mem _ hz)) with e | m
      · subst e; exact absurd (g2.1 z hz) (by omega)
      · exact m
end Pr
set_option Elab.async false
set_option linter.all false
set_option maxRecDepth 100000
namespace Pr
open PySem PySem.Spec L2 Ev Tg
def nbl (l : Pairs) (x : Int) : List Int := l.filterMap (mt1 x)
theorem nbl_app (a b : Pairs) (x : Int) : nbl (a ++ b) x = nbl a x ++ nbl b x := List.filterMap_append
theorem mt1_some {x y : Int} {p : Int × Int} (h : mt1 x p = some y) : (p.1 = x ∧ p.2 = y) ∨ (p.2 = x ∧ p.1 = y) := by
  unfold mt1 at h
  split at h
  · rename_i h1; exact .inl ⟨h1, Option.some.inj h⟩
  · split at h
    · rename_i h1; exact .inr ⟨h1, Option.some.inj h⟩
    · cases h
theorem mem_nbl {l : Pairs} (hl : ∀ p ∈ l, p.1 < p.2) {x y : Int} : y ∈ nbl l x ↔ tk x y ∈ l := by
  unfold nbl
  rw [List.mem_filterMap]
  constructor
  · rintro ⟨p, hp, e⟩
    have := hl p hp
    have : tk x y = p := by
      rcases mt1_some e with ⟨h1, h2⟩ | ⟨h1, h2⟩
      · exact Prod.ext (by show min x y = p.1; omega) (by show max x y = p.2; omega)
      · exact Prod.ext (by show min x y = p.1; omega) (by show max x y = p.2; omega)
    rw [this]
    exact hp
  · intro h
    have hlt := hl _ h
    have hlt : min x y < max x y := hlt
    refine ⟨_, h, ?_⟩
    unfold mt1
    by_cases hxy : x < y
    · rw [if_pos (by show min x y = x; omega)]
      exact congrArg some (by show max x y = y; omega)
    · rw [if_neg (by show ¬ min x y = x; omega), if_pos (by show max x y = x; omega)]
      exact congrArg some (by show min x y = y; omega)
structure Gph (n : Nat) (l : Pairs) : Prop where
  rg : ∀ p ∈ l, 0 ≤ p.1 ∧ p.1 < p.2 ∧ p.2 < (n : Int)
  nd : l.Nodup
  deg : ∀ x, (nbl l x).length ≤ 2
theorem Gph.lt {n : Nat} {l : Pairs} (G : Gph n l) : ∀ p ∈ l, p.1 < p.2 := fun p hp => (G.rg p hp).2.1
theorem Gph.nb {n : Nat} {l : Pairs} (G : Gph n l) {x y : Int} : y ∈ nbl l x ↔ tk x y ∈ l := mem_nbl G.lt
theorem Gph.sym {n : Nat} {l : Pairs} (G : Gph n l) {x y : Int} (h : y ∈ nbl l x) : x ∈ nbl l y := by
  rw [G.nb] at h ⊢
  rw [tk_comm]
  exact h
theorem Gph.irr {n : Nat} {l : Pairs} (G : Gph n l) {x : Int} : x ∉ nbl l x := fun h => by
  rw [G.nb] at h
  have := G.lt _ h
  have : min x x < max x x := this
  omega
theorem Gph.in_rg {n : Nat} {l : Pairs} (G : Gph n l) {x y : Int} (h : y ∈ nbl l x) : (0 ≤ x ∧ x < n) ∧ 0 ≤ y ∧ y < (n : Int) := by
  rw [G.nb] at h
  have := G.rg _ h
  have h1 : 0 ≤ min x y := this.1
  have h2 : max x y < (n : Int) := this.2.2
  omega
theorem Gph.nbnd {n : Nat} {l : Pairs} (G : Gph n l) (x : Int) : (nbl l x).Nodup := by
  have h1 := G.lt
  have h2 := G.nd
  clear G
  induction l with
  | nil => exact List.nodup_nil
  | cons p l ih =>
    rw [List.nodup_cons] at h2
    have ih := ih (fun q hq => h1 q (List.mem_cons_of_mem _ hq)) h2.2
    unfold nbl at ih ⊢
    rw [List.filterMap_cons]
    cases e : mt1 x p with
    | none => exact ih
    | some y =>
      rw [List.nodup_cons]
      refine ⟨fun hm => ?_, ih⟩
      have := (mem_nbl (l := l) fun q hq => h1 q (List.mem_cons_of_mem _ hq)).mp hm
      have e2 : tk x y = p := by
        have := h1 p List.mem_cons_self
        rcases mt1_some e with ⟨h1, h2⟩ | ⟨h1, h2⟩
        · exact Prod.ext (by show min x y = p.1; omega) (by show max x y = p.2; omega)
        · exact Prod.ext (by show min x y = p.1; omega) (by show max x y = p.2; omega)
      rw [e2] at this
      exact h2.1 this
theorem Gph.two {n : Nat} {l : Pairs} (G : Gph n l) {x a b y : Int} (ha : a ∈ nbl l x) (hb : b ∈ nbl l x) (hab : a ≠ b) (hy : y ∈ nbl l x) : y = a ∨ y = b := by
  have h1 := G.deg x
  have h2 := G.nbnd x
  cases hl : nbl l x with
  | nil => rw [hl] at ha; cases ha
  | cons u r =>
    rw [hl] at ha hb hy h1 h2
    cases r with
    | nil =>
      simp at ha hb
      exact absurd (ha.trans hb.symm) hab
    | cons v r =>
      cases r with
      | nil =>
        simp at ha hb hy
        rcases ha with rfl | rfl <;> rcases hb with rfl | rfl <;> rcases hy with rfl | rfl <;> simp_all
      | cons w r => simp at h1
theorem Gph.one {n : Nat} {l : Pairs} (G : Gph n l) {x a y : Int} (h1 : (nbl l x).length = 1) (ha : a ∈ nbl l x) (hy : y ∈ nbl l x) : y = a := by
  cases hl : nbl l x with
  | nil => rw [hl] at ha; cases ha
  | cons u r =>
    rw [hl] at ha hy h1
    cases r with
    | nil =>
      simp at ha hy
      exact hy.trans ha.symm
    | cons v r => simp at h1
def sdaR (m : List (Int × List Int)) (k x : Int) : List (Int × List Int) := match m with
  | [] => [(k, [x])]
  | p :: r => if p.1 = k then (p.1, p.2 ++ [x]) :: r else p :: sdaR r k x
theorem sda_eq {m : List (Int × List Int)} {k x : Int} (hm : m.length < 1000000) (hl : ∀ q ∈ m, q.2.length ≤ 1000000) : sdaO m k x = some (sdaR m k x) := by
  unfold sdaO
  rw [if_pos hm]
  clear hm
  induction m with
  | nil => rfl
  | cons p r ih =>
    have ih := ih fun q hq => hl q (List.mem_cons_of_mem _ hq)
    rw [List.findIdx?_cons]
    by_cases h : p.1 = k
    · rw [show decide (p.1 = k) = true from decide_eq_true h]
      have := hl p List.mem_cons_self
      simp only [if_true, List.getElem?_cons_zero, Option.bind_some, if_pos this, List.set_cons_zero]
      unfold sdaR
      rw [if_pos h]
    · rw [show decide (p.1 = k) = false from decide_eq_false h]
      unfold sdaR
      rw [if_neg h]
      cases e : r.findIdx? (fun p => decide (p.1 = k)) with
      | none =>
        rw [e] at ih
        have ih := Option.some.inj ih
        simp only [Bool.false_eq_true, if_false, Option.map_none]
        rw [← ih]
        rfl
      | some n =>
        rw [e] at ih
        simp only [Bool.false_eq_true, if_false, Option.map_some, List.getElem?_cons_succ]
        simp only at ih
        cases e2 : r[n]? with
        | none => rw [e2] at ih; cases ih
        | some q =>
          rw [e2] at ih
          simp only [Option.bind_some] at ih ⊢
          split at ih
          · rename_i hq
            rw [if_pos hq, List.set_cons_succ, Option.some.inj ih]
          · cases ih
theorem sdaR_get (m : List (Int × List Int)) (k x k' : Int) : aget (sdaR m k x) k' = if k = k' then some ((aget m k).getD [] ++ [x]) else aget m k' := by
  induction m with
  | nil =>
    unfold sdaR
    rw [aget_cons]
    rfl
  | cons p r ih =>
    unfold sdaR
    by_cases h : p.1 = k
    · rw [if_pos h, aget_cons, aget_cons, aget_cons, if_pos h]
      by_cases hk : k = k'
      · rw [if_pos hk, if_pos (h.trans hk)]
        rfl
      · rw [if_neg hk, if_neg (fun z => hk (h.symm.trans z)), if_neg (fun z => hk (h.symm.trans z))]
    · rw [if_neg h, aget_cons, ih, aget_cons, aget_cons, if_neg h]
      by_cases hk : p.1 = k'
      · rw [if_pos hk, if_pos hk, if_neg (fun z => h (hk.trans z.symm))]
      · rw [if_neg hk, if_neg hk]
theorem sdaR_keys (m : List (Int × List Int)) (k x : Int) : (sdaR m k x).map (·.1) = if k ∈ m.map (·.1) then m.map (·.1) else m.map (·.1) ++ [k] := by
  induction m with
  | nil => rfl
  | cons p r ih =>
    unfold sdaR
    by_cases h : p.1 = k
    · rw [if_pos h, if_pos (by simp [h])]
      rfl
    · rw [if_neg h, List.map_cons, ih]
      by_cases h2 : k ∈ r.map (·.1)
      · rw [if_pos h2, if_pos (by simp only [List.map_cons]; exact List.mem_cons_of_mem _ h2)]
        rfl
      · rw [if_neg h2, if_neg (by simp only [List.map_cons, List.mem_cons, not_or]; exact ⟨fun z => h z.symm, h2⟩)]
        rfl
structure Bsd (l : Pairs) (B : List (Int × List Int)) : Prop where
  nd : (B.map (·.1)).Nodup
  get : ∀ x, (aget B x).getD [] = nbl l x
  ne : ∀ x ys, aget B x = some ys → ys ≠ []
theorem aget_mem' {α : Type} {m : List (Int × α)} (nd : (m.map (·.1)).Nodup) {q : Int × α} (h : q ∈ m) : aget m q.1 = some q.2 := by
  induction m with
  | nil => cases h
  | cons p m ih =>
    rw [List.map_cons, List.nodup_cons] at nd
    rw [aget_cons]
    rcases List.mem_cons.mp h with e | h
    · rw [e, if_pos rfl]
    · rw [if_neg, ih nd.2 h]
      intro e
      exact nd.1 (List.mem_map.mpr ⟨_, h, e.symm⟩)
theorem Bsd.get' {l : Pairs} {B : List (Int × List Int)} (b : Bsd l B) {x : Int} (h : nbl l x ≠ []) : aget B x = some (nbl l x) := by
  have := b.get x
  cases e : aget B x with
  | none => rw [e] at this; exact absurd this.symm h
  | some ys => rw [e] at this; exact congrArg some this
theorem Bsd.key {l : Pairs} {B : List (Int × List Int)} (b : Bsd l B) {x : Int} : x ∈ B.map (·.1) ↔ nbl l x ≠ [] := by
  rw [← ahas_key, ahas_iff]
  cases e : aget B x with
  | none =>
    have := b.get x
    rw [e] at this
    simp only [Option.isSome_none, Bool.false_eq_true, false_iff, ne_eq, Classical.not_not]
    exact this.symm
  | some ys =>
    have h1 := b.get x
    have h2 := b.ne x ys e
    rw [e] at h1
    have h1 : ys = nbl l x := h1
    rw [← h1]
    simp [h2]
theorem nbl_len (l : Pairs) (x : Int) : (nbl l x).length ≤ l.length := List.length_filterMap_le _ _
theorem beside_loop {l : Pairs} (hl : l.length ≤ 1000) (hlt : ∀ p ∈ l, p.1 < p.2) : ∃ B, forS l [] (fun (x8 : Int × Int) (s8 : (List (Int × (List Int)))) => p_between_L1 x8.1 x8.2 s8) = some B ∧ Bsd l B := by
  obtain ⟨B, e, b, _⟩ := forS_inv (xs := l) (s0 := ([] : List (Int × List Int))) (f := fun (x8 : Int × Int) (s8 : (List (Int × (List Int)))) => p_between_L1 x8.1 x8.2 s8) (fun pre B => Bsd pre B ∧ B.length ≤ 2 * pre.length) ⟨⟨List.nodup_nil, fun x => rfl, fun x ys h => (nomatch h)⟩, by simp⟩ fun pre p post B e ⟨b, hB⟩ => by
    have hpl : pre.length < l.length := by rw [e]; simp
    have hp := hlt p (by rw [e]; simp)
    have small : ∀ (l : Pairs) (B : List (Int × List Int)), l.length ≤ 1000 → Bsd l B → ∀ q ∈ B, q.2.length ≤ 1000 := fun l B hl b q hq => by
      have h1 := aget_mem' b.nd hq
      have h2 := b.get q.1
      rw [h1] at h2
      have h2 : q.2 = nbl l q.1 := h2
      rw [h2]
      have := nbl_len l q.1
      omega
    have key_len : ∀ (m : List (Int × List Int)) (k x : Int), (sdaR m k x).length ≤ m.length + 1 := fun m k x => by
      have := congrArg List.length (sdaR_keys m k x)
      rw [List.length_map] at this
      rw [this]
      split <;> simp
    have nd1 : ∀ (m : List (Int × List Int)) (k x : Int), (m.map (·.1)).Nodup → ((sdaR m k x).map (·.1)).Nodup := fun m k x h => by
      rw [sdaR_keys]
      split
      · exact h
      · rename_i hk
        rw [List.nodup_append]
        exact ⟨h, by simp, fun a ha b hb => by rw [List.mem_singleton.mp hb]; rintro rfl; exact hk ha⟩
    have k1 := key_len B p.1 p.2
    have k2 := key_len (sdaR B p.1 p.2) p.2 p.1
    have big1 : ∀ q ∈ sdaR B p.1 p.2, q.2.length ≤ 1000000 := fun q hq => by
      have h1 := aget_mem' (nd1 B p.1 p.2 b.nd) hq
      rw [sdaR_get] at h1
      split at h1
      · have := Option.some.inj h1
        rw [← this, b.get]
        have := nbl_len pre p.1
        simp
        omega
      · have h2 := b.get q.1
        rw [h1] at h2
        have h2 : q.2 = nbl pre q.1 := h2
        rw [h2]
        have := nbl_len pre q.1
        omega
    refine ⟨sdaR (sdaR B p.1 p.2) p.2 p.1, ?_, ⟨nd1 _ _ _ (nd1 _ _ _ b.nd), fun x => ?_, fun x ys h => ?_⟩, by rw [List.length_append, List.length_singleton]; omega⟩
    · unfold p_between_L1
      rw [sda_eq (by omega) (fun q hq => by have := small pre B (by omega) b q hq; omega), bindO_s, sda_eq (by omega) big1, bindO_s]
    · rw [sdaR_get, nbl_app]
      have e1 : nbl [p] x = (mt1 x p).toList := by
        unfold nbl
        rw [List.filterMap_cons]
        cases mt1 x p <;> rfl
      rw [e1]
      unfold mt1
      by_cases h2 : p.2 = x
      · rw [if_pos h2, sdaR_get, if_neg (by omega), if_neg (by omega), if_pos h2, h2]
        simp [b.get]
      · rw [if_neg h2, sdaR_get]
        by_cases h1 : p.1 = x
        · rw [if_pos h1, if_pos h1, h1]
          simp [b.get]
        · rw [if_neg h1, if_neg h1, if_neg h2, b.get]
          simp
    · rw [sdaR_get] at h
      split at h
      · cases h; simp
      · rw [sdaR_get] at h
        split at h
        · cases h; simp
        · exact b.ne x ys h
  exact ⟨B, e, b⟩
structure Wk (l : Pairs) (vs : List Int) : Prop where
  nd : vs.Nodup
  al : ∀ p ∈ al vs, p ∈ l
theorem Wk.step {n : Nat} {l : Pairs} (G : Gph n l) {vs : List Int} (w : Wk l vs) {i : Nat} {x y : Int} (h1 : vs[i]? = some x) (h2 : vs[i + 1]? = some y) : y ∈ nbl l x ∧ x ∈ nbl l y := by
  have := w.al _ (List.mem_of_getElem? (al_get h1 h2))
  exact ⟨G.nb.mpr this, G.sym (G.nb.mpr this)⟩
theorem Wk.inner {n : Nat} {l : Pairs} (G : Gph n l) {vs : List Int} (w : Wk l vs) {i : Nat} {x : Int} (h0 : 0 < i) (h1 : i + 1 < vs.length) (hx : vs[i]? = some x) {y : Int} (hy : y ∈ nbl l x) : vs[i - 1]? = some y ∨ vs[i + 1]? = some y := by
  have g1 : vs[i - 1]? = some vs[i - 1] := List.getElem?_eq_getElem (by omega)
  have g2 : vs[i + 1]? = some vs[i + 1] := List.getElem?_eq_getElem h1
  have a := (w.step G g1 (by rw [show i - 1 + 1 = i by omega]; exact hx)).2
  have b := (w.step G hx g2).1
  have ne : vs[i - 1] ≠ vs[i + 1] := fun e => by
    rw [e] at g1
    have := nd_get w.nd g1 g2
    omega
  rcases G.two a b ne hy with e | e
  · exact .inl (by rw [e]; exact g1)
  · exact .inr (by rw [e]; exact g2)
theorem led_eq {n : Nat} {l : Pairs} {B : List (Int × List Int)} (G : Gph n l) (b : Bsd l B) (hn : n ≤ 1000) {start : Int} (hs : nbl l start ≠ []) :
    ∃ vs last, p_led_from start B = some vs ∧ vs.head? = some start ∧ vs.getLast? = some last ∧ Wk l vs ∧ 2 ≤ vs.length ∧ vs.length ≤ n ∧ ∀ y ∈ nbl l last, y ∈ vs := by
  unfold p_led_from
  rw [letB_eq, b.get' hs, bindO_s, letB_eq]
  have rgS : 0 ≤ start ∧ start < n := by
    obtain ⟨y, hy⟩ := List.exists_mem_of_ne_nil _ hs
    exact (G.in_rg hy).1
  have hlen : ∀ vs : List Int, vs.Nodup → (∀ x ∈ vs, 0 ≤ x ∧ x < (n : Int)) → vs.length ≤ n := fun vs h1 h2 => nd_le h1 h2
  obtain ⟨s, e, P, c⟩ := whS_inv (n := fuel) (s0 := (([start] : List Int), nbl l start)) (c := fun (s7 : (List Int) × (List Int)) => (some (!decide (s7.2 = ([] : List Int))))) (f := fun (s7 : (List Int) × (List Int)) => p_led_from_L1 B s7.1 s7.2)
    (fun s => Wk l s.1 ∧ s.1.head? = some start ∧ (∀ x ∈ s.1, 0 ≤ x ∧ x < (n : Int)) ∧ ∃ last, s.1.getLast? = some last ∧ s.2 = (nbl l last).filter fun y => !(decide (y ∈ s.1))) (fun s => n - s.1.length) (fuel_big (by omega))
    ⟨⟨by simp, fun p hp => (nomatch hp)⟩, rfl, fun x hx => by rw [List.mem_singleton.mp hx]; exact rgS, start, rfl, by
      symm
      rw [List.filter_eq_self]
      intro y hy
      have : y ≠ start := fun z => G.irr (z ▸ hy)
      simp [this]⟩ fun s ⟨w, hh, hr, last, hl, ho⟩ => by
    by_cases hc : s.2 = []
    · exact .inl (by rw [hc]; rfl)
    · refine .inr ⟨by simp [hc], ?_⟩
      obtain ⟨v, r, hv⟩ := List.exists_cons_of_ne_nil hc
      have hvm : v ∈ s.2 := by rw [hv]; exact List.mem_cons_self
      rw [ho, List.mem_filter] at hvm
      obtain ⟨hv1, hv2⟩ := hvm
      have hv2 : v ∉ s.1 := by simpa using hv2
      have rv := (G.in_rg hv1).2
      have i0 : idx s.2 (0 : Int) = some v := by
        rw [show (0 : Int) = ((0 : Nat) : Int) from rfl, idx_nat, hv]
        rfl
      have hvn : nbl l v ≠ [] := List.ne_nil_of_mem (G.sym hv1)
      have nd' : (s.1 ++ [v]).Nodup := by
        rw [List.nodup_append]
        exact ⟨w.nd, by simp, fun a ha c hc => by rw [List.mem_singleton.mp hc]; rintro rfl; exact hv2 ha⟩
      have rg' : ∀ x ∈ s.1 ++ [v], 0 ≤ x ∧ x < (n : Int) := fun x hx => (List.mem_append.mp hx).elim (hr x) fun h => by rw [List.mem_singleton.mp h]; exact rv
      have hlen' := hlen _ nd' rg'
      have hl0 := hlen _ w.nd hr
      rw [List.length_append, List.length_singleton] at hlen'
      have hd := G.deg v
      have hf := List.length_filter_le (fun y => !(decide (y ∈ s.1 ++ [v]))) (nbl l v)
      refine ⟨(s.1 ++ [v], (nbl l v).filter fun y => !(decide (y ∈ s.1 ++ [v]))), ?_, ⟨⟨nd', fun p hp => ?_⟩, ?_, rg', v, by simp, rfl⟩, ?_⟩
      · show p_led_from_L1 B s.1 s.2 = _
        unfold p_led_from_L1
        rw [i0, bindO_s, appO_e (by omega), bindO_s, bindO_s, b.get' hvn, bindO_s, List.map_id', big_e (by omega), bindO_s, letB_eq]
      · have hne : s.1 ≠ [] := fun z => by rw [z] at hh; cases hh
        have e1 : s.1 = s.1.dropLast ++ [last] := by
          have := List.dropLast_concat_getLast hne
          rw [List.getLast?_eq_some_getLast hne] at hl
          rw [Option.some.inj hl] at this
          exact this.symm
        have e2 : Pr.al (s.1 ++ [v]) = Pr.al s.1 ++ [tk last v] := by
          have := al_app s.1.dropLast last v []
          rw [← e1] at this
          rw [show s.1 ++ [v] = s.1.dropLast ++ last :: v :: [] by
            conv => lhs; rw [e1]
            rw [List.append_assoc]
            rfl]
          exact this
        have hp : p ∈ Pr.al (s.1 ++ [v]) := hp
        rw [e2] at hp
        rcases List.mem_append.mp hp with hp | hp
        · exact w.al p hp
        · rw [List.mem_singleton.mp hp]
          exact G.nb.mp hv1
      · show (s.1 ++ [v]).head? = some start
        cases hs1 : s.1 with
        | nil => rw [hs1] at hh; cases hh
        | cons u t => rw [hs1] at hh; exact hh
      · show n - (s.1 ++ [v]).length < n - s.1.length
        rw [List.length_append, List.length_singleton]
        omega
  rw [e, bindO_s]
  obtain ⟨w, hh, hr, last, hl, ho⟩ := P
  have hc : s.2 = [] := by
    have := Option.some.inj c
    simpa using this
  have all : ∀ y ∈ nbl l last, y ∈ s.1 := fun y hy => by
    rw [hc] at ho
    have := List.filter_eq_nil_iff.mp ho.symm y hy
    simpa using this
  refine ⟨s.1, last, rfl, hh, hl, w, ?_, hlen _ w.nd hr, all⟩
  obtain ⟨s1, s2⟩ := s
  dsimp only at *
  cases s1 with
  | nil => cases hh
  | cons u t =>
    cases t with
    | nil =>
      exfalso
      cases hh
      cases hl
      obtain ⟨y, hy⟩ := List.exists_mem_of_ne_nil _ hs
      have := all y hy
      rw [List.mem_singleton.mp this] at hy
      exact G.irr hy
    | cons v t => simp
end Pr
set_option Elab.async false
set_option linter.all false
set_option maxRecDepth 100000
namespace Pr
open PySem PySem.Spec L2 Ev Tg
abbrev sRow : SS := mkS "row" (by decide +kernel)
abbrev sRing : SS := mkS "ring" (by decide +kernel)
theorem row_ring : sRow ≠ sRing := fun h => by
  have := congrArg Subtype.val h
  exact absurd this (by decide +kernel)
abbrev Told := SS × List Int
def eds (t : Told) : Pairs := if t.1 = sRow then al t.2 else rg t.2
theorem eds_row {vs : List Int} : eds (sRow, vs) = al vs := if_pos rfl
theorem eds_ring {vs : List Int} : eds (sRing, vs) = rg vs := if_neg (fun h => row_ring h.symm)
theorem eds_mem {t : Told} {p : Int × Int} (h : p ∈ eds t) : p.1 ∈ t.2 ∧ p.2 ∈ t.2 := by
  unfold eds at h
  split at h
  · exact al_mem h
  · exact rg_mem h
theorem min_or' (a b : Int) : min a b = a ∧ max a b = b ∨ min a b = b ∧ max a b = a := by omega
structure Trk (l : Pairs) (t : Told) : Prop where
  kd : t.1 = sRow ∨ (t.1 = sRing ∧ 3 ≤ t.2.length)
  nd : t.2.Nodup
  two : 2 ≤ t.2.length
  sub : ∀ p ∈ eds t, p ∈ l
  cl : ∀ p ∈ l, (p.1 ∈ t.2 ∨ p.2 ∈ t.2) → p ∈ eds t
theorem Trk.nbr {n : Nat} {l : Pairs} (G : Gph n l) {t : Told} (T : Trk l t) {x y : Int} (hx : x ∈ t.2) (h : y ∈ nbl l x) : y ∈ t.2 := by
  rw [G.nb] at h
  have m := eds_mem (T.cl _ h (by
    rcases min_or' x y with ⟨a, _⟩ | ⟨_, a⟩
    · exact .inl (by show min x y ∈ t.2; rw [a]; exact hx)
    · exact .inr (by show max x y ∈ t.2; rw [a]; exact hx)))
  rcases min_or' x y with ⟨_, a⟩ | ⟨a, _⟩
  · have : max x y ∈ t.2 := m.2
    rw [a] at this
    exact this
  · have : min x y ∈ t.2 := m.1
    rw [a] at this
    exact this
theorem Gph.other {n : Nat} {l : Pairs} (G : Gph n l) {p : Int × Int} {x : Int} (hp : p ∈ l) (hx : x = p.1 ∨ x = p.2) : ∃ y, y ∈ nbl l x ∧ p = tk x y := by
  have hlt := G.lt p hp
  rcases hx with rfl | rfl
  · have e : p = tk p.1 p.2 := Prod.ext (by show p.1 = min p.1 p.2; omega) (by show p.2 = max p.1 p.2; omega)
    exact ⟨p.2, G.nb.mpr (by rw [← e]; exact hp), e⟩
  · have e : p = tk p.2 p.1 := Prod.ext (by show p.1 = min p.2 p.1; omega) (by show p.2 = max p.2 p.1; omega)
    exact ⟨p.1, G.nb.mpr (by rw [← e]; exact hp), e⟩
theorem Wk.back {n : Nat} {l : Pairs} (G : Gph n l) {vs : List Int} (w : Wk l vs) {last y : Int} (hl : vs.getLast? = some last) (hy : y ∈ nbl l last) (hm : y ∈ vs) : vs[vs.length - 2]? = some y ∨ vs.head? = some y := by
  rw [List.getLast?_eq_getElem?] at hl
  obtain ⟨j, hj, ej⟩ := List.getElem_of_mem hm
  have gj := List.getElem?_eq_some_iff.mpr ⟨hj, ej⟩
  by_cases j0 : j = 0
  · subst j0
    exact .inr (by rw [List.head?_eq_getElem?]; exact gj)
  · by_cases jl : j + 1 < vs.length
    · rcases w.inner G (by omega) jl gj (G.sym hy) with h | h
      · have := nd_get w.nd h hl
        omega
      · have := nd_get w.nd h hl
        refine .inl ?_
        rw [show vs.length - 2 = j by omega]
        exact gj
    · exfalso
      have : j = vs.length - 1 := by omega
      subst this
      rw [gj] at hl
      cases hl
      exact G.irr hy
theorem row_trk {n : Nat} {l : Pairs} (G : Gph n l) {vs : List Int} {start last : Int} (w : Wk l vs) (h2 : 2 ≤ vs.length) (hh : vs.head? = some start) (hl : vs.getLast? = some last) (all : ∀ y ∈ nbl l last, y ∈ vs) (d1 : (nbl l start).length = 1) : Trk l (sRow, vs) := by
  refine ⟨.inl rfl, w.nd, h2, fun p hp => w.al p (by rw [eds_row] at hp; exact hp), fun p hp hx => ?_⟩
  rw [eds_row]
  have key : ∀ x, x ∈ vs → (x = p.1 ∨ x = p.2) → p ∈ al vs := fun x hx he => by
    obtain ⟨y, hy, e⟩ := G.other hp he
    obtain ⟨i, hi, ei⟩ := List.getElem_of_mem hx
    have gi := List.getElem?_eq_some_iff.mpr ⟨hi, ei⟩
    have left : vs[i - 1]? = some y → 0 < i → p ∈ al vs := fun h h0 => by
      rw [e, tk_comm]
      exact List.mem_of_getElem? (al_get h (by rw [show i - 1 + 1 = i by omega]; exact gi))
    have right : vs[i + 1]? = some y → p ∈ al vs := fun h => by
      rw [e]
      exact List.mem_of_getElem? (al_get gi h)
    by_cases i0 : i = 0
    · subst i0
      have : x = start := by
        rw [List.head?_eq_getElem?, gi] at hh
        exact Option.some.inj hh
      subst this
      have g1 : vs[1]? = some vs[1] := List.getElem?_eq_getElem (by omega)
      have := G.one d1 (w.step G gi g1).1 hy
      exact right (by rw [this]; exact g1)
    · by_cases il : i + 1 < vs.length
      · rcases w.inner G (by omega) il gi hy with h | h
        · exact left h (by omega)
        · exact right h
      · have il : i = vs.length - 1 := by omega
        have : x = last := by
          rw [List.getLast?_eq_getElem?, ← il, gi] at hl
          exact Option.some.inj hl
        subst this
        rcases w.back G hl hy (all y hy) with h | h
        · exact left (by rw [show i - 1 = vs.length - 2 by omega]; exact h) (by omega)
        · rw [hh] at h
          have ey : start = y := Option.some.inj h
          subst ey
          have g0 : vs[0]? = some start := by rw [List.head?_eq_getElem?] at hh; exact hh
          have g1 : vs[1]? = some vs[1] := List.getElem?_eq_getElem (by omega)
          have e1 := G.one d1 (w.step G g0 g1).1 (G.sym hy)
          have := nd_get w.nd gi (by rw [e1]; exact g1)
          exact left (by rw [show i - 1 = 0 by omega]; exact g0) (by omega)
  rcases hx with hx | hx
  · exact key _ hx (.inl rfl)
  · exact key _ hx (.inr rfl)
theorem ring_trk {n : Nat} {l : Pairs} (G : Gph n l) {vs : List Int} {start last : Int} (w : Wk l vs) (h2 : 2 ≤ vs.length) (hh : vs.head? = some start) (hl : vs.getLast? = some last) (all : ∀ y ∈ nbl l last, y ∈ vs) (d2 : ∀ x ∈ vs, (nbl l x).length = 2) : Trk l (sRing, vs) := by
  have hl' := hl
  rw [List.getLast?_eq_getElem?] at hl'
  have g0 : vs[0]? = some start := by rw [List.head?_eq_getElem?] at hh; exact hh
  -- the last one's other neighbour is the first
  have close : start ∈ nbl l last ∧ 3 ≤ vs.length := by
    have d := d2 last (List.mem_of_getElem? hl')
    have nd := G.nbnd last
    cases hc : nbl l last with
    | nil => rw [hc] at d; simp at d
    | cons a r =>
      cases r with
      | nil => rw [hc] at d; simp at d
      | cons b r =>
        rw [hc] at nd
        have ma : a ∈ nbl l last := by rw [hc]; simp
        have mb : b ∈ nbl l last := by rw [hc]; simp
        have hab : a ≠ b := fun e => by subst e; simp at nd
        have fin : ∀ c d : Int, c ≠ d → vs[vs.length - 2]? = some c → d ∈ nbl l last → vs.head? = some d → start ∈ nbl l last ∧ 3 ≤ vs.length := fun c d hcd h1 h2 h3 => by
          rw [hh] at h3
          cases h3
          refine ⟨h2, ?_⟩
          by_cases h : 3 ≤ vs.length
          · exact h
          · exfalso
            rw [show vs.length - 2 = 0 by omega, g0] at h1
            cases h1
            exact hcd rfl
        rcases w.back G hl ma (all a ma) with h1 | h1 <;> rcases w.back G hl mb (all b mb) with h3 | h3
        · rw [h1] at h3; cases h3; exact absurd rfl hab
        · rw [← hc]; exact fin a b hab h1 mb h3
        · rw [← hc]; exact fin b a (Ne.symm hab) h3 ma h1
        · rw [h1] at h3; cases h3; exact absurd rfl hab
  obtain ⟨hc, h3⟩ := close
  refine ⟨.inr ⟨rfl, h3⟩, w.nd, h2, fun p hp => ?_, fun p hp hx => ?_⟩
  · rw [eds_ring] at hp
    obtain ⟨k, hk, ek⟩ := List.getElem_of_mem hp
    obtain ⟨a, b, h1, hb, rfl⟩ := rg_at (List.getElem?_eq_some_iff.mpr ⟨hk, ek⟩)
    rcases hb with ⟨_, hb⟩ | ⟨hk2, hb⟩
    · exact w.al _ (List.mem_of_getElem? (al_get h1 hb))
    · rw [show k = vs.length - 1 by omega, hl'] at h1
      rw [g0] at hb
      cases h1
      cases hb
      exact G.nb.mp hc
  · rw [eds_ring]
    have key : ∀ x, x ∈ vs → (x = p.1 ∨ x = p.2) → p ∈ rg vs := fun x hx he => by
      obtain ⟨y, hy, e⟩ := G.other hp he
      obtain ⟨i, hi, ei⟩ := List.getElem_of_mem hx
      have gi := List.getElem?_eq_some_iff.mpr ⟨hi, ei⟩
      have left : vs[i - 1]? = some y → 0 < i → p ∈ rg vs := fun h h0 => by
        rw [e, tk_comm]
        exact List.mem_of_getElem? (rg_get h (.inl ⟨by omega, by rw [show i - 1 + 1 = i by omega]; exact gi⟩))
      have right : vs[i + 1]? = some y → p ∈ rg vs := fun h => by
        rw [e]
        exact List.mem_of_getElem? (rg_get gi (.inl ⟨(List.getElem?_eq_some_iff.mp h).1, h⟩))
      have shut : p = tk last start → p ∈ rg vs := fun h => by
        rw [h]
        exact List.mem_of_getElem? (rg_get hl' (.inr ⟨by omega, g0⟩))
      by_cases i0 : i = 0
      · subst i0
        rw [g0] at gi
        cases gi
        have g1 : vs[1]? = some vs[1] := List.getElem?_eq_getElem (by omega)
        have ne : vs[1] ≠ last := fun z => by
          rw [z] at g1
          have := nd_get w.nd g1 hl'
          omega
        rcases G.two (w.step G g0 g1).1 (G.sym hc) ne hy with h | h
        · exact right (by rw [h]; exact g1)
        · exact shut (by rw [e, h, tk_comm])
      · by_cases il : i + 1 < vs.length
        · rcases w.inner G (by omega) il gi hy with h | h
          · exact left h (by omega)
          · exact right h
        · have il : i = vs.length - 1 := by omega
          rw [il, hl'] at gi
          cases gi
          rcases w.back G hl hy (all y hy) with h | h
          · exact left (by rw [show i - 1 = vs.length - 2 by omega]; exact h) (by omega)
          · rw [hh] at h
            cases h
            exact shut e
    rcases hx with hx | hx
    · exact key _ hx (.inl rfl)
    · exact key _ hx (.inr rfl)
structure Dec (l : Pairs) (T : List Told) : Prop where
  trk : ∀ t ∈ T, Trk l t
  nd : (T.flatMap (·.2)).Nodup
  cov : ∀ p ∈ l, ∃ t ∈ T, p.1 ∈ t.2
structure Sofd (n : Nat) (l : Pairs) (found : List Told) (seen : List Int) : Prop where
  trk : ∀ t ∈ found, Trk l t
  nd : seen.Nodup
  eq : seen = found.flatMap (·.2)
  rg : ∀ x ∈ seen, 0 ≤ x ∧ x < (n : Int)
theorem Sofd.nbr {n : Nat} {l : Pairs} (G : Gph n l) {found : List Told} {seen : List Int} (S : Sofd n l found seen) {x y : Int} (hx : x ∈ seen) (h : y ∈ nbl l x) : y ∈ seen := by
  rw [S.eq, List.mem_flatMap] at hx ⊢
  obtain ⟨t, ht, hxt⟩ := hx
  exact ⟨t, ht, (S.trk t ht).nbr G hxt h⟩
theorem Sofd.wk {n : Nat} {l : Pairs} (G : Gph n l) {found : List Told} {seen : List Int} (S : Sofd n l found seen) {vs : List Int} (w : Wk l vs) {start : Int} (hh : vs.head? = some start) (hs : start ∉ seen) : ∀ x ∈ vs, x ∉ seen := by
  have g0 : vs[0]? = some start := by rw [List.head?_eq_getElem?] at hh; exact hh
  have go : ∀ (i : Nat) (x : Int), vs[i]? = some x → x ∉ seen := by
    intro i
    induction i with
    | zero => intro x hx; rw [g0] at hx; cases hx; exact hs
    | succ i ih =>
      intro x hx hm
      have hi := (List.getElem?_eq_some_iff.mp hx).1
      have g : vs[i]? = some vs[i] := List.getElem?_eq_getElem (by omega)
      exact ih _ g (S.nbr G hm (w.step G g hx).2)
  intro x hx
  obtain ⟨i, hi, ei⟩ := List.getElem_of_mem hx
  exact go i x (List.getElem?_eq_some_iff.mpr ⟨hi, ei⟩)
theorem Wk.rg {n : Nat} {l : Pairs} (G : Gph n l) {vs : List Int} (w : Wk l vs) (h2 : 2 ≤ vs.length) : ∀ x ∈ vs, 0 ≤ x ∧ x < (n : Int) := fun x hx => by
  obtain ⟨i, hi, ei⟩ := List.getElem_of_mem hx
  have gi := List.getElem?_eq_some_iff.mpr ⟨hi, ei⟩
  by_cases i0 : i = 0
  · subst i0
    have g1 : vs[1]? = some vs[1] := List.getElem?_eq_getElem (by omega)
    exact (G.in_rg (w.step G gi g1).1).1
  · have g1 : vs[i - 1]? = some vs[i - 1] := List.getElem?_eq_getElem (by omega)
    exact (G.in_rg (w.step G g1 (by rw [show i - 1 + 1 = i by omega]; exact gi)).1).2
theorem stage_L3 {n : Nat} {l : Pairs} {B : List (Int × List Int)} (G : Gph n l) (b : Bsd l B) (hn : n ≤ 24) {found : List Told} {seen : List Int} (S : Sofd n l found seen) (hf : found.length ≤ 1000) {cnt : Nat} {kd : SS}
    (hk : (cnt = 1 ∧ kd = sRow) ∨ (cnt = 2 ∧ kd = sRing ∧ ∀ x, (nbl l x).length = 1 → x ∈ seen)) {x : Int} (hx : nbl l x ≠ []) :
    ∃ found' seen', p_between_L3 B (cnt : Int) kd x found seen = some (found', seen') ∧ Sofd n l found' seen' ∧ (∀ y ∈ seen, y ∈ seen') ∧ ((nbl l x).length = cnt → x ∈ seen') ∧ found'.length ≤ found.length + 1 := by
  unfold p_between_L3
  have hsl : seen.length ≤ n := nd_le S.nd S.rg
  by_cases hs : x ∈ seen
  · rw [if_neg (by simp [hs]), bindO_s, if_neg (by decide), bindO_s]
    exact ⟨found, seen, rfl, S, fun _ h => h, fun _ => hs, by omega⟩
  · rw [if_pos (by simp [hs]), b.get' hx, bindO_s, bindO_s]
    by_cases hc : (nbl l x).length = cnt
    · obtain ⟨vs, last, e, hh, hl, w, h2, hvn, all⟩ := led_eq G b (by omega) hx
      have nots := S.wk G w hh hs
      have T : Trk l (kd, vs) := by
        rcases hk with ⟨rfl, rfl⟩ | ⟨rfl, rfl, h1⟩
        · exact row_trk G w h2 hh hl all hc
        · refine ring_trk G w h2 hh hl all fun y hy => ?_
          have := G.deg y
          have a1 : (nbl l y).length ≠ 1 := fun z => nots y hy (h1 y z)
          have a0 : (nbl l y).length ≠ 0 := fun z => by
            have z := List.length_eq_zero_iff.mp z
            obtain ⟨i, hi, ei⟩ := List.getElem_of_mem hy
            have gi := List.getElem?_eq_some_iff.mpr ⟨hi, ei⟩
            by_cases i0 : i = 0
            · subst i0
              have := (w.step G gi (List.getElem?_eq_getElem (show 1 < vs.length by omega))).1
              rw [z] at this
              cases this
            · have := (w.step G (List.getElem?_eq_getElem (show i - 1 < vs.length by omega)) (by rw [show i - 1 + 1 = i by omega]; exact gi)).2
              rw [z] at this
              cases this
          omega
      have hh' : x ∈ vs := by
        rw [List.head?_eq_getElem?] at hh
        exact List.mem_of_getElem? hh
      rw [if_pos (by simp [hc]), e, bindO_s, letB_eq, show extO seen vs = some (seen ++ vs) from if_pos (by omega), bindO_s, appO_e (by omega), bindO_s, bindO_s]
      refine ⟨_, _, rfl, ⟨fun t ht => ?_, ?_, ?_, fun y hy => ?_⟩, fun y hy => List.mem_append_left _ hy, fun _ => List.mem_append_right _ hh', by simp⟩
      · rcases List.mem_append.mp ht with ht | ht
        · exact S.trk t ht
        · rw [List.mem_singleton.mp ht]; exact T
      · rw [List.nodup_append]
        exact ⟨S.nd, w.nd, fun a ha c hc e => nots c hc (e ▸ ha)⟩
      · rw [List.flatMap_append, ← S.eq]
        simp
      · rcases List.mem_append.mp hy with hy | hy
        · exact S.rg y hy
        · exact w.rg G h2 y hy
    · have : ¬ (((nbl l x).length : Int) = (cnt : Int)) := by omega
      rw [if_neg (by simp; omega), bindO_s]
      exact ⟨found, seen, rfl, S, fun _ h => h, fun z => absurd z hc, by omega⟩
theorem stage_L2 {n : Nat} {l : Pairs} {B : List (Int × List Int)} (G : Gph n l) (b : Bsd l B) (hn : n ≤ 24) {found : List Told} {seen : List Int} (S : Sofd n l found seen) (hf : found.length ≤ 500) {cnt : Nat} {kd : SS}
    (hk : (cnt = 1 ∧ kd = sRow) ∨ (cnt = 2 ∧ kd = sRing ∧ ∀ x, (nbl l x).length = 1 → x ∈ seen)) (h0 : 0 < cnt) :
    ∃ found' seen', p_between_L2 B (cnt : Int) kd found seen = some (found', seen') ∧ Sofd n l found' seen' ∧ (∀ y ∈ seen, y ∈ seen') ∧ (∀ x, (nbl l x).length = cnt → x ∈ seen') ∧ found'.length ≤ found.length + 24 := by
  unfold p_between_L2
  have hkeys : ∀ x ∈ B.map (·.1), 0 ≤ x ∧ x < (n : Int) := fun x hx => by
    obtain ⟨y, hy⟩ := List.exists_mem_of_ne_nil _ (b.key.mp hx)
    exact (G.in_rg hy).1
  have hB : B.length ≤ n := by
    have := nd_le b.nd hkeys
    simpa using this
  rw [show sortKO B = some (sortI (B.map (·.1))) from if_pos (by omega), bindO_s]
  have pm := permI (B.map (·.1))
  have hlen := pm.length_eq
  rw [List.length_map] at hlen
  obtain ⟨s, e, S1, h1, h2, h3⟩ := forS_inv (xs := sortI (B.map (·.1))) (s0 := (found, seen)) (f := fun (x12 : Int) (s12 : (List (SS × (List Int))) × (List Int)) => p_between_L3 B (cnt : Int) kd x12 s12.1 s12.2) (fun pre s => Sofd n l s.1 s.2 ∧ (∀ y ∈ seen, y ∈ s.2) ∧ (∀ x ∈ pre, (nbl l x).length = cnt → x ∈ s.2) ∧ s.1.length ≤ found.length + pre.length) ⟨S, fun _ h => h, fun _ h => (nomatch h), by simp⟩ fun pre x post s e ⟨S1, h1, h2, h3⟩ => by
    have hpl : pre.length < n := by
      have := congrArg List.length e
      simp at this
      omega
    have hx : nbl l x ≠ [] := b.key.mp (pm.mem_iff.mp (by rw [e]; simp))
    obtain ⟨f', s', e1, S2, q1, q2, q3⟩ := stage_L3 G b hn S1 (by omega) (hk.imp id fun ⟨a, b, c⟩ => ⟨a, b, fun x hx => h1 x (c x hx)⟩) hx
    refine ⟨(f', s'), e1, S2, fun y hy => q1 y (h1 y hy), fun y hy hc => ?_, ?_⟩
    · rcases List.mem_append.mp hy with hy | hy
      · exact q1 y (h2 y hy hc)
      · rw [List.mem_singleton.mp hy] at hc ⊢
        exact q2 hc
    · show f'.length ≤ _
      rw [List.length_append, List.length_singleton]
      omega
  rw [e, bindO_s]
  refine ⟨s.1, s.2, rfl, S1, h1, fun x hc => ?_, by omega⟩
  refine h2 x (pm.mem_iff.mpr (b.key.mpr fun z => ?_)) hc
  rw [z] at hc
  simp at hc
  omega
def sym (one other : Pairs) : Pairs := one.filter (fun p => !decide (p ∈ other)) ++ other.filter (fun p => !decide (p ∈ one))
theorem mem_sym {one other : Pairs} {p : Int × Int} : p ∈ sym one other ↔ (p ∈ one ∧ p ∉ other) ∨ (p ∈ other ∧ p ∉ one) := by
  unfold sym
  simp
theorem between_eq {n : Nat} {one other : Pairs} (G : Gph n (sym one other)) (hn : n ≤ 24) (h1 : one.length ≤ 400) (h2 : other.length ≤ 400) : ∃ T, p_between one other = some T ∧ Dec (sym one other) T ∧ T.length ≤ 100 := by
  unfold p_between
  have f1 := List.length_filter_le (fun p => !decide (p ∈ other)) one
  have f2 := List.length_filter_le (fun p => !decide (p ∈ one)) other
  rw [letB_eq, List.map_id', big_e (by omega), bindO_s, List.map_id', big_e (by omega), bindO_s, catO_e (by omega), bindO_s]
  have hsl : (sym one other).length ≤ 1000 := by unfold sym; rw [List.length_append]; omega
  obtain ⟨B, eB, b⟩ := beside_loop hsl G.lt
  have eB' : forS (one.filter (fun y1 => !decide (y1 ∈ other)) ++ other.filter (fun y3 => !decide (y3 ∈ one))) [] (fun (x6 : Int × Int) (s6 : (List (Int × (List Int)))) => p_between_L1 x6.1 x6.2 s6) = some B := eB
  rw [eB', bindO_s, letB_eq, letB_eq]
  generalize sym one other = l at *
  obtain ⟨fo1, se1, e1, S1, _, q1, l1⟩ := stage_L2 (found := []) (seen := []) (cnt := 1) (kd := sRow) G b hn ⟨fun _ h => (nomatch h), List.nodup_nil, rfl, fun _ h => (nomatch h)⟩ (by simp) (.inl ⟨rfl, rfl⟩) (by decide)
  obtain ⟨fo2, se2, e2, S2, up, q2, l2⟩ := stage_L2 (cnt := 2) (kd := sRing) G b hn S1 (by simp at l1; omega) (.inr ⟨rfl, rfl, q1⟩) (by decide)
  have loop : forS ([((1 : Int), (mkS "row" (by decide +kernel))), ((2 : Int), (mkS "ring" (by decide +kernel)))]) (([] : List Told), ([] : List Int)) (fun (x13 : Int × SS) (s13 : (List (SS × (List Int))) × (List Int)) => p_between_L2 B x13.1 x13.2 s13.1 s13.2) = some (fo2, se2) := by
    unfold forS
    show bindO (p_between_L2 B ((1 : Nat) : Int) sRow [] []) _ = _
    rw [e1, bindO_s]
    unfold forS
    show bindO (p_between_L2 B ((2 : Nat) : Int) sRing fo1 se1) _ = _
    rw [e2, bindO_s]
    rfl
  rw [loop, bindO_s]
  refine ⟨fo2, rfl, ⟨S2.trk, ?_, fun p hp => ?_⟩, by simp at l1; omega⟩
  · rw [← S2.eq]; exact S2.nd
  · obtain ⟨y, hy, _⟩ := G.other hp (.inl rfl)
    have hm : p.1 ∈ se2 := by
      have d := G.deg p.1
      have d0 : (nbl l p.1).length ≠ 0 := fun z => by rw [List.length_eq_zero_iff.mp z] at hy; cases hy
      by_cases d1 : (nbl l p.1).length = 1
      · exact up _ (q1 _ d1)
      · exact q2 _ (by omega)
    rw [S2.eq, List.mem_flatMap] at hm
    exact hm
end Pr
set_option Elab.async false
set_option linter.all false
set_option maxRecDepth 100000
namespace Pr
open PySem PySem.Spec L2 Ev Tg
abbrev onp (x : Int) (p : Int × Int) : Prop := x = p.1 ∨ x = p.2
theorem Mt.uniq {C : Pairs} (m : Mt C) {p q : Int × Int} {x : Int} (hp : p ∈ C) (hq : q ∈ C) (h1 : onp x p) (h2 : onp x q) : p = q := by
  have l1 := m.lt p hp
  have l2 := m.lt q hq
  have get : ∀ {p : Int × Int}, p ∈ C → onp x p → ∃ y, mate C x = some y ∧ p = tk x y := fun {p} hp h => by
    have l := m.lt p hp
    rcases h with rfl | rfl
    · exact ⟨p.2, (mate_iff m).mpr (.inl hp), Prod.ext (by show p.1 = min p.1 p.2; omega) (by show p.2 = max p.1 p.2; omega)⟩
    · exact ⟨p.1, (mate_iff m).mpr (.inr hp), Prod.ext (by show p.1 = min p.2 p.1; omega) (by show p.2 = max p.2 p.1; omega)⟩
  obtain ⟨y, e1, rfl⟩ := get hp h1
  obtain ⟨z, e2, rfl⟩ := get hq h2
  rw [e1] at e2
  cases e2
  rfl
theorem Mt.nodup {C : Pairs} (m : Mt C) : C.Nodup := by
  have := m.nd
  clear m
  induction C with
  | nil => exact List.nodup_nil
  | cons p R ih =>
    rw [pts_cons] at this
    simp only [List.nodup_cons, List.mem_cons, not_or] at this
    exact List.nodup_cons.mpr ⟨fun hp => this.1.2 (mem_pts.mpr ⟨p, hp, .inl rfl⟩), ih this.2.2⟩
theorem Mt.of {C : Pairs} (lt : ∀ p ∈ C, p.1 < p.2) (nd : C.Nodup) (u : ∀ p q x, p ∈ C → q ∈ C → onp x p → onp x q → p = q) : Mt C := by
  refine ⟨lt, ?_⟩
  induction C with
  | nil => exact List.nodup_nil
  | cons p C ih =>
    rw [List.nodup_cons] at nd
    have ih := ih (fun q hq => lt q (List.mem_cons_of_mem _ hq)) nd.2 fun a b x ha hb => u a b x (List.mem_cons_of_mem _ ha) (List.mem_cons_of_mem _ hb)
    have hp := lt p List.mem_cons_self
    have no : ∀ x, onp x p → x ∉ pts C := fun x hx hm => by
      obtain ⟨q, hq, e⟩ := mem_pts.mp hm
      exact nd.1 ((u p q x List.mem_cons_self (List.mem_cons_of_mem _ hq) hx e) ▸ hq)
    rw [pts_cons]
    simp only [List.nodup_cons, List.mem_cons, not_or]
    exact ⟨⟨by omega, no _ (.inl rfl)⟩, no _ (.inr rfl), ih⟩
theorem Mt.nbl {C : Pairs} (m : Mt C) (x : Int) : (nbl C x).length ≤ 1 := by
  induction C with
  | nil => simp [Pr.nbl]
  | cons p C ih =>
    have m' : Mt C := m.sub (List.sublist_cons_self p C)
    have ih := ih m'
    have nd := m.nd
    rw [pts_cons] at nd
    simp only [List.nodup_cons, List.mem_cons, not_or] at nd
    unfold Pr.nbl at ih ⊢
    rw [List.filterMap_cons]
    cases e : mt1 x p with
    | none => exact ih
    | some y =>
      have hx : x ∉ pts C := by
        rcases mt1_some e with ⟨h, _⟩ | ⟨h, _⟩
        · rw [← h]; exact nd.1.2
        · rw [← h]; exact nd.2.1
      have : C.filterMap (mt1 x) = [] := by
        rw [List.filterMap_eq_nil_iff]
        intro q hq
        unfold mt1
        rw [if_neg fun e => hx (mem_pts.mpr ⟨q, hq, .inl e.symm⟩), if_neg fun e => hx (mem_pts.mpr ⟨q, hq, .inr e.symm⟩)]
      rw [this]
      simp
theorem gph_of {n : Nat} {A B : Pairs} (ma : Mt A) (mb : Mt B) (ra : ∀ p ∈ A, 0 ≤ p.1 ∧ p.2 < (n : Int)) (rb : ∀ p ∈ B, 0 ≤ p.1 ∧ p.2 < (n : Int)) : Gph n (sym A B) := by
  refine ⟨fun p hp => ?_, ?_, fun x => ?_⟩
  · rcases mem_sym.mp hp with ⟨h, _⟩ | ⟨h, _⟩
    · exact ⟨(ra p h).1, ma.lt p h, (ra p h).2⟩
    · exact ⟨(rb p h).1, mb.lt p h, (rb p h).2⟩
  · unfold sym
    rw [List.nodup_append]
    refine ⟨List.Pairwise.filter _ ma.nodup, List.Pairwise.filter _ mb.nodup, fun a ha b hb => ?_⟩
    simp at ha hb
    rintro rfl
    exact ha.2 hb.1
  · unfold sym
    rw [nbl_app, List.length_append]
    have h1 := (ma.sub (a := A.filter fun p => !decide (p ∈ B)) List.filter_sublist).nbl x
    have h2 := (mb.sub (a := B.filter fun p => !decide (p ∈ A)) List.filter_sublist).nbl x
    omega
theorem eds_al {t : Told} {l : Pairs} (T : Trk l t) : ∀ p ∈ al t.2, p ∈ l := fun p hp => by
  rcases T.kd with h | ⟨h, h3⟩
  · exact T.sub p (by unfold eds; rw [if_pos h]; exact hp)
  · refine T.sub p ?_
    unfold eds
    rw [if_neg (by rw [h]; exact fun z => row_ring z.symm)]
    obtain ⟨k, hk, ek⟩ := List.getElem_of_mem hp
    obtain ⟨a, b, h1, h2, rfl⟩ := al_at (List.getElem?_eq_some_iff.mpr ⟨hk, ek⟩)
    exact List.mem_of_getElem? (rg_get h1 (.inl ⟨(List.getElem?_eq_some_iff.mp h2).1, h2⟩))
theorem Trk.wk {l : Pairs} {t : Told} (T : Trk l t) : Wk l t.2 := ⟨T.nd, eds_al T⟩
theorem Trk.same {n : Nat} {l : Pairs} (G : Gph n l) {t u : Told} (T : Trk l t) (U : Trk l u) {x : Int} (h1 : x ∈ t.2) (h2 : x ∈ u.2) : ∀ y ∈ t.2, y ∈ u.2 := by
  have w := T.wk
  have st : ∀ (i : Nat) (a b : Int), t.2[i]? = some a → t.2[i + 1]? = some b → (a ∈ u.2 ↔ b ∈ u.2) := fun i a b ha hb => by
    have := w.step G ha hb
    exact ⟨fun z => U.nbr G z this.1, fun z => U.nbr G z this.2⟩
  have z0 : ∀ (i : Nat) (a b : Int), t.2[0]? = some a → t.2[i]? = some b → (a ∈ u.2 ↔ b ∈ u.2) := by
    intro i
    induction i with
    | zero => intro a b ha hb; rw [ha] at hb; cases hb; exact Iff.rfl
    | succ i ih =>
      intro a b ha hb
      have hi := (List.getElem?_eq_some_iff.mp hb).1
      have g : t.2[i]? = some t.2[i] := List.getElem?_eq_getElem (by omega)
      exact (ih a _ ha g).trans (st i _ _ g hb)
  intro y hy
  obtain ⟨i, hi, ei⟩ := List.getElem_of_mem h1
  obtain ⟨j, hj, ej⟩ := List.getElem_of_mem hy
  have g0 : t.2[0]? = some t.2[0] := List.getElem?_eq_getElem (by omega)
  exact (z0 j _ _ g0 (List.getElem?_eq_some_iff.mpr ⟨hj, ej⟩)).mp ((z0 i _ _ g0 (List.getElem?_eq_some_iff.mpr ⟨hi, ei⟩)).mpr h2)
theorem Trk.ne {l : Pairs} {t : Told} (T : Trk l t) : ∃ x, x ∈ t.2 := by
  have := T.two
  exact ⟨t.2[0], List.getElem_mem (by omega)⟩
theorem Dec.keys {l : Pairs} {T : List Told} (D : Dec l T) : (T.map fun t => sortI t.2).Nodup := by
  have h1 := D.trk
  have h2 := D.nd
  clear D
  induction T with
  | nil => exact List.nodup_nil
  | cons t T ih =>
    rw [List.flatMap_cons, List.nodup_append] at h2
    rw [List.map_cons, List.nodup_cons]
    refine ⟨fun hm => ?_, ih (fun u hu => h1 u (List.mem_cons_of_mem _ hu)) h2.2.1⟩
    obtain ⟨u, hu, e⟩ := List.mem_map.mp hm
    obtain ⟨x, hx⟩ := (h1 t List.mem_cons_self).ne
    have hxu : x ∈ u.2 := by
      have := (permI t.2).mem_iff.mpr hx
      rw [← e] at this
      exact (permI u.2).mem_iff.mp this
    exact h2.2.2 x hx x (List.mem_flatMap.mpr ⟨u, hu, hxu⟩) rfl
theorem Dec.find {n : Nat} {l : Pairs} (G : Gph n l) {T T' : List Told} (D : Dec l T) (D' : Dec l T') {t : Told} (ht : t ∈ T) : ∃ u ∈ T', sortI u.2 = sortI t.2 := by
  have Tt := D.trk t ht
  have h2 := Tt.two
  have g0 : t.2[0]? = some t.2[0] := List.getElem?_eq_getElem (by omega)
  have g1 : t.2[1]? = some t.2[1] := List.getElem?_eq_getElem (by omega)
  have hp := List.mem_of_getElem? (al_get g0 g1)
  obtain ⟨u, hu, hm⟩ := D'.cov _ (eds_al Tt _ hp)
  have hm' := (al_mem hp).1
  have Tu := D'.trk u hu
  exact ⟨u, hu, up_uniq (sortI_up Tu.nd) (sortI_up Tt.nd) fun y => by
    rw [(permI _).mem_iff, (permI _).mem_iff]
    exact ⟨Tu.same G Tt hm hm' y, Tt.same G Tu hm' hm y⟩⟩
theorem Dec.len {n : Nat} {l : Pairs} (G : Gph n l) {T T' : List Told} (D : Dec l T) (D' : Dec l T') : T.length = T'.length := by
  have := (perm_of_iff D.keys D'.keys fun a => by
    rw [List.mem_map, List.mem_map]
    constructor
    · rintro ⟨t, ht, rfl⟩
      exact D.find G D' ht
    · rintro ⟨t, ht, rfl⟩
      exact D'.find G D ht).length_eq
  simpa using this
theorem Dec.iff {l l' : Pairs} {T : List Told} (h : ∀ p, p ∈ l ↔ p ∈ l') (D : Dec l T) : Dec l' T :=
  ⟨fun t ht => let Z := D.trk t ht; ⟨Z.kd, Z.nd, Z.two, fun p hp => (h p).mp (Z.sub p hp), fun p hp => Z.cl p ((h p).mpr hp)⟩, D.nd, fun p hp => D.cov p ((h p).mpr hp)⟩
theorem Dec.perm {l : Pairs} {T T' : List Told} (h : T.Perm T') (D : Dec l T) : Dec l T' :=
  ⟨fun t ht => D.trk t (h.mem_iff.mpr ht), (h.flatMap_right _).nodup_iff.mp D.nd, fun p hp => let ⟨t, ht, z⟩ := D.cov p hp; ⟨t, h.mem_iff.mp ht, z⟩⟩
theorem Dec.tail {l l' : Pairs} {t : Told} {T : List Told} (D : Dec l (t :: T)) (h : ∀ p, p ∈ l' ↔ p ∈ l ∧ p ∉ eds t) : Dec l' T := by
  have nd := D.nd
  rw [List.flatMap_cons, List.nodup_append] at nd
  have Tt := D.trk t List.mem_cons_self
  have dj : ∀ u ∈ T, ∀ x ∈ u.2, x ∉ t.2 := fun u hu x hx hm => nd.2.2 x hm x (List.mem_flatMap.mpr ⟨u, hu, hx⟩) rfl
  refine ⟨fun u hu => ?_, nd.2.1, fun p hp => ?_⟩
  · have U := D.trk u (List.mem_cons_of_mem _ hu)
    exact ⟨U.kd, U.nd, U.two, fun p hp => (h p).mpr ⟨U.sub p hp, fun z => dj u hu _ (eds_mem hp).1 (eds_mem z).1⟩, fun p hp => U.cl p ((h p).mp hp).1⟩
  · obtain ⟨h1, h2⟩ := (h p).mp hp
    obtain ⟨u, hu, hm⟩ := D.cov p h1
    rcases List.mem_cons.mp hu with rfl | hu
    · exact absurd (Tt.cl p h1 (.inl hm)) h2
    · exact ⟨u, hu, hm⟩
end Pr
set_option Elab.async false
set_option linter.all false
set_option maxRecDepth 100000
namespace Pr
open PySem PySem.Spec L2 Ev Tg
theorem along_eq {row : List Int} (h : row.length ≤ 100000) : p_ties_along row = some (al row) := by
  unfold p_ties_along
  rw [cut_1, lcM_map (fun y => tk y.1 y.2) (fun y _ => by
    unfold p_tie_of
    rw [bindO_s, minI_eq, maxI_eq]), bindO_s, al_zip, big_e (by rw [al_len]; omega), bindO_s]
end Pr
set_option Elab.async false
set_option linter.all false
set_option maxRecDepth 100000
namespace Pr
open PySem PySem.Spec L2 Ev Tg
open PyProof.Rows hiding St
def xch (ps l : Pairs) : Pairs := sort2 (ps.filter (fun p => !decide (p ∈ l)) ++ l.filter (fun p => !decide (p ∈ ps)))
theorem mem_xch {ps l : Pairs} {p : Int × Int} : p ∈ xch ps l ↔ (p ∈ ps ∧ p ∉ l) ∨ (p ∈ l ∧ p ∉ ps) := by
  unfold xch
  rw [(perm2 _).mem_iff]
  simp
end Pr
set_option Elab.async false
set_option linter.all false
set_option maxRecDepth 100000
namespace Pr
open PySem PySem.Spec L2 Ev Tg
open PyProof.Rows hiding St
theorem exchanged_eq {ps : Pairs} {row : List Int} (h : row.length ≤ 100000) (hp : ps.length ≤ 100000) : p_exchanged ps row = some (xch ps (al row)) := by
  unfold p_exchanged
  have h1 := List.length_filter_le (fun p => !decide (p ∈ al row)) ps
  have h2 := List.length_filter_le (fun p => !decide (p ∈ ps)) (al row)
  have h3 := al_len row
  rw [along_eq h, bindO_s, letB_eq, List.map_id', big_e (by omega), bindO_s, letB_eq, List.map_id', big_e (by omega), bindO_s, catO_e (by omega), bindO_s]
  rfl
end Pr
set_option Elab.async false
set_option linter.all false
set_option maxRecDepth 100000
namespace Pr
open PySem PySem.Spec L2 Ev Tg
structure Xch (C O C' : Pairs) (E : Pairs) : Prop where
  mem : ∀ p, p ∈ C' ↔ (p ∈ C ∧ p ∉ E) ∨ (p ∈ E ∧ p ∉ C)
  mt : Mt C'
  sub : ∀ p ∈ C', p ∈ C ∨ p ∈ O
  sym : ∀ p, p ∈ sym C' O ↔ p ∈ sym C O ∧ p ∉ E
theorem xch_ok {C O : Pairs} {t : Told} (mc : Mt C) (mo : Mt O) (T : Trk (sym C O) t) (nd : (eds t).Nodup) : Xch C O (xch C (eds t)) (eds t) := by
  have inO : ∀ p, p ∈ eds t → p ∉ C → p ∈ O := fun p h h2 => (mem_sym.mp (T.sub p h)).elim (fun z => absurd z.1 h2) fun z => z.1
  have sub : ∀ p ∈ xch C (eds t), p ∈ C ∨ p ∈ O := fun p hp => (mem_xch.mp hp).imp (fun z => z.1) fun z => inO p z.1 z.2
  refine ⟨fun p => mem_xch, Mt.of (fun p hp => (sub p hp).elim (mc.lt p) (mo.lt p)) ?_ fun p q x hp hq h1 h2 => ?_, sub, fun p => ?_⟩
  · unfold xch
    refine (perm2 _).nodup_iff.mpr ?_
    rw [List.nodup_append]
    refine ⟨List.Pairwise.filter _ mc.nodup, List.Pairwise.filter _ nd, fun a ha b hb => ?_⟩
    simp at ha hb
    rintro rfl
    exact ha.2 hb.1
  · have cross : ∀ p q, p ∈ C → p ∉ eds t → q ∈ eds t → q ∉ C → onp x p → onp x q → p = q := fun p q a1 a2 b1 b2 h1 h2 => by
      by_cases po : p ∈ O
      · exact mo.uniq po (inO q b1 b2) h1 h2
      · exfalso
        refine a2 (T.cl p (mem_sym.mpr (.inl ⟨a1, po⟩)) ?_)
        have := eds_mem b1
        have hx : x ∈ t.2 := by rcases h2 with rfl | rfl; exact this.1; exact this.2
        rcases h1 with rfl | rfl
        · exact .inl hx
        · exact .inr hx
    rcases mem_xch.mp hp with ⟨a1, a2⟩ | ⟨a1, a2⟩ <;> rcases mem_xch.mp hq with ⟨b1, b2⟩ | ⟨b1, b2⟩
    · exact mc.uniq a1 b1 h1 h2
    · exact cross p q a1 a2 b1 b2 h1 h2
    · exact (cross q p b1 b2 a1 a2 h2 h1).symm
    · exact mo.uniq (inO p a1 a2) (inO q b1 b2) h1 h2
  · rw [mem_sym, mem_sym, mem_xch]
    have e := T.sub p
    rw [mem_sym] at e
    by_cases a : p ∈ C <;> by_cases b : p ∈ O <;> by_cases c : p ∈ eds t <;> simp [a, b, c] at e ⊢
end Pr
set_option Elab.async false
set_option linter.all false
set_option maxRecDepth 100000
namespace Pr
open PySem PySem.Spec L2 Ev Tg
theorem exchanged_ring_eq {ps : Pairs} {ring : List Int} (h : ring.length ≤ 1000) (hp : ps.length ≤ 1000) : p_exchanged_ring ps ring = some (xch ps (rg ring)) := by
  unfold p_exchanged_ring
  have : (ring.take 1).length ≤ 1 := by rw [List.length_take]; omega
  rw [cut_t1, catO_e (by omega), bindO_s, exchanged_eq (by rw [List.length_append]; omega) (by omega), bindO_s]
  rfl
end Pr
set_option Elab.async false
set_option linter.all false
set_option maxRecDepth 100000
namespace Pr
open PySem PySem.Spec L2 Ev Tg
theorem eds_nd {t : Told} {l : Pairs} (T : Trk l t) : (eds t).Nodup := by
  unfold eds
  rcases T.kd with h | ⟨h, h3⟩
  · rw [if_pos h]; exact al_nd T.nd
  · rw [if_neg (by rw [h]; exact fun z => row_ring z.symm)]; exact rg_nd T.nd h3
structure Mid (C O P Q : Pairs) : Prop where
  mp : Mt P
  mq : Mt Q
  both : ∀ p, (p ∈ P ∧ p ∈ Q) ↔ (p ∈ C ∧ p ∈ O)
  any : ∀ p, (p ∈ P ∨ p ∈ Q) ↔ (p ∈ C ∨ p ∈ O)
theorem Mid.sym {C O P Q : Pairs} (m : Mid C O P Q) (p : Int × Int) : p ∈ sym P Q ↔ p ∈ sym C O := by
  have h1 := m.both p
  have h2 := m.any p
  rw [mem_sym, mem_sym]
  by_cases a : p ∈ P <;> by_cases b : p ∈ Q <;> by_cases c : p ∈ C <;> by_cases d : p ∈ O <;> simp [a, b, c, d] at h1 h2 ⊢
theorem Trk.iff {l l' : Pairs} {t : Told} (T : Trk l t) (h : ∀ p, p ∈ l ↔ p ∈ l') : Trk l' t := ⟨T.kd, T.nd, T.two, fun p hp => (h p).mp (T.sub p hp), fun p hp => T.cl p ((h p).mpr hp)⟩
theorem Mid.step {C O P Q : Pairs} (m : Mid C O P Q) {t : Told} (T : Trk (Pr.sym C O) t) : Mid C O (xch P (eds t)) (xch Q (eds t)) := by
  have T1 : Trk (Pr.sym P Q) t := T.iff fun p => (m.sym p).symm
  have T2 : Trk (Pr.sym Q P) t := T.iff fun p => by rw [← m.sym p, mem_sym, mem_sym]; exact Or.comm
  have X1 := xch_ok m.mp m.mq T1 (eds_nd T)
  have X2 := xch_ok m.mq m.mp T2 (eds_nd T)
  refine ⟨X1.mt, X2.mt, fun p => ?_, fun p => ?_⟩
  · rw [X1.mem, X2.mem, ← m.both p]
    have e := T1.sub p
    rw [mem_sym] at e
    by_cases a : p ∈ P <;> by_cases b : p ∈ Q <;> by_cases c : p ∈ eds t <;> simp [a, b, c] at e ⊢
  · rw [X1.mem, X2.mem, ← m.any p]
    have e := T1.sub p
    rw [mem_sym] at e
    by_cases a : p ∈ P <;> by_cases b : p ∈ Q <;> by_cases c : p ∈ eds t <;> simp [a, b, c] at e ⊢
theorem Mid.perm {C O P Q : Pairs} (mc : Mt C) (mo : Mt O) (m : Mid C O P Q) : (P ++ Q).Perm (C ++ O) := by
  rw [List.perm_iff_count]
  intro p
  rw [List.count_append, List.count_append]
  have h1 := m.both p
  have h2 := m.any p
  have cnt : ∀ {X : Pairs}, Mt X → X.count p = if p ∈ X then 1 else 0 := fun {X} mx => by
    have nd := mx.nodup
    split
    · rename_i h
      have a := List.nodup_iff_count.mp nd p
      have b := List.count_pos_iff.mpr h
      omega
    · rename_i h
      exact List.count_eq_zero.mpr h
  rw [cnt m.mp, cnt m.mq, cnt mc, cnt mo]
  by_cases a : p ∈ P <;> by_cases b : p ∈ Q <;> by_cases c : p ∈ C <;> by_cases d : p ∈ O <;> simp [a, b, c, d] at h1 h2 ⊢
end Pr
set_option Elab.async false
set_option linter.all false
set_option maxRecDepth 100000
namespace Pr
open PySem PySem.Spec L2 Ev Tg
open PyProof.Rows hiding St
abbrev Tp := Int × Int
def tch (p q : Tp) : Prop := q.1 = p.1 ∨ q.2 = p.1 ∨ q.1 = p.2 ∨ q.2 = p.2
def tchB (p q : Tp) : Bool := (q.1 == p.1 || q.2 == p.1) || (q.1 == p.2 || q.2 == p.2)
theorem tchB_iff {p q : Tp} : tchB p q = true ↔ tch p q := by
  unfold tchB tch
  simp only [Bool.or_eq_true, beq_iff_eq]
  constructor
  · rintro ((h | h) | (h | h)) <;> simp [h]
  · rintro (h | h | h | h) <;> simp [h]
theorem tch_comm {p q : Tp} (h : tch p q) : tch q p := by
  unfold tch at *
  omega
def Shut (l : Pairs) (E : Tp → Prop) : Prop := ∀ p q, E p → q ∈ l → tch p q → E q
structure Hc (l h : Pairs) : Prop where
  ne : h ≠ []
  sub : ∀ p ∈ h, p ∈ l
  shut : ∀ p ∈ h, ∀ q ∈ l, tch p q → q ∈ h
  min : ∃ s ∈ h, ∀ E, Shut l E → E s → ∀ p ∈ h, E p
theorem Hc.all {l h : Pairs} (c : Hc l h) {E : Tp → Prop} (sh : Shut l E) {p : Tp} (hp : p ∈ h) (e : E p) : ∀ q ∈ h, E q := by
  obtain ⟨s, hs, m⟩ := c.min
  by_cases es : E s
  · exact m E sh es
  · exfalso
    have := m (fun q => q ∈ l ∧ ¬ E q) (fun a b ⟨ha, na⟩ hb t => ⟨hb, fun eb => na (sh b a eb ha (tch_comm t))⟩) ⟨c.sub s hs, es⟩ p hp
    exact this.2 e
structure Hps (l : Pairs) (H : List Pairs) : Prop where
  all : ∀ h ∈ H, Hc l h ∧ sort2 h = h
  perm : H.flatten.Perm l
theorem pop0 {l : Pairs} {a : Tp} {r : Pairs} (e : l = a :: r) (hl : l.length ≤ 1000000) : popAO l 0 = some (r, a) := by
  subst e
  unfold popAO
  rw [if_pos hl]
  have : L2.ixN (a :: r).length 0 = some 0 := by
    unfold L2.ixN
    rw [if_pos (by decide), if_pos (by simp)]
    rfl
  rw [this]
  rfl
structure In1 (R0 : Pairs) (a : Tp) (s : Pairs × Pairs × Int) : Prop where
  pm : (s.2.1 ++ s.1).Perm R0
  k0 : 0 ≤ s.2.2
  kl : s.2.2 ≤ s.2.1.length
  cl : ∀ (i : Nat) p q, (i : Int) < s.2.2 → s.2.1[i]? = some p → q ∈ s.1 → ¬ tch p q
  hd : s.2.1.head? = some a
  re : ∀ E, Shut R0 E → E a → ∀ p ∈ s.2.1, E p
theorem inner_loop {R0 : Pairs} {a : Tp} {r : Pairs} (e : R0 = a :: r) (nd : R0.Nodup) (hl : R0.length ≤ 1000) :
    ∃ s, whS fuel (r, [a], (0 : Int)) (fun (s9 : (List (Int × Int)) × (List (Int × Int)) × Int) => (some (decide (s9.2.2 < (s9.2.1.length : Int))))) (fun (s9 : (List (Int × Int)) × (List (Int × Int)) × Int) => p_law_heaps_L2 s9.1 s9.2.1 s9.2.2) = some s ∧ In1 R0 a s ∧ ∀ p ∈ s.2.1, ∀ q ∈ s.1, ¬ tch p q := by
  obtain ⟨s, e1, I, c⟩ := whS_inv (s0 := (r, [a], (0 : Int))) (c := fun (s9 : (List (Int × Int)) × (List (Int × Int)) × Int) => (some (decide (s9.2.2 < (s9.2.1.length : Int))))) (f := fun (s9 : (List (Int × Int)) × (List (Int × Int)) × Int) => p_law_heaps_L2 s9.1 s9.2.1 s9.2.2) (In1 R0 a) (fun s => R0.length - s.2.2.toNat) (n := fuel) (fuel_big (by dsimp only; omega))
    ⟨by rw [e]; exact List.Perm.refl _, Int.le_refl _, by simp, fun i p q h => by simp at h; omega, rfl, fun E _ ea p hp => by rw [List.mem_singleton.mp hp]; exact ea⟩ fun ⟨rest, heap, k⟩ I => by
      obtain ⟨pm, k0, kl, cl, hd, re⟩ := I
      dsimp only at pm k0 kl cl hd re ⊢
      by_cases hk : k < (heap.length : Int)
      · right
        refine ⟨by rw [decide_eq_true hk], ?_⟩
        obtain ⟨j, rfl⟩ : ∃ j : Nat, k = j := ⟨k.toNat, by omega⟩
        have hj : j < heap.length := by omega
        have lp := pm.length_eq
        rw [List.length_append] at lp
        have ix : idx heap (j : Int) = some heap[j] := idx_lt hj
        have e2 : lcM rest (fun y2 => (bindO (idx heap (j : Int)) fun v3 => bindO (if (y2.1 == v3.1 || y2.2 == v3.1) = true then some true else (bindO (idx heap (j : Int)) fun v4 => some (y2.1 == v4.2 || y2.2 == v4.2))) fun v5 => some v5)) (fun y2 => (some y2)) = some (rest.filter (tchB heap[j])) := by
          refine (lcM_e (tchB heap[j]) (fun y => y) (fun y _ => ?_) (fun _ _ _ => rfl)).trans (by simp)
          rw [ix, bindO_s, bindO_s]
          unfold tchB
          by_cases h : (y.1 == heap[j].1 || y.2 == heap[j].1) = true
          · rw [if_pos h, bindO_s, h]
            rfl
          · have h2 := Bool.eq_false_iff.mpr h
            rw [if_neg h, bindO_s, h2]
            rfl
        have e3 : ((rest.filter fun y7 => (!(decide (y7 ∈ rest.filter (tchB heap[j]))))).map fun y7 => y7) = rest.filter fun q => !tchB heap[j] q := by
          rw [List.map_id']
          apply List.filter_congr
          intro q hq
          congr 1
          rw [Bool.eq_iff_iff, decide_eq_true_eq, List.mem_filter]
          exact ⟨fun z => z.2, fun z => ⟨hq, z⟩⟩
        have l1 := List.length_filter_le (tchB heap[j]) rest
        have l2 := List.length_filter_le (fun q => !tchB heap[j] q) rest
        unfold p_law_heaps_L2
        rw [e2, bindO_s, big_e (by omega), bindO_s]
        simp only [letB_eq]
        rw [e3, big_e (by omega), bindO_s]
        unfold extO
        rw [if_pos (by omega), bindO_s]
        have fp := List.filter_append_perm (tchB heap[j]) rest
        refine ⟨_, rfl, ⟨?_, by dsimp only; omega, by rw [List.length_append]; dsimp only; omega, fun i p q hi hp hq => ?_, ?_, fun E sh ea p hp => ?_⟩, ?_⟩
        · dsimp only
          rw [List.append_assoc]
          exact ((fp.append_left heap)).trans pm
        · dsimp only at hi hp hq
          obtain ⟨hq1, hq2⟩ := List.mem_filter.mp hq
          by_cases hij : i = j
          · subst hij
            rw [List.getElem?_append_left hj, List.getElem?_eq_getElem hj] at hp
            cases hp
            intro t
            rw [tchB_iff.mpr t] at hq2
            cases hq2
          · have : (i : Int) < j := by omega
            rw [List.getElem?_append_left (by omega)] at hp
            exact cl i p q this hp hq1
        · dsimp only
          cases heap with
          | nil => cases hd
          | cons x y => exact hd
        · rcases List.mem_append.mp hp with hp | hp
          · exact re E sh ea p hp
          · obtain ⟨hp1, hp2⟩ := List.mem_filter.mp hp
            exact sh _ _ (re E sh ea _ (List.getElem_mem hj)) (pm.mem_iff.mp (List.mem_append_right _ hp1)) (tchB_iff.mp hp2)
        · dsimp only
          omega
      · left
        rw [decide_eq_false hk]
  refine ⟨s, e1, I, fun p hp q hq t => ?_⟩
  obtain ⟨i, hi, rfl⟩ := List.getElem_of_mem hp
  have : ¬ s.2.2 < (s.2.1.length : Int) := of_decide_eq_false (Option.some.inj c)
  exact I.cl i _ q (by omega) (List.getElem?_eq_getElem hi) hq t
theorem heaps_eq {l : Pairs} (nd : l.Nodup) (hl : l.length ≤ 1000) : ∃ H, p_law_heaps l = some H ∧ Hps l H := by
  unfold p_law_heaps
  simp only [letB_eq]
  obtain ⟨s, e1, ⟨pm, all, hs⟩, c⟩ := whS_inv (s0 := (([] : List Pairs), l)) (c := fun (s10 : (List (List (Int × Int))) × (List (Int × Int))) => (some (!decide (s10.2 = ([] : List (Int × Int)))))) (f := fun (s10 : (List (List (Int × Int))) × (List (Int × Int))) => p_law_heaps_L1 s10.1 s10.2)
    (fun s => (s.1.flatten ++ s.2).Perm l ∧ (∀ h ∈ s.1, Hc l h ∧ sort2 h = h) ∧ s.1.length + s.2.length ≤ l.length) (fun s => s.2.length) (n := fuel) (fuel_big (by dsimp only; omega)) ⟨List.Perm.refl _, fun _ h => (nomatch h), by simp⟩ fun ⟨H, rest⟩ ⟨pm, all, hs⟩ => by
      dsimp only at pm all hs ⊢
      cases rest with
      | nil => left; rfl
      | cons a r =>
        right
        refine ⟨by simp, ?_⟩
        have ndl := pm.nodup_iff.mpr nd
        rw [List.nodup_append] at ndl
        have hl2 := pm.length_eq
        rw [List.length_append] at hl2
        obtain ⟨s, e2, I, far⟩ := inner_loop (R0 := a :: r) (a := a) (r := r) rfl ndl.2.1 (by omega)
        have lp := I.pm.length_eq
        rw [List.length_append] at lp
        have ha : a ∈ s.2.1 := List.mem_of_mem_head? I.hd
        have hpos : 0 < s.2.1.length := List.length_pos_of_mem ha
        unfold p_law_heaps_L1
        rw [pop0 rfl (by omega), bindO_s]
        simp only [letB_eq]
        rw [e2, bindO_s, appO_e (by omega), bindO_s]
        have sub0 : ∀ p ∈ s.2.1, p ∈ a :: r := fun p hp => I.pm.mem_iff.mp (List.mem_append_left _ hp)
        have inl : ∀ p ∈ a :: r, p ∈ l := fun p hp => pm.mem_iff.mp (List.mem_append_right _ hp)
        refine ⟨_, rfl, ⟨?_, fun h hh => ?_, ?_⟩, ?_⟩
        · dsimp only
          rw [List.flatten_append, List.append_assoc]
          refine List.Perm.trans ?_ pm
          refine List.Perm.append_left _ ?_
          simp only [List.flatten_cons, List.flatten_nil, List.append_nil]
          exact ((perm2 s.2.1).append_right s.1).trans I.pm
        · rcases List.mem_append.mp hh with hh | hh
          · exact all h hh
          · have := List.mem_singleton.mp hh
            subst this
            have mm : ∀ {p}, p ∈ sort2 s.2.1 ↔ p ∈ s.2.1 := (perm2 _).mem_iff
            refine ⟨⟨fun z => ?_, fun p hp => inl p (sub0 p (mm.mp hp)), fun p hp q hq t => ?_, a, mm.mpr ha, fun E sh ea p hp => I.re E (fun x y ex hy t => sh x y ex (inl y hy) t) ea p (mm.mp hp)⟩, sort2_id _⟩
            · have := mm.mpr ha
              rw [z] at this
              cases this
            · have hp := mm.mp hp
              rcases List.mem_append.mp (pm.mem_iff.mpr hq) with h1 | h1
              · exfalso
                obtain ⟨g, hg, hqg⟩ := List.mem_flatten.mp h1
                have hpg := (all g hg).1.shut q hqg p (inl p (sub0 p hp)) (tch_comm t)
                exact ndl.2.2 p (List.mem_flatten.mpr ⟨g, hg, hpg⟩) p (sub0 p hp) rfl
              · rcases List.mem_append.mp (I.pm.mem_iff.mpr h1) with h2 | h2
                · exact mm.mpr h2
                · exact absurd t (far p hp q h2)
        · dsimp only
          rw [List.length_append, List.length_singleton]
          rw [List.length_cons] at hs lp
          omega
        · dsimp only
          rw [List.length_cons] at lp ⊢
          omega
  rw [e1, bindO_s]
  have hz : s.2 = [] := by
    have := Option.some.inj c
    simpa using this
  refine ⟨s.1, rfl, all, ?_⟩
  rw [hz, List.append_nil] at pm
  exact pm
theorem chain {P : Int → Prop} {l : Pairs} (hP : ∀ x y, tk x y ∈ l → (P x ↔ P y)) : ∀ {vs : List Int}, (∀ p ∈ al vs, p ∈ l) → ∀ x ∈ vs, ∀ y ∈ vs, P x → P y
  | [], _, x, hx, _, _, _ => by cases hx
  | [a], _, x, hx, y, hy, h => by
    rw [List.mem_singleton.mp hx] at h
    rw [List.mem_singleton.mp hy]
    exact h
  | a :: b :: r, hl, x, hx, y, hy, h => by
    have hab := hP a b (hl _ (show tk a b ∈ tk a b :: al (b :: r) from List.mem_cons_self))
    have ih := chain hP (vs := b :: r) (fun p hp => hl p (show p ∈ tk a b :: al (b :: r) from List.mem_cons_of_mem _ hp))
    have hb : P b := by
      rcases List.mem_cons.mp hx with rfl | hx
      · exact hab.mp h
      · exact ih x hx b List.mem_cons_self h
    rcases List.mem_cons.mp hy with rfl | hy
    · exact hab.mpr hb
    · exact ih b List.mem_cons_self y hy hb
theorem Trk.whole {l : Pairs} {t : Told} (T : Trk l t) {E : Tp → Prop} (sh : Shut l E) {p : Tp} (hp : p ∈ eds t) (e : E p) : ∀ q ∈ eds t, E q := by
  have key : ∀ x ∈ t.2, ∀ y ∈ t.2, (∀ q ∈ l, q.1 = x ∨ q.2 = x → E q) → ∀ q ∈ l, q.1 = y ∨ q.2 = y → E q := by
    refine chain (P := fun x => ∀ q ∈ l, q.1 = x ∨ q.2 = x → E q) (l := l) (fun x y hxy => ?_) T.wk.al
    have step : ∀ a b, (min a b, max a b) ∈ l → (∀ q ∈ l, q.1 = a ∨ q.2 = a → E q) → ∀ q ∈ l, q.1 = b ∨ q.2 = b → E q := fun a b hab ha q hq hb => by
      have e1 := ha _ hab (by show min a b = a ∨ max a b = a; omega)
      refine sh _ _ e1 hq ?_
      unfold tch
      show q.1 = min a b ∨ q.2 = min a b ∨ q.1 = max a b ∨ q.2 = max a b
      omega
    exact ⟨step x y hxy, step y x (by have := tk_comm x y; unfold tk at this; rw [← this]; exact hxy)⟩
  have hpm := eds_mem hp
  have h1 : ∀ q ∈ l, q.1 = p.1 ∨ q.2 = p.1 → E q := fun q hq h => sh p q e hq (by unfold tch; omega)
  exact fun q hq => key p.1 hpm.1 q.1 (eds_mem hq).1 h1 q (T.sub q hq) (.inl rfl)
theorem eds_shut {l : Pairs} {t : Told} (T : Trk l t) : Shut l (· ∈ eds t) := fun p q hp hq h => by
  have m := eds_mem hp
  refine T.cl q hq ?_
  unfold tch at h
  rcases h with h | h | h | h
  · exact .inl (h ▸ m.1)
  · exact .inr (h ▸ m.1)
  · exact .inl (h ▸ m.2)
  · exact .inr (h ▸ m.2)
theorem eds_ne {l : Pairs} {t : Told} (T : Trk l t) : ∃ p, p ∈ eds t := by
  obtain ⟨x, hx⟩ := T.ne
  have h2 := T.two
  obtain ⟨a, b, r, e⟩ : ∃ a b r, t.2 = a :: b :: r := by
    match h : t.2, h2 with
    | a :: b :: r, _ => exact ⟨a, b, r, rfl⟩
    | [a], h2 => simp at h2
    | [], h2 => simp at h2
  have hal : tk a b ∈ al t.2 := by rw [e]; exact List.mem_cons_self
  exact ⟨_, T.cl _ (T.wk.al _ hal) (.inl (by
    rcases min_or' a b with ⟨h, _⟩ | ⟨h, _⟩
    · show min a b ∈ t.2; rw [h, e]; simp
    · show min a b ∈ t.2; rw [h, e]; simp))⟩
theorem flat_nd : ∀ {H : List Pairs}, H.flatten.Nodup → ∀ h ∈ H, h.Nodup
  | [], _, _, hh => by cases hh
  | g :: H, nd, h, hh => by
    rw [List.flatten_cons, List.nodup_append] at nd
    rcases List.mem_cons.mp hh with rfl | hh
    · exact nd.1
    · exact flat_nd nd.2.1 h hh
theorem erase_perm {α : Type} : ∀ {xs : List α} {j : Nat} (hj : j < xs.length), xs.Perm (xs[j] :: xs.eraseIdx j)
  | a :: xs, 0, _ => List.Perm.refl _
  | a :: xs, j + 1, hj => by
    have := erase_perm (xs := xs) (j := j) (by simpa using hj)
    exact (this.cons a).trans (List.Perm.swap _ _ _)
theorem heap_is {l : Pairs} (nd : l.Nodup) {H : List Pairs} (hp : Hps l H) {t : Told} (T : Trk l t) {h : Pairs} (hh : h ∈ H) {p : Tp} (h1 : p ∈ eds t) (h2 : p ∈ h) : sort2 (eds t) = h := by
  obtain ⟨c, s⟩ := hp.all h hh
  have hnd : h.Nodup := flat_nd (hp.perm.nodup_iff.mpr nd) h hh
  have pm : (eds t).Perm h := perm_of_iff (eds_nd T) hnd fun q => ⟨fun z => T.whole (E := (· ∈ h)) (fun a b ha hb tt => c.shut a ha b hb tt) h1 h2 q z, fun z => c.all (eds_shut T) h2 h1 q z⟩
  rw [← s]
  exact sort2_perm pm
theorem heaps_perm {l : Pairs} (nd : l.Nodup) {H : List Pairs} (hp : Hps l H) {T : List Told} (D : Dec l T) : H.Perm (T.map fun t => sort2 (eds t)) := by
  have ndf := hp.perm.nodup_iff.mpr nd
  have ndH : H.Nodup := by
    have h1 := hp.all
    clear D
    have h2 : H.flatten.Nodup := ndf
    clear ndf hp
    induction H with
    | nil => exact List.nodup_nil
    | cons h H ih =>
      rw [List.flatten_cons, List.nodup_append] at h2
      refine List.nodup_cons.mpr ⟨fun hm => ?_, ih (fun g hg => h1 g (List.mem_cons_of_mem _ hg)) h2.2.1⟩
      obtain ⟨p, hp⟩ := List.exists_mem_of_ne_nil h (h1 h List.mem_cons_self).1.ne
      exact h2.2.2 p hp p (List.mem_flatten.mpr ⟨h, hm, hp⟩) rfl
  have ndT : (T.map fun t => sort2 (eds t)).Nodup := by
    have h1 := D.trk
    have h2 := D.nd
    clear D
    induction T with
    | nil => exact List.nodup_nil
    | cons t T ih =>
      rw [List.flatMap_cons, List.nodup_append] at h2
      rw [List.map_cons, List.nodup_cons]
      refine ⟨fun hm => ?_, ih (fun u hu => h1 u (List.mem_cons_of_mem _ hu)) h2.2.1⟩
      obtain ⟨u, hu, e⟩ := List.mem_map.mp hm
      obtain ⟨p, hp⟩ := eds_ne (h1 t List.mem_cons_self)
      have hpu : p ∈ eds u := by
        have := (perm2 (eds t)).mem_iff.mpr hp
        rw [← e] at this
        exact (perm2 (eds u)).mem_iff.mp this
      exact h2.2.2 p.1 (eds_mem hp).1 p.1 (List.mem_flatMap.mpr ⟨u, hu, (eds_mem hpu).1⟩) rfl
  refine perm_of_iff ndH ndT fun h => ⟨fun hh => ?_, fun hh => ?_⟩
  · obtain ⟨p, hpm⟩ := List.exists_mem_of_ne_nil h (hp.all h hh).1.ne
    have hl := (hp.all h hh).1.sub p hpm
    obtain ⟨t, ht, hx⟩ := D.cov p hl
    have he := (D.trk t ht).cl p hl (.inl hx)
    exact List.mem_map.mpr ⟨t, ht, heap_is nd hp (D.trk t ht) hh he hpm⟩
  · obtain ⟨t, ht, rfl⟩ := List.mem_map.mp hh
    obtain ⟨p, hpe⟩ := eds_ne (D.trk t ht)
    obtain ⟨h, hh, hph⟩ := List.mem_flatten.mp (hp.perm.mem_iff.mpr ((D.trk t ht).sub p hpe))
    rw [heap_is nd hp (D.trk t ht) hh hpe hph]
    exact hh
theorem remO_perm {xs : List Pairs} {x : Pairs} (h : x ∈ xs) : ∃ ys, remO xs x = some ys ∧ xs.Perm (x :: ys) := by
  unfold remO
  cases e : xs.findIdx? (fun y => decide (y = x)) with
  | none =>
    rw [List.findIdx?_eq_none_iff] at e
    have := e x h
    simp at this
  | some j =>
    obtain ⟨hj, h1, _⟩ := List.findIdx?_eq_some_iff_getElem.mp e
    have hx : xs[j] = x := of_decide_eq_true h1
    refine ⟨_, rfl, ?_⟩
    have := erase_perm hj
    rw [hx] at this
    exact this
end Pr
set_option Elab.async false
set_option linter.all false
set_option maxRecDepth 100000
namespace Pr
open PySem PySem.Spec L2 Ev Tg
open PyProof.Rows hiding St
theorem steps_eq2 {n : Nat} {C O : Pairs} (hn : n ≤ 24) (mc : Mt C) (mo : Mt O) (rc : ∀ p ∈ C, 0 ≤ p.1 ∧ p.2 < (n : Int)) (ro : ∀ p ∈ O, 0 ≤ p.1 ∧ p.2 < (n : Int)) (lc : C.length ≤ 400) (lo : O.length ≤ 400) (sc : sort2 C = C) (so : sort2 O = O) :
    ∃ T l, p_steps C O = some l ∧ Dec (sym C O) T ∧ l.length = T.length + 1 ∧ l.head? = some C ∧ l.getLast? = some O ∧ l.length ≤ 101 ∧ (∀ P ∈ l, sort2 P = P ∧ ∃ Q, Mid C O P Q) ∧ ∀ k t P P', T[k]? = some t → l[k]? = some P → l[k + 1]? = some P' → P' = xch P (eds t) := by
  obtain ⟨T, eT, D, lT⟩ := between_eq (gph_of mc mo rc ro) hn lc lo
  unfold p_steps
  simp only [letB_eq]
  rw [eT, bindO_s]
  obtain ⟨⟨P, l⟩, e, h1, h2, h3, h4, h5, ⟨Q, m⟩, h7, h8, h9⟩ := forS_inv (xs := T) (s0 := (C, [C])) (f := fun (x3 : SS × (List Int)) (s3 : (List (Int × Int)) × (List (List (Int × Int)))) => p_steps_L1 x3 s3.1 s3.2)
    (fun pre s => s.2.length = pre.length + 1 ∧ s.2.head? = some C ∧ s.2.getLast? = some s.1 ∧ sort2 s.1 = s.1 ∧ s.1.length ≤ 800 ∧ (∃ Q, Mid C O s.1 Q) ∧ (∀ p, p ∈ s.1 ↔ (p ∈ C ∧ p ∉ pre.flatMap eds) ∨ (p ∉ C ∧ p ∈ pre.flatMap eds)) ∧ (∀ P ∈ s.2, sort2 P = P ∧ ∃ Q, Mid C O P Q) ∧ ∀ k t P P', pre[k]? = some t → s.2[k]? = some P → s.2[k + 1]? = some P' → P' = xch P (eds t))
    ⟨rfl, rfl, rfl, sc, show C.length ≤ 800 by omega, ⟨O, mc, mo, fun _ => Iff.rfl, fun _ => Iff.rfl⟩, fun p => by simp, fun P hP => by rw [List.mem_singleton.mp hP]; exact ⟨sc, O, mc, mo, fun _ => Iff.rfl, fun _ => Iff.rfl⟩, fun k t P P' h => by simp at h⟩ fun pre t post ⟨P, l⟩ e ⟨h1, h2, h3, h4, h5, ⟨Q, m⟩, h7, h8, h9⟩ => by
      dsimp only at h1 h2 h3 h4 h5 h7 h8 h9 ⊢
      have ht : t ∈ T := by rw [e]; simp
      have Tt := D.trk t ht
      have hpl : pre.length < T.length := by rw [e]; simp
      have nd := D.nd
      rw [e, List.flatMap_append, List.flatMap_cons, List.nodup_append] at nd
      have new : ∀ p ∈ eds t, p ∉ pre.flatMap eds := fun p hp hz => by
        obtain ⟨u, hu, hpu⟩ := List.mem_flatMap.mp hz
        have a := (eds_mem hpu).1
        have b := (eds_mem hp).1
        exact nd.2.2 p.1 (List.mem_flatMap.mpr ⟨u, hu, a⟩) p.1 (List.mem_append_left _ b) rfl
      have m2 := m.step Tt
      have rgt : t.2.length ≤ 1000 := by
        have hr : ∀ x ∈ t.2, 0 ≤ x ∧ x < (n : Int) := (Tt.wk).rg (gph_of mc mo rc ro) Tt.two
        have := nd_le Tt.nd hr
        omega
      have e1 : p_turned_along P t = some (xch P (eds t)) := by
        unfold p_turned_along
        simp only [letB_eq]
        unfold eds
        by_cases hk : t.1 = sRow
        · rw [if_pos (decide_eq_true hk), exchanged_eq (by omega) (by omega), bindO_s, if_pos hk]
        · rw [if_neg (by rw [decide_eq_true_eq]; exact hk), exchanged_ring_eq rgt (by omega), bindO_s, if_neg hk]
      have s2 : sort2 (xch P (eds t)) = xch P (eds t) := sort2_id _
      have l2 : (xch P (eds t)).length ≤ 800 := by
        have p1 : (xch P (eds t)).length + (xch Q (eds t)).length = C.length + O.length := by
          rw [← List.length_append, ← List.length_append]
          exact (m2.perm mc mo).length_eq
        omega
      unfold p_steps_L1
      rw [e1, bindO_s]
      simp only [letB_eq]
      rw [appO_e (by omega), bindO_s]
      refine ⟨_, rfl, by rw [List.length_append, List.length_append]; simp; omega, ?_, by simp, s2, l2, ⟨_, m2⟩, fun p => ?_, fun P' hP' => ?_, fun k u P1 P2 g1 g2 g3 => ?_⟩
      · cases l with
        | nil => cases h2
        | cons a l => exact h2
      · rw [mem_xch, h7]
        have hm : p ∈ List.flatMap eds (pre ++ [t]) ↔ p ∈ List.flatMap eds pre ∨ p ∈ List.flatMap eds [t] := by rw [List.flatMap_append, List.mem_append]
        rw [hm]
        have hf : p ∈ List.flatMap eds [t] ↔ p ∈ eds t := by simp
        rw [hf]
        by_cases c : p ∈ eds t
        · have := new p c
          simp [c, this]
        · simp [c]
      · rcases List.mem_append.mp hP' with h | h
        · exact h8 P' h
        · rw [List.mem_singleton.mp h]
          exact ⟨s2, _, m2⟩
      · by_cases hk : k < pre.length
        · rw [List.getElem?_append_left hk] at g1
          rw [List.getElem?_append_left (by omega)] at g2
          rw [List.getElem?_append_left (by omega)] at g3
          exact h9 k u P1 P2 g1 g2 g3
        · have hk2 : k = pre.length := by
            have := (List.getElem?_eq_some_iff.mp g1).1
            rw [List.length_append, List.length_singleton] at this
            omega
          subst hk2
          rw [List.getElem?_append_right (Nat.le_refl _), Nat.sub_self] at g1
          cases g1
          rw [List.getElem?_append_left (by omega)] at g2
          rw [List.getElem?_append_right (by omega), show pre.length + 1 - l.length = 0 by omega] at g3
          cases g3
          have : P1 = P := by
            rw [List.getLast?_eq_getElem?, show l.length - 1 = pre.length by omega, g2] at h3
            exact Option.some.inj h3
          rw [this]
  dsimp only at h1 h2 h3 h4 h5 h7 h8 h9
  have allE : ∀ p, p ∈ T.flatMap eds ↔ p ∈ sym C O := fun p => by
    rw [List.mem_flatMap]
    constructor
    · rintro ⟨t, ht, hp⟩
      exact (D.trk t ht).sub p hp
    · intro hp
      obtain ⟨t, ht, h⟩ := D.cov p hp
      exact ⟨t, ht, (D.trk t ht).cl p hp (.inl h)⟩
  have ePO : P = O := by
    have hm : ∀ p, p ∈ P ↔ p ∈ O := fun p => by
      rw [h7, allE, mem_sym]
      by_cases c : p ∈ C <;> by_cases o : p ∈ O <;> simp [c, o]
    have pm : P.Perm O := perm_of_iff m.mp.nodup mo.nodup hm
    rw [← h4, ← so]
    exact sort2_perm pm
  rw [e, bindO_s]
  exact ⟨T, l, rfl, D, h1, h2, by rw [h3, ePO], by omega, h8, h9⟩
end Pr
set_option Elab.async false
set_option linter.all false
namespace Pr
open PySem PySem.Spec L2 Ev Tg
theorem cell_bits {ns : List Int} (hb : ∀ z ∈ ns, Builtin.Int.intBits z ≤ 1048576) (i : Int) (h : 0 ≤ i) : ∃ c, p_law_cell_at ns i = some c ∧ Builtin.Int.intBits c ≤ 1048576 := by
  obtain ⟨k, rfl⟩ : ∃ k : Nat, i = k := ⟨i.toNat, by omega⟩
  unfold p_law_cell_at
  by_cases h : k < ns.length
  · rw [if_pos (by simpa using h), idx_lt h, bindO_s]
    exact ⟨_, rfl, hb _ (List.getElem_mem h)⟩
  · rw [if_neg (by simpa using h)]
    exact ⟨0, rfl, by decide⟩
end Pr
set_option Elab.async false
set_option linter.all false
set_option maxRecDepth 100000
namespace Pr
open PySem PySem.Spec L2 Ev Tg
open PyProof.Rows hiding St
theorem le2_no {p q : Int × Int} (h : q.1 < p.1) : leP2 p q = false := by
  have h1 : ¬ p.1 = q.1 := by omega
  have h2 : ¬ p.1 ≤ q.1 := by omega
  unfold leP2 leT
  simp [Ob.lexAt, h1, h2]
theorem unlike_eq {A B : Pairs} (hA : A.length ≤ 1000) (hB : B.length ≤ 1000) : p_law_unlike A B = some (sort2 (sym A B)) := by
  have l1 := List.length_filter_le (fun p => !decide (p ∈ B)) A
  have l2 := List.length_filter_le (fun p => !decide (p ∈ A)) B
  unfold p_law_unlike
  rw [List.map_id', big_e (by omega), bindO_s]
  simp only [letB_eq]
  rw [List.map_id', big_e (by omega), bindO_s, catO_e (by omega), bindO_s]
  rfl
structure MateOk (n : Nat) (m : List (Int × Int)) : Prop where
  nd : (m.map (·.1)).Nodup
  sy : ∀ a b, aget m a = some b → aget m b = some a ∧ a ≠ b ∧ 0 ≤ a ∧ a < (n : Int)
theorem aput_keys {m : List (Int × Int)} {k v : Int} (nd : (m.map (·.1)).Nodup) (h : ahas m k = false) : ((aput m k v).map (·.1)).Nodup := by
  rw [aput_new h, List.map_append, List.nodup_append]
  refine ⟨nd, by simp, fun a ha b hb e => ?_⟩
  have hb : b = k := by simpa using hb
  subst hb
  subst e
  obtain ⟨q, hq, e⟩ := List.mem_map.mp ha
  have : aget m q.1 = some q.2 := aget_mem' nd hq
  rw [e] at this
  have h2 : ahas m a = true := by rw [ahas_iff, this]; rfl
  rw [h] at h2
  cases h2
theorem MateOk.len {n : Nat} {m : List (Int × Int)} (o : MateOk n m) : m.length ≤ n := by
  have := nd_le (n := n) o.nd fun x hx => by
    obtain ⟨q, hq, rfl⟩ := List.mem_map.mp hx
    have := o.sy q.1 q.2 (aget_mem' o.nd hq)
    exact ⟨this.2.2.1, this.2.2.2⟩
  rwa [List.length_map] at this
theorem MateOk.put {n : Nat} {m : List (Int × Int)} (o : MateOk n m) {a b : Int} (ha : ahas m a = false) (hb : ahas m b = false) (ne : a ≠ b) (ra : 0 ≤ a ∧ a < (n : Int)) (rb : 0 ≤ b ∧ b < (n : Int)) : MateOk n (aput (aput m a b) b a) := by
  have hb2 : ahas (aput m a b) b = false := by
    rw [ahas_put, hb, Bool.or_false]
    exact decide_eq_false ne
  refine ⟨aput_keys (aput_keys o.nd ha) hb2, fun x y h => ?_⟩
  have na : ∀ z, aget m z ≠ some a := fun z hz => by
    have := (o.sy z a hz).1
    have h2 : ahas m a = true := by rw [ahas_iff, this]; rfl
    rw [ha] at h2
    cases h2
  have nb : ∀ z, aget m z ≠ some b := fun z hz => by
    have := (o.sy z b hz).1
    have h2 : ahas m b = true := by rw [ahas_iff, this]; rfl
    rw [hb] at h2
    cases h2
  rw [aget_put, aget_put] at h ⊢
  by_cases h1 : b = x
  · rw [if_pos h1] at h
    have : a = y := Option.some.inj h
    subst this
    subst h1
    rw [if_neg (fun z => ne z.symm), if_pos rfl]
    exact ⟨rfl, fun z => ne z.symm, rb⟩
  · rw [if_neg h1] at h
    by_cases h2 : a = x
    · rw [if_pos h2] at h
      have : b = y := Option.some.inj h
      subst this
      subst h2
      rw [if_pos rfl]
      exact ⟨rfl, ne, ra⟩
    · rw [if_neg h2] at h
      obtain ⟨g1, g2, g3⟩ := o.sy x y h
      have y1 : ¬ b = y := fun z => nb x (z ▸ h)
      have y2 : ¬ a = y := fun z => na x (z ▸ h)
      rw [if_neg y1, if_neg y2]
      exact ⟨g1, g2, g3⟩
theorem pairs_eq {n : Nat} (hn : n ≤ 24) {m : List (Int × Int)} (o : MateOk n m) : ∃ C, p_law_pairs m = some C ∧ Mt C ∧ (∀ p ∈ C, 0 ≤ p.1 ∧ p.2 < (n : Int)) ∧ C.length ≤ 400 ∧ sort2 C = C := by
  have hl := o.len
  unfold p_law_pairs
  have e : lcM m (fun y1 => (some (decide (y1.1 < y1.2)))) (fun y1 => (some (y1.1, y1.2))) = some (m.filter fun y => decide (y.1 < y.2)) := by
    exact (lcM_e (fun y : Int × Int => decide (y.1 < y.2)) (fun y => y) (fun _ _ => rfl) (fun _ _ _ => rfl)).trans (by simp)
  have hf := List.length_filter_le (fun y : Int × Int => decide (y.1 < y.2)) m
  rw [e, bindO_s, big_e (by omega), bindO_s]
  have mem : ∀ p, p ∈ sort2 (m.filter fun y => decide (y.1 < y.2)) → aget m p.1 = some p.2 ∧ p.1 < p.2 := fun p hp => by
    obtain ⟨h1, h2⟩ := List.mem_filter.mp ((perm2 _).mem_iff.mp hp)
    exact ⟨aget_mem' o.nd h1, of_decide_eq_true h2⟩
  refine ⟨_, rfl, Mt.of (fun p hp => (mem p hp).2) ?_ (fun p q x hp hq h1 h2 => ?_), fun p hp => ?_, ?_, sort2_id _⟩
  · rw [(perm2 _).nodup_iff]
    refine List.Pairwise.filter _ ?_
    have := o.nd
    unfold List.Nodup at this
    rw [List.pairwise_map] at this
    exact this.imp fun h z => h (congrArg _ z)
  · obtain ⟨p1, p2⟩ := mem p hp
    obtain ⟨q1, q2⟩ := mem q hq
    have ps := (o.sy _ _ p1).1
    have qs := (o.sy _ _ q1).1
    rcases h1 with h1 | h1 <;> rcases h2 with h2 | h2
    · rw [← h1] at p1; rw [← h2] at q1
      rw [p1] at q1
      exact Prod.ext (h1.symm.trans h2) (Option.some.inj q1)
    · rw [← h1] at p1; rw [← h2] at qs
      rw [p1] at qs
      have := Option.some.inj qs
      omega
    · rw [← h1] at ps; rw [← h2] at q1
      rw [ps] at q1
      have := Option.some.inj q1
      omega
    · rw [← h1] at ps; rw [← h2] at qs
      rw [ps] at qs
      exact Prod.ext (Option.some.inj qs) (h1.symm.trans h2)
  · obtain ⟨p1, p2⟩ := mem p hp
    have a := o.sy _ _ p1
    have b := o.sy _ _ a.1
    exact ⟨a.2.2.1, b.2.2.2⟩
  · rw [(perm2 _).length_eq]
    omega
theorem mate_nil (n : Nat) : MateOk n [] := ⟨List.nodup_nil, fun a b h => by cases h⟩
theorem mates_eq {ns : List Int} (hl : ns.length ≤ 63) {n : Nat} (hn : n ≤ 24) : ∃ m0 m1, p_law_mates ns n = some [m0, m1] ∧ MateOk n m0 ∧ MateOk n m1 := by
  unfold p_law_mates
  simp only [letB_eq]
  by_cases h0 : (n : Int) = 0
  · rw [if_pos (decide_eq_true h0)]
    exact ⟨[], [], rfl, mate_nil n, mate_nil n⟩
  · rw [if_neg (by simpa using h0)]
    have hcl := cutL_len ns (some 2) (some 162)
    have hcut : (cutL ns (some (2 : Int)) (some (162 : Int))).length = ns.length - 2 := by
      have : cutL ns (some (2 : Int)) (some (162 : Int)) = (ns.take 162).drop 2 := cut_mid ns 2 162 (by omega)
      rw [this, List.length_drop, List.length_take]
      omega
    rw [rng_e (by omega), bindO_s]
    obtain ⟨s, e, m0, m1, rfl, o0, o1⟩ := forS_rng (n := (cutL ns (some (2 : Int)) (some (162 : Int))).length) (s0 := [([] : List (Int × Int)), []]) (f := fun (x15 : Int) (s15 : (List (List (Int × Int)))) => p_law_mates_L1 ns n x15 s15)
      (fun _ s => ∃ m0 m1, s = [m0, m1] ∧ MateOk n m0 ∧ MateOk n m1) ⟨[], [], rfl, mate_nil n, mate_nil n⟩ fun k s hk ⟨m0, m1, es, o0, o1⟩ => by
        subst es
        unfold p_law_mates_L1
        have ix : ∃ c, idx ns ((2 : Int) + (k : Int)) = some c := by
          rw [show (2 : Int) + (k : Int) = ((2 + k : Nat) : Int) by omega]
          exact ⟨_, idx_lt (by omega)⟩
        obtain ⟨c, ec⟩ := ix
        have dv : ∀ x : Int, divO x n = some (x / n) := fun x => divW (by omega) (by
          have := Nat.log2_le_self ((n : Int)).natAbs
          omega)
        rw [ec, bindO_s]
        simp only [letB_eq]
        rw [modP (by omega), bindO_s, dv, bindO_s, modP (by omega), bindO_s, bindO_s, dv, bindO_s]
        have a0 := Int.emod_nonneg c (show (n : Int) ≠ 0 by omega)
        have a1 := Int.emod_lt_of_pos c (show 0 < (n : Int) by omega)
        have b0 := Int.emod_nonneg (c / n) (show (n : Int) ≠ 0 by omega)
        have b1 := Int.emod_lt_of_pos (c / n) (show 0 < (n : Int) by omega)
        generalize c % (n : Int) = a at a0 a1
        generalize c / (n : Int) % (n : Int) = b at b0 b1
        obtain ⟨sd, es, hsd⟩ : ∃ sd : List Int, (if decide (((c / (n : Int)) / (n : Int) % (5 : Int)) = (2 : Int)) = true then some [(0 : Int), (1 : Int)] else some [((k : Int) % (2 : Int))]) = some sd ∧ ∀ x ∈ sd, x = 0 ∨ x = 1 := by
          split
          · exact ⟨_, rfl, fun x hx => by simpa using hx⟩
          · exact ⟨_, rfl, fun x hx => by rw [List.mem_singleton.mp hx]; omega⟩
        rw [es, bindO_s]
        obtain ⟨s, e2, P⟩ := forS_inv (xs := sd) (s0 := [m0, m1]) (f := fun (x14 : Int) (s14 : (List (List (Int × Int)))) => p_law_mates_L2 a b x14 s14)
          (fun _ s => ∃ m0 m1, s = [m0, m1] ∧ MateOk n m0 ∧ MateOk n m1) ⟨m0, m1, rfl, o0, o1⟩ fun pre x post s e ⟨m0, m1, es, o0, o1⟩ => by
            subst es
            have hx := hsd x (by rw [e]; simp)
            have go : ∀ m, MateOk n m → ∃ m', (bindO (bindO (if ((!decide (a = b)) && ((!(ahas m a)) && (!(ahas m b)))) = true then bindO (aputO m a b) fun x_mate => bindO (aputO x_mate b a) fun x_mate_2 => some x_mate_2 else some m) fun (s12 : (List (Int × Int))) => some s12) fun s13 => some (s13 : List (Int × Int))) = some m' ∧ MateOk n m' := fun m o => by
              have hl := o.len
              split
              · rename_i h
                simp only [Bool.and_eq_true, Bool.not_eq_true', decide_eq_false_iff_not] at h
                have l2 := aput_len m a b
                rw [aputO_e (by omega), bindO_s, aputO_e (by omega), bindO_s, bindO_s, bindO_s]
                exact ⟨_, rfl, o.put h.2.1 h.2.2 h.1 ⟨a0, a1⟩ ⟨b0, b1⟩⟩
              · rw [bindO_s, bindO_s]
                exact ⟨_, rfl, o⟩
            unfold p_law_mates_L2
            rcases hx with rfl | rfl
            · obtain ⟨m', e9, o'⟩ := go m0 o0
              rw [show idx [m0, m1] (0 : Int) = some m0 from rfl, bindO_s]
              obtain ⟨z, ez, e10⟩ := bindO_some e9
              cases e10
              rw [ez, bindO_s]
              exact ⟨_, rfl, m', m1, rfl, o', o1⟩
            · obtain ⟨m', e9, o'⟩ := go m1 o1
              rw [show idx [m0, m1] (1 : Int) = some m1 from rfl, bindO_s]
              obtain ⟨z, ez, e10⟩ := bindO_some e9
              cases e10
              rw [ez, bindO_s]
              exact ⟨_, rfl, m0, m', rfl, o0, o'⟩
        rw [e2, bindO_s]
        exact ⟨s, rfl, P⟩
    rw [e, bindO_s]
    exact ⟨m0, m1, rfl, o0, o1⟩
theorem choice_ok {P : Pairs} (m : Mt P) (hs : sort2 P = P) (h0 : ∀ p ∈ P, 0 ≤ p.1) (hl : P.length ≤ 1000) : p_law_choice P = some true := by
  unfold p_law_choice
  rw [if_neg (by simp), letB_eq, letB_eq]
  obtain ⟨s, e, _⟩ := forC_nx (R := Bool) (xs := P) (s0 := (([] : List (Int × Bool)), ((-(1 : Int)), (-(1 : Int))))) (f := fun (x4 : Int × Int) (s4 : (List (Int × Bool)) × (Int × Int)) => p_law_choice_L1 x4 s4.1 s4.2)
    (fun pre s => s.1.length ≤ 2 * pre.length ∧ (∀ x, ahas s.1 x = true → x ∈ pts pre) ∧ (s.2 = (-1, -1) ∨ s.2 ∈ pre)) ⟨by simp, (fun x h => by cases h), .inl rfl⟩ fun pre p post ⟨used, last⟩ e ⟨h1, h2, h3⟩ => by
      dsimp only at h1 h2 h3 ⊢
      have hp : p ∈ P := by rw [e]; simp
      have hpl : pre.length < P.length := by rw [e]; simp
      have nd := m.nd
      rw [e, pts_app, pts_cons, List.nodup_append] at nd
      have n1 : p.1 ∉ pts pre := fun z => nd.2.2 _ z _ List.mem_cons_self rfl
      have n2 : p.2 ∉ pts pre := fun z => nd.2.2 _ z _ (List.mem_cons_of_mem _ List.mem_cons_self) rfl
      have u1 : ahas used p.1 = false := by
        cases q : ahas used p.1 with
        | false => rfl
        | true => exact absurd (h2 _ q) n1
      have u2 : ahas used p.2 = false := by
        cases q : ahas used p.2 with
        | false => rfl
        | true => exact absurd (h2 _ q) n2
      have hlt := m.lt p hp
      have hle : leP2 p last = false := by
        refine le2_no ?_
        rcases h3 with rfl | h3
        · have := h0 p hp
          show (-1 : Int) < p.1
          omega
        · have so := srt2 P
          rw [hs, e, List.pairwise_append] at so
          have h4 := so.2.2 last h3 p List.mem_cons_self
          have ne : last.1 ≠ p.1 := fun z => n1 (mem_pts.mpr ⟨last, h3, .inl z.symm⟩)
          have h5 : ¬ (p.1 < last.1 ∨ p.1 = last.1 ∧ p.2 < last.2) := fun z => by
            rw [(lt2' p last).mpr z] at h4
            cases h4
          omega
      have lu := aput_len used p.1 true
      unfold p_law_choice_L1
      rw [if_neg (by simp), letB_eq, letB_eq]
      unfold p_law_whole
      rw [bindO_s, if_neg (by simp), bindO_s, bindO_s, decide_eq_false (show ¬ p.1 ≥ p.2 by omega), u1, u2, hle, if_neg (by simp), aputO_e (by omega), bindO_s, aputO_e (by omega), bindO_s, letB_eq]
      refine ⟨_, rfl, ?_, fun x hx => ?_, .inr (by simp)⟩
      · dsimp only
        have := aput_len (aput used p.1 true) p.2 true
        rw [List.length_append, List.length_singleton]
        omega
      · dsimp only at hx
        rw [ahas_put, ahas_put] at hx
        rw [pts_app, List.mem_append]
        simp only [Bool.or_eq_true, decide_eq_true_eq] at hx
        rcases hx with rfl | rfl | hx
        · exact .inr (by simp [pts])
        · exact .inr (by simp [pts])
        · exact .inl (h2 x hx)
  rw [e, onS_l]
theorem main (ns : List Int) (hl : ns.length ≤ 63) (hb : ∀ z ∈ ns, Builtin.Int.intBits z ≤ 1048576) : p_law ns = some true := by
  unfold p_law
  obtain ⟨c, ec, _⟩ := cell_bits hb 0 (by omega)
  obtain ⟨c1, ec1, _⟩ := cell_bits hb 1 (by omega)
  obtain ⟨n, en, hn⟩ : ∃ n : Nat, p_law_many c = some (n : Int) ∧ n ≤ 24 := by
    unfold p_law_many
    split
    · exact ⟨(c / (6 : Int) % (25 : Int)).toNat, by congr 1; omega, by omega⟩
    · exact ⟨(c / (6 : Int) % (11 : Int)).toNat, by congr 1; omega, by omega⟩
  obtain ⟨m0, m1, em, o0, o1⟩ := mates_eq hl hn
  obtain ⟨C, eC, mC, rC, lC, sC⟩ := pairs_eq hn o0
  obtain ⟨O0, eO, mO, rO, lO, sO⟩ := pairs_eq hn o1
  rw [ec, bindO_s, en, bindO_s]
  simp only [letB_eq]
  rw [em, bindO_s, show idx [m0, m1] (0 : Int) = some m0 from rfl, bindO_s, eC, bindO_s, show idx [m0, m1] (1 : Int) = some m1 from rfl, bindO_s, eO, bindO_s, ec1, bindO_s]
  obtain ⟨O, e, mO, rO, lO, sO⟩ : ∃ O, (if decide (c1 % (9 : Int) = (4 : Int)) = true then some ([] : Pairs) else some O0) = some O ∧ Mt O ∧ (∀ p ∈ O, 0 ≤ p.1 ∧ p.2 < (n : Int)) ∧ O.length ≤ 400 ∧ sort2 O = O := by
    split
    · exact ⟨[], rfl, ⟨fun _ h => (nomatch h), List.nodup_nil⟩, fun _ h => (nomatch h), by simp, rfl⟩
    · exact ⟨O0, rfl, mO, rO, lO, sO⟩
  rw [e, bindO_s, show idx [C, O] (0 : Int) = some C from rfl, bindO_s, show idx [C, O] (1 : Int) = some O from rfl, bindO_s]
  have G := gph_of mC mO rC rO
  obtain ⟨T, l, es, D, hlen, hhead, hlast, hll, hmid, hstep⟩ := steps_eq2 hn mC mO rC rO lC lO sC sO
  have symlen : (sym C O).length ≤ 800 := by
    unfold sym
    rw [List.length_append]
    have := List.length_filter_le (fun p => !decide (p ∈ O)) C
    have := List.length_filter_le (fun p => !decide (p ∈ C)) O
    omega
  have sp : (sort2 (sym C O)).Perm (sym C O) := perm2 _
  obtain ⟨H, eH, hH⟩ := heaps_eq (l := sort2 (sym C O)) (sp.nodup_iff.mpr G.nd) (by rw [sp.length_eq]; omega)
  have D' : Dec (sort2 (sym C O)) T := D.iff fun p => sp.mem_iff.symm
  have pm := heaps_perm (sp.nodup_iff.mpr G.nd) hH D'
  have hHl : H.length = T.length := by rw [pm.length_eq, List.length_map]
  rw [es, bindO_s, unlike_eq (by omega) (by omega), bindO_s, eH, bindO_s, if_neg (by
    rw [decide_eq_true (show (l.length : Int) = (H.length : Int) + 1 by omega)]
    simp)]
  have midmt : ∀ P ∈ l, Mt P ∧ sort2 P = P ∧ (∀ p ∈ P, 0 ≤ p.1) ∧ P.length ≤ 800 := fun P hP => by
    obtain ⟨s1, Q, md⟩ := hmid P hP
    refine ⟨md.mp, s1, fun p hp => ?_, ?_⟩
    · rcases (md.any p).mp (.inl hp) with h | h
      · exact (rC p h).1
      · exact (rO p h).1
    · have := (md.perm mC mO).length_eq
      rw [List.length_append, List.length_append] at this
      omega
  have e15 : lcM l (fun y15 => (some true)) (fun y15 => (bindO (p_law_choice y15) fun v16 => some v16)) = some (l.map fun _ => true) := lcM_map _ fun P hP => by
    obtain ⟨a1, a2, a3, a4⟩ := midmt P hP
    rw [choice_ok a1 a2 a3 (by omega), bindO_s]
  have ih : idx l (0 : Int) = some C := by
    rw [show (0 : Int) = ((0 : Nat) : Int) from rfl, idx_nat, ← List.head?_eq_getElem?]
    exact hhead
  have il := (idx_last l).trans hlast
  rw [e15, bindO_s, big_e (by rw [List.length_map]; omega), bindO_s, if_neg (by simp), ih, bindO_s, if_neg (by simp), il, bindO_s, bindO_s, bindO_s, if_neg (by simp), show (l.length : Int) - 1 = (T.length : Int) by omega, rng_e (by omega), bindO_s]
  obtain ⟨s, ef, _⟩ := forC_nx (R := Bool) (xs := (List.range T.length).map fun (k : Nat) => (k : Int)) (s0 := H) (f := fun (x26 : Int) (s26 : (List (List (Int × Int)))) => p_law_L1 l x26 s26)
    (fun pre s => s.Perm ((T.drop pre.length).map fun t => sort2 (eds t))) (by simpa using pm) fun pre x post s e0 hp => by
      obtain ⟨hk, hx⟩ := rng_at e0
      have hkT : pre.length < T.length := by simpa using hk
      subst hx
      have i1 : l[pre.length]? = some l[pre.length] := List.getElem?_eq_getElem (by omega)
      have i2 : l[pre.length + 1]? = some l[pre.length + 1] := List.getElem?_eq_getElem (by omega)
      have hst := hstep pre.length _ _ _ (List.getElem?_eq_getElem hkT) i1 i2
      have P1 := midmt _ (List.getElem_mem (show pre.length < l.length by omega))
      have P2 := midmt _ (List.getElem_mem (show pre.length + 1 < l.length by omega))
      have hstep2 : sort2 (sym l[pre.length] l[pre.length + 1]) = sort2 (eds T[pre.length]) := by
        have Tt := D.trk _ (List.getElem_mem hkT)
        refine sort2_perm (perm_of_iff (gph_of (n := n) P1.1 P2.1 (fun p hp => ?_) (fun p hp => ?_)).nd (eds_nd Tt) fun p => ?_)
        · obtain ⟨_, Q, md⟩ := hmid _ (List.getElem_mem (show pre.length < l.length by omega))
          rcases (md.any p).mp (.inl hp) with h | h
          · exact rC p h
          · exact rO p h
        · obtain ⟨_, Q, md⟩ := hmid _ (List.getElem_mem (show pre.length + 1 < l.length by omega))
          rcases (md.any p).mp (.inl hp) with h | h
          · exact rC p h
          · exact rO p h
        · rw [mem_sym, hst, mem_xch]
          by_cases a : p ∈ l[pre.length] <;> by_cases b : p ∈ eds T[pre.length] <;> simp [a, b]
      rw [List.drop_eq_getElem_cons hkT, List.map_cons] at hp
      have hin : sort2 (eds T[pre.length]) ∈ s := hp.mem_iff.mpr List.mem_cons_self
      obtain ⟨ys, er, py⟩ := remO_perm hin
      unfold p_law_L1
      rw [idx_nat, i1, bindO_s, show ((pre.length : Nat) : Int) + 1 = ((pre.length + 1 : Nat) : Int) by omega, idx_nat, i2, bindO_s, unlike_eq (by omega) (by omega), bindO_s, letB_eq, hstep2, if_neg (by rw [decide_eq_true hin]; simp), er, bindO_s]
      refine ⟨_, rfl, ?_⟩
      rw [List.length_append, List.length_singleton]
      exact List.Perm.cons_inv (py.symm.trans hp)
  rw [ef, onS_l, bindO_s, appO_e (by omega), bindO_s]
  have i3 : idx (setI [C, O] (0 : Int) (C ++ [((n : Int), ((n : Int) + (1 : Int)))])) (1 : Int) = some O := rfl
  rw [i3, bindO_s, appO_e (by omega), bindO_s, bindO_s, if_pos (decide_eq_true rfl), bindO_s, bindO_s]
  exact congrArg some (decide_eq_true rfl)
end Pr
set_option Elab.async false
set_option linter.all false
set_option maxRecDepth 100000
set_option maxHeartbeats 4000000
namespace Pr
open PySem PySem.Spec L2 Ev Tg
open PyProof.Rows hiding St
def spLaw (K : PySem.W.Frag) : Sp := fun vs H Q _ => ∃ (a : Addr) (ns : List Int), vs = [.ref a] ∧ KSeq K H a (ns.map V.int) ∧ ns.length ≤ 63 ∧ (∀ z ∈ ns, Builtin.Int.intBits z ≤ 1048576) ∧ ∀ H', Q (.bl true) H'
theorem law_sp {K : PySem.W.Frag} (main : ∀ ns : List Int, ns.length ≤ 63 → (∀ z ∈ ns, Builtin.Int.intBits z ≤ 1048576) → p_law ns = some true) : ∀ vs H Q E, spLaw K vs H Q E → spD K 1 (R_law) vs H Q E := fun vs H Q E ⟨a, ns, e, hs, hl, hb, q⟩ => by
  subst e
  obtain ⟨l, a', hr, _, _⟩ := p_law_ok ns true (main ns hl hb)
  refine ⟨rfl, fun _ => True, [.fl (ns.map .int)], _, Rps.cons (F := []) (G := []) (.fl hs (rps_ints ns)) .nil, hr, fun v H' F _ _ _ rp => ?_⟩
  have rp : Rp K _ H' l v (.bl true) F := rp
  obtain ⟨rfl, _⟩ := rp.bl_inv
  exact q H'
theorem all_mk (main : ∀ ns : List Int, ns.length ≤ 63 → (∀ z ∈ ns, Builtin.Int.intBits z ≤ 1048576) → p_law ns = some true) {l : PySem.W.OpenLaw} {w : World} {K : PySem.W.Frag} {h : Heap} {mg : Str → Option Value} {fa f0 f1 f2 f3 f4 f5 f6 f7 f8 f9 f10 f11 f12 f13 f14 f15 f16 : Addr} (X : K.In h) (G : h.Ns mainGlobals mg) (hfa : mg "law" = some (.ref fa))
    {od0 an0 od1 an1 od2 an2 od3 an3 od4 an4 od5 an5 od6 an6 od7 an7 od8 an8 od9 an9 od10 an10 od11 an11 od12 an12 od13 an13 od14 an14 od15 an15 od16 an16 : Option Addr} {sl0 sl1 sl2 sl3 sl4 sl5 sl6 sl7 sl8 sl9 sl10 sl11 sl12 sl13 sl14 sl15 sl16 : Array (Option Value)} {oc0 kV0 dc0 pm0 cd0 ct0 oc1 kV1 dc1 pm1 cd1 ct1 oc2 kV2 dc2 pm2 cd2 ct2 oc3 kV3 dc3 pm3 cd3 ct3 oc4 kV4 dc4 pm4 cd4 ct4 oc5 kV5 dc5 pm5 cd5 ct5 oc6 kV6 dc6 pm6 cd6 ct6 oc7 kV7 dc7 pm7 cd7 ct7 oc8 kV8 dc8 pm8 cd8 ct8 oc9 kV9 dc9 pm9 cd9 ct9 oc10 kV10 dc10 pm10 cd10 ct10 oc11 kV11 dc11 pm11 cd11 ct11 oc12 kV12 dc12 pm12 cd12 ct12 oc13 kV13 dc13 pm13 cd13 ct13 oc14 kV14 dc14 pm14 cd14 ct14 oc15 kV15 dc15 pm15 cd15 ct15 oc16 kV16 dc16 pm16 cd16 ct16 : Value}
    (a0 : PySem.W.nsIn K mainGlobals "tie_of" = some (some (.ref f0)))
    (l0 : K.lookup f0 = some ⟨oc0, od0, .func (PySem.W.fnOf "tie_of" "tie_of" (defArgs s_tie_of) (defBody s_tie_of) (defScope s_tie_of) .none kV0 dc0 pm0 an0 cd0 ct0), sl0⟩)
    (c0 : PySem.W.codeIn K cd0 "tie_of" = true)
    (k0 : PySem.W.keepIn K (.ref f0) = true)
    (a1 : PySem.W.nsIn K mainGlobals "ties_along" = some (some (.ref f1)))
    (l1 : K.lookup f1 = some ⟨oc1, od1, .func (PySem.W.fnOf "ties_along" "ties_along" (defArgs s_ties_along) (defBody s_ties_along) (defScope s_ties_along) .none kV1 dc1 pm1 an1 cd1 ct1), sl1⟩)
    (c1 : PySem.W.codeIn K cd1 "ties_along" = true)
    (k1 : PySem.W.keepIn K (.ref f1) = true)
    (a2 : PySem.W.nsIn K mainGlobals "exchanged" = some (some (.ref f2)))
    (l2 : K.lookup f2 = some ⟨oc2, od2, .func (PySem.W.fnOf "exchanged" "exchanged" (defArgs s_exchanged) (defBody s_exchanged) (defScope s_exchanged) .none kV2 dc2 pm2 an2 cd2 ct2), sl2⟩)
    (c2 : PySem.W.codeIn K cd2 "exchanged" = true)
    (k2 : PySem.W.keepIn K (.ref f2) = true)
    (a3 : PySem.W.nsIn K mainGlobals "exchanged_ring" = some (some (.ref f3)))
    (l3 : K.lookup f3 = some ⟨oc3, od3, .func (PySem.W.fnOf "exchanged_ring" "exchanged_ring" (defArgs s_exchanged_ring) (defBody s_exchanged_ring) (defScope s_exchanged_ring) .none kV3 dc3 pm3 an3 cd3 ct3), sl3⟩)
    (c3 : PySem.W.codeIn K cd3 "exchanged_ring" = true)
    (k3 : PySem.W.keepIn K (.ref f3) = true)
    (a4 : PySem.W.nsIn K mainGlobals "led_from" = some (some (.ref f4)))
    (l4 : K.lookup f4 = some ⟨oc4, od4, .func (PySem.W.fnOf "led_from" "led_from" (defArgs s_led_from) (defBody s_led_from) (defScope s_led_from) .none kV4 dc4 pm4 an4 cd4 ct4), sl4⟩)
    (c4 : PySem.W.codeIn K cd4 "led_from" = true)
    (k4 : PySem.W.keepIn K (.ref f4) = true)
    (a5 : PySem.W.nsIn K mainGlobals "between" = some (some (.ref f5)))
    (l5 : K.lookup f5 = some ⟨oc5, od5, .func (PySem.W.fnOf "between" "between" (defArgs s_between) (defBody s_between) (defScope s_between) .none kV5 dc5 pm5 an5 cd5 ct5), sl5⟩)
    (c5 : PySem.W.codeIn K cd5 "between" = true)
    (k5 : PySem.W.keepIn K (.ref f5) = true)
    (a6 : PySem.W.nsIn K mainGlobals "turned_along" = some (some (.ref f6)))
    (l6 : K.lookup f6 = some ⟨oc6, od6, .func (PySem.W.fnOf "turned_along" "turned_along" (defArgs s_turned_along) (defBody s_turned_along) (defScope s_turned_along) .none kV6 dc6 pm6 an6 cd6 ct6), sl6⟩)
    (c6 : PySem.W.codeIn K cd6 "turned_along" = true)
    (k6 : PySem.W.keepIn K (.ref f6) = true)
    (a7 : PySem.W.nsIn K mainGlobals "steps" = some (some (.ref f7)))
    (l7 : K.lookup f7 = some ⟨oc7, od7, .func (PySem.W.fnOf "steps" "steps" (defArgs s_steps) (defBody s_steps) (defScope s_steps) .none kV7 dc7 pm7 an7 cd7 ct7), sl7⟩)
    (c7 : PySem.W.codeIn K cd7 "steps" = true)
    (k7 : PySem.W.keepIn K (.ref f7) = true)
    (a8 : PySem.W.nsIn K mainGlobals "_law_cell_at" = some (some (.ref f8)))
    (l8 : K.lookup f8 = some ⟨oc8, od8, .func (PySem.W.fnOf "_law_cell_at" "_law_cell_at" (defArgs s_law_cell_at) (defBody s_law_cell_at) (defScope s_law_cell_at) .none kV8 dc8 pm8 an8 cd8 ct8), sl8⟩)
    (c8 : PySem.W.codeIn K cd8 "_law_cell_at" = true)
    (k8 : PySem.W.keepIn K (.ref f8) = true)
    (a9 : PySem.W.nsIn K mainGlobals "_law_whole" = some (some (.ref f9)))
    (l9 : K.lookup f9 = some ⟨oc9, od9, .func (PySem.W.fnOf "_law_whole" "_law_whole" (defArgs s_law_whole) (defBody s_law_whole) (defScope s_law_whole) .none kV9 dc9 pm9 an9 cd9 ct9), sl9⟩)
    (c9 : PySem.W.codeIn K cd9 "_law_whole" = true)
    (k9 : PySem.W.keepIn K (.ref f9) = true)
    (a10 : PySem.W.nsIn K mainGlobals "_law_many" = some (some (.ref f10)))
    (l10 : K.lookup f10 = some ⟨oc10, od10, .func (PySem.W.fnOf "_law_many" "_law_many" (defArgs s_law_many) (defBody s_law_many) (defScope s_law_many) .none kV10 dc10 pm10 an10 cd10 ct10), sl10⟩)
    (c10 : PySem.W.codeIn K cd10 "_law_many" = true)
    (k10 : PySem.W.keepIn K (.ref f10) = true)
    (a11 : PySem.W.nsIn K mainGlobals "_law_mates" = some (some (.ref f11)))
    (l11 : K.lookup f11 = some ⟨oc11, od11, .func (PySem.W.fnOf "_law_mates" "_law_mates" (defArgs s_law_mates) (defBody s_law_mates) (defScope s_law_mates) .none kV11 dc11 pm11 an11 cd11 ct11), sl11⟩)
    (c11 : PySem.W.codeIn K cd11 "_law_mates" = true)
    (k11 : PySem.W.keepIn K (.ref f11) = true)
    (a12 : PySem.W.nsIn K mainGlobals "_law_pairs" = some (some (.ref f12)))
    (l12 : K.lookup f12 = some ⟨oc12, od12, .func (PySem.W.fnOf "_law_pairs" "_law_pairs" (defArgs s_law_pairs) (defBody s_law_pairs) (defScope s_law_pairs) .none kV12 dc12 pm12 an12 cd12 ct12), sl12⟩)
    (c12 : PySem.W.codeIn K cd12 "_law_pairs" = true)
    (k12 : PySem.W.keepIn K (.ref f12) = true)
    (a13 : PySem.W.nsIn K mainGlobals "_law_choice" = some (some (.ref f13)))
    (l13 : K.lookup f13 = some ⟨oc13, od13, .func (PySem.W.fnOf "_law_choice" "_law_choice" (defArgs s_law_choice) (defBody s_law_choice) (defScope s_law_choice) .none kV13 dc13 pm13 an13 cd13 ct13), sl13⟩)
    (c13 : PySem.W.codeIn K cd13 "_law_choice" = true)
    (k13 : PySem.W.keepIn K (.ref f13) = true)
    (a14 : PySem.W.nsIn K mainGlobals "_law_unlike" = some (some (.ref f14)))
    (l14 : K.lookup f14 = some ⟨oc14, od14, .func (PySem.W.fnOf "_law_unlike" "_law_unlike" (defArgs s_law_unlike) (defBody s_law_unlike) (defScope s_law_unlike) .none kV14 dc14 pm14 an14 cd14 ct14), sl14⟩)
    (c14 : PySem.W.codeIn K cd14 "_law_unlike" = true)
    (k14 : PySem.W.keepIn K (.ref f14) = true)
    (a15 : PySem.W.nsIn K mainGlobals "_law_heaps" = some (some (.ref f15)))
    (l15 : K.lookup f15 = some ⟨oc15, od15, .func (PySem.W.fnOf "_law_heaps" "_law_heaps" (defArgs s_law_heaps) (defBody s_law_heaps) (defScope s_law_heaps) .none kV15 dc15 pm15 an15 cd15 ct15), sl15⟩)
    (c15 : PySem.W.codeIn K cd15 "_law_heaps" = true)
    (k15 : PySem.W.keepIn K (.ref f15) = true)
    (a16 : PySem.W.nsIn K mainGlobals "law" = some (some (.ref f16)))
    (l16 : K.lookup f16 = some ⟨oc16, od16, .func (PySem.W.fnOf "law" "law" (defArgs s_law) (defBody s_law) (defScope s_law) .none kV16 dc16 pm16 an16 cd16 ct16), sl16⟩)
    (c16 : PySem.W.codeIn K cd16 "law" = true)
    (k16 : PySem.W.keepIn K (.ref f16) = true)
    (z_len : PySem.W.nsIn K mainGlobals "len" = some none)
    (z_min : PySem.W.nsIn K mainGlobals "min" = some none)
    (z_max : PySem.W.nsIn K mainGlobals "max" = some none)
    (z_sum : PySem.W.nsIn K mainGlobals "sum" = some none)
    (z_sorted : PySem.W.nsIn K mainGlobals "sorted" = some none)
    (z_list : PySem.W.nsIn K mainGlobals "list" = some none)
    (z_range : PySem.W.nsIn K mainGlobals "range" = some none)
    (z_zip : PySem.W.nsIn K mainGlobals "zip" = some none)
    (z_enumerate : PySem.W.nsIn K mainGlobals "enumerate" = some none)
    (z_abs : PySem.W.nsIn K mainGlobals "abs" = some none)
    (z_int : PySem.W.nsIn K mainGlobals "int" = some none)
    (z_isinstance : PySem.W.nsIn K mainGlobals "isinstance" = some none)
    (z_bool : PySem.W.nsIn K mainGlobals "bool" = some none)
    (z_tuple : PySem.W.nsIn K mainGlobals "tuple" = some none)
    (z_str : PySem.W.nsIn K mainGlobals "str" = some none)
    (z_set : PySem.W.nsIn K mainGlobals "set" = some none)
    (z_all : PySem.W.nsIn K mainGlobals "all" = some none)
    (z_any : PySem.W.nsIn K mainGlobals "any" = some none)
    (z_reversed : PySem.W.nsIn K mainGlobals "reversed" = some none)
    (z_dict : PySem.W.nsIn K mainGlobals "dict" = some none) :
    ∃ fd : FuncData, (∀ (s : Shared) (v : Value), BindsTo s fd ⟨[v], []⟩ [("_law_script", v)]) ∧ ∀ base : Heap, K.In base → base.Ns mainGlobals mg → FnOk l.prog w K mg base CX0 7 fa fd ["_law_script"] (spLaw K) := by
  have e := hfa.symm.trans (PySem.W.mg_of X G a16)
  cases e
  have hB : Blts mg := ⟨PySem.W.mg_none_of X G z_len, PySem.W.mg_none_of X G z_min, PySem.W.mg_none_of X G z_max, PySem.W.mg_none_of X G z_sum, PySem.W.mg_none_of X G z_sorted, PySem.W.mg_none_of X G z_list, PySem.W.mg_none_of X G z_range, PySem.W.mg_none_of X G z_zip, PySem.W.mg_none_of X G z_enumerate, PySem.W.mg_none_of X G z_abs, PySem.W.mg_none_of X G z_int, PySem.W.mg_none_of X G z_isinstance, PySem.W.mg_none_of X G z_bool, PySem.W.mg_none_of X G z_tuple, PySem.W.mg_none_of X G z_str, PySem.W.mg_none_of X G z_set, PySem.W.mg_none_of X G z_all, PySem.W.mg_none_of X G z_any, PySem.W.mg_none_of X G z_reversed, PySem.W.mg_none_of X G z_dict⟩
  have F0 := fun_mk (st := s_tie_of) l0 c0 k0
  have b0 := F0.binds (ps := ["a", "b"]) fun _ _ _ _ _ _ us hl => match us, hl with | [_, _], _ => rfl
  have F1 := fun_mk (st := s_ties_along) l1 c1 k1
  have b1 := F1.binds (ps := ["points"]) fun _ _ _ _ _ _ us hl => match us, hl with | [_], _ => rfl
  have F2 := fun_mk (st := s_exchanged) l2 c2 k2
  have b2 := F2.binds (ps := ["pairs", "row"]) fun _ _ _ _ _ _ us hl => match us, hl with | [_, _], _ => rfl
  have F3 := fun_mk (st := s_exchanged_ring) l3 c3 k3
  have b3 := F3.binds (ps := ["pairs", "ring"]) fun _ _ _ _ _ _ us hl => match us, hl with | [_, _], _ => rfl
  have F4 := fun_mk (st := s_led_from) l4 c4 k4
  have b4 := F4.binds (ps := ["start", "beside"]) fun _ _ _ _ _ _ us hl => match us, hl with | [_, _], _ => rfl
  have F5 := fun_mk (st := s_between) l5 c5 k5
  have b5 := F5.binds (ps := ["one", "other"]) fun _ _ _ _ _ _ us hl => match us, hl with | [_, _], _ => rfl
  have F6 := fun_mk (st := s_turned_along) l6 c6 k6
  have b6 := F6.binds (ps := ["pairs", "told"]) fun _ _ _ _ _ _ us hl => match us, hl with | [_, _], _ => rfl
  have F7 := fun_mk (st := s_steps) l7 c7 k7
  have b7 := F7.binds (ps := ["one", "other"]) fun _ _ _ _ _ _ us hl => match us, hl with | [_, _], _ => rfl
  have F8 := fun_mk (st := s_law_cell_at) l8 c8 k8
  have b8 := F8.binds (ps := ["_law_script", "_law_k"]) fun _ _ _ _ _ _ us hl => match us, hl with | [_, _], _ => rfl
  have F9 := fun_mk (st := s_law_whole) l9 c9 k9
  have b9 := F9.binds (ps := ["_law_found"]) fun _ _ _ _ _ _ us hl => match us, hl with | [_], _ => rfl
  have F10 := fun_mk (st := s_law_many) l10 c10 k10
  have b10 := F10.binds (ps := ["_law_cell"]) fun _ _ _ _ _ _ us hl => match us, hl with | [_], _ => rfl
  have F11 := fun_mk (st := s_law_mates) l11 c11 k11
  have b11 := F11.binds (ps := ["_law_script", "_law_many_here"]) fun _ _ _ _ _ _ us hl => match us, hl with | [_, _], _ => rfl
  have F12 := fun_mk (st := s_law_pairs) l12 c12 k12
  have b12 := F12.binds (ps := ["_law_mate"]) fun _ _ _ _ _ _ us hl => match us, hl with | [_], _ => rfl
  have F13 := fun_mk (st := s_law_choice) l13 c13 k13
  have b13 := F13.binds (ps := ["_law_pairs_here"]) fun _ _ _ _ _ _ us hl => match us, hl with | [_], _ => rfl
  have F14 := fun_mk (st := s_law_unlike) l14 c14 k14
  have b14 := F14.binds (ps := ["_law_one", "_law_other"]) fun _ _ _ _ _ _ us hl => match us, hl with | [_, _], _ => rfl
  have F15 := fun_mk (st := s_law_heaps) l15 c15 k15
  have b15 := F15.binds (ps := ["_law_ties"]) fun _ _ _ _ _ _ us hl => match us, hl with | [_], _ => rfl
  have F16 := fun_mk (st := s_law) l16 c16 k16
  refine ⟨PySem.W.fnOf "law" "law" (defArgs s_law) (defBody s_law) (defScope s_law) .none kV16 dc16 pm16 an16 cd16 ct16, fun s v => .of_eq rfl, fun base _ _ => ?_⟩
  have G_tie_of : FnD l.prog w K mg base 1 "tie_of" 2 R_tie_of := fnD_of (ok_tie_of F0 hB ) (PySem.W.mg_of X G a0) k0 b0
  have G_led_from : FnD l.prog w K mg base 1 "led_from" 2 R_led_from := fnD_of (ok_led_from F4 hB ) (PySem.W.mg_of X G a4) k4 b4
  have G_law_cell_at : FnD l.prog w K mg base 1 "_law_cell_at" 2 R_law_cell_at := fnD_of (ok_law_cell_at F8 hB ) (PySem.W.mg_of X G a8) k8 b8
  have G_law_whole : FnD l.prog w K mg base 1 "_law_whole" 1 R_law_whole := fnD_of (ok_law_whole F9 hB ) (PySem.W.mg_of X G a9) k9 b9
  have G_law_many : FnD l.prog w K mg base 1 "_law_many" 1 R_law_many := fnD_of (ok_law_many F10 hB ) (PySem.W.mg_of X G a10) k10 b10
  have G_law_mates : FnD l.prog w K mg base 1 "_law_mates" 2 R_law_mates := fnD_of (ok_law_mates F11 hB ) (PySem.W.mg_of X G a11) k11 b11
  have G_law_pairs : FnD l.prog w K mg base 1 "_law_pairs" 1 R_law_pairs := fnD_of (ok_law_pairs F12 hB ) (PySem.W.mg_of X G a12) k12 b12
  have G_law_unlike : FnD l.prog w K mg base 1 "_law_unlike" 2 R_law_unlike := fnD_of (ok_law_unlike F14 hB ) (PySem.W.mg_of X G a14) k14 b14
  have G_law_heaps : FnD l.prog w K mg base 1 "_law_heaps" 1 R_law_heaps := fnD_of (ok_law_heaps F15 hB ) (PySem.W.mg_of X G a15) k15 b15
  have G_ties_along : FnD l.prog w K mg base 2 "ties_along" 1 R_ties_along := fnD_of (ok_ties_along F1 hB G_tie_of) (PySem.W.mg_of X G a1) k1 b1
  have G_between : FnD l.prog w K mg base 2 "between" 2 R_between := fnD_of (ok_between F5 hB G_led_from) (PySem.W.mg_of X G a5) k5 b5
  have G_law_choice : FnD l.prog w K mg base 2 "_law_choice" 1 R_law_choice := fnD_of (ok_law_choice F13 hB G_law_whole) (PySem.W.mg_of X G a13) k13 b13
  have G_exchanged : FnD l.prog w K mg base 3 "exchanged" 2 R_exchanged := fnD_of (ok_exchanged F2 hB G_ties_along) (PySem.W.mg_of X G a2) k2 b2
  have G_exchanged_ring : FnD l.prog w K mg base 4 "exchanged_ring" 2 R_exchanged_ring := fnD_of (ok_exchanged_ring F3 hB G_exchanged) (PySem.W.mg_of X G a3) k3 b3
  have G_turned_along : FnD l.prog w K mg base 5 "turned_along" 2 R_turned_along := fnD_of (ok_turned_along F6 hB G_exchanged G_exchanged_ring) (PySem.W.mg_of X G a6) k6 b6
  have G_steps : FnD l.prog w K mg base 6 "steps" 2 R_steps := fnD_of (ok_steps F7 hB G_between G_turned_along) (PySem.W.mg_of X G a7) k7 b7
  exact (ok_law F16 hB G_law_many G_law_cell_at G_law_mates G_law_pairs G_steps G_law_heaps G_law_unlike G_law_choice).imp (law_sp main)
end Pr
open PySem PySem.W PyProof.Rows
set_option maxRecDepth 100000 in
set_option maxHeartbeats 0 in
theorem PySem.Challenge.cw_pairsheath_k81_steps_between_choices_holds : PySem.Challenge.rw_pairsheath_k81_steps_between_choices.Holds := by
  w_on; o_law; k_head; (case hw => w_witness2)
  k_fill
  refine L2.walk_ofB (l := PySem.Challenge.rw_pairsheath_k81_steps_between_choices) (n := 63) (k := 7) (x := "_law_script") (CX := fun _ => L2.CX0) (sp := fun w => Pr.spLaw _) rfl (by decide) rfl ⟨rfl, by decide, by decide⟩ (fun w h Y => PySem.W.kIn_of Y) ?F (fun _ H a ns hl hb hO hS => ⟨a, ns, rfl, Ev.KSeq.of hS (fun xs e => by rcases hO a with q | ⟨o, ys, q⟩ <;> (rw [q] at e; cases e)), hl, hb, fun _ => rfl⟩) (fun _ _ _ _ _ h => h)
  case F =>
    intro w mg fa h KX G hmg
    refine' Pr.all_mk Pr.main KX G hmg ?a0 ?l0 ?c0 ?k0 ?a1 ?l1 ?c1 ?k1 ?a2 ?l2 ?c2 ?k2 ?a3 ?l3 ?c3 ?k3 ?a4 ?l4 ?c4 ?k4 ?a5 ?l5 ?c5 ?k5 ?a6 ?l6 ?c6 ?k6 ?a7 ?l7 ?c7 ?k7 ?a8 ?l8 ?c8 ?k8 ?a9 ?l9 ?c9 ?k9 ?a10 ?l10 ?c10 ?k10 ?a11 ?l11 ?c11 ?k11 ?a12 ?l12 ?c12 ?k12 ?a13 ?l13 ?c13 ?k13 ?a14 ?l14 ?c14 ?k14 ?a15 ?l15 ?c15 ?k15 ?a16 ?l16 ?c16 ?k16 ?z_len ?z_min ?z_max ?z_sum ?z_sorted ?z_list ?z_range ?z_zip ?z_enumerate ?z_abs ?z_int ?z_isinstance ?z_bool ?z_tuple ?z_str ?z_set ?z_all ?z_any ?z_reversed ?z_dict
    (case a0 => k_is)
    (case l0 => k_is)
    (case c0 => k_is)
    (case k0 => k_is)
    (case a1 => k_is)
    (case l1 => k_is)
    (case c1 => k_is)
    (case k1 => k_is)
    (case a2 => k_is)
    (case l2 => k_is)
    (case c2 => k_is)
    (case k2 => k_is)
    (case a3 => k_is)
    (case l3 => k_is)
    (case c3 => k_is)
    (case k3 => k_is)
    (case a4 => k_is)
    (case l4 => k_is)
    (case c4 => k_is)
    (case k4 => k_is)
    (case a5 => k_is)
    (case l5 => k_is)
    (case c5 => k_is)
    (case k5 => k_is)
    (case a6 => k_is)
    (case l6 => k_is)
    (case c6 => k_is)
    (case k6 => k_is)
    (case a7 => k_is)
    (case l7 => k_is)
    (case c7 => k_is)
    (case k7 => k_is)
    (case a8 => k_is)
    (case l8 => k_is)
    (case c8 => k_is)
    (case k8 => k_is)
    (case a9 => k_is)
    (case l9 => k_is)
    (case c9 => k_is)
    (case k9 => k_is)
    (case a10 => k_is)
    (case l10 => k_is)
    (case c10 => k_is)
    (case k10 => k_is)
    (case a11 => k_is)
    (case l11 => k_is)
    (case c11 => k_is)
    (case k11 => k_is)
    (case a12 => k_is)
    (case l12 => k_is)
    (case c12 => k_is)
    (case k12 => k_is)
    (case a13 => k_is)
    (case l13 => k_is)
    (case c13 => k_is)
    (case k13 => k_is)
    (case a14 => k_is)
    (case l14 => k_is)
    (case c14 => k_is)
    (case k14 => k_is)
    (case a15 => k_is)
    (case l15 => k_is)
    (case c15 => k_is)
    (case k15 => k_is)
    (case a16 => k_is)
    (case l16 => k_is)
    (case c16 => k_is)
    (case k16 => k_is)
    (case z_len => k_is)
    (case z_min => k_is)
    (case z_max => k_is)
    (case z_sum => k_is)
    (case z_sorted => k_is)
    (case z_list => k_is)
    (case z_range => k_is)
    (case z_zip => k_is)
    (case z_enumerate => k_is)
    (case z_abs => k_is)
    (case z_int => k_is)
    (case z_isinstance => k_is)
    (case z_bool => k_is)
    (case z_tuple => k_is)
    (case z_str => k_is)
    (case z_set => k_is)
    (case z_all => k_is)
    (case z_any => k_is)
    (case z_reversed => k_is)
    (case z_dict => k_is)
