import PyProof.Rows.All
import Wide.All
import OpenK.AllK
import Wide.FinOn
import HandS.ForMost
import HandS.Deep
import HandS.Wide
import HandS.Lambda
import KE.KNestM
import HandS.TupLe
import HandS.SortOrd
import HandS.SortRule
import HandS.SortInts
import HandS.IsInst
import HandS.Style
import HandS.More
import HandS.SetFor
import HandS.DictTup
import PyProof.Rows.SetFrom
import HandS.Rev
import HandS.Conv
import PyProof.DictMoreH
import HandS.SetKeys
import PyProof.P3In
import HandS.Zip
import HandS.ExcIs
import HandS.WordsExc
import HandS.Exc
import HandS.ExcOwn
import HandS.TryMany
import HandS.Set
import HandS.TupSets
import KE.DatumOrd
import HandS.SortKw
import KE.KDictOf
import KE.KDictCopyH
import KE.DataMinKey
import HandS.EndTab
import KE.KDictSum
import HandS.TupLen
import HandS.Defaults
import KE.SortData
import HandS.NoneIn
import HandS.RevTup
import HandS.EndBits
import PySem.Challenge.RW_pairsheath_k91_texts
set_option Elab.async false
set_option linter.all false
set_option maxRecDepth 100000
namespace Ev
open PySem PySem.Spec L2
open PyProof.Rows hiding St
inductive D where
  | non | bl (b : Bool) | int (i : Int) | str (x : Str)
  | tup (xs : List D) | lst (xs : List D) | fl (xs : List D)
  | dk (kvs : List (Key × D)) | dt (kvs : List (List Key × D))
  | ins (C : Addr) (fs : List (Str × D)) | obj (C dx : Addr) (fs : List (Str × D))
  
  | any
  
  | exc (a : Addr)
  
  | sh (d : D)
inductive Lv where
  | shr | top | full
  deriving DecidableEq
def ch : Lv → Lv
  | .full => .full
  | _ => .shr
mutual

def imm : D → Bool
  | .non => true | .bl _ => true | .int _ => true | .str _ => true
  | .tup xs => immAll xs | .fl xs => immAll xs
  | _ => false
def immAll : List D → Bool
  | [] => true
  | d :: ds => imm d && immAll ds
end
inductive Node : D → HO → List V → List D → Prop
  | lst {vs : List V} {ds : List D} : Node (.lst ds) (.lst vs) vs ds
  | dk {kv : List (Key × V)} {kd : List (Key × D)} : kv.map (·.1) = kd.map (·.1) → Node (.dk kd) (.dK kv) (kv.map (·.2)) (kd.map (·.2))
  | dt {kv : List (List Key × V)} {kd : List (List Key × D)} : kv.map (·.1) = kd.map (·.1) → Node (.dt kd) (.dT kv) (kv.map (·.2)) (kd.map (·.2))
  | ins {C dx : Addr} {fv : List (Str × V)} {fd : List (Str × D)} : fv.map (·.1) = fd.map (·.1) → Node (.ins C fd) (.ins C dx fv) (fv.map (·.2)) (fd.map (·.2))
  | obj {C dx : Addr} {fv : List (Str × V)} {fd : List (Str × D)} : fv.map (·.1) = fd.map (·.1) → Node (.obj C dx fd) (.ins C dx fv) (fv.map (·.2)) (fd.map (·.2))
def NT : HO → Prop
  | .tbl _ => False
  | _ => True
def NE : HO → Prop
  | .tbl _ => False
  | .ext _ => False
  | _ => True
theorem ne_nt {o : HO} (h : NE o) : NT o := by cases o <;> first | trivial | exact h
def KSeq (K : PySem.W.Frag) (H : Hp) (a : Addr) (xs : List V) : Prop :=
  (∃ o, H a = some (.frz o (.lst xs))) ∨ ∃ (o : Obj) (its : Array Value) (n : Nat), K.lookup a = some o ∧ o.cls = .type "list" ∧ o.dict = none ∧ o.data = .seq its n ∧ its.size ≤ sizeLine ∧ Vals xs its.toList
def RdN (H : Hp) (a : Addr) (o : HO) : Prop := H a = some o ∨ (∃ od, H a = some (.frz od o)) ∧ ((∃ kv, o = .dK kv) ∨ ∃ kv, o = .dT kv)
theorem RdN.rd {H : Hp} {a : Addr} {o : HO} (h : RdN H a o) : Rd H a o := h.imp id And.left
theorem RdN.ne {H : Hp} {a : Addr} {o : HO} (h : RdN H a o) : H a ≠ none := fun e => by
  rcases h with h | ⟨⟨od, h⟩, _⟩ <;> (rw [e] at h; cases h)
theorem RdN.lst {H : Hp} {a : Addr} {vs : List V} (h : RdN H a (.lst vs)) : H a = some (.lst vs) := by
  rcases h with h | ⟨_, ⟨_, h⟩ | ⟨_, h⟩⟩
  · exact h
  · cases h
  · cases h
theorem RdN.ins {H : Hp} {a C dx : Addr} {fv : List (Str × V)} (h : RdN H a (.ins C dx fv)) : H a = some (.ins C dx fv) := by
  rcases h with h | ⟨_, ⟨_, h⟩ | ⟨_, h⟩⟩
  · exact h
  · cases h
  · cases h
theorem RdN.keepN {H H' : Hp} {a : Addr} {o : HO} (h : RdN H a o) (n : NT o) (k : ∀ o', H a = some o' → NT o' → H' a = some o') : RdN H' a o := by
  rcases h with h | ⟨⟨od, h⟩, q⟩
  · exact .inl (k _ h n)
  · exact .inr ⟨⟨od, k _ h trivial⟩, q⟩
theorem node_nt {d : D} {o : HO} {vs : List V} {ds : List D} (h : Node d o vs ds) : NT o := by cases h <;> trivial
theorem node_ne {d : D} {o : HO} {vs : List V} {ds : List D} (h : Node d o vs ds) : NE o := by cases h <;> trivial
theorem RdN.imp {H H' : Hp} {a : Addr} {o : HO} (h : RdN H a o) (k : ∀ o', H a = some o' → H' a = some o') : RdN H' a o := by
  rcases h with h | ⟨⟨od, h⟩, q⟩
  · exact .inl (k _ h)
  · exact .inr ⟨⟨od, k _ h⟩, q⟩
mutual

inductive Rp (K : PySem.W.Frag) (S : Addr → Prop) (H : Hp) : Lv → V → D → List Addr → Prop
  | any {l : Lv} {v : V} : Rp K S H l v .any []
  | exc {l : Lv} {a : Addr} : Rp K S H l (.ref a) (.exc a) []
  | sh {l : Lv} {v : V} {d : D} : Rp K S H .shr v d [] → Rp K S H l v (.sh d) []
  | non {l : Lv} : Rp K S H l .non .non []
  | bl {l : Lv} {b : Bool} : Rp K S H l (.bl b) (.bl b) []
  | int {l : Lv} {i : Int} : Rp K S H l (.int i) (.int i) []
  | str {l : Lv} {x : Str} : Rp K S H l (.str x) (.str x) []
  | tup {l : Lv} {a : Addr} {vs : List V} {ds : List D} {F : List Addr} : H a = some (.tup vs) → Rps K S H l vs ds F → Rp K S H l (.ref a) (.tup ds) F
  | fl {l : Lv} {a : Addr} {vs : List V} {ds : List D} : KSeq K H a vs → Rps K S H .shr vs ds [] → Rp K S H l (.ref a) (.fl ds) []
  | nd0 {a : Addr} {o : HO} {d : D} {vs : List V} {ds : List D} : Node d o vs ds → RdN H a o → S a → Rps K S H .shr vs ds [] → Rp K S H .shr (.ref a) d []
  | nd1 {l : Lv} {a : Addr} {o : HO} {d : D} {vs : List V} {ds : List D} {F : List Addr} : l ≠ .shr → Node d o vs ds → H a = some o → Rps K S H (ch l) vs ds F → Rp K S H l (.ref a) d (a :: F)
inductive Rps (K : PySem.W.Frag) (S : Addr → Prop) (H : Hp) : Lv → List V → List D → List Addr → Prop
  | nil {l : Lv} : Rps K S H l [] [] []
  | cons {l : Lv} {v : V} {d : D} {vs : List V} {ds : List D} {F G : List Addr} : Rp K S H l v d F → Rps K S H l vs ds G → Rps K S H l (v :: vs) (d :: ds) (F ++ G)
end
section
variable {K : PySem.W.Frag} {S S' : Addr → Prop} {H H' : Hp} {l : Lv} {v : V} {d : D} {F : List Addr}
mutual
theorem Rp.shr0 : ∀ {v : V} {d : D} {F : List Addr}, Rp K S H .shr v d F → F = []
  | _, _, _, .any => rfl
  | _, _, _, .exc => rfl
  | _, _, _, .sh _ => rfl
  | _, _, _, .non => rfl
  | _, _, _, .bl => rfl
  | _, _, _, .int => rfl
  | _, _, _, .str => rfl
  | _, _, _, .tup _ h => Rps.shr0 h
  | _, _, _, .fl _ _ => rfl
  | _, _, _, .nd0 _ _ _ _ => rfl
  | _, _, _, .nd1 h _ _ _ => absurd rfl h
theorem Rps.shr0 : ∀ {vs : List V} {ds : List D} {F : List Addr}, Rps K S H .shr vs ds F → F = []
  | _, _, _, .nil => rfl
  | _, _, _, .cons h1 h2 => by rw [Rp.shr0 h1, Rps.shr0 h2]; rfl
end
def qN : Str := "nearest.<locals>.<lambda>"
def TbQ (H : Hp) (P : Addr) (q : Str) : Prop := q = qN ∧ LamX.TabS H P q
theorem TbQ.ext {H H' : Hp} {P : Addr} {q : Str} (t : TbQ H P q) (e : ∀ b o, H b = some o → H' b = some o) : TbQ H' P q := ⟨t.1, t.2.ext e⟩
structure Same (H H' : Hp) : Prop where
  k : ∀ b o, H b = some o → NT o → H' b = some o
  f : ∀ b, H' b = none → H b = none
  t : ∀ P q, TbQ H P q → TbQ H' P q
theorem Same.free {H H' : Hp} (e : Same H H') {l : Addr} (h : H' l = none) : H l = none := e.f l h
theorem Same.of {H H' : Hp} (s : L2.Same H H') : Same H H' := ⟨fun b o e _ => s b o e, fun _ e => s.free e, fun _ _ t => t.ext s⟩
theorem Same.refl (H : Hp) : Same H H := .of (L2.Same.refl H)
theorem Same.trans {H H1 H2 : Hp} (a : Same H H1) (b : Same H1 H2) : Same H H2 := ⟨fun c o e n => b.k c o (a.k c o e n) n, fun c e => a.f c (b.f c e), fun P q t => b.t P q (a.t P q t)⟩
theorem same_upd {H : Hp} {p : Addr} {o : HO} (h : H p = none) : Same H (upd H p o) := .of fun b x e => by
  rw [upd_ne fun z => by rw [z, h] at e; cases e]
  exact e
theorem tabS_upd {H : Hp} {a P : Addr} {o o' : HO} {q : Str} (e : H a = some o) (ne : NE o) (t : TbQ H P q) : TbQ (upd H a o') P q := by
  obtain ⟨hq, ps, h1, h2, h3⟩ := t
  refine ⟨hq, ps, ?_, h2, fun pos cv hc => ?_⟩
  · rw [upd_ne fun z => ?_]
    · exact h1
    · rw [z, e] at h1; cases h1; exact ne
  · obtain ⟨c, e1, e2⟩ := h3 pos cv hc
    refine ⟨c, e1, ?_⟩
    rw [upd_ne fun z => ?_]
    · exact e2
    · rw [z, e] at e2
      unfold LamX.CodeO at e2
      cases e2
      exact ne
theorem Same.upd_new {H H' : Hp} {A : Addr} {o o' : HO} (s : Same H H') (nA : H A = none) (e : H' A = some o) (ne : NE o) : Same H (upd H' A o') :=
  ⟨fun b u eb n => by rw [upd_ne fun z => by rw [z, nA] at eb; cases eb]; exact s.k b u eb n, fun b eb => by
    by_cases z : b = A
    · rw [z]; exact nA
    · rw [upd_ne z] at eb; exact s.f b eb, fun P q t => tabS_upd e ne (s.t P q t)⟩
def Keeps (S : Addr → Prop) (F : List Addr) (H H' : Hp) : Prop :=
  ∀ b o, H b = some o → NT o → (S b ∨ b ∈ F ∨ (∃ xs, o = .tup xs) ∨ ∃ o' u, o = .frz o' u) → H' b = some o
theorem Keeps.sub {F G : List Addr} (k : Keeps S G H H') (h : ∀ a ∈ F, a ∈ G) : Keeps S F H H' := fun b o e n q =>
  k b o e n (q.imp id fun q => q.imp (h b) id)
theorem Keeps.same (h : Same H H') : Keeps S F H H' := fun b o e n _ => h.k b o e n
theorem kseq_keep {a : Addr} {vs : List V} (r : KSeq K H a vs) (k : Keeps S F H H') : KSeq K H' a vs := by
  rcases r with ⟨o, e⟩ | r
  · exact .inl ⟨o, k a _ e trivial (.inr (.inr (.inr ⟨_, _, rfl⟩)))⟩
  · exact .inr r
theorem KSeq.sq {a : Addr} {vs : List V} (r : KSeq K H a vs) : SqL K H a vs := by
  rcases r with r | r
  · exact .inl (.inr r)
  · exact .inr r
theorem KSeq.of {a : Addr} {vs : List V} (r : SqL K H a vs) (h : ∀ xs, H a ≠ some (.lst xs)) : KSeq K H a vs := by
  rcases r with (r | r) | r
  · exact absurd r (h _)
  · exact .inl r
  · exact .inr r
mutual
theorem Rp.keep : ∀ {l : Lv} {v : V} {d : D} {F : List Addr}, Rp K S H l v d F → Keeps S F H H' → Rp K S H' l v d F
  | _, _, _, _, .any, _ => .any
  | _, _, _, _, .exc, _ => .exc
  | _, _, _, _, .sh h1, k => .sh (Rp.keep h1 (k.sub fun _ z => nomatch z))
  | _, _, _, _, .non, _ => .non
  | _, _, _, _, .bl, _ => .bl
  | _, _, _, _, .int, _ => .int
  | _, _, _, _, .str, _ => .str
  | _, _, _, _, .tup h1 h2, k => .tup (k _ _ h1 trivial (.inr (.inr (.inl ⟨_, rfl⟩)))) (Rps.keep h2 k)
  | _, _, _, _, .fl h1 h3, k => .fl (kseq_keep h1 k) (Rps.keep h3 (k.sub fun _ z => nomatch z))
  | _, _, _, _, .nd0 h0 h1 h2 h3, k => .nd0 h0 (h1.keepN (node_nt h0) fun _ e n => k _ _ e n (.inl h2)) h2 (Rps.keep h3 k)
  | _, _, _, _, .nd1 h0 h1 h2 h3, k => .nd1 h0 h1 (k _ _ h2 (node_nt h1) (.inr (.inl List.mem_cons_self))) (Rps.keep h3 (k.sub fun _ z => List.mem_cons_of_mem _ z))
theorem Rps.keep : ∀ {l : Lv} {vs : List V} {ds : List D} {F : List Addr}, Rps K S H l vs ds F → Keeps S F H H' → Rps K S H' l vs ds F
  | _, _, _, _, .nil, _ => .nil
  | _, _, _, _, .cons h1 h2, k => .cons (Rp.keep h1 (k.sub fun _ z => List.mem_append_left _ z)) (Rps.keep h2 (k.sub fun _ z => List.mem_append_right _ z))
end
mutual
theorem Rp.mono (h : ∀ a, S a → S' a) : ∀ {l : Lv} {v : V} {d : D} {F : List Addr}, Rp K S H l v d F → Rp K S' H l v d F
  | _, _, _, _, .any => .any
  | _, _, _, _, .exc => .exc
  | _, _, _, _, .sh h1 => .sh (Rp.mono h h1)
  | _, _, _, _, .non => .non
  | _, _, _, _, .bl => .bl
  | _, _, _, _, .int => .int
  | _, _, _, _, .str => .str
  | _, _, _, _, .tup h1 h2 => .tup h1 (Rps.mono h h2)
  | _, _, _, _, .fl h1 h3 => .fl h1 (Rps.mono h h3)
  | _, _, _, _, .nd0 h0 h1 h2 h3 => .nd0 h0 h1 (h _ h2) (Rps.mono h h3)
  | _, _, _, _, .nd1 h0 h1 h2 h3 => .nd1 h0 h1 h2 (Rps.mono h h3)
theorem Rps.mono (h : ∀ a, S a → S' a) : ∀ {l : Lv} {vs : List V} {ds : List D} {F : List Addr}, Rps K S H l vs ds F → Rps K S' H l vs ds F
  | _, _, _, _, .nil => .nil
  | _, _, _, _, .cons h1 h2 => .cons (Rp.mono h h1) (Rps.mono h h2)
end
mutual

theorem Rp.give (h : ∀ a, S a → S' a) : ∀ {l : Lv} {v : V} {d : D} {F : List Addr}, Rp K S H l v d F → (∀ a ∈ F, S' a) → Rp K S' H .shr v d []
  | _, _, _, _, .any, _ => .any
  | _, _, _, _, .exc, _ => .exc
  | _, _, _, _, .sh h1, _ => .sh (Rp.mono h h1)
  | _, _, _, _, .non, _ => .non
  | _, _, _, _, .bl, _ => .bl
  | _, _, _, _, .int, _ => .int
  | _, _, _, _, .str, _ => .str
  | _, _, _, _, .tup h1 h2, k => .tup h1 (Rps.give h h2 k)
  | _, _, _, _, .fl h1 h3, k => .fl h1 (Rps.mono h h3)
  | _, _, _, _, .nd0 h0 h1 h2 h3, k => .nd0 h0 h1 (h _ h2) (Rps.mono h h3)
  | _, _, _, _, .nd1 h0 h1 h2 h3, k => .nd0 h1 (.inl h2) (k _ List.mem_cons_self) (Rps.give h h3 fun a z => k a (List.mem_cons_of_mem _ z))
theorem Rps.give (h : ∀ a, S a → S' a) : ∀ {l : Lv} {vs : List V} {ds : List D} {F : List Addr}, Rps K S H l vs ds F → (∀ a ∈ F, S' a) → Rps K S' H .shr vs ds []
  | _, _, _, _, .nil, _ => .nil
  | _, _, _, _, .cons h1 h2, k => Rps.cons (F := []) (G := []) (Rp.give h h1 fun a z => k a (List.mem_append_left _ z)) (Rps.give h h2 fun a z => k a (List.mem_append_right _ z))
end
mutual
theorem Rp.of_imm {l' : Lv} : ∀ {l : Lv} {v : V} {d : D} {F : List Addr}, Rp K S H l v d F → imm d = true → F = [] ∧ Rp K S' H l' v d []
  | _, _, _, _, .any, e => by simp [imm] at e
  | _, _, _, _, .exc, e => by simp [imm] at e
  | _, _, _, _, .sh _, e => by simp [imm] at e
  | _, _, _, _, .non, _ => ⟨rfl, .non⟩
  | _, _, _, _, .bl, _ => ⟨rfl, .bl⟩
  | _, _, _, _, .int, _ => ⟨rfl, .int⟩
  | _, _, _, _, .str, _ => ⟨rfl, .str⟩
  | _, _, _, _, .tup h1 h2, e => let ⟨q, r⟩ := Rps.of_imm h2 (by simpa only [imm] using e); ⟨q, .tup h1 r⟩
  | _, _, _, _, .fl h1 h2, e => ⟨rfl, .fl h1 (Rps.of_imm h2 (by simpa only [imm] using e)).2⟩
  | _, _, _, _, .nd0 h _ _ _, e => by cases h <;> (simp only [imm] at e; cases e)
  | _, _, _, _, .nd1 _ h _ _, e => by cases h <;> (simp only [imm] at e; cases e)
theorem Rps.of_imm {l' : Lv} : ∀ {l : Lv} {vs : List V} {ds : List D} {F : List Addr}, Rps K S H l vs ds F → immAll ds = true → F = [] ∧ Rps K S' H l' vs ds []
  | _, _, _, _, .nil, _ => ⟨rfl, .nil⟩
  | _, _, _, _, .cons h1 h2, e => by
    simp only [immAll, Bool.and_eq_true] at e
    obtain ⟨q1, r1⟩ := Rp.of_imm (l' := l') h1 e.1
    obtain ⟨q2, r2⟩ := Rps.of_imm (l' := l') h2 e.2
    exact ⟨by rw [q1, q2]; rfl, Rps.cons (F := []) (G := []) r1 r2⟩
end
theorem Rp.same (h : Rp K S H l v d F) (s : Same H H') : Rp K S H' l v d F := h.keep (.same s)
theorem Rps.same {vs : List V} {ds : List D} (h : Rps K S H l vs ds F) (s : Same H H') : Rps K S H' l vs ds F := h.keep (.same s)
theorem Rps.len : ∀ {vs : List V} {ds : List D} {F : List Addr}, Rps K S H l vs ds F → vs.length = ds.length
  | _, _, _, .nil => rfl
  | _, _, _, .cons _ h => by rw [List.length_cons, List.length_cons, Rps.len h]
theorem Rp.int_inv {i : Int} (h : Rp K S H l v (.int i) F) : v = .int i ∧ F = [] := by
  cases h with
  | int => exact ⟨rfl, rfl⟩
  | nd0 h => cases h
  | nd1 _ h => cases h
theorem Rp.bl_inv {b : Bool} (h : Rp K S H l v (.bl b) F) : v = .bl b ∧ F = [] := by
  cases h with
  | bl => exact ⟨rfl, rfl⟩
  | nd0 h => cases h
  | nd1 _ h => cases h
theorem Rp.str_inv {x : Str} (h : Rp K S H l v (.str x) F) : v = .str x ∧ F = [] := by
  cases h with
  | str => exact ⟨rfl, rfl⟩
  | nd0 h => cases h
  | nd1 _ h => cases h
theorem Rp.non_inv (h : Rp K S H l v .non F) : v = .non ∧ F = [] := by
  cases h with
  | non => exact ⟨rfl, rfl⟩
  | nd0 h => cases h
  | nd1 _ h => cases h
theorem Rp.tup_inv {ds : List D} (h : Rp K S H l v (.tup ds) F) : ∃ a vs, v = .ref a ∧ H a = some (.tup vs) ∧ Rps K S H l vs ds F := by
  cases h with
  | tup h1 h2 => exact ⟨_, _, rfl, h1, h2⟩
  | nd0 h => cases h
  | nd1 _ h => cases h
theorem Rp.lst_inv {ds : List D} (h : Rp K S H l v (.lst ds) F) : ∃ a vs G, v = .ref a ∧ H a = some (.lst vs) ∧ Rps K S H (ch l) vs ds G ∧ (∀ b ∈ G, b ∈ F) ∧ (F.Nodup → G.Nodup) := by
  cases h with
  | nd0 h h1 h2 h3 => cases h; exact ⟨_, _, _, rfl, h1.lst, h3, fun _ z => z, id⟩
  | nd1 h0 h h1 h2 => cases h; exact ⟨_, _, _, rfl, h1, h2, fun _ z => List.mem_cons_of_mem _ z, fun n => (List.nodup_cons.mp n).2⟩
theorem Rp.fl_inv {ds : List D} (h : Rp K S H l v (.fl ds) F) : ∃ a vs, v = .ref a ∧ KSeq K H a vs ∧ Rps K S H .shr vs ds [] ∧ F = [] := by
  cases h with
  | fl h1 h2 => exact ⟨_, _, rfl, h1, h2, rfl⟩
  | nd0 h => cases h
  | nd1 _ h => cases h
mutual
theorem Rp.trk : ∀ {l : Lv} {v : V} {d : D} {F : List Addr}, Rp K S H l v d F → Rp K (fun a => S a ∧ H a ≠ none) H l v d F
  | _, _, _, _, .any => .any
  | _, _, _, _, .exc => .exc
  | _, _, _, _, .sh h1 => .sh (Rp.trk h1)
  | _, _, _, _, .non => .non
  | _, _, _, _, .bl => .bl
  | _, _, _, _, .int => .int
  | _, _, _, _, .str => .str
  | _, _, _, _, .tup h1 h2 => .tup h1 (Rps.trk h2)
  | _, _, _, _, .fl h1 h3 => .fl h1 (Rps.trk h3)
  | _, _, _, _, .nd0 h0 h1 h2 h3 => .nd0 h0 h1 ⟨h2, h1.ne⟩ (Rps.trk h3)
  | _, _, _, _, .nd1 h0 h1 h2 h3 => .nd1 h0 h1 h2 (Rps.trk h3)
theorem Rps.trk : ∀ {l : Lv} {vs : List V} {ds : List D} {F : List Addr}, Rps K S H l vs ds F → Rps K (fun a => S a ∧ H a ≠ none) H l vs ds F
  | _, _, _, _, .nil => .nil
  | _, _, _, _, .cons h1 h2 => .cons (Rp.trk h1) (Rps.trk h2)
end
mutual
theorem Rp.own_trk : ∀ {l : Lv} {v : V} {d : D} {F : List Addr}, Rp K S H l v d F → ∀ a ∈ F, H a ≠ none
  | _, _, _, _, .any => fun _ z => nomatch z
  | _, _, _, _, .exc => fun _ z => nomatch z
  | _, _, _, _, .sh _ => fun _ z => nomatch z
  | _, _, _, _, .non => fun _ z => nomatch z
  | _, _, _, _, .bl => fun _ z => nomatch z
  | _, _, _, _, .int => fun _ z => nomatch z
  | _, _, _, _, .str => fun _ z => nomatch z
  | _, _, _, _, .tup h1 h2 => Rps.own_trk h2
  | _, _, _, _, .fl h1 h3 => fun _ z => nomatch z
  | _, _, _, _, .nd0 h0 h1 h2 h3 => fun _ z => nomatch z
  | _, _, _, _, .nd1 h0 h1 h2 h3 => fun a z => (List.mem_cons.mp z).elim (fun e => by rw [e, h2]; exact fun z => nomatch z) (Rps.own_trk h3 a)
theorem Rps.own_trk : ∀ {l : Lv} {vs : List V} {ds : List D} {F : List Addr}, Rps K S H l vs ds F → ∀ a ∈ F, H a ≠ none
  | _, _, _, _, .nil => fun _ z => nomatch z
  | _, _, _, _, .cons h1 h2 => fun a z => (List.mem_append.mp z).elim (Rp.own_trk h1 a) (Rps.own_trk h2 a)
end
theorem Rps.get : ∀ {vs : List V} {ds : List D} {F : List Addr} {i : Nat} {d : D}, Rps K S H l vs ds F → ds[i]? = some d → ∃ v G, vs[i]? = some v ∧ Rp K S H l v d G ∧ ∀ b ∈ G, b ∈ F
  | _, _, _, _, _, .nil, e => by simp at e
  | _, _, _, 0, _, .cons h1 _, e => by
    simp at e; subst e
    exact ⟨_, _, rfl, h1, fun _ z => List.mem_append_left _ z⟩
  | _, _, _, i + 1, d, .cons _ h2, e => by
    obtain ⟨v, G, e1, r, s⟩ := Rps.get (i := i) (d := d) h2 (by simpa using e)
    exact ⟨v, G, by simpa using e1, r, fun b z => List.mem_append_right _ (s b z)⟩
theorem Rps.app : ∀ {vs : List V} {ds : List D} {F : List Addr} {us : List V} {es : List D} {G : List Addr}, Rps K S H l vs ds F → Rps K S H l us es G → Rps K S H l (vs ++ us) (ds ++ es) (F ++ G)
  | _, _, _, _, _, _, .nil, q => q
  | _, _, _, _, _, _, .cons h1 h2, q => by
    rw [List.append_assoc]
    exact .cons h1 (Rps.app h2 q)
theorem Rps.take : ∀ {vs : List V} {ds : List D} (n : Nat), Rps K S H .shr vs ds [] → Rps K S H .shr (vs.take n) (ds.take n) []
  | _, _, 0, _ => .nil
  | _, _, n + 1, h => by
    generalize hF : ([] : List Addr) = F at h
    cases h with
    | nil => exact .nil
    | cons h1 h2 =>
      have e1 := h1.shr0
      have e2 := h2.shr0
      subst e1 e2
      exact Rps.cons (F := []) (G := []) h1 (Rps.take n h2)
theorem Rps.drop : ∀ {vs : List V} {ds : List D} (n : Nat), Rps K S H .shr vs ds [] → Rps K S H .shr (vs.drop n) (ds.drop n) []
  | _, _, 0, h => h
  | _, _, n + 1, h => by
    generalize hF : ([] : List Addr) = F at h
    cases h with
    | nil => exact .nil
    | cons h1 h2 =>
      have e1 := h1.shr0
      have e2 := h2.shr0
      subst e1 e2
      exact Rps.drop n h2
end
section
variable {K : PySem.W.Frag} {S S' : Addr → Prop} {H H' : Hp} {l : Lv} {v : V} {d : D} {F : List Addr}
theorem mut_ne {a : Addr} (m : Mut (H a)) : H a ≠ none := fun e => by rw [e] at m; exact m
theorem Node.mu {d : D} {o : HO} {vs : List V} {ds : List D} (h : Node d o vs ds) : Mut (some o) := by cases h <;> trivial
mutual
theorem Rp.own_mut : ∀ {l : Lv} {v : V} {d : D} {F : List Addr}, Rp K S H l v d F → ∀ a ∈ F, Mut (H a)
  | _, _, _, _, .any => fun _ z => nomatch z
  | _, _, _, _, .exc => fun _ z => nomatch z
  | _, _, _, _, .sh _ => fun _ z => nomatch z
  | _, _, _, _, .non => fun _ z => nomatch z
  | _, _, _, _, .bl => fun _ z => nomatch z
  | _, _, _, _, .int => fun _ z => nomatch z
  | _, _, _, _, .str => fun _ z => nomatch z
  | _, _, _, _, .tup h1 h2 => Rps.own_mut h2
  | _, _, _, _, .fl h1 h3 => fun _ z => nomatch z
  | _, _, _, _, .nd0 h0 h1 h2 h3 => fun _ z => nomatch z
  | _, _, _, _, .nd1 h0 h1 h2 h3 => fun a z => (List.mem_cons.mp z).elim (fun e => by rw [e, h2]; exact h1.mu) (Rps.own_mut h3 a)
theorem Rps.own_mut : ∀ {l : Lv} {vs : List V} {ds : List D} {F : List Addr}, Rps K S H l vs ds F → ∀ a ∈ F, Mut (H a)
  | _, _, _, _, .nil => fun _ z => nomatch z
  | _, _, _, _, .cons h1 h2 => fun a z => (List.mem_append.mp z).elim (Rp.own_mut h1 a) (Rps.own_mut h2 a)
end
mutual
theorem Rp.own_ne : ∀ {l : Lv} {v : V} {d : D} {F : List Addr}, Rp K S H l v d F → ∀ a ∈ F, ∃ o, H a = some o ∧ NE o
  | _, _, _, _, .any => fun _ z => nomatch z
  | _, _, _, _, .exc => fun _ z => nomatch z
  | _, _, _, _, .sh _ => fun _ z => nomatch z
  | _, _, _, _, .non => fun _ z => nomatch z
  | _, _, _, _, .bl => fun _ z => nomatch z
  | _, _, _, _, .int => fun _ z => nomatch z
  | _, _, _, _, .str => fun _ z => nomatch z
  | _, _, _, _, .tup h1 h2 => Rps.own_ne h2
  | _, _, _, _, .fl h1 h3 => fun _ z => nomatch z
  | _, _, _, _, .nd0 h0 h1 h2 h3 => fun _ z => nomatch z
  | _, _, _, _, .nd1 h0 h1 h2 h3 => fun a z => (List.mem_cons.mp z).elim (fun e => ⟨_, by rw [e]; exact h2, node_ne h1⟩) (Rps.own_ne h3 a)
theorem Rps.own_ne : ∀ {l : Lv} {vs : List V} {ds : List D} {F : List Addr}, Rps K S H l vs ds F → ∀ a ∈ F, ∃ o, H a = some o ∧ NE o
  | _, _, _, _, .nil => fun _ z => nomatch z
  | _, _, _, _, .cons h1 h2 => fun a z => (List.mem_append.mp z).elim (Rp.own_ne h1 a) (Rps.own_ne h2 a)
end
theorem mut_same {a : Addr} (m : Mut (H a)) (s : Same H H') : Mut (H' a) := by
  cases e : H a with
  | none => rw [e] at m; exact m.elim
  | some o =>
    rw [e] at m
    rw [s.k a o e (by cases o <;> first | trivial | exact m)]
    exact m
end
structure Sv where
  d : D
  l : Lv
  al : Bool
  pn : Option Nat
structure Rv where
  d : D
  l : Lv
  al : Bool
  vw : Bool
abbrev Env := List (Option Sv)
structure Nw where
  n : Addr → Prop
  s : Addr → Prop
  p : Nat → Addr
instance : CoeFun Nw fun _ => Addr → Prop := ⟨Nw.n⟩
def AlN (N : Nw) (al : Bool) (a : Addr) : Prop := (N a ∨ N.s a) ∧ (al = false → N a)
theorem AlN.new {N : Nw} {al : Bool} {a : Addr} (h : N a) : AlN N al a := ⟨.inl h, fun _ => h⟩
theorem AlN.up {N : Nw} {al al' : Bool} {a : Addr} (h : AlN N al a) (k : al = true → al' = true) : AlN N al' a := ⟨h.1, fun e => h.2 (by
  cases al with
  | false => rfl
  | true => rw [k rfl] at e; cases e)⟩
def SR (N : Nw) (L : List Addr) (al vw : Bool) : Addr → Prop := fun a => AlN N al a ∧ (vw = false → a ∉ L)
inductive Slots (K : PySem.W.Frag) (N : Nw) (L : List Addr) (H : Hp) : St → Env → List Addr → Prop
  | nil : Slots K N L H [] [] []
  | no {x : Option V} {σ : St} {ρ : Env} {F : List Addr} : Slots K N L H σ ρ F → Slots K N L H (x :: σ) (none :: ρ) F
  | so {v : V} {s : Sv} {σ : St} {ρ : Env} {F G : List Addr} : (∀ k, s.pn = some k → v = .ref (N.p k)) → Rp K (SR N L s.al false) H s.l v s.d F → Slots K N L H σ ρ G → Slots K N L H (some v :: σ) (some s :: ρ) (F ++ G)
def Want (K : PySem.W.Frag) (P : Addr) (q : Str) : Prop := q = qN ∧ ∃ f c fo fd, PySem.W.nsIn K mainGlobals "nearest" = some (some (.ref f)) ∧ K.lookup f = some fo ∧ fo.data = .func fd ∧ fd.code = .ref c ∧ PySem.W.codeHdIn K c P = true
def TBs (K : PySem.W.Frag) (H : Hp) : Prop := ∀ P q, Want K P q → TbQ H P q
theorem TBs.same {K : PySem.W.Frag} {H H' : Hp} (t : TBs K H) (s : Same H H') : TBs K H' := fun P q w => s.t P q (t P q w)
structure KpT (K : PySem.W.Frag) (N : Nw) (H0 H : Hp) : Prop where
  k : ∀ b o, H0 b = some o → ¬ N b → NT o → H b = some o
  t : ∀ P q, TbQ H0 P q → TbQ H P q
  b : TBs K H0
theorem KpT.same {K : PySem.W.Frag} {N : Nw} {H0 H H' : Hp} (s : KpT K N H0 H) (h : Same H H') : KpT K N H0 H' := ⟨fun b o e n m => h.k b o (s.k b o e n m) m, fun P q t => h.t P q (s.t P q t), s.b⟩
theorem KpT.tb {K : PySem.W.Frag} {N : Nw} {H0 H : Hp} (s : KpT K N H0 H) : TBs K H := fun P q w => s.t P q (s.b P q w)
theorem KpT.upd {K : PySem.W.Frag} {N : Nw} {H0 H : Hp} {a : Addr} {o0 o : HO} (s : KpT K N H0 H) (hN : N a) (e0 : H a = some o0) (ne : NE o0) : KpT K N H0 (upd H a o) :=
  ⟨fun b u e n m => by rw [upd_ne (fun z => n (by rw [z]; exact hN))]; exact s.k b u e n m, fun P q t => tabS_upd e0 ne (s.t P q t), s.b⟩
structure Sim (K : PySem.W.Frag) (N : Nw) (H0 : Hp) (ρ : Env) (σ : St) (H : Hp) (L : List Addr) : Prop where
  kp : KpT K N H0 H
  nw : ∀ b, H b = none → N b
  nd : L.Nodup
  ln : ∀ a ∈ L, N a
  mu : ∀ a ∈ L, Mut (H a)
  sl : Slots K N L H σ ρ L
theorem Slots.ne {K : PySem.W.Frag} {N : Nw} {L : List Addr} {H : Hp} : ∀ {σ : St} {ρ : Env} {F : List Addr}, Slots K N L H σ ρ F → ∀ a ∈ F, ∃ o, H a = some o ∧ NE o
  | _, _, _, .nil => fun _ z => nomatch z
  | _, _, _, .no h => Slots.ne h
  | _, _, _, .so _ h1 h2 => fun a z => (List.mem_append.mp z).elim (h1.own_ne a) (Slots.ne h2 a)
theorem Sim.ne {K : PySem.W.Frag} {N : Nw} {H0 H : Hp} {ρ : Env} {σ : St} {L : List Addr} (s : Sim K N H0 ρ σ H L) : ∀ a ∈ L, ∃ o, H a = some o ∧ NE o := s.sl.ne
theorem Sim.th {K : PySem.W.Frag} {N : Nw} {H0 H : Hp} {ρ : Env} {σ : St} {L : List Addr} (s : Sim K N H0 ρ σ H L) : ∀ a ∈ L, H a ≠ none := fun a z => mut_ne (s.mu a z)
section
variable {K : PySem.W.Frag} {N : Nw} {H0 H H' : Hp} {ρ : Env} {σ : St} {L : List Addr}
theorem Slots.keep {L0 : List Addr} : ∀ {σ : St} {ρ : Env} {F : List Addr}, Slots K N L0 H σ ρ F → (∀ al, Keeps (SR N L0 al false) F H H') → Slots K N L0 H' σ ρ F
  | _, _, _, .nil, _ => .nil
  | _, _, _, .no h, k => .no (Slots.keep h k)
  | _, _, _, .so h0 h1 h2, k => .so h0 (h1.keep ((k _).sub fun _ z => List.mem_append_left _ z)) (Slots.keep h2 fun al => (k al).sub fun _ z => List.mem_append_right _ z)
theorem Slots.mono {L0 L1 : List Addr} (h : ∀ a, a ∉ L0 → a ∉ L1) : ∀ {σ : St} {ρ : Env} {F : List Addr}, Slots K N L0 H σ ρ F → Slots K N L1 H σ ρ F
  | _, _, _, .nil => .nil
  | _, _, _, .no s => .no (Slots.mono h s)
  | _, _, _, .so h0 h1 h2 => .so h0 (h1.mono fun a z => ⟨z.1, fun e => h a (z.2 e)⟩) (Slots.mono h h2)
theorem Slots.move {L0 L1 : List Addr} (h : ∀ a, a ∉ L0 → H a ≠ none → a ∉ L1) : ∀ {σ : St} {ρ : Env} {F : List Addr}, Slots K N L0 H σ ρ F → (∀ al, Keeps (SR N L0 al false) F H H') → Slots K N L1 H' σ ρ F
  | _, _, _, .nil, _ => .nil
  | _, _, _, .no s, k => .no (Slots.move h s k)
  | _, _, _, .so h0 h1 h2, k => .so h0 ((h1.trk.keep (F := _) (fun b o e n q => k _ b o e n (q.imp (fun z => z.1) (fun z => z.imp (List.mem_append_left _) id)))).mono fun a z => ⟨z.1.1, fun _ => h a (z.1.2 rfl) z.2⟩) (Slots.move h h2 fun al => (k al).sub fun _ z => List.mem_append_right _ z)
theorem Slots.len {L0 : List Addr} : ∀ {σ : St} {ρ : Env} {F : List Addr}, Slots K N L0 H σ ρ F → σ.length = ρ.length
  | _, _, _, .nil => rfl
  | _, _, _, .no h => by rw [List.length_cons, List.length_cons, Slots.len h]
  | _, _, _, .so _ _ h => by rw [List.length_cons, List.length_cons, Slots.len h]
theorem Sim.same (s : Sim K N H0 ρ σ H L) (h : Same H H') : Sim K N H0 ρ σ H' L where
  kp := s.kp.same h
  nw := fun b e => s.nw b (h.free e)
  nd := s.nd
  ln := s.ln
  mu := fun a ha => mut_same (s.mu a ha) h
  sl := s.sl.keep fun _ => .same h
theorem Slots.get {L0 : List Addr} : ∀ {σ : St} {ρ : Env} {F : List Addr} {i : Nat} {s : Sv}, Slots K N L0 H σ ρ F → ρ[i]? = some (some s) → ∃ v G, σ[i]? = some (some v) ∧ Rp K (SR N L0 s.al false) H s.l v s.d G ∧ (∀ b ∈ G, b ∈ F) ∧ ∀ k, s.pn = some k → v = .ref (N.p k)
  | _, _, _, _, _, .nil, e => by simp at e
  | _, _, _, 0, _, .no _, e => by simp at e
  | _, _, _, i + 1, s, .no h, e => by
    obtain ⟨v, G, e1, r, q⟩ := Slots.get (i := i) (s := s) h (by simpa using e)
    exact ⟨v, G, by simpa using e1, r, q⟩
  | _, _, _, 0, _, .so h0 h _, e => by
    simp at e; subst e
    exact ⟨_, _, rfl, h, fun _ z => List.mem_append_left _ z, h0⟩
  | _, _, _, i + 1, s, .so _ _ h, e => by
    obtain ⟨v, G, e1, r, q, p⟩ := Slots.get (i := i) (s := s) h (by simpa using e)
    exact ⟨v, G, by simpa using e1, r, fun b z => List.mem_append_right _ (q b z), p⟩
theorem Slots.at_ {L0 : List Addr} : ∀ {σ : St} {ρ : Env} {F : List Addr} {i : Nat}, Slots K N L0 H σ ρ F → i < ρ.length →
    ∃ F1 G F2, F = F1 ++ (G ++ F2) ∧ (∀ s, ρ[i]? = some (some s) → ∃ v, σ[i]? = some (some v) ∧ (∀ k, s.pn = some k → v = .ref (N.p k)) ∧ Rp K (SR N L0 s.al false) H s.l v s.d G) ∧
      ∀ {L1 : List Addr} {H1 : Hp} {v : V} {s : Sv} {G' : List Addr}, (∀ al, Keeps (SR N L0 al false) (F1 ++ F2) H H1) → (∀ a, a ∉ L0 → H a ≠ none → a ∉ L1) → (∀ k, s.pn = some k → v = .ref (N.p k)) → Rp K (SR N L1 s.al false) H1 s.l v s.d G' → Slots K N L1 H1 (σ.set i (some v)) (ρ.set i (some s)) (F1 ++ (G' ++ F2))
  | _, _, _, _, .nil, h => absurd h (Nat.not_lt_zero _)
  | _, _, F, 0, .no h, _ => ⟨[], [], F, rfl, fun s e => by simp at e, fun {L1 H1 v s G'} k g p r => Slots.so (F := G') p r (h.move g k)⟩
  | _, _, _, 0, .so (F := F) (G := G) h0 h1 h, _ => ⟨[], F, G, rfl, fun s e => by simp at e; subst e; exact ⟨_, rfl, h0, h1⟩, fun {L1 H1 v s G'} k g p r => Slots.so (F := G') p r (h.move g k)⟩
  | _, _, _, i + 1, .no h, hl => by
    obtain ⟨F1, G, F2, e, q, p⟩ := Slots.at_ (i := i) h (by simpa using hl)
    exact ⟨F1, G, F2, e, fun s z => by simpa using q s (by simpa using z), fun {L1 H1 v s G'} k g pp r => .no (p k g pp r)⟩
  | _, _, _, i + 1, .so (F := F) h0 h1 h, hl => by
    obtain ⟨F1, G, F2, e, q, p⟩ := Slots.at_ (i := i) h (by simpa using hl)
    refine ⟨F ++ F1, G, F2, by rw [e, List.append_assoc], fun s z => by simpa using q s (by simpa using z), fun {L1 H1 v s G'} k g pp r => ?_⟩
    rw [List.append_assoc]
    refine .so h0 ?_ (p (fun al => (k al).sub fun a z => ?_) g pp r)
    · exact (h1.trk.keep (fun b o e n q => k _ b o e n (q.imp (fun z => z.1) (fun z => z.imp (fun y => by simp [y]) id)))).mono fun a z => ⟨z.1.1, fun _ => g a (z.1.2 rfl) z.2⟩
    · rcases List.mem_append.mp z with z | z <;> simp [z]
theorem Sim.set {i : Nat} {v : V} {r : Sv} {G : List Addr} (s : Sim K N H0 ρ σ H L) (pp : ∀ k, r.pn = some k → v = .ref (N.p k)) (sm : Same H H') (new : ∀ a ∈ G, H a = none) (nd : G.Nodup) (rp : Rp K (fun a => SR N L r.al false a ∧ a ∉ G) H' r.l v r.d G) (hi : i < ρ.length) :
    ∃ L', Sim K N H0 (ρ.set i (some r)) (σ.set i (some v)) H' L' ∧ ∀ a ∈ L', a ∈ L ∨ a ∈ G := by
  obtain ⟨F1, G0, F2, e, _, p⟩ := s.sl.at_ hi
  have hnd := s.nd
  rw [e] at hnd
  have sub : ∀ a, a ∈ F1 ++ (G ++ F2) → a ∈ L ∨ a ∈ G := fun a z => by
    rw [e]
    rcases List.mem_append.mp z with z | z
    · exact .inl (by simp [z])
    · rcases List.mem_append.mp z with z | z
      · exact .inr z
      · exact .inl (by simp [z])
  have q := p (L1 := F1 ++ (G ++ F2)) (H1 := H') (v := v) (s := r) (G' := G) (fun al => .same sm) (fun a z t m => (sub a m).elim z fun y => t (new a y)) pp (rp.mono fun a z => ⟨z.1.1, fun m y => (sub a y).elim (z.1.2 rfl) z.2⟩)
  refine ⟨F1 ++ (G ++ F2), ⟨s.kp.same sm, fun b z => s.nw b (sm.free z), ?_, fun a z => ?_, fun a z => ?_, q⟩, sub⟩
  · rw [List.nodup_append] at hnd ⊢
    obtain ⟨n1, n2, n3⟩ := hnd
    rw [List.nodup_append] at n2 ⊢
    have inL : ∀ a, a ∈ F1 ∨ a ∈ F2 → H a ≠ none := fun a z => s.th a (by rw [e]; rcases z with z | z <;> simp [z])
    refine ⟨n1, ⟨nd, n2.2.1, fun a ha b hb z => inL b (.inr hb) (z ▸ new a ha)⟩, fun a ha b hb z => ?_⟩
    rcases List.mem_append.mp hb with hb | hb
    · exact inL a (.inl ha) (z ▸ new b hb)
    · exact n3 a ha b (by simp [hb]) z
  · rcases sub a z with z | z
    · exact s.ln a z
    · exact s.nw a (new a z)
  · rcases sub a z with z | z
    · exact mut_same (s.mu a z) sm
    · exact rp.own_mut a z
def frz (i : Nat) (ρ : Env) : Env := match ρ[i]? with
  | some (some s) => ρ.set i (some ⟨s.d, .shr, s.al, none⟩)
  | _ => ρ
theorem Sim.frz (i : Nat) (s : Sim K N H0 ρ σ H L) : ∃ L', Sim K N H0 (frz i ρ) σ H L' ∧ ∀ a ∈ L', a ∈ L := by
  unfold Ev.frz
  split
  · rename_i sv e
    have hi : i < ρ.length := (List.getElem?_eq_some_iff.mp e).1
    obtain ⟨F1, G, F2, e1, q, p⟩ := s.sl.at_ hi
    obtain ⟨v, ev, _, rp⟩ := q sv e
    have hnd := s.nd
    rw [e1] at hnd
    have sub : ∀ a, a ∈ F1 ++ ([] ++ F2) → a ∈ L := fun a z => by
      rw [e1]
      rcases List.mem_append.mp z with z | z
      · simp [z]
      · simp at z; simp [z]
    rw [List.nodup_append] at hnd
    obtain ⟨n1, n2, n3⟩ := hnd
    rw [List.nodup_append] at n2
    have out : ∀ a ∈ G, a ∉ F1 ++ ([] ++ F2) := fun a ha z => by
      rcases List.mem_append.mp z with z | z
      · exact n3 a z a (by simp [ha]) rfl
      · simp at z
        exact n2.2.2 a ha a z rfl
    have rp' : Rp K (SR N (F1 ++ ([] ++ F2)) sv.al false) H .shr v sv.d [] := rp.give (fun a z => ⟨z.1, fun m y => z.2 rfl (sub a y)⟩) fun a ha => ⟨.new (s.ln a (by rw [e1]; simp [ha])), fun _ => out a ha⟩
    have z := p (L1 := F1 ++ ([] ++ F2)) (H1 := H) (v := v) (s := ⟨sv.d, .shr, sv.al, none⟩) (G' := []) (fun al => .same (Same.refl H)) (fun a z _ m => z (sub a m)) (fun _ z => nomatch z) rp'
    have eσ : σ.set i (some v) = σ := by
      obtain ⟨h1, h2⟩ := List.getElem?_eq_some_iff.mp ev
      rw [← h2, List.set_getElem_self]
    rw [eσ] at z
    refine ⟨F1 ++ ([] ++ F2), ⟨s.kp, s.nw, ?_, fun a z => s.ln a (sub a z), fun a z => s.mu a (sub a z), z⟩, sub⟩
    rw [List.nodup_append]
    refine ⟨n1, by simpa using n2.2.1, fun a ha b hb => ?_⟩
    simp at hb
    exact n3 a ha b (by simp [hb])
  · exact ⟨L, s, fun _ z => z⟩
def frzs : List Nat → Env → Env
  | [], ρ => ρ
  | i :: is, ρ => frzs is (frz i ρ)
theorem Sim.frzs : ∀ (is : List Nat) {ρ : Env} {L : List Addr}, Sim K N H0 ρ σ H L → ∃ L', Sim K N H0 (frzs is ρ) σ H L' ∧ ∀ a ∈ L', a ∈ L
  | [], _, L, s => ⟨L, s, fun _ z => z⟩
  | i :: is, _, _, s => let ⟨_, s', h⟩ := s.frz i; let ⟨L2, s2, h2⟩ := Sim.frzs is s'; ⟨L2, s2, fun a z => h a (h2 a z)⟩
structure SimH (K : PySem.W.Frag) (N : Nw) (H0 : Hp) (ρ : Env) (σ : St) (H : Hp) (L W : List Addr) : Prop where
  kp : KpT K N H0 H
  nw : ∀ b, H b = none → N b
  nd : W.Nodup
  ln : ∀ a ∈ W, N a
  mu : ∀ a ∈ W, Mut (H a)
  sl : Slots K N W H σ ρ L
  sub : ∀ a ∈ L, a ∈ W
  ndl : L.Nodup
theorem SimH.th {W : List Addr} (s : SimH K N H0 ρ σ H L W) : ∀ a ∈ W, H a ≠ none := fun a z => mut_ne (s.mu a z)
theorem Sim.h (s : Sim K N H0 ρ σ H L) : SimH K N H0 ρ σ H L L := ⟨s.kp, s.nw, s.nd, s.ln, s.mu, s.sl, fun _ z => z, s.nd⟩
theorem SimH.sim {W : List Addr} (s : SimH K N H0 ρ σ H L W) : Sim K N H0 ρ σ H L := ⟨s.kp, s.nw, s.ndl, fun a z => s.ln a (s.sub a z), fun a z => s.mu a (s.sub a z), s.sl.mono fun a z m => z (s.sub a m)⟩
theorem SimH.same {W : List Addr} (s : SimH K N H0 ρ σ H L W) (h : Same H H') : SimH K N H0 ρ σ H' L W where
  kp := s.kp.same h
  nw := fun b e => s.nw b (h.free e)
  nd := s.nd
  ln := s.ln
  mu := fun a ha => mut_same (s.mu a ha) h
  sl := s.sl.keep fun _ => .same h
  sub := s.sub
  ndl := s.ndl
theorem SimH.hold {W F : List Addr} (s : SimH K N H0 ρ σ H L W) (h : Same H H') (new : ∀ a ∈ F, H a = none) (nd : F.Nodup) (th : ∀ a ∈ F, Mut (H' a)) : SimH K N H0 ρ σ H' L (W ++ F) where
  kp := s.kp.same h
  nw := fun b e => s.nw b (h.free e)
  nd := by
    rw [List.nodup_append]
    exact ⟨s.nd, nd, fun a ha b hb e => s.th a ha (e ▸ new b hb)⟩
  ln := fun a z => (List.mem_append.mp z).elim (s.ln a) fun z => s.nw a (new a z)
  mu := fun a z => (List.mem_append.mp z).elim (fun z => mut_same (s.mu a z) h) fun z => th a z
  sl := s.sl.move (fun a z t m => (List.mem_append.mp m).elim z fun m => t (new a m)) fun _ => .same h
  sub := fun a z => List.mem_append_left _ (s.sub a z)
  ndl := s.ndl
theorem SimH.set0 {W : List Addr} {i : Nat} {v : V} {r : Sv} (s : SimH K N H0 ρ σ H L W) (pp : ∀ k, r.pn = some k → v = .ref (N.p k)) (rp : Rp K (SR N W r.al false) H r.l v r.d []) (hi : i < ρ.length) :
    ∃ L', SimH K N H0 (ρ.set i (some r)) (σ.set i (some v)) H L' W ∧ ∀ a ∈ L', a ∈ L := by
  obtain ⟨F1, G0, F2, e, _, p⟩ := s.sl.at_ hi
  have hnd := s.ndl
  rw [e] at hnd
  have sub : ∀ a, a ∈ F1 ++ ([] ++ F2) → a ∈ L := fun a z => by
    rw [e]
    rcases List.mem_append.mp z with z | z
    · simp [z]
    · simp at z; simp [z]
  refine ⟨F1 ++ ([] ++ F2), ⟨s.kp, s.nw, s.nd, s.ln, s.mu, p (fun al => .same (Same.refl H)) (fun a z _ => z) pp rp, fun a z => s.sub a (sub a z), ?_⟩, sub⟩
  rw [List.nodup_append] at hnd ⊢
  rw [List.nodup_append] at hnd
  exact ⟨hnd.1, by simpa using hnd.2.1.2.1, fun a ha b hb => hnd.2.2 a ha b (by simp at hb; simp [hb])⟩
theorem Slots.drop1 {L0 : List Addr} : ∀ {σ : St} {ρ : Env} {F : List Addr} (i : Nat), Slots K N L0 H σ ρ F → ∃ F', Slots K N L0 H (σ.set i none) (ρ.set i none) F' ∧ F'.Sublist F
  | _, _, _, i, .nil => ⟨[], by cases i <;> exact .nil, List.Sublist.refl _⟩
  | _, _, F, 0, .no h => ⟨F, .no h, List.Sublist.refl _⟩
  | _, _, _, 0, .so (F := F) (G := G) _ h1 h => ⟨G, .no h, List.sublist_append_right F G⟩
  | _, _, _, i + 1, .no h => let ⟨F', s, q⟩ := Slots.drop1 i h; ⟨F', .no s, q⟩
  | _, _, _, i + 1, .so (F := F) h0 h1 h => let ⟨F', s, q⟩ := Slots.drop1 i h; ⟨F ++ F', .so h0 h1 s, List.Sublist.append (List.Sublist.refl F) q⟩
theorem SimH.drop1 {W : List Addr} (i : Nat) (s : SimH K N H0 ρ σ H L W) : ∃ L', SimH K N H0 (ρ.set i none) (σ.set i none) H L' W ∧ ∀ a ∈ L', a ∈ L := by
  obtain ⟨F', h, q⟩ := s.sl.drop1 i
  exact ⟨F', ⟨s.kp, s.nw, s.nd, s.ln, s.mu, h, fun a z => s.sub a (q.subset z), q.nodup s.ndl⟩, fun a z => q.subset z⟩
end
def wipeE : List Nat → Env → Env
  | [], ρ => ρ
  | i :: is, ρ => (wipeE is ρ).set i none
end Ev
set_option Elab.async false
set_option linter.all false
set_option maxRecDepth 100000
namespace Ev
open PySem PySem.Spec L2
open PyProof.Rows hiding St
abbrev EvE := Env → Option Rv
abbrev EvT := Env → Option Bool
abbrev EvA := Env → Option (List Rv)
def Post (K : PySem.W.Frag) (N : Nw) (L : List Addr) (H : Hp) (r : Rv) (Q : VK) : Prop :=
  ∀ v H' F, Same H H' → (∀ a ∈ F, H a = none) → F.Nodup → Rp K (fun a => SR N L r.al r.vw a ∧ a ∉ F) H' r.l v r.d F → Q v H'
def tE (K : PySem.W.Frag) (f : EvE) : TE := fun σ H Q => ∃ N H0 ρ L W r, SimH K N H0 ρ σ H L W ∧ f ρ = some r ∧ Post K N W H r Q
def tT (K : PySem.W.Frag) (f : EvT) : TT := fun σ H Q => ∃ N H0 ρ L W b, SimH K N H0 ρ σ H L W ∧ f ρ = some b ∧ ∀ H', Same H H' → Q b H'
abbrev PEv (X : Cx) (e : Expr) (f : EvE) : Prop := PE X e (tE X.K f)
abbrev PTv (X : Cx) (e : Expr) (f : EvT) : Prop := PT X e (tT X.K f)
abbrev PWv (X : Cx) (e : Expr) (f : EvT) : Prop := PW X e (tT X.K f)
theorem imp_e {X : Cx} {e : Expr} {t t' : TE} (h : PE X e t) (i : ∀ σ H Q, t' σ H Q → t σ H Q) : PE X e t' := ⟨fun p s σ H Q I w => h.run p s σ H Q I (i σ H Q w)⟩
theorem imp_t {X : Cx} {e : Expr} {t t' : TT} (h : PT X e t) (i : ∀ σ H Q, t' σ H Q → t σ H Q) : PT X e t' := ⟨fun p s σ H Q I w => h.run p s σ H Q I (i σ H Q w)⟩
theorem imp_w {X : Cx} {e : Expr} {t t' : TT} (h : PW X e t) (i : ∀ σ H Q, t' σ H Q → t σ H Q) : PW X e t' := ⟨fun wh p s σ H Q I w => h.run wh p s σ H Q I (i σ H Q w)⟩
def rA (d : D) : Rv := ⟨d, .full, false, false⟩
abbrev rI (i : Int) : Rv := rA (.int i)
abbrev rB (b : Bool) : Rv := rA (.bl b)
theorem bind_some {α β : Type} {x : Option α} {f : α → Option β} {b : β} (h : x.bind f = some b) : ∃ a, x = some a ∧ f a = some b := by
  cases x with
  | none => cases h
  | some a => exact ⟨a, rfl, h⟩
section
variable {K : PySem.W.Frag} {N : Nw} {H0 H H' : Hp} {ρ : Env} {σ : St} {L : List Addr} {Q : VK}
theorem Post.atom {v : V} {d : D} (p : Post K N L H (rA d) Q) (s : Same H H') (r : ∀ S, Rp K S H' .full v d []) : Q v H' := p v H' [] s (fun _ z => nomatch z) .nil (r _)
theorem Post.int {i : Int} (p : Post K N L H (rI i) Q) (s : Same H H') : Q (.int i) H' := p.atom s fun _ => .int
theorem Post.bl {i : Bool} (p : Post K N L H (rB i) Q) (s : Same H H') : Q (.bl i) H' := p.atom s fun _ => .bl
theorem one {W : List Addr} {fa : EvE} {x : Rv} {R : V → Hp → Prop} (sim : SimH K N H0 ρ σ H L W) (e1 : fa ρ = some x)
    (k : ∀ v H1 F, Same H H1 → (∀ a ∈ F, H a = none) → F.Nodup → Rp K (fun a => SR N W x.al x.vw a ∧ a ∉ F) H1 x.l v x.d F → R v H1) : tE K fa σ H R :=
  ⟨N, H0, ρ, L, W, x, sim, e1, fun v H1 F s n nd p => k v H1 F s n nd p⟩
theorem two {W : List Addr} {fa fb : EvE} {x y : Rv} {R : V → V → Hp → Prop} (sim : SimH K N H0 ρ σ H L W) (e1 : fa ρ = some x) (e2 : fb ρ = some y)
    (k : ∀ v w H2 F G, Same H H2 → (∀ a ∈ F, H a = none) → (∀ a ∈ G, H a = none) → F.Nodup → G.Nodup → (∀ a ∈ F, a ∉ G) → Rp K (fun a => SR N W x.al x.vw a ∧ a ∉ F ∧ a ∉ G) H2 x.l v x.d F → Rp K (fun a => SR N (W ++ F) y.al y.vw a ∧ a ∉ G) H2 y.l w y.d G → R v w H2) :
    tE K fa σ H fun v H1 => tE K fb σ H1 fun w H2 => R v w H2 :=
  one sim e1 fun v H1 F s1 n1 d1 p1 => one (sim.hold s1 n1 d1 p1.own_mut) e2 fun w H2 G s2 n2 d2 p2 =>
    k v w H2 F G (s1.trans s2) n1 (fun a z => s1.free (n2 a z)) d1 d2 (fun a z m => p1.own_trk a z (n2 a m)) ((p1.trk.same s2).mono fun a z => ⟨z.1.1, z.1.2, fun m => z.2 (n2 a m)⟩) p2
end
def eName (i : Nat) : EvE := fun ρ => match ρ[i]? with
  | some (some s) => some (if imm s.d then rA s.d else ⟨s.d, .shr, s.al, decide (s.l ≠ .shr)⟩)
  | _ => none
section
variable {X : Cx}
theorem e_name (i : Nat) {x : Str} {pos : Pos} (hN : X.N[i]? = some x := by rfl) (hv : Vis X.env.scope x := by first | exact Or.inl rfl | exact Or.inr (Or.inl rfl) | exact Or.inr (Or.inr rfl)) (hd : (x == ("__debug__" : Str)) = false := by decide)
    (hcd : (x == ("__classdict__" : Str)) = false := by decide) : PEv X (.Name x pos) (eName i) := by
  refine imp_e (pe_var hN hv hd hcd) fun σ H Q h => ?_
  obtain ⟨N, H0, ρ, L, W, r, sim, e, q⟩ := h
  unfold eName at e
  split at e
  · rename_i s es
    obtain ⟨v, G, ev, rp, sub, _⟩ := sim.sl.get es
    refine ⟨v, ev, ?_⟩
    cases hi : imm s.d with
    | true =>
      rw [hi, if_pos rfl] at e
      cases e
      exact q.atom (Same.refl H) fun S => (rp.of_imm hi).2
    | false =>
      rw [hi, if_neg Bool.false_ne_true] at e
      cases e
      refine q v H [] (Same.refl H) (fun _ z => nomatch z) .nil (rp.give (fun a z => ⟨⟨z.1, fun _ => z.2 rfl⟩, fun m => nomatch m⟩) fun a z => ⟨⟨.new (sim.ln a (sim.sub a (sub a z))), fun hvw => ?_⟩, fun m => nomatch m⟩)
      have hl : s.l = .shr := by simpa using hvw
      rw [hl] at rp
      rw [rp.shr0] at z
      cases z
  · cases e
def eC (d : D) : EvE := fun _ => some (rA d)
theorem e_int {i j pos} : PEv X (.Constant (.int i) j pos) (eC (.int i)) := imp_e pe_int fun _ H Q ⟨_, _, _, _, _, _, _, e, q⟩ => by cases e; exact q.int (Same.refl H)
theorem e_bl {b j pos} : PEv X (.Constant (.bool b) j pos) (eC (.bl b)) := imp_e pe_bl fun _ H Q ⟨_, _, _, _, _, _, _, e, q⟩ => by cases e; exact q.bl (Same.refl H)
theorem e_str {x j pos} : PEv X (.Constant (.str x) j pos) (eC (.str x)) := imp_e pe_str fun _ H Q ⟨_, _, _, _, _, _, _, e, q⟩ => by cases e; exact q.atom (Same.refl H) fun _ => .str
def eOp (C : Int → Int → Bool) (g : Int → Int → D) (fa fb : EvE) : EvE := fun ρ => (fa ρ).bind fun x => (fb ρ).bind fun y => match x.d, y.d with
  | .int i, .int j => if C i j = true then some (rA (g i j)) else none
  | _, _ => none
variable {a b c e : Expr} {fa fb fc fe : EvE} {pos : Pos}
theorem eOp_some {C : Int → Int → Bool} {g : Int → Int → D} {ρ : Env} {r : Rv} (h : eOp C g fa fb ρ = some r) : ∃ x y i j, fa ρ = some x ∧ fb ρ = some y ∧ x.d = .int i ∧ y.d = .int j ∧ C i j = true ∧ r = rA (g i j) := by
  unfold eOp at h
  obtain ⟨x, e1, h⟩ := bind_some h
  obtain ⟨y, e2, h⟩ := bind_some h
  split at h
  · rename_i i j d1 d2
    split at h
    · rename_i hc
      cases h
      exact ⟨x, y, i, j, e1, e2, d1, d2, hc, rfl⟩
    · cases h
  · cases h
theorem e_opI {op : Operator} {P : Int → Int → Prop} {C : Int → Int → Bool} {g : Int → Int → Int} (ho : OpR X (binaryOp op) (L2.rI P fun i j => .int (g i j))) (hP : ∀ i j, C i j = true → P i j) (ha : PEv X a fa) (hb : PEv X b fb) :
    PEv X (.BinOp a op b pos) (eOp C (fun i j => .int (g i j)) fa fb) := by
  refine imp_e (pe_op ho ha hb) fun σ H Q ⟨N, H0, ρ, L, W, r, sim, e, q⟩ => ?_
  obtain ⟨x, y, i, j, e1, e2, d1, d2, hc, rfl⟩ := eOp_some e
  refine two sim e1 e2 fun v w H2 F G s _ _ _ _ _ p1 p2 => ?_
  rw [d1] at p1
  rw [d2] at p2
  obtain ⟨rfl, _⟩ := p1.int_inv
  obtain ⟨rfl, _⟩ := p2.int_inv
  exact ⟨i, j, rfl, rfl, hP _ _ hc, q.int s⟩
abbrev cT : Int → Int → Bool := fun _ _ => true
theorem rI_of {g : Int → Int → V} {f : Value → Value → Sem Value} (h : OpR X f (L2.rI0 g)) : OpR X f (L2.rI (fun _ _ => True) g) := fun pins s σ H x y v u Q I r1 r2 ⟨i, j, e1, e2, _, q⟩ => h pins s σ H x y v u Q I r1 r2 ⟨i, j, e1, e2, q⟩
abbrev eAdd := eOp cT fun i j => .int (i + j)
abbrev eSub := eOp cT fun i j => .int (i - j)
abbrev cMul (i j : Int) : Bool := decide (((-(2 ^ 64) < i ∧ i < 2 ^ 64) ∨ (-(2 ^ 64) < j ∧ j < 2 ^ 64)) ∨ Builtin.Int.intBits i + Builtin.Int.intBits j ≤ 134217728)
abbrev eMul := eOp cMul fun i j => .int (i * j)
theorem mulB_ok {i j : Int} (h : Builtin.Int.intBits i + Builtin.Int.intBits j ≤ 134217728) : IntMulOk i j := by
  have e : bitsLine = 134217728 := by decide
  unfold IntMulOk
  intro z
  rw [Bool.and_eq_true] at z
  have z2 := z.2
  unfold Builtin.Int.intTooBig at z2
  have z3 := of_decide_eq_true z2
  rw [e] at z3
  omega
theorem op_mul2 {X : Cx} : OpR X (binaryOp .Mult) (L2.rI (fun i j => CMul i j ∨ Builtin.Int.intBits i + Builtin.Int.intBits j ≤ 134217728) fun i j => .int (i * j)) := opI fun _ _ _ _ _ _ _ hc q => mul_int q (Or.elim (show CMul _ _ ∨ Builtin.Int.intBits _ + Builtin.Int.intBits _ ≤ 134217728 from hc) CMul.ok mulB_ok)
abbrev eDiv := eOp (fun i j => decide (0 < j ∧ j.natAbs.log2 < 9000)) fun i j => .int (i / j)
abbrev eMod := eOp (fun i j => decide (0 < j)) fun i j => .int (i % j)
abbrev ePow := eOp (fun i j => decide (0 ≤ j ∧ j ≤ 1000000 ∧ i.natAbs < 2 ^ 64)) fun i j => .int (i ^ j.toNat)
theorem e_sub (ha : PEv X a fa) (hb : PEv X b fb) : PEv X (.BinOp a .Sub b pos) (eSub fa fb) := e_opI (rI_of op_sub) (fun _ _ _ => trivial) ha hb
theorem e_mul (ha : PEv X a fa) (hb : PEv X b fb) : PEv X (.BinOp a .Mult b pos) (eMul fa fb) := e_opI op_mul2 (fun i j h => (of_decide_eq_true h : ((-(2 ^ 64) < i ∧ i < 2 ^ 64) ∨ (-(2 ^ 64) < j ∧ j < 2 ^ 64)) ∨ Builtin.Int.intBits i + Builtin.Int.intBits j ≤ 134217728)) ha hb
theorem e_div (ha : PEv X a fa) (hb : PEv X b fb) : PEv X (.BinOp a .FloorDiv b pos) (eDiv fa fb) := e_opI op_fdivW (fun i j h => (of_decide_eq_true h : 0 < j ∧ j.natAbs.log2 < 9000)) ha hb
theorem e_mod (ha : PEv X a fa) (hb : PEv X b fb) : PEv X (.BinOp a .Mod b pos) (eMod fa fb) := e_opI op_mod (fun _ _ h => of_decide_eq_true h) ha hb
theorem e_pow (ha : PEv X a fa) (hb : PEv X b fb) : PEv X (.BinOp a .Pow b pos) (ePow fa fb) := e_opI op_pow (fun i j h => by simpa [CPow] using h) ha hb
def eCmp (g : D → D → Option Bool) (fa fb : EvE) : EvE := fun ρ => (fa ρ).bind fun x => (fb ρ).bind fun y => (g x.d y.d).map rB
def CmpOk (X : Cx) (op : CmpOp) (g : D → D → Option Bool) : Prop :=
  ∃ r : R2, OpR X (compareOp op) r ∧ ∀ (S S' : Addr → Prop) (H : Hp) (l l' : Lv) (v w : V) (d e : D) (F G : List Addr) (b : Bool) (Q : VK), Rp X.K S H l v d F → Rp X.K S' H l' w e G → g d e = some b → Q (.bl b) H → r v w H Q
theorem e_cmp {op : CmpOp} {g : D → D → Option Bool} (ho : CmpOk X op g) (ha : PEv X a fa) (hb : PEv X b fb) (hm : behindInMarks op b = false := by first | exact nomark _ (by decide) (by decide) | rfl) : PEv X (.Compare a [op] [b] pos) (eCmp g fa fb) := by
  obtain ⟨r, ho, hr⟩ := ho
  refine imp_e (pe_cmpR ho ha hb hm) fun σ H Q ⟨N, H0, ρ, L, W, rr, sim, e, q⟩ => ?_
  unfold eCmp at e
  obtain ⟨x, e1, e⟩ := bind_some e
  obtain ⟨y, e2, e⟩ := bind_some e
  obtain ⟨k, ek, e⟩ := Option.map_eq_some_iff.mp e
  subst e
  exact two sim e1 e2 fun v w H2 F G s _ _ _ _ _ p1 p2 => hr _ _ _ _ _ _ _ _ _ _ _ _ _ p1 p2 ek (q.bl s)
def tCmp (g : D → D → Option Bool) (fa fb : EvE) : EvT := fun ρ => (fa ρ).bind fun x => (fb ρ).bind fun y => g x.d y.d
theorem t_cmp {op : CmpOp} {g : D → D → Option Bool} (ho : CmpOk X op g) (ha : PEv X a fa) (hb : PEv X b fb) (hm : behindInMarks op b = false := by first | exact nomark _ (by decide) (by decide) | rfl) : PTv X (.Compare a [op] [b] pos) (tCmp g fa fb) := by
  obtain ⟨r, ho, hr⟩ := ho
  refine imp_t (pt_cmpR ho ha hb hm) fun σ H Q ⟨N, H0, ρ, L, W, k, sim, e, q⟩ => ?_
  unfold Ev.tCmp at e
  obtain ⟨x, e1, e⟩ := bind_some e
  obtain ⟨y, e2, e⟩ := bind_some e
  exact two sim e1 e2 fun v w H2 F G s _ _ _ _ _ p1 p2 => hr _ _ _ _ _ _ _ _ _ _ _ _ _ p1 p2 e ⟨k, rfl, q _ s⟩
def gI (p : Int → Int → Bool) : D → D → Option Bool
  | .int i, .int j => some (p i j)
  | _, _ => none
theorem gI_some {p : Int → Int → Bool} {d e : D} {b : Bool} (h : gI p d e = some b) : ∃ i j, d = .int i ∧ e = .int j ∧ b = p i j := by
  unfold gI at h
  split at h
  · cases h; exact ⟨_, _, rfl, rfl, rfl⟩
  · cases h
theorem cmpI {op : CmpOp} {p : Int → Int → Bool} (ho : OpR X (compareOp op) (L2.rI0 fun i j => .bl (p i j))) : CmpOk X op (gI p) :=
  ⟨_, ho, fun S S' H l l' v w d e F G b Q p1 p2 h q => by
    obtain ⟨i, j, rfl, rfl, rfl⟩ := gI_some h
    obtain ⟨rfl, _⟩ := p1.int_inv
    obtain ⟨rfl, _⟩ := p2.int_inv
    exact ⟨i, j, rfl, rfl, q⟩⟩
theorem CmpOk.or {op : CmpOp} {g g' : D → D → Option Bool} (h : CmpOk X op g) (h' : CmpOk X op g') : CmpOk X op (fun d e => (g d e).or (g' d e)) := by
  obtain ⟨r, ho, hr⟩ := h
  obtain ⟨r', ho', hr'⟩ := h'
  refine ⟨_, ho.or ho', fun S S' H l l' v w d e F G b Q p1 p2 h q => ?_⟩
  have h : (g d e).or (g' d e) = some b := h
  cases hg : g d e with
  | some k =>
    rw [hg] at h
    cases h
    exact .inl (hr _ _ _ _ _ _ _ _ _ _ _ _ _ p1 p2 hg q)
  | none =>
    rw [hg] at h
    exact .inr (hr' _ _ _ _ _ _ _ _ _ _ _ _ _ p1 p2 h q)
theorem CmpOk.imp {op : CmpOp} {g g' : D → D → Option Bool} (h : CmpOk X op g) (i : ∀ d e b, g' d e = some b → g d e = some b) : CmpOk X op g' := by
  obtain ⟨r, ho, hr⟩ := h
  exact ⟨r, ho, fun S S' H l l' v w d e F G b Q p1 p2 h q => hr _ _ _ _ _ _ _ _ _ _ _ _ _ p1 p2 (i _ _ _ h) q⟩
end
mutual
def pd : D → PyData
  | .non => .none | .bl b => .bool b | .int i => .int i | .str x => .str x
  | .tup xs => .tuple (pds xs) | .lst xs => .list (pds xs) | .fl xs => .list (pds xs)
  | _ => .dict []
def pds : List D → List PyData
  | [] => []
  | d :: ds => pd d :: pds ds
end
mutual

def shp (n : Nat) : D → Bool
  | .non => true | .bl _ => true | .int _ => true | .str x => PyData.strOk x
  | .tup xs => (match n with | 0 => false | m + 1 => shps m xs)
  | .lst xs => (match n with | 0 => false | m + 1 => shps m xs)
  | .fl xs => (match n with | 0 => false | m + 1 => shps m xs)
  | _ => false
def shps (n : Nat) : List D → Bool
  | [] => true
  | d :: ds => shp n d && shps n ds
end
theorem pds_map : ∀ ds : List D, pds ds = ds.map pd
  | [] => rfl
  | d :: ds => by rw [pds, pds_map ds]; rfl
theorem immAll_all : ∀ ds : List D, immAll ds = ds.all imm
  | [] => rfl
  | d :: ds => by rw [immAll, immAll_all ds]; rfl
mutual
theorem shp_ok : ∀ (n : Nat) (d : D), shp n d = true → (pd d).canLay0 = true ∧ (pd d).depth ≤ n
  | _, .non, _ => ⟨rfl, Nat.zero_le _⟩
  | _, .bl _, _ => ⟨rfl, Nat.zero_le _⟩
  | _, .int _, _ => ⟨rfl, Nat.zero_le _⟩
  | _, .str x, h => ⟨by simpa only [shp, pd, PyData.canLay0] using h, Nat.zero_le _⟩
  | 0, .tup xs, h => by simp only [shp] at h; cases h
  | 0, .lst xs, h => by simp only [shp] at h; cases h
  | 0, .fl xs, h => by simp only [shp] at h; cases h
  | n + 1, .tup xs, h => by
    simp only [shp] at h
    obtain ⟨h1, h2⟩ := shps_ok n xs h
    exact ⟨by simpa only [pd, PyData.canLay0] using h1, by simpa only [pd, PyData.depth] using Nat.succ_le_succ h2⟩
  | n + 1, .lst xs, h => by
    simp only [shp] at h
    obtain ⟨h1, h2⟩ := shps_ok n xs h
    exact ⟨by simpa only [pd, PyData.canLay0] using h1, by simpa only [pd, PyData.depth] using Nat.succ_le_succ h2⟩
  | n + 1, .fl xs, h => by
    simp only [shp] at h
    obtain ⟨h1, h2⟩ := shps_ok n xs h
    exact ⟨by simpa only [pd, PyData.canLay0] using h1, by simpa only [pd, PyData.depth] using Nat.succ_le_succ h2⟩
  | _, .dk _, h => by simp only [shp] at h; cases h
  | _, .dt _, h => by simp only [shp] at h; cases h
  | _, .ins _ _, h => by simp only [shp] at h; cases h
  | _, .obj _ _ _, h => by simp only [shp] at h; cases h
theorem shps_ok : ∀ (n : Nat) (ds : List D), shps n ds = true → PyData.canLayAll0 (pds ds) = true ∧ PyData.depthAll (pds ds) ≤ n
  | _, [], _ => ⟨rfl, Nat.zero_le _⟩
  | n, d :: ds, h => by
    simp only [shps, Bool.and_eq_true] at h
    obtain ⟨a1, a2⟩ := shp_ok n d h.1
    obtain ⟨b1, b2⟩ := shps_ok n ds h.2
    refine ⟨by simp only [pds, PyData.canLayAll0, a1, b1, Bool.and_self], ?_⟩
    simp only [pds, PyData.depthAll]
    exact Nat.max_le.mpr ⟨a2, b2⟩
end
theorem shaped_of {d : D} (h : shp 8 d = true) : SeqAt.shaped (pd d) = true := by
  obtain ⟨h1, h2⟩ := shp_ok 8 d h
  unfold SeqAt.shaped
  rw [h1, decide_eq_true (Nat.le_trans h2 (by decide))]
  rfl
section
variable {K : PySem.W.Frag} {S : Addr → Prop} {H : Hp}
mutual
theorem Rp.dp : ∀ {l : Lv} {v : V} {d : D} {F : List Addr} {n : Nat}, Rp K S H l v d F → shp n d = true → Dp K H v (pd d)
  | _, _, _, _, _, .non, _ => by simp only [pd]; exact .non
  | _, _, _, _, _, .bl, _ => by simp only [pd]; exact .bl _
  | _, _, _, _, _, .int, _ => by simp only [pd]; exact .int _
  | _, _, _, _, _, .str, _ => by simp only [pd]; exact .str _
  | _, _, _, _, 0, .tup h1 h2, h => by simp only [shp] at h; cases h
  | _, _, _, _, n + 1, .tup h1 h2, h => by simp only [shp] at h; simp only [pd]; exact .tup (SqT.of h1) (Rps.dp h2 h)
  | _, _, _, _, 0, .fl h1 h2, h => by simp only [shp] at h; cases h
  | _, _, _, _, n + 1, .fl h1 h2, h => by simp only [shp] at h; simp only [pd]; exact .lst h1.sq (Rps.dp h2 h)
  | _, _, _, _, 0, .nd0 hn _ _ _, h => by cases hn <;> (simp only [shp] at h; cases h)
  | _, _, _, _, n + 1, .nd0 hn h1 _ h3, h => by
    cases hn with
    | lst => simp only [shp] at h; simp only [pd]; exact .lst (SqL.of h1.lst) (Rps.dp h3 h)
    | _ => simp only [shp] at h; cases h
  | _, _, _, _, 0, .nd1 _ hn _ _, h => by cases hn <;> (simp only [shp] at h; cases h)
  | _, _, _, _, n + 1, .nd1 _ hn h1 h3, h => by
    cases hn with
    | lst => simp only [shp] at h; simp only [pd]; exact .lst (SqL.of h1) (Rps.dp h3 h)
    | _ => simp only [shp] at h; cases h
theorem Rps.dp : ∀ {l : Lv} {vs : List V} {ds : List D} {F : List Addr} {n : Nat}, Rps K S H l vs ds F → shps n ds = true → DpAll K H vs (pds ds)
  | _, _, _, _, _, .nil, _ => by simp only [pds]; exact .nil
  | _, _, _, _, n, .cons h1 h2, h => by
    simp only [shps, Bool.and_eq_true] at h
    simp only [pds]
    exact .cons (Rp.dp h1 h.1) (Rps.dp h2 h.2)
end
theorem Rps.ints : ∀ {l : Lv} {vs : List V} {ns : List Int} {F : List Addr}, Rps K S H l vs (ns.map .int) F → vs = ns.map V.int ∧ F = []
  | _, _, [], _, .nil => ⟨rfl, rfl⟩
  | _, _, n :: ns, _, .cons h1 h2 => by
    obtain ⟨rfl, e1⟩ := Rp.int_inv h1
    obtain ⟨e2, e3⟩ := Rps.ints h2
    rw [e1, e2, e3]
    exact ⟨rfl, rfl⟩
end
def intOf : D → Option Int
  | .int i => some i
  | _ => none
def intsOf : List D → Option (List Int)
  | [] => some []
  | d :: ds => (intOf d).bind fun i => (intsOf ds).map (i :: ·)
theorem intsOf_some : ∀ {ds : List D} {ns : List Int}, intsOf ds = some ns → ds = ns.map .int
  | [], _, h => by cases h; rfl
  | d :: ds, ns, h => by
    unfold intsOf at h
    obtain ⟨i, e1, h⟩ := bind_some h
    obtain ⟨m, e2, h⟩ := Option.map_eq_some_iff.mp h
    subst h
    rw [intsOf_some e2]
    cases d <;> first | (cases e1; rfl) | cases e1
theorem intsOf_map : ∀ ns : List Int, intsOf (ns.map .int) = some ns
  | [] => rfl
  | n :: ns => by
    show (some n).bind (fun i => (intsOf (ns.map .int)).map (i :: ·)) = _
    rw [intsOf_map ns]
    rfl
def gT (p : List Int → List Int → Bool) : D → D → Option Bool
  | .tup xs, .tup ys => (intsOf xs).bind fun ns => (intsOf ys).map fun ms => p ns ms
  | _, _ => none
theorem gT_some {p : List Int → List Int → Bool} {d e : D} {b : Bool} (h : gT p d e = some b) : ∃ ns ms : List Int, d = .tup (ns.map .int) ∧ e = .tup (ms.map .int) ∧ b = p ns ms := by
  unfold gT at h
  split at h
  · obtain ⟨ns, e1, h⟩ := bind_some h
    obtain ⟨ms, e2, h⟩ := Option.map_eq_some_iff.mp h
    rw [intsOf_some e1, intsOf_some e2]
    exact ⟨ns, ms, rfl, rfl, h.symm⟩
  · cases h
def leT (ns ms : List Int) : Bool := Ob.lexAt (fun j => decide (ns.getD j 0 = ms.getD j 0)) (fun j => decide (ns.getD j 0 ≤ ms.getD j 0)) (decide (ns.length ≤ ms.length)) 0 (min ns.length ms.length)
def geT (ns ms : List Int) : Bool := Ob.lexAt (fun j => decide (ns.getD j 0 = ms.getD j 0)) (fun j => decide (ms.getD j 0 ≤ ns.getD j 0)) (decide (ns.length ≥ ms.length)) 0 (min ns.length ms.length)
def rGeT (K : PySem.W.Frag) : R2 := fun x y H Q => ∃ (a b : Addr) (ns ms : List Int), x = .ref a ∧ y = .ref b ∧ SqT K H a (ns.map V.int) ∧ SqT K H b (ms.map V.int) ∧ Q (.bl (geT ns ms)) H
section
variable {X : Cx}
theorem op_geT (hu : X.A.units < cLine) : OpR X (compareOp .GtE) (rGeT X.K) := by
  intro pins s σ H x y v u Q I rx ry h
  obtain ⟨a, b, ns, ms, rfl, rfl, ha, hb, q⟩ := h
  cases rx
  cases ry
  obtain ⟨its, r1, p1, _⟩ := I.tuple ha
  obtain ⟨its2, r2, p2, _⟩ := I.tuple hb
  have i1 : IntsAre its ns := Vals.ints r1
  have i2 : IntsAre its2 ms := Vals.ints r2
  have e1 : its.toArray.size = ns.length := by rw [List.size_toArray]; exact i1.length
  have e2 : its2.toArray.size = ms.length := by rw [List.size_toArray]; exact i2.length
  have at1 : ∀ j (h1 : j < its.toArray.size), ∃ t, its.toArray[j] = .int (ns.getD j 0) t := fun j h1 => PyProof.Rows.IntsAre.int_at i1 _ _ (by simp at h1; simp [h1])
  have at2 : ∀ j (h1 : j < its2.toArray.size), ∃ t, its2.toArray[j] = .int (ms.getD j 0) t := fun j h1 => PyProof.Rows.IntsAre.int_at i2 _ _ (by simp at h1; simp [h1])
  have R := Ob.RcOp.tuples_ge (A := X.A) (s := s) (e := fun j => decide (ns.getD j 0 = ms.getD j 0)) (r := fun j => decide (ms.getD j 0 ≤ ns.getD j 0)) p1 p2 hu (fun j h1 h2 => by
    obtain ⟨t, et⟩ := at1 j h1
    obtain ⟨t', et'⟩ := at2 j h2
    rw [et, et']
    have z : (ns.getD j 0 == ms.getD j 0) = decide (ns.getD j 0 = ms.getD j 0) := by
      by_cases q : ns.getD j 0 = ms.getD j 0
      · rw [decide_eq_true q]; exact beq_iff_eq.mpr q
      · rw [decide_eq_false q]; exact beq_eq_false_iff_ne.mpr q
    rw [← z]
    exact SeqAt.EqAt.int_int _ _ _ _) (fun j h1 h2 _ => by
    obtain ⟨t, et⟩ := at1 j h1
    obtain ⟨t', et'⟩ := at2 j h2
    rw [et, et']
    exact Ob.RcOp.ge_int _ _ _ _)
  rw [e1, e2] at R
  have z : wpAny (model X.prog X.w) X.A (compareOp .GtE (.ref a) (.ref b)) (EP X pins σ Q) X.xe s := R X.prog X.w X.xe (EP X pins σ Q) ⟨.bl _, H, I, rfl, q⟩
  exact z
theorem cmpT {op : CmpOp} {p : List Int → List Int → Bool} (ho : OpR X (compareOp op) (fun x y H Q => ∃ (a b : Addr) (ns ms : List Int), x = .ref a ∧ y = .ref b ∧ SqT X.K H a (ns.map V.int) ∧ SqT X.K H b (ms.map V.int) ∧ Q (.bl (p ns ms)) H)) : CmpOk X op (gT p) :=
  ⟨_, ho, fun S S' H l l' v w d e F G b Q p1 p2 h q => by
    obtain ⟨ns, ms, rfl, rfl, rfl⟩ := gT_some h
    obtain ⟨a, vs, rfl, h1, r1⟩ := p1.tup_inv
    obtain ⟨a', vs', rfl, h1', r1'⟩ := p2.tup_inv
    obtain ⟨rfl, _⟩ := r1.ints
    obtain ⟨rfl, _⟩ := r1'.ints
    exact ⟨a, a', ns, ms, rfl, rfl, SqT.of h1, SqT.of h1', q⟩⟩
abbrev gLt : D → D → Option Bool := fun d e => (gI (fun i j => decide (i < j)) d e).or (gT HT.lexLt d e)
abbrev gLe : D → D → Option Bool := fun d e => (gI (fun i j => decide (i ≤ j)) d e).or (gT leT d e)
abbrev gGe : D → D → Option Bool := fun d e => (gI (fun i j => decide (j ≤ i)) d e).or (gT geT d e)
abbrev gGt : D → D → Option Bool := gI (fun i j => decide (j < i))
theorem c_lt (hu : X.A.units < cLine) : CmpOk X .Lt gLt := (cmpI op_lt).or (cmpT (op_ltT hu))
theorem c_le (hu : X.A.units < cLine) : CmpOk X .LtE gLe := (cmpI op_le).or (cmpT (op_leT hu))
theorem c_ge (hu : X.A.units < cLine) : CmpOk X .GtE gGe := (cmpI op_ge).or (cmpT (op_geT hu))
theorem c_gt : CmpOk X .Gt gGt := cmpI op_gt
def deq (d e : D) : Bool := PyData.eqv (pd d) (pd e)
def gEq (d e : D) : Option Bool := if (shp 8 d && shp 8 e) = true then some (deq d e) else none
def gNe (d e : D) : Option Bool := if (shp 8 d && shp 8 e) = true then some (!deq d e) else none
theorem c_eq (hu : X.A.units + 64 < cLine) : CmpOk X .Eq gEq :=
  ⟨_, op_eqD hu, fun S S' H l l' v w d e F G b Q p1 p2 h q => by
    unfold gEq at h
    split at h
    · rename_i z
      rw [Bool.and_eq_true] at z
      cases h
      exact ⟨_, _, p1.dp z.1, p2.dp z.2, shaped_of z.1, shaped_of z.2, q⟩
    · cases h⟩
theorem c_ne (hu : X.A.units + 64 < cLine) : CmpOk X .NotEq gNe :=
  ⟨_, op_neD hu, fun S S' H l l' v w d e F G b Q p1 p2 h q => by
    unfold gNe at h
    split at h
    · rename_i z
      rw [Bool.and_eq_true] at z
      cases h
      exact ⟨_, _, p1.dp z.1, p2.dp z.2, shaped_of z.1, shaped_of z.2, q⟩
    · cases h⟩
section
variable {κ : Type} [DecidableEq κ]
def dlook (kd : List (κ × D)) (k : κ) : Option D := (kd.find? fun p => decide (p.1 = k)).map (·.2)
def dhas (kd : List (κ × D)) (k : κ) : Bool := kd.any fun p => decide (p.1 = k)
def dput (kd : List (κ × D)) (k : κ) (d : D) : List (κ × D) := if dhas kd k = true then kd.map (fun p => if p.1 = k then (p.1, d) else p) else kd ++ [(k, d)]
theorem has_keys {kv : List (κ × V)} {kd : List (κ × D)} (h : kv.map (·.1) = kd.map (·.1)) (k : κ) : (valV kv k).isSome = dhas kd k := by
  rw [← valV_any]
  show (kv.any ((fun x => decide (x = k)) ∘ fun p => p.1)) = kd.any ((fun x => decide (x = k)) ∘ fun p => p.1)
  rw [← List.any_map, ← List.any_map, h]
end
def keyOf : D → Option Key
  | .int i => some (.inl i)
  | .str x => some (.inr x)
  | _ => none
def keysOf : List D → Option (List Key)
  | [] => some []
  | d :: ds => (keyOf d).bind fun i => (keysOf ds).map (i :: ·)
section
variable {K : PySem.W.Frag} {S : Addr → Prop} {H : Hp} {l : Lv}
theorem Rp.key {v : V} {d : D} {F : List Addr} {k : Key} (p : Rp K S H l v d F) (h : keyOf d = some k) : v = kV k := by
  cases d <;> first | (cases h; first | exact p.int_inv.1 | exact p.str_inv.1) | cases h
theorem Rps.keys : ∀ {vs : List V} {ds : List D} {F : List Addr} {ks : List Key}, Rps K S H l vs ds F → keysOf ds = some ks → vs = ks.map kV
  | _, _, _, _, .nil, h => by cases h; rfl
  | _, _, _, ks, .cons h1 h2, h => by
    unfold keysOf at h
    obtain ⟨i, e1, h⟩ := bind_some h
    obtain ⟨m, e2, h⟩ := Option.map_eq_some_iff.mp h
    subst h
    rw [h1.key e1, Rps.keys h2 e2]
    rfl
theorem Rp.dk_inv {v : V} {kd : List (Key × D)} {F : List Addr} (p : Rp K S H l v (.dk kd) F) : ∃ a kv G, v = .ref a ∧ Rd H a (.dK kv) ∧ kv.map (·.1) = kd.map (·.1) ∧ Rps K S H (ch l) (kv.map (·.2)) (kd.map (·.2)) G ∧ ∀ b ∈ G, b ∈ F := by
  cases p with
  | nd0 h h1 h2 h3 => cases h with | dk e => exact ⟨_, _, _, rfl, h1.rd, e, h3, fun _ z => z⟩
  | nd1 h0 h h1 h2 => cases h with | dk e => exact ⟨_, _, _, rfl, .inl h1, e, h2, fun _ z => List.mem_cons_of_mem _ z⟩
theorem Rp.dt_inv {v : V} {kd : List (List Key × D)} {F : List Addr} (p : Rp K S H l v (.dt kd) F) : ∃ a kv G, v = .ref a ∧ Rd H a (.dT kv) ∧ kv.map (·.1) = kd.map (·.1) ∧ Rps K S H (ch l) (kv.map (·.2)) (kd.map (·.2)) G ∧ ∀ b ∈ G, b ∈ F := by
  cases p with
  | nd0 h h1 h2 h3 => cases h with | dt e => exact ⟨_, _, _, rfl, h1.rd, e, h3, fun _ z => z⟩
  | nd1 h0 h h1 h2 => cases h with | dt e => exact ⟨_, _, _, rfl, .inl h1, e, h2, fun _ z => List.mem_cons_of_mem _ z⟩
end
theorem DGet.rk {H : Hp} {a : Addr} {kvs : List (Key × V)} {k : Key} (e : Rd H a (.dK kvs)) : DGet H a (kV k) (valV kvs k) := .inl ⟨kvs, k, e, rfl, rfl⟩
theorem DGet.rt {H : Hp} {a b : Addr} {kvs : List (List Key × V)} {k : List Key} (e : Rd H a (.dT kvs)) (eb : H b = some (.tup (k.map kV))) : DGet H a (.ref b) (valV kvs k) := .inr ⟨kvs, k, b, e, rfl, eb, rfl⟩
def gInL (n : Bool) : D → D → Option Bool
  | d, .lst ds => if (shp 8 d && shps 7 ds) = true then some (n != (ds.any fun z => deq z d)) else none
  | d, .fl ds => if (shp 8 d && shps 7 ds) = true then some (n != (ds.any fun z => deq z d)) else none
  | _, _ => none
def gInD (n : Bool) : D → D → Option Bool
  | d, .dk kd => (keyOf d).map fun k => n != dhas kd k
  | .tup ds, .dt kd => (keysOf ds).map fun k => n != dhas kd k
  | _, _ => none
def gInT (n : Bool) : D → D → Option Bool
  | .int i, .tup ds => (intsOf ds).map fun ns => n != (ns.any fun z => z == i)
  | _, _ => none
theorem any_pds (ds : List D) (d : D) : ((pds ds).any fun z => PyData.eqv z (pd d)) = ds.any fun z => deq z d := by
  rw [pds_map, List.any_map]
  rfl
theorem shp_lst {ds : List D} (h : shps 7 ds = true) : shp 8 (.lst ds) = true := by simpa only [shp] using h
theorem shp_fl {ds : List D} (h : shps 7 ds = true) : shp 8 (.fl ds) = true := by simpa only [shp] using h
theorem c_inL (hu : X.A.units + 65 < cLine) : CmpOk X .In (gInL false) :=
  ⟨_, op_inD hu, fun S S' H l l' v w d e F G b Q p1 p2 h q => by
    unfold gInL at h
    split at h
    · split at h
      · rename_i z
        rw [Bool.and_eq_true] at z
        cases h
        have p3 := p2.dp (shp_lst z.2)
        have s3 := shaped_of (shp_lst z.2)
        simp only [pd] at p3 s3
        refine ⟨_, _, p1.dp z.1, p3, shaped_of z.1, s3, ?_⟩
        rw [any_pds]
        simpa using q
      · cases h
    · split at h
      · rename_i z
        rw [Bool.and_eq_true] at z
        cases h
        have p3 := p2.dp (shp_fl z.2)
        have s3 := shaped_of (shp_fl z.2)
        simp only [pd] at p3 s3
        refine ⟨_, _, p1.dp z.1, p3, shaped_of z.1, s3, ?_⟩
        rw [any_pds]
        simpa using q
      · cases h
    · cases h⟩
theorem c_ninL (hu : X.A.units + 65 < cLine) : CmpOk X .NotIn (gInL true) :=
  ⟨_, op_notInD hu, fun S S' H l l' v w d e F G b Q p1 p2 h q => by
    unfold gInL at h
    split at h
    · split at h
      · rename_i z
        rw [Bool.and_eq_true] at z
        cases h
        have p3 := p2.dp (shp_lst z.2)
        have s3 := shaped_of (shp_lst z.2)
        simp only [pd] at p3 s3
        refine ⟨_, _, p1.dp z.1, p3, shaped_of z.1, s3, ?_⟩
        rw [any_pds]
        simpa using q
      · cases h
    · split at h
      · rename_i z
        rw [Bool.and_eq_true] at z
        cases h
        have p3 := p2.dp (shp_fl z.2)
        have s3 := shaped_of (shp_fl z.2)
        simp only [pd] at p3 s3
        refine ⟨_, _, p1.dp z.1, p3, shaped_of z.1, s3, ?_⟩
        rw [any_pds]
        simpa using q
      · cases h
    · cases h⟩
def rInDict (n : Bool) : R2 := fun y x H Q => ∃ a o, x = .ref a ∧ DGet H a y o ∧ Q (.bl (n != o.isSome)) H
theorem op_inDict (hu : X.A.units + 1 < cLine) : OpR X (compareOp .In) (rInDict false) := by
  intro pins s σ H y x v u Q I ry rx ⟨a, o, e, g, q⟩
  subst e
  cases rx
  exact d_in hu I g ry fun s' I' => ⟨.bl _, H, I', rfl, by simpa using q⟩
theorem op_ninDict (hu : X.A.units + 1 < cLine) : OpR X (compareOp .NotIn) (rInDict true) := by
  intro pins s σ H y x v u Q I ry rx ⟨a, o, e, g, q⟩
  subst e
  cases rx
  exact d_notIn hu I g ry fun s' I' => ⟨.bl _, H, I', rfl, by simpa using q⟩
theorem in_dict {n : Bool} {S S' : Addr → Prop} {H : Hp} {l l' : Lv} {v w : V} {d e : D} {F G : List Addr} {b : Bool} {Q : VK} (p1 : Rp X.K S H l v d F) (p2 : Rp X.K S' H l' w e G) (h : gInD n d e = some b) (q : Q (.bl b) H) : rInDict n v w H Q := by
  unfold gInD at h
  split at h
  · obtain ⟨k, e1, h⟩ := Option.map_eq_some_iff.mp h
    obtain ⟨a, kv, _, rfl, h1, h2, _⟩ := p2.dk_inv
    refine ⟨a, _, rfl, by rw [p1.key e1]; exact DGet.rk h1, ?_⟩
    rw [has_keys h2, h]
    exact q
  · obtain ⟨k, e1, h⟩ := Option.map_eq_some_iff.mp h
    obtain ⟨a, kv, _, rfl, h1, h2, _⟩ := p2.dt_inv
    obtain ⟨c, vs, rfl, h3, h4⟩ := p1.tup_inv
    refine ⟨a, _, rfl, DGet.rt h1 (by rw [h3, h4.keys e1]), ?_⟩
    rw [has_keys h2, h]
    exact q
  · cases h
theorem flat_ints : ∀ ns : List Int, (ns.map V.int).all flatV = true
  | [] => rfl
  | n :: ns => flat_ints ns
theorem inV_ints (i : Int) : ∀ ns : List Int, inV (.int i) (ns.map V.int) = ns.any fun z => z == i
  | [] => rfl
  | n :: ns => by
    have ih := inV_ints i ns
    unfold inV at ih ⊢
    rw [List.map_cons, List.any_cons, List.any_cons, ih]
    rfl
theorem in_tup {n : Bool} {S S' : Addr → Prop} {H : Hp} {l l' : Lv} {v w : V} {d e : D} {F G : List Addr} {b : Bool} {Q : VK} (p1 : Rp X.K S H l v d F) (p2 : Rp X.K S' H l' w e G) (h : gInT n d e = some b) (q : Q (.bl b) H) : rIn X.K n v w H Q := by
  unfold gInT at h
  split at h
  · rename_i i ds
    obtain ⟨ns, e1, h⟩ := Option.map_eq_some_iff.mp h
    obtain ⟨a, vs, rfl, h1, h2⟩ := p2.tup_inv
    rw [intsOf_some e1] at h2
    obtain ⟨rfl, _⟩ := h2.ints
    obtain ⟨rfl, _⟩ := p1.int_inv
    refine ⟨a, _, rfl, .inr (SqT.of h1), rfl, flat_ints ns, ?_⟩
    rw [inV_ints]
    subst h
    cases n <;> simpa using q
  · cases h
abbrev gIn : D → D → Option Bool := fun d e => (gInL false d e).or ((gInD false d e).or (gInT false d e))
abbrev gNin : D → D → Option Bool := fun d e => (gInL true d e).or ((gInD true d e).or (gInT true d e))
theorem c_in (hu : X.A.units + 65 < cLine) : CmpOk X .In gIn := (c_inL hu).or (CmpOk.or ⟨_, op_inDict (by omega), fun S S' H l l' v w d e F G b Q p1 p2 h q => in_dict p1 p2 h q⟩ ⟨_, op_in_seq, fun S S' H l l' v w d e F G b Q p1 p2 h q => in_tup p1 p2 h q⟩)
theorem c_nin (hu : X.A.units + 65 < cLine) : CmpOk X .NotIn gNin := (c_ninL hu).or (CmpOk.or ⟨_, op_ninDict (by omega), fun S S' H l l' v w d e F G b Q p1 p2 h q => in_dict p1 p2 h q⟩ ⟨_, op_notIn_seq, fun S S' H l l' v w d e F G b Q p1 p2 h q => in_tup p1 p2 h q⟩)
end
end Ev
set_option Elab.async false
set_option linter.all false
set_option maxRecDepth 100000
namespace Ev
open PySem PySem.Spec L2
open PyProof.Rows hiding St
section
variable {X : Cx} {a b c e : Expr} {fa fb fc fe : EvE} {ga gb gc : EvT} {pos : Pos} {rest es : List Expr}
def tVal (fa : EvE) : EvT := fun ρ => (fa ρ).bind fun x => match x.d with
  | .bl k => some k
  | _ => none
theorem t_val (h : PEv X e fe) (he : ∀ whole, isTrue e X.env whole = (do let v ← whole; standAt e.pos; holding [v] (truthy v)) := by intro _; rfl) : PTv X e (tVal fe) := by
  refine imp_t (pt_val h he) fun σ H Q ⟨N, H0, ρ, L, W, k, sim, z, q⟩ => ?_
  unfold tVal at z
  obtain ⟨x, e1, z⟩ := bind_some z
  split at z
  · rename_i k' d1
    cases z
    refine one sim e1 fun v H1 F s _ _ p => ?_
    rw [d1] at p
    obtain ⟨rfl, _⟩ := p.bl_inv
    exact ⟨_, rfl, q _ s⟩
  · cases z
def tAnd (f g : EvT) : EvT := fun ρ => (f ρ).bind fun k => if k = true then g ρ else some false
def tOr (f g : EvT) : EvT := fun ρ => (f ρ).bind fun k => if k = true then some true else g ρ
def tNot (f : EvT) : EvT := fun ρ => (f ρ).map fun k => !k
theorem t_and1 (ha : PTv X a ga) : PWv X (.BoolOp .And [a] pos) ga := pw_and1 ha
theorem t_or1 (ha : PTv X a ga) : PWv X (.BoolOp .Or [a] pos) ga := pw_or1 ha
theorem t_and (ha : PTv X a ga) (hb : PWv X (.BoolOp .And (b :: rest) pos) gb) : PWv X (.BoolOp .And (a :: b :: rest) pos) (tAnd ga gb) := by
  refine imp_w (pw_and ha hb) fun σ H Q ⟨N, H0, ρ, L, W, k, sim, z, q⟩ => ?_
  unfold Ev.tAnd at z
  obtain ⟨k1, e1, z⟩ := bind_some z
  refine ⟨N, H0, ρ, L, W, k1, sim, e1, fun H1 s1 => ?_⟩
  cases k1 with
  | true => exact ⟨N, H0, ρ, L, W, k, sim.same s1, z, fun H2 s2 => q _ (s1.trans s2)⟩
  | false => cases z; exact q _ s1
theorem t_or (ha : PTv X a ga) (hb : PWv X (.BoolOp .Or (b :: rest) pos) gb) : PWv X (.BoolOp .Or (a :: b :: rest) pos) (tOr ga gb) := by
  refine imp_w (pw_or ha hb) fun σ H Q ⟨N, H0, ρ, L, W, k, sim, z, q⟩ => ?_
  unfold Ev.tOr at z
  obtain ⟨k1, e1, z⟩ := bind_some z
  refine ⟨N, H0, ρ, L, W, k1, sim, e1, fun H1 s1 => ?_⟩
  cases k1 with
  | false => exact ⟨N, H0, ρ, L, W, k, sim.same s1, z, fun H2 s2 => q _ (s1.trans s2)⟩
  | true => cases z; exact q _ s1
theorem t_bool (h : PWv X e ga) : PTv X e ga := h.pt
theorem t_not (ha : PTv X a ga) : PTv X (.UnaryOp .Not a pos) (tNot ga) := by
  refine imp_t (pt_not ha) fun σ H Q ⟨N, H0, ρ, L, W, k, sim, z, q⟩ => ?_
  unfold Ev.tNot at z
  obtain ⟨k1, e1, z⟩ := Option.map_eq_some_iff.mp z
  subst z
  exact ⟨N, H0, ρ, L, W, k1, sim, e1, fun H1 s1 => q _ s1⟩
def eAnd (f g : EvE) : EvE := fun ρ => (f ρ).bind fun x => match x.d with
  | .bl true => g ρ
  | .bl false => some (rB false)
  | _ => none
def eOr (f g : EvE) : EvE := fun ρ => (f ρ).bind fun x => match x.d with
  | .bl false => g ρ
  | .bl true => some (rB true)
  | _ => none
def eNot (f : EvE) : EvE := fun ρ => (f ρ).bind fun x => match x.d with
  | .bl k => some (rB !k)
  | _ => none
theorem e_not (ha : PEv X a fa) : PEv X (.UnaryOp .Not a pos) (eNot fa) := by
  refine imp_e (pe_not ha) fun σ H Q ⟨N, H0, ρ, L, W, r, sim, z, q⟩ => ?_
  unfold eNot at z
  obtain ⟨x, e1, z⟩ := bind_some z
  split at z
  · rename_i k d1
    cases z
    refine one sim e1 fun v H1 F s _ _ p => ?_
    rw [d1] at p
    obtain ⟨rfl, _⟩ := p.bl_inv
    exact ⟨_, rfl, q.bl s⟩
  · cases z
theorem e_one (op : BoolOp) (ha : PEv X a fa) : PEv X (.BoolOp op [a] pos) fa := by
  cases op <;> exact pe_one ha
theorem e_and (ha : PEv X a fa) (hb : PEv X (.BoolOp .And (b :: rest) pos) fb) : PEv X (.BoolOp .And (a :: b :: rest) pos) (eAnd fa fb) := by
  refine imp_e (pe_and ha hb) fun σ H Q ⟨N, H0, ρ, L, W, r, sim, z, q⟩ => ?_
  unfold eAnd at z
  obtain ⟨x, e1, z⟩ := bind_some z
  split at z
  · rename_i d1
    refine one sim e1 fun v H1 F s n nd p => ?_
    rw [d1] at p
    obtain ⟨rfl, hF⟩ := p.bl_inv
    subst hF
    exact ⟨true, rfl, iteT ⟨N, H0, ρ, L, W, r, sim.same s, z, fun v2 H2 F2 s2 n2 nd2 p2 => q v2 H2 F2 (s.trans s2) (fun a z => s.free (n2 a z)) nd2 p2⟩⟩
  · rename_i d1
    cases z
    refine one sim e1 fun v H1 F s n nd p => ?_
    rw [d1] at p
    obtain ⟨rfl, hF⟩ := p.bl_inv
    exact ⟨false, rfl, iteF (q.bl s)⟩
  · cases z
theorem e_or (ha : PEv X a fa) (hb : PEv X (.BoolOp .Or (b :: rest) pos) fb) : PEv X (.BoolOp .Or (a :: b :: rest) pos) (eOr fa fb) := by
  refine imp_e (pe_or ha hb) fun σ H Q ⟨N, H0, ρ, L, W, r, sim, z, q⟩ => ?_
  unfold eOr at z
  obtain ⟨x, e1, z⟩ := bind_some z
  split at z
  · rename_i d1
    refine one sim e1 fun v H1 F s n nd p => ?_
    rw [d1] at p
    obtain ⟨rfl, hF⟩ := p.bl_inv
    subst hF
    exact ⟨false, rfl, iteF ⟨N, H0, ρ, L, W, r, sim.same s, z, fun v2 H2 F2 s2 n2 nd2 p2 => q v2 H2 F2 (s.trans s2) (fun a z => s.free (n2 a z)) nd2 p2⟩⟩
  · rename_i d1
    cases z
    refine one sim e1 fun v H1 F s n nd p => ?_
    rw [d1] at p
    obtain ⟨rfl, hF⟩ := p.bl_inv
    exact ⟨true, rfl, iteT (q.bl s)⟩
  · cases z
inductive RpL (K : PySem.W.Frag) (N : Nw) (W T : List Addr) (H : Hp) : List V → List Rv → List Addr → Prop
  | nil : RpL K N W T H [] [] []
  | cons {v : V} {r : Rv} {vs : List V} {rs : List Rv} {F G : List Addr} : Rp K (fun a => SR N W r.al r.vw a ∧ (r.vw = false → a ∉ T)) H r.l v r.d F → RpL K N W T H vs rs G → RpL K N W T H (v :: vs) (r :: rs) (F ++ G)
end
section
variable {K : PySem.W.Frag} {N : Nw} {W W' T T' : List Addr} {H H' : Hp}
theorem RpL.mono (h : ∀ al vw a, SR N W al vw a ∧ (vw = false → a ∉ T) → SR N W' al vw a ∧ (vw = false → a ∉ T')) : ∀ {vs : List V} {rs : List Rv} {F : List Addr}, RpL K N W T H vs rs F → RpL K N W' T' H vs rs F
  | _, _, _, .nil => .nil
  | _, _, _, .cons h1 h2 => .cons (h1.mono fun a z => h _ _ a z) (RpL.mono h h2)
theorem RpL.own_trk : ∀ {vs : List V} {rs : List Rv} {F : List Addr}, RpL K N W T H vs rs F → ∀ a ∈ F, H a ≠ none
  | _, _, _, .nil => fun _ z => nomatch z
  | _, _, _, .cons h1 h2 => fun a z => (List.mem_append.mp z).elim (h1.own_trk a) (RpL.own_trk h2 a)
theorem RpL.len : ∀ {vs : List V} {rs : List Rv} {F : List Addr}, RpL K N W T H vs rs F → vs.length = rs.length
  | _, _, _, .nil => rfl
  | _, _, _, .cons _ h => by rw [List.length_cons, List.length_cons, RpL.len h]
theorem RpL.full {al : Bool} : ∀ {vs : List V} {rs : List Rv} {F : List Addr}, RpL K N W T H vs rs F → rs.all (fun r => !r.vw && decide (r.l = .full)) = true → (∀ r ∈ rs, r.al = true → al = true) → Rps K (fun a => SR N W al false a ∧ a ∉ T) H .full vs (rs.map (·.d)) F
  | _, _, _, .nil, _, _ => .nil
  | _, _, _, .cons (r := r) h1 h2, e, ha => by
    rw [List.all_cons, Bool.and_eq_true, Bool.and_eq_true] at e
    obtain ⟨⟨e1, e2⟩, e3⟩ := e
    have e1 : r.vw = false := by simpa using e1
    have e2 : r.l = .full := by simpa using e2
    rw [e2] at h1
    refine .cons (h1.mono fun a z => ⟨⟨z.1.1.up (ha r List.mem_cons_self), fun _ => z.1.2 e1⟩, z.2 e1⟩) (RpL.full h2 e3 fun r hr => ha r (List.mem_cons_of_mem _ hr))
theorem RpL.give {al : Bool} (hT : ∀ a ∈ T, N a ∧ a ∉ W) : ∀ {vs : List V} {rs : List Rv} {F : List Addr}, RpL K N W T H vs rs F → (∀ a ∈ F, a ∈ T) → rs.all (fun r => !r.vw) = true → (∀ r ∈ rs, r.al = true → al = true) → Rps K (fun a => SR N W al false a) H .shr vs (rs.map (·.d)) []
  | _, _, _, .nil, _, _, _ => .nil
  | _, _, _, .cons (r := r) (F := F) h1 h2, hs, e, ha => by
    rw [List.all_cons, Bool.and_eq_true] at e
    obtain ⟨e1, e3⟩ := e
    have e1 : r.vw = false := by simpa using e1
    refine Rps.cons (F := []) (G := []) (h1.give (fun a z => ⟨z.1.1.up (ha r List.mem_cons_self), fun _ => z.1.2 e1⟩) fun a z => ⟨.new (hT a (hs a (List.mem_append_left _ z))).1, fun _ => (hT a (hs a (List.mem_append_left _ z))).2⟩)
      (RpL.give hT h2 (fun a z => hs a (List.mem_append_right _ z)) e3 fun r hr => ha r (List.mem_cons_of_mem _ hr))
theorem RpL.look : ∀ {vs : List V} {rs : List Rv} {F : List Addr}, RpL K N W T H vs rs F → Rps K (fun _ => True) H .shr vs (rs.map (·.d)) []
  | _, _, _, .nil => .nil
  | _, _, _, .cons h1 h2 => Rps.cons (F := []) (G := []) (h1.give (fun _ _ => trivial) fun _ _ => trivial) (RpL.look h2)
end
def tA (K : PySem.W.Frag) (f : EvA) : TA := fun σ H Q => ∃ N H0 ρ L W rs, SimH K N H0 ρ σ H L W ∧ f ρ = some rs ∧ ∀ vs H' T, Same H H' → (∀ a ∈ T, H a = none) → T.Nodup → RpL K N W T H' vs rs T → Q vs H'
abbrev PAv (X : Cx) (es : List Expr) (f : EvA) : Prop := PA X es (tA X.K f)
theorem imp_a {X : Cx} {e : List Expr} {t t' : TA} (h : PA X e t) (i : ∀ σ H Q, t' σ H Q → t σ H Q) : PA X e t' := ⟨fun p ps s σ H Q I w => h.run p ps s σ H Q I (i σ H Q w)⟩
def aNil : EvA := fun _ => some []
def aCons (f : EvE) (g : EvA) : EvA := fun ρ => (f ρ).bind fun r => (g ρ).bind fun rs => some (r :: rs)
section
variable {X : Cx} {a b c e : Expr} {fa fb fc fe : EvE} {ga : EvA} {pos : Pos} {rest es : List Expr}
theorem a_nil : PAv X [] aNil := imp_a pa_nil fun σ H Q ⟨N, H0, ρ, L, W, rs, sim, z, q⟩ => by
  cases z
  exact q [] H [] (Same.refl H) (fun _ z => nomatch z) .nil .nil
theorem a_cons (ha : PEv X e fe) (hr : PAv X es ga) (hs : starEach (e :: es) X.env = (false, eval e X.env) :: starEach es X.env := by rfl) : PAv X (e :: es) (aCons fe ga) := by
  refine imp_a (pa_cons ha hr hs) fun σ H Q ⟨N, H0, ρ, L, W, rs, sim, z, q⟩ => ?_
  unfold aCons at z
  obtain ⟨r, e1, z⟩ := bind_some z
  obtain ⟨rs, e2, z⟩ := bind_some z
  cases z
  refine one sim e1 fun v H1 F s1 n1 d1 p1 => ?_
  refine ⟨N, H0, ρ, L, W ++ F, rs, sim.hold s1 n1 d1 p1.own_mut, e2, fun vs H2 T s2 n2 d2 p2 => ?_⟩
  refine q (v :: vs) H2 (F ++ T) (s1.trans s2) (fun a z => (List.mem_append.mp z).elim (n1 a) fun z => s1.free (n2 a z)) ?_ (.cons ?_ (p2.mono fun al vw a z => ⟨⟨z.1.1, fun e => fun m => z.1.2 e (List.mem_append_left _ m)⟩, fun e m => (List.mem_append.mp m).elim (fun m => z.1.2 e (List.mem_append_right _ m)) (z.2 e)⟩))
  · rw [List.nodup_append]
    exact ⟨d1, d2, fun a ha b hb e => p1.own_trk a ha (e ▸ n2 b hb)⟩
  · exact (p1.trk.same s2).mono fun a z => ⟨z.1.1, fun _ m => (List.mem_append.mp m).elim z.1.2 fun m => z.2 (n2 a m)⟩
def mkTup (rs : List Rv) : Option Rv :=
  if (rs.all (fun r => !r.vw) && decide (rs.length ≤ 1000)) = true then
    some (if rs.all (fun r => !r.vw && decide (r.l = .full)) = true then ⟨.tup (rs.map (·.d)), .full, rs.any (·.al), false⟩ else ⟨.tup (rs.map (·.d)), .shr, rs.any (·.al), false⟩)
  else none
def mkLst (rs : List Rv) : Option Rv :=
  if (rs.all (fun r => !r.vw) && decide (rs.length ≤ 1000)) = true then
    some (if rs.all (fun r => !r.vw && decide (r.l = .full)) = true then ⟨.lst (rs.map (·.d)), .full, rs.any (·.al), false⟩ else ⟨.lst (rs.map (·.d)), .top, rs.any (·.al), false⟩)
  else none
def eTup (g : EvA) : EvE := fun ρ => (g ρ).bind mkTup
def eLst (g : EvA) : EvE := fun ρ => (g ρ).bind mkLst
theorem nodup1 {p : Addr} : [p].Nodup := by simp
theorem al_any {rs : List Rv} : ∀ r ∈ rs, r.al = true → rs.any (·.al) = true := fun r h e => List.any_eq_true.mpr ⟨r, h, e⟩
theorem le1000 {n : Nat} (h : n ≤ 1000) : n ≤ sizeLine := Nat.le_trans h (by rw [sizeLine_eq]; decide)
theorem e_tup {x1} (h : PAv X es ga) : PEv X (.Tuple es x1 pos) (eTup ga) := by
  refine imp_e (pe_tup h) fun σ H Q ⟨N, H0, ρ, L, W, r, sim, z, q⟩ => ?_
  unfold eTup at z
  obtain ⟨rs, e1, z⟩ := bind_some z
  unfold mkTup at z
  split at z
  · rename_i hc
    rw [Bool.and_eq_true, decide_eq_true_eq] at hc
    refine ⟨N, H0, ρ, L, W, rs, sim, e1, fun vs H1 T s1 n1 d1 p1 => ⟨le1000 (by rw [p1.len]; exact hc.2), fun p np => ?_⟩⟩
    have hT : ∀ a ∈ T, N a ∧ a ∉ W := fun a m => ⟨sim.nw a (n1 a m), fun w => sim.th a w (n1 a m)⟩
    split at z
    · rename_i hf
      cases z
      exact q _ _ T (s1.trans (same_upd np)) n1 d1 (.tup upd_same ((p1.full hf al_any).same (same_upd np)))
    · cases z
      exact q _ _ [] (s1.trans (same_upd np)) (fun _ z => nomatch z) .nil (.tup upd_same (((p1.give hT (fun _ m => m) hc.1 al_any).same (same_upd np)).mono fun a z => ⟨z, fun m => nomatch m⟩))
  · cases z
theorem e_lst (h : PAv X es ga) : PEv X (.List es pos) (eLst ga) := by
  refine imp_e (pe_lst h) fun σ H Q ⟨N, H0, ρ, L, W, r, sim, z, q⟩ => ?_
  unfold eLst at z
  obtain ⟨rs, e1, z⟩ := bind_some z
  unfold mkLst at z
  split at z
  · rename_i hc
    rw [Bool.and_eq_true, decide_eq_true_eq] at hc
    refine ⟨N, H0, ρ, L, W, rs, sim, e1, fun vs H1 T s1 n1 d1 p1 => ⟨le1000 (by rw [p1.len]; exact hc.2), fun p np => ?_⟩⟩
    have hT : ∀ a ∈ T, N a ∧ a ∉ W := fun a m => ⟨sim.nw a (n1 a m), fun w => sim.th a w (n1 a m)⟩
    have nW : p ∉ W := fun w => sim.th p w (s1.free np)
    split at z
    · rename_i hf
      cases z
      refine q _ _ (p :: T) (s1.trans (same_upd np)) (fun a m => (List.mem_cons.mp m).elim (fun e => e ▸ s1.free np) (n1 a)) (List.nodup_cons.mpr ⟨fun m => p1.own_trk p m np, d1⟩) (.nd1 (fun z => nomatch z) .lst upd_same ?_)
      exact (((p1.full hf al_any).trk).same (same_upd np)).mono fun a z => ⟨z.1.1, fun m => (List.mem_cons.mp m).elim (fun e => z.2 (e ▸ np)) z.1.2⟩
    · cases z
      refine q _ _ [p] (s1.trans (same_upd np)) (fun a m => (List.mem_cons.mp m).elim (fun e => e ▸ s1.free np) fun m => nomatch m) nodup1 (.nd1 (fun z => nomatch z) .lst upd_same ?_)
      exact (((p1.give hT (fun _ m => m) hc.1 al_any).trk).same (same_upd np)).mono fun a z => ⟨z.1, fun m => (List.mem_cons.mp m).elim (fun e => z.2 (e ▸ np)) fun m => nomatch m⟩
  · cases z
theorem e_dictT {pos : Pos} : PEv X (.Dict [] [] pos) (fun _ => some ⟨.dt [], .full, false, false⟩) := by
  refine imp_e pe_dnewT fun σ H Q ⟨N, H0, ρ, L, W, r, sim, z, q⟩ p np => ?_
  cases z
  exact q _ _ [p] (same_upd np) (fun a m => (List.mem_cons.mp m).elim (fun e => e ▸ np) fun m => nomatch m) nodup1 (.nd1 (fun z => nomatch z) (.dt (kv := []) (kd := []) rfl) upd_same .nil)
theorem ix_dict (hu : X.A.units + 1 < cLine) : IxR X (fun x y H Q => ∃ a v, x = .ref a ∧ DGet H a y (some v) ∧ Q v H) := by
  intro value slice pins s σ H x y v u Q I rx ry ⟨a, z, e, g, q⟩ hs
  subst e
  obtain rfl : v = Value.ref a := rx
  unfold subscriptTail
  refine wpAny_bind ?_
  rw [getitemInPython_of_ne (dict_typeIs I g).not_modules]
  refine wpAny_bind (wpAny_specialOf (dict_typeIs I g) PySem.F.slot_dict_getitem.lookup ?_)
  have fin : wpAny (model X.prog X.w) X.A (subscripted slice false (.ref a) u) (fun r s₃ => wpAny (model X.prog X.w) X.A (letTemporaryGo value (.ref a) r >>= fun _ => pure r) (EP X pins σ Q) X.xe s₃) X.xe s := by
    rw [hs]
    exact wpAny_operating (d_getItem hu I g ry fun w' s3 I3 rw' => wpAny_bind (wpAny_letTemporaryGo (wpAny_pure ⟨z, H, I3, rw', q⟩)))
  first
    | exact wpAny_pure (wpAny_bind fin)
    | exact wpAny_bind (wpAny_pure (wpAny_bind fin))
    | exact wpAny_bind fin
def part (x : Rv) (d : D) : Rv := if imm d = true then rA d else ⟨d, .shr, x.al, x.vw⟩
def gIx : D → D → Option D
  | .lst ds, .int i => atI ds i
  | .fl ds, .int i => atI ds i
  | .tup ds, .int i => atI ds i
  | .dk kd, d => (keyOf d).bind (dlook kd)
  | .dt kd, .tup ds => (keysOf ds).bind (dlook kd)
  | _, _ => none
def eIx (fa fb : EvE) : EvE := fun ρ => (fa ρ).bind fun x => (fb ρ).bind fun y => (gIx x.d y.d).map (part x)
def rIxA (K : PySem.W.Frag) : R2 := fun x y H Q => rIx K x y H Q ∨ ∃ a v, x = .ref a ∧ DGet H a y (some v) ∧ Q v H
end
section
variable {K : PySem.W.Frag} {S S' : Addr → Prop} {H : Hp} {l l' : Lv} {v w : V} {F G : List Addr} {Q : VK}
theorem Rps.atI {vs : List V} {ds : List D} {i : Int} {d : D} (r : Rps K S H l vs ds F) (h : atI ds i = some d) : ∃ v G, atI vs i = some v ∧ Rp K S H l v d G ∧ ∀ b ∈ G, b ∈ F := by
  unfold L2.atI at h ⊢
  rw [r.len]
  obtain ⟨j, e1, e2⟩ := bind_some h
  obtain ⟨v, G, e3, q⟩ := r.get e2
  exact ⟨v, G, by rw [e1]; exact e3, q⟩
theorem look_rp {κ : Type} [DecidableEq κ] : ∀ {kv : List (κ × V)} {kd : List (κ × D)} {F : List Addr} {k : κ} {d : D}, kv.map (·.1) = kd.map (·.1) → Rps K S H l (kv.map (·.2)) (kd.map (·.2)) F → dlook kd k = some d →
    ∃ v G, valV kv k = some v ∧ Rp K S H l v d G ∧ ∀ b ∈ G, b ∈ F
  | [], [], _, k, d, _, _, h => by cases h
  | [], _ :: _, _, k, d, e, _, _ => by cases e
  | _ :: _, [], _, k, d, e, _, _ => by cases e
  | p :: kv, p' :: kd, F, k, d, e, r, h => by
    have e1 : p.1 = p'.1 := by have := congrArg List.head? e; simpa using this
    have e2 : kv.map (·.1) = kd.map (·.1) := by have := congrArg List.tail e; simpa using this
    have r : Rps K S H l (p.2 :: kv.map (·.2)) (p'.2 :: kd.map (·.2)) F := r
    cases r with
    | cons h1 h2 =>
      by_cases hk : p'.1 = k
      · have : dlook (p' :: kd) k = some p'.2 := by simp [dlook, List.find?_cons, hk]
        rw [this] at h
        cases h
        exact ⟨p.2, _, valV_pos (e1.trans hk), h1, fun _ z => List.mem_append_left _ z⟩
      · have : dlook (p' :: kd) k = dlook kd k := by simp [dlook, List.find?_cons, hk]
        rw [this] at h
        obtain ⟨v, G, q1, q2, q3⟩ := look_rp e2 h2 h
        exact ⟨v, G, by rw [valV_neg (by rw [e1]; exact hk)]; exact q1, q2, fun b z => List.mem_append_right _ (q3 b z)⟩
theorem ix_rp {d e z : D} (p1 : Rp K S H l v d F) (p2 : Rp K S' H l' w e G) (h : gIx d e = some z) (q : ∀ u l2 F2, Rp K S H l2 u z F2 → (∀ b ∈ F2, b ∈ F) → Q u H) : rIxA K v w H Q := by
  unfold gIx at h
  split at h
  · obtain ⟨a, vs, G1, rfl, h1, h2, h3, _⟩ := p1.lst_inv
    obtain ⟨rfl, _⟩ := p2.int_inv
    obtain ⟨u, G2, e1, r, sub⟩ := h2.atI h
    exact .inl (.inl ⟨a, vs, _, u, rfl, rfl, SqL.of h1, e1, q u _ _ r fun b z => h3 b (sub b z)⟩)
  · obtain ⟨a, vs, rfl, h1, h2, rfl⟩ := p1.fl_inv
    obtain ⟨rfl, _⟩ := p2.int_inv
    obtain ⟨u, G2, e1, r, sub⟩ := h2.atI h
    exact .inl (.inl ⟨a, vs, _, u, rfl, rfl, h1.sq, e1, q u _ _ r sub⟩)
  · obtain ⟨a, vs, rfl, h1, h2⟩ := p1.tup_inv
    obtain ⟨rfl, _⟩ := p2.int_inv
    obtain ⟨u, G2, e1, r, sub⟩ := h2.atI h
    exact .inl (.inr (.inl ⟨a, vs, _, u, rfl, rfl, SqT.of h1, e1, q u _ _ r sub⟩))
  · obtain ⟨k, ek, h⟩ := bind_some h
    obtain ⟨a, kv, G1, rfl, h1, h2, h3, h4⟩ := p1.dk_inv
    obtain ⟨u, G2, e1, r, sub⟩ := look_rp h2 h3 h
    refine .inr ⟨a, u, rfl, ?_, q u _ _ r fun b z => h4 b (sub b z)⟩
    rw [p2.key ek, ← e1]
    exact DGet.rk h1
  · obtain ⟨k, ek, h⟩ := bind_some h
    obtain ⟨a, kv, G1, rfl, h1, h2, h3, h4⟩ := p1.dt_inv
    obtain ⟨c, ws, rfl, h5, h6⟩ := p2.tup_inv
    obtain ⟨u, G2, e1, r, sub⟩ := look_rp h2 h3 h
    refine .inr ⟨a, u, rfl, ?_, q u _ _ r fun b z => h4 b (sub b z)⟩
    rw [← e1]
    exact DGet.rt h1 (by rw [h5, h6.keys ek])
  · cases h
theorem part_out {N : Nw} {W : List Addr} {H H1 : Hp} {x : Rv} {u : V} {d : D} {l2 : Lv} {F F2 : List Addr} {S : Addr → Prop} {Q : VK} (q : Post K N W H (part x d) Q) (s : Same H H1) (new : ∀ a ∈ F, N a ∧ a ∉ W) (hS : ∀ a, S a → SR N W x.al x.vw a)
    (r : Rp K S H1 l2 u d F2) (sub : ∀ b ∈ F2, b ∈ F) : Q u H1 := by
  unfold part at q
  cases hi : imm d with
  | true =>
    rw [hi, if_pos rfl] at q
    exact q.atom s fun S => (r.of_imm hi).2
  | false =>
    rw [hi, if_neg Bool.false_ne_true] at q
    exact q u H1 [] s (fun _ z => nomatch z) .nil (r.give (fun a z => ⟨hS a z, fun m => nomatch m⟩) fun a z => ⟨⟨.new (new a (sub a z)).1, fun _ => (new a (sub a z)).2⟩, fun m => nomatch m⟩)
end
section
variable {X : Cx} {a b c e : Expr} {fa fb fc fe : EvE} {ga : EvA} {pos : Pos} {rest es : List Expr}
theorem ix_any (hu : X.A.units + 1 < cLine) : IxR X (rIxA X.K) := ix_seq.or (ix_dict hu)
theorem e_ix (hu : X.A.units + 1 < cLine) (ha : PEv X a fa) (hb : PEv X b fb) (hs : PlainIx b := by exact fun _ _ => rfl) : PEv X (.Subscript a b pos) (eIx fa fb) := by
  refine imp_e (pe_ix (ix_any hu) ha hb hs) fun σ H Q ⟨N, H0, ρ, L, W, r, sim, z, q⟩ => ?_
  unfold eIx at z
  obtain ⟨x, e1, z⟩ := bind_some z
  obtain ⟨y, e2, z⟩ := bind_some z
  obtain ⟨d, e3, z⟩ := Option.map_eq_some_iff.mp z
  subst z
  refine two sim e1 e2 fun v w H2 F G s n1 n2 _ _ _ p1 p2 => ?_
  exact ix_rp p1 p2 e3 fun u l2 F2 r sub => part_out q s (F := F) (fun a m => ⟨sim.nw a (n1 a m), fun w => sim.th a w (n1 a m)⟩) (fun a z => z.1) r sub
def lenOf : D → Option Nat
  | .lst ds => some ds.length
  | .fl ds => some ds.length
  | .tup ds => some ds.length
  | .str x => if x.length ≤ 1000000 then some x.length else none
  | .dk kd => some kd.length
  | _ => none
def eLen (ga : EvA) : EvE := fun ρ => (ga ρ).bind fun rs => match rs with
  | [x] => (lenOf x.d).map fun n => rI n
  | _ => none
theorem arg1 {K : PySem.W.Frag} {N : Nw} {H0 H : Hp} {ρ : Env} {σ : St} {L W : List Addr} {ga : EvA} {x : Rv} {R : List V → Hp → Prop} (sim : SimH K N H0 ρ σ H L W) (e1 : ga ρ = some [x])
    (k : ∀ v H1 F, Same H H1 → (∀ a ∈ F, H a = none) → F.Nodup → Rp K (fun a => SR N W x.al x.vw a ∧ (x.vw = false → a ∉ F)) H1 x.l v x.d F → R [v] H1) : tA K ga σ H R :=
  ⟨N, H0, ρ, L, W, [x], sim, e1, fun vs H1 T s n nd p => by
    generalize hT : T = T0 at p
    cases p with
    | cons h1 h2 =>
      cases h2
      rw [List.append_nil] at hT
      subst hT
      exact k _ H1 _ s n nd (h1.mono fun a z => ⟨z.1, fun e m => z.2 e (by simpa using m)⟩)⟩
theorem call_len_d : CallR X (.builtin "len") (fun xs H Q => ∃ a kvs, xs = [.ref a] ∧ Rd H a (.dK kvs) ∧ Q (.int kvs.length) H) := by
  intro pins s σ H xs us Q I r ⟨a, kvs, e, h, q⟩
  subst e
  obtain ⟨u, rfl, rx⟩ := vals1 r
  cases rx
  exact d_len I h fun t s' I' => ⟨.int kvs.length, H, I', ⟨t, rfl⟩, q⟩
theorem e_len {p : Pos} (hm : X.mg "len" = none) (ha : PAv X (e :: es) ga) (hg : Gl X "len" := by rfl)
    (he : starEach (e :: es) X.env = (false, eval e X.env) :: starEach es X.env := by rfl) (hpl : (backTo pos (starEach es X.env)).any (·.1) = false := by rfl) : PEv X (.Call (.Name "len" p) (e :: es) [] pos) (eLen ga) := by
  refine imp_e (pe_callB (call_len_seq.or (call_len_str.or call_len_d)) hg hm PySem.boot_len ha (by decide) (by decide) he hpl) fun σ H Q ⟨N, H0, ρ, L, W, r, sim, z, q⟩ => ?_
  unfold eLen at z
  obtain ⟨rs, e1, z⟩ := bind_some z
  split at z
  · rename_i x
    obtain ⟨n, e2, z⟩ := Option.map_eq_some_iff.mp z
    subst z
    refine arg1 sim e1 fun v H1 F s _ _ p => ?_
    unfold lenOf at e2
    split at e2
    · rename_i ds hd
      rw [hd] at p
      obtain ⟨a, vs, G, rfl, h1, h2, _⟩ := p.lst_inv
      cases e2
      refine .inl ⟨a, vs, rfl, .inl (SqL.of h1), ?_⟩
      rw [h2.len]
      exact q.int s
    · rename_i ds hd
      rw [hd] at p
      obtain ⟨a, vs, rfl, h1, h2, _⟩ := p.fl_inv
      cases e2
      refine .inl ⟨a, vs, rfl, .inl h1.sq, ?_⟩
      rw [h2.len]
      exact q.int s
    · rename_i ds hd
      rw [hd] at p
      obtain ⟨a, vs, rfl, h1, h2⟩ := p.tup_inv
      cases e2
      refine .inl ⟨a, vs, rfl, .inr (SqT.of h1), ?_⟩
      rw [h2.len]
      exact q.int s
    · rename_i x hd
      rw [hd] at p
      obtain ⟨rfl, _⟩ := p.str_inv
      split at e2
      · rename_i hl
        cases e2
        exact .inr (.inl ⟨x, rfl, Nat.le_trans hl (by rw [sizeLine_eq]; decide), q.int s⟩)
      · cases e2
    · rename_i kd hd
      rw [hd] at p
      obtain ⟨a, kv, G, rfl, h1, h2, _⟩ := p.dk_inv
      cases e2
      refine .inr (.inr ⟨a, kv, rfl, h1, ?_⟩)
      have := congrArg List.length h2
      rw [List.length_map, List.length_map] at this
      rw [this]
      exact q.int s
    · cases e2
  · cases z
end
end Ev
set_option Elab.async false
set_option linter.all false
set_option maxRecDepth 100000
namespace Ev
open PySem PySem.Spec L2
open PyProof.Rows hiding St
abbrev Ret := D × Lv
abbrev RetD := D × Lv × Bool
def spD (K : PySem.W.Frag) (n : Nat) (φ : List D → Option RetD) : Sp := fun vs H Q _ => vs.length = n ∧ ∃ S ds r, Rps K S H .shr vs ds [] ∧ φ ds = some r ∧ TBs K H ∧
  ∀ v H' F, Same H H' → (∀ a ∈ F, H a = none) → F.Nodup → Rp K (fun a => (H a = none ∨ r.2.2 = true ∧ S a) ∧ a ∉ F) H' r.2.1 v r.1 F → Q v H'
structure FnD (P : Program) (w : World) (K : PySem.W.Frag) (mg : Str → Option Value) (base : Heap) (k : Nat) (x : Str) (n : Nat) (φ : List D → Option RetD) : Prop where
  ok : ∃ f fd ps, FnOk P w K mg base CX0 k f fd ps (spD K n φ) ∧ mg x = some (.ref f) ∧ PySem.W.keepIn K (.ref f) = true ∧ Binds K fd ps []
def mkR (al vw : Bool) (r : RetD) : Rv := if imm r.1 = true then rA r.1 else if r.2.2 = true then ⟨r.1, r.2.1, al, vw⟩ else ⟨r.1, r.2.1, false, false⟩
def eCall (φ : List D → Option RetD) (ga : EvA) : EvE := fun ρ => (ga ρ).bind fun rs => (φ (rs.map (·.d))).map (mkR (rs.any (·.al)) (rs.any (·.vw)))
theorem Post.ret {K : PySem.W.Frag} {N : Nw} {W : List Addr} {H H1 : Hp} {r : RetD} {al vw : Bool} {v : V} {F : List Addr} {Q : VK} {S : Addr → Prop} (q : Post K N W H (mkR al vw r) Q) (s : Same H H1) (new : ∀ a ∈ F, H a = none) (nd : F.Nodup) (hS : ∀ a, S a → (N a ∧ a ∉ W ∨ r.2.2 = true ∧ SR N W al vw a) ∧ a ∉ F) (rp : Rp K S H1 r.2.1 v r.1 F) : Q v H1 := by
  unfold mkR at q
  cases hi : imm r.1 with
  | true =>
    rw [hi, if_pos rfl] at q
    exact q.atom s fun S => (rp.of_imm hi).2
  | false =>
    rw [hi, if_neg Bool.false_ne_true] at q
    cases hr : r.2.2 with
    | false =>
      rw [hr, if_neg Bool.false_ne_true] at q
      refine q v H1 F s new nd (rp.mono fun a z => ⟨?_, (hS a z).2⟩)
      rcases (hS a z).1 with h | h
      · exact ⟨.new h.1, fun _ => h.2⟩
      · rw [hr] at h; cases h.1
    | true =>
      rw [hr, if_pos rfl] at q
      refine q v H1 F s new nd (rp.mono fun a z => ⟨?_, (hS a z).2⟩)
      rcases (hS a z).1 with h | h
      · exact ⟨.new h.1, fun _ => h.2⟩
      · exact h.2
theorem RpL.give' {K : PySem.W.Frag} {N : Nw} {W : List Addr} {H : Hp} {T : List Addr} {al vw : Bool} (hT : ∀ a ∈ T, N a ∧ a ∉ W) : ∀ {vs : List V} {rs : List Rv} {F : List Addr}, RpL K N W T H vs rs F → (∀ a ∈ F, a ∈ T) → (∀ r ∈ rs, r.al = true → al = true) → (∀ r ∈ rs, r.vw = true → vw = true) → Rps K (SR N W al vw) H .shr vs (rs.map (·.d)) []
  | _, _, _, .nil, _, _, _ => .nil
  | _, _, _, .cons (r := r) (F := F) h1 h2, hs, ha, hv => by
    refine Rps.cons (F := []) (G := []) (h1.give (fun a z => ⟨z.1.1.up (ha r List.mem_cons_self), fun e => z.1.2 ?_⟩) fun a z => ⟨.new (hT a (hs a (List.mem_append_left _ z))).1, fun _ => (hT a (hs a (List.mem_append_left _ z))).2⟩)
      (RpL.give' hT h2 (fun a z => hs a (List.mem_append_right _ z)) (fun r hr => ha r (List.mem_cons_of_mem _ hr)) fun r hr => hv r (List.mem_cons_of_mem _ hr))
    cases q : r.vw with
    | false => rfl
    | true => rw [hv r List.mem_cons_self q] at e; cases e
theorem any_of {α : Type} {p : α → Bool} {l : List α} : ∀ r ∈ l, p r = true → l.any p = true := fun r h e => List.any_eq_true.mpr ⟨r, h, e⟩
section
variable {X : Cx} {k n : Nat} {x : Str} {φ : List D → Option RetD} {p pos : Pos} {e : Expr} {es : List Expr} {ga : EvA} {fe fa fb : EvE}
theorem e_call (F : FnD X.prog X.w X.K X.mg X.base k x n φ) (hr : Room k X.A) (ha : PAv X (e :: es) ga) (hg : Gl X x := by rfl) (hdb : (x == ("__debug__" : Str)) = false := by decide)
    (he : starEach (e :: es) X.env = (false, eval e X.env) :: starEach es X.env := by rfl) (hpl : (backTo pos (starEach es X.env)).any (·.1) = false := by rfl) (hn : (e :: es).length = n := by rfl) (hl : ∀ ρ rs, ga ρ = some rs → rs.length = n) :
    PEv X (.Call (.Name x p) (e :: es) [] pos) (eCall φ ga) := by
  obtain ⟨f, fd, ps, G, hm, hk, hb⟩ := F.ok
  refine imp_e (pe_call G hr hg hm hk hb .nil pass0 ha hdb he hpl) fun σ H Q ⟨N, H0, ρ, L, W, r, sim, z, q⟩ => ?_
  unfold eCall at z
  obtain ⟨rs, e1, z⟩ := bind_some z
  obtain ⟨r', e2, z⟩ := Option.map_eq_some_iff.mp z
  subst z
  refine ⟨N, H0, ρ, L, W, rs, sim, e1, fun vs H1 T s1 n1 d1 p1 => ?_⟩
  have hT : ∀ a ∈ T, N a ∧ a ∉ W := fun a m => ⟨sim.nw a (n1 a m), fun w => sim.th a w (n1 a m)⟩
  refine ⟨by rw [List.append_nil, p1.len, hl ρ rs e1], SR N W (rs.any (·.al)) (rs.any (·.vw)), rs.map (·.d), r', by rw [List.append_nil]; exact p1.give' hT (fun _ m => m) (fun r h => any_of (p := fun r : Rv => r.al) r h) (fun r h => any_of (p := fun r : Rv => r.vw) r h), e2, sim.kp.tb.same s1, fun v H2 F s2 n2 d2 p2 => ?_⟩
  exact q.ret (s1.trans s2) (fun a z => s1.free (n2 a z)) d2 (fun a z => ⟨z.1.imp (fun y => ⟨sim.nw a (s1.free y), fun w => sim.th a w (s1.free y)⟩) id, z.2⟩) p2
end
theorem aNil_len {ρ : Env} {rs : List Rv} (h : aNil ρ = some rs) : rs.length = 0 := by cases h; rfl
theorem aCons_len {f : EvE} {g : EvA} {n : Nat} (hg : ∀ ρ rs, g ρ = some rs → rs.length = n) : ∀ ρ rs, aCons f g ρ = some rs → rs.length = n + 1 := fun ρ rs h => by
  unfold aCons at h
  obtain ⟨r, _, h⟩ := bind_some h
  obtain ⟨rs', e, h⟩ := bind_some h
  cases h
  rw [List.length_cons, hg ρ rs' e]
inductive Out where
  | nx (ρ : Env) | bk (ρ : Env) | ct (ρ : Env) | rt (ρ : Env) (d : D) (l : Lv) (al : Bool)
abbrev EvS := Env → Option Out
def Frm (H : Hp) (L : List Addr) (H' : Hp) (L' : List Addr) : Prop := (∀ b o, H b = some o → b ∉ L → NT o → H' b = some o) ∧ (∀ b, H' b = none → H b = none ∨ b ∈ L) ∧ ∀ b ∈ L', b ∈ L ∨ H b = none
theorem Frm.refl (H : Hp) (L : List Addr) : Frm H L H L := ⟨fun _ _ e _ _ => e, fun _ e => .inl e, fun _ z => .inl z⟩
theorem Frm.trans {H H1 H2 : Hp} {L L1 L2 : List Addr} (a : Frm H L H1 L1) (b : Frm H1 L1 H2 L2) : Frm H L H2 L2 :=
  ⟨fun c o e n m => b.1 c o (a.1 c o e n m) (fun z => (a.2.2 c z).elim n fun q => (by rw [e] at q; cases q)) m, fun c e => (b.2.1 c e).elim (a.2.1 c) fun z => (a.2.2 c z).symm, fun c z => (b.2.2 c z).elim (a.2.2 c) fun q => (a.2.1 c q).symm⟩
theorem Frm.same {H H' : Hp} {L L' : List Addr} (s : Same H H') (h : ∀ b ∈ L', b ∈ L ∨ H b = none) : Frm H L H' L' := ⟨fun b o e _ m => s.k b o e m, fun b e => .inl (s.free e), h⟩
def PostS (K : PySem.W.Frag) (N : Nw) (H0 H : Hp) (L : List Addr) : Out → Ends → Prop
  | .nx ρ, D => ∀ σ H' L', Sim K N H0 ρ σ H' L' → Frm H L H' L' → D.nx σ H'
  | .bk ρ, D => ∀ σ H' L', Sim K N H0 ρ σ H' L' → Frm H L H' L' → D.bk σ H'
  | .ct ρ, D => ∀ σ H' L', Sim K N H0 ρ σ H' L' → Frm H L H' L' → D.ct σ H'
  | .rt ρ d l al, D => ∀ v σ H' L' F, SimH K N H0 ρ σ H' L' (L' ++ F) → (∀ b o, H b = some o → b ∉ L → NT o → H' b = some o) → Rp K (fun a => AlN N al a ∧ a ∉ F ∧ a ∉ L') H' l v d F → D.rt v H'
def tS (K : PySem.W.Frag) (f : EvS) : TS := fun D σ H => ∃ N H0 ρ L o, Sim K N H0 ρ σ H L ∧ f ρ = some o ∧ PostS K N H0 H L o D
abbrev PSv (X : Cx) (st : Stmt) (f : EvS) : Prop := PS X st (tS X.K f)
abbrev PSsv (X : Cx) (st : List Stmt) (f : EvS) : Prop := PSs X st (tS X.K f)
theorem imp_s {X : Cx} {e : Stmt} {t t' : TS} (h : PS X e t) (i : ∀ D σ H, t' D σ H → t D σ H) : PS X e t' := ⟨fun p s σ H D I w => h.run p s σ H D I (i D σ H w)⟩
theorem imp_ss {X : Cx} {e : List Stmt} {t t' : TS} (h : PSs X e t) (i : ∀ D σ H, t' D σ H → t D σ H) : PSs X e t' := ⟨fun p s σ H D I w => h.run p s σ H D I (i D σ H w)⟩
theorem PostS.at_ {K : PySem.W.Frag} {N : Nw} {H0 H H1 : Hp} {L L1 : List Addr} {o : Out} {D : Ends} (p : PostS K N H0 H L o D) (f : Frm H L H1 L1) : PostS K N H0 H1 L1 o D := by
  cases o with
  | nx ρ => exact fun σ H' L' s f' => p σ H' L' s (f.trans f')
  | bk ρ => exact fun σ H' L' s f' => p σ H' L' s (f.trans f')
  | ct ρ => exact fun σ H' L' s f' => p σ H' L' s (f.trans f')
  | rt ρ d l al => exact fun v σ H' L' F s k r => p v σ H' L' F s (fun b o e n m => k b o (f.1 b o e n m) (fun m' => (f.2.2 b m').elim n fun z => by rw [e] at z; cases z) m) r
def sSeq (f g : EvS) : EvS := fun ρ => (f ρ).bind fun o => match o with
  | .nx ρ' => g ρ'
  | o => some o
def sNil : EvS := fun ρ => some (.nx ρ)
section
variable {X : Cx} {st : Stmt} {rest body orelse : List Stmt} {f g : EvS} {e c : Expr} {fe : EvE} {gc : EvT} {pos pos' : Pos}
theorem s_nil : PSsv X [] sNil := imp_ss pss_nil fun D σ H ⟨N, H0, ρ, L, o, sim, z, q⟩ => by
  cases z
  exact q σ H L sim (Frm.refl H L)
theorem s_cons (h1 : PSv X st f) (h2 : PSsv X rest g) : PSsv X (st :: rest) (sSeq f g) := by
  refine imp_ss (pss_cons h1 h2) fun D σ H ⟨N, H0, ρ, L, o, sim, z, q⟩ => ?_
  unfold sSeq at z
  obtain ⟨o1, e1, z⟩ := bind_some z
  refine ⟨N, H0, ρ, L, o1, sim, e1, ?_⟩
  cases o1 with
  | nx ρ' => exact fun σ' H' L' s' f' => ⟨N, H0, ρ', L', o, s', z, q.at_ f'⟩
  | bk ρ' => cases z; exact q
  | ct ρ' => cases z; exact q
  | rt ρ d l al => cases z; exact q
theorem s_one (h1 : PSv X st f) : PSsv X [st] f := pss_one h1
def sIf (c : EvT) (f g : EvS) : EvS := fun ρ => (c ρ).bind fun k => if k = true then f ρ else g ρ
theorem s_if (hc : PTv X c gc) (ha : PSsv X body f) (hb : PSsv X orelse g) : PSv X (.If c body orelse pos) (sIf gc f g) := by
  refine imp_s (ps_if hc ha hb) fun D σ H ⟨N, H0, ρ, L, o, sim, z, q⟩ => ?_
  unfold sIf at z
  obtain ⟨k, e1, z⟩ := bind_some z
  refine ⟨N, H0, ρ, L, L, k, sim.h, e1, fun H1 s1 => ?_⟩
  have fr : Frm H L H1 L := Frm.same s1 fun b z => .inl z
  cases k with
  | true => exact iteT ⟨N, H0, ρ, L, o, sim.same s1, z, q.at_ fr⟩
  | false => exact iteF ⟨N, H0, ρ, L, o, sim.same s1, z, q.at_ fr⟩
def sSet (fz : List Nat) (i : Nat) (fe : EvE) : EvS := fun ρ => (fe (frzs fz ρ)).bind fun r => if (!r.vw && decide (i < (frzs fz ρ).length)) = true then some (.nx ((frzs fz ρ).set i (some ⟨r.d, r.l, r.al, none⟩))) else none
theorem s_set (fz : List Nat) (i : Nat) {x : Str} (he : PEv X e fe) (hN : X.N.Nodup) (hi : X.N[i]? = some x := by rfl) (hx : Loc X.env.scope x := by first | exact Or.inl rfl | exact Or.inr rfl) (hs : swapsWith e (some (.Name x pos')) pos.line X.env = pure false := by rfl) (hf : X.fn x = true ∨ X.env.scope.names.lookup x = some .local := by first | exact .inl rfl | exact .inr rfl | assumption) :
    PSv X (.Assign [.Name x pos'] e pos) (sSet fz i fe) := by
  refine imp_s (ps_set hN hi hx he hs hf) fun D σ H ⟨N, H0, ρ, L, o, sim, z, q⟩ => ?_
  unfold sSet at z
  obtain ⟨L1, sim1, sub⟩ := sim.frzs fz
  obtain ⟨r, e1, z⟩ := bind_some z
  split at z
  · rename_i hc
    rw [Bool.and_eq_true, decide_eq_true_eq] at hc
    cases z
    refine one sim1.h e1 fun v H1 F s1 n1 d1 p1 => ?_
    have hv : r.vw = false := by simpa using hc.1
    obtain ⟨L2, sim2, sub2⟩ := sim1.set (r := ⟨r.d, r.l, r.al, none⟩) (fun _ z => nomatch z) s1 n1 d1 (p1.mono fun a z => ⟨⟨z.1.1, fun _ => z.1.2 hv⟩, z.2⟩) hc.2
    exact q _ H1 L2 sim2 (Frm.same s1 fun b z => (sub2 b z).imp (sub b) (n1 b))
  · cases z
end
def wipeA (ρ : Env) : Env := ρ.map fun _ => none
section
variable {K : PySem.W.Frag} {N : Nw} {H0 H H' : Hp} {ρ : Env} {σ : St} {L : List Addr}
theorem Slots.none_ {L0 L1 : List Addr} : ∀ {σ : St} {ρ : Env} {F : List Addr}, Slots K N L0 H σ ρ F → Slots K N L1 H σ (wipeA ρ) []
  | _, _, _, .nil => .nil
  | _, _, _, .no h => .no h.none_
  | _, _, _, .so _ _ h => .no h.none_
theorem Sim.none_ (s : Sim K N H0 ρ σ H L) : Sim K N H0 (wipeA ρ) σ H [] := ⟨s.kp, s.nw, List.nodup_nil, (fun _ z => nomatch z), (fun _ z => nomatch z), s.sl.none_⟩
theorem Slots.none_' {L0 L1 : List Addr} {F : List Addr} (h : Slots K N L0 H σ (wipeA ρ) F) : Slots K N L1 H σ (wipeA ρ) [] := by
  have e : ∀ ρ : Env, wipeA (wipeA ρ) = wipeA ρ := fun ρ => by unfold wipeA; rw [List.map_map]; rfl
  have := h.none_ (L1 := L1)
  rw [e] at this
  exact this
theorem Sim.h0 (s : Sim K N H0 ρ σ H L) : SimH K N H0 ρ σ H L (L ++ []) := by
  rw [List.append_nil]
  exact s.h
theorem Slots.hide {L0 : List Addr} : ∀ {σ : St} {ρ : Env} {F : List Addr} {i : Nat} {s : Sv}, Slots K N L0 H σ ρ F → ρ[i]? = some (some s) → ∃ F1 G F2 v, F = F1 ++ (G ++ F2) ∧ σ[i]? = some (some v) ∧ Rp K (SR N L0 s.al false) H s.l v s.d G ∧ Slots K N L0 H σ (ρ.set i none) (F1 ++ F2)
  | _, _, _, _, _, .nil, e => by simp at e
  | _, _, _, 0, _, .no _, e => by simp at e
  | _, _, _, i + 1, s, .no h, e => by
    obtain ⟨F1, G, F2, v, e1, e2, r, q⟩ := Slots.hide (i := i) (s := s) h (by simpa using e)
    exact ⟨F1, G, F2, v, e1, by simpa using e2, r, .no q⟩
  | _, _, _, 0, _, .so (F := F) (G := G) _ h1 h, e => by
    simp at e; subst e
    exact ⟨[], F, G, _, rfl, rfl, h1, .no h⟩
  | _, _, _, i + 1, s, .so (F := F) h0 h1 h, e => by
    obtain ⟨F1, G, F2, v, e1, e2, r, q⟩ := Slots.hide (i := i) (s := s) h (by simpa using e)
    refine ⟨F ++ F1, G, F2, v, by rw [e1, List.append_assoc], by simpa using e2, r, ?_⟩
    rw [List.append_assoc]
    exact .so h0 h1 q
end
section
variable {X : Cx} {st : Stmt} {rest body orelse : List Stmt} {f g : EvS} {e c : Expr} {fe : EvE} {gc : EvT} {pos pos' : Pos}
def sRet (fe : EvE) : EvS := fun ρ => (fe ρ).bind fun r => some (.rt (if r.vw = true then wipeA ρ else ρ) r.d r.l r.al)
theorem s_ret (he : PEv X e fe) : PSv X (.Return (some e) pos) (sRet fe) := by
  refine imp_s (ps_ret he) fun D σ H ⟨N, H0, ρ, L, o, sim, z, q⟩ => ?_
  unfold sRet at z
  obtain ⟨r, e1, z⟩ := bind_some z
  cases z
  refine one sim.h e1 fun v H1 F s1 n1 d1 p1 => ?_
  have sm := sim.same s1
  have nw : ∀ a ∈ F, N a := fun a z => sim.nw a (n1 a z)
  cases hv : r.vw with
  | true =>
    rw [hv, if_pos rfl] at q
    have n := sm.none_
    exact q v σ H1 [] F ⟨n.kp, n.nw, d1, nw, p1.own_mut, n.sl.none_', (fun _ z => nomatch z), .nil⟩ (fun b o e _ m => s1.k b o e m) (p1.mono fun a z => ⟨z.1.1, z.2, fun z => nomatch z⟩)
  | false =>
    rw [hv, if_neg Bool.false_ne_true] at q
    exact q v σ H1 L F (sim.h.hold s1 n1 d1 p1.own_mut) (fun b o e _ m => s1.k b o e m) (p1.mono fun a z => ⟨z.1.1, z.2, z.1.2 hv⟩)
def sRetV (i : Nat) : EvS := fun ρ => match ρ[i]? with
  | some (some s) => if imm s.d = true then some (.rt ρ s.d .full false) else some (.rt (ρ.set i none) s.d s.l s.al)
  | _ => none
theorem s_retv (i : Nat) {x : Str} (hN : X.N[i]? = some x := by rfl) (hv : Vis X.env.scope x := by first | exact Or.inl rfl | exact Or.inr (Or.inl rfl) | exact Or.inr (Or.inr rfl)) (hd : (x == ("__debug__" : Str)) = false := by decide)
    (hcd : (x == ("__classdict__" : Str)) = false := by decide) : PSv X (.Return (some (.Name x pos')) pos) (sRetV i) := by
  refine imp_s (ps_ret (pe_var hN hv hd hcd)) fun D σ H ⟨N, H0, ρ, L, o, sim, z, q⟩ => ?_
  unfold sRetV at z
  split at z
  · rename_i s es
    obtain ⟨F1, G, F2, v, eL, ev, rp, sl⟩ := sim.sl.hide es
    refine ⟨v, ev, ?_⟩
    split at z
    · rename_i hi
      cases z
      exact q v σ H L [] sim.h0 (fun _ _ e _ _ => e) ((rp.of_imm hi).2)
    · cases z
      have hnd := sim.nd
      rw [eL, List.nodup_append, List.nodup_append] at hnd
      have sub : ∀ a, a ∈ F1 ++ F2 → a ∈ L := fun a z => by
        rw [eL]
        rcases List.mem_append.mp z with z | z <;> simp [z]
      have subG : ∀ a, a ∈ (F1 ++ F2) ++ G → a ∈ L := fun a z => by
        rcases List.mem_append.mp z with z | z
        · exact sub a z
        · rw [eL]; simp [z]
      have nd12 : (F1 ++ F2).Nodup := by
        rw [List.nodup_append]
        exact ⟨hnd.1, hnd.2.1.2.1, fun a ha b hb => hnd.2.2 a ha b (by simp [hb])⟩
      refine q v σ H (F1 ++ F2) G ⟨sim.kp, sim.nw, ?_, fun a z => sim.ln a (subG a z), fun a z => sim.mu a (subG a z), sl.mono fun a z m => z (subG a m), fun a z => List.mem_append_left _ z, nd12⟩ (fun _ _ e _ _ => e) (rp.mono fun a z => ⟨z.1, fun m => z.2 rfl (by rw [eL]; simp [m]), fun m => z.2 rfl (sub a m)⟩)
      rw [List.nodup_append]
      refine ⟨nd12, hnd.2.1.1, fun a m b z e => ?_⟩
      subst e
      rcases List.mem_append.mp m with m | m
      · exact hnd.2.2 a m a (by simp [z]) rfl
      · exact hnd.2.1.2.2 a z a m rfl
  · cases z
end
inductive Tg where
  | nm (i : Nat) | tp (ts : List Tg)
mutual
def tgSet : Tg → D → Bool → Env → Option Env
  | .nm i, d, al, ρ => if i < ρ.length then some (ρ.set i (some ⟨d, if imm d = true then .full else .shr, al, none⟩)) else none
  | .tp ts, .tup ds, al, ρ => if ts.length = ds.length then tgsSet ts ds al ρ else none
  | _, _, _, _ => none
def tgsSet : List Tg → List D → Bool → Env → Option Env
  | [], [], _, ρ => some ρ
  | t :: ts, d :: ds, al, ρ => (tgSet t d al ρ).bind (tgsSet ts ds al)
  | _, _, _, _ => none
end
mutual
def tgSlots : Tg → List Nat
  | .nm i => [i]
  | .tp ts => tgsSlots ts
def tgsSlots : List Tg → List Nat
  | [] => []
  | t :: ts => tgSlots t ++ tgsSlots ts
end
def Touch (js : List Nat) (σ σ' : St) : Prop := σ'.length = σ.length ∧ ∀ j, j ∉ js → σ'[j]? = σ[j]?
theorem Touch.refl (js : List Nat) (σ : St) : Touch js σ σ := ⟨rfl, fun _ _ => rfl⟩
def tG (K : PySem.W.Frag) (t : Tg) : TG := fun v σ H Q => ∃ N H0 ρ L W d al ρ', SimH K N H0 ρ σ H L W ∧ Rp K (SR N W al false) H .shr v d [] ∧ tgSet t d al ρ = some ρ' ∧ ∀ σ' L', SimH K N H0 ρ' σ' H L' W → (∀ a ∈ L', a ∈ L) → Touch (tgSlots t) σ σ' → Q σ' H
def tGs (K : PySem.W.Frag) (ts : List Tg) : TGs := fun vs σ H Q => ∃ N H0 ρ L W ds al ρ', SimH K N H0 ρ σ H L W ∧ Rps K (SR N W al false) H .shr vs ds [] ∧ tgsSet ts ds al ρ = some ρ' ∧ ∀ σ' L', SimH K N H0 ρ' σ' H L' W → (∀ a ∈ L', a ∈ L) → Touch (tgsSlots ts) σ σ' → Q σ' H
abbrev PGv (X : Cx) (e : Expr) (t : Tg) : Prop := PG X e (tG X.K t)
abbrev PGsv (X : Cx) (es : List Expr) (ts : List Tg) : Prop := PGs X es (tGs X.K ts)
theorem imp_g {X : Cx} {e : Expr} {t t' : TG} (h : PG X e t) (i : ∀ v σ H Q, t' v σ H Q → t v σ H Q) : PG X e t' := ⟨fun p s σ H v u Q I r w => h.run p s σ H v u Q I r (i v σ H Q w)⟩
theorem imp_gs {X : Cx} {e : List Expr} {t t' : TGs} (h : PGs X e t) (i : ∀ v σ H Q, t' v σ H Q → t v σ H Q) : PGs X e t' := ⟨fun p s σ H v u Q I r w => h.run p s σ H v u Q I r (i v σ H Q w)⟩
section
variable {X : Cx} {pos pos' : Pos} {es : List Expr} {e : Expr} {t : Tg} {ts : List Tg} {fe : EvE}
theorem g_name (i : Nat) {x : Str} (hN : X.N.Nodup) (hi : X.N[i]? = some x := by rfl) (hx : Loc X.env.scope x := by first | exact Or.inl rfl | exact Or.inr rfl) (hf : X.fn x = true ∨ X.env.scope.names.lookup x = some .local := by first | exact .inl rfl | exact .inr rfl | assumption) : PGv X (.Name x pos) (.nm i) := by
  refine imp_g (pg_name hN hi hx hf) fun v σ H Q ⟨N, H0, ρ, L, W, d, al, ρ', sim, rp, z, q⟩ => ?_
  simp only [tgSet] at z
  split at z
  · rename_i hc
    cases z
    obtain ⟨L', sim', sub⟩ := sim.set0 (r := ⟨d, if imm d = true then .full else .shr, al, none⟩) (v := v) (fun _ z => nomatch z) (by
      cases hi : imm d with
      | true => exact (rp.of_imm hi).2
      | false => exact rp) hc
    refine q _ L' sim' sub ⟨List.length_set, fun j hj => ?_⟩
    rw [List.getElem?_set_ne]
    intro e
    exact hj (by simp [tgSlots, e])
  · cases z
theorem gs_nil : PGsv X [] [] := imp_gs pgs_nil fun vs σ H Q ⟨N, H0, ρ, L, W, ds, al, ρ', sim, rp, z, q⟩ => by
  generalize hF : ([] : List Addr) = F0 at rp
  cases rp with
  | nil =>
    simp only [tgsSet] at z
    cases z
    exact ⟨rfl, q σ L sim (fun _ z => z) (Touch.refl _ _)⟩
  | cons _ _ => simp only [tgsSet] at z; cases z
theorem gs_cons (h1 : PGv X e t) (h2 : PGsv X es ts) (hs : (assignEach (e :: es) X.env).map (·.2) = assign e X.env :: (assignEach es X.env).map (·.2) := by rfl) : PGsv X (e :: es) (t :: ts) := by
  refine imp_gs (pgs_cons h1 h2 hs) fun vs σ H Q ⟨N, H0, ρ, L, W, ds, al, ρ', sim, rp, z, q⟩ => ?_
  generalize hF : ([] : List Addr) = F0 at rp
  cases rp with
  | nil => simp only [tgsSet] at z; cases z
  | cons r1 r2 =>
    have e1 := r1.shr0
    have e2 := r2.shr0
    subst e1 e2
    simp only [tgsSet] at z
    obtain ⟨ρ1, z1, z2⟩ := bind_some z
    refine ⟨_, _, rfl, N, H0, ρ, L, W, _, al, ρ1, sim, r1, z1, fun σ1 L1 sim1 sub1 t1 => ⟨N, H0, ρ1, L1, W, _, al, ρ', sim1, r2, z2, fun σ2 L2 sim2 sub2 t2 => q σ2 L2 sim2 (fun a m => sub1 a (sub2 a m)) ⟨t2.1.trans t1.1, fun j hj => ?_⟩⟩⟩
    rw [tgsSlots, List.mem_append, not_or] at hj
    rw [t2.2 j hj.2, t1.2 j hj.1]
theorem g_tup {k : Nat} (hc : X.calm = true) (h : PGsv X es ts) (hn : (assignEach es X.env).length = ts.length := by rfl) (hst : (assignEach es X.env).findIdx? (·.1) = none := by rfl) : PGv X (.Tuple es k pos) (.tp ts) := by
  refine imp_g (pg_tup hc h hn hst) fun v σ H Q ⟨N, H0, ρ, L, W, d, al, ρ', sim, rp, z, q⟩ => ?_
  cases d with
  | tup ds =>
    simp only [tgSet] at z
    split at z
    · rename_i hl
      obtain ⟨a, vs, rfl, h1, h2⟩ := rp.tup_inv
      exact ⟨a, vs, rfl, SqT.of h1, by rw [h2.len, hl], N, H0, ρ, L, W, ds, al, ρ', sim, h2, z, fun σ' L' s' u t => q σ' L' s' u (by simpa only [tgSlots] using t)⟩
    · cases z
  | _ => simp only [tgSet] at z; cases z
def sAsg (fz : List Nat) (t : Tg) (fe : EvE) : EvS := fun ρ => (fe (frzs fz ρ)).bind fun r => if r.vw = true then none else (tgSet t r.d r.al (frzs fz ρ)).map .nx
theorem s_asg (fz : List Nat) {tg : Expr} (he : PEv X e fe) (hg : PGv X tg t) (hs : swapsWithSole [tg] e pos.line X.env = pure false := by rfl) (hw : swappedStores [tg] e X.env = pure none := by rfl) (h1 : (assignEach [tg] X.env).map (·.2) = [assign tg X.env] := by rfl) : PSv X (.Assign [tg] e pos) (sAsg fz t fe) := by
  refine imp_s (ps_asg he hg hs hw h1) fun D σ H ⟨N, H0, ρ, L, o, sim, z, q⟩ => ?_
  unfold sAsg at z
  obtain ⟨L1, sim1, sub⟩ := sim.frzs fz
  obtain ⟨r, e1, z⟩ := bind_some z
  split at z
  · cases z
  · rename_i hv
    have hv : r.vw = false := by simpa using hv
    obtain ⟨ρ', e2, z⟩ := Option.map_eq_some_iff.mp z
    subst z
    refine one sim1.h e1 fun v H1 F s1 n1 d1 p1 => ?_
    refine ⟨N, H0, _, L1, L1, r.d, r.al, ρ', (sim1.same s1).h, p1.give (fun a z => ⟨z.1.1, fun _ => z.1.2 hv⟩) (fun a m => ⟨.new (sim1.nw a (n1 a m)), fun _ w => sim1.th a w (n1 a m)⟩), e2, fun σ' L' sim' sub' _ => ?_⟩
    exact q σ' H1 L' sim'.sim (Frm.same s1 fun b z => .inl (sub b (sub' b z)))
end
end Ev
set_option Elab.async false
set_option linter.all false
set_option maxRecDepth 100000
namespace Ev
open PySem PySem.Spec L2
open PyProof.Rows hiding St
abbrev EvI := Env → Option (List (D × Bool))
def Kept (H : Hp) (W : List Addr) (H' : Hp) : Prop := ∀ b o, H b = some o → b ∉ W → NT o → H' b = some o
structure Yld (K : PySem.W.Frag) (N : Nw) (W : List Addr) (H1 : Hp) (J : It) (items : List (D × Bool)) : Prop where
  go : ∀ i d al H2, items[i]? = some (d, al) → Kept H1 W H2 → J.go i H2
  yld : ∀ i d al H2 x H3, items[i]? = some (d, al) → Kept H1 W H2 → J.yld i H2 x H3 → Same H2 H3 ∧ Rp K (fun a => SR N W al false a ∧ H1 a ≠ none) H3 .shr x d []
  stop : ∀ H2, Kept H1 W H2 → J.stop items.length H2
def tI (K : PySem.W.Frag) (f : EvI) : TI := fun σ H R => ∃ N H0 ρ L W items, SimH K N H0 ρ σ H L W ∧ f ρ = some items ∧ ∀ J H1, Same H H1 → Yld K N W H1 J items → R J H1
abbrev PIv (X : Cx) (tg iter : Expr) (f : EvI) : Prop := PI X tg iter (tI X.K f)
theorem imp_i {X : Cx} {tg e : Expr} {t t' : TI} (h : PI X tg e t) (i : ∀ σ H R, t' σ H R → t σ H R) : PI X tg e t' := ⟨fun p s σ H R I w => h.run p s σ H R I (i σ H R w)⟩
structure YldS (K : PySem.W.Frag) (N : Nw) (W : List Addr) (H1 : Hp) (J : It) (items : List (D × Bool)) : Prop where
  go : ∀ i d al H2, items[i]? = some (d, al) → Same H1 H2 → J.go i H2
  yld : ∀ i d al H2 x H3, items[i]? = some (d, al) → Same H1 H2 → J.yld i H2 x H3 → Same H2 H3 ∧ Rp K (fun a => SR N W al false a ∧ H1 a ≠ none) H3 .shr x d []
  stop : ∀ H2, Same H1 H2 → J.stop items.length H2
theorem Yld.s {K : PySem.W.Frag} {N : Nw} {W : List Addr} {H1 : Hp} {J : It} {items : List (D × Bool)} (Y : Yld K N W H1 J items) : YldS K N W H1 J items where
  go := fun i d al H2 e s => Y.go i d al H2 e fun b o e _ m => s.k b o e m
  yld := fun i d al H2 x H3 e s y => Y.yld i d al H2 x H3 e (fun b o e _ m => s.k b o e m) y
  stop := fun H2 s => Y.stop H2 fun b o e _ m => s.k b o e m
def tIs (K : PySem.W.Frag) (f : EvI) : TI := fun σ H R => ∃ N H0 ρ L W items, SimH K N H0 ρ σ H L W ∧ f ρ = some items ∧ ∀ J H1, Same H H1 → YldS K N W H1 J items → R J H1
abbrev PIvs (X : Cx) (tg iter : Expr) (f : EvI) : Prop := PI X tg iter (tIs X.K f)
theorem pis {X : Cx} {tg e : Expr} {f : EvI} (h : PIv X tg e f) : PIvs X tg e f := imp_i h fun σ H R ⟨N, H0, ρ, L, W, items, sim, z, q⟩ => ⟨N, H0, ρ, L, W, items, sim, z, fun J H1 s Y => q J H1 s Y.s⟩
section
variable {K : PySem.W.Frag} {N : Nw} {H0 H H' : Hp} {ρ : Env} {σ : St} {L W : List Addr}
theorem Rp.kept {S : Addr → Prop} {v : V} {d : D} (r : Rp K (fun a => S a ∧ a ∉ W) H .shr v d []) (m : ∀ a ∈ W, Mut (H a)) (k : Kept H W H') : Rp K (fun a => S a ∧ a ∉ W) H' .shr v d [] :=
  r.keep fun b o e n q => k b o e (by
    rcases q with q | q | ⟨xs, rfl⟩ | ⟨o', u, rfl⟩
    · exact q.2
    · exact nomatch q
    · intro z; have := m b z; rw [e] at this; exact this
    · intro z; have := m b z; rw [e] at this; exact this) n
end
section
variable {X : Cx} {tg e : Expr} {fe : EvE} {pos : Pos} {body : List Stmt} {t : Tg} {b : EvS} {it : EvI}
def iLst (fe : EvE) : EvI := fun ρ => (fe ρ).bind fun x => if x.vw = true then none else match x.d with
  | .lst ds => some (ds.map fun d => (d, x.al))
  | .fl ds => some (ds.map fun d => (d, x.al))
  | _ => none
theorem yld_list {K : PySem.W.Frag} {N : Nw} {W : List Addr} {H1 : Hp} {a : Addr} {vs : List V} {ds : List D} {al : Bool} (hl : ∀ H2, Kept H1 W H2 → SqL K H2 a vs) (hm : ∀ b ∈ W, Mut (H1 b)) (r : Rps K (SR N W al false) H1 .shr vs ds []) : Yld K N W H1 (Itl K a) (ds.map fun d => (d, al)) where
  go := fun i d al' H2 e k => by
    rw [List.getElem?_map] at e
    obtain ⟨d', e1, e2⟩ := Option.map_eq_some_iff.mp e
    obtain ⟨v, G, e3, _⟩ := r.get e1
    exact ⟨vs, v, hl H2 k, e3⟩
  yld := fun i d al' H2 x H3 e k y => by
    rw [List.getElem?_map] at e
    obtain ⟨d', e1, e2⟩ := Option.map_eq_some_iff.mp e
    cases e2
    obtain ⟨v, G, e3, rp, sub⟩ := r.get e1
    obtain ⟨e4, y⟩ := y
    subst e4
    have := y vs (hl _ k)
    rw [e3] at this
    cases this
    have hG : G = [] := rp.shr0
    subst hG
    refine ⟨Same.refl _, ?_⟩
    have z := (rp.trk.mono (S' := fun a => (AlN N al a ∧ H1 a ≠ none) ∧ a ∉ W) fun a z => ⟨⟨z.1.1, z.2⟩, z.1.2 rfl⟩).kept hm k
    exact z.mono fun a z => ⟨⟨z.1.1, fun _ => z.2⟩, z.1.2⟩
  stop := fun H2 k => ⟨vs, hl H2 k, by rw [List.length_map, r.len]; exact Nat.le_refl _⟩
theorem Kept.same {H1 H2 : Hp} {W W' : List Addr} (k : Kept H1 W H2) (h : ∀ a ∈ W, a ∈ W') : Kept H1 W' H2 := fun b o e n => k b o e fun z => n (h b z)
theorem i_lst (he : PEv X e fe) : PIv X tg e (iLst fe) := by
  refine imp_i (pi_list he) fun σ H R ⟨N, H0, ρ, L, W, items, sim, z, q⟩ => ?_
  unfold iLst at z
  obtain ⟨x, e1, z⟩ := bind_some z
  split at z
  · cases z
  · rename_i hv
    have hv : x.vw = false := by simpa using hv
    refine one sim e1 fun v H1 F s1 n1 d1 p1 => ?_
    have new : ∀ a ∈ F, N a ∧ a ∉ W := fun a m => ⟨sim.nw a (n1 a m), fun w => sim.th a w (n1 a m)⟩
    have muW : ∀ b ∈ W, Mut (H1 b) := fun b z => mut_same (sim.mu b z) s1
    split at z
    · rename_i ds hd
      cases z
      rw [hd] at p1
      have p2 := p1.give (S' := SR N W x.al false) (fun a z => ⟨z.1.1, fun _ => z.1.2 hv⟩) fun a m => ⟨.new (new a m).1, fun _ => (new a m).2⟩
      cases p2 with
      | nd0 hn h1 h2 h3 =>
        cases hn
        refine ⟨_, rfl, ⟨_, SqL.of h1.lst⟩, q _ H1 s1 (yld_list (fun H2 k => SqL.of (k _ _ h1.lst (h2.2 rfl) trivial)) muW h3)⟩
    · rename_i ds hd
      cases z
      rw [hd] at p1
      have p2 := p1.give (S' := SR N W x.al false) (fun a z => ⟨z.1.1, fun _ => z.1.2 hv⟩) fun a m => ⟨.new (new a m).1, fun _ => (new a m).2⟩
      obtain ⟨a, vs, rfl, h1, h2, _⟩ := p2.fl_inv
      refine ⟨a, rfl, ⟨_, h1.sq⟩, q _ H1 s1 (yld_list (fun H2 k => ?_) muW h2)⟩
      rcases h1 with ⟨o, h1⟩ | h1
      · refine .inl (.inr ⟨o, k _ _ h1 (fun w => ?_) trivial⟩)
        have := muW a w
        rw [h1] at this
        exact this
      · exact .inr h1
    · cases z
def iLstV (fe : EvE) : EvI := fun ρ => (fe ρ).bind fun x => match x.d with
  | .lst ds => if immAll ds = true then some (ds.map fun d => (d, false)) else if x.vw = true then none else some (ds.map fun d => (d, x.al))
  | .fl ds => if immAll ds = true then some (ds.map fun d => (d, false)) else if x.vw = true then none else some (ds.map fun d => (d, x.al))
  | _ => none
theorem yldS_imm {K : PySem.W.Frag} {N : Nw} {W : List Addr} {H1 : Hp} {a : Addr} {vs : List V} {ds : List D} {S : Addr → Prop} {l : Lv} {F : List Addr} (hl : ∀ H2, Same H1 H2 → SqL K H2 a vs) (r : Rps K S H1 l vs ds F) (hi : immAll ds = true) : YldS K N W H1 (Itl K a) (ds.map fun d => (d, false)) where
  go := fun i d al' H2 e k => by
    rw [List.getElem?_map] at e
    obtain ⟨d', e1, e2⟩ := Option.map_eq_some_iff.mp e
    obtain ⟨v, G, e3, _⟩ := r.get e1
    exact ⟨vs, v, hl H2 k, e3⟩
  yld := fun i d al' H2 x H3 e k y => by
    rw [List.getElem?_map] at e
    obtain ⟨d', e1, e2⟩ := Option.map_eq_some_iff.mp e
    obtain ⟨e5, e6⟩ := Prod.mk.inj e2
    obtain ⟨v, G, e3, rp, sub⟩ := r.get e1
    obtain ⟨e4, y⟩ := y
    subst e4
    have := y vs (hl _ k)
    rw [e3] at this
    cases this
    subst e5
    have hd : imm d' = true := by
      rw [immAll_all] at hi
      exact List.all_eq_true.mp hi d' (List.mem_of_getElem? e1)
    subst e6
    exact ⟨Same.refl _, ((rp.same k).of_imm hd).2⟩
  stop := fun H2 k => ⟨vs, hl H2 k, by rw [List.length_map, r.len]; exact Nat.le_refl _⟩
theorem i_lstV (he : PEv X e fe) : PIvs X tg e (iLstV fe) := by
  refine imp_i (pi_list he) fun σ H R ⟨N, H0, ρ, L, W, items, sim, z, q⟩ => ?_
  unfold iLstV at z
  obtain ⟨x, e1, z⟩ := bind_some z
  refine one sim e1 fun v H1 F s1 n1 d1 p1 => ?_
  have new : ∀ a ∈ F, N a ∧ a ∉ W := fun a m => ⟨sim.nw a (n1 a m), fun w => sim.th a w (n1 a m)⟩
  have muW : ∀ b ∈ W, Mut (H1 b) := fun b z => mut_same (sim.mu b z) s1
  split at z
  · rename_i ds hd
    rw [hd] at p1
    split at z
    · rename_i hi
      cases z
      obtain ⟨a, vs, G, rfl, h1, h2, _⟩ := p1.lst_inv
      exact ⟨a, rfl, ⟨_, SqL.of h1⟩, q _ H1 s1 (yldS_imm (fun H2 k => SqL.of (k.k _ _ h1 trivial)) h2 hi)⟩
    · split at z
      · cases z
      · rename_i hv
        have hv : x.vw = false := by simpa using hv
        cases z
        have p2 := p1.give (S' := SR N W x.al false) (fun a z => ⟨z.1.1, fun _ => z.1.2 hv⟩) fun a m => ⟨.new (new a m).1, fun _ => (new a m).2⟩
        cases p2 with
        | nd0 hn h1 h2 h3 =>
          cases hn
          refine ⟨_, rfl, ⟨_, SqL.of h1.lst⟩, q _ H1 s1 (yld_list (fun H2 k => SqL.of (k _ _ h1.lst (h2.2 rfl) trivial)) muW h3).s⟩
  · rename_i ds hd
    rw [hd] at p1
    split at z
    · rename_i hi
      cases z
      obtain ⟨a, vs, rfl, h1, h2, _⟩ := p1.fl_inv
      refine ⟨a, rfl, ⟨_, h1.sq⟩, q _ H1 s1 (yldS_imm (fun H2 k => ?_) h2 hi)⟩
      rcases h1 with ⟨o, h1⟩ | h1
      · exact .inl (.inr ⟨o, k.k _ _ h1 trivial⟩)
      · exact .inr h1
    · split at z
      · cases z
      · rename_i hv
        have hv : x.vw = false := by simpa using hv
        cases z
        have p2 := p1.give (S' := SR N W x.al false) (fun a z => ⟨z.1.1, fun _ => z.1.2 hv⟩) fun a m => ⟨.new (new a m).1, fun _ => (new a m).2⟩
        obtain ⟨a, vs, rfl, h1, h2, _⟩ := p2.fl_inv
        refine ⟨a, rfl, ⟨_, h1.sq⟩, q _ H1 s1 (yld_list (fun H2 k => ?_) muW h2).s⟩
        rcases h1 with ⟨o, h1⟩ | h1
        · refine .inl (.inr ⟨o, k _ _ h1 (fun w => ?_) trivial⟩)
          have := muW a w
          rw [h1] at this
          exact this
        · exact .inr h1
  · cases z
def iRng (lo : Int) (n : Nat) : List (D × Bool) := (List.range n).map fun (i : Nat) => (D.int (lo + (i : Int)), false)
theorem iRng_get {lo : Int} {n i : Nat} {d : D} {al : Bool} (h : (iRng lo n)[i]? = some (d, al)) : i < n ∧ d = .int (lo + (i : Int)) ∧ al = false := by
  unfold iRng at h
  rw [List.getElem?_map] at h
  obtain ⟨j, e1, e2⟩ := Option.map_eq_some_iff.mp h
  obtain ⟨h1, h2⟩ := List.getElem?_eq_some_iff.mp e1
  rw [List.getElem_range] at h2
  subst h2
  cases e2
  exact ⟨by simpa using h1, rfl, rfl⟩
theorem yld_rng {K : PySem.W.Frag} {N : Nw} {W : List Addr} {H1 : Hp} {lo : Int} {n : Nat} : Yld K N W H1 (Itr lo n) (iRng lo n) where
  go := fun i d al H2 e k => (iRng_get e).1
  yld := fun i d al H2 x H3 e k y => by
    obtain ⟨h1, rfl, rfl⟩ := iRng_get e
    obtain ⟨e1, e2⟩ := y
    subst e1 e2
    exact ⟨Same.refl _, .int⟩
  stop := fun H2 k => by
    show n ≤ (iRng lo n).length
    unfold iRng
    rw [List.length_map, List.length_range]
    exact Nat.le_refl _
def iRange (ga : EvA) : EvI := fun ρ => (ga ρ).bind fun (rs : List Rv) => match (rs.map Rv.d : List D) with
  | [.int j] => if -(2 ^ 62) ≤ j ∧ j < 2 ^ 62 then some (iRng 0 j.toNat) else none
  | [.int i, .int j] => if -(2 ^ 62) ≤ i ∧ i < 2 ^ 62 ∧ -(2 ^ 62) ≤ j ∧ j < 2 ^ 62 then some (iRng i (j - i).toNat) else none
  | _ => none
theorem RpL.ints {K : PySem.W.Frag} {N : Nw} {W T : List Addr} {H : Hp} : ∀ {vs : List V} {rs : List Rv} {F : List Addr} {ns : List Int}, RpL K N W T H vs rs F → rs.map (·.d) = ns.map .int → vs = ns.map V.int
  | _, _, _, [], .nil, _ => rfl
  | _, _, _, _ :: _, .nil, e => by cases e
  | _, _, _, [], .cons _ _, e => by cases e
  | _, _, _, n :: ns, .cons h1 h2, e => by
    have e := List.cons.inj e
    have e1 : _ = D.int n := e.1
    rw [show Rv.d _ = D.int n from e1] at h1
    rw [h1.int_inv.1, RpL.ints h2 e.2]
    rfl
theorem i_range1 {a : Expr} {ga : EvA} {p : Pos} (hm : X.mg "range" = none) (ha : PAv X [a] ga) (hl : ∀ ρ rs, ga ρ = some rs → rs.length = 1) (hg : Gl X "range" := by rfl) (hs : starEach [a] X.env = [(false, eval a X.env)] := by rfl) : PIv X tg (.Call (.Name "range" p) [a] [] pos) (iRange ga) := by
  refine imp_i (pi_range1 hg hm ha hs) fun σ H R ⟨N, H0, ρ, L, W, items, sim, z, q⟩ => ?_
  unfold iRange at z
  obtain ⟨rs, e1, z⟩ := bind_some z
  refine ⟨N, H0, ρ, L, W, rs, sim, e1, fun vs H1 T s1 n1 d1 p1 => ?_⟩
  split at z
  · rename_i j hd
    split at z
    · rename_i hc
      cases z
      have := p1.ints (ns := [j]) hd
      subst this
      exact ⟨j, rfl, hc.1, hc.2, q _ H1 s1 yld_rng⟩
    · cases z
  · rename_i i j hd
    have h1 := congrArg List.length hd
    rw [List.length_map, hl ρ rs e1] at h1
    cases h1
  · cases z
def forL (t : Tg) (b : EvS) : List (D × Bool) → Env → Option Out
  | [], ρ => some (.nx ρ)
  | (d, al) :: r, ρ => (tgSet t d al ρ).bind fun ρ1 => (b ρ1).bind fun o => match o with
    | .nx ρ2 => forL t b r ρ2
    | .ct ρ2 => forL t b r ρ2
    | .bk ρ2 => some (.nx ρ2)
    | .rt ρ2 d l al => some (.rt ρ2 d l al)
def sFor (fz : List Nat) (it : EvI) (t : Tg) (b : EvS) : EvS := fun ρ => (it (frzs fz ρ)).bind fun items => forL t b items (frzs fz ρ)
theorem s_for (fz : List Nat) (hc : X.calm = true) (hi : PIv X tg e it) (hg : PGv X tg t) (hb : PSsv X body b) (hp : PassesOwn (model X.prog X.w) X.A X.env X.xe := by exact PassesOwn.never) (hs : ∀ x, foldedSetIterable e X.env x = pure x := by intro _; rfl) : PSv X (.For tg e body [] pos) (sFor fz it t b) := by
  refine imp_s (ps_for hp hc hi hg hb hs) fun D σ H ⟨N, H0, ρ, L0, o, sim0, z, q0⟩ => ?_
  unfold sFor at z
  obtain ⟨L, sim, subL⟩ := sim0.frzs fz
  have q := q0.at_ (H1 := H) (L1 := L) ⟨fun _ _ e _ _ => e, fun _ e => .inl e, fun b z => .inl (subL b z)⟩
  obtain ⟨items, e1, z⟩ := bind_some z
  refine ⟨N, H0, _, L, L, items, sim.h, e1, fun J H1 s1 Y => ?_⟩
  refine ⟨fun i m σ' H' => m = items.length - i ∧ i ≤ items.length ∧ ∃ ρ' L', Sim X.K N H0 ρ' σ' H' L' ∧ Frm H1 L H' L' ∧ forL t b (items.drop i) ρ' = some o ∧ PostS X.K N H0 H' L' o D,
    ⟨items.length, by simp, Nat.zero_le _, _, L, sim.same s1, Frm.refl _ _, by simpa using z, q.at_ (Frm.same s1 fun b z => .inl z)⟩, ?_⟩
  rintro i m σ' H' ⟨rfl, hi, ρ', L', sim', fr, zi, qi⟩
  have kept : Kept H1 L H' := fr.1
  by_cases hlt : i < items.length
  · obtain ⟨⟨d, al⟩, ei⟩ : ∃ x, items[i]? = some x := ⟨items[i], List.getElem?_eq_getElem hlt⟩
    have ed : items.drop i = (d, al) :: items.drop (i + 1) := by
      rw [List.drop_eq_getElem_cons hlt]
      have := List.getElem?_eq_getElem hlt
      rw [ei] at this
      rw [← Option.some.inj this]
    rw [ed] at zi
    unfold forL at zi
    obtain ⟨ρ1, et, zi⟩ := bind_some zi
    obtain ⟨ob, eb, zi⟩ := bind_some zi
    refine .inr ⟨Y.go i d al H' ei kept, fun σ'' H'' => ∃ m', m' < items.length - i ∧ (m' = items.length - (i + 1) ∧ i + 1 ≤ items.length ∧ ∃ ρ' L', Sim X.K N H0 ρ' σ'' H'' L' ∧ Frm H1 L H'' L' ∧ forL t b (items.drop (i + 1)) ρ' = some o ∧ PostS X.K N H0 H'' L' o D), fun _ _ h => h, fun x H3 y => ?_⟩
    obtain ⟨s3, r3⟩ := Y.yld i d al H' x H3 ei kept y
    have fr3 : Frm H' L' H3 L' := Frm.same s3 fun b z => .inl z
    refine ⟨N, H0, ρ', L', L', d, al, ρ1, (sim'.same s3).h, r3.mono fun a z => ⟨z.1.1, fun _ w => (fr.2.2 a w).elim (z.1.2 rfl) z.2⟩, et, fun σ2 L2 sim2 sub2 _ => ?_⟩
    have fr2 : Frm H' L' H3 L2 := Frm.same s3 fun b z => .inl (sub2 b z)
    refine ⟨N, H0, ρ1, L2, ob, sim2.sim, eb, ?_⟩
    have again : ∀ {ρ2 : Env}, forL t b (items.drop (i + 1)) ρ2 = some o → ∀ σ4 H4 L4, Sim X.K N H0 ρ2 σ4 H4 L4 → Frm H3 L2 H4 L4 → ∃ m', m' < items.length - i ∧ (m' = items.length - (i + 1) ∧ i + 1 ≤ items.length ∧ ∃ ρ' L', Sim X.K N H0 ρ' σ4 H4 L' ∧ Frm H1 L H4 L' ∧ forL t b (items.drop (i + 1)) ρ' = some o ∧ PostS X.K N H0 H4 L' o D) :=
      fun z4 σ4 H4 L4 sim4 fr4 => ⟨_, by omega, rfl, hlt, _, L4, sim4, fr.trans (fr2.trans fr4), z4, qi.at_ (fr2.trans fr4)⟩
    cases ob with
    | nx ρ2 => exact again zi
    | ct ρ2 => exact again zi
    | bk ρ2 => cases zi; exact fun σ4 H4 L4 sim4 fr4 => qi σ4 H4 L4 sim4 (fr2.trans fr4)
    | rt ρ2 d l al => cases zi; exact qi.at_ fr2
  · have ei : i = items.length := by omega
    subst ei
    rw [List.drop_length] at zi
    unfold forL at zi
    cases zi
    exact .inl ⟨Y.stop H' kept, qi σ' H' L' sim' (Frm.refl _ _)⟩
end
def entry (m : Nat) (ds : List D) : Env := ds.map (fun d => some ⟨d, .shr, true, none⟩) ++ List.replicate (m - ds.length) none
def run (body : EvS) (m : Nat) (ds : List D) : Option RetD := (body (entry m ds)).bind fun o => match o with
  | .rt _ d l al => some (d, l, al)
  | .nx _ => some (.non, .full, false)
  | _ => none
theorem slots_none {K : PySem.W.Frag} {N : Nw} {L : List Addr} {H : Hp} : ∀ n : Nat, Slots K N L H (List.replicate n none) (List.replicate n none) []
  | 0 => .nil
  | n + 1 => .no (slots_none n)
theorem slots_args {K : PySem.W.Frag} {N : Nw} {L : List Addr} {H : Hp} {n : Nat} (hL : ∀ a, N.s a → a ∉ L) : ∀ {vs : List V} {ds : List D}, Rps K N.s H .shr vs ds [] → Slots K N L H (vs.map some ++ List.replicate n none) (ds.map (fun d => some ⟨d, .shr, true, none⟩) ++ List.replicate n none) []
  | vs, ds, h => by
    generalize hF : ([] : List Addr) = F at h
    cases h with
    | nil => exact slots_none n
    | cons h1 h2 =>
      have e1 := h1.shr0
      have e2 := h2.shr0
      subst e1 e2
      exact Slots.so (s := ⟨_, .shr, true, none⟩) (F := []) (G := []) (fun _ z => nomatch z) (h1.mono fun a z => ⟨⟨.inr z, (fun e => (nomatch e))⟩, fun _ => hL a z⟩) (slots_args hL h2)
theorem Sim.same0 {K : PySem.W.Frag} {S : Addr → Prop} {p : Nat → Addr} {H H' : Hp} {ρ : Env} {σ : St} {L : List Addr} (s : Sim K ⟨fun a => H a = none, S, p⟩ H ρ σ H' L) : Same H H' :=
  ⟨fun b o e n => s.kp.k b o e (fun z => by have z : H b = none := z; rw [e] at z; cases z) n, fun b e => s.nw b e, s.kp.t⟩
theorem SimH.same0 {K : PySem.W.Frag} {S : Addr → Prop} {p : Nat → Addr} {H H' : Hp} {ρ : Env} {σ : St} {L W : List Addr} (s : SimH K ⟨fun a => H a = none, S, p⟩ H ρ σ H' L W) : Same H H' := s.sim.same0
theorem def_ok {P : Program} {w : World} {K : PySem.W.Frag} {mg : Str → Option Value} {base : Heap} {x qual : Str} {st : Stmt} {f : Addr} {fd : FuncData} {N ps : List Str} {k : Nat} {body : EvS} (F : Fun K x qual st f fd) (S : FnScope N ps (defScope st))
    (hb : ∀ (cdv : Value) (A : Around) (outer : List PySem.Env) (s : Shared) (H : Hp) (E : XK), Room k (A.deeper (envOfC qual (defScope st) s.heap.objs.size f cdv)) → PSsv (cxOf CX0 P w K mg base N qual (defScope st) f cdv A outer s H E).nox (defBody st) body) :
    FnOk P w K mg base CX0 (k + 1) f fd ps (spD K ps.length (run body N.length)) := by
  refine F.ok S (fun vs H Q E h => h.1) (fun cdv A outer s H vs Q E hr h => ?_)
  obtain ⟨hl, Sx, ds, r, rp, hrun, htb, q⟩ := h
  refine ⟨_, hb cdv A outer s H E hr, ?_⟩
  unfold run at hrun
  obtain ⟨o, e1, hrun⟩ := bind_some hrun
  refine ⟨⟨fun a => H a = none, Sx, fun _ => 0⟩, H, entry N.length ds, [], o, ⟨⟨fun b o e _ _ => e, fun _ _ t => t, htb⟩, fun b e => e, List.nodup_nil, (fun _ z => nomatch z), (fun _ z => nomatch z), ?_⟩, e1, ?_⟩
  · unfold entry L2.start
    rw [rp.len]
    exact slots_args (N := ⟨fun a => H a = none, Sx, fun _ => 0⟩) (L := []) (fun _ _ z => nomatch z) rp
  · cases o with
    | nx ρ =>
      cases hrun
      exact fun σ' H' L' sim fr => q .non H' [] sim.same0 (fun _ z => nomatch z) .nil .non
    | rt ρ d l al =>
      cases hrun
      refine fun v σ' H' L' F sim _ rp => q v H' F sim.same0 (fun a z => sim.ln a (List.mem_append_right _ z)) (List.nodup_append.mp sim.nd).2.1 (rp.mono fun a z => ⟨?_, z.2.1⟩)
      cases al with
      | false => exact .inl (z.1.2 rfl)
      | true => exact z.1.1.imp id fun y => ⟨rfl, y⟩
    | bk ρ => cases hrun
    | ct ρ => cases hrun
end Ev
set_option Elab.async false
set_option linter.all false
set_option maxRecDepth 100000
namespace Ev
open PySem PySem.Spec L2
open PyProof.Rows hiding St
def lcL (t : Tg) (c : EvT) (e : EvE) (ρ : Env) : List (D × Bool) → Option (List Rv)
  | [] => some []
  | (d, al) :: r => (tgSet t d al ρ).bind fun ρ1 => (c ρ1).bind fun k => if k = true then (e ρ1).bind fun x => if x.vw = true then none else (lcL t c e ρ r).map (x :: ·) else lcL t c e ρ r
def mkBig (rs : List Rv) : Option Rv :=
  if rs.length ≤ 1000000 then some (if rs.all (fun r => !r.vw && decide (r.l = .full)) = true then ⟨.lst (rs.map (·.d)), .full, rs.any (·.al), false⟩ else ⟨.lst (rs.map (·.d)), .top, rs.any (·.al), false⟩) else none
def eLc (it : EvI) (vs : List Nat) (t : Tg) (c : EvT) (e : EvE) : EvE := fun ρ => (it ρ).bind fun items => (lcL t c e (wipeE vs ρ) items).bind mkBig
def tYes : EvT := fun _ => some true
section
variable {K : PySem.W.Frag} {N : Nw} {H0 H H' : Hp} {ρ : Env} {σ : St} {L W T : List Addr}
theorem SimH.wipe : ∀ (vs : List Nat), SimH K N H0 ρ σ H L W → ∃ L', SimH K N H0 (wipeE vs ρ) (L2.wipe σ vs) H L' W ∧ ∀ a ∈ L', a ∈ L
  | [], s => ⟨L, s, fun _ z => z⟩
  | i :: is, s => by
    obtain ⟨L1, s1, h1⟩ := SimH.wipe is s
    obtain ⟨L2, s2, h2⟩ := s1.drop1 i
    exact ⟨L2, s2, fun a z => h1 a (h2 a z)⟩
theorem SimH.put {a : Addr} {o0 o : HO} (s : SimH K N H0 ρ σ H L W) (ha : a ∈ W) (hl : a ∉ L) (m : Mut (some o)) (e0 : H a = some o0) (ne : NE o0) : SimH K N H0 ρ σ (upd H a o) L W where
  kp := s.kp.upd (s.ln a ha) e0 ne
  nw := fun b e => by
    by_cases z : b = a
    · rw [z]; exact s.ln a ha
    · rw [upd_ne z] at e; exact s.nw b e
  nd := s.nd
  ln := s.ln
  mu := fun b hb => by
    by_cases z : b = a
    · rw [z, upd_same]; exact m
    · rw [upd_ne z]; exact s.mu b hb
  sl := s.sl.keep fun al => fun b u e _ q => by
    have : b ≠ a := fun z => by
      subst z
      rcases q with q | q | ⟨xs, rfl⟩ | ⟨o', u', rfl⟩
      · exact q.2 rfl ha
      · exact hl q
      · have := s.mu b ha; rw [e] at this; exact this
      · have := s.mu b ha; rw [e] at this; exact this
    rw [upd_ne this]
    exact e
  sub := s.sub
  ndl := s.ndl
theorem RpL.same (s : Same H H') : ∀ {vs : List V} {rs : List Rv} {F : List Addr}, RpL K N W T H vs rs F → RpL K N W T H' vs rs F
  | _, _, _, .nil => .nil
  | _, _, _, .cons h1 h2 => .cons (h1.same s) (RpL.same s h2)
theorem RpL.grow {W' T' : List Addr} (h : ∀ a, H a ≠ none → (a ∉ W → a ∉ W') ∧ (a ∉ T → a ∉ T')) : ∀ {vs : List V} {rs : List Rv} {F : List Addr}, RpL K N W T H vs rs F → RpL K N W' T' H vs rs F
  | _, _, _, .nil => .nil
  | _, _, _, .cons h1 h2 => .cons (h1.trk.mono fun a z => ⟨⟨z.1.1.1, fun e => (h a z.2).1 (z.1.1.2 e)⟩, fun e => (h a z.2).2 (z.1.2 e)⟩) (RpL.grow h h2)
theorem RpL.snoc {r : Rv} {v : V} {G : List Addr} (p : Rp K (fun a => SR N W r.al r.vw a ∧ (r.vw = false → a ∉ T)) H r.l v r.d G) : ∀ {vs : List V} {rs : List Rv} {F : List Addr}, RpL K N W T H vs rs F → RpL K N W T H (vs ++ [v]) (rs ++ [r]) (F ++ G)
  | _, _, _, .nil => by have := RpL.cons p .nil; rw [List.append_nil] at this; exact this
  | _, _, _, .cons h1 h2 => by rw [List.append_assoc]; exact .cons h1 (RpL.snoc p h2)
theorem RpL.put {a : Addr} {o : HO} (ha : a ∈ W) (m : Mut (H a)) : ∀ {vs : List V} {rs : List Rv} {F : List Addr}, RpL K N W T H vs rs F → (∀ r ∈ rs, r.vw = false) → a ∉ F → RpL K N W T (upd H a o) vs rs F
  | _, _, _, .nil, _, _ => .nil
  | _, _, _, .cons h1 h2, hv, hF => .cons (h1.keep fun b u e _ q => by
      have : b ≠ a := fun z => by
        subst z
        rcases q with q | q | ⟨xs, rfl⟩ | ⟨o', u', rfl⟩
        · exact q.1.2 (hv _ List.mem_cons_self) ha
        · exact hF (List.mem_append_left _ q)
        · rw [e] at m; exact m
        · rw [e] at m; exact m
      rw [upd_ne this]
      exact e) (RpL.put ha m h2 (fun r z => hv r (List.mem_cons_of_mem _ z)) fun z => hF (List.mem_append_right _ z))
end
theorem wipe_get {σ : St} : ∀ {vs : List Nat} {j : Nat}, j ∈ vs → j < σ.length → (L2.wipe σ vs)[j]? = some none
  | v :: vs, j, h, hl => by
    unfold L2.wipe
    by_cases e : v = j
    · subst e
      rw [List.getElem?_set_self (by rw [wipe_length]; exact hl)]
    · rw [List.getElem?_set_ne e]
      exact wipe_get ((List.mem_cons.mp h).elim (fun z => absurd z.symm e) id) hl
theorem wipe_eq {σ σ' : St} {vs js : List Nat} (t : Touch js (L2.wipe σ vs) σ') (h : ∀ j ∈ js, j ∈ vs) : L2.wipe σ' vs = L2.wipe σ vs := by
  apply List.ext_getElem?
  intro j
  have hlen : σ'.length = σ.length := t.1.trans (wipe_length σ vs)
  by_cases hj : j ∈ vs
  · by_cases hl : j < σ.length
    · rw [wipe_get hj hl, wipe_get hj (by rw [hlen]; exact hl)]
    · rw [List.getElem?_eq_none (by rw [wipe_length, hlen]; omega), List.getElem?_eq_none (by rw [wipe_length]; omega)]
  · rw [wipe_out hj, t.2 j (fun z => hj (h j z))]
section
variable {X : Cx}
theorem imp_ts {X : Cx} {e : List Expr} {t t' : TT} (h : PTs X e t) (i : ∀ σ H Q, t' σ H Q → t σ H Q) : PTs X e t' := ⟨fun p s σ H Q I w => h.run p s σ H Q I (i σ H Q w)⟩
abbrev PTsv (X : Cx) (ifs : List Expr) (c : EvT) : Prop := PTs X ifs (tT X.K c)
theorem ts_nil : PTsv X [] tYes := imp_ts pts_nil fun σ H Q ⟨N, H0, ρ, L, W, k, sim, z, q⟩ => by cases z; exact q H (Same.refl H)
theorem ts_one {c : Expr} {gc : EvT} (h : PTv X c gc) : PTsv X [c] gc := pts_one h
theorem lc_core {vs : List Nat} {t : Tg} {c : EvT} {e : EvE} (hv : (tgSlots t).all (fun j => decide (j ∈ vs)) = true) {N : Nw} {H0 : Hp} {ρ : Env} {L W : List Addr} {items : List (D × Bool)} {rs : List Rv} {r : Rv} {σ : St} {H H1 : Hp} {J : It} {Q : VK} (sim : SimH X.K N H0 ρ σ H L W) (e2 : lcL t c e (wipeE vs ρ) items = some rs) (z : mkBig rs = some r) (q : Post X.K N W H r Q) (s1 : Same H H1) (Y : YldS X.K N W H1 J items) : tLc (fun _ _ R => R J H1) (tG X.K t) (tT X.K c) (tE X.K e) vs σ H Q := by
  have hv : ∀ j ∈ tgSlots t, j ∈ vs := fun j z => of_decide_eq_true (List.all_eq_true.mp hv j z)
  unfold mkBig at z
  split at z
  · rename_i hlen
    refine fun A nA => ?_
    obtain ⟨Lw, simw, subw⟩ := (sim.same s1).wipe vs
    have nAW : A ∉ W := fun w => sim.th A w (s1.free nA)
    refine ⟨fun i m Hc => m = items.length - i ∧ i ≤ items.length ∧ ∃ (r1 r2 : List Rv) (acc : List V) (T : List Addr), Hc A = some (.lst acc) ∧ RpL X.K N (W ++ [A]) T Hc acc r1 T ∧ SimH X.K N H0 (wipeE vs ρ) (L2.wipe σ vs) Hc Lw ((W ++ [A]) ++ T) ∧
      lcL t c e (wipeE vs ρ) (items.drop i) = some r2 ∧ rs = r1 ++ r2 ∧ (∀ r ∈ r1, r.vw = false) ∧ Same H1 Hc ∧ (∀ a ∈ T, H1 a = none), ⟨items.length, by simp, Nat.zero_le _, [], rs, [], [], upd_same, .nil, ?_, by simpa using e2, rfl, (fun _ z => nomatch z), same_upd nA, fun _ z => nomatch z⟩, ?_⟩
    · rw [List.append_nil]
      exact simw.hold (same_upd nA) (fun a z => (List.mem_singleton.mp z) ▸ nA) nodup1 fun a z => by rw [List.mem_singleton.mp z, upd_same]; trivial
    · rintro i m Hc ⟨rfl, hi, r1, r2, acc, T, hA, rl, simc, el, er, hvw, sc, nT⟩
      have kept : Same H1 Hc := sc
      by_cases hlt : i < items.length
      · obtain ⟨⟨d, al⟩, ei⟩ : ∃ x, items[i]? = some x := ⟨items[i], List.getElem?_eq_getElem hlt⟩
        have ed : items.drop i = (d, al) :: items.drop (i + 1) := by
          rw [List.drop_eq_getElem_cons hlt]
          have := List.getElem?_eq_getElem hlt
          rw [ei] at this
          rw [← Option.some.inj this]
        rw [ed] at el
        unfold lcL at el
        obtain ⟨ρ1, et, el⟩ := bind_some el
        obtain ⟨k, ek, el⟩ := bind_some el
        refine .inr ⟨Y.go i d al Hc ei kept, fun Hn => ∃ m', m' < items.length - i ∧ (m' = items.length - (i + 1) ∧ i + 1 ≤ items.length ∧ ∃ (r1 r2 : List Rv) (acc : List V) (T : List Addr), Hn A = some (.lst acc) ∧ RpL X.K N (W ++ [A]) T Hn acc r1 T ∧ SimH X.K N H0 (wipeE vs ρ) (L2.wipe σ vs) Hn Lw ((W ++ [A]) ++ T) ∧
          lcL t c e (wipeE vs ρ) (items.drop (i + 1)) = some r2 ∧ rs = r1 ++ r2 ∧ (∀ r ∈ r1, r.vw = false) ∧ Same H1 Hn ∧ (∀ a ∈ T, H1 a = none)), fun _ h => h, fun x H3 y => ?_⟩
        obtain ⟨s3, r3⟩ := Y.yld i d al Hc x H3 ei kept y
        have r4 : Rp X.K (SR N ((W ++ [A]) ++ T) al false) H3 .shr x d [] := by
          refine r3.mono fun a z => ⟨z.1.1, fun _ w => ?_⟩
          rcases List.mem_append.mp w with w | w
          · rcases List.mem_append.mp w with w | w
            · exact z.1.2 rfl w
            · exact z.2 (List.mem_singleton.mp w ▸ nA)
          · exact z.2 (nT a w)
        refine ⟨N, H0, wipeE vs ρ, Lw, (W ++ [A]) ++ T, d, al, ρ1, simc.same s3, r4, et, fun σ2 L2 sim2 sub2 tch => ?_⟩
        refine ⟨wipe_eq tch hv, N, H0, ρ1, L2, _, k, sim2, ek, fun H4 s4 => ?_⟩
        have s34 := s3.trans s4
        cases k with
        | false =>
          refine iteF ⟨_, by omega, rfl, hlt, r1, r2, acc, T, s34.k A _ hA trivial, rl.same s34, simc.same s34, by simpa using el, er, hvw, sc.trans s34, nT⟩
        | true =>
          rw [if_pos rfl] at el
          obtain ⟨x', ee, el⟩ := bind_some el
          split at el
          · cases el
          · rename_i hx
            have hx : x'.vw = false := by simpa using hx
            obtain ⟨r2', el2, e2'⟩ := Option.map_eq_some_iff.mp el
            subst e2'
            refine iteT ⟨N, H0, ρ1, L2, _, x', sim2.same s4, ee, fun v H5 F s5 n5 d5 p5 => ?_⟩
            have s35 := s34.trans s5
            have hA5 := s35.k A _ hA trivial
            have nF : ∀ a ∈ F, Hc a = none := fun a z => s34.free (n5 a z)
            have AF : A ∉ F := fun z => by have := nF A z; rw [hA] at this; cases this
            refine ⟨acc, hA5, ?_, _, by omega, rfl, hlt, r1 ++ [x'], r2', acc ++ [v], T ++ F, upd_same, ?_, ?_, el2, by rw [er, List.append_assoc]; rfl, fun r z => (List.mem_append.mp z).elim (hvw r) fun z => List.mem_singleton.mp z ▸ hx, (sc.trans s35).upd_new nA hA5 trivial, fun a z => (List.mem_append.mp z).elim (nT a) fun z => sc.free (nF a z)⟩
            · have h1 := rl.len
              have h2 : r1.length ≤ rs.length := by rw [er, List.length_append]; omega
              have := sizeLine_eq
              omega
            · refine RpL.put (by simp) (by rw [hA5]; trivial) (RpL.snoc ?_ ((rl.grow (fun a t => ⟨id, fun z w => (List.mem_append.mp w).elim z fun w => t (nF a w)⟩)).same s35)) (fun r z => (List.mem_append.mp z).elim (hvw r) fun z => List.mem_singleton.mp z ▸ hx) fun z => (List.mem_append.mp z).elim (fun z => by have := nT A z; have := sc.free (H' := Hc) (l := A); exact absurd (rl.own_trk A z) (fun t => by
                  have hnd := simc.nd
                  rw [List.nodup_append] at hnd
                  exact hnd.2.2 A (by simp) A z rfl)) AF
              exact p5.mono fun a z => ⟨⟨z.1.1, fun e w => z.1.2 e (List.mem_append_left _ w)⟩, fun e w => (List.mem_append.mp w).elim (fun w => z.1.2 e (List.mem_append_right _ w)) z.2⟩
            · have := (simc.hold s35 nF d5 p5.own_mut)
              rw [List.append_assoc] at this
              exact this.put (by simp) (fun z => nAW (sim.sub A (subw A z))) trivial hA5 trivial
      · have ei : i = items.length := by omega
        subst ei
        rw [List.drop_length] at el
        unfold lcL at el
        cases el
        rw [List.append_nil] at er
        subst er
        refine .inl ⟨Y.stop Hc kept, ?_⟩
        have hnd := simc.nd
        rw [List.nodup_append] at hnd
        have AT : A ∉ T := fun z => hnd.2.2 A (by simp) A z rfl
        have newT : ∀ a ∈ T, H a = none := fun a z => s1.free (nT a z)
        split at z
        · rename_i hf
          cases z
          refine q _ Hc (A :: T) (s1.trans sc) (fun a z => (List.mem_cons.mp z).elim (fun e => e ▸ s1.free nA) (newT a)) (List.nodup_cons.mpr ⟨AT, hnd.2.1⟩) (.nd1 (fun z => nomatch z) .lst hA ?_)
          exact (rl.full hf al_any).mono fun a z => ⟨⟨z.1.1, fun e w => z.1.2 e (List.mem_append_left _ w)⟩, fun w => (List.mem_cons.mp w).elim (fun e => z.1.2 rfl (by rw [e]; simp)) z.2⟩
        · cases z
          refine q _ Hc [A] (s1.trans sc) (fun a z => List.mem_singleton.mp z ▸ s1.free nA) nodup1 (.nd1 (fun z => nomatch z) .lst hA ?_)
          exact (rl.give (fun a z => ⟨sim.nw a (newT a z), fun w => hnd.2.2 a w a z rfl⟩) (fun _ z => z) (List.all_eq_true.mpr fun r z => by rw [hvw r z]; rfl) al_any).mono fun a z => ⟨⟨z.1, fun e w => z.2 e (List.mem_append_left _ w)⟩, fun w => z.2 rfl (List.mem_append_right _ w)⟩
  · cases z
theorem lc_read {it : EvI} {vs : List Nat} {t : Tg} {c : EvT} {e : EvE} (hv : (tgSlots t).all (fun j => decide (j ∈ vs)) = true) {σ : St} {H : Hp} {Q : VK} (h : tE X.K (eLc it vs t c e) σ H Q) : tLc (tIs X.K it) (tG X.K t) (tT X.K c) (tE X.K e) vs σ H Q := by
  obtain ⟨N, H0, ρ, L, W, r, sim, z, q⟩ := h
  unfold eLc at z
  obtain ⟨items, e1, z⟩ := bind_some z
  obtain ⟨rs, e2, z⟩ := bind_some z
  exact ⟨N, H0, ρ, L, W, items, sim, e1, fun J H1 s1 Y => lc_core hv sim e2 z q s1 Y⟩
variable {elt tg iter : Expr} {ifs : List Expr} {scope : Scope} {own : List (Str × Nat)} {pos pos' spos py : Pos} {it : EvI} {t : Tg} {c : EvT} {fe : EvE}
theorem e_lc (own : List (Str × Nat)) (hc : X.calm = true) (hN : X.N.Nodup) (hi : PIvs X tg iter it) (ok : BlkOk X.N X.env.scope scope own)
    (hg : ∀ (s : Shared) (H : Hp) (C : Addr) (cl : List (Str × Addr)) (fp : List Addr), PGv (X.blk s H scope (compEnvC scope cl C X.env) fp) tg t) (ht : ∀ (s : Shared) (H : Hp) (C : Addr) (cl : List (Str × Addr)) (fp : List Addr), PTsv (X.blk s H scope (compEnvC scope cl C X.env) fp) ifs c)
    (he : ∀ (s : Shared) (H : Hp) (C : Addr) (cl : List (Str × Addr)) (fp : List Addr), PEv (X.blk s H scope (compEnvC scope cl C X.env) fp) elt fe) (hv : (tgSlots t).all (fun j => decide (j ∈ own.map (·.2))) = true := by rfl) (hs : ∀ x, foldedSetIterable iter X.env x = pure x := by intro _; rfl) :
    PEv X (.ListComp elt [⟨tg, iter, ifs, 0⟩] scope pos) (eLc it (own.map (·.2)) t c fe) :=
  imp_e (pe_lc hc hN hi ok hg ht he hs) fun σ H Q h => lc_read hv h
end
end Ev
set_option Elab.async false
set_option linter.all false
set_option maxRecDepth 100000
set_option maxHeartbeats 4000000
namespace EvS
open PySem PySem.Spec L2
open PyProof.Rows hiding St
open SrtO (Srtd Stb Swo)
theorem lt_asym : ∀ (a b : List Int), HT.lexLt a b = true → HT.lexLt b a = false
  | [], [], h => by cases h
  | [], _ :: _, _ => rfl
  | _ :: _, [], h => by cases h
  | x :: a, y :: b, h => by
    rw [HT.lexLt_cons] at h ⊢
    by_cases e : x = y
    · rw [if_pos e] at h
      rw [if_pos e.symm]
      exact lt_asym a b h
    · rw [if_neg e] at h
      rw [if_neg (fun z => e z.symm)]
      have := of_decide_eq_true h
      exact decide_eq_false (by omega)
theorem lt_neg_trans : ∀ (a b c : List Int), HT.lexLt a b = false → HT.lexLt b c = false → HT.lexLt a c = false
  | [], [], _, _, h => h
  | [], _ :: _, _, h, _ => by cases h
  | _ :: _, [], [], _, _ => rfl
  | _ :: _, [], _ :: _, _, h => by cases h
  | _ :: _, _ :: _, [], _, _ => rfl
  | x :: a, y :: b, z :: c, h1, h2 => by
    rw [HT.lexLt_cons] at h1 h2 ⊢
    by_cases e : x = y
    · rw [if_pos e] at h1
      by_cases e2 : y = z
      · rw [if_pos e2] at h2
        rw [if_pos (e.trans e2)]
        exact lt_neg_trans a b c h1 h2
      · rw [if_neg e2] at h2
        rw [if_neg (by rw [e]; exact e2), e]
        exact h2
    · rw [if_neg e] at h1
      have g1 := of_decide_eq_false h1
      by_cases e2 : y = z
      · rw [← e2, if_neg e]
        exact h1
      · rw [if_neg e2] at h2
        have g2 := of_decide_eq_false h2
        rw [if_neg (by omega)]
        exact decide_eq_false (by omega)
theorem swo_lex {α : Type} (k : α → List Int) : Swo fun v u => HT.lexLt (k v) (k u) :=
  ⟨fun x y h => lt_asym _ _ h, fun x y z h1 h2 => lt_neg_trans _ _ _ h2 h1⟩
section
variable {prog : Program} {w : World} {A : Around} {E : Value → Shared → Prop} {s : Shared} {Q : Bool → Shared → Prop}
theorem oneLt_i (c : Bool) {p q : Int} {t u : Tok} (h : Q (decide (p < q)) s) : wpAny (model prog w) A (oneLt' c (.int p t) (.int q u)) Q E s := by
  cases c with
  | true => exact oneLt_int h
  | false => exact PySem.W.kat_one _ _ (PyProof.Rows.lt_int (Q := PySem.W.BoolBack Q) h)
theorem lexL_ints {b : Bool} {xs ys : List Value} {ns ms : List Int} (i : Nat) (hx : IntsAre xs ns) (hy : IntsAre ys ms) (hl : ns.length = ms.length)
    (h : Q (HT.lexLt ns ms) s) : PySem.W.KatLex prog w A b false Q (xs.zip ys) i s := by
  induction hx generalizing ys ms i with
  | nil =>
    cases hy with
    | nil => exact PySem.W.kat_nil h
    | cons q u hy => simp at hl
  | @cons p t xs ns hx ih =>
    cases hy with
    | nil => simp at hl
    | @cons q u ys ms hy =>
      have hl' : ns.length = ms.length := by simpa using hl
      show PySem.W.KatLex prog w A b false Q ((Value.int p t, Value.int q u) :: xs.zip ys) i s
      refine PySem.W.kat_cons (wpAny_eqBool_int ?_)
      rw [HT.lexLt_cons] at h
      by_cases e : p = q
      · subst e
        rw [if_pos rfl] at h
        rw [beq_self_eq_true]
        refine PySem.W.kat_yes ?_
        first
          | exact ih (i + 1) hy hl' h
          | exact ih _ _ (i + 1) hy hl' h
      · rw [if_neg e] at h
        rw [show (p == q) = false from beq_eq_false_iff_ne.mpr e]
        exact PySem.W.kat_no (oneLt_i _ h)
def Tups (h : Heap) (d : Nat) (vs : List Value) (k : Value → List Int) : Prop := ∀ v ∈ vs, TS.TupInts h v (k v) ∧ (k v).length = d
theorem Tups.keeps {h h' : Heap} {d : Nat} {vs : List Value} {k : Value → List Int} (x : Tups h d vs k) (kp : ∀ b o, h.get? b = some o → o.cls = .type "tuple" → h'.get? b = some o) : Tups h' d vs k := fun v hv =>
  ⟨(x v hv).1.keeps kp, (x v hv).2⟩
theorem firsts {h : Heap} {d : Nat} {k : Value → List Int} (hd : 1 ≤ d) : ∀ vs : List Value, Tups h d vs k → ∃ fs, PySem.W.KatTups h vs fs ∧ fs.length = vs.length ∧ ∀ f, f ∈ fs → ∃ n t, f = Value.int n t
  | [], _ => ⟨[], PySem.W.KatTups.nil, rfl, fun f hf => by simp at hf⟩
  | v :: vs, x => by
    obtain ⟨fs, kt, hl, hi⟩ := firsts hd vs fun u hu => x u (List.mem_cons_of_mem _ hu)
    obtain ⟨⟨a, xs, e1, ⟨o, ho, hc, n, hdt⟩, i⟩, hn⟩ := x v (List.mem_cons_self ..)
    subst e1
    obtain ⟨y, ys, e⟩ : ∃ y ys, xs.toList = y :: ys := by
      cases q : xs.toList with
      | nil =>
        rw [q] at i
        have l := i.length
        rw [List.length_nil, hn] at l
        omega
      | cons y ys => exact ⟨y, ys, rfl⟩
    obtain ⟨m, t, hy⟩ := i.all y (by rw [e]; exact List.mem_cons_self ..)
    refine ⟨y :: fs, PySem.W.KatTups.cons ho hc hdt ?_ kt, by simp [hl], ?_⟩
    · have z := congrArg (fun l : List Value => l[0]?) e
      simpa using z
    · intro f hf
      rcases List.mem_cons.mp hf with rfl | hf
      · exact ⟨m, t, hy⟩
      · exact hi f hf
theorem tup_cmp {d : Nat} {vs : List Value} {k : Value → List Int} (hp : Tups s.heap d vs k) : SrtO.Cmp prog w A s (tuples' true) (fun p => p.1 ∈ vs) (SrtO.lt2 fun v u => HT.lexLt (k v) (k u)) := by
  intro p q hm hm'
  obtain ⟨⟨a, xs, e1, ⟨o, ho, hc, n, hdt⟩, i⟩, l1⟩ := hp _ hm
  obtain ⟨⟨a', ys, e2, ⟨o', ho', hc', n', hdt'⟩, i'⟩, l2⟩ := hp _ hm'
  show wpAny (model prog w) A (keyLt' (tuples' true) p.1 q.1) (fun r s' => s' = s ∧ r = HT.lexLt (k p.1) (k q.1)) (fun _ _ => False) s
  rw [e1] at i l1 ⊢
  rw [e2] at i' l2 ⊢
  refine PySem.W.kat_lt ho hdt ho' hdt' ?_
  have ez : decide (xs.size < ys.size) = false := by
    have z1 := i.length
    have z2 := i'.length
    rw [Array.length_toList] at z1 z2
    exact decide_eq_false (by omega)
  rw [ez]
  exact lexL_ints 0 i i' (by omega) ⟨rfl, rfl⟩
theorem tups_sortableO {d : Nat} (hd : 1 ≤ d) {a : Addr} {vs : List Value} {k : Value → List Int} (h0 : 0 < vs.length) (hp : Tups s.heap d vs k) (ha : ∀ o, s.heap.get? a = some o → o.cls ≠ .type "tuple") : SrtO.SortableO prog w A s a vs fun v u => HT.lexLt (k v) (k u) := by
  intro h' keep
  have hp' : Tups h' d vs k := hp.keeps fun b o e c => keep b o (fun z => by subst z; exact ha o e c) e
  obtain ⟨fs, h1, h2, h3⟩ := firsts hd vs hp'
  refine ⟨tuples' true, fun Q E hq => ?_, tup_cmp (s := { s with heap := h' }) hp'⟩
  refine PySem.W.kat_kind (T := .type "int") h1 (by omega) (fun f hm => ?_) (by rfl) ?_
  · obtain ⟨x, t, rfl⟩ := h3 f hm
    exact PySem.W.Looks.now
  · have e : (Value.type "int" != Value.type "tuple") = true := by first | decide +kernel | rfl | decide
    rw [e]
    exact hq
theorem sorted_tupsO {d : Nat} (hd : 1 ≤ d) {l : Addr} {vs : List Value} {k : Value → List Int} {Q : Value → Shared → Prop} (hl : s.heap.IsList l vs.toArray) (hz : vs.length ≤ sizeLine) (hp : Tups s.heap d vs k)
    (h : ∀ (h' : Heap) (d : Addr) (out : List Value), Srtd (fun v u => HT.lexLt (k v) (k u)) out → Stb (fun v u => HT.lexLt (k v) (k u)) out vs → (∀ b o, s.heap.get? b = some o → h'.get? b = some o) → s.heap.objs.size ≤ d → (∃ n, h'.get? d = some (seqObj "list" out.toArray n)) → Q (.ref d) { s with heap := h' }) :
    wpAny (model prog w) A (call (.builtin "sorted") [.ref l]) Q E s := by
  refine SrtO.sorted_ord (swo_lex k) hl hz (fun h2 h₁ a ha kk => ?_) fun out hs hb => ?_
  · refine tups_sortableO (s := { s with heap := h₁ }) hd (by omega) (hp.keeps fun b o e _ => (kk b o e).2) fun o e => ?_
    have e' : some o = some (seqObj "list" vs.toArray 0) := e.symm.trans ha
    cases e'
    intro c
    exact absurd (Value.type.inj c) (by decide)
  · exact h _ _ out hs hb (fun b o e => PyProof.Rows.sortedAll_old e) (Nat.le_succ _) (PyProof.Rows.sortedAll_at s.heap vs out.toArray)
end
def rSortedL (K : PySem.W.Frag) : List V → Hp → VK → Prop := fun vs H Q => ∃ (a : Addr) (xs : List V) (k : V → List Int) (d : Nat), 1 ≤ d ∧ vs = [V.ref a] ∧ SqL K H a xs ∧ (∀ x ∈ xs, ∃ t, x = V.ref t ∧ H t = some (.tup ((k x).map V.int)) ∧ (k x).length = d) ∧
  ∀ ys p, Srtd (fun x y => HT.lexLt (k x) (k y)) ys → Stb (fun x y => HT.lexLt (k x) (k y)) ys xs → H p = none → Q (.ref p) (upd H p (.lst ys))
theorem cr_sortedL {X : Cx} : CallR X (.builtin "sorted") (rSortedL X.K) := by
  intro pins s σ H vs us Q I r h
  obtain ⟨a, xs, k, d, hd, rfl, hs, hx, q⟩ := h
  obtain ⟨its, rv, hl, hz⟩ := I.list hs
  obtain ⟨u, rfl, ru⟩ := vals1 r
  obtain rfl : u = Value.ref a := ru
  obtain ⟨e1, e2⟩ := refs_back rv fun x m => by
    obtain ⟨t, e, _⟩ := hx x m
    exact ⟨t, e⟩
  refine sorted_tupsO (k := fun u => k (backV u)) hd hl.isList (by rw [← rv.length]; exact hz) (fun v hv => ?_) fun h' d out h1 h2 kp hd hn => ?_
  · obtain ⟨t, rfl⟩ := e2 v hv
    have hm : V.ref t ∈ xs := by rw [e1]; exact List.mem_map.mpr ⟨_, hv, rfl⟩
    obtain ⟨t', e, ht, hlen⟩ := hx _ hm
    cases e
    obtain ⟨_, its2, r2, o, ho, hc, n, hdt⟩ := I.hok _ _ ht
    exact ⟨⟨t, its2.toArray, rfl, ⟨o, ho, hc, n, hdt⟩, Vals.ints r2⟩, hlen⟩
  · have h3 : ∀ u ∈ out, ∃ a, u = Value.ref a := fun u hu => e2 u (h2.perm.mem_iff.mp hu)
    obtain ⟨n, hn⟩ := hn
    have hb : Stb (fun x y => HT.lexLt (k x) (k y)) (out.map backV) xs := by
      rw [e1]
      exact SrtO.Stb.map (swo_lex k) backV h2
    refine ⟨.ref d, upd H d (.lst (out.map backV)), I.laid (t' := s.toks) kp hd ⟨?_, out, n, vals_back h3, hn⟩, rfl, q _ d (SrtO.srtd_map h1) hb (I.hok.fresh hd)⟩
    rw [hb.len]
    exact hz
end EvS
set_option Elab.async false
set_option linter.all false
set_option maxRecDepth 100000
namespace Ev
open PySem PySem.Spec L2
open PyProof.Rows hiding St
def whole : D → Bool
  | .lst ds => immAll ds
  | _ => false
def res (al vw : Bool) (z : Ret) : Rv := if imm z.1 = true then rA z.1 else if (whole z.1 && decide (z.2 = .top)) = true then ⟨z.1, .full, false, false⟩ else ⟨z.1, z.2, al, vw⟩
section
variable {K : PySem.W.Frag} {S : Addr → Prop} {N : Nw} {W : List Addr} {H H1 : Hp} {F : List Addr} {v : V} {Q : VK}
theorem Rp.whole {d : D} (r : Rp K S H .top v d F) (h : whole d = true) : ∀ S', Rp K S' H .full v d F := fun S' => by
  cases r with
  | nd1 h0 hn h1 h2 =>
    cases hn with
    | lst =>
      have e := h2.shr0
      subst e
      exact .nd1 (fun z => nomatch z) .lst h1 (h2.of_imm (by simpa only [Ev.whole] using h)).2
    | _ => cases h
  | fl => cases h
  | _ => cases h
theorem Post.res {z : Ret} {al vw : Bool} (q : Post K N W H (res al vw z) Q) (s : Same H H1) (new : ∀ a ∈ F, H a = none) (nd : F.Nodup) (hS : ∀ a, S a → SR N W al vw a) (rp : Rp K (fun a => S a ∧ a ∉ F) H1 z.2 v z.1 F) : Q v H1 := by
  unfold Ev.res at q
  split at q
  · rename_i hi
    exact q.atom s fun S => (rp.of_imm hi).2
  · split at q
    · rename_i hw
      rw [Bool.and_eq_true, decide_eq_true_eq] at hw
      rw [hw.2] at rp
      exact q v H1 F s new nd (rp.whole hw.1 _)
    · exact q v H1 F s new nd (rp.mono fun a z => ⟨hS a z.1, z.2⟩)
end
def Made (K : PySem.W.Frag) (S : Addr → Prop) (H : Hp) (z : Ret) (Q : VK) : Prop := ∀ v H' F, Same H H' → (∀ a ∈ F, H a = none) → F.Nodup → Rp K (fun a => S a ∧ a ∉ F) H' z.2 v z.1 F → Q v H'
def CallOk (X : Cx) (f : Value) (g : List D → Option Ret) : Prop :=
  ∃ r : List V → Hp → VK → Prop, CallR X f r ∧ ∀ (S : Addr → Prop) (H : Hp) (vs : List V) (ds : List D) (z : Ret) (Q : VK), Rps X.K S H .shr vs ds [] → g ds = some z → Made X.K S H z Q → r vs H Q
theorem CallOk.or {X : Cx} {f : Value} {g g' : List D → Option Ret} (h : CallOk X f g) (h' : CallOk X f g') : CallOk X f (fun ds => (g ds).or (g' ds)) := by
  obtain ⟨r, ho, hr⟩ := h
  obtain ⟨r', ho', hr'⟩ := h'
  refine ⟨_, ho.or ho', fun S H vs ds z Q p e q => ?_⟩
  have e : (g ds).or (g' ds) = some z := e
  cases hg : g ds with
  | some k =>
    rw [hg] at e
    cases e
    exact .inl (hr S H vs ds _ Q p hg q)
  | none =>
    rw [hg] at e
    exact .inr (hr' S H vs ds _ Q p e q)
def eBi (g : List D → Option Ret) (ga : EvA) : EvE := fun ρ => (ga ρ).bind fun rs => (g (rs.map (·.d))).map (res (rs.any (·.al)) (rs.any (·.vw)))
section
variable {X : Cx} {e : Expr} {es : List Expr} {ga : EvA} {fe fa fb : EvE} {p pos : Pos} {x : Str} {id T : String} {g : List D → Option Ret}
theorem bi_read {r : List V → Hp → VK → Prop} (hr : ∀ (S : Addr → Prop) (H : Hp) (vs : List V) (ds : List D) (z : Ret) (Q : VK), Rps X.K S H .shr vs ds [] → g ds = some z → Made X.K S H z Q → r vs H Q) {σ : St} {H : Hp} {Q : VK} (h : tE X.K (eBi g ga) σ H Q) : tA X.K ga σ H fun vs H1 => r vs H1 Q := by
  obtain ⟨N, H0, ρ, L, W, rr, sim, z, q⟩ := h
  unfold eBi at z
  obtain ⟨rs, e1, z⟩ := bind_some z
  obtain ⟨z', e2, z⟩ := Option.map_eq_some_iff.mp z
  subst z
  refine ⟨N, H0, ρ, L, W, rs, sim, e1, fun vs H1 T' s1 n1 d1 p1 => ?_⟩
  have hT : ∀ a ∈ T', N a ∧ a ∉ W := fun a m => ⟨sim.nw a (n1 a m), fun w => sim.th a w (n1 a m)⟩
  exact hr _ H1 vs _ z' Q (p1.give' hT (fun _ m => m) (fun r h => any_of (p := fun r : Rv => r.al) r h) (fun r h => any_of (p := fun r : Rv => r.vw) r h)) e2 fun v H2 F s2 n2 d2 p2 => q.res (s1.trans s2) (fun a m => s1.free (n2 a m)) d2 (fun a z => z) p2
theorem e_bi (ho : CallOk X (.builtin id) g) (hm : X.mg x = none) (hv : bootBuiltins x = some (.builtin id)) (ha : PAv X (e :: es) ga) (hg : Gl X x := by rfl) (hn : x ≠ "__name__" := by decide) (hdb : (x == ("__debug__" : Str)) = false := by decide)
    (he : starEach (e :: es) X.env = (false, eval e X.env) :: starEach es X.env := by rfl) (hpl : (backTo pos (starEach es X.env)).any (·.1) = false := by rfl) : PEv X (.Call (.Name x p) (e :: es) [] pos) (eBi g ga) := by
  obtain ⟨r, ho, hr⟩ := ho
  exact imp_e (pe_callB ho hg hm hv ha hn hdb he hpl) fun σ H Q h => bi_read hr h
theorem e_ty (ho : CallOk X (.type T) g) (hm : X.mg x = none) (hv : bootBuiltins x = some (.type T)) (ha : PAv X (e :: es) ga) (hg : Gl X x := by rfl) (hn : x ≠ "__name__" := by decide) (hdb : (x == ("__debug__" : Str)) = false := by decide)
    (he : starEach (e :: es) X.env = (false, eval e X.env) :: starEach es X.env := by rfl) (hpl : (backTo pos (starEach es X.env)).any (·.1) = false := by rfl) : PEv X (.Call (.Name x p) (e :: es) [] pos) (eBi g ga) := by
  obtain ⟨r, ho, hr⟩ := ho
  exact imp_e (pe_callTy ho hg hm hv ha hn hdb he hpl) fun σ H Q h => bi_read hr h
end
theorem Made.atom {K : PySem.W.Frag} {S : Addr → Prop} {H : Hp} {d : D} {l : Lv} {v : V} {Q : VK} (q : Made K S H (d, l) Q) (r : ∀ S, Rp K S H l v d []) : Q v H := q v H [] (Same.refl H) (fun _ z => nomatch z) .nil (r _)
theorem Made.lst {K : PySem.W.Frag} {S : Addr → Prop} {H : Hp} {ds : List D} {vs : List V} {Q : VK} (q : Made K S H (.lst ds, .top) Q) (r : Rps K S H .shr vs ds []) : ∀ p, H p = none → Q (.ref p) (upd H p (.lst vs)) := fun p np =>
  q _ _ [p] (same_upd np) (fun a m => List.mem_singleton.mp m ▸ np) nodup1 (.nd1 (fun z => nomatch z) .lst upd_same ((r.trk.same (same_upd np)).mono fun a z => ⟨z.1, fun m => z.2 (List.mem_singleton.mp m ▸ np)⟩))
theorem Rps.inv1 {K : PySem.W.Frag} {S : Addr → Prop} {H : Hp} {vs : List V} {d : D} (r : Rps K S H .shr vs [d] []) : ∃ v, vs = [v] ∧ Rp K S H .shr v d [] := by
  generalize hF : ([] : List Addr) = F at r
  cases r with
  | cons h1 h2 =>
    have e1 := h1.shr0
    subst e1
    cases h2
    exact ⟨_, rfl, h1⟩
theorem Rps.inv2 {K : PySem.W.Frag} {S : Addr → Prop} {H : Hp} {vs : List V} {d e : D} (r : Rps K S H .shr vs [d, e] []) : ∃ v w, vs = [v, w] ∧ Rp K S H .shr v d [] ∧ Rp K S H .shr w e [] := by
  generalize hF : ([] : List Addr) = F at r
  cases r with
  | cons h1 h2 =>
    have e1 := h1.shr0
    have e2 := h2.shr0
    subst e1 e2
    obtain ⟨w, rfl, h3⟩ := h2.inv1
    exact ⟨_, w, rfl, h1, h3⟩
theorem Rp.lst_shr {K : PySem.W.Frag} {S : Addr → Prop} {H : Hp} {v : V} {ds : List D} (r : Rp K S H .shr v (.lst ds) []) : ∃ a vs, v = .ref a ∧ H a = some (.lst vs) ∧ S a ∧ Rps K S H .shr vs ds [] := by
  cases r with
  | nd0 h h1 h2 h3 => cases h; exact ⟨_, _, rfl, h1.lst, h2, h3⟩
def itemsOf : D → Option (List D)
  | .lst ds => some ds
  | .fl ds => some ds
  | .tup ds => some ds
  | _ => none
theorem items_rp {K : PySem.W.Frag} {S : Addr → Prop} {H : Hp} {v : V} {d : D} {ds : List D} (r : Rp K S H .shr v d []) (h : itemsOf d = some ds) : ∃ a vs, v = .ref a ∧ (SqL K H a vs ∨ SqT K H a vs) ∧ Rps K S H .shr vs ds [] := by
  cases d with
  | lst xs => cases h; obtain ⟨a, vs, rfl, h1, _, h3⟩ := r.lst_shr; exact ⟨a, vs, rfl, .inl (SqL.of h1), h3⟩
  | fl xs => cases h; obtain ⟨a, vs, rfl, h1, h3, _⟩ := r.fl_inv; exact ⟨a, vs, rfl, .inl h1.sq, h3⟩
  | tup xs => cases h; obtain ⟨a, vs, rfl, h1, h3⟩ := r.tup_inv; exact ⟨a, vs, rfl, .inr (SqT.of h1), h3⟩
  | _ => cases h
def seqOf : D → Option (List D)
  | .lst ds => some ds
  | .fl ds => some ds
  | _ => none
theorem seq_rp {K : PySem.W.Frag} {S : Addr → Prop} {H : Hp} {v : V} {d : D} {ds : List D} (r : Rp K S H .shr v d []) (h : seqOf d = some ds) : ∃ a vs, v = .ref a ∧ SqL K H a vs ∧ Rps K S H .shr vs ds [] := by
  cases d with
  | lst xs => cases h; obtain ⟨a, vs, rfl, h1, _, h3⟩ := r.lst_shr; exact ⟨a, vs, rfl, SqL.of h1, h3⟩
  | fl xs => cases h; obtain ⟨a, vs, rfl, h1, h3, _⟩ := r.fl_inv; exact ⟨a, vs, rfl, h1.sq, h3⟩
  | _ => cases h
def bList : List D → Option Ret
  | [d] => (itemsOf d).map fun ds => (.lst ds, .top)
  | _ => none
def bMax2 : List D → Option Ret
  | [.int i, .int j] => some (.int (if j > i then j else i), .full)
  | _ => none
def bMin2 : List D → Option Ret
  | [.int i, .int j] => some (.int (if j < i then j else i), .full)
  | _ => none
def blOf : D → Option Bool
  | .bl b => some b
  | _ => none
def blsOf : List D → Option (List Bool)
  | [] => some []
  | d :: ds => (blOf d).bind fun i => (blsOf ds).map (i :: ·)
theorem blsOf_some : ∀ {ds : List D} {ns : List Bool}, blsOf ds = some ns → ds = ns.map .bl
  | [], _, h => by cases h; rfl
  | d :: ds, ns, h => by
    unfold blsOf at h
    obtain ⟨i, e1, h⟩ := bind_some h
    obtain ⟨m, e2, h⟩ := Option.map_eq_some_iff.mp h
    subst h
    rw [blsOf_some e2]
    cases d <;> first | (cases e1; rfl) | cases e1
def bAll : List D → Option Ret
  | [.lst ds] => (blsOf ds).map fun bs => (.bl (bs.all id), .full)
  | _ => none
def isort {α : Type} (lt : α → α → Bool) : List α → List α
  | [] => []
  | x :: xs => insF lt x (isort lt xs)
where insF {α : Type} (lt : α → α → Bool) (x : α) : List α → List α
  | [] => [x]
  | y :: ys => if lt y x = true then y :: insF lt x ys else x :: y :: ys
def rowOfD : D → Option (List Int)
  | .tup ds => intsOf ds
  | _ => none
def rowsOfL : List D → Option (List (List Int))
  | [] => some []
  | d :: ds => (rowOfD d).bind fun i => (rowsOfL ds).map (i :: ·)
def dRow (r : List Int) : D := .tup (r.map .int)
theorem rowsOfL_some : ∀ {ds : List D} {ns : List (List Int)}, rowsOfL ds = some ns → ds = ns.map dRow
  | [], _, h => by cases h; rfl
  | d :: ds, ns, h => by
    unfold rowsOfL at h
    obtain ⟨i, e1, h⟩ := bind_some h
    obtain ⟨m, e2, h⟩ := Option.map_eq_some_iff.mp h
    subst h
    rw [rowsOfL_some e2]
    cases d with
    | tup xs => rw [show xs = i.map .int from intsOf_some e1]; rfl
    | _ => cases e1
abbrev sortI (ns : List Int) : List Int := isort (fun a b => decide (a < b)) ns
abbrev sortR (rs : List (List Int)) : List (List Int) := isort HT.lexLt rs
def bSortedI : List D → Option Ret
  | [d] => ((seqOf d).bind intsOf).map fun ns => (.lst ((sortI ns).map .int), .top)
  | _ => none
def sameLen : List (List Int) → Bool
  | [] => true
  | r :: rs => decide (1 ≤ r.length) && rs.all fun q => decide (q.length = r.length)
def bSortedR : List D → Option Ret
  | [d] => (seqOf d).bind fun ds => (rowsOfL ds).bind fun rs => if sameLen rs = true then some (.lst ((sortR rs).map dRow), .top) else none
  | _ => none
section
open SrtO (Srtd Stb Swo)
theorem insF_perm {α : Type} {lt : α → α → Bool} (x : α) : ∀ l : List α, (isort.insF lt x l).Perm (x :: l)
  | [] => List.Perm.refl _
  | y :: ys => by
    unfold isort.insF
    split
    · exact ((insF_perm x ys).cons y).trans (List.Perm.swap x y ys)
    · exact List.Perm.refl _
theorem isort_perm {α : Type} {lt : α → α → Bool} : ∀ l : List α, (isort lt l).Perm l
  | [] => List.Perm.refl _
  | x :: xs => (insF_perm x _).trans ((isort_perm xs).cons x)
theorem insF_srtd {α : Type} {lt : α → α → Bool} (O : Swo lt) (x : α) : ∀ {l : List α}, Srtd lt l → Srtd lt (isort.insF lt x l)
  | [], _ => List.pairwise_singleton _ _
  | y :: ys, h => by
    unfold isort.insF
    have hh := List.pairwise_cons.mp h
    split
    · rename_i hy
      refine List.pairwise_cons.mpr ⟨fun z hz => ?_, insF_srtd O x hh.2⟩
      rcases List.mem_cons.mp ((insF_perm x ys).mem_iff.mp hz) with e | hz
      · rw [e]; exact O.asym _ _ hy
      · exact hh.1 z hz
    · rename_i hy
      have hy : lt y x = false := by simpa using hy
      refine List.pairwise_cons.mpr ⟨fun z hz => ?_, h⟩
      rcases List.mem_cons.mp hz with e | hz
      · rw [e]; exact hy
      · exact O.tr x y z hy (hh.1 z hz)
theorem isort_srtd {α : Type} {lt : α → α → Bool} (O : Swo lt) : ∀ l : List α, Srtd lt (isort lt l)
  | [] => List.Pairwise.nil
  | x :: xs => insF_srtd O x (isort_srtd O xs)
theorem insF_cls {α : Type} {lt : α → α → Bool} (O : Swo lt) (x z : α) : ∀ {l : List α}, Srtd lt l → (isort.insF lt x l).filter (SrtO.eqv lt z) = (x :: l).filter (SrtO.eqv lt z)
  | [], _ => rfl
  | y :: ys, h => by
    unfold isort.insF
    have hh := List.pairwise_cons.mp h
    split
    · rename_i hy
      have ih := insF_cls O x z hh.2
      have hxy : ¬ (SrtO.eqv lt z x = true ∧ SrtO.eqv lt z y = true) := fun ⟨a, b⟩ => by
        obtain ⟨a1, a2⟩ := SrtO.eqv_iff.mp a
        obtain ⟨b1, b2⟩ := SrtO.eqv_iff.mp b
        have := O.tr x z y a1 b2
        rw [hy] at this
        cases this
      rcases SrtO.bcase (SrtO.eqv lt z x) with q | q
      · have q' : SrtO.eqv lt z y = false := by
          rcases SrtO.bcase (SrtO.eqv lt z y) with p | p
          · exact absurd ⟨q, p⟩ hxy
          · exact p
        rw [List.filter_cons_of_neg (by rw [q']; decide), ih, List.filter_cons_of_pos q, List.filter_cons_of_pos q, List.filter_cons_of_neg (by rw [q']; decide)]
      · rw [List.filter_cons_of_neg (a := x) (by rw [q]; decide)] at ih
        rw [List.filter_cons_of_neg (a := x) (by rw [q]; decide)]
        rcases SrtO.bcase (SrtO.eqv lt z y) with p | p
        · rw [List.filter_cons_of_pos p, List.filter_cons_of_pos p, ih]
        · rw [List.filter_cons_of_neg (a := y) (by rw [p]; decide), List.filter_cons_of_neg (a := y) (by rw [p]; decide), ih]
    · rfl
theorem isort_stb {α : Type} {lt : α → α → Bool} (O : Swo lt) : ∀ l : List α, Stb lt (isort lt l) l
  | [] => Stb.refl []
  | x :: xs => by
    have ih := isort_stb O xs
    refine ⟨isort_perm _, fun z => ?_⟩
    show (isort.insF lt x (isort lt xs)).filter _ = _
    rw [insF_cls O x z (isort_srtd O xs)]
    rcases SrtO.bcase (SrtO.eqv lt z x) with q | q
    · rw [List.filter_cons_of_pos q, List.filter_cons_of_pos q, ih.cls z]
    · rw [List.filter_cons_of_neg (by rw [q]; decide), List.filter_cons_of_neg (by rw [q]; decide), ih.cls z]
theorem swo_int : Swo (fun a b : Int => decide (a < b)) := ⟨fun x y h => by
    have := of_decide_eq_true h
    exact decide_eq_false (by omega), fun x y z h1 h2 => by
    have h1 := of_decide_eq_false h1
    have h2 := of_decide_eq_false h2
    exact decide_eq_false (by omega)⟩
theorem stb_int {a b : List Int} (h : a.Perm b) : Stb (fun a b : Int => decide (a < b)) a b := by
  refine ⟨h, fun z => ?_⟩
  have e : ∀ l : List Int, l.filter (SrtO.eqv (fun a b : Int => decide (a < b)) z) = l.filter fun x => decide (x = z) := fun l => by
    congr 1
    funext x
    unfold SrtO.eqv
    by_cases q : x = z
    · subst q; simp
    · rw [decide_eq_false q]
      have : z < x ∨ x < z := by omega
      rcases this with t | t <;> simp [t]
  rw [e, e]
  have f : ∀ l : List Int, l.filter (fun x => decide (x = z)) = List.replicate (l.count z) z := fun l => by
    induction l with
    | nil => rfl
    | cons x l ih =>
      by_cases q : x = z
      · subst q; simp [ih, List.replicate_succ]
      · simp [q, ih, List.count_cons]
  rw [f, f, h.count_eq]
theorem sortI_uniq {a b : List Int} (h : a.Perm b) (hs : a.Pairwise (· ≤ ·)) : a = sortI b := by
  have s1 : Srtd (fun a b : Int => decide (a < b)) a := hs.imp fun {x y} h => decide_eq_false (by omega)
  exact SrtO.stb_uniq swo_int s1 (isort_srtd swo_int b) ⟨h.trans (isort_perm b).symm, fun z => ((stb_int h).cls z).trans ((isort_stb swo_int b).cls z).symm⟩
end
theorem Rps.mem {K : PySem.W.Frag} {S : Addr → Prop} {H : Hp} {rs : List (List Int)} : ∀ {vs : List V} {F : List Addr}, Rps K S H .shr vs (rs.map dRow) F → Paired (fun v r => ∃ a, v = V.ref a ∧ H a = some (.tup (r.map V.int))) vs rs := by
  induction rs with
  | nil => intro vs F h; cases h; exact .nil
  | cons r rs ih =>
    intro vs F h
    cases h with
    | cons h1 h2 =>
      obtain ⟨a, us, rfl, e, r1⟩ := Rp.tup_inv h1
      obtain ⟨rfl, _⟩ := r1.ints
      exact .cons ⟨a, rfl, e⟩ (ih h2)
def keyV (H : Hp) : V → List Int
  | .ref a => match H a with
    | some (.tup vs) => vs.filterMap fun v => match v with | .int i => some i | _ => none
    | _ => []
  | _ => []
theorem keyV_at {H : Hp} {a : Addr} {r : List Int} (h : H a = some (.tup (r.map V.int))) : keyV H (.ref a) = r := by
  unfold keyV
  simp only [h]
  rw [List.filterMap_map]
  exact List.filterMap_some
theorem paired_key {H : Hp} : ∀ {vs : List V} {rs : List (List Int)}, Paired (fun v r => ∃ a, v = V.ref a ∧ H a = some (.tup (r.map V.int))) vs rs → vs.map (keyV H) = rs ∧ ∀ v ∈ vs, ∃ a, v = V.ref a ∧ H a = some (.tup ((keyV H v).map V.int))
  | _, _, .nil => ⟨rfl, fun _ z => nomatch z⟩
  | _, _, .cons ⟨a, e, h⟩ t => by
    obtain ⟨i1, i2⟩ := paired_key t
    subst e
    refine ⟨by rw [List.map_cons, keyV_at h, i1], fun v hv => ?_⟩
    rcases List.mem_cons.mp hv with e | hv
    · rw [e, keyV_at h]; exact ⟨a, rfl, h⟩
    · exact i2 v hv
theorem sameLen_all {rs : List (List Int)} (h : sameLen rs = true) : ∃ d, 1 ≤ d ∧ ∀ r ∈ rs, r.length = d := by
  cases rs with
  | nil => exact ⟨1, Nat.le_refl _, fun _ z => nomatch z⟩
  | cons r rs =>
    unfold sameLen at h
    rw [Bool.and_eq_true, decide_eq_true_eq] at h
    refine ⟨r.length, h.1, fun q hq => ?_⟩
    rcases List.mem_cons.mp hq with e | hq
    · rw [e]
    · exact of_decide_eq_true (List.all_eq_true.mp h.2 q hq)
theorem rps_rows {K : PySem.W.Frag} {S : Addr → Prop} {H : Hp} : ∀ {vs : List V}, (∀ v ∈ vs, ∃ a, v = V.ref a ∧ H a = some (.tup ((keyV H v).map V.int))) → Rps K S H .shr vs ((vs.map (keyV H)).map dRow) []
  | [], _ => .nil
  | v :: vs, h => by
    obtain ⟨a, e, ha⟩ := h v List.mem_cons_self
    have r := rps_rows (K := K) (S := S) (vs := vs) fun u hu => h u (List.mem_cons_of_mem _ hu)
    refine Rps.cons (F := []) (G := []) ?_ r
    subst e
    refine .tup ha ?_
    generalize keyV H (V.ref a) = ns
    induction ns with
    | nil => exact .nil
    | cons n ns ih => exact Rps.cons (F := []) (G := []) .int ih
theorem rps_ints {K : PySem.W.Frag} {S : Addr → Prop} {H : Hp} {l : Lv} : ∀ ns : List Int, Rps K S H l (ns.map V.int) (ns.map .int) []
  | [] => .nil
  | n :: ns => Rps.cons (F := []) (G := []) .int (rps_ints ns)
section
variable {X : Cx}
theorem k_sortedI : CallOk X (.builtin "sorted") bSortedI := ⟨_, cr_sortedI, fun S H vs ds z Q r e q => by
  unfold bSortedI at e
  split at e
  · rename_i d
    obtain ⟨ns, e1, e⟩ := Option.map_eq_some_iff.mp e
    subst e
    obtain ⟨xs, e2, e3⟩ := bind_some e1
    obtain ⟨v, rfl, r1⟩ := r.inv1
    obtain ⟨a, us, rfl, h1, h2⟩ := seq_rp r1 e2
    rw [intsOf_some e3] at h2
    obtain ⟨rfl, _⟩ := h2.ints
    refine ⟨a, ns, rfl, h1, fun ns' p pm pw np => ?_⟩
    rw [sortI_uniq pm pw]
    exact q.lst (rps_ints _) p np
  · cases e⟩
theorem k_sortedR : CallOk X (.builtin "sorted") bSortedR := ⟨_, EvS.cr_sortedL, fun S H vs ds z Q r e q => by
  unfold bSortedR at e
  split at e
  · rename_i d
    obtain ⟨xs, e2, e⟩ := bind_some e
    obtain ⟨rs, e3, e⟩ := bind_some e
    split at e
    · rename_i hl
      cases e
      obtain ⟨v, rfl, r1⟩ := r.inv1
      obtain ⟨a, us, rfl, h1, h2⟩ := seq_rp r1 e2
      rw [rowsOfL_some e3] at h2
      obtain ⟨k1, k2⟩ := paired_key (Rps.mem h2)
      obtain ⟨d, hd, hlen⟩ := sameLen_all hl
      refine ⟨a, us, keyV H, d, hd, rfl, h1, fun x hx => ?_, fun ys p hs hb np => ?_⟩
      · obtain ⟨t, e, ht⟩ := k2 x hx
        exact ⟨t, e, ht, hlen _ (by rw [← k1]; exact List.mem_map_of_mem hx)⟩
      · have eo : ys.map (keyV H) = sortR rs := by
          refine SrtO.stb_uniq (EvS.swo_lex id) (SrtO.srtd_map hs) (isort_srtd (EvS.swo_lex id) rs) ?_
          have z1 := SrtO.Stb.map (EvS.swo_lex id) (keyV H) hb
          rw [k1] at z1
          have z2 := isort_stb (EvS.swo_lex (α := List Int) id) rs
          exact ⟨z1.perm.trans z2.perm.symm, fun x => (z1.cls x).trans (z2.cls x).symm⟩
        have hy : ∀ v ∈ ys, ∃ a, v = V.ref a ∧ H a = some (.tup ((keyV H v).map V.int)) := fun v hv => k2 v (hb.perm.mem_iff.mp hv)
        have z := rps_rows (K := X.K) (S := S) hy
        rw [eo] at z
        exact q.lst z p np
    · cases e
  · cases e⟩
def keysI : List (Key × D) → Option (List Int)
  | [] => some []
  | (.inl i, _) :: kd => (keysI kd).map (i :: ·)
  | (.inr _, _) :: _ => none
theorem keysI_some : ∀ {kd : List (Key × D)} {ks : List Int}, keysI kd = some ks → kd.map (·.1) = ks.map Sum.inl
  | [], _, h => by cases h; rfl
  | (.inl i, d) :: kd, ks, h => by
    unfold keysI at h
    obtain ⟨m, e, h⟩ := Option.map_eq_some_iff.mp h
    subst h
    rw [List.map_cons, keysI_some e]
    rfl
  | (.inr _, _) :: _, _, h => by cases h
def bSortedD : List D → Option Ret
  | [.dk kd] => (keysI kd).bind fun ks => if ks.length < 64 then some (.lst ((sortI ks).map .int), .top) else none
  | _ => none
theorem k_sortedD (hc : X.calm = true) : CallOk X (.builtin "sorted") bSortedD := ⟨_, call_sortedDI hc, fun S H vs ds z Q r e q => by
  unfold bSortedD at e
  split at e
  · rename_i kd
    obtain ⟨ks, e1, e⟩ := bind_some e
    split at e
    · rename_i hl
      cases e
      obtain ⟨v, rfl, r1⟩ := r.inv1
      obtain ⟨a, kv, G, rfl, h1, h2, _⟩ := r1.dk_inv
      refine ⟨a, kv, ks, rfl, h1, h2.trans (keysI_some e1), hl, fun ys p pm pw np => ?_⟩
      rw [sortI_uniq pm pw]
      exact q.lst (rps_ints _) p np
    · cases e
  · cases e⟩
abbrev bSorted : List D → Option Ret := fun ds => (bSortedD ds).or ((bSortedI ds).or (bSortedR ds))
theorem k_sorted (hc : X.calm = true) : CallOk X (.builtin "sorted") bSorted := (k_sortedD hc).or (k_sortedI.or k_sortedR)
theorem k_list : CallOk X (.type "list") bList := ⟨_, call_list_of, fun S H vs ds z Q r e q => by
  unfold bList at e
  split at e
  · rename_i d
    obtain ⟨xs, e2, e⟩ := Option.map_eq_some_iff.mp e
    subst e
    obtain ⟨v, rfl, r1⟩ := r.inv1
    obtain ⟨a, us, rfl, h1, h2⟩ := items_rp r1 e2
    exact ⟨a, us, rfl, h1, fun l nl => q.lst h2 l nl⟩
  · cases e⟩
theorem k_max2 (hc : X.calm = true) : CallOk X (.builtin "max") bMax2 := ⟨_, call_max2 hc, fun S H vs ds z Q r e q => by
  unfold bMax2 at e
  split at e
  · cases e
    obtain ⟨v, w, rfl, r1, r2⟩ := r.inv2
    obtain ⟨rfl, _⟩ := r1.int_inv
    obtain ⟨rfl, _⟩ := r2.int_inv
    exact ⟨_, _, rfl, q.atom fun _ => .int⟩
  · cases e⟩
theorem k_min2 (hc : X.calm = true) : CallOk X (.builtin "min") bMin2 := ⟨_, call_min2 hc, fun S H vs ds z Q r e q => by
  unfold bMin2 at e
  split at e
  · cases e
    obtain ⟨v, w, rfl, r1, r2⟩ := r.inv2
    obtain ⟨rfl, _⟩ := r1.int_inv
    obtain ⟨rfl, _⟩ := r2.int_inv
    exact ⟨_, _, rfl, q.atom fun _ => .int⟩
  · cases e⟩
theorem Rps.bls {K : PySem.W.Frag} {S : Addr → Prop} {H : Hp} {l : Lv} : ∀ {vs : List V} {ns : List Bool} {F : List Addr}, Rps K S H l vs (ns.map .bl) F → vs = ns.map V.bl
  | _, [], _, .nil => rfl
  | _, n :: ns, _, .cons h1 h2 => by
    obtain ⟨rfl, e1⟩ := Rp.bl_inv h1
    rw [Rps.bls h2]
    rfl
theorem k_all (hc : X.calm = true) : CallOk X (.builtin "all") bAll := ⟨_, cr_all hc, fun S H vs ds z Q r e q => by
  unfold bAll at e
  split at e
  · rename_i d
    obtain ⟨ns, e1, e⟩ := Option.map_eq_some_iff.mp e
    subst e
    obtain ⟨v, rfl, r1⟩ := r.inv1
    obtain ⟨a, us, rfl, h1, _, h2⟩ := r1.lst_shr
    rw [blsOf_some e1] at h2
    have := h2.bls
    subst this
    exact ⟨a, ns, rfl, SqL.of h1, q.atom fun _ => .bl⟩
  · cases e⟩
end
end Ev
set_option Elab.async false
set_option linter.all false
set_option maxRecDepth 100000
namespace Ev
open PySem PySem.Spec L2
open PyProof.Rows hiding St
section
variable {X : Cx} {e e2 o : Expr} {es : List Expr} {ga : EvA} {fe fa fb : EvE} {p pos apos cpos : Pos} {x : Str} {id T : String}
def MtOk (X : Cx) (T id : String) (g : D → List D → Option Ret) : Prop :=
  ∃ r : V → List V → Hp → VK → Prop, MtR X id r ∧ ∀ (S : Addr → Prop) (H : Hp) (v : V) (d : D) (vs : List V) (ds : List D) (z : Ret) (Q : VK), Rp X.K S H .shr v d [] → Rps X.K S H .shr vs ds [] → g d ds = some z → Made X.K S H z Q → r v vs H Q
def tyN : D → Option String
  | .non => some "NoneType" | .bl _ => some "bool" | .int _ => some "int" | .str _ => some "str"
  | .tup _ => some "tuple" | .lst _ => some "list" | .fl _ => some "list" | .dk _ => some "dict"
  | _ => none
def rcv : String → D → Bool
  | "list", .lst _ => true
  | "list", .fl _ => true
  | "str", .str _ => true
  | _, _ => false
theorem rcv_ty {K : PySem.W.Frag} {S : Addr → Prop} {H : Hp} {l : Lv} {v : V} {d : D} {F : List Addr} {T : String} (r : Rp K S H l v d F) (h : rcv T d = true) : tyV K T v H := by
  unfold rcv at h
  split at h
  · obtain ⟨a, vs, G, rfl, h1, _⟩ := r.lst_inv; exact .inl ⟨rfl, vs, SqL.of h1⟩
  · obtain ⟨a, vs, rfl, h1, _⟩ := r.fl_inv; exact .inl ⟨rfl, vs, h1.sq⟩
  · obtain ⟨rfl, _⟩ := r.str_inv; rfl
  · cases h
def eMt (T : String) (g : D → List D → Option Ret) (fo : EvE) (ga : EvA) : EvE := fun ρ => (fo ρ).bind fun x => if rcv T x.d = true then (ga ρ).bind fun rs => (g x.d (rs.map (·.d))).map (res (x.al || rs.any (·.al)) (x.vw || rs.any (·.vw))) else none
theorem mt_read {r : V → List V → Hp → VK → Prop} {g : D → List D → Option Ret} {fo : EvE} (hr : ∀ (S : Addr → Prop) (H : Hp) (v : V) (d : D) (vs : List V) (ds : List D) (z : Ret) (Q : VK), Rp X.K S H .shr v d [] → Rps X.K S H .shr vs ds [] → g d ds = some z → Made X.K S H z Q → r v vs H Q) {σ : St} {H : Hp} {Q : VK}
    (h : tE X.K (eMt T g fo ga) σ H Q) : tBM X.K T r (tE X.K fo) (tA X.K ga) σ H Q := by
  obtain ⟨N, H0, ρ, L, W, rr, sim, z, q⟩ := h
  unfold eMt at z
  obtain ⟨x, e0, z⟩ := bind_some z
  split at z
  · rename_i hT
    obtain ⟨rs, e1, z⟩ := bind_some z
    obtain ⟨z', e2, z⟩ := Option.map_eq_some_iff.mp z
    subst z
    refine one sim e0 fun v H1 F s1 n1 d1 p1 => ⟨rcv_ty p1 hT, ?_⟩
    refine ⟨N, H0, ρ, L, W ++ F, rs, sim.hold s1 n1 d1 p1.own_mut, e1, fun vs H2 T' s2 n2 d2 p2 => ?_⟩
    have hF : ∀ a ∈ F, N a ∧ a ∉ W := fun a m => ⟨sim.nw a (n1 a m), fun w => sim.th a w (n1 a m)⟩
    have hT' : ∀ a ∈ T', N a ∧ a ∉ W ++ F := fun a m => ⟨sim.nw a (s1.free (n2 a m)), fun w => (sim.hold s1 n1 d1 p1.own_mut).th a w (n2 a m)⟩
    have q1 : Rp X.K (SR N W (x.al || rs.any (·.al)) (x.vw || rs.any (·.vw))) H2 .shr v x.d [] := (p1.same s2).give (fun a z => ⟨z.1.1.up (fun e => by simp [e]), fun e => z.1.2 (by simp at e; exact e.1)⟩) fun a m => ⟨.new (hF a m).1, fun _ => (hF a m).2⟩
    have q2 := p2.give' (al := rs.any (·.al)) (vw := rs.any (·.vw)) hT' (fun _ m => m) (fun r h => any_of (p := fun r : Rv => r.al) r h) (fun r h => any_of (p := fun r : Rv => r.vw) r h)
    refine hr _ H2 v x.d vs _ z' Q q1 (q2.mono fun a z => ⟨z.1.up (fun e => by simp [e]), fun e m => z.2 (by simp only [Bool.or_eq_false_iff] at e; exact e.2) (List.mem_append_left _ m)⟩) e2 fun u H3 G s3 n3 d3 p3 => q.res (s1.trans (s2.trans s3)) (fun a m => s1.free (s2.free (n3 a m))) d3 (fun a z => z) p3
  · cases z
theorem e_mt {g : D → List D → Option Ret} {fo : EvE} (ho : MtOk X T id g) (pa : PlainAttrs T) (slot : Slot T x id) (hty : typeOf (.builtin id) = pure (.type "method_descriptor")) (hr : PEv X o fo) (ha : PAv X (e :: es) ga)
    (hbase : attributeBase o x X.env (eval o X.env) = eval o X.env := by rfl)
    (hfew : ((backTo cpos (starEach (e :: es) X.env)).all (fun x => !x.1) && (backToKw cpos (keywordEach [] X.env)).all (fun x => x.1.isSome)
      && decide ((e :: es).length + ([] : List Keyword).length + (if ([] : List Keyword).isEmpty then 0 else 1) < 30)) = true := by rfl)
    (hline : (apos.endLine == cpos.line) = true := by rfl) (hs : starEach (e :: es) X.env = (false, eval e X.env) :: starEach es X.env := by rfl) (hplain : (backTo cpos (starEach es X.env)).any (·.1) = false := by rfl) :
    PEv X (.Call (.Attribute o x apos) (e :: es) [] cpos) (eMt T g fo ga) := by
  obtain ⟨r, hm, hr'⟩ := ho
  exact imp_e (pe_bm pa slot hty hm hr ha hbase hfew hline hs hplain) fun σ H Q h => mt_read hr' h
def mIndex : D → List D → Option Ret
  | .lst ds, [d] => if (shp 8 d && shps 7 ds) = true then (ds.findIdx? fun z => deq z d).map fun j => (.int (j : Nat), .full) else none
  | _, _ => none
theorem m_index (hu : X.A.units + 65 < cLine) : MtOk X "list" "list.index" mIndex := ⟨_, mt_indexD hu, fun S H v d vs ds z Q r1 r2 e q => by
  unfold mIndex at e
  split at e
  · rename_i ds y
    split at e
    · rename_i hs
      rw [Bool.and_eq_true] at hs
      obtain ⟨j, ej, e⟩ := Option.map_eq_some_iff.mp e
      subst e
      obtain ⟨w, rfl, r3⟩ := r2.inv1
      obtain ⟨a, us, rfl, h1, _⟩ := r1.lst_shr
      have p3 := r1.dp (shp_lst hs.2)
      have s3 := shaped_of (shp_lst hs.2)
      simp only [pd] at p3 s3
      obtain ⟨hj, hp, hno⟩ := List.findIdx?_eq_some_iff_getElem.mp ej
      refine ⟨a, w, pd y, pds ds, j, pd ds[j], rfl, rfl, p3, r3.dp hs.1, s3, shaped_of hs.1, by rw [pds_map, List.getElem?_map, List.getElem?_eq_getElem hj]; rfl, hp, fun m z' hm hz => ?_, q.atom fun _ => .int⟩
      rw [pds_map, List.getElem?_map, List.getElem?_eq_getElem (by omega)] at hz
      cases hz
      have := hno m hm
      simpa [deq] using this
    · cases e
  · cases e⟩
def eIsi (T : String) (fe : EvE) : EvE := fun ρ => (fe ρ).bind fun x => (tyN x.d).bind fun tn => (kitB tn T).map rB
theorem ty_rp {K : PySem.W.Frag} {S : Addr → Prop} {H : Hp} {l : Lv} {v : V} {d : D} {F : List Addr} {tn : String} (r : Rp K S H l v d F) (h : tyN d = some tn) : TyX K H v (.type tn) := by
  cases d with
  | non => cases h; obtain ⟨rfl, _⟩ := r.non_inv; exact .base .non
  | bl b => cases h; obtain ⟨rfl, _⟩ := r.bl_inv; exact .base (.bl _)
  | int i => cases h; obtain ⟨rfl, _⟩ := r.int_inv; exact .base (.int _)
  | str x => cases h; obtain ⟨rfl, _⟩ := r.str_inv; exact .base (.str _)
  | tup ds => cases h; obtain ⟨a, vs, rfl, h1, _⟩ := r.tup_inv; exact .base (.tup h1)
  | lst ds => cases h; obtain ⟨a, vs, G, rfl, h1, _⟩ := r.lst_inv; exact .base (.lst h1)
  | fl ds =>
    cases h
    obtain ⟨a, vs, rfl, h1, _⟩ := r.fl_inv
    rcases h1 with ⟨o, h1⟩ | ⟨o, its, n, h1, h2, _⟩
    · exact .base (.frz h1)
    · exact .kList h1 h2
  | dk kd =>
    cases h
    obtain ⟨a, kv, G, rfl, h1, _⟩ := r.dk_inv
    rcases h1 with h1 | ⟨o, h1⟩
    · exact .base (.dK h1)
    · exact .fDict h1
  | _ => cases h
theorem e_isi {t : Str} {p1 p2 : Pos} (T : String) (hm : X.mg "isinstance" = none) (hmT : X.mg t = none) (hvT : bootBuiltins t = some (.type T)) (he : PEv X e fe) (hg : Gl X "isinstance" := by rfl) (hgT : Gl X t := by rfl) (hnT : t ≠ "__name__" := by decide) (hdT : (t == ("__debug__" : Str)) = false := by decide)
    (hs1 : starEach [e, .Name t p2] X.env = (false, eval e X.env) :: starEach [.Name t p2] X.env := by rfl) (hs2 : starEach [.Name t p2] X.env = (false, eval (.Name t p2) X.env) :: starEach [] X.env := by rfl)
    (hpl : (backTo pos (starEach [.Name t p2] X.env)).any (·.1) = false := by rfl) : PEv X (.Call (.Name "isinstance" p1) [e, .Name t p2] [] pos) (eIsi T fe) := by
  have hv : bootBuiltins "isinstance" = some (.builtin "isinstance") := PyProof.Rows.boot_isinstance
  refine imp_e (pe_callB call_isi hg hm hv (pa_cons he (pa_cons (pe_bltn (v := .ty T) hgT hmT hvT rfl hnT hdT) pa_nil hs2) hs1) (by decide) (by decide) hs1 hpl) fun σ H Q ⟨N, H0, ρ, L, W, rr, sim, z, q⟩ => ?_
  unfold eIsi at z
  obtain ⟨x, e1, z⟩ := bind_some z
  obtain ⟨tn, e2, z⟩ := bind_some z
  obtain ⟨b, e3, z⟩ := Option.map_eq_some_iff.mp z
  subst z
  refine one sim e1 fun v H1 F s1 n1 d1 p1 => ?_
  exact ⟨v, .ty T, .type tn, .type T, b, rfl, .ty T, ty_rp p1 e2, kit_ty e3, q.bl s1⟩
def cutL {α : Type} (xs : List α) (lo hi : Option Int) : List α := (xs.drop (HT.sIx xs.length 0 lo)).take (HT.sIx xs.length xs.length hi - HT.sIx xs.length 0 lo)
abbrev EvO := Env → Option (Option Int)
def oNone : EvO := fun _ => some none
def oSome (fe : EvE) : EvO := fun ρ => (fe ρ).bind fun x => (intOf x.d).map some
def tO (K : PySem.W.Frag) (f : EvO) : TO := fun σ H Q => ∃ N H0 ρ L W o, SimH K N H0 ρ σ H L W ∧ f ρ = some o ∧ ∀ H', Same H H' → Q o H'
abbrev POv (X : Cx) (e : Option Expr) (f : EvO) : Prop := PO X e (tO X.K f)
theorem imp_o {e : Option Expr} {t t' : TO} (h : PO X e t) (i : ∀ σ H Q, t' σ H Q → t σ H Q) : PO X e t' := ⟨fun p s σ H Q I w => h.run p s σ H Q I (i σ H Q w)⟩
theorem o_none : POv X none oNone := imp_o po_none fun σ H Q ⟨N, H0, ρ, L, W, k, sim, z, q⟩ => by cases z; exact q H (Same.refl H)
theorem o_some (he : PEv X e fe) : POv X (some e) (oSome fe) := imp_o (po_some he) fun σ H Q ⟨N, H0, ρ, L, W, k, sim, z, q⟩ => by
  unfold oSome at z
  obtain ⟨x, e1, z⟩ := bind_some z
  obtain ⟨i, e2, z⟩ := Option.map_eq_some_iff.mp z
  subst z
  refine one sim e1 fun v H1 F s1 n1 d1 p1 => ?_
  have : x.d = .int i := by
    cases q : x.d <;> rw [q] at e2 <;> first | (cases e2; rfl) | cases e2
  rw [this] at p1
  obtain ⟨rfl, _⟩ := p1.int_inv
  exact ⟨i, rfl, q H1 s1⟩
def cutD (d : D) (lo hi : Option Int) : Option Ret := match d with
  | .lst ds => some (.lst (cutL ds lo hi), .top)
  | .fl ds => some (.lst (cutL ds lo hi), .top)
  | .tup ds => if HT.sIx ds.length 0 lo = 0 ∧ HT.sIx ds.length ds.length hi = ds.length then none else some (.tup (cutL ds lo hi), .shr)
  | _ => none
def eSl (fe : EvE) (fl fh : EvO) : EvE := fun ρ => (fe ρ).bind fun x => (fl ρ).bind fun lo => (fh ρ).bind fun hi => (cutD x.d lo hi).map (res x.al x.vw)
theorem Rps.cut {K : PySem.W.Frag} {S : Addr → Prop} {H : Hp} {vs : List V} {ds : List D} (r : Rps K S H .shr vs ds []) (lo hi : Option Int) : Rps K S H .shr (cutV vs lo hi) (cutL ds lo hi) [] := by
  unfold cutV cutL
  rw [r.len]
  exact (r.drop _).take _
theorem e_sl {lo hi : Option Expr} {fl fh : EvO} {p2 : Pos} (he : PEv X e fe) (hl : POv X lo fl) (hh : POv X hi fh) : PEv X (.Subscript e (.Slice lo hi none p2) pos) (eSl fe fl fh) := by
  refine imp_e (pe_slice (sl_list.or sl_tup) he hl hh) fun σ H Q ⟨N, H0, ρ, L, W, rr, sim, z, q⟩ => ?_
  unfold eSl at z
  obtain ⟨x, e1, z⟩ := bind_some z
  obtain ⟨l, e2, z⟩ := bind_some z
  obtain ⟨h, e3, z⟩ := bind_some z
  obtain ⟨z', e4, z⟩ := Option.map_eq_some_iff.mp z
  subst z
  refine one sim e1 fun v H1 F s1 n1 d1 p1 => ⟨N, H0, ρ, L, W, l, sim.same s1, e2, fun H2 s2 => ⟨N, H0, ρ, L, W, h, (sim.same s1).same s2, e3, fun H3 s3 => ?_⟩⟩
  have hF : ∀ a ∈ F, N a ∧ a ∉ W := fun a m => ⟨sim.nw a (n1 a m), fun w => sim.th a w (n1 a m)⟩
  have s23 := s2.trans s3
  have s13 := s1.trans s23
  have r := (p1.same s23).give (S' := SR N W x.al x.vw) (fun a z => z.1) fun a m => ⟨.new (hF a m).1, fun _ => (hF a m).2⟩
  have fin : Made X.K (SR N W x.al x.vw) H3 z' Q := fun u H4 G s4 n4 d4 p4 => q.res (s13.trans s4) (fun a m => s13.free (n4 a m)) d4 (fun a z => z) p4
  unfold cutD at e4
  split at e4
  · rename_i ds hd
    cases e4
    rw [hd] at r
    obtain ⟨a, vs, rfl, h1, _, h3⟩ := r.lst_shr
    exact .inl ⟨a, vs, rfl, SqL.of h1, fun p np => fin.lst (h3.cut l h) p np⟩
  · rename_i ds hd
    cases e4
    rw [hd] at r
    obtain ⟨a, vs, rfl, h1, h3, _⟩ := r.fl_inv
    exact .inl ⟨a, vs, rfl, h1.sq, fun p np => fin.lst (h3.cut l h) p np⟩
  · rename_i ds hd
    split at e4
    · cases e4
    · rename_i hno
      cases e4
      rw [hd] at r
      obtain ⟨a, vs, rfl, h1, h3⟩ := r.tup_inv
      refine .inr ⟨a, vs, rfl, SqT.of h1, by rw [h3.len]; exact hno, fun p np => fin _ _ [] (same_upd np) (fun _ z => nomatch z) .nil (.tup upd_same (((h3.cut l h).same (same_upd np)).mono fun a z => ⟨z, fun m => nomatch m⟩))⟩
  · cases e4
theorem Rps.rev {K : PySem.W.Frag} {S : Addr → Prop} {H : Hp} : ∀ {vs : List V} {ds : List D} {F : List Addr}, Rps K S H .shr vs ds F → Rps K S H .shr vs.reverse ds.reverse []
  | _, _, _, .nil => .nil
  | _, _, _, .cons h1 h2 => by
    have e1 := h1.shr0
    subst e1
    rw [List.reverse_cons, List.reverse_cons]
    exact Rps.app (F := []) (G := []) (Rps.rev h2) (Rps.cons (F := []) (G := []) h1 .nil)
def eCat (fa fb : EvE) : EvE := fun ρ => (fa ρ).bind fun x => (fb ρ).bind fun y => match x.d, y.d with
  | .lst xs, .lst ys => if xs.length + ys.length ≤ 1000000 then some (res (x.al || y.al) (x.vw || y.vw) (.lst (xs ++ ys), .top)) else none
  | _, _ => none
def ePlus (fa fb : EvE) : EvE := fun ρ => (eAdd fa fb ρ).or (eCat fa fb ρ)
theorem mil {n : Nat} (h : n ≤ 1000000) : n ≤ sizeLine := Nat.le_trans h (by rw [sizeLine_eq]; decide)
theorem e_plus (ha : PEv X e fa) (hb : PEv X e2 fb) : PEv X (.BinOp e .Add e2 pos) (ePlus fa fb) := by
  refine imp_e (pe_op (op_add.or op_cat) ha hb) fun σ H Q ⟨N, H0, ρ, L, W, rr, sim, z, q⟩ => ?_
  unfold ePlus at z
  cases h1 : eAdd fa fb ρ with
  | some k =>
    rw [h1] at z
    cases z
    obtain ⟨x, y, i, j, e1, e2, d1, d2, hc, rfl⟩ := eOp_some h1
    refine two sim e1 e2 fun v w H2 F G s _ _ _ _ _ p1 p2 => ?_
    rw [d1] at p1
    rw [d2] at p2
    obtain ⟨rfl, _⟩ := p1.int_inv
    obtain ⟨rfl, _⟩ := p2.int_inv
    exact .inl ⟨i, j, rfl, rfl, q.int s⟩
  | none =>
    rw [h1] at z
    have z : eCat fa fb ρ = some rr := z
    unfold eCat at z
    obtain ⟨x, e1, z⟩ := bind_some z
    obtain ⟨y, e2, z⟩ := bind_some z
    split at z
    · rename_i xs ys hx hy
      split at z
      · rename_i hl
        cases z
        refine two sim e1 e2 fun v w H2 F G s n1 n2 _ _ _ p1 p2 => ?_
        have hF : ∀ a ∈ F, N a ∧ a ∉ W := fun a m => ⟨sim.nw a (n1 a m), fun w => sim.th a w (n1 a m)⟩
        have hG : ∀ a ∈ G, N a ∧ a ∉ W := fun a m => ⟨sim.nw a (n2 a m), fun w => sim.th a w (n2 a m)⟩
        have r1 := p1.give (S' := SR N W (x.al || y.al) (x.vw || y.vw)) (fun a z => ⟨z.1.1.up (fun e => by simp [e]), fun e => z.1.2 (by simp at e; exact e.1)⟩) fun a m => ⟨.new (hF a m).1, fun _ => (hF a m).2⟩
        have r2 := p2.give (S' := SR N W (x.al || y.al) (x.vw || y.vw)) (fun a z => ⟨z.1.1.up (fun e => by simp [e]), fun e m => z.1.2 (by simp at e; exact e.2) (List.mem_append_left _ m)⟩) fun a m => ⟨.new (hG a m).1, fun _ => (hG a m).2⟩
        rw [hx] at r1
        rw [hy] at r2
        obtain ⟨a, vs, rfl, h1, _, h3⟩ := r1.lst_shr
        obtain ⟨b, us, rfl, h4, _, h6⟩ := r2.lst_shr
        have fin : Made X.K (SR N W (x.al || y.al) (x.vw || y.vw)) H2 (.lst (xs ++ ys), .top) Q := fun u H4 G s4 n4 d4 p4 => q.res (s.trans s4) (fun a m => s.free (n4 a m)) d4 (fun a z => z) p4
        exact .inr ⟨a, b, vs, us, rfl, rfl, h1, h4, mil (by rw [h3.len, h6.len]; exact hl), fun p np => fin.lst (h3.app h6) p np⟩
      · cases z
    · cases z
theorem Rps.at_ {K : PySem.W.Frag} {S : Addr → Prop} {H : Hp} {vs : List V} {ds : List D} {i : Nat} {d : D} (r : Rps K S H .shr vs ds []) (h : ds[i]? = some d) : ∃ v, vs[i]? = some v ∧ Rp K S H .shr v d [] := by
  obtain ⟨v, G, e, rp, sub⟩ := r.get h
  have hG : G = [] := rp.shr0
  subst hG
  exact ⟨v, e, rp⟩
end
section
variable {K : PySem.W.Frag} {N : Nw} {H0 H H1 : Hp} {ρ : Env} {σ : St} {L : List Addr}
theorem Sim.mut {i : Nat} {s : Sv} (sim : Sim K N H0 ρ σ H L) (e : ρ[i]? = some (some s)) :
    ∃ v G, σ[i]? = some (some v) ∧ Rp K (SR N L s.al false) H s.l v s.d G ∧ G.Nodup ∧ (∀ b ∈ G, b ∈ L) ∧
      ∀ {H1 : Hp} {a : Addr} {o : HO} {s' : Sv} {G' T : List Addr}, Same H H1 → a ∈ G → Mut (some o) → (∀ b ∈ T, H b = none ∧ Mut (upd H1 a o b)) → (∀ b ∈ G', b ∈ G ∨ b ∈ T) → G'.Nodup → (s'.pn = s.pn ∨ s'.pn = none) →
        Rp K (fun b => AlN N s'.al b ∧ (b ∉ L ∨ b ∈ G) ∧ b ∉ T ∧ b ∉ G' ) (upd H1 a o) s'.l v s'.d G' →
        ∃ L', Sim K N H0 (ρ.set i (some s')) σ (upd H1 a o) L' ∧ Frm H L (upd H1 a o) L' := by
  obtain ⟨F1, G, F2, eL, get, p⟩ := sim.sl.at_ (List.getElem?_eq_some_iff.mp e).1
  obtain ⟨v, ev, hpn, rp⟩ := get s e
  have hnd := sim.nd
  rw [eL] at hnd
  have hG : ∀ b ∈ G, b ∈ L := fun b z => by rw [eL]; simp [z]
  have hnd' := hnd
  rw [List.nodup_append, List.nodup_append] at hnd
  obtain ⟨n1, ⟨n2, n3, n4⟩, n5⟩ := hnd
  have out : ∀ b ∈ G, b ∉ F1 ++ F2 := fun b hb z => by
    rcases List.mem_append.mp z with z | z
    · exact n5 b z b (by simp [hb]) rfl
    · exact n4 b hb b z rfl
  refine ⟨v, G, ev, rp, n2, hG, fun {H1 a o s' G' T} sm ha m hT hG' nG' hp' rp' => ?_⟩
  have hp2 : ∀ k, s'.pn = some k → v = .ref (N.p k) := fun k z => hp'.elim (fun y => hpn k (y ▸ z)) fun y => by rw [y] at z; cases z
  have haL := hG a ha
  have tr : H a ≠ none := sim.th a haL
  have sub : ∀ b, b ∈ F1 ++ (G' ++ F2) → b ∈ L ∨ H b = none := fun b z => by
    rw [eL]
    rcases List.mem_append.mp z with z | z
    · simp [z]
    · rcases List.mem_append.mp z with z | z
      · exact (hG' b z).elim (fun y => by simp [y]) fun y => .inr (hT b y).1
      · simp [z]
  have neq : ∀ b, b ∉ L → b ≠ a := fun b z y => z (y ▸ haL)
  have kp : ∀ al, Keeps (SR N L al false) (F1 ++ F2) H (upd H1 a o) := fun al b u eb nt q => by
    have : b ≠ a := fun y => by
      subst y
      rcases q with q | q | ⟨xs, rfl⟩ | ⟨o', u', rfl⟩
      · exact q.2 rfl haL
      · exact out b ha q
      · have := sim.mu b haL; rw [eb] at this; exact this
      · have := sim.mu b haL; rw [eb] at this; exact this
    rw [upd_ne this]
    exact sm.k b u eb nt
  have z := p (L1 := F1 ++ (G' ++ F2)) (H1 := upd H1 a o) (v := v) (s := s') (G' := G') kp (fun b z t w => (sub b w).elim z t) hp2 (rp'.mono fun b z => ⟨z.1, fun _ w => by
    rcases List.mem_append.mp w with w | w
    · rcases z.2.1 with y | y
      · exact y (by rw [eL]; simp [w])
      · exact out b y (by simp [w])
    · rcases List.mem_append.mp w with w | w
      · exact z.2.2.2 w
      · rcases z.2.1 with y | y
        · exact y (by rw [eL]; simp [w])
        · exact out b y (by simp [w])⟩)
  have eσ : σ.set i (some v) = σ := by
    obtain ⟨h1, h2⟩ := List.getElem?_eq_some_iff.mp ev
    rw [← h2, List.set_getElem_self]
  rw [eσ] at z
  refine ⟨F1 ++ (G' ++ F2), ⟨?_, fun b eb => ?_, ?_, fun b w => ?_, fun b w => ?_, z⟩, ⟨fun b u eb n nt => ?_, fun b eb => ?_, sub⟩⟩
  · obtain ⟨o0, e0, ne⟩ := rp.own_ne a ha
    exact (sim.kp.same sm).upd (sim.ln a haL) (sm.k a o0 e0 (ne_nt ne)) ne
  · by_cases y : b = a
    · rw [y]; exact sim.ln a haL
    · rw [upd_ne y] at eb; exact sim.nw b (sm.free eb)
  · rw [List.nodup_append, List.nodup_append]
    have inL : ∀ b, b ∈ F1 ∨ b ∈ F2 → H b ≠ none := fun b z => sim.th b (by rw [eL]; rcases z with z | z <;> simp [z])
    refine ⟨n1, ⟨nG', n3, fun b hb c hc y => ?_⟩, fun b hb c hc y => ?_⟩
    · subst y
      exact (hG' b hb).elim (fun y => out b y (by simp [hc])) fun y => inL b (.inr hc) (hT b y).1
    · subst y
      rcases List.mem_append.mp hc with hc | hc
      · exact (hG' b hc).elim (fun y => out b y (by simp [hb])) fun y => inL b (.inl hb) (hT b y).1
      · exact n5 b hb b (by simp [hc]) rfl
  · exact (sub b w).elim (sim.ln b) (sim.nw b)
  · by_cases y : b = a
    · rw [y, upd_same]; exact m
    · rw [upd_ne y]
      rcases List.mem_append.mp w with w | w
      · exact mut_same (sim.mu b (by rw [eL]; simp [w])) sm
      · rcases List.mem_append.mp w with w | w
        · rcases hG' b w with w | w
          · exact mut_same (sim.mu b (hG b w)) sm
          · have := (hT b w).2
            rw [upd_ne y] at this
            exact this
        · exact mut_same (sim.mu b (by rw [eL]; simp [w])) sm
  · rw [upd_ne (neq b n)]; exact sm.k b u eb nt
  · by_cases y : b = a
    · rw [y, upd_same] at eb; cases eb
    · rw [upd_ne y] at eb; exact .inl (sm.free eb)
end
end Ev
set_option Elab.async false
set_option linter.all false
set_option maxRecDepth 100000
namespace Ev
open PySem PySem.Spec L2
open PyProof.Rows hiding St
def keepLv (l l' : Lv) : Lv := if l = .full ∧ l' = .full then .full else .top
section
variable {K : PySem.W.Frag} {N : Nw} {H0 H H1 : Hp} {ρ : Env} {σ : St} {L : List Addr}
theorem Sim.relist {i : Nat} {sl : Lv} {sa : Bool} {sp : Option Nat} {ds : List D} (sim : Sim K N H0 ρ σ H L) (e : ρ[i]? = some (some ⟨.lst ds, sl, sa, sp⟩)) (hl : sl ≠ .shr) :
    ∃ a vs, σ[i]? = some (some (.ref a)) ∧ H a = some (.lst vs) ∧ vs.length = ds.length ∧
      ∀ {H1 : Hp} {us : List V} {rs : List Rv} {T : List Addr} {ws : List V} {es : List D} (pick : ∀ {S : Addr → Prop} {l : Lv} {F G : List Addr}, Rps K S H1 l vs ds F → Rps K S H1 l us (rs.map (·.d)) G → (F ++ G).Nodup → ∃ F', Rps K S H1 l ws es F' ∧ (∀ b ∈ F', b ∈ F ++ G) ∧ F'.Nodup),
        Same H H1 → (∀ b ∈ T, H b = none) → T.Nodup → RpL K N L T H1 us rs T → rs.all (fun r => !r.vw) = true →
        ∃ L', Sim K N H0 (ρ.set i (some ⟨.lst es, keepLv sl (if rs.all (fun r => !r.vw && decide (r.l = .full)) = true then .full else .top), sa || rs.any (·.al), sp⟩)) σ (upd H1 a (.lst ws)) L' ∧ Frm H L (upd H1 a (.lst ws)) L' := by
  obtain ⟨v, G, ev, rp, nG, hG, go⟩ := sim.mut e
  cases rp with
  | nd1 h0 hn ha r =>
    rename_i a o vs ds' F
    cases hn
    refine ⟨a, _, ev, ha, r.len, fun {H1 us rs T ws es} pick sm nT dT rl hvw => ?_⟩
    have hN : ∀ b ∈ a :: F, N b := fun b z => sim.ln b (hG b z)
    have aT : a ∉ T := fun z => by have := nT a z; rw [ha] at this; cases this
    have nFd := List.nodup_cons.mp nG
    have Tout : ∀ b ∈ T, b ∉ L := fun b z w => sim.th b w (nT b z)
    have trT : ∀ b ∈ T, Mut (H1 b) := by
      have : ∀ {vs : List V} {rs : List Rv} {F : List Addr}, RpL K N L T H1 vs rs F → ∀ a ∈ F, Mut (H1 a) := by
        intro vs rs F h
        induction h with
        | nil => exact fun _ z => nomatch z
        | cons h1 h2 ih => exact fun a z => (List.mem_append.mp z).elim (h1.own_mut a) (ih a)
      exact this rl
    have updH : ∀ {S : Addr → Prop} {l : Lv} {ws : List V} {es : List D} {F' : List Addr}, Rps K S H1 l ws es F' → (∀ b, S b → b ≠ a) → a ∉ F' → Rps K S (upd H1 a (.lst ws)) l ws es F' := fun r hS hF => r.keep fun b u eb _ q => by
      have : b ≠ a := fun y => by
        subst y
        have e1 := sm.k _ _ ha trivial
        rcases q with q | q | ⟨xs, rfl⟩ | ⟨o', u', rfl⟩
        · exact hS _ q rfl
        · exact hF q
        · rw [e1] at eb; cases eb
        · rw [e1] at eb; cases eb
      rw [upd_ne this]
      exact eb
    by_cases hk : sl = .full ∧ rs.all (fun r => !r.vw && decide (r.l = .full)) = true
    · have hk2 : keepLv sl (if rs.all (fun r => !r.vw && decide (r.l = .full)) = true then .full else .top) = .full := by
        unfold keepLv
        rw [if_pos ⟨hk.1, if_pos hk.2⟩]
      rw [hk2]
      rw [hk.1] at r
      have r1 : Rps K (fun b => AlN N (sa || rs.any (·.al)) b ∧ (b ∉ L ∨ b ∈ a :: F) ∧ b ∉ T ∧ b ∉ a :: F) H1 .full _ ds F := ((r.trk.same sm).mono fun b z => ⟨z.1.1.up (fun e => by have e : sa = true := e; rw [e]; rfl), .inl (z.1.2 rfl), fun w => z.2 (nT b w), fun w => z.1.2 rfl (hG b w)⟩)
      have r2 : Rps K (fun b => AlN N (sa || rs.any (·.al)) b ∧ (b ∉ L ∨ b ∈ a :: F) ∧ b ∉ T ∧ b ∉ a :: F) H1 .full us (rs.map (·.d)) T := (rl.full (al := rs.any (·.al)) hk.2 al_any).mono fun b z => ⟨z.1.1.up (fun e => by rw [e]; cases sa <;> rfl), .inl (z.1.2 rfl), z.2, fun w => z.1.2 rfl (hG b w)⟩
      have dFT : (F ++ T).Nodup := by
        rw [List.nodup_append]
        exact ⟨nFd.2, dT, fun b hb c hc y => Tout c hc (y ▸ hG b (List.mem_cons_of_mem _ hb))⟩
      obtain ⟨F', r3, sub, nF'⟩ := pick r1 r2 dFT
      have aF' : a ∉ F' := fun z => (List.mem_append.mp (sub a z)).elim nFd.1 aT
      exact go (s' := ⟨_, _, _, sp⟩) (G' := a :: F') (T := T) sm List.mem_cons_self trivial (fun b z => ⟨nT b z, by rw [upd_ne (fun y => aT (by rw [← y]; exact z))]; exact trT b z⟩) (fun b z => (List.mem_cons.mp z).elim (fun y => .inl (by rw [y]; exact List.mem_cons_self)) fun z => (List.mem_append.mp (sub b z)).imp (List.mem_cons_of_mem _) id) (List.nodup_cons.mpr ⟨aF', nF'⟩) (.inl rfl)
        (.nd1 (fun z => nomatch z) .lst upd_same ((updH r3 (fun b z y => z.2.2.2 (by rw [y]; exact List.mem_cons_self)) aF').mono fun b z => ⟨z.1, z.2.1, z.2.2.1, fun w => (List.mem_cons.mp w).elim (fun y => z.2.2.2 (by rw [y]; exact List.mem_cons_self)) fun w => (List.mem_append.mp (sub b w)).elim (fun w => z.2.2.2 (List.mem_cons_of_mem _ w)) z.2.2.1⟩))
    · have hk2 : keepLv sl (if rs.all (fun r => !r.vw && decide (r.l = .full)) = true then .full else .top) = .top := by
        unfold keepLv
        refine if_neg fun z => hk ⟨z.1, ?_⟩
        by_cases q : rs.all (fun r => !r.vw && decide (r.l = .full)) = true
        · exact q
        · rw [if_neg q] at z; exact absurd z.2 (fun z => nomatch z)
      rw [hk2]
      have r1 : Rps K (fun b => AlN N (sa || rs.any (·.al)) b ∧ (b ∉ L ∨ b ∈ a :: F) ∧ b ≠ a) H1 .shr _ ds [] := (r.trk.same sm).give (fun b z => ⟨z.1.1.up (fun e => by have e : sa = true := e; rw [e]; rfl), .inl (z.1.2 rfl), fun y => z.1.2 rfl (by rw [y]; exact hG a List.mem_cons_self)⟩) fun b z => ⟨.new (hN b (List.mem_cons_of_mem _ z)), .inr (List.mem_cons_of_mem _ z), fun y => nFd.1 (y ▸ z)⟩
      have r2 : Rps K (fun b => AlN N (sa || rs.any (·.al)) b ∧ (b ∉ L ∨ b ∈ a :: F) ∧ b ≠ a) H1 .shr us (rs.map (·.d)) [] := (rl.give (al := rs.any (·.al)) (fun b z => ⟨sim.nw b (nT b z), Tout b z⟩) (fun _ z => z) hvw al_any).mono fun b z => ⟨z.1.up (fun e => by rw [e]; cases sa <;> rfl), .inl (z.2 rfl), fun y => z.2 rfl (by rw [y]; exact hG a List.mem_cons_self)⟩
      obtain ⟨F', r3, sub, nF'⟩ := pick r1 r2 .nil
      have e3 := r3.shr0
      subst e3
      exact go (s' := ⟨_, _, _, sp⟩) (G' := [a]) (T := []) sm List.mem_cons_self trivial (fun _ z => nomatch z) (fun b z => .inl (by rw [List.mem_singleton.mp z]; exact List.mem_cons_self)) nodup1 (.inl rfl)
        (.nd1 (fun z => nomatch z) .lst upd_same ((updH r3 (fun b z y => z.2.2 y) (fun z => nomatch z)).mono fun b z => ⟨z.1, z.2.1, (fun w => nomatch w), fun w => z.2.2 (List.mem_singleton.mp w)⟩))
  | nd0 hn h1 h2 h3 => exact absurd rfl hl
end
abbrev LOp := ∀ {α : Type}, (α → Option Int) → List α → List α → Option (List α)
def sLop (f : LOp) (fz : List Nat) (i : Nat) (ga : EvA) : EvS := fun ρ => match (frzs fz ρ)[i]? with
  | some (some s) => match s.d with
    | .lst ds => if decide (s.l = .shr) || decide (1000000 < ds.length) then none else (ga (frzs fz ρ)).bind fun rs => if rs.all (fun r => !r.vw) = true then (f intOf ds (rs.map (·.d))).map fun es => .nx ((frzs fz ρ).set i (some ⟨.lst es, keepLv s.l (if rs.all (fun r => !r.vw && decide (r.l = .full)) = true then .full else .top), s.al || rs.any (·.al), s.pn⟩)) else none
    | _ => none
  | _ => none
def intV : V → Option Int
  | .int i => some i
  | _ => none
structure LopOk (X : Cx) (id : String) (f : LOp) : Prop where
  ok : ∃ r : V → List V → Hp → VK → Prop, MtR X id r ∧ ∀ (H : Hp) (a : Addr) (vs us ws : List V) (Q : VK), H a = some (.lst vs) → vs.length ≤ 1000000 → f intV vs us = some ws → Q .non (upd H a (.lst ws)) → r (.ref a) us H Q
  pick : ∀ {K : PySem.W.Frag} {S : Addr → Prop} {H : Hp} {l : Lv} {vs us : List V} {ds es zs : List D} {F G : List Addr}, Rps K S H l vs ds F → Rps K S H l us es G → (F ++ G).Nodup → f intOf ds es = some zs → ∃ ws F', f intV vs us = some ws ∧ Rps K S H l ws zs F' ∧ (∀ b ∈ F', b ∈ F ++ G) ∧ F'.Nodup
section
variable {X : Cx} {e o : Expr} {es : List Expr} {ga : EvA} {fe fa fb : EvE} {pos apos cpos npos : Pos} {x m : Str} {id : String} {f : LOp}
theorem s_lop (fz : List Nat) (i : Nat) (hf : LopOk X id f) (slot : Slot "list" m id) (hty : typeOf (.builtin id) = pure (.type "method_descriptor")) (ha : PAv X (e :: es) ga)
    (hN : X.N[i]? = some x := by rfl) (hv : Vis X.env.scope x := by first | exact Or.inl rfl | exact Or.inr (Or.inl rfl) | exact Or.inr (Or.inr rfl)) (hd : (x == ("__debug__" : Str)) = false := by decide) (hcd : (x == ("__classdict__" : Str)) = false := by decide)
    (hsw : swapsWith (.Call (.Attribute (.Name x npos) m apos) (e :: es) [] cpos) none pos.line X.env = pure false := by rfl)
    (hbase : attributeBase (.Name x npos) m X.env (eval (.Name x npos) X.env) = eval (.Name x npos) X.env := by rfl)
    (hfew : ((backTo cpos (starEach (e :: es) X.env)).all (fun x => !x.1) && (backToKw cpos (keywordEach [] X.env)).all (fun x => x.1.isSome)
      && decide ((e :: es).length + ([] : List Keyword).length + (if ([] : List Keyword).isEmpty then 0 else 1) < 30)) = true := by rfl)
    (hline : (apos.endLine == cpos.line) = true := by rfl) (hs : starEach (e :: es) X.env = (false, eval e X.env) :: starEach es X.env := by rfl) (hplain : (backTo cpos (starEach es X.env)).any (·.1) = false := by rfl) :
    PSv X (.Expr (.Call (.Attribute (.Name x npos) m apos) (e :: es) [] cpos) pos) (sLop f fz i ga) := by
  obtain ⟨r, hm, hr⟩ := hf.ok
  refine imp_s (ps_expr (pe_bm PySem.F.plainAttrs_list slot hty hm (pe_var hN hv hd hcd) ha hbase hfew hline hs hplain) hsw) fun D σ H ⟨N, H0, ρ, L0, o, sim0, z, q0⟩ => ?_
  unfold sLop at z
  obtain ⟨L, sim, subL⟩ := sim0.frzs fz
  have q := q0.at_ (H1 := H) (L1 := L) ⟨fun _ _ e _ _ => e, fun _ e => .inl e, fun b z => .inl (subL b z)⟩
  split at z
  · rename_i s es
    split at z
    · rename_i ds hd
      split at z
      · cases z
      · rename_i hc
        obtain ⟨sd, sl, sa, sp⟩ := s
        cases hd
        simp only [Bool.or_eq_true, decide_eq_true_eq, not_or, Nat.not_lt] at hc
        obtain ⟨rs, e1, z⟩ := bind_some z
        split at z
        · rename_i hvw
          obtain ⟨zs, e2, z⟩ := Option.map_eq_some_iff.mp z
          subst z
          obtain ⟨a, vs, ev, ha', hlen, go⟩ := sim.relist es hc.1
          refine ⟨.ref a, ev, .inl ⟨rfl, vs, SqL.of ha'⟩, N, H0, _, L, L, rs, sim.h, e1, fun us H1 T s1 n1 d1 p1 => ?_⟩
          obtain ⟨v, G, ev', rp, _⟩ := sim.sl.get es
          rw [ev] at ev'
          cases ev'
          obtain ⟨a', vs', G1, e3, h1, r1, _⟩ := rp.lst_inv
          cases e3
          rw [ha'] at h1
          cases h1
          have look1 := (r1.same s1).give (S' := fun _ => True) (fun _ _ => trivial) fun _ _ => trivial
          obtain ⟨ws, _, ew, _⟩ := hf.pick look1 p1.look .nil e2
          refine hr H1 a _ us ws _ (s1.k a _ ha' trivial) (by rw [hlen]; exact hc.2) ew ?_
          obtain ⟨L', sim', fr⟩ := go (ws := ws) (es := zs) (fun q1 q2 q3 => by
            obtain ⟨ws', F', e4, r4, sub, nd⟩ := hf.pick q1 q2 q3 e2
            rw [ew] at e4
            cases e4
            exact ⟨F', r4, sub, nd⟩) s1 n1 d1 p1 hvw
          exact q _ _ L' sim' fr
        · cases z
    · cases z
  · cases z
def oApp : LOp := fun _ xs ys => match ys with
  | [y] => some (xs ++ [y])
  | _ => none
theorem mem_nodup {F G : List Addr} (h : (F ++ G).Nodup) : (∀ b ∈ F ++ G, b ∈ F ++ G) ∧ (F ++ G).Nodup := ⟨fun _ z => z, h⟩
theorem l_app : LopOk X "list.append" oApp where
  ok := ⟨_, mt_append, fun H a vs us ws Q h1 h2 h3 q => by
    unfold oApp at h3
    split at h3
    · cases h3
      exact ⟨a, vs, _, rfl, rfl, h1, Nat.lt_of_le_of_lt h2 (by rw [sizeLine_eq]; decide), q⟩
    · cases h3⟩
  pick := fun {K S H l vs us ds es zs F G} r1 r2 nd e => by
    unfold oApp at e
    split at e
    · rename_i y
      cases e
      cases r2 with
      | cons h1 h2 =>
        cases h2
        exact ⟨_, _, rfl, r1.app (.cons h1 .nil), fun _ z => z, nd⟩
    · cases e
end
end Ev
set_option Elab.async false
set_option linter.all false
set_option maxRecDepth 100000
namespace Ev
open PySem PySem.Spec L2
open PyProof.Rows hiding St
structure Blts (mg : Str → Option Value) : Prop where
  len : mg "len" = none
  min : mg "min" = none
  max : mg "max" = none
  sum : mg "sum" = none
  sorted : mg "sorted" = none
  list : mg "list" = none
  range : mg "range" = none
  zip : mg "zip" = none
  enumerate : mg "enumerate" = none
  abs : mg "abs" = none
  int : mg "int" = none
  isinstance : mg "isinstance" = none
  bool : mg "bool" = none
  tuple : mg "tuple" = none
  str : mg "str" = none
  set : mg "set" = none
  all : mg "all" = none
  any : mg "any" = none
  reversed : mg "reversed" = none
  dict : mg "dict" = none
theorem bt_bool : bootBuiltins "bool" = some (.type "bool") := by decide +kernel
section
variable {X : Cx} {e e2 : Expr} {fe fa fb : EvE} {pos pos' : Pos} {x : Str}
theorem x_eq (hu : X.A.units + 65 < cLine) : CmpOk X .Eq gEq := c_eq (by omega)
theorem x_ne (hu : X.A.units + 65 < cLine) : CmpOk X .NotEq gNe := c_ne (by omega)
theorem x_lt (hu : X.A.units + 65 < cLine) : CmpOk X .Lt gLt := c_lt (by omega)
theorem x_le (hu : X.A.units + 65 < cLine) : CmpOk X .LtE gLe := c_le (by omega)
theorem x_ge (hu : X.A.units + 65 < cLine) : CmpOk X .GtE gGe := c_ge (by omega)
theorem x_gt (hu : X.A.units + 65 < cLine) : CmpOk X .Gt gGt := c_gt
theorem x_in (hu : X.A.units + 65 < cLine) : CmpOk X .In gIn := c_in hu
theorem x_nin (hu : X.A.units + 65 < cLine) : CmpOk X .NotIn gNin := c_nin hu
theorem x_ix (hu : X.A.units + 65 < cLine) (ha : PEv X e fa) (hb : PEv X e2 fb) (hs : PlainIx e2 := by exact fun _ _ => rfl) : PEv X (.Subscript e e2 pos) (eIx fa fb) := e_ix (by omega) ha hb hs
end
def eDt : EvE := fun _ => some ⟨.dt [], .full, false, false⟩
theorem len1 {f : EvE} : ∀ ρ rs, aCons f aNil ρ = some rs → rs.length = 1 := aCons_len fun _ _ h => aNil_len h
theorem len2 {f g : EvE} : ∀ ρ rs, aCons f (aCons g aNil) ρ = some rs → rs.length = 2 := aCons_len len1
theorem len3 {f g h : EvE} : ∀ ρ rs, aCons f (aCons g (aCons h aNil)) ρ = some rs → rs.length = 3 := aCons_len len2
theorem hu_room {k : Nat} {A : Around} (hr : Room k A) : A.units + 65 < cLine := by have := hr.un; omega
theorem fnD_of {P : Program} {w : World} {K : PySem.W.Frag} {mg : Str → Option Value} {base : Heap} {k n : Nat} {x : Str} {φ : List D → Option RetD} {f : Addr} {fd : FuncData} {ps : List Str} (F : FnOk P w K mg base CX0 k f fd ps (spD K n φ)) (hm : mg x = some (.ref f)) (hk : PySem.W.keepIn K (.ref f) = true) (hb : Binds K fd ps []) : FnD P w K mg base k x n φ := ⟨f, fd, ps, F, hm, hk, hb⟩
end Ev
set_option Elab.async false
set_option linter.all false
set_option maxRecDepth 100000
namespace Ev
open PySem PySem.Spec L2
open PyProof.Rows hiding St
end Ev
set_option Elab.async false
set_option linter.all false
set_option maxRecDepth 100000
namespace Ev
open PySem PySem.Spec L2
open PyProof.Rows hiding St
section
variable {X : Cx} {st : Stmt} {f : EvS}
def sFz (z : List Nat) (f : EvS) : EvS := fun ρ => f (frzs z ρ)
theorem s_fz (z : List Nat) (h : PSv X st f) : PSv X st (sFz z f) := imp_s h fun D σ H ⟨N, H0, ρ, L, o, sim, e, q⟩ => by
  obtain ⟨L1, sim1, sub⟩ := sim.frzs z
  exact ⟨N, H0, frzs z ρ, L1, o, sim1, e, q.at_ (Frm.same (Same.refl H) fun b w => .inl (sub b w))⟩
end
end Ev
set_option Elab.async false
set_option linter.all false
set_option maxRecDepth 100000
namespace Ev
open PySem PySem.Spec L2
open PyProof.Rows hiding St
def dInts (ns : List Int) : List D := ns.map .int
@[simp] theorem map_int (ns : List Int) : ns.map D.int = dInts ns := rfl
def dPair (p : Int × Int) : D := .tup [.int p.1, .int p.2]
@[simp] theorem dInts_nil : dInts [] = [] := rfl
@[simp] theorem dInts_cons (n : Int) (ns : List Int) : dInts (n :: ns) = .int n :: dInts ns := rfl
@[simp] theorem dInts_len (ns : List Int) : (dInts ns).length = ns.length := List.length_map _
@[simp] theorem intsOf_d (ns : List Int) : intsOf (dInts ns) = some ns := intsOf_map ns
@[simp] theorem immAll_ints (ns : List Int) : immAll (dInts ns) = true := by
  induction ns with
  | nil => rfl
  | cons n ns ih => rw [dInts_cons, immAll, ih]; rfl
@[simp] theorem shps_ints (k : Nat) (ns : List Int) : shps k (dInts ns) = true := by
  induction ns with
  | nil => rfl
  | cons n ns ih => rw [dInts_cons, shps, ih]; simp [shp]
@[simp] theorem imm_pair (p : Int × Int) : imm (dPair p) = true := rfl
@[simp] theorem immAll_pairs (ps : List (Int × Int)) : immAll (ps.map dPair) = true := by
  induction ps with
  | nil => rfl
  | cons n ns ih => rw [List.map_cons, immAll, ih]; rfl
@[simp] theorem shp_pair (k : Nat) (p : Int × Int) : shp (k + 1) (dPair p) = true := by simp [dPair, shp, shps]
@[simp] theorem shps_pairs (k : Nat) (ps : List (Int × Int)) : shps (k + 1) (ps.map dPair) = true := by
  induction ps with
  | nil => rfl
  | cons n ns ih => rw [List.map_cons, shps, ih, shp_pair]; rfl
@[simp] theorem shps_pairs7 (ps : List (Int × Int)) : shps 7 (ps.map dPair) = true := shps_pairs 6 ps
theorem eqv_ints : ∀ a b : List Int, PyData.eqvAll (pds (dInts a)) (pds (dInts b)) = decide (a = b)
  | [], [] => by simp [pds, PyData.eqvAll]
  | [], _ :: _ => by simp [pds, PyData.eqvAll]
  | _ :: _, [] => by simp [pds, PyData.eqvAll]
  | x :: a, y :: b => by
    simp only [dInts_cons, pds, pd, PyData.eqvAll, PyData.eqv, eqv_ints a b]
    by_cases h : x = y <;> simp [h]
@[simp] theorem deq_int (a b : Int) : deq (.int a) (.int b) = decide (a = b) := by
  unfold deq
  simp only [pd, PyData.eqv]
  by_cases h : a = b <;> simp [h]
@[simp] theorem deq_ints (a b : List Int) : deq (.lst (dInts a)) (.lst (dInts b)) = decide (a = b) := by
  unfold deq
  simp only [pd, PyData.eqv]
  exact eqv_ints a b
@[simp] theorem deq_pair (p q : Int × Int) : deq (dPair p) (dPair q) = decide (p = q) := by
  unfold deq dPair
  simp only [pd, pds, PyData.eqv, PyData.eqvAll]
  obtain ⟨a, b⟩ := p
  obtain ⟨c, d⟩ := q
  by_cases h : a = c <;> by_cases h2 : b = d <;> simp [h, h2]
theorem eqv_pairs : ∀ a b : List (Int × Int), PyData.eqvAll (pds (a.map dPair)) (pds (b.map dPair)) = decide (a = b)
  | [], [] => by simp [pds, PyData.eqvAll]
  | [], _ :: _ => by simp [pds, PyData.eqvAll]
  | _ :: _, [] => by simp [pds, PyData.eqvAll]
  | x :: a, y :: b => by
    have h := deq_pair x y
    unfold deq at h
    simp only [List.map_cons, pds, PyData.eqvAll, eqv_pairs a b, h]
    by_cases h : x = y <;> simp [h]
@[simp] theorem deq_pairs (a b : List (Int × Int)) : deq (.lst (a.map dPair)) (.lst (b.map dPair)) = decide (a = b) := by
  unfold deq
  simp only [pd, PyData.eqv]
  exact eqv_pairs a b
theorem ins_map {α β : Type} (f : α → β) (lt : β → β → Bool) (x : α) : ∀ l : List α, isort.insF lt (f x) (l.map f) = (isort.insF (fun a b => lt (f a) (f b)) x l).map f
  | [] => rfl
  | y :: ys => by
    rw [List.map_cons]
    unfold isort.insF
    by_cases h : lt (f y) (f x) = true
    · rw [if_pos h, if_pos h, ins_map f lt x ys, List.map_cons]
    · rw [if_neg h, if_neg h, List.map_cons, List.map_cons]
theorem isort_map {α β : Type} (f : α → β) (lt : β → β → Bool) : ∀ l : List α, isort lt (l.map f) = (isort (fun a b => lt (f a) (f b)) l).map f
  | [] => rfl
  | x :: l => by
    rw [List.map_cons]
    show isort.insF lt (f x) (isort lt (l.map f)) = _
    rw [isort_map f lt l, ins_map]
    rfl
theorem bSorted_ints (ns : List Int) : bSorted [.lst (dInts ns)] = some (.lst (dInts (sortI ns)), .top) := by
  show (bSortedI [.lst (dInts ns)]).or _ = _
  have : bSortedI [.lst (dInts ns)] = some (.lst (dInts (sortI ns)), .top) := by
    unfold bSortedI
    simp only [seqOf, Option.bind_some, intsOf_d, Option.map_some]
    rfl
  rw [this]
  rfl
@[simp] theorem any_ints (ns : List Int) (a : Int) : ((dInts ns).any fun z => deq z (.int a)) = decide (a ∈ ns) := by
  induction ns with
  | nil => simp
  | cons n ns ih =>
    rw [dInts_cons, List.any_cons, ih, deq_int]
    by_cases h : n = a
    · simp [h]
    · simp [h]; exact fun z => absurd z.symm h
@[simp] theorem any_pairs (ns : List (Int × Int)) (a : Int × Int) : ((ns.map dPair).any fun z => deq z (dPair a)) = decide (a ∈ ns) := by
  induction ns with
  | nil => simp
  | cons n ns ih =>
    rw [List.map_cons, List.any_cons, ih, deq_pair]
    by_cases h : n = a
    · simp [h]
    · simp [h]; exact fun z => absurd z.symm h
end Ev
set_option Elab.async false
set_option linter.all false
set_option maxRecDepth 100000
namespace Ev
open PySem PySem.Spec L2
open PyProof.Rows hiding St
section
variable {K : PySem.W.Frag} {S S' : Addr → Prop} {H : Hp} {l : Lv} {v : V} {F : List Addr}
theorem Rp.ins_inv {C : Addr} {fd : List (Str × D)} (p : Rp K S H l v (.ins C fd) F) : ∃ a dx fv G, v = .ref a ∧ H a = some (.ins C dx fv) ∧ fv.map (·.1) = fd.map (·.1) ∧ Rps K S H (ch l) (fv.map (·.2)) (fd.map (·.2)) G ∧ ∀ b ∈ G, b ∈ F := by
  cases p with
  | nd0 h h1 h2 h3 => cases h with | ins e => exact ⟨_, _, _, _, rfl, h1.ins, e, h3, fun _ z => z⟩
  | nd1 h0 h h1 h2 => cases h with | ins e => exact ⟨_, _, _, _, rfl, h1, e, h2, fun _ z => List.mem_cons_of_mem _ z⟩
theorem fld_rp : ∀ {kv : List (Str × V)} {kd : List (Str × D)} {F : List Addr} {f : Str} {d : D}, kv.map (·.1) = kd.map (·.1) → Rps K S H l (kv.map (·.2)) (kd.map (·.2)) F → kd.lookup f = some d →
    ∃ v G, kv.lookup f = some v ∧ Rp K S H l v d G ∧ ∀ b ∈ G, b ∈ F
  | [], [], _, f, d, _, _, h => by cases h
  | [], _ :: _, _, f, d, e, _, _ => by cases e
  | _ :: _, [], _, f, d, e, _, _ => by cases e
  | p :: kv, p' :: kd, F, f, d, e, r, h => by
    have e1 : p.1 = p'.1 := by have := congrArg List.head? e; simpa using this
    have e2 : kv.map (·.1) = kd.map (·.1) := by have := congrArg List.tail e; simpa using this
    have r : Rps K S H l (p.2 :: kv.map (·.2)) (p'.2 :: kd.map (·.2)) F := r
    obtain ⟨k1, v1⟩ := p
    obtain ⟨k2, d2⟩ := p'
    dsimp only at e1
    subst e1
    cases r with
    | cons h1 h2 =>
      rw [List.lookup_cons] at h ⊢
      cases hk : f == k1 with
      | true =>
        rw [hk] at h
        cases h
        exact ⟨v1, _, rfl, h1, fun _ z => List.mem_append_left _ z⟩
      | false =>
        rw [hk] at h
        obtain ⟨w, G, q1, q2, q3⟩ := fld_rp e2 h2 h
        exact ⟨w, G, q1, q2, fun b z => List.mem_append_right _ (q3 b z)⟩
theorem fld_none : ∀ {kv : List (Str × V)} {kd : List (Str × D)} {f : Str}, kv.map (·.1) = kd.map (·.1) → kd.lookup f = none → kv.lookup f = none
  | [], [], f, _, _ => rfl
  | [], _ :: _, f, e, _ => by cases e
  | _ :: _, [], f, e, _ => by cases e
  | p :: kv, p' :: kd, f, e, h => by
    have e1 : p.1 = p'.1 := by have := congrArg List.head? e; simpa using this
    have e2 : kv.map (·.1) = kd.map (·.1) := by have := congrArg List.tail e; simpa using this
    obtain ⟨k1, v1⟩ := p
    obtain ⟨k2, d2⟩ := p'
    dsimp only at e1
    subst e1
    rw [List.lookup_cons] at h ⊢
    cases hk : f == k1 with
    | true => rw [hk] at h; cases h
    | false =>
      rw [hk] at h
      exact fld_none e2 h
end
def eAt (C : Addr) (f : Str) (fe : EvE) : EvE := fun ρ => (fe ρ).bind fun x => match x.d with
  | .ins C' fd => if C' = C then (fd.lookup f).map (part x) else none
  | _ => none
def eMeth (C : Addr) (m : Str) (φ : List D → Option RetD) (fo : EvE) (ga : EvA) : EvE := fun ρ => (fo ρ).bind fun x => match x.d with
  | .ins C' fd => if C' = C ∧ (fd.lookup m).isNone = true then (ga ρ).bind fun rs => (φ (x.d :: rs.map (·.d))).map (mkR (x.al || rs.any (·.al)) (x.vw || rs.any (·.vw))) else none
  | _ => none
section
variable {X : Cx} {k n : Nat} {C fa : Addr} {f m : Str} {e o : Expr} {es : List Expr} {fe fo : EvE} {ga : EvA} {pos apos : Pos} {fd : FuncData} {ps : List Str} {φ : List D → Option RetD}
theorem e_at (c : Cls X.K C) (n : NoAttr X.K C f) (he : PEv X e fe) (hb : attributeBase e f X.env (eval e X.env) = eval e X.env := by rfl) : PEv X (.Attribute e f pos) (eAt C f fe) := by
  refine imp_e (pe_fld he hb) fun σ H Q ⟨N, H0, ρ, L, W, r, sim, z, q⟩ => ?_
  unfold eAt at z
  obtain ⟨x, e1, z2⟩ := bind_some z
  clear z
  have z := z2
  clear z2
  split at z
  · rename_i C' fd hd
    split at z
    · rename_i hC
      subst hC
      obtain ⟨d, e2, z⟩ := Option.map_eq_some_iff.mp z
      subst z
      refine one sim e1 fun v H1 F s1 n1 d1 p1 => ?_
      have new : ∀ a ∈ F, N a ∧ a ∉ W := fun a m => ⟨sim.nw a (n1 a m), fun w => sim.th a w (n1 a m)⟩
      have p2 := p1
      rw [hd] at p2
      obtain ⟨a, dx, fv, G, rfl, h1, h2, h3, h4⟩ := p2.ins_inv
      obtain ⟨u, G2, e3, rp, sub⟩ := fld_rp h2 h3 e2
      exact ⟨a, C', dx, fv, u, rfl, h1, c, n, e3, part_out q s1 new (fun a z => z.1) rp fun b z => h4 b (sub b z)⟩
    · cases z
  · cases z
theorem e_meth0 {pl : Sem Bool} (c : Cls X.K C) (hm : Meth X.K C m fa) (F : FnOk X.prog X.w X.K X.mg X.base CX0 k fa fd ps (spD X.K 1 φ)) (hb : Binds X.K fd ps []) (hr : Room k X.A) (ho : PEv X o fo)
    (ht : eval (.Call (.Attribute o m apos) [] [] pos) X.env = (do
      let ov ← eval o X.env
      standAt apos.atName
      let (f, first) ← holding [ov] (getMethod ov m pl)
      callWith pos f first (backTo pos (starEach [] X.env)) (backToKw pos (keywordEach [] X.env))) := by rfl) :
    PEv X (.Call (.Attribute o m apos) [] [] pos) (eMeth C m φ fo aNil) := by
  refine imp_e (pe_meth0 ho c hm F hr hb .nil pass0 ht) fun σ H Q ⟨N, H0, ρ, L, W, r, sim, z, q⟩ => ?_
  unfold eMeth at z
  obtain ⟨x, e0, z2⟩ := bind_some z
  clear z
  have z := z2
  clear z2
  split at z
  · rename_i C' fds hd
    split at z
    · rename_i hC
      obtain ⟨hC, hno⟩ := hC
      subst hC
      obtain ⟨rs, e1, z2⟩ := bind_some z
      clear z
      obtain ⟨r', e2, z⟩ := Option.map_eq_some_iff.mp z2
      subst z
      cases e1
      refine one sim e0 fun v H1 F s1 n1 d1 p1 => ?_
      have p0 := p1
      rw [hd] at p0
      obtain ⟨a, dx, fv, G, rfl, h1, h2, h3, h4⟩ := p0.ins_inv
      refine ⟨a, dx, fv, rfl, h1, fld_none h2 (Option.isNone_iff_eq_none.mp hno), ?_⟩
      have hF : ∀ a ∈ F, N a ∧ a ∉ W := fun a m => ⟨sim.nw a (n1 a m), fun w => sim.th a w (n1 a m)⟩
      refine ⟨rfl, SR N W (x.al || false) (x.vw || false), [x.d], r', Rps.cons (F := []) (G := []) (p1.give (fun a z => ⟨z.1.1.up (fun e => by rw [e]; rfl), fun e => z.1.2 (by simpa using e)⟩) fun a m => ⟨.new (hF a m).1, fun _ => (hF a m).2⟩) .nil, e2, (sim.kp.tb.same s1), fun u H3 G3 s3 n3 d3 p3 => ?_⟩
      exact q.ret (s1.trans s3) (fun a z => s1.free (n3 a z)) d3 (fun a z => ⟨z.1.imp (fun y => ⟨sim.nw a (s1.free y), fun w => sim.th a w (s1.free y)⟩) id, z.2⟩) p3
    · cases z
  · cases z
end
end Ev
set_option Elab.async false
set_option linter.all false
set_option maxRecDepth 100000
namespace Ev
open PySem PySem.Spec L2
open PyProof.Rows hiding St
def kids : D → List D
  | .lst ds => ds
  | .dk kd => kd.map (·.2)
  | .dt kd => kd.map (·.2)
  | .ins _ fd => fd.map (·.2)
  | .obj _ _ fd => fd.map (·.2)
  | .tup ds => ds
  | _ => []
def setSnd {κ α : Type} : List (κ × α) → Nat → α → List (κ × α)
  | [], _, _ => []
  | p :: r, 0, d => (p.1, d) :: r
  | p :: r, j + 1, d => p :: setSnd r j d
theorem setSnd_keys {κ α : Type} : ∀ (r : List (κ × α)) (j : Nat) (d : α), (setSnd r j d).map (·.1) = r.map (·.1)
  | [], _, _ => rfl
  | p :: r, 0, d => rfl
  | p :: r, j + 1, d => by
    show p.1 :: (setSnd r j d).map (·.1) = _
    rw [setSnd_keys r j d]
    rfl
theorem setSnd_vals {κ α : Type} : ∀ (r : List (κ × α)) (j : Nat) (d : α), (setSnd r j d).map (·.2) = (r.map (·.2)).set j d
  | [], _, _ => rfl
  | p :: r, 0, d => rfl
  | p :: r, j + 1, d => by
    show p.2 :: (setSnd r j d).map (·.2) = _
    rw [setSnd_vals r j d]
    rfl
def setKid : D → Nat → D → D
  | .lst ds, j, d => .lst (ds.set j d)
  | .dk kd, j, d => .dk (setSnd kd j d)
  | .dt kd, j, d => .dt (setSnd kd j d)
  | .ins C fd, j, d => .ins C (setSnd fd j d)
  | .obj C dx fd, j, d => .obj C dx (setSnd fd j d)
  | .tup ds, j, d => .tup (ds.set j d)
  | x, _, _ => x
def dAt : D → List Nat → Option D
  | d, [] => some d
  | d, j :: p => (kids d)[j]?.bind fun e => dAt e p
def dSet (d : D) : List Nat → D → D
  | [], d' => d'
  | j :: p, d' => match (kids d)[j]? with
    | some e => setKid d j (dSet e p d')
    | none => d
section
variable {K : PySem.W.Frag} {S S' : Addr → Prop} {H H' : Hp}
theorem node_kids {d : D} {o : HO} {vs : List V} {ds : List D} (n : Node d o vs ds) : ds = kids d := by
  cases n <;> rfl
theorem node_set {d : D} {o : HO} {vs : List V} {ds : List D} (n : Node d o vs ds) (j : Nat) (d' : D) : Node (setKid d j d') o vs (ds.set j d') := by
  cases n with
  | lst => exact .lst
  | dk e =>
    have := Node.dk (kv := _) (kd := setSnd _ j d') (e.trans (setSnd_keys _ j d').symm)
    rw [setSnd_vals] at this
    exact this
  | dt e =>
    have := Node.dt (kv := _) (kd := setSnd _ j d') (e.trans (setSnd_keys _ j d').symm)
    rw [setSnd_vals] at this
    exact this
  | ins e =>
    rename_i C dx fv fd
    have := Node.ins (C := C) (dx := dx) (fv := fv) (fd := setSnd fd j d') (e.trans (setSnd_keys _ j d').symm)
    rw [setSnd_vals] at this
    exact this
  | obj e =>
    rename_i C dx fv fd
    have := Node.obj (C := C) (dx := dx) (fv := fv) (fd := setSnd fd j d') (e.trans (setSnd_keys _ j d').symm)
    rw [setSnd_vals] at this
    exact this
theorem Rps.hole {l : Lv} : ∀ {vs : List V} {ds : List D} {F : List Addr} {j : Nat} {e : D}, Rps K S H l vs ds F → ds[j]? = some e →
    ∃ u A G B, F = A ++ (G ++ B) ∧ vs[j]? = some u ∧ Rp K S H l u e G ∧
      ∀ {S' : Addr → Prop} {H' : Hp} {e' : D} {G' : List Addr}, (∀ a, S a → S' a) → Keeps S (A ++ B) H H' → Rp K S' H' l u e' G' → Rps K S' H' l vs (ds.set j e') (A ++ (G' ++ B))
  | _, _, _, _, _, .nil, h => by simp at h
  | _, _, _, 0, _, .cons (F := F) (G := G) h1 h2, h => by
    simp at h
    subst h
    refine ⟨_, [], F, G, rfl, rfl, h1, fun {S' H' e' G'} hS k r => ?_⟩
    exact Rps.cons (F := G') (G := G) r ((h2.keep k).mono hS)
  | _, _, _, j + 1, _, .cons (F := F) (G := G) h1 h2, h => by
    obtain ⟨u, A, G1, B, e1, e2, r, q⟩ := Rps.hole (j := j) h2 (by simpa using h)
    subst e1
    refine ⟨u, F ++ A, G1, B, by simp, by simpa using e2, r, fun {S' H' e' G'} hS k r' => ?_⟩
    have h3 := q hS (k.sub fun b z => by simp at z ⊢; exact z.elim (fun z => .inr (.inl z)) fun z => .inr (.inr z)) r'
    have h4 := (h1.keep (k.sub fun b z => by simp [z])).mono hS
    have := Rps.cons h4 h3
    rw [List.append_assoc]
    exact this
theorem Rp.hole : ∀ {p : List Nat} {v : V} {d : D} {F : List Addr} {e : D}, Rp K S H .full v d F → dAt d p = some e → F.Nodup →
    ∃ u A G B, F = A ++ (G ++ B) ∧ Rp K S H .full u e G ∧
      ∀ {S' : Addr → Prop} {H' : Hp} {e' : D} {G' : List Addr}, (∀ a, S a → S' a) → Keeps S (A ++ B) H H' → Rp K S' H' .full u e' G' → Rp K S' H' .full v (dSet d p e') (A ++ (G' ++ B))
  | [], v, d, F, e, r, h, _ => by
    cases h
    exact ⟨v, [], F, [], by simp, r, fun {S' H' e' G'} _ _ r' => by simpa [dSet] using r'⟩
  | j :: p, v, d, F, e, r, h, nd => by
    unfold dAt at h
    obtain ⟨dj, e1, h⟩ := bind_some h
    have h9 := h
    cases r with
    | nd1 h0 hn ha hr =>
      rename_i a o vs ds F1
      have hk := node_kids hn
      rw [← hk] at e1
      obtain ⟨u, A, G, B, eF, eu, ru, q⟩ := hr.hole e1
      have nG : G.Nodup := by
        have := (List.nodup_cons.mp nd).2
        rw [eF, List.nodup_append, List.nodup_append] at this
        exact this.2.1.1
      obtain ⟨u2, A2, G2, B2, eG, r2, q2⟩ := Rp.hole (p := p) ru h nG
      refine ⟨u2, a :: (A ++ A2), G2, B2 ++ B, by rw [eF, eG]; simp, r2, fun {S' H' e' G'} hS k r' => ?_⟩
      have r3 := q2 hS (k.sub fun b z => by simp at z ⊢; rcases z with z | z <;> simp [z]) r'
      have r4 := q hS (k.sub fun b z => by simp at z ⊢; rcases z with z | z <;> simp [z]) r3
      have hs : dSet d (j :: p) e' = setKid d j (dSet dj p e') := by
        rw [dSet, ← hk, e1]
      rw [hs]
      have r5 := Rp.nd1 (K := K) (S := S') h0 (node_set hn j (dSet dj p e')) (k a o ha (ne_nt (node_ne hn)) (.inr (.inl (by simp)))) r4
      have : a :: (A ++ A2) ++ (G' ++ (B2 ++ B)) = a :: (A ++ ((A2 ++ (G' ++ B2)) ++ B)) := by simp
      rw [this]
      exact r5
    | tup h1 h2 =>
      rename_i a vs ds
      obtain ⟨u, A, G, B, eF, eu, ru, q⟩ := h2.hole (show ds[j]? = some dj from e1)
      have nG : G.Nodup := by
        have := nd
        rw [eF, List.nodup_append, List.nodup_append] at this
        exact this.2.1.1
      obtain ⟨u2, A2, G2, B2, eG, r2, q2⟩ := Rp.hole (p := p) ru h9 nG
      refine ⟨u2, A ++ A2, G2, B2 ++ B, by rw [eF, eG]; simp, r2, fun {S' H' e' G'} hS k r' => ?_⟩
      have r3 := q2 hS (k.sub fun b z => by simp at z ⊢; rcases z with z | z <;> simp [z]) r'
      have r4 := q hS (k.sub fun b z => by simp at z ⊢; rcases z with z | z <;> simp [z]) r3
      have hs : dSet (.tup ds) (j :: p) e' = setKid (.tup ds) j (dSet dj p e') := by
        rw [dSet, e1]
      rw [hs]
      have r5 := Rp.tup (K := K) (S := S') (k a _ h1 trivial (.inr (.inr (.inl ⟨_, rfl⟩)))) r4
      have : A ++ A2 ++ (G' ++ (B2 ++ B)) = A ++ ((A2 ++ (G' ++ B2)) ++ B) := by simp
      rw [this]
      exact r5
    | fl h1 h2 => simp [kids] at e1
    | _ => simp [kids] at e1
end
end Ev
set_option Elab.async false
set_option linter.all false
set_option maxRecDepth 100000
namespace Ev
open PySem PySem.Spec L2
open PyProof.Rows hiding St
theorem tabS_rem {H H3 : Hp} {G : List Addr} {P : Addr} {q : Str} (h : ∀ b ∈ G, ∃ o, H b = some o ∧ NE o) (out : ∀ b, b ∉ G → H3 b = H b) (t : TbQ H P q) : TbQ H3 P q := by
  obtain ⟨hq, ps, h1, h2, h3⟩ := t
  refine ⟨hq, ps, ?_, h2, fun pos cv hc => ?_⟩
  · rw [out P fun z => ?_]
    · exact h1
    · obtain ⟨o, e, ne⟩ := h P z
      rw [h1] at e; cases e; exact ne
  · obtain ⟨c, e1, e2⟩ := h3 pos cv hc
    refine ⟨c, e1, ?_⟩
    rw [out c fun z => ?_]
    · exact e2
    · obtain ⟨o, e, ne⟩ := h c z
      rw [e2] at e
      unfold LamX.CodeO at e
      cases e
      exact ne
theorem KpT.refl {K : PySem.W.Frag} {N : Nw} {H : Hp} (t : TBs K H) : KpT K N H H := ⟨fun _ _ e _ _ => e, fun _ _ t => t, t⟩
theorem TBs.upd {K : PySem.W.Frag} {H : Hp} {a : Addr} {o0 o : HO} (t : TBs K H) (e0 : H a = some o0) (ne : NE o0) : TBs K (upd H a o) := fun P q w => tabS_upd e0 ne (t P q w)
def kidsO : HO → List V
  | .lst vs => vs
  | .dK kv => kv.map (·.2)
  | .dT kv => kv.map (·.2)
  | .ins _ _ fv => fv.map (·.2)
  | .tup vs => vs
  | _ => []
theorem kids_nt {o : HO} {j : Nat} {u : V} (h : (kidsO o)[j]? = some u) : NT o := by cases o <;> first | trivial | exact absurd h (by simp [kidsO])
inductive AtV (H : Hp) : V → List Nat → V → Prop
  | nil {v : V} : AtV H v [] v
  | cons {a : Addr} {o : HO} {j : Nat} {p : List Nat} {u w : V} : H a = some o → (kidsO o)[j]? = some u → AtV H u p w → AtV H (.ref a) (j :: p) w
theorem AtV.fn {H : Hp} : ∀ {v : V} {p : List Nat} {u w : V}, AtV H v p u → AtV H v p w → u = w
  | _, _, _, _, .nil, .nil => rfl
  | _, _, _, _, .cons h1 h2 h3, .cons g1 g2 g3 => by
    rw [h1] at g1
    cases g1
    rw [h2] at g2
    cases g2
    exact h3.fn g3
theorem AtV.snoc {H : Hp} {a : Addr} {o : HO} {j : Nat} {w : V} (ha : H a = some o) (hj : (kidsO o)[j]? = some w) : ∀ {v : V} {p : List Nat}, AtV H v p (.ref a) → AtV H v (p ++ [j]) w
  | _, _, .nil => .cons ha hj .nil
  | _, _, .cons h1 h2 h3 => .cons h1 h2 (AtV.snoc ha hj h3)
theorem AtV.same {H H' : Hp} (s : Same H H') : ∀ {v : V} {p : List Nat} {u : V}, AtV H v p u → AtV H' v p u
  | _, _, _, .nil => .nil
  | _, _, _,   .cons h1 h2 h3 => .cons (s.k _ _ h1 (kids_nt h2)) h2 (AtV.same s h3)
section
variable {K : PySem.W.Frag} {S S' : Addr → Prop} {H H' : Hp}
theorem node_kidsO {d : D} {o : HO} {vs : List V} {ds : List D} (n : Node d o vs ds) : vs = kidsO o := by
  cases n <;> rfl
theorem Rp.way : ∀ {p : List Nat} {v : V} {d : D} {F : List Addr} {e : D}, Rp K S H .full v d F → dAt d p = some e → F.Nodup →
    ∃ u A G B, F = A ++ (G ++ B) ∧ Rp K S H .full u e G ∧ AtV H v p u ∧
      ∀ {S' : Addr → Prop} {H' : Hp} {e' : D} {G' : List Addr}, (∀ a, S a → S' a) → Keeps S (A ++ B) H H' → Rp K S' H' .full u e' G' → Rp K S' H' .full v (dSet d p e') (A ++ (G' ++ B))
  | [], v, d, F, e, r, h, _ => by
    cases h
    exact ⟨v, [], F, [], by simp, r, .nil, fun {S' H' e' G'} _ _ r' => by simpa [dSet] using r'⟩
  | j :: p, v, d, F, e, r, h, nd => by
    unfold dAt at h
    obtain ⟨dj, e1, h⟩ := bind_some h
    have h9 := h
    cases r with
    | nd1 h0 hn ha hr =>
      rename_i a o vs ds F1
      have hk := node_kids hn
      have hkO := node_kidsO hn
      rw [← hk] at e1
      obtain ⟨u, A, G, B, eF, eu, ru, q⟩ := hr.hole e1
      have nG : G.Nodup := by
        have := (List.nodup_cons.mp nd).2
        rw [eF, List.nodup_append, List.nodup_append] at this
        exact this.2.1.1
      obtain ⟨u2, A2, G2, B2, eG, r2, w2, q2⟩ := Rp.way (p := p) ru h nG
      refine ⟨u2, a :: (A ++ A2), G2, B2 ++ B, by rw [eF, eG]; simp, r2, .cons ha (by rw [← hkO]; exact eu) w2, fun {S' H' e' G'} hS k r' => ?_⟩
      have r3 := q2 hS (k.sub fun b z => by simp at z ⊢; rcases z with z | z <;> simp [z]) r'
      have r4 := q hS (k.sub fun b z => by simp at z ⊢; rcases z with z | z <;> simp [z]) r3
      have hs : dSet d (j :: p) e' = setKid d j (dSet dj p e') := by
        rw [dSet, ← hk, e1]
      rw [hs]
      have r5 := Rp.nd1 (K := K) (S := S') h0 (node_set hn j (dSet dj p e')) (k a o ha (node_nt hn) (.inr (.inl (by simp)))) r4
      have : a :: (A ++ A2) ++ (G' ++ (B2 ++ B)) = a :: (A ++ ((A2 ++ (G' ++ B2)) ++ B)) := by simp
      rw [this]
      exact r5
    | tup h1 h2 =>
      rename_i a vs ds
      obtain ⟨u, A, G, B, eF, eu, ru, q⟩ := h2.hole (show ds[j]? = some dj from e1)
      have nG : G.Nodup := by
        have := nd
        rw [eF, List.nodup_append, List.nodup_append] at this
        exact this.2.1.1
      obtain ⟨u2, A2, G2, B2, eG, r2, w2, q2⟩ := Rp.way (p := p) ru h9 nG
      refine ⟨u2, A ++ A2, G2, B2 ++ B, by rw [eF, eG]; simp, r2, .cons h1 eu w2, fun {S' H' e' G'} hS k r' => ?_⟩
      have r3 := q2 hS (k.sub fun b z => by simp at z ⊢; rcases z with z | z <;> simp [z]) r'
      have r4 := q hS (k.sub fun b z => by simp at z ⊢; rcases z with z | z <;> simp [z]) r3
      have hs : dSet (.tup ds) (j :: p) e' = setKid (.tup ds) j (dSet dj p e') := by
        rw [dSet, e1]
      rw [hs]
      have r5 := Rp.tup (K := K) (S := S') (k a _ h1 trivial (.inr (.inr (.inl ⟨_, rfl⟩)))) r4
      have : A ++ A2 ++ (G' ++ (B2 ++ B)) = A ++ ((A2 ++ (G' ++ B2)) ++ B) := by simp
      rw [this]
      exact r5
    | fl h1 h2 => simp [kids] at e1
    | _ => simp [kids] at e1
end
abbrev EvP := Env → Option (Nat × List Nat × D)
def PathOk (f : EvP) : Prop := ∀ ρ i p d, f ρ = some (i, p, d) → ∃ s : Sv, ρ[i]? = some (some s) ∧ s.l = .full ∧ dAt s.d p = some d
def tP (K : PySem.W.Frag) (f : EvP) : TE := fun σ H Q => ∃ N H0 ρ L W i p d, SimH K N H0 ρ σ H L W ∧ f ρ = some (i, p, d) ∧ ∀ u H1, Same H H1 → (∀ v0, σ[i]? = some (some v0) → AtV H1 v0 p u) → Q u H1
structure PPv (X : Cx) (e : Expr) (f : EvP) : Prop where
  run : PE X e (tP X.K f)
  ok : PathOk f
def pName (i : Nat) : EvP := fun ρ => match ρ[i]? with
  | some (some s) => if s.l = .full then some (i, [], s.d) else none
  | _ => none
section
variable {X : Cx} {e e2 : Expr} {fp : EvP} {fe : EvE} {pos : Pos}
theorem p_name (i : Nat) {x : Str} (hN : X.N[i]? = some x := by rfl) (hv : Vis X.env.scope x := by first | exact Or.inl rfl | exact Or.inr (Or.inl rfl) | exact Or.inr (Or.inr rfl)) (hd : (x == ("__debug__" : Str)) = false := by decide)
    (hcd : (x == ("__classdict__" : Str)) = false := by decide) : PPv X (.Name x pos) (pName i) where
  run := imp_e (pe_var hN hv hd hcd) fun σ H Q ⟨N, H0, ρ, L, W, j, p, d, sim, z, q⟩ => by
    unfold pName at z
    split at z
    · rename_i s es
      split at z
      · cases z
        obtain ⟨v, G, ev, rp, _⟩ := sim.sl.get es
        refine ⟨v, ev, q v H (Same.refl H) fun v0 e0 => ?_⟩
        rw [ev] at e0
        cases e0
        exact .nil
      · cases z
    · cases z
  ok := fun ρ j p d z => by
    unfold pName at z
    split at z
    · rename_i s es
      split at z
      · rename_i hl
        cases z
        exact ⟨s, es, hl, rfl⟩
      · cases z
    · cases z
theorem SimH.way {K : PySem.W.Frag} {N : Nw} {H0 H : Hp} {ρ : Env} {σ : St} {L W : List Addr} {i : Nat} {p : List Nat} {s : Sv} {e : D} (sim : SimH K N H0 ρ σ H L W) (es : ρ[i]? = some (some s)) (hl : s.l = .full) (hd : dAt s.d p = some e) :
    ∃ v0 u S G, σ[i]? = some (some v0) ∧ AtV H v0 p u ∧ Rp K S H .full u e G := by
  obtain ⟨F1, G, F2, eL, get, _⟩ := sim.sl.at_ (List.getElem?_eq_some_iff.mp es).1
  obtain ⟨v, ev, _, rp⟩ := get s es
  have nG : G.Nodup := by
    have := sim.ndl
    rw [eL, List.nodup_append, List.nodup_append] at this
    exact this.2.1.1
  rw [hl] at rp
  obtain ⟨u, A, G2, B, eG, r2, w, _⟩ := rp.way hd nG
  exact ⟨v, u, _, G2, ev, w, r2⟩
theorem dAt_snoc : ∀ {p : List Nat} {d e e' : D} {j : Nat}, dAt d p = some e → (kids e)[j]? = some e' → dAt d (p ++ [j]) = some e'
  | [], d, e, e', j, h, hj => by
    cases h
    show ((kids d)[j]?.bind fun e => dAt e []) = _
    rw [hj]
    rfl
  | i :: p, d, e, e', j, h, hj => by
    unfold dAt at h
    obtain ⟨d1, e1, h⟩ := bind_some h
    show ((kids d)[i]?.bind fun e => dAt e (p ++ [j])) = _
    rw [e1]
    exact dAt_snoc h hj
theorem fld_at : ∀ {fv : List (Str × V)} {fd : List (Str × D)} {f : Str} {j : Nat}, fv.map (·.1) = fd.map (·.1) → (fd.findIdx? fun q => q.1 == f) = some j → ∃ v, fv.lookup f = some v ∧ (fv.map (·.2))[j]? = some v
  | [], [], f, j, _, h => by simp at h
  | [], _ :: _, f, j, e, _ => by cases e
  | _ :: _, [], f, j, e, _ => by cases e
  | p :: fv, p' :: fd, f, j, e, h => by
    have e1 : p.1 = p'.1 := by have := congrArg List.head? e; simpa using this
    have e2 : fv.map (·.1) = fd.map (·.1) := by have := congrArg List.tail e; simpa using this
    obtain ⟨k1, v1⟩ := p
    obtain ⟨k2, d2⟩ := p'
    dsimp only at e1
    subst e1
    rw [List.findIdx?_cons] at h
    rw [List.lookup_cons]
    by_cases hk : k1 = f
    · subst hk
      simp at h
      subst h
      exact ⟨v1, by simp, rfl⟩
    · have h1 : (k1 == f) = false := by simpa using hk
      have h2 : (f == k1) = false := by simpa using fun z => hk z.symm
      rw [h1] at h
      rw [h2]
      simp at h
      obtain ⟨j', hj, rfl⟩ := h
      obtain ⟨v, q1, q2⟩ := fld_at e2 (by simpa using hj)
      exact ⟨v, q1, by simpa using q2⟩
end
end Ev
set_option Elab.async false
set_option linter.all false
set_option maxRecDepth 100000
namespace Ev
open PySem PySem.Spec L2
open PyProof.Rows hiding St
def isNd : D → Bool
  | .lst _ => true | .dk _ => true | .dt _ => true | .ins _ _ => true | .obj _ _ _ => true
  | _ => false
theorem Rp.node {K : PySem.W.Frag} {S : Addr → Prop} {H : Hp} {u : V} {e : D} {G : List Addr} (r : Rp K S H .full u e G) (h : isNd e = true) : ∃ a o vs ds F, u = .ref a ∧ G = a :: F ∧ H a = some o ∧ Node e o vs ds ∧ Rps K S H .full vs ds F := by
  cases r with
  | nd1 h0 hn h1 h2 => exact ⟨_, _, _, _, _, rfl, rfl, h1, hn, h2⟩
  | _ => simp [isNd] at h
theorem Sim.store {K : PySem.W.Frag} {N : Nw} {H0 H : Hp} {ρ : Env} {σ : St} {L : List Addr} {i : Nat} {p : List Nat} {s : Sv} {e : D} (sim : Sim K N H0 ρ σ H L) (es : ρ[i]? = some (some s)) (hl : s.l = .full) (hd : dAt s.d p = some e) (hn : isNd e = true) :
    ∃ v0 a o vs ds F, σ[i]? = some (some v0) ∧ AtV H v0 p (.ref a) ∧ H a = some o ∧ Node e o vs ds ∧ (∃ S, Rps K S H .full vs ds F) ∧
      ∀ {H1 : Hp} {w : V} {dw : D} {al : Bool} {T : List Addr} {o' : HO} {e' : D}, Same H H1 → (∀ b ∈ T, H b = none) → T.Nodup → Rp K (fun b => SR N L al false b ∧ b ∉ T) H1 .full w dw T → Mut (some o') →
        (∀ {S : Addr → Prop} {H' : Hp}, Rps K S H' .full vs ds F → Rp K S H' .full w dw T → (F ++ T).Nodup → ∃ vs' ds' F', Node e' o' vs' ds' ∧ Rps K S H' .full vs' ds' F' ∧ (∀ b ∈ F', b ∈ F ++ T) ∧ F'.Nodup) →
        ∃ L', Sim K N H0 (ρ.set i (some ⟨dSet s.d p e', .full, s.al || al, s.pn⟩)) σ (upd H1 a o') L' ∧ Frm H L (upd H1 a o') L' := by
  obtain ⟨v, G, ev, rp, nG, hG, go⟩ := sim.mut es
  rw [hl] at rp
  obtain ⟨u, A, G2, B, eG, r2, w2, q2⟩ := rp.trk.way hd nG
  obtain ⟨a, o, vs, ds, F, rfl, rfl, ha, hnd, hr⟩ := r2.node hn
  refine ⟨v, a, o, vs, ds, F, ev, w2, ha, hnd, ⟨_, hr⟩, fun {H1 w dw al T o' e'} sm hT nT rw mo pick => ?_⟩
  have nG' := nG
  rw [eG, List.nodup_append, List.nodup_append] at nG'
  obtain ⟨nA, ⟨naF, nB, dFB⟩, dA⟩ := nG'
  have naF' := List.nodup_cons.mp naF
  have inG : ∀ b, b ∈ A ++ (a :: F ++ B) → b ∈ G := fun b z => by rw [eG]; exact z
  have aG : a ∈ G := inG a (by simp)
  have aL := hG a aG
  have TL : ∀ b ∈ T, b ∉ L := fun b z y => sim.th b y (hT b z)
  have aT : a ∉ T := fun z => TL a z aL
  have up : ∀ b x, b ≠ a → H1 b = some x → upd H1 a o' b = some x := fun b x n h => by rw [upd_ne n]; exact h
  -- what holds of the shared ones
  have hS1 : ∀ b, (SR N L s.al false b ∧ H b ≠ none) → b ≠ a := fun b z y => z.1.2 rfl (y ▸ aL)
  have k1 : Keeps (fun b => SR N L s.al false b ∧ H b ≠ none) (A ++ B) H (upd H1 a o') := fun b x hb nt q => by
    have : b ≠ a := fun y => by
      subst y
      rw [ha] at hb
      cases hb
      rcases q with q | q | ⟨xs, rfl⟩ | ⟨o2, u2, rfl⟩
      · exact hS1 b q rfl
      · rcases List.mem_append.mp q with q | q
        · exact dA b q b (by simp) rfl
        · exact dFB b (by simp) b q rfl
      · cases hnd
      · cases hnd
    exact up b x this (sm.k _ _ hb (by trivial))
  have k2 : Keeps (fun b => SR N L s.al false b ∧ H b ≠ none) F H (upd H1 a o') := fun b x hb nt q => by
    have : b ≠ a := fun y => by
      subst y
      rw [ha] at hb
      cases hb
      rcases q with q | q | ⟨xs, rfl⟩ | ⟨o2, u2, rfl⟩
      · exact hS1 b q rfl
      · exact naF'.1 q
      · cases hnd
      · cases hnd
    exact up b x this (sm.k _ _ hb (by trivial))
  have k3 : Keeps (fun b => SR N L al false b ∧ b ∉ T) T H1 (upd H1 a o') := fun b x hb nt q => by
    have : b ≠ a := fun y => by
      subst y
      rw [sm.k _ _ ha (node_nt hnd)] at hb
      cases hb
      rcases q with q | q | ⟨xs, rfl⟩ | ⟨o2, u2, rfl⟩
      · exact q.1.2 rfl aL
      · exact aT q
      · cases hnd
      · cases hnd
    exact up b x this hb
  have nFT : (F ++ T).Nodup := by
    rw [List.nodup_append]
    exact ⟨naF'.2, nT, fun b hb c hc y => TL c hc (y ▸ hG b (inG b (by simp [hb])))⟩
  let S' : Addr → Prop := fun b => AlN N (s.al || al) b ∧ (b ∉ L ∨ b ∈ G) ∧ b ∉ T ∧ b ∉ G
  have h1 : ∀ b, (SR N L s.al false b ∧ H b ≠ none) → S' b := fun b z => ⟨z.1.1.up (fun e => by simp [e]), .inl (z.1.2 rfl), fun y => z.2 (hT b y), fun y => z.1.2 rfl (hG b y)⟩
  have h2 : ∀ b, (SR N L al false b ∧ b ∉ T) → S' b := fun b z => ⟨z.1.1.up (fun e => by simp [e]), .inl (z.1.2 rfl), z.2, fun y => z.1.2 rfl (hG b y)⟩
  obtain ⟨vs', ds', F', hn', r5, sub, nF'⟩ := pick ((hr.keep k2).mono h1) ((rw.keep k3).mono h2) nFT
  have aF' : a ∉ F' := fun z => (List.mem_append.mp (sub a z)).elim naF'.1 aT
  have r6 : Rp K S' (upd H1 a o') .full (.ref a) e' (a :: F') := .nd1 (fun z => nomatch z) hn' upd_same r5
  have r7 := q2 (e' := e') h1 k1 r6
  have subG : ∀ b ∈ A ++ (a :: F' ++ B), b ∈ G ∨ b ∈ T := fun b z => by
    rcases List.mem_append.mp z with z | z
    · exact .inl (inG b (by simp [z]))
    · rcases List.mem_append.mp z with z | z
      · rcases List.mem_cons.mp z with z | z
        · exact .inl (z ▸ aG)
        · rcases List.mem_append.mp (sub b z) with z | z
          · exact .inl (inG b (by simp [z]))
          · exact .inr z
      · exact .inl (inG b (by simp [z]))
  have ndG : (A ++ (a :: F' ++ B)).Nodup := by
    have offT : ∀ b, b ∈ G → b ∉ T := fun b z y => TL b y (hG b z)
    have hx : ∀ b ∈ a :: F', b ∈ a :: F ∨ b ∈ T := fun b z => by
      rcases List.mem_cons.mp z with z | z
      · exact .inl (z ▸ List.mem_cons_self)
      · exact (List.mem_append.mp (sub b z)).imp (List.mem_cons_of_mem _) id
    rw [List.nodup_append, List.nodup_append]
    refine ⟨nA, ⟨List.nodup_cons.mpr ⟨aF', nF'⟩, nB, fun b hb c hc y => ?_⟩, fun b hb c hc y => ?_⟩
    · rcases hx b hb with z | z
      · exact dFB b z c hc y
      · exact offT c (inG c (by simp [hc])) (y ▸ z)
    · rcases List.mem_append.mp hc with hc | hc
      · rcases hx c hc with z | z
        · exact dA b hb c (List.mem_append_left _ z) y
        · exact offT b (inG b (by simp [hb])) (y ▸ z)
      · exact dA b hb c (List.mem_append_right _ hc) y
  have trT : ∀ b ∈ T, H b = none ∧ Mut (upd H1 a o' b) := fun b z => ⟨hT b z, by
    rw [upd_ne (fun y => aT (by rw [← y]; exact z))]
    exact rw.own_mut b z⟩
  exact go (s' := ⟨dSet s.d p e', .full, s.al || al, s.pn⟩) (G' := A ++ (a :: F' ++ B)) (T := T) sm aG mo trT subG ndG (.inl rfl) (r7.mono fun b z => ⟨z.1, z.2.1, z.2.2.1, fun y => (subG b y).elim z.2.2.2 z.2.2.1⟩)
end Ev
set_option Elab.async false
set_option linter.all false
set_option maxRecDepth 100000
namespace Ev
open PySem PySem.Spec L2
open PyProof.Rows hiding St
def putD (f : Str) (d : D) : List (Str × D) → List (Str × D)
  | [] => [(f, d)]
  | (g, x) :: r => if g = f then (g, d) :: r else (g, x) :: putD f d r
theorem put_rps {K : PySem.W.Frag} {S : Addr → Prop} {H : Hp} {l : Lv} {f : Str} {w : V} {d : D} {T : List Addr} (rw : Rp K S H l w d T) : ∀ {fv : List (Str × V)} {fd : List (Str × D)} {F : List Addr}, fv.map (·.1) = fd.map (·.1) → Rps K S H l (fv.map (·.2)) (fd.map (·.2)) F → (F ++ T).Nodup →
    (putF f w fv).map (·.1) = (putD f d fd).map (·.1) ∧ ∃ F', Rps K S H l ((putF f w fv).map (·.2)) ((putD f d fd).map (·.2)) F' ∧ (∀ b ∈ F', b ∈ F ++ T) ∧ F'.Nodup
  | [], [], F, e, r, nd => by
    cases r
    refine ⟨rfl, T, ?_, fun b z => by simpa using z, by simpa using nd⟩
    have := Rps.cons (G := []) rw .nil
    rw [List.append_nil] at this
    exact this
  | [], _ :: _, _, e, _, _ => by cases e
  | _ :: _, [], _, e, _, _ => by cases e
  | q :: fv, q' :: fd, F, e, r, nd => by
    have e1 : q.1 = q'.1 := by have := congrArg List.head? e; simpa using this
    have e2 : fv.map (·.1) = fd.map (·.1) := by have := congrArg List.tail e; simpa using this
    obtain ⟨k1, v1⟩ := q
    obtain ⟨k2, d2⟩ := q'
    dsimp only at e1
    subst e1
    have r : Rps K S H l (v1 :: fv.map (·.2)) (d2 :: fd.map (·.2)) F := r
    cases r with
    | cons h1 h2 =>
      rename_i F1 G1
      by_cases hk : k1 = f
      · have a1 : putF f w ((k1, v1) :: fv) = (k1, w) :: fv := if_pos hk
        have a2 : putD f d ((k1, d2) :: fd) = (k1, d) :: fd := if_pos hk
        rw [a1, a2]
        refine ⟨by simp [e2], T ++ G1, Rps.cons rw h2, fun b z => ?_, ?_⟩
        · simp at z ⊢
          rcases z with z | z <;> simp [z]
        · rw [List.nodup_append] at nd ⊢
          obtain ⟨n1, n2, n3⟩ := nd
          rw [List.nodup_append] at n1
          exact ⟨n2, n1.2.1, fun b hb c hc y => n3 c (by simp [hc]) b hb y.symm⟩
      · have a1 : putF f w ((k1, v1) :: fv) = (k1, v1) :: putF f w fv := if_neg hk
        have a2 : putD f d ((k1, d2) :: fd) = (k1, d2) :: putD f d fd := if_neg hk
        rw [a1, a2]
        have nd1 : (G1 ++ T).Nodup := by
          rw [List.append_assoc, List.nodup_append] at nd
          exact nd.2.1
        obtain ⟨i1, F', i2, i3, i4⟩ := put_rps rw e2 h2 nd1
        refine ⟨by simp [i1], F1 ++ F', Rps.cons h1 i2, fun b z => ?_, ?_⟩
        · rcases List.mem_append.mp z with z | z
          · simp [z]
          · have := i3 b z
            simp at this ⊢
            exact .inr this
        · rw [List.append_assoc, List.nodup_append] at nd
          rw [List.nodup_append]
          exact ⟨nd.1, i4, fun b hb c hc y => nd.2.2 b hb c (i3 c hc) y⟩
end Ev
set_option Elab.async false
set_option linter.all false
set_option maxRecDepth 100000
namespace Ev
open PySem PySem.Spec L2
open PyProof.Rows hiding St
section
variable {κ : Type} [DecidableEq κ] {K : PySem.W.Frag} {S : Addr → Prop} {H : Hp} {l : Lv}
theorem dmap_rps {k : κ} {w : V} {d : D} (rw : Rp K S H l w d []) : ∀ {kv : List (κ × V)} {kd : List (κ × D)} {F : List Addr}, kv.map (·.1) = kd.map (·.1) → Rps K S H l (kv.map (·.2)) (kd.map (·.2)) F → F.Nodup →
    (kv.map fun q => if q.1 = k then (q.1, w) else q).map (·.1) = (kd.map fun q => if q.1 = k then (q.1, d) else q).map (·.1) ∧ ∃ F', Rps K S H l ((kv.map fun q => if q.1 = k then (q.1, w) else q).map (·.2)) ((kd.map fun q => if q.1 = k then (q.1, d) else q).map (·.2)) F' ∧ (∀ b ∈ F', b ∈ F) ∧ F'.Nodup
  | [], [], F, e, r, nd => ⟨rfl, F, r, fun _ z => z, nd⟩
  | [], _ :: _, _, e, _, _ => by cases e
  | _ :: _, [], _, e, _, _ => by cases e
  | q :: kv, q' :: kd, F, e, r, nd => by
    have e1 : q.1 = q'.1 := by have := congrArg List.head? e; simpa using this
    have e2 : kv.map (·.1) = kd.map (·.1) := by have := congrArg List.tail e; simpa using this
    obtain ⟨k1, v1⟩ := q
    obtain ⟨k2, d2⟩ := q'
    dsimp only at e1
    subst e1
    have r : Rps K S H l (v1 :: kv.map (·.2)) (d2 :: kd.map (·.2)) F := r
    cases r with
    | cons h1 h2 =>
      rename_i F1 G1
      rw [List.nodup_append] at nd
      obtain ⟨i1, F', i2, i3, i4⟩ := dmap_rps rw e2 h2 nd.2.1
      by_cases hk : k1 = k
      · refine ⟨by simp [hk]; simpa using i1, F', ?_, fun b z => List.mem_append_right _ (i3 b z), i4⟩
        simp only [List.map_cons, if_pos hk]
        exact Rps.cons (F := []) rw i2
      · refine ⟨by simp [hk]; simpa using i1, F1 ++ F', ?_, fun b z => ?_, ?_⟩
        · simp only [List.map_cons, if_neg hk]
          exact Rps.cons h1 i2
        · rcases List.mem_append.mp z with z | z
          · exact List.mem_append_left _ z
          · exact List.mem_append_right _ (i3 b z)
        · rw [List.nodup_append]
          exact ⟨nd.1, i4, fun b hb c hc y => nd.2.2 b hb c (i3 c hc) y⟩
theorem dput_rps {k : κ} {w : V} {d : D} (rw : Rp K S H l w d []) {kv : List (κ × V)} {kd : List (κ × D)} {F : List Addr} (e : kv.map (·.1) = kd.map (·.1)) (r : Rps K S H l (kv.map (·.2)) (kd.map (·.2)) F) (nd : F.Nodup) :
    (putK kv k w).map (·.1) = (dput kd k d).map (·.1) ∧ ∃ F', Rps K S H l ((putK kv k w).map (·.2)) ((dput kd k d).map (·.2)) F' ∧ (∀ b ∈ F', b ∈ F) ∧ F'.Nodup := by
  have hh : (kv.any fun p => decide (p.1 = k)) = dhas kd k := by rw [← has_keys e k, valV_any]
  unfold putK dput
  rw [hh]
  by_cases h : dhas kd k = true
  · rw [if_pos h, if_pos h]
    exact dmap_rps rw e r nd
  · rw [if_neg h, if_neg h]
    refine ⟨by simp [e], F, ?_, fun _ z => z, nd⟩
    rw [List.map_append, List.map_append]
    have := Rps.app r (Rps.cons (F := []) (G := []) rw .nil)
    rw [List.append_nil, List.append_nil] at this
    exact this
end
def putAt (d : D) (y : D) (w : D) : Option D := match d with
  | .dk kd => if kd.length < 1000000 then (keyOf y).map fun k => .dk (dput kd k w) else none
  | .dt kd => if kd.length < 1000000 then (match y with | .tup ks => (keysOf ks).map fun k => .dt (dput kd k w) | _ => none) else none
  | _ => none
def sPutP (fz : List Nat) (fp : EvP) (fk fv : EvE) : EvS := fun ρ0 => (fv (frzs fz ρ0)).bind fun r => (fp (frzs fz ρ0)).bind fun z => (fk (frzs fz ρ0)).bind fun y => (putAt z.2.2 y.d r.d).bind fun e' => match (frzs fz ρ0)[z.1]? with
  | some (some s) => if imm r.d = true then some (.nx ((frzs fz ρ0).set z.1 (some ⟨dSet s.d z.2.1 e', .full, s.al || false, s.pn⟩))) else none
  | _ => none
section
variable {X : Cx} {e ix value : Expr} {fp : EvP} {fk fv : EvE} {pos pos' : Pos}
theorem s_putp (fz : List Nat) (hu : X.A.units + 65 < cLine) (h : PPv X e fp) (hk : PEv X ix fk) (hv : PEv X value fv) (hs : swapsWith value (some (.Subscript e ix pos')) pos.line X.env = pure false := by rfl) :
    PSv X (.Assign [.Subscript e ix pos'] value pos) (sPutP fz fp fk fv) := by
  refine imp_s (ps_dput (by omega) h.run hk hv hs) fun D σ H ⟨N, H0, ρ0, L0, o, sim0, z, q0⟩ => ?_
  obtain ⟨L, sim, subL⟩ := sim0.frzs fz
  have q := q0.at_ (H1 := H) (L1 := L) ⟨fun _ _ e _ _ => e, fun _ e => .inl e, fun b z => .inl (subL b z)⟩
  unfold sPutP at z
  generalize frzs fz ρ0 = ρ at sim z
  obtain ⟨r, e1, z1⟩ := bind_some z
  obtain ⟨⟨i, p, d⟩, e2, z2⟩ := bind_some z1
  obtain ⟨y, e3, z3⟩ := bind_some z2
  obtain ⟨e', e4, z4⟩ := bind_some z3
  clear z z1 z2 z3
  dsimp only at z4 e4
  split at z4
  · rename_i s es
    split at z4
    · rename_i hi
      cases z4
      refine one sim.h e1 fun w H1 T s1 n1 d1 p1 => ?_
      obtain ⟨s', es', hl, hd⟩ := h.ok ρ i p d e2
      rw [es] at es'
      cases es'
      have hold := sim.h.hold s1 n1 d1 p1.own_mut
      refine ⟨N, H0, ρ, L, L ++ T, i, p, d, hold, e2, fun u H2 s2 at2 => ?_⟩
      refine one (hold.same s2) e3 fun ky H3 T3 s3 n3 d3 p3 => ?_
      have sall : Same H H3 := s1.trans (s2.trans s3)
      have rw0 : ∀ {S : Addr → Prop} {H' : Hp} {l' : Lv}, Same H1 H' → Rp X.K S H' l' w r.d [] := fun sm => ((p1.same sm).of_imm hi).2
      cases d with
      | dk kd =>
        obtain ⟨v0, a, o, vs, ds, F, ev, w2, ha, hnd, hx, go⟩ := sim.store es hl hd rfl
        clear hx
        have := (at2 v0 ev).fn ((w2.same s1).same s2)
        subst this
        unfold putAt at e4
        dsimp only at e4
        split at e4
        · rename_i hlen
          obtain ⟨k, e5, rfl⟩ := Option.map_eq_some_iff.mp e4
          cases hnd with
          | dk ek =>
            rename_i kv
            have hlen' : kv.length < sizeLine := by
              have := congrArg List.length ek
              rw [List.length_map, List.length_map] at this
              rw [this, sizeLine_eq]
              omega
            obtain ⟨L', sim', fr⟩ := go (H1 := H3) (w := w) (dw := r.d) (al := false) (T := []) (e' := .dk (dput kd k r.d)) (o' := .dK (putK kv k w)) sall (fun _ z => nomatch z) .nil (rw0 (s2.trans s3)) trivial (fun r1 r2 nd => by
              rw [List.append_nil] at nd
              obtain ⟨i1, F', i2, i3, i4⟩ := dput_rps (k := k) r2 ek r1 nd
              exact ⟨_, _, F', .dk i1, i2, fun b z => by simpa using i3 b z, i4⟩)
            refine ⟨a, _, rfl, ?_, q _ _ L' sim' fr⟩
            rw [p3.key e5]
            exact DPut.k (sall.k _ _ ha (by first | trivial | exact node_nt (by assumption))) hlen'
        · cases e4
      | dt kd =>
        obtain ⟨v0, a, o, vs, ds, F, ev, w2, ha, hnd, hx, go⟩ := sim.store es hl hd rfl
        clear hx
        have := (at2 v0 ev).fn ((w2.same s1).same s2)
        subst this
        unfold putAt at e4
        dsimp only at e4
        split at e4
        · rename_i hlen
          split at e4
          · rename_i ks hy
            obtain ⟨k, e5, rfl⟩ := Option.map_eq_some_iff.mp e4
            rw [hy] at p3
            obtain ⟨c, ws, rfl, h5, h6⟩ := p3.tup_inv
            cases hnd with
            | dt ek =>
              rename_i kv
              have hlen' : kv.length < sizeLine := by
                have := congrArg List.length ek
                rw [List.length_map, List.length_map] at this
                rw [this, sizeLine_eq]
                omega
              obtain ⟨L', sim', fr⟩ := go (H1 := H3) (w := w) (dw := r.d) (al := false) (T := []) (e' := .dt (dput kd k r.d)) (o' := .dT (putK kv k w)) sall (fun _ z => nomatch z) .nil (rw0 (s2.trans s3)) trivial (fun r1 r2 nd => by
                rw [List.append_nil] at nd
                obtain ⟨i1, F', i2, i3, i4⟩ := dput_rps (k := k) r2 ek r1 nd
                exact ⟨_, _, F', .dt i1, i2, fun b z => by simpa using i3 b z, i4⟩)
              refine ⟨a, _, rfl, ?_, q _ _ L' sim' fr⟩
              exact DPut.t (sall.k _ _ ha (by first | trivial | exact node_nt (by assumption))) (by rw [h5, h6.keys e5]) hlen'
          · cases e4
        · cases e4
      | _ => simp [putAt] at e4
    · cases z4
  · cases z4
end
end Ev
set_option Elab.async false
set_option linter.all false
set_option maxRecDepth 100000
namespace Ev
open PySem PySem.Spec L2
open PyProof.Rows hiding St
section
variable {X : Cx} {e ix : Expr} {es : List Expr} {fp : EvP} {fk fe : EvE} {pos apos cpos : Pos}
def pIx (fp : EvP) (fk : EvE) : EvP := fun ρ => (fp ρ).bind fun z => (fk ρ).bind fun y => match z.2.2, y.d with
  | .lst ds, .int k => (L2.ixN ds.length k).bind fun j => ds[j]?.map fun e => (z.1, z.2.1 ++ [j], e)
  | _, _ => none
theorem pIx_some {ρ : Env} {i : Nat} {p : List Nat} {d : D} (z : pIx fp fk ρ = some (i, p, d)) : ∃ p0 ds y k j, fp ρ = some (i, p0, .lst ds) ∧ fk ρ = some y ∧ y.d = .int k ∧ L2.ixN ds.length k = some j ∧ ds[j]? = some d ∧ p = p0 ++ [j] := by
  unfold pIx at z
  obtain ⟨⟨i0, p0, d0⟩, e1, z1⟩ := bind_some z
  obtain ⟨y, e2, z2⟩ := bind_some z1
  clear z z1
  dsimp only at z2
  split at z2
  · rename_i ds k hy
    obtain ⟨j, e3, z3⟩ := bind_some z2
    obtain ⟨e, e4, e5⟩ := Option.map_eq_some_iff.mp z3
    cases e5
    exact ⟨p0, ds, y, k, j, e1, e2, hy, e3, e4, rfl⟩
  · cases z2
theorem p_ix (hu : X.A.units + 65 < cLine) (h : PPv X e fp) (hk : PEv X ix fk) (hs : PlainIx ix := by exact fun _ _ => rfl) : PPv X (.Subscript e ix pos) (pIx fp fk) where
  run := imp_e (pe_ix (ix_any (by omega)) h.run hk hs) fun σ H Q ⟨N, H0, ρ, L, W, i, p, d, sim, z, q⟩ => by
    obtain ⟨p0, ds, y, k, j, e1, e2, hy, e3, e4, rfl⟩ := pIx_some z
    obtain ⟨s, es, hl, hd⟩ := h.ok ρ i p0 _ e1
    obtain ⟨v0, u', S, G, ev, w, r⟩ := sim.way es hl hd
    refine ⟨N, H0, ρ, L, W, i, p0, _, sim, e1, fun u H1 s1 at1 => ?_⟩
    refine one (sim.same s1) e2 fun ky H2 T s2 n2 d2 p2 => ?_
    have w1 := at1 v0 ev
    have := w1.fn (w.same s1)
    subst this
    rw [hy] at p2
    obtain ⟨rfl, _⟩ := p2.int_inv
    obtain ⟨a, vs, G1, rfl, h1, h2, _, _⟩ := r.lst_inv
    obtain ⟨v, G2, e5, _, _⟩ := h2.get e4
    have sall := s1.trans s2
    refine .inl (.inl ⟨a, vs, k, v, rfl, rfl, SqL.of (sall.k a _ h1 (by first | trivial | exact node_nt (by assumption))), ?_, q v H2 sall fun v1 e0 => ?_⟩)
    · unfold L2.atI
      rw [h2.len, e3]
      exact e5
    · rw [ev] at e0
      cases e0
      exact (w1.same s2).snoc (sall.k a _ h1 (by first | trivial | exact node_nt (by assumption))) e5
  ok := fun ρ i p d z => by
    obtain ⟨p0, ds, y, k, j, e1, e2, hy, e3, e4, rfl⟩ := pIx_some z
    obtain ⟨s, es, hl, hd⟩ := h.ok ρ i p0 _ e1
    exact ⟨s, es, hl, dAt_snoc hd e4⟩
def sAppP (fz : List Nat) (fp : EvP) (fe : EvE) : EvS := fun ρ0 => (fp (frzs fz ρ0)).bind fun z => (fe (frzs fz ρ0)).bind fun r => match z.2.2, (frzs fz ρ0)[z.1]? with
  | .lst ds, some (some s) => if r.vw = false ∧ r.l = .full ∧ ds.length ≤ 1000000 then some (.nx ((frzs fz ρ0).set z.1 (some ⟨dSet s.d z.2.1 (.lst (ds ++ [r.d])), .full, s.al || r.al, s.pn⟩))) else none
  | _, _ => none
theorem s_appp {x : Expr} (fz : List Nat) (h : PPv X e fp) (ha : PAv X [x] (aCons fe aNil))
    (hsw : swapsWith (.Call (.Attribute e "append" apos) [x] [] cpos) none pos.line X.env = pure false := by rfl)
    (hbase : attributeBase e "append" X.env (eval e X.env) = eval e X.env := by rfl)
    (hfew : ((backTo cpos (starEach [x] X.env)).all (fun x => !x.1) && (backToKw cpos (keywordEach [] X.env)).all (fun x => x.1.isSome)
      && decide ([x].length + ([] : List Keyword).length + (if ([] : List Keyword).isEmpty then 0 else 1) < 30)) = true := by rfl)
    (hline : (apos.endLine == cpos.line) = true := by rfl) (hs : starEach [x] X.env = (false, eval x X.env) :: starEach [] X.env := by rfl) (hplain : (backTo cpos (starEach [] X.env)).any (·.1) = false := by rfl) :
    PSv X (.Expr (.Call (.Attribute e "append" apos) [x] [] cpos) pos) (sAppP fz fp fe) := by
  obtain ⟨r0, hm, hr⟩ := (l_app (X := X)).ok
  refine imp_s (ps_expr (pe_bm PySem.F.plainAttrs_list PySem.F.slot_list_append PySem.F.type_list_append hm h.run ha hbase hfew hline hs hplain) hsw) fun D σ H ⟨N, H0, ρ0, L0, o, sim0, z, q0⟩ => ?_
  obtain ⟨L, sim, subL⟩ := sim0.frzs fz
  have q := q0.at_ (H1 := H) (L1 := L) ⟨fun _ _ e _ _ => e, fun _ e => .inl e, fun b z => .inl (subL b z)⟩
  unfold sAppP at z
  generalize frzs fz ρ0 = ρ at sim z
  obtain ⟨⟨i, p, d⟩, e1, z1⟩ := bind_some z
  obtain ⟨r, e2, z2⟩ := bind_some z1
  clear z z1
  dsimp only at z2
  split at z2
  · rename_i ds s es
    split at z2
    · rename_i hc
      obtain ⟨hvw, hfull, hlen⟩ := hc
      cases z2
      obtain ⟨s', es', hl, hd⟩ := h.ok ρ i p _ e1
      rw [es] at es'
      cases es'
      obtain ⟨v0, a, o, vs, ds', F, ev, w2, ha', hnd, ⟨S0, hx⟩, go⟩ := sim.store es hl hd rfl
      cases hnd
      have hlv := hx.len
      refine ⟨N, H0, ρ, L, L, i, p, _, sim.h, e1, fun u H1 s1 at1 => ?_⟩
      have := (at1 v0 ev).fn (w2.same s1)
      subst this
      refine ⟨.inl ⟨rfl, vs, SqL.of (s1.k _ _ ha' (by first | trivial | exact node_nt (by assumption)))⟩, N, H0, ρ, L, L, [r], sim.h.same s1, ?_, fun us H2 T s2 n2 d2 p2 => ?_⟩
      · unfold aCons aNil
        rw [e2]
        rfl
      have hall : [r].all (fun r => !r.vw && decide (r.l = .full)) = true := by simp [hvw, hfull]
      have p3 := p2.full (al := r.al) hall (fun r' m e => by rw [List.mem_singleton.mp m] at e; exact e)
      have sall := s1.trans s2
      generalize hds : [r].map (·.d) = rd at p3
      cases p3 with
      | nil => cases hds
      | cons hw hrest =>
        rename_i w dw us' ds'' F1 G1
        have hds : r.d = dw ∧ [] = ds'' := by simpa using hds
        obtain ⟨rfl, rfl⟩ := hds
        cases hrest
        have nF : (∀ b ∈ F1, H b = none) := fun b m => s1.free (n2 b (by simpa using m))
        have dF : F1.Nodup := by simpa using d2
        obtain ⟨L', sim', fr⟩ := go (H1 := H2) (w := w) (dw := r.d) (al := r.al) (T := F1) (e' := .lst (ds ++ [r.d])) (o' := .lst (vs ++ [w])) sall nF dF (hw.mono fun b z => by simpa [SR] using z) trivial (fun r1 r2 nd => by
          refine ⟨_, _, F ++ F1, .lst, ?_, fun b z => z, nd⟩
          have := Rps.app r1 (Rps.cons (G := []) r2 .nil)
          rw [List.append_nil] at this
          exact this)
        exact hr H2 a vs [w] (vs ++ [w]) _ (sall.k _ _ ha' (by first | trivial | exact node_nt (by assumption))) (by rw [hlv]; exact hlen) rfl (q _ _ L' sim' fr)
    · cases z2
  · cases z2
end
end Ev
set_option Elab.async false
set_option linter.all false
set_option maxRecDepth 100000
namespace Ev
open PySem PySem.Spec L2
open PyProof.Rows hiding St
def pinned (C : Addr) (Q : VK) : VK := fun v H => ∃ x a dx fv, v = .ref x ∧ H a = some (.ins C dx fv) ∧ H dx = some (.own x) ∧ (a = x → Q v H)
theorem pe_pin {X : Cx} {e : Expr} {t : TE} (C : Addr) (h : PE X e t) : PE X e (fun σ H Q => t σ H (pinned C Q)) :=
  ⟨fun pins s σ H Q I z => thn (h.run pins s σ H _ I z) fun u s1 ⟨v, H1, I1, rv, x, a, dx, fv, ev, ha, hx, q⟩ => by
    obtain ⟨mA, O, r, wi, _, ho⟩ := ins_get I1.hok ha
    rw [hx] at ho
    have : x = a := by cases ho; rfl
    exact ⟨v, H1, I1, rv, q this.symm⟩⟩
def spI (K : PySem.W.Frag) (n : Nat) (C : Addr) (φ : List D → Option (List (Str × D))) : Sp := fun vs H Q _ => ∃ x dx us ds fs, vs = .ref x :: us ∧ vs.length = n ∧ H x = some (.ins C dx []) ∧ H dx = some (.own x) ∧ dx ≠ x ∧ Rps K (fun a => a ≠ x) H .shr us ds [] ∧ φ ds = some fs ∧ TBs K H ∧
  ∀ a H' F, (∀ b o, H b = some o → b ≠ x → NT o → H' b = some o) → (∀ b, H' b = none → H b = none ∨ b = x) → (∀ P q, TbQ H P q → TbQ H' P q) → (∀ b ∈ F, H b = none ∨ b = x) → F.Nodup → Rp K (fun b => (H b = none ∨ b = x) ∧ b ∉ F) H' .full (.ref a) (.obj C dx fs) F → Q .non H'
def runNew (body : EvS) (m : Nat) (C dx : Addr) (ds : List D) : Option (List (Str × D)) := (body (some ⟨.obj C dx [], .full, false, none⟩ :: entry (m - 1) ds)).bind fun o => match o with
  | .nx (some s :: _) => (match s.d, s.l, s.al with
    | .obj C' dx' fs, .full, false => if C' = C ∧ dx' = dx then some fs else none
    | _, _, _ => none)
  | _ => none
theorem slots_own {K : PySem.W.Frag} {N : Nw} {x : Addr} {H : Hp} (n : Nat) (hN : ∀ a, a ≠ x → N.s a) : ∀ {vs : List V} {ds : List D}, Rps K (fun a => a ≠ x) H .shr vs ds [] → Slots K N [x] H (vs.map some ++ List.replicate n none) (ds.map (fun d => some ⟨d, .shr, true, none⟩) ++ List.replicate n none) []
  | [], [], .nil => slots_none n
  | v :: vs, d :: ds, h => by
    generalize hF : ([] : List Addr) = F at h
    cases h with
    | cons h1 h2 =>
      have e1 := h1.shr0
      have e2 := h2.shr0
      subst e1 e2
      exact Slots.so (s := ⟨d, .shr, true, none⟩) (F := []) (G := []) (fun _ z => nomatch z) (h1.mono fun a z => ⟨⟨.inr (hN a z), (fun e => nomatch e)⟩, fun _ m => z (List.mem_singleton.mp m)⟩) (slots_own n hN h2)
theorem init_ok {P : Program} {w : World} {K : PySem.W.Frag} {mg : Str → Option Value} {base : Heap} {x qual : Str} {st : Stmt} {f : Addr} {fd : FuncData} {N ps : List Str} {k : Nat} {body : EvS} {C : Addr} {φ : List D → Option (List (Str × D))} (F : Fun K x qual st f fd) (S : FnScope N ps (defScope st))
    (hb : ∀ (cdv : Value) (A : Around) (outer : List PySem.Env) (s : Shared) (H : Hp) (E : XK), Room k (A.deeper (envOfC qual (defScope st) s.heap.objs.size f cdv)) → PSsv (cxOf CX0 P w K mg base N qual (defScope st) f cdv A outer s H E).nox (defBody st) body)
    (hN : N.length - 1 + 1 = N.length) (hφ : ∀ dx ds fs, φ ds = some fs → runNew body N.length C dx ds = some fs) :
    FnOk P w K mg base CX0 (k + 1) f fd ps (spI K ps.length C φ) := by
  refine F.ok S (fun vs H Q E ⟨_, _, _, _, _, _, h, _⟩ => h) (fun cdv A outer s H vs Q E hr h => ?_)
  obtain ⟨x0, dx, us, ds, fs, rfl, hl, hx, hdx, ne, rp, hrun, htb, q⟩ := h
  refine ⟨_, hb cdv A outer s H E hr, ?_⟩
  have h4 := hφ dx ds fs hrun
  clear hrun
  unfold runNew at h4
  obtain ⟨o, e1, hrun⟩ := bind_some h4
  clear h4
  refine ⟨⟨fun a => H a = none ∨ a = x0, fun a => a ≠ x0, fun _ => 0⟩, H, _, [x0], o, ⟨⟨fun b o e _ _ => e, fun _ _ t => t, htb⟩, fun b e => .inl e, nodup1, fun a z => .inr (List.mem_singleton.mp z), fun a z => by rw [List.mem_singleton.mp z, hx]; trivial, ?_⟩, e1, ?_⟩
  · have hsl := slots_own (N := ⟨fun a => H a = none ∨ a = x0, fun a => a ≠ x0, fun _ => 0⟩) (N.length - (us.length + 1)) (fun _ z => z) rp
    have e2 : L2.start N (.ref x0 :: us) = some (.ref x0) :: (us.map some ++ List.replicate (N.length - (us.length + 1)) none) := rfl
    have e3 : entry (N.length - 1) ds = ds.map (fun d => some ⟨d, .shr, true, none⟩) ++ List.replicate (N.length - (us.length + 1)) none := by
      unfold entry
      rw [← rp.len]
      congr 2
      omega
    rw [e2, e3]
    refine Slots.so (s := ⟨.obj C dx [], .full, false, none⟩) (F := [x0]) (G := []) (fun _ z => nomatch z) ?_ hsl
    exact Rp.nd1 (F := []) (vs := []) (ds := []) (fun z => nomatch z) (.obj (fv := []) (fd := []) rfl) hx .nil
  · cases o with
    | nx ρ =>
      cases ρ with
      | nil => cases hrun
      | cons s0 ρ =>
        cases s0 with
        | none => cases hrun
        | some s0 =>
          obtain ⟨d0, l0, a0, p0⟩ := s0
          dsimp only at hrun
          split at hrun
          · rename_i C' dx' fs'
            split at hrun
            · rename_i hc
              obtain ⟨rfl, rfl⟩ := hc
              cases hrun
              exact fun σ' H' L' sim fr => by
                cases hs : sim.sl with
                | so h0 h1 h2 =>
                  rename_i v0 σ0 F0 G0
                  obtain ⟨a, o, vs, ds, F, rfl, rfl, ha, hnd, hr⟩ := h1.node rfl
                  refine q a H' (a :: F) (fun b o e nb nt => fr.1 b o e (fun z => nb (List.mem_singleton.mp z)) nt) sim.nw sim.kp.t (fun b z => ?_) ?_ (h1.mono fun b z => ?_)
                  · exact (fr.2.2 b (List.mem_append_left _ z)).elim (fun y => .inr (List.mem_singleton.mp y)) .inl
                  · have := sim.nd
                    rw [List.nodup_append] at this
                    exact this.1
                  · exact ⟨z.1.2 rfl, fun y => z.2 rfl (List.mem_append_left _ y)⟩
            · cases hrun
          · cases hrun
    | rt ρ d l al => cases hrun
    | bk ρ => cases hrun
    | ct ρ => cases hrun
def eNew (C : Addr) (φ : List D → Option (List (Str × D))) (ga : EvA) : EvE := fun ρ => (ga ρ).bind fun rs => (φ (rs.map (·.d))).map fun fs => ⟨.ins C fs, .full, false, false⟩
section
variable {X : Cx} {k n : Nat} {C f : Addr} {fd : FuncData} {ps : List Str} {φ : List D → Option (List (Str × D))} {x : Str} {p pos : Pos} {e : Expr} {es : List Expr} {ga : EvA}
theorem e_new (M : Mk X.K C f) (F : FnOk X.prog X.w X.K X.mg X.base CX0 k f fd ps (spI X.K n C φ)) (hr : Room (k + 1) X.A) (hg : Gl X x) (hm : X.mg x = some (.ref C)) (hb : Binds X.K fd ps []) (ha : PAv X (e :: es) ga) (hl : ∀ ρ rs, ga ρ = some rs → rs.length + 1 = n)
    (hdb : (x == ("__debug__" : Str)) = false := by decide) (he : starEach (e :: es) X.env = (false, eval e X.env) :: starEach es X.env := by rfl) (hpl : (backTo pos (starEach es X.env)).any (·.1) = false := by rfl) :
    PEv X (.Call (.Name x p) (e :: es) [] pos) (eNew C φ ga) := by
  refine imp_e (pe_pin C (pe_make M F hr hg hm hb .nil pass0 ha hdb he hpl)) fun σ H Q ⟨N, H0, ρ, L, W, r, sim, z, q⟩ => ?_
  unfold eNew at z
  obtain ⟨rs, e1, z1⟩ := bind_some z
  clear z
  obtain ⟨fs, e2, z2⟩ := Option.map_eq_some_iff.mp z1
  subst z2
  refine ⟨N, H0, ρ, L, W, rs, sim, e1, fun vs H1 T s1 n1 d1 p1 => fun x0 dx hx hdx ne => ?_⟩
  rw [List.append_nil]
  have sm : Same H1 (upd (upd H1 dx (.own x0)) x0 (.ins C dx [])) := (same_upd hdx).trans (same_upd (by rw [upd_ne fun y => ne y.symm]; exact hx))
  have hdx1 : (upd (upd H1 dx (.own x0)) x0 (.ins C dx [])) dx = some (.own x0) := by rw [upd_ne ne, upd_same]
  refine ⟨x0, dx, vs, rs.map (·.d), fs, rfl, by rw [List.length_cons, p1.len]; exact hl ρ rs e1, upd_same, hdx1, ne, ?_, e2, ((sim.kp.tb.same s1).same sm), fun a H' F0 kp kf kt nF ndF rp => ?_⟩
  · exact (p1.look.trk.same sm).mono fun a z y => z.2 (by rw [y]; exact hx)
  · have fr : ∀ b, ((upd (upd H1 dx (.own x0)) x0 (.ins C dx [])) b = none ∨ b = x0) → H b = none := fun b z => by
      rcases z with z | z
      · exact s1.free (sm.free z)
      · rw [z]; exact s1.free hx
    have sH : Same H H' := ⟨fun b o hb nt => kp b o (sm.k b o (s1.k b o hb nt) nt) (fun y => by
      rw [y] at hb
      have := s1.k _ _ hb nt
      rw [hx] at this
      cases this) nt, fun b eb => fr b (kf b eb), fun P q t => kt P q (sm.t P q (s1.t P q t))⟩
    cases rp with
    | nd1 h0 hn h1 h2 =>
      cases hn with
      | obj ek =>
        refine ⟨rfl, x0, a, dx, _, rfl, h1, kp dx _ hdx1 ne trivial, fun ea => ?_⟩
        subst ea
        refine q _ H' _ sH (fun b z => fr b (nF b z)) ndF (.nd1 h0 (.ins ek) h1 (h2.mono fun b z => ?_))
        exact ⟨⟨.new (sim.nw b (fr b z.1)), fun _ w => sim.th b w (fr b z.1)⟩, z.2⟩
end
end Ev
set_option Elab.async false
set_option linter.all false
set_option maxRecDepth 100000
namespace Ev
open PySem PySem.Spec L2
open PyProof.Rows hiding St
section
variable {K : PySem.W.Frag} {S S' : Addr → Prop} {H : Hp} {l : Lv} {v : V} {F : List Addr}
theorem Rp.obj_inv {C dx : Addr} {fd : List (Str × D)} (p : Rp K S H l v (.obj C dx fd) F) : ∃ a fv G, v = .ref a ∧ H a = some (.ins C dx fv) ∧ fv.map (·.1) = fd.map (·.1) ∧ Rps K S H (ch l) (fv.map (·.2)) (fd.map (·.2)) G ∧ ∀ b ∈ G, b ∈ F := by
  cases p with
  | nd0 h h1 h2 h3 => cases h with | obj e => exact ⟨_, _, _, rfl, h1.ins, e, h3, fun _ z => z⟩
  | nd1 h0 h h1 h2 => cases h with | obj e => exact ⟨_, _, _, rfl, h1, e, h2, fun _ z => List.mem_cons_of_mem _ z⟩
end
def eAtO (C : Addr) (f : Str) (fe : EvE) : EvE := fun ρ => (fe ρ).bind fun x => match x.d with
  | .obj C' _ fd => if C' = C then (fd.lookup f).map (part x) else none
  | _ => none
section
variable {X : Cx} {C : Addr} {f : Str} {e value : Expr} {fe : EvE} {fp : EvP} {pos pos' : Pos}
theorem e_atO (c : Cls X.K C) (n : NoAttr X.K C f) (he : PEv X e fe) (hb : attributeBase e f X.env (eval e X.env) = eval e X.env := by rfl) : PEv X (.Attribute e f pos) (eAtO C f fe) := by
  refine imp_e (pe_fld he hb) fun σ H Q ⟨N, H0, ρ, L, W, r, sim, z, q⟩ => ?_
  unfold eAtO at z
  obtain ⟨x, e1, z2⟩ := bind_some z
  clear z
  have z := z2
  clear z2
  split at z
  · rename_i C' dx0 fd hd
    split at z
    · rename_i hC
      subst hC
      obtain ⟨d, e2, z⟩ := Option.map_eq_some_iff.mp z
      subst z
      refine one sim e1 fun v H1 F s1 n1 d1 p1 => ?_
      have new : ∀ a ∈ F, N a ∧ a ∉ W := fun a m => ⟨sim.nw a (n1 a m), fun w => sim.th a w (n1 a m)⟩
      have p2 := p1
      rw [hd] at p2
      obtain ⟨a, fv, G, rfl, h1, h2, h3, h4⟩ := p2.obj_inv
      obtain ⟨u, G2, e3, rp, sub⟩ := fld_rp h2 h3 e2
      exact ⟨a, C', dx0, fv, u, rfl, h1, c, n, e3, part_out q s1 new (fun a z => z.1) rp fun b z => h4 b (sub b z)⟩
    · cases z
  · cases z
def pFldO (C : Addr) (f : Str) (fp : EvP) : EvP := fun ρ => (fp ρ).bind fun z => match z.2.2 with
  | .obj C' _ fd => if C' = C then (fd.findIdx? fun q => q.1 == f).bind fun j => (kids z.2.2)[j]?.map fun e => (z.1, z.2.1 ++ [j], e) else none
  | _ => none
theorem pFldO_some {C : Addr} {f : Str} {ρ : Env} {i : Nat} {p : List Nat} {d : D} (z : pFldO C f fp ρ = some (i, p, d)) : ∃ p0 dx fd j, fp ρ = some (i, p0, .obj C dx fd) ∧ (fd.findIdx? fun q => q.1 == f) = some j ∧ (kids (.obj C dx fd))[j]? = some d ∧ p = p0 ++ [j] := by
  unfold pFldO at z
  obtain ⟨⟨i0, p0, d0⟩, e1, z1⟩ := bind_some z
  clear z
  split at z1
  · rename_i C' dx0 fd hd
    dsimp only at hd
    subst hd
    split at z1
    · rename_i hC
      subst hC
      obtain ⟨j, e2, z2⟩ := bind_some z1
      obtain ⟨e, e3, e4⟩ := Option.map_eq_some_iff.mp z2
      cases e4
      exact ⟨p0, dx0, fd, j, e1, e2, e3, rfl⟩
    · cases z1
  · cases z1
theorem p_fldO {C : Addr} {f : Str} (c : Cls X.K C) (n : NoAttr X.K C f) (h : PPv X e fp) (hb : attributeBase e f X.env (eval e X.env) = eval e X.env := by rfl) : PPv X (.Attribute e f pos) (pFldO C f fp) where
  run := imp_e (pe_fld h.run hb) fun σ H Q ⟨N, H0, ρ, L, W, i, p, d, sim, z, q⟩ => by
    obtain ⟨p0, dx0, fd, j, e1, e2, e3, rfl⟩ := pFldO_some z
    obtain ⟨s, es, hl, hd⟩ := h.ok ρ i p0 _ e1
    obtain ⟨v0, u', S, G, ev, w, r⟩ := sim.way es hl hd
    refine ⟨N, H0, ρ, L, W, i, p0, _, sim, e1, fun u H1 s1 at1 => ?_⟩
    have w1 := at1 v0 ev
    have := w1.fn (w.same s1)
    subst this
    obtain ⟨a, fv, G1, rfl, h1, h2, _, _⟩ := r.obj_inv
    obtain ⟨v, q1, q2⟩ := fld_at h2 e2
    refine ⟨a, C, dx0, fv, v, rfl, s1.k a _ h1 (by first | trivial | exact node_nt (by assumption)), c, n, q1, q v H1 s1 fun v1 e0 => ?_⟩
    rw [ev] at e0
    cases e0
    exact w1.snoc (s1.k a _ h1 (by first | trivial | exact node_nt (by assumption))) q2
  ok := fun ρ i p d z => by
    obtain ⟨p0, dx0, fd, j, e1, e2, e3, rfl⟩ := pFldO_some z
    obtain ⟨s, es, hl, hd⟩ := h.ok ρ i p0 _ e1
    exact ⟨s, es, hl, dAt_snoc hd e3⟩
def sAtPO (C : Addr) (f : Str) (fz : List Nat) (fp : EvP) (fe : EvE) : EvS := fun ρ0 => (fe (frzs fz ρ0)).bind fun r => (fp (frzs fz ρ0)).bind fun z => match z.2.2, (frzs fz ρ0)[z.1]? with
  | .obj C' dx fd, some (some s) => if C' = C ∧ r.vw = false ∧ r.l = .full ∧ fd.length < 1000 then some (.nx ((frzs fz ρ0).set z.1 (some ⟨dSet s.d z.2.1 (.obj C dx (putD f r.d fd)), .full, s.al || r.al, s.pn⟩))) else none
  | _, _ => none
theorem s_atpO (fz : List Nat) (c : Cls X.K C) (n : NoAttr X.K C f) (h : PPv X e fp) (hv : PEv X value fe) (hs : swapsWith value (some (.Attribute e f pos')) pos.line X.env = pure false := by rfl) :
    PSv X (.Assign [.Attribute e f pos'] value pos) (sAtPO C f fz fp fe) := by
  refine imp_s (ps_fld h.run hv hs) fun D σ H ⟨N, H0, ρ0, L0, o, sim0, z, q0⟩ => ?_
  obtain ⟨L, sim, subL⟩ := sim0.frzs fz
  have q := q0.at_ (H1 := H) (L1 := L) ⟨fun _ _ e _ _ => e, fun _ e => .inl e, fun b z => .inl (subL b z)⟩
  unfold sAtPO at z
  generalize frzs fz ρ0 = ρ at sim z
  obtain ⟨r, e1, z1⟩ := bind_some z
  obtain ⟨⟨i, p, d⟩, e2, z2⟩ := bind_some z1
  clear z z1
  dsimp only at z2
  split at z2
  · rename_i C' dx0 fd s es
    split at z2
    · rename_i hc
      obtain ⟨rfl, hvw, hfull, hlen⟩ := hc
      cases z2
      refine one sim.h e1 fun w H1 T s1 n1 d1 p1 => ?_
      rw [hfull] at p1
      obtain ⟨s', es', hl, hd⟩ := h.ok ρ i p _ e2
      rw [es] at es'
      cases es'
      refine ⟨N, H0, ρ, L, L ++ T, i, p, _, sim.h.hold s1 n1 d1 p1.own_mut, e2, fun u H2 s2 at2 => ?_⟩
      obtain ⟨v0, a, o, vs, ds, F, ev, w2, ha, hnd, hx, go⟩ := sim.store es hl hd rfl
      have := (at2 v0 ev).fn ((w2.same s1).same s2)
      subst this
      cases hnd with
      | obj ek =>
        clear hx
        rename_i fv
        have hlen' : fv.length < 1000 := by
          have := congrArg List.length ek
          rw [List.length_map, List.length_map] at this
          omega
        have p2 := (p1.mono (S' := fun b => SR N L r.al false b ∧ b ∉ T) fun a z => ⟨⟨z.1.1, fun _ => z.1.2 hvw⟩, z.2⟩).same s2
        obtain ⟨L', sim', fr⟩ := go (H1 := H2) (e' := .obj C' dx0 (putD f r.d fd)) (o' := .ins C' dx0 (putF f w fv)) (s1.trans s2) n1 d1 p2 trivial (fun r1 r2 nd => by
          obtain ⟨i1, F', i2, i3, i4⟩ := put_rps (f := f) r2 ek r1 nd
          exact ⟨_, _, F', .obj i1, i2, i3, i4⟩)
        exact ⟨a, C', dx0, fv, rfl, s2.k _ _ (s1.k _ _ ha (by first | trivial | exact node_nt (by assumption))) (by first | trivial | exact node_nt (by assumption)), c, n, hlen', q _ _ L' sim' fr⟩
    · cases z2
  · cases z2
end
end Ev
set_option Elab.async false
set_option linter.all false
set_option maxRecDepth 100000
namespace Ev
open PySem PySem.Spec L2
open PyProof.Rows hiding St
end Ev
set_option Elab.async false
set_option linter.all false
set_option maxRecDepth 100000
namespace Ev
open PySem PySem.Spec L2
open PyProof.Rows hiding St
def sBad : EvS := fun _ => none
theorem s_bad {X : Cx} {st : Stmt} : PSv X st sBad := ⟨fun _ _ _ _ _ _ ⟨_, _, _, _, _, _, z, _⟩ => nomatch z⟩
structure MetD (P : Program) (w : World) (K : PySem.W.Frag) (mg : Str → Option Value) (base : Heap) (k : Nat) (C : Addr) (m : Str) (n : Nat) (φ : List D → Option RetD) : Prop where
  ok : ∃ f fd ps, Meth K C m f ∧ FnOk P w K mg base CX0 k f fd ps (spD K n φ) ∧ Binds K fd ps []
structure NewD (P : Program) (w : World) (K : PySem.W.Frag) (mg : Str → Option Value) (base : Heap) (k : Nat) (C : Addr) (x : Str) (n : Nat) (φ : List D → Option (List (Str × D))) : Prop where
  ok : ∃ f fd ps, Mk K C f ∧ mg x = some (.ref C) ∧ FnOk P w K mg base CX0 k f fd ps (spI K n C φ) ∧ Binds K fd ps []
section
variable {X : Cx} {k n : Nat} {C : Addr} {m x : Str} {e o : Expr} {es : List Expr} {fo : EvE} {ga : EvA} {p pos apos : Pos} {φ : List D → Option RetD} {ψ : List D → Option (List (Str × D))}
theorem x_meth0 {pl : Sem Bool} (c : Cls X.K C) (M : MetD X.prog X.w X.K X.mg X.base k C m 1 φ) (hr : Room k X.A) (ho : PEv X o fo)
    (ht : eval (.Call (.Attribute o m apos) [] [] pos) X.env = (do
      let ov ← eval o X.env
      standAt apos.atName
      let (f, first) ← holding [ov] (getMethod ov m pl)
      callWith pos f first (backTo pos (starEach [] X.env)) (backToKw pos (keywordEach [] X.env))) := by rfl) :
    PEv X (.Call (.Attribute o m apos) [] [] pos) (eMeth C m φ fo aNil) := by
  obtain ⟨f, fd, ps, hm, F, hb⟩ := M.ok
  exact e_meth0 c hm F hb hr ho ht
theorem x_new (M : NewD X.prog X.w X.K X.mg X.base k C x n ψ) (hr : Room (k + 1) X.A) (ha : PAv X (e :: es) ga) (hl : ∀ ρ rs, ga ρ = some rs → rs.length + 1 = n) (hg : Gl X x := by rfl)
    (hdb : (x == ("__debug__" : Str)) = false := by decide) (he : starEach (e :: es) X.env = (false, eval e X.env) :: starEach es X.env := by rfl) (hpl : (backTo pos (starEach es X.env)).any (·.1) = false := by rfl) :
    PEv X (.Call (.Name x p) (e :: es) [] pos) (eNew C ψ ga) := by
  obtain ⟨f, fd, ps, hM, hm, F, hb⟩ := M.ok
  exact e_new hM F hr hg hm hb ha hl hdb he hpl
theorem e_gint {i : Int} (hm : ∃ t, X.mg x = some (.int i t)) (hg : Gl X x := by rfl) (hdb : (x == ("__debug__" : Str)) = false := by decide) : PEv X (.Name x pos) (eC (.int i)) := by
  obtain ⟨t, hm⟩ := hm
  exact ⟨fun pins s σ H Q I ⟨N, H0, ρ, L, W, r, sim, z, q⟩ => ld_glob I hg hm (by
    cases z
    exact ⟨.int i, H, I, ⟨t, rfl⟩, q.atom (Same.refl H) fun _ => .int⟩) hdb⟩
end
end Ev
set_option Elab.async false
set_option linter.all false
set_option maxRecDepth 100000
namespace Ev
open PySem PySem.Spec L2
open PyProof.Rows hiding St
def ItiT (d : Addr) (o : Obj) (kvs : List (List Key × V)) : It :=
  ⟨fun i H => H d = some (.frz o (.dT kvs)) ∧ i < kvs.length, fun i H x H' => ∃ T k v q, kvs[i]? = some (k, v) ∧ x = .ref T ∧ H T = none ∧ H q = some (.tup (k.map kV)) ∧ H' = upd H T (.tup [.ref q, v]), fun i H => H d = some (.frz o (.dT kvs)) ∧ kvs.length ≤ i⟩
theorem frzT2 {X : Cx} {pins : List (Addr × Obj)} {σ : St} {H : Hp} {s : Shared} {d : Addr} {o : Obj} {kvs : List (List Key × V)} (I : Inv X pins σ H s) (h : H d = some (.frz o (.dT kvs))) :
    (d == sysModules) = false ∧ s.heap.get? d = some o ∧ o.ExactDict ∧ ∃ (es : Array DictEntry) (ep : Nat), o.data = .dict es ep ∧ es.size = kvs.length ∧
      ∀ (i : Nat) (k : List Key) (v : V), kvs[i]? = some (k, v) → ∃ (en : DictEntry) (q : Addr), es[i]? = some en ∧ en.key = .ref q ∧ H q = some (.tup (k.map kV)) ∧ RelV v en.val := by
  obtain ⟨hd, z, hs, xs, pr, o', es, ep, ho, hx, hdt, he, _⟩ := I.hok d _ h
  rw [hd] at ho
  cases ho
  refine ⟨hs, hd, hx, es, ep, hdt, ?_, fun i k v e => ?_⟩
  · have l1 : es.size = xs.length := size_of_entries he
    have l2 : kvs.length = xs.length := Paired.length pr
    omega
  · obtain ⟨b, hb, e1, e2, e3⟩ := paired_get pr e
    have q := entry_at he i
    rw [hb] at q
    exact ⟨_, b.2.1, q, rfl, e2, e3⟩
section
variable {P : Program} {w : World} {K : PySem.W.Frag} {d : Addr} {o : Obj} {es : Array DictEntry} {ep : Nat}
theorem turn_itemsT {kvs : List (List Key × V)} {elts : List Expr} {kk : Nat} {tpos : Pos} (it : Addr) (hod : o.data = .dict es ep) :
    Turn P w K (.Tuple elts kk tpos) (ItiT d o kvs) [it] it (fun i h => ∃ ok ov, IsItemIter h it d i kvs.length ep ok ov) where
  mem := by simp
  obj := fun i h st b hb => by
    have e : b = it := by simpa using hb
    subst e
    obtain ⟨ok, ov, e⟩ := st
    exact ⟨_, e, fun v z => nomatch z⟩
  keep := fun i h h' st k => let ⟨ok, ov, e⟩ := st; ⟨ok, ov, k it (by simp) _ e⟩
  item := by
    intro X hP hw hK hc i pins s σ H E I hf st hg
    subst hP hw hK
    obtain ⟨hd, hi⟩ := hg
    obtain ⟨hs, hgd, hx, es', ep', hdt, hsz, ent⟩ := frzT2 I hd
    obtain ⟨rfl, rfl⟩ := dict_ep hod hdt
    obtain ⟨⟨k, v⟩, hkv⟩ : ∃ p, kvs[i]? = some p := ⟨kvs[i], List.getElem?_eq_getElem hi⟩
    obtain ⟨en, q, hen, hkey, hq, ru⟩ := ent i k v hkv
    obtain ⟨ok, ov, he⟩ := st
    rw [← hsz] at he
    have hlt : it < s.heap.objs.size := Heap.lt_size he
    have hi' : i < es'.size := by omega
    have hen' : es'[i] = en := by
      have := Array.getElem?_eq_getElem hi'
      rw [hen] at this
      exact (Option.some.inj this).symm
    refine DT.nextI he ⟨o, hgd, hx, hdt⟩ hi' fun h' ho hT hz hk => ?_
    refine ⟨_, rfl, wpAny_letOwnedTupleGo_items (s := { s with heap := h' }) ho fun h'' he' sb => ?_⟩
    rw [hen'] at hT
    have hT2 : h''.get? s.heap.objs.size = some { cls := .type "tuple", data := .seq #[en.key, en.val] } := (sb.2 _ (Nat.ne_of_gt hlt)).trans hT
    have new : ObjOk X.prog X.w (upd H s.heap.objs.size (.tup [.ref q, v])) h'' s.heap.objs.size (.tup [.ref q, v]) :=
      ⟨by show 2 ≤ sizeLine; decide, [en.key, en.val], .cons hkey (.cons ru .nil), ⟨_, hT2, rfl, _, rfl⟩⟩
    have I1 : Inv X pins σ (upd H s.heap.objs.size (.tup [.ref q, v])) { s with heap := h'' } :=
      I.turnedNew (t' := s.toks) (ch := [it]) (fun b ob hb e => (sb.2 b (by simpa using hb)).trans (hk b ob (by simpa using hb) e)) hf (Nat.le_refl _) new
    refine ⟨.ref s.heap.objs.size, _, I1, rfl, ⟨_, k, v, q, hkv, rfl, I.hok.fresh (Nat.le_refl _), hq, rfl⟩, ⟨es'[i].key, es'[i].val, ?_⟩, fun b hb => ?_⟩
    · rw [← hsz]; exact he'
    · have e : b = it := by simpa using hb
      rw [e, upd_ne (Nat.ne_of_lt hlt)]
      exact (hf it (by simp)).1
  done := by
    intro X hP hw hK hc i pins s σ H E I hf st hg
    subst hP hw hK
    obtain ⟨hd, hi⟩ := hg
    obtain ⟨f0, f1, f2, f3, f4, f5⟩ := hf it (by simp)
    obtain ⟨hs, hgd, hx, es', ep', hdt, hsz, ent⟩ := frzT2 I hd
    obtain ⟨rfl, rfl⟩ := dict_ep hod hdt
    obtain ⟨ok, ov, he⟩ := st
    rw [← hsz] at he
    exact DT.endI (I.ok.hd hc) he ⟨o, hgd, hx, hdt⟩ (by omega) fun h' eb => ⟨rfl, I.turned (t' := s.toks) (fun b ob hb e => eb b ob hb e) f0 f1 f3 f4 f5⟩
  self := fun A i s Q E st h => let ⟨_, _, e⟩ := st; PySem.W.kcp_self e h
end
def iItemsT (td : TE) : TI := fun σ H R => td σ H fun x H1 => ∃ d o kvs, x = .ref d ∧ H1 d = some (.frz o (.dT kvs)) ∧ R (ItiT d o kvs) H1
section
variable {X : Cx} {tg e : Expr} {td : TE} {apos cpos : Pos}
theorem pi_itemsT {elts : List Expr} {kk : Nat} {tpos : Pos} (he : PE X e td) (hbase : attributeBase e "items" X.env (eval e X.env) = eval e X.env := by rfl) (hline : (apos.endLine == cpos.line) = true := by rfl) :
    PI X (.Tuple elts kk tpos) (.Call (.Attribute e "items" apos) [] [] cpos) (iItemsT td) := by
  refine ⟨fun pins s σ H R I h => ?_⟩
  refine wpAny_Call_method (T := "dict") (id := "dict.items") hbase rfl hline F.plainAttrs_dict F.slot_dict_items F.type_dict_items (thn (he.run pins s σ H _ I h) fun u s1 ⟨x, H1, I1, rx, d, o, kvs, ex, hd, q⟩ => ?_)
  subst ex
  obtain rfl : u = Value.ref d := rx
  obtain ⟨hs, hgd, hx, es, ep, hdt, hsz, ent⟩ := frzT2 I1 hd
  have rw0 : DT.Raw s1.heap d es ep := ⟨o, hgd, hx, hdt⟩
  refine ⟨rw0.typeIs, fun a e => by cases e; exact ⟨o, hgd, hx.2.1⟩, ?_⟩
  have I2 : Inv X pins σ H1 { s1 with heap := s1.heap.push { cls := .type "dict_items", data := .fields #[.ref d] } } := I1.kept (t' := s1.toks) fun b ob q => Heap.get?_push_of_some _ q
  have fin : wpAny (model X.prog X.w) X.A (pyIter (.ref s1.heap.objs.size)) (PIE X pins σ (.Tuple elts kk tpos) R) X.xe { s1 with heap := s1.heap.push { cls := .type "dict_items", data := .fields #[.ref d] } } := by
    refine DT.iterI (d := d) ⟨_, Heap.get?_push_size _ rfl, rfl, rfl⟩ (rw0.push _) (pi_one (tk := s1.toks) I2 _ (turn_itemsT _ hdt) ⟨.none, .none, ?_⟩ q)
    rw [← hsz]
    exact Heap.get?_push_size _ rfl
  show wpAny _ _ (callWith cpos (.builtin "dict.items") [.ref d] [] []) _ X.xe s1
  exact method_meetsIn F.slot_dict_items F.entry_dict_items rfl (PySem.evalArgs_none ⟨rfl, rw0.typeIs, F.args_dict_items_1 _, _, DT.meetsItems (es := es) (ep := ep) hs, rw0, fin⟩)
end
end Ev
set_option Elab.async false
set_option linter.all false
set_option maxRecDepth 100000
namespace Ev
open PySem PySem.Spec L2
open PyProof.Rows hiding St
def rdFld (C : Addr) (f : Str) (i : Nat) : Env → Option D := fun ρ => match ρ[i]? with
  | some (some s) => match s.d with
    | .ins C' fd => if C' = C then fd.lookup f else none
    | _ => none
  | _ => none
def isDct : D → Bool
  | .dk _ => true
  | .dt _ => true
  | _ => false
structure DP (X : Cx) (e : Expr) (fd : Env → Option D) : Prop where
  run : ∃ te, PE X e te ∧ ∀ {N : Nw} {H0 H : Hp} {ρ : Env} {σ : St} {L W : List Addr} {dd : D}, SimH X.K N H0 ρ σ H L W → fd ρ = some dd → isDct dd = true →
    ∃ d u vs ds, Rd H d u ∧ Node dd u vs ds ∧ (∃ S l F, Rps X.K S H l vs ds F) ∧ ∀ {H2 : Hp} {R : VK}, (∀ b o, b ≠ d → H b = some o → H2 b = some o) → R (.ref d) H2 → te σ H2 R
theorem rp_dct {K : PySem.W.Frag} {S : Addr → Prop} {H : Hp} {l : Lv} {v : V} {dd : D} {F : List Addr} (r : Rp K S H l v dd F) (h : isDct dd = true) : ∃ d u vs ds, v = .ref d ∧ Rd H d u ∧ Node dd u vs ds ∧ ∃ S l F, Rps K S H l vs ds F := by
  cases r with
  | nd0 hn h1 h2 h3 => exact ⟨_, _, _, _, rfl, h1.rd, hn, _, _, _, h3⟩
  | nd1 h0 hn h1 h2 => exact ⟨_, _, _, _, rfl, .inl h1, hn, _, _, _, h2⟩
  | _ => cases h
section
variable {X : Cx} {e : Expr} {pos : Pos} {C : Addr} {f : Str}
theorem dp_fld (i : Nat) {x : Str} {pos' : Pos} (c : Cls X.K C) (n : NoAttr X.K C f) (hN : X.N[i]? = some x := by rfl) (hv : Vis X.env.scope x := by first | exact Or.inl rfl | exact Or.inr (Or.inl rfl) | exact Or.inr (Or.inr rfl)) (hd : (x == ("__debug__" : Str)) = false := by decide)
    (hcd : (x == ("__classdict__" : Str)) = false := by decide) (hb : attributeBase (.Name x pos') f X.env (eval (.Name x pos') X.env) = eval (.Name x pos') X.env := by rfl) : DP X (.Attribute (.Name x pos') f pos) (rdFld C f i) := by
  refine ⟨_, pe_fld (pe_var hN hv hd hcd) hb, fun {N H0 H ρ σ L W dd} sim z hD => ?_⟩
  unfold rdFld at z
  split at z
  · rename_i s es
    split at z
    · rename_i C' fd hsd
      split at z
      · rename_i hC
        subst hC
        obtain ⟨v, G, ev, rp, _⟩ := sim.sl.get es
        rw [hsd] at rp
        obtain ⟨a, dx, fv, G2, rfl, h1, h2, h3, h4⟩ := rp.ins_inv
        obtain ⟨u0, G3, e3, rp3, sub⟩ := fld_rp h2 h3 z
        obtain ⟨d, u, vs, ds, rfl, hu, hn, hr⟩ := rp_dct rp3 hD
        refine ⟨d, u, vs, ds, hu, hn, hr, fun {H2 R} k r => ⟨_, ev, a, C', dx, fv, _, rfl, k a _ (fun y => ?_) h1, c, n, e3, r⟩⟩
        rcases hu with hu | ⟨od, hu⟩
        · rw [y, hu] at h1
          cases h1
          cases hn <;> cases hD
        · rw [y, hu] at h1
          cases h1
      · cases z
    · cases z
  · cases z
end
def keyD : Key → D
  | .inl i => .int i
  | .inr x => .str x
def itDT : D → Option (List D)
  | .dt kd => if immAll (kd.map (·.2)) = true then some (kd.map fun p => .tup [.tup (p.1.map keyD), p.2]) else none
  | _ => none
def hideN (ρ : Env) : Env := ρ.map fun s => match s with
  | some s => if imm s.d = true then some ⟨s.d, .full, false, none⟩ else none
  | none => none
theorem key_rp {K : PySem.W.Frag} {S : Addr → Prop} {H : Hp} {l : Lv} (k : Key) : Rp K S H l (kV k) (keyD k) [] := by
  cases k with
  | inl i => exact .int
  | inr x => exact .str
theorem keys_rp {K : PySem.W.Frag} {S : Addr → Prop} {H : Hp} {l : Lv} : ∀ ks : List Key, Rps K S H l (ks.map kV) (ks.map keyD) []
  | [] => .nil
  | k :: ks => Rps.cons (F := []) (G := []) (key_rp k) (keys_rp ks)
theorem hide_slots {K : PySem.W.Frag} {N : Nw} {L : List Addr} {H H2 : Hp} {N2 : Nw} (hk : ∀ b o, H b = some o → (¬ Mut (some o)) → H2 b = some o) : ∀ {σ : St} {ρ : Env} {F : List Addr}, Slots K N L H σ ρ F → Slots K N2 [] H2 σ (hideN ρ) []
  | _, _, _, .nil => .nil
  | _, _, _, .no h => .no (hide_slots hk h)
  | _, _, _, .so (s := s) (v := v) h0 h1 h => by
    show Slots K N2 [] H2 _ ((if imm s.d = true then some ⟨s.d, .full, false, none⟩ else none) :: hideN _) []
    by_cases hi : imm s.d = true
    · rw [if_pos hi]
      refine Slots.so (s := ⟨s.d, .full, false, none⟩) (F := []) (G := []) (fun _ z => nomatch z) ?_ (hide_slots hk h)
      have := (h1.of_imm (S' := fun _ => False) (l' := .shr) hi).2
      have := this.keep (H' := H2) fun b o e _ q => hk b o e (by
        rcases q with q | q | ⟨xs, rfl⟩ | ⟨o', u, rfl⟩
        · exact q.elim
        · exact nomatch q
        · exact fun z => z
        · exact fun z => z)
      exact (this.of_imm hi).2
    · rw [if_neg hi]
      exact .no (hide_slots hk h)
def eLcD (itD : D → Option (List D)) (fd : Env → Option D) (vs : List Nat) (t : Tg) (c : EvT) (e : EvE) : EvE := fun ρ => (fd ρ).bind fun x => (itD x).bind fun ds => (lcL t c e (wipeE vs (hideN ρ)) (ds.map fun d => (d, false))).bind fun rs => (mkBig rs).map fun r => ⟨r.d, r.l, false, false⟩
theorem immAll_get : ∀ {ds : List D} {i : Nat} {d : D}, immAll ds = true → ds[i]? = some d → imm d = true := fun {ds i d} h e => by
  rw [immAll_all] at h
  exact List.all_eq_true.mp h d (List.mem_of_getElem? e)
section
variable {K : PySem.W.Frag} {S : Addr → Prop} {H' : Hp} {x : Addr} {od : Obj} {u : HO}
mutual

theorem Rp.unlock (hx : H' x = some (.frz od u)) (hu : ∀ xs, u ≠ .lst xs) (hS : ∀ a, S a → a ≠ x) : ∀ {l : Lv} {v : V} {d : D} {F : List Addr}, Rp K S H' l v d F → (∀ a ∈ F, a ≠ x) → Rp K S (upd H' x u) l v d F
  | _, _, _, _, .any, _ => .any
  | _, _, _, _, .exc, _ => .exc
  | _, _, _, _, .sh h1, _ => .sh (Rp.unlock hx hu hS h1 (fun _ z => nomatch z))
  | _, _, _, _, .non, _ => .non
  | _, _, _, _, .bl, _ => .bl
  | _, _, _, _, .int, _ => .int
  | _, _, _, _, .str, _ => .str
  | _, _, _, _, .tup h1 h2, hF => .tup (by rw [upd_ne (fun y => by rw [y, hx] at h1; cases h1)]; exact h1) (Rps.unlock hx hu hS h2 hF)
  | _, _, _, _, .fl h1 h3, hF => .fl (by
      rcases h1 with ⟨o, h1⟩ | h1
      · exact .inl ⟨o, by rw [upd_ne (fun y => by rw [y, hx] at h1; cases h1; exact hu _ rfl)]; exact h1⟩
      · exact .inr h1) (Rps.unlock hx hu hS h3 (fun _ z => nomatch z))
  | _, _, _, _, .nd0 h0 h1 h2 h3, hF => .nd0 h0 (h1.imp fun _ e => by rw [upd_ne (hS _ h2)]; exact e) h2 (Rps.unlock hx hu hS h3 (fun _ z => nomatch z))
  | _, _, _, _, .nd1 h0 h1 h2 h3, hF => .nd1 h0 h1 (by rw [upd_ne (hF _ List.mem_cons_self)]; exact h2) (Rps.unlock hx hu hS h3 (fun a z => hF a (List.mem_cons_of_mem _ z)))
theorem Rps.unlock (hx : H' x = some (.frz od u)) (hu : ∀ xs, u ≠ .lst xs) (hS : ∀ a, S a → a ≠ x) : ∀ {l : Lv} {vs : List V} {ds : List D} {F : List Addr}, Rps K S H' l vs ds F → (∀ a ∈ F, a ≠ x) → Rps K S (upd H' x u) l vs ds F
  | _, _, _, _, .nil, _ => .nil
  | _, _, _, _, .cons h1 h2, hF => .cons (Rp.unlock hx hu hS h1 fun a z => hF a (List.mem_append_left _ z)) (Rps.unlock hx hu hS h2 fun a z => hF a (List.mem_append_right _ z))
end
end
section
variable {X : Cx} {elt e : Expr} {ifs : List Expr} {scope : Scope} {own : List (Str × Nat)} {pos apos cpos tpos : Pos} {t : Tg} {c : EvT} {fe : EvE} {fd : Env → Option D} {elts : List Expr} {kk : Nat}
theorem yld_dt {K : PySem.W.Frag} {N : Nw} {H2 : Hp} {d : Addr} {o : Obj} {kv : List (List Key × V)} {kd : List (List Key × D)} {S : Addr → Prop} {l : Lv} {F : List Addr} (hd : H2 d = some (.frz o (.dT kv))) (hk : kv.map (·.1) = kd.map (·.1)) (hr : Rps K S H2 l (kv.map (·.2)) (kd.map (·.2)) F) (hi : immAll (kd.map (·.2)) = true) :
    YldS K N [] H2 (ItiT d o kv) ((kd.map fun p => D.tup [.tup (p.1.map keyD), p.2]).map fun d => (d, false)) where
  go := fun i d' al H3 e s => by
    refine ⟨s.k d _ hd (by first | trivial | exact node_nt (by assumption)), ?_⟩
    have := (List.getElem?_eq_some_iff.mp e).1
    have e2 := congrArg List.length hk
    simp at this e2
    omega
  yld := fun i d' al H3 x H4 e s y => by
    obtain ⟨T, k, v, q, e1, rfl, hT, hq, rfl⟩ := y
    rw [List.getElem?_map, List.getElem?_map] at e
    obtain ⟨d2, e2, e3⟩ := Option.map_eq_some_iff.mp e
    obtain ⟨p, e4, rfl⟩ := Option.map_eq_some_iff.mp e2
    cases e3
    have hk1 : k = p.1 := by
      have := congrArg (fun l => l[i]?) hk
      simp only [List.getElem?_map, e1, e4, Option.map_some] at this
      exact Option.some.inj this
    subst hk1
    have sm : Same H3 (upd H3 T (.tup [.ref q, v])) := same_upd hT
    obtain ⟨w, G, e5, rp, _⟩ := hr.get (i := i) (d := p.2) (by rw [List.getElem?_map, e4]; rfl)
    rw [List.getElem?_map, e1] at e5
    cases e5
    have ip := immAll_get hi (i := i) (d := p.2) (by rw [List.getElem?_map, e4]; rfl)
    refine ⟨sm, .tup upd_same (Rps.cons (F := []) (G := []) (.tup (sm.k q _ hq (by first | trivial | exact node_nt (by assumption))) (keys_rp _)) (Rps.cons (F := []) (G := []) ?_ .nil))⟩
    exact ((rp.same (s.trans sm)).of_imm ip).2
  stop := fun H3 s => ⟨s.k d _ hd (by first | trivial | exact node_nt (by assumption)), by
    have e2 := congrArg List.length hk
    simp at e2 ⊢
    omega⟩
theorem lcD_core {vs : List Nat} (hv : (tgSlots t).all (fun j => decide (j ∈ vs)) = true) {N : Nw} {H0 H : Hp} {ρ : Env} {σ : St} {L W : List Addr} {ds : List D} {rs : List Rv} {r : Rv} {d : Addr} {u : HO} {od : Obj} {Q : VK} {J : It} (sim : SimH X.K N H0 ρ σ H L W) (hu : H d = some u) (mu : Mut (some u)) (neu : NE u) (hl : ∀ xs, u ≠ .lst xs)
    (e2 : lcL t c fe (wipeE vs (hideN ρ)) (ds.map fun d => (d, false)) = some rs) (e3 : mkBig rs = some r) (q : Post X.K N W H ⟨r.d, r.l, false, false⟩ Q)
    (Y : YldS X.K ⟨fun a => upd H d (.frz od u) a = none, fun _ => False, fun _ => 0⟩ [] (upd H d (.frz od u)) J (ds.map fun d => (d, false))) :
    tLc (fun _ _ R => R J (upd H d (.frz od u))) (tG X.K t) (tT X.K c) (tE X.K fe) vs σ (upd H d (.frz od u)) fun v H' => H' d = some (.frz od u) ∧ Q v (upd H' d u) := by
  have kp : ∀ b o, H b = some o → ¬ Mut (some o) → upd H d (.frz od u) b = some o := fun b o e n => by
    rw [upd_ne]
    · exact e
    · rintro rfl
      rw [hu] at e
      cases e
      exact n mu
  have sim2 : SimH X.K ⟨fun a => upd H d (.frz od u) a = none, fun _ => False, fun _ => 0⟩ (upd H d (.frz od u)) (hideN ρ) σ (upd H d (.frz od u)) [] [] :=
    ⟨.refl (sim.kp.tb.upd hu neu), fun _ e => e, List.nodup_nil, (fun _ z => nomatch z), (fun _ z => nomatch z), hide_slots kp sim.sl, (fun _ z => nomatch z), List.nodup_nil⟩
  refine lc_core (H := upd H d (.frz od u)) hv sim2 e2 e3 (fun v H' F s n nd rp => ?_) (Same.refl _) Y
  have hd' : H' d = some (.frz od u) := s.k d _ upd_same (by first | trivial | exact node_nt (by assumption))
  have nH : ∀ a, upd H d (.frz od u) a = none → H a = none ∧ a ≠ d := fun a e => by
    by_cases ha : a = d
    · subst ha
      rw [upd_same] at e
      cases e
    · rw [upd_ne ha] at e
      exact ⟨e, ha⟩
  have sm : Same H (upd H' d u) := ⟨fun b o e nt => by
    by_cases hb : b = d
    · subst hb
      rw [upd_same]
      rw [hu] at e
      exact e
    · rw [upd_ne hb]
      exact s.k b o (by rw [upd_ne hb]; exact e) nt, fun b e => by
    by_cases hb : b = d
    · subst hb
      rw [upd_same] at e
      cases e
    · rw [upd_ne hb] at e
      exact (nH b (s.f b e)).1, fun P q t => tabS_upd hd' trivial (s.t P q (tabS_upd hu neu t))⟩
  refine ⟨hd', q v _ F sm (fun a z => (nH a (n a z)).1) nd ?_⟩
  have rp2 : Rp X.K (fun a => (H a = none ∧ a ≠ d) ∧ a ∉ F) H' r.l v r.d F := rp.mono fun a z => ⟨nH a (z.1.1.1.elim id fun y => y.elim), z.2⟩
  exact (rp2.unlock hd' hl (fun a z => z.1.2) fun a z => (nH a (n a z)).2).mono fun a z => ⟨⟨.new (sim.nw a z.1.1), fun _ w => sim.th a w z.1.1⟩, z.2⟩
theorem lcD_core2 {vs : List Nat} (hv : (tgSlots t).all (fun j => decide (j ∈ vs)) = true) {N : Nw} {H0 H : Hp} {ρ : Env} {σ : St} {L W : List Addr} {ds : List D} {rs : List Rv} {r : Rv} {Q : VK} {J : It} (sim : SimH X.K N H0 ρ σ H L W)
    (e2 : lcL t c fe (wipeE vs (hideN ρ)) (ds.map fun d => (d, false)) = some rs) (e3 : mkBig rs = some r) (q : Post X.K N W H ⟨r.d, r.l, false, false⟩ Q)
    (Y : YldS X.K ⟨fun a => H a = none, fun _ => False, fun _ => 0⟩ [] H J (ds.map fun d => (d, false))) :
    tLc (fun _ _ R => R J H) (tG X.K t) (tT X.K c) (tE X.K fe) vs σ H Q := by
  have sim2 : SimH X.K ⟨fun a => H a = none, fun _ => False, fun _ => 0⟩ H (hideN ρ) σ H [] [] :=
    ⟨.refl sim.kp.tb, fun _ e => e, List.nodup_nil, (fun _ z => nomatch z), (fun _ z => nomatch z), hide_slots (fun _ _ e _ => e) sim.sl, (fun _ z => nomatch z), List.nodup_nil⟩
  refine lc_core (H := H) hv sim2 e2 e3 (fun v H' F s n nd rp => ?_) (Same.refl _) Y
  have rp : Rp X.K (fun a => (((H a = none ∨ False) ∧ _) ∧ _) ∧ _) H' r.l v r.d F := rp
  exact q v _ F s n nd (rp.mono fun a z => ⟨⟨.new (sim.nw a (z.1.1.1.elim id fun y => y.elim)), fun _ w => sim.th a w (z.1.1.1.elim id fun y => y.elim)⟩, z.2⟩)
theorem pe_lockO {X : Cx} {e : Expr} {t : TE} (h : PE X e t) : PE X e (fun σ H Q => tLockE t σ H Q ∨ t σ H Q) := ⟨fun pins s σ H Q I hw => hw.elim ((pe_lock h).run pins s σ H Q I) (h.run pins s σ H Q I)⟩
theorem e_lcDT (own : List (Str × Nat)) (hc : X.calm = true) (hN : X.N.Nodup) (he : DP X e fd) (ok : BlkOk X.N X.env.scope scope own)
    (hg : ∀ (s : Shared) (H : Hp) (C : Addr) (cl : List (Str × Addr)) (fp : List Addr), PGv (X.blk s H scope (compEnvC scope cl C X.env) fp) (.Tuple elts kk tpos) t) (ht : ∀ (s : Shared) (H : Hp) (C : Addr) (cl : List (Str × Addr)) (fp : List Addr), PTsv (X.blk s H scope (compEnvC scope cl C X.env) fp) ifs c)
    (hel : ∀ (s : Shared) (H : Hp) (C : Addr) (cl : List (Str × Addr)) (fp : List Addr), PEv (X.blk s H scope (compEnvC scope cl C X.env) fp) elt fe) (hv : (tgSlots t).all (fun j => decide (j ∈ own.map (·.2))) = true := by rfl)
    (hs : ∀ x, foldedSetIterable (.Call (.Attribute e "items" apos) [] [] cpos) X.env x = pure x := by intro _; rfl) (hbase : attributeBase e "items" X.env (eval e X.env) = eval e X.env := by rfl) (hline : (apos.endLine == cpos.line) = true := by rfl) :
    PEv X (.ListComp elt [⟨.Tuple elts kk tpos, .Call (.Attribute e "items" apos) [] [] cpos, ifs, 0⟩] scope pos) (eLcD itDT fd (own.map (·.2)) t c fe) := by
  obtain ⟨te, pe, run⟩ := he.run
  refine imp_e (pe_lockO (pe_lc (g := tG X.K t) (tt := tT X.K c) (te := tE X.K fe) hc hN (pi_itemsT pe hbase hline) ok hg ht hel hs)) fun σ H Q h => ?_
  obtain ⟨N, H0, ρ, L, W, r, sim, z, q⟩ := h
  unfold eLcD at z
  obtain ⟨dd, e0, z⟩ := bind_some z
  obtain ⟨ds, e1, z⟩ := bind_some z
  obtain ⟨rs, e2, z⟩ := bind_some z
  obtain ⟨r0, e3, z⟩ := Option.map_eq_some_iff.mp z
  subst z
  unfold itDT at e1
  split at e1
  · rename_i kd
    split at e1
    · rename_i hi
      cases e1
      obtain ⟨d, u, vs, es, hu, hn, ⟨S, l, F, hr⟩, go⟩ := run sim e0 rfl
      cases hn with
      | dt hk =>
        rename_i kv
        rcases hu with hu | ⟨od, hfr⟩
        case inr =>
          refine .inr (go (fun _ _ _ e => e) ⟨d, od, kv, rfl, hfr, ?_⟩)
          exact lcD_core2 hv sim e2 e3 q (yld_dt (S := S) (l := l) (F := F) hfr hk hr hi)
        refine .inl ⟨d, _, hu, trivial, fun od => ?_⟩
        have hfr : upd H d (.frz od (.dT kv)) d = some (.frz od (.dT kv)) := upd_same
        refine go (fun b o hb e => by rw [upd_ne hb]; exact e) ⟨d, od, kv, rfl, hfr, ?_⟩
        refine lcD_core hv sim hu trivial trivial (fun _ z => nomatch z) e2 e3 q (yld_dt (S := fun _ => False) (l := .shr) (F := []) hfr hk ?_ hi)
        have h2 := (hr.of_imm (S' := fun _ => False) (l' := .shr) hi).2
        exact h2.keep fun b o e _ qq => by
          have hb : b ≠ d := fun y => by
            subst y
            rw [hu] at e
            cases e
            rcases qq with qq | qq | ⟨xs, qq⟩ | ⟨o', u', qq⟩
            · exact qq.elim
            · exact nomatch qq
            · cases qq
            · cases qq
          rw [upd_ne hb]
          exact e
    · cases e1
  · cases e1
end
end Ev
set_option Elab.async false
set_option linter.all false
set_option maxRecDepth 100000
namespace Ev
open PySem PySem.Spec L2
open PyProof.Rows hiding St
end Ev
set_option Elab.async false
set_option linter.all false
set_option maxRecDepth 100000
namespace Ev
open PySem PySem.Spec L2
open PyProof.Rows hiding St
section
variable {prog : Program} {w : World} {A : Around} {E : Value → Shared → Prop} {s : Shared}
theorem init_rev {R : Result → Shared → Prop} {it l S : Addr} {items : Array Value} (hh : A.handled = none) (hit : s.heap.IsRevIter it l ((items.size : Int) - 1)) (hl : s.heap.IsList l items) (hne : l ≠ it) (hn : items.size ≤ sizeLine) (hSi : S ≠ it) (hSl : S ≠ l)
    (hS : s.heap.get? S = some { cls := .type "list", data := .seq #[] })
    (hR : ∀ h' tk acc' c', (∀ b o, b ≠ S → b ≠ it → s.heap.get? b = some o → h'.get? b = some o) → h'.get? S = some { cls := .type "list", dict := none, data := .seq acc' c', slots := #[] } →
      ItemsOf (fun i v => items[items.size - 1 - i]? = some v) acc' items.size → R (.ok (.ret .none)) { s with heap := h', toks := tk }) :
    wpAny (model prog w) A.in1 (Builtin.«list.__init__» ⟨[.ref S, .ref it], []⟩)
      (fun fin s' => match fin with | .done f => R (.ok f) s' | .again c' => c'.quiet = true ∧ codeAny (model prog w) A c' R s') (fun e s' => R (.error e) s') s := by
  show wpAny _ _ (do let old ← Builtin.List.listItems (.ref S); Builtin.List.listUpdate (.ref S) (fun _ => #[]); letGo old.toList.reverse; Builtin.List.listExtendWith (.ref S) (.ref it) .none) _ _ s
  refine wpAny_bind ?_
  unfold Builtin.List.listItems
  refine wpAny_bind (wpAny_seqItems hS rfl (wpAny_pure ?_))
  show wpAny _ _ (updateSeq S (fun _ => #[]) >>= fun _ => letGo (#[] : Array Value).toList.reverse >>= fun _ => Builtin.List.listExtendWith (.ref S) (.ref it) .none) _ _ s
  refine wpAny_bind (wpAny_updateSeq hS rfl ?_)
  have hS₂ := Heap.get?_update_self (Obj.mapSeq (fun _ => (#[] : Array Value))) hS rfl
  have oth : ∀ b o, b ≠ S → s.heap.get? b = some o → (s.heap.update S (Obj.mapSeq (fun _ => (#[] : Array Value)))).get? b = some o :=
    fun b o hb e => (Heap.get?_update_other _ _ (Ne.symm hb)).trans e
  refine wpAny_bind (wpAny_letGo ?_)
  have hit1 : (s.heap.update S (Obj.mapSeq (fun _ => (#[] : Array Value)))).IsRevIter it l ((items.size : Int) - 1) := hit.at fun o e => oth it o (Ne.symm hSi) e
  have hl1 : (s.heap.update S (Obj.mapSeq (fun _ => (#[] : Array Value)))).IsList l items := by
    obtain ⟨o, ho, r⟩ := hl
    exact ⟨o, oth l o (Ne.symm hSl) ho, r⟩
  have W := (Walks.listRev (prog := prog) (w := w) (A := A.in1) hh it l hne items).toS
  have hSf : S ∉ [it, l] := by simp only [List.mem_cons, List.not_mem_nil, or_false, not_or]; exact ⟨hSi, hSl⟩
  have hT : ({ s with heap := s.heap.update S (Obj.mapSeq (fun _ => (#[] : Array Value))) } : Shared).TypeIs (.ref it) "list_reverseiterator" := Heap.IsRevIter.typeIs (s := { s with heap := s.heap.update S (Obj.mapSeq (fun _ => (#[] : Array Value))) }) hit1
  have h1 : Builtin.List.listSameRef (.ref S) (.ref it) = false := by simp [Builtin.List.listSameRef, hSi]
  unfold Builtin.List.listExtendWith
  refine wpAny_bind (wpAny_typeOf hT ?_)
  rw [if_neg (by rw [h1]; decide)]
  refine wpAny_bind (wpAny_pyIter_revIter (s := { s with heap := s.heap.update S (Obj.mapSeq (fun _ => (#[] : Array Value))) }) hit1 ?_)
  refine wpAny_bind (wpAny_holding ?_)
  unfold Builtin.List.listLengthHint
  refine wpAny_bind (wpAny_specialOf hT RT.nolen_lri ?_)
  show wpAny _ A.in1 (specialOf (Value.ref it) (Str.ofString "__length_hint__") >>= _) _ _ _
  refine wpAny_bind (wpAny_specialOf hT RT.hint_lri ?_)
  generalize hid : ("list_reverseiterator.__length_hint__" : String) = id0
  wp_delta
  rw [show splitId id0 = some ("list_reverseiterator", "__length_hint__") from by subst hid; decide +kernel]
  subst hid
  refine wpAny_bind (wpAny_isInstance (b := true) hT (by rw [isSubtype_type]; kernel_rfl) ?_)
  refine wpAny_pure ?_
  rw [if_neg (by decide)]
  have e0 : ((items.size : Nat) : Int) - 1 - ((0 : Nat) : Int) = (items.size : Int) - 1 := by omega
  refine wpAny_pure ⟨plainId_quiet F.plain_extend_loop _, codeAny_extend_loopS W hn S hSf .none items.size 0 _ #[] _ rfl (Nat.zero_le _) ⟨Nat.zero_le _, by rw [e0]; exact hit1, hl1⟩ hS₂ (ItemsOf.nil _) fun s' acc' c' hm hS' hacc => ?_⟩
  rw [Moved.eq_with hm]
  refine hR s'.heap s'.toks acc' c' (fun b o hb hb2 e => hm.heap b o (fun hmem => ?_) (oth b o hb e)) hS' hacc
  rcases List.mem_cons.mp hmem with e' | hmem
  · exact hb e'
  · exact hb2 (List.mem_singleton.mp hmem)
theorem call_list_rev {Q : Value → Shared → Prop} {it l : Addr} {items : Array Value} (hh : A.handled = none) (hit : s.heap.IsRevIter it l ((items.size : Int) - 1)) (hl : s.heap.IsList l items) (hne : l ≠ it) (hn : items.size ≤ sizeLine)
    (hQ : ∀ h' tk acc' c', (∀ b o, b ≠ it → s.heap.get? b = some o → h'.get? b = some o) →
      h'.get? s.heap.objs.size = some { cls := .type "list", dict := none, data := .seq acc' c', slots := #[] } → ItemsOf (fun i v => items[items.size - 1 - i]? = some v) acc' items.size → Q (.ref s.heap.objs.size) { s with heap := h', toks := tk }) :
    wpAny (model prog w) A (call (.type "list") [.ref it]) Q E s := by
  refine callType_codes (Q₁ := fun obj s₁ => obj = .ref s.heap.objs.size ∧ s₁ = { s with heap := s.heap.push { cls := .type "list", data := .seq #[] } }) F.called_list (F.typeCall_list_1 _) F.entry_list_init
    (code_list_new _ ⟨rfl, rfl⟩) fun obj s₁ h₁ => ?_
  obtain ⟨rfl, rfl⟩ := h₁
  have hS : (s.heap.push { cls := .type "list", data := .seq #[] }).get? s.heap.objs.size = some { cls := .type "list", data := .seq #[] } := Heap.get?_push_size _ rfl
  obtain ⟨oi, hoi, _⟩ := id hit
  obtain ⟨ol, hol, _⟩ := id hl
  refine ⟨⟨_, hS, rfl⟩, F.args_list_init_2 _ _, init_rev (A := A.in1) hh (hit.at fun o e => Heap.get?_push_of_some _ e) (hl.push _) hne hn (Nat.ne_of_gt (Heap.lt_size hoi)) (Nat.ne_of_gt (Heap.lt_size hol)) hS fun h' tk acc' c' hk hS' hacc => ?_⟩
  exact ⟨rfl, hQ h' tk acc' c' (fun b o hb e => hk b o (Nat.ne_of_lt (Heap.lt_size e)) hb (Heap.get?_push_of_some _ e)) hS' hacc⟩
end
section
variable {X : Cx} {e : Expr} {es : List Expr} {fa fb : EvE} {ga : EvA} {pos : Pos} {ta : TE} {t : TA}
theorem pe_lstRev {p p2 pos2 : Pos} (hc : X.calm = true) (hg : Gl X "list") (hm : X.mg "list" = none) (hg2 : Gl X "reversed") (hm2 : X.mg "reversed" = none) (ha : PA X (e :: es) t)
    (he : starEach (e :: es) X.env = (false, eval e X.env) :: starEach es X.env := by rfl) (hpl : (backTo pos2 (starEach es X.env)).any (·.1) = false := by rfl)
    (hs2 : starEach [.Call (.Name "reversed" p2) (e :: es) [] pos2] X.env = (false, eval (.Call (.Name "reversed" p2) (e :: es) [] pos2) X.env) :: starEach [] X.env := by rfl) :
    PE X (.Call (.Name "list" p) [.Call (.Name "reversed" p2) (e :: es) [] pos2] [] pos) (fun σ H Q => t σ H fun vs H1 => ∃ (a : Addr) (xs : List V), vs = [.ref a] ∧ SqL X.K H1 a xs ∧ ∀ q, H1 q = none → Q (.ref q) (upd H1 q (.lst xs.reverse))) := by
  refine ⟨fun pins s σ H Q I h => ?_⟩
  refine Call_ (ld_blt I hg hm boot_list (PyProof.Rows.callWith_type1 (args_cons (Call_ (ld_blt I hg2 hm2 PyProof.Rows.boot_reversed (PyProof.Rows.callWith_type1 (thn (ha.run pos2 pins s σ H _ I h) fun us s1 ⟨vs, H1, I1, r1, q1⟩ => ?_) he hpl))) hs2) hs2 rfl))
  obtain ⟨a, xs, ev, hq, q⟩ := q1
  subst ev
  rw [Vals.ref1 r1]
  obtain ⟨its, rv, p', hz⟩ := I1.list hq
  refine call_reversed_list p'.isList (args_nil ?_)
  have k0 : ∀ b o, s1.heap.get? b = some o → (s1.heap.push (revObj a ((its.toArray.size : Int) - 1))).get? b = some o := fun b o e => Heap.get?_push_of_some _ e
  have I2 : Inv X pins σ H1 { s1 with heap := s1.heap.push (revObj a ((its.toArray.size : Int) - 1)) } := I1.kept (t' := s1.toks) k0
  have hl := p'.isList
  obtain ⟨ol, hol, _⟩ := id hl
  have hne : a ≠ s1.heap.objs.size := Nat.ne_of_lt (Heap.lt_size hol)
  have hn : its.toArray.size ≤ sizeLine := by rw [List.size_toArray, ← rv.length]; exact hz
  have hsz : (s1.heap.push (revObj a ((its.toArray.size : Int) - 1))).objs.size = s1.heap.objs.size + 1 := Heap.size_push _ _
  have fr : H1 (s1.heap.objs.size + 1) = none := I1.hok.fresh (by omega)
  refine call_list_rev (s := { s1 with heap := s1.heap.push (revObj a ((its.toArray.size : Int) - 1)) }) (I1.ok.hd hc) ⟨_, Heap.get?_push_size _ rfl, rfl, rfl⟩ (hl.push _) hne hn fun h' tk acc c' hk e' hi => ?_
  rw [hsz] at e' ⊢
  have hk1 : ∀ b o, s1.heap.get? b = some o → h'.get? b = some o := fun b o e => hk b o (Nat.ne_of_lt (Heap.lt_size e)) (k0 b o e)
  refine ⟨.ref (s1.heap.objs.size + 1), upd H1 (s1.heap.objs.size + 1) (.lst xs.reverse), I1.laid (t' := tk) hk1 (by omega) (show ObjOk X.prog X.w _ _ _ (.lst xs.reverse) from ⟨by rw [List.length_reverse]; exact hz, acc.toList, c', RT.vals_rev rv hi, ?_⟩), rfl, q _ fr⟩
  rw [Array.toArray_toList]
  exact e'
def bLstRev : List D → Option Ret
  | [d] => (seqOf d).map fun ds => (.lst ds.reverse, .top)
  | _ => none
theorem e_lstRev {p p2 pos2 : Pos} (hc : X.calm = true) (hm : X.mg "list" = none) (hm2 : X.mg "reversed" = none) (ha : PAv X (e :: es) ga) (hg : Gl X "list" := by rfl) (hg2 : Gl X "reversed" := by rfl)
    (he : starEach (e :: es) X.env = (false, eval e X.env) :: starEach es X.env := by rfl) (hpl : (backTo pos2 (starEach es X.env)).any (·.1) = false := by rfl)
    (hs2 : starEach [.Call (.Name "reversed" p2) (e :: es) [] pos2] X.env = (false, eval (.Call (.Name "reversed" p2) (e :: es) [] pos2) X.env) :: starEach [] X.env := by rfl) :
    PEv X (.Call (.Name "list" p) [.Call (.Name "reversed" p2) (e :: es) [] pos2] [] pos) (eBi bLstRev ga) := by
  refine imp_e (pe_lstRev hc hg hm hg2 hm2 ha he hpl hs2) fun σ H Q h => ?_
  refine bi_read (r := fun vs H1 Q => ∃ (a : Addr) (xs : List V), vs = [.ref a] ∧ SqL X.K H1 a xs ∧ ∀ q, H1 q = none → Q (.ref q) (upd H1 q (.lst xs.reverse))) (fun S H vs ds z Q r e q => ?_) h
  unfold bLstRev at e
  split at e
  · rename_i d
    obtain ⟨xs, e2, e⟩ := Option.map_eq_some_iff.mp e
    subst e
    obtain ⟨v, rfl, r1⟩ := r.inv1
    obtain ⟨a, us, rfl, h1, h2⟩ := seq_rp r1 e2
    exact ⟨a, us, rfl, h1, q.lst h2.rev⟩
  · cases e
theorem Post.ints {K : PySem.W.Frag} {N : Nw} {W : List Addr} {H H1 : Hp} {ns : List Int} {Q : VK} (q : Post K N W H ⟨.lst (ns.map .int), .full, false, false⟩ Q) (s : Same H H1) : ∀ p, H1 p = none → Q (.ref p) (upd H1 p (.lst (ns.map V.int))) := fun p np =>
  q _ _ [p] (s.trans (same_upd np)) (fun a m => by rw [List.mem_singleton.mp m]; exact s.free np) nodup1 (.nd1 (fun z => nomatch z) .lst upd_same (rps_ints ns))
end
end Ev
set_option Elab.async false
set_option linter.all false
set_option maxRecDepth 100000
namespace Ev
open PySem PySem.Spec L2
open PyProof.Rows hiding St
abbrev EvX := Env → Option (Env × Rv)
def tX (K : PySem.W.Frag) (f : EvX) : TE := fun σ H Q => ∃ N H0 ρ L ρ' r, Sim K N H0 ρ σ H L ∧ f ρ = some (ρ', r) ∧ ∀ H1 L1, Sim K N H0 ρ' σ H1 L1 → Frm H L H1 L1 → Post K N L1 H1 r Q
abbrev PXv (X : Cx) (e : Expr) (f : EvX) : Prop := PE X e (tX X.K f)
section
variable {X : Cx} {e o tg : Expr} {es : List Expr} {fe : EvE} {fx : EvX} {pos pos' apos cpos p npos : Pos} {body : List Stmt} {t : Tg} {b : EvS} {x : Str} {id : String} {g : List D → Option Ret}
def sSetX (i : Nat) (fx : EvX) : EvS := fun ρ => (fx ρ).bind fun p => if (!p.2.vw && decide (i < p.1.length)) = true then some (.nx (p.1.set i (some ⟨p.2.d, p.2.l, p.2.al, none⟩))) else none
theorem s_setX (i : Nat) {x : Str} (he : PXv X e fx) (hN : X.N.Nodup) (hi : X.N[i]? = some x := by rfl) (hx : Loc X.env.scope x := by first | exact Or.inl rfl | exact Or.inr rfl) (hs : swapsWith e (some (.Name x pos')) pos.line X.env = pure false := by rfl) (hf : X.fn x = true ∨ X.env.scope.names.lookup x = some .local := by first | exact .inl rfl | exact .inr rfl | assumption) :
    PSv X (.Assign [.Name x pos'] e pos) (sSetX i fx) := by
  refine imp_s (ps_set hN hi hx he hs hf) fun D σ H ⟨N, H0, ρ, L, o, sim, z, q⟩ => ?_
  unfold sSetX at z
  obtain ⟨⟨ρ', r⟩, e1, z⟩ := bind_some z
  split at z
  · rename_i hc
    rw [Bool.and_eq_true, decide_eq_true_eq] at hc
    cases z
    refine ⟨N, H0, ρ, L, ρ', r, sim, e1, fun H1 L1 sim1 fr v H2 F s2 n2 d2 p2 => ?_⟩
    have hv : r.vw = false := by simpa using hc.1
    obtain ⟨L2, sim2, sub2⟩ := sim1.set (r := ⟨r.d, r.l, r.al, none⟩) (fun _ z => nomatch z) s2 n2 d2 (p2.mono fun a z => ⟨⟨z.1.1, fun _ => z.1.2 hv⟩, z.2⟩) hc.2
    exact q _ H2 L2 sim2 (fr.trans (Frm.same s2 fun b z => (sub2 b z).imp (fun z => z) (n2 b)))
  · cases z
end
end Ev
set_option Elab.async false
set_option linter.all false
set_option maxRecDepth 100000
namespace Ev
open PySem PySem.Spec L2
open PyProof.Rows hiding St
section
variable {X : Cx} {e o tg : Expr} {es : List Expr} {fe fo : EvE} {fx : EvX} {pos pos' apos cpos p npos : Pos} {x : Str} {id : String}
theorem RpL.one {K : PySem.W.Frag} {N : Nw} {L : List Addr} {H : Hp} {v : V} {r : Rv} {F : List Addr} (h : Rp K (fun a => SR N L r.al r.vw a ∧ a ∉ F) H r.l v r.d F) : RpL K N L F H [v] [r] F := by
  have := RpL.cons (T := F) (h.mono fun a z => ⟨z.1, fun _ => z.2⟩) (RpL.nil (K := K) (N := N) (W := L) (T := F) (H := H))
  rw [List.append_nil] at this
  exact this
def sAppX (i : Nat) (fx : EvX) : EvS := fun ρ => match ρ[i]? with
  | some (some s0) => match s0.d with
    | .lst _ => (fx ρ).bind fun p => match p.1[i]? with
      | some (some s) => match s.d with
        | .lst ds => if s.l ≠ .shr ∧ ds.length ≤ 1000000 ∧ p.2.vw = false then some (.nx (p.1.set i (some ⟨.lst (ds ++ [p.2.d]), keepLv s.l (if p.2.l = .full then .full else .top), s.al || p.2.al, s.pn⟩))) else none
        | _ => none
      | _ => none
    | _ => none
  | _ => none
theorem s_appX (i : Nat) (hx : PXv X e fx)
    (hN : X.N[i]? = some x := by rfl) (hv : Vis X.env.scope x := by first | exact Or.inl rfl | exact Or.inr (Or.inl rfl) | exact Or.inr (Or.inr rfl)) (hd : (x == ("__debug__" : Str)) = false := by decide) (hcd : (x == ("__classdict__" : Str)) = false := by decide)
    (hsw : swapsWith (.Call (.Attribute (.Name x npos) "append" apos) [e] [] cpos) none pos.line X.env = pure false := by rfl)
    (hbase : attributeBase (.Name x npos) "append" X.env (eval (.Name x npos) X.env) = eval (.Name x npos) X.env := by rfl)
    (hfew : ((backTo cpos (starEach [e] X.env)).all (fun x => !x.1) && (backToKw cpos (keywordEach [] X.env)).all (fun x => x.1.isSome)
      && decide ([e].length + ([] : List Keyword).length + (if ([] : List Keyword).isEmpty then 0 else 1) < 30)) = true := by rfl)
    (hline : (apos.endLine == cpos.line) = true := by rfl) (hs : starEach [e] X.env = (false, eval e X.env) :: starEach [] X.env := by rfl) (hplain : (backTo cpos (starEach [] X.env)).any (·.1) = false := by rfl) :
    PSv X (.Expr (.Call (.Attribute (.Name x npos) "append" apos) [e] [] cpos) pos) (sAppX i fx) := by
  obtain ⟨r0, hm, hr⟩ := (l_app (X := X)).ok
  refine imp_s (ps_expr (pe_bm PySem.F.plainAttrs_list PySem.F.slot_list_append PySem.F.type_list_append hm (pe_var hN hv hd hcd) (pa_cons hx pa_nil hs) hbase hfew hline hs hplain) hsw) fun D σ H ⟨N, H0, ρ, L, o, sim, z, q⟩ => ?_
  unfold sAppX at z
  split at z
  · rename_i s0 es0
    split at z
    · rename_i ds0 hd0
      obtain ⟨⟨ρ1, r⟩, e1, z⟩ := bind_some z
      split at z
      · rename_i s es
        split at z
        · rename_i ds hd
          split at z
          · rename_i hc
            cases z
            obtain ⟨hl, hn, hvw⟩ := hc
            obtain ⟨v0, G0, ev0, rp0, _⟩ := sim.sl.get es0
            rw [hd0] at rp0
            obtain ⟨a0, vs0, _, rfl, ha0, _⟩ := rp0.lst_inv
            refine ⟨.ref a0, ev0, .inl ⟨rfl, vs0, SqL.of ha0⟩, N, H0, ρ, L, ρ1, r, sim, e1, fun H1 L1 sim1 fr v H2 F s2 n2 d2 p2 => ?_⟩
            obtain ⟨sd, sl, sa, sp⟩ := s
            dsimp only at hd hl
            subst hd
            obtain ⟨a, vs, ev, ha, hlen, go⟩ := sim1.relist es hl
            rw [ev0] at ev
            cases ev
            have hvw : r.vw = false := hvw
            refine hr H2 a0 vs [v] (vs ++ [v]) _ (s2.k a0 _ ha (by first | trivial | exact node_nt (by assumption))) (by rw [hlen]; exact hn) rfl ?_
            have hall : [r].all (fun r => !r.vw) = true := by simp [hvw]
            obtain ⟨L', sim', fr'⟩ := go (rs := [r]) (us := [v]) (T := F) (ws := vs ++ [v]) (es := ds ++ [r.d]) (fun r1 r2 nd => ⟨_, Rps.app r1 r2, mem_nodup nd⟩) s2 n2 d2 (RpL.one p2) hall
            refine q _ _ L' ?_ (fr.trans fr')
            have e2 : ([r].all fun r => !r.vw && decide (r.l = .full)) = decide (r.l = .full) := by simp [hvw]
            have e3 : [r].any (·.al) = r.al := by simp
            rw [e2, e3] at sim'
            simpa using sim'
          · cases z
        · cases z
      · cases z
    · cases z
  · cases z
end
end Ev
set_option Elab.async false
set_option linter.all false
set_option maxRecDepth 100000
namespace Ev
open PySem PySem.Spec L2
open PyProof.Rows hiding St
def isHd : D → Bool
  | .tup ds => !immAll ds
  | .lst _ => true | .dk _ => true | .dt _ => true | .ins _ _ => true | .obj _ _ _ => true
  | _ => false
theorem isHd_imm {d : D} (h : isHd d = true) : imm d = false := by
  cases d with
  | tup ds => rw [imm]; simpa [isHd] using h
  | lst _ => rfl
  | dk _ => rfl
  | dt _ => rfl
  | ins _ _ => rfl
  | obj _ _ _ => rfl
  | _ => simp [isHd] at h
theorem Rp.hd {K : PySem.W.Frag} {S : Addr → Prop} {H : Hp} {u : V} {e : D} {G : List Addr} (r : Rp K S H .full u e G) (h : isHd e = true) : ∃ a, u = .ref a := by
  cases r with
  | nd1 h0 hn h1 h2 => exact ⟨_, rfl⟩
  | tup h1 h2 => exact ⟨_, rfl⟩
  | _ => simp [isHd] at h
inductive HArgs (K : PySem.W.Frag) (S : Addr → Prop) (H : Hp) : List Bool → List V → List D → List Addr → Prop
  | nil : HArgs K S H [] [] [] []
  | sh {ms : List Bool} {v : V} {d : D} {vs : List V} {ds : List D} {F : List Addr} : Rp K S H .shr v d [] → HArgs K S H ms vs ds F → HArgs K S H (false :: ms) (v :: vs) (d :: ds) F
  | ov {ms : List Bool} {v : V} {d : D} {vs : List V} {ds : List D} {F G : List Addr} : isHd d = true → Rp K S H .full v d G → HArgs K S H ms vs ds F → HArgs K S H (true :: ms) (v :: vs) (d :: ds) (G ++ F)
inductive HBack (K : PySem.W.Frag) (S : Addr → Prop) (H : Hp) : List V → List (Option D) → List Addr → Prop
  | nil : HBack K S H [] [] []
  | no {v : V} {vs : List V} {ds : List (Option D)} {F : List Addr} : HBack K S H vs ds F → HBack K S H (v :: vs) (none :: ds) F
  | so {v : V} {d : D} {vs : List V} {ds : List (Option D)} {F G : List Addr} : Rp K S H .full v d G → HBack K S H vs ds F → HBack K S H (v :: vs) (some d :: ds) (G ++ F)
theorem HArgs.mono {K : PySem.W.Frag} {S S' : Addr → Prop} {H : Hp} (h : ∀ a, S a → S' a) : ∀ {ms : List Bool} {vs : List V} {ds : List D} {F : List Addr}, HArgs K S H ms vs ds F → HArgs K S' H ms vs ds F
  | _, _, _, _, .nil => .nil
  | _, _, _, _, .sh r q => .sh (r.mono h) (HArgs.mono h q)
  | _, _, _, _, .ov i r q => .ov i (r.mono h) (HArgs.mono h q)
theorem HArgs.len {K : PySem.W.Frag} {S : Addr → Prop} {H : Hp} : ∀ {ms : List Bool} {vs : List V} {ds : List D} {F : List Addr}, HArgs K S H ms vs ds F → vs.length = ms.length ∧ ds.length = ms.length
  | _, _, _, _, .nil => ⟨rfl, rfl⟩
  | _, _, _, _, .sh _ q => ⟨by rw [List.length_cons, List.length_cons, q.len.1], by rw [List.length_cons, List.length_cons, q.len.2]⟩
  | _, _, _, _, .ov _ _ q => ⟨by rw [List.length_cons, List.length_cons, q.len.1], by rw [List.length_cons, List.length_cons, q.len.2]⟩
theorem HArgs.mu {K : PySem.W.Frag} {S : Addr → Prop} {H : Hp} : ∀ {ms : List Bool} {vs : List V} {ds : List D} {F : List Addr}, HArgs K S H ms vs ds F → ∀ a ∈ F, Mut (H a)
  | _, _, _, _, .nil => fun _ z => nomatch z
  | _, _, _, _, .sh _ q => q.mu
  | _, _, _, _, .ov _ r q => fun a z => (List.mem_append.mp z).elim (r.own_mut a) (q.mu a)
abbrev RetM := List (Option D) × RetD
def spM (K : PySem.W.Frag) (ms : List Bool) (φ : List D → Option RetM) : Sp := fun vs H Q _ => vs.length = ms.length ∧ ∃ S ds F r, HArgs K S H ms vs ds F ∧ F.Nodup ∧ (∀ a, S a → a ∉ F) ∧ φ ds = some r ∧ TBs K H ∧
  ∀ v H' G F', (∀ b o, H b = some o → b ∉ F → NT o → H' b = some o) → (∀ P q, TbQ H P q → TbQ H' P q) → (∀ b, H' b = none → H b = none ∨ b ∈ F) → HBack K (fun a => (H a = none ∨ a ∈ F ∨ S a) ∧ a ∉ F' ∧ a ∉ G) H' vs r.1 F' → (∀ a ∈ F' ++ G, a ∈ F ∨ H a = none) → (F' ++ G).Nodup → (∀ a ∈ F' ++ G, Mut (H' a)) →
    Rp K (fun a => (H a = none ∨ a ∈ F ∨ r.2.2.2 = true ∧ S a) ∧ a ∉ G ∧ a ∉ F') H' r.2.2.1 v r.2.1 G → Q v H'
structure FnM (P : Program) (w : World) (K : PySem.W.Frag) (mg : Str → Option Value) (base : Heap) (k : Nat) (x : Str) (ms : List Bool) (φ : List D → Option RetM) : Prop where
  ok : ∃ f fd ps, FnOk P w K mg base CX0 k f fd ps (spM K ms φ) ∧ mg x = some (.ref f) ∧ PySem.W.keepIn K (.ref f) = true ∧ Binds K fd ps []
def entryM (m : Nat) (ms : List Bool) (ds : List D) : Env := go 0 ms ds ++ List.replicate (m - ds.length) none
where go : Nat → List Bool → List D → Env
  | _, [], _ => []
  | _, _, [] => []
  | i, b :: ms, d :: ds => some ⟨d, if b = true then .full else .shr, true, if b = true then some i else none⟩ :: go (i + 1) ms ds
def backs : Nat → List Bool → Env → List (Option D)
  | _, [], _ => []
  | i, _ :: ms, [] => none :: backs (i + 1) ms []
  | i, b :: ms, s :: ρ => (match b, s with
    | true, some s => if s.l = .full ∧ s.pn = some i then some s.d else none
    | _, _ => none) :: backs (i + 1) ms ρ
def runM (body : EvS) (m : Nat) (ms bs : List Bool) (ds : List D) : Option RetM := (body (entryM m ms ds)).bind fun o => match o with
  | .rt ρ d l al => some (backs 0 bs ρ, d, l, al)
  | .nx ρ => some (backs 0 bs ρ, .non, .full, false)
  | _ => none
theorem entry_slots {K : PySem.W.Frag} {N : Nw} {L : List Addr} {H : Hp} {n : Nat} (hS : ∀ a, N.s a → a ∉ L) : ∀ {ms : List Bool} {vs : List V} {ds : List D} {F : List Addr} (i : Nat), HArgs K N.s H ms vs ds F → (∀ (k : Nat) (v : V), vs[k]? = some v → ms[k]? = some true → v = V.ref (N.p (i + k))) →
    Slots K N L H (vs.map some ++ List.replicate n none) (entryM.go i ms ds ++ List.replicate n none) F
  | _, _, _, _, i, .nil, _ => slots_none n
  | _, _, _, _, i, .sh (v := v) (d := d) r q, hp => by
    have z := Slots.so (L := L) (N := N) (s := ⟨d, .shr, true, none⟩) (F := []) (fun _ z => nomatch z) (r.mono fun a z => ⟨⟨.inr z, (fun e => (nomatch e))⟩, fun _ => hS a z⟩) (entry_slots (n := n) hS (i + 1) q fun k v e1 e2 => by have := hp (k + 1) v (by simpa using e1) (by simpa using e2); rw [this]; congr 2; omega)
    exact z
  | _, _, _, _, i, .ov (v := v) (d := d) hi r q, hp => by
    have z := Slots.so (L := L) (N := N) (s := ⟨d, .full, true, some i⟩) (fun k e => by cases e; exact hp 0 v rfl rfl) (r.mono fun a z => ⟨⟨.inr z, (fun e => (nomatch e))⟩, fun _ => hS a z⟩) (entry_slots (n := n) hS (i + 1) q fun k v e1 e2 => by have := hp (k + 1) v (by simpa using e1) (by simpa using e2); rw [this]; congr 2; omega)
    exact z
theorem back_slots {K : PySem.W.Frag} {N : Nw} {L : List Addr} {H : Hp} : ∀ {σ : St} {ρ : Env} {F : List Addr} (i : Nat) (ms : List Bool) (vs : List V), Slots K N L H σ ρ F → vs.length = ms.length → (∀ (k : Nat) (v : V), vs[k]? = some v → ms[k]? = some true → v = V.ref (N.p (i + k))) →
    ∃ F', F'.Sublist F ∧ HBack K (SR N L true false) H vs (backs i ms ρ) F'
  | _, _, F, i, [], [], h, _, _ => ⟨[], List.nil_sublist _, by unfold backs; exact .nil⟩
  | _, _, _, i, [], _ :: _, _, e, _ => by simp at e
  | _, _, _, i, _ :: _, [], _, e, _ => by simp at e
  | _, _, _, i, b :: ms, v :: vs, .nil, e, hp => by
    obtain ⟨F', s, q⟩ := back_slots (i + 1) ms vs (Slots.nil (K := K) (N := N) (L := L) (H := H)) (by simpa using e) fun k v e1 e2 => by have := hp (k + 1) v (by simpa using e1) (by simpa using e2); rw [this]; congr 2; omega
    exact ⟨F', s, by unfold backs; exact .no q⟩
  | _, _, _, i, b :: ms, v :: vs, .no h, e, hp => by
    obtain ⟨F', s, q⟩ := back_slots (i + 1) ms vs h (by simpa using e) fun k v e1 e2 => by have := hp (k + 1) v (by simpa using e1) (by simpa using e2); rw [this]; congr 2; omega
    refine ⟨F', s, ?_⟩
    unfold backs
    cases b <;> exact .no q
  | _, _, _, i, b :: ms, v :: vs, .so (s := s) (v := w) (F := G) h0 h1 h, e, hp => by
    obtain ⟨F', sub, q⟩ := back_slots (i + 1) ms vs h (by simpa using e) fun k v e1 e2 => by have := hp (k + 1) v (by simpa using e1) (by simpa using e2); rw [this]; congr 2; omega
    unfold backs
    cases b with
    | false => exact ⟨F', sub.trans (List.sublist_append_right _ _), .no q⟩
    | true =>
      dsimp only
      split
      · rename_i hc
        have ew := h0 i hc.2
        have ev := hp 0 v rfl rfl
        subst ew ev
        obtain ⟨sd, sl, sa, sp⟩ := s
        have hl : sl = .full := hc.1
        subst hl
        exact ⟨G ++ F', List.Sublist.append (List.Sublist.refl _) sub, .so (h1.mono fun a z => ⟨z.1.up fun _ => rfl, z.2⟩) q⟩
      · exact ⟨F', sub.trans (List.sublist_append_right _ _), .no q⟩
end Ev
set_option Elab.async false
set_option linter.all false
set_option maxRecDepth 100000
namespace Ev
open PySem PySem.Spec L2
open PyProof.Rows hiding St
theorem HBack.mono {K : PySem.W.Frag} {S S' : Addr → Prop} {H : Hp} (h : ∀ a, S a → S' a) : ∀ {vs : List V} {ds : List (Option D)} {F : List Addr}, HBack K S H vs ds F → HBack K S' H vs ds F
  | _, _, _, .nil => .nil
  | _, _, _, .no q => .no (HBack.mono h q)
  | _, _, _, .so r q => .so (r.mono h) (HBack.mono h q)
def refAt (vs : List V) (i : Nat) : Addr := match vs[i]? with
  | some (.ref a) => a
  | _ => 0
theorem HArgs.ref {K : PySem.W.Frag} {S : Addr → Prop} {H : Hp} : ∀ {ms : List Bool} {vs : List V} {ds : List D} {F : List Addr}, HArgs K S H ms vs ds F → ∀ (k : Nat) (v : V), vs[k]? = some v → ms[k]? = some true → ∃ a, v = V.ref a
  | _, _, _, _, .nil, _, _, e, _ => by simp at e
  | _, _, _, _, .sh _ q, 0, _, _, e => by simp at e
  | _, _, _, _, .ov hi r q, 0, _, e, _ => by
    obtain ⟨a, rfl⟩ := r.hd hi
    simp at e
    exact ⟨a, e.symm⟩
  | _, _, _, _, .sh _ q, k + 1, v, e1, e2 => q.ref k v (by simpa using e1) (by simpa using e2)
  | _, _, _, _, .ov _ _ q, k + 1, v, e1, e2 => q.ref k v (by simpa using e1) (by simpa using e2)
theorem def_okM {P : Program} {w : World} {K : PySem.W.Frag} {mg : Str → Option Value} {base : Heap} {x qual : Str} {st : Stmt} {f : Addr} {fd : FuncData} {N ps : List Str} {k : Nat} {body : EvS} (ms bs : List Bool) (F : Fun K x qual st f fd) (S : FnScope N ps (defScope st)) (hms : ms.length = ps.length) (hbl : bs.length = ms.length) (hbs : bs.zip ms = (bs.zip ms).filter fun p => !p.1 || p.2)
    (hb : ∀ (cdv : Value) (A : Around) (outer : List PySem.Env) (s : Shared) (H : Hp) (E : XK), Room k (A.deeper (envOfC qual (defScope st) s.heap.objs.size f cdv)) → PSsv (cxOf CX0 P w K mg base N qual (defScope st) f cdv A outer s H E).nox (defBody st) body) :
    FnOk P w K mg base CX0 (k + 1) f fd ps (spM K ms (runM body N.length ms bs)) := by
  refine F.ok S (fun vs H Q E h => h.1.trans hms) (fun cdv A outer s H vs Q E hr h => ?_)
  obtain ⟨hl, Sx, ds, Fh, r, ha, nF, dis, hrun, htb, q⟩ := h
  refine ⟨_, hb cdv A outer s H E hr, ?_⟩
  unfold runM at hrun
  obtain ⟨o, e1, hrun⟩ := bind_some hrun
  have href : ∀ (k : Nat) (v : V), vs[k]? = some v → ms[k]? = some true → v = V.ref (refAt vs k) := fun k v e1 e2 => by
    obtain ⟨a, rfl⟩ := ha.ref k v e1 e2
    unfold refAt
    rw [e1]
  have hrb : ∀ (k : Nat) (v : V), vs[k]? = some v → bs[k]? = some true → v = V.ref (refAt vs k) := fun k v e1 e2 => href k v e1 (by
    have hk : k < bs.length := (List.getElem?_eq_some_iff.mp e2).1
    have e3 : ms[k]? = some ms[k] := List.getElem?_eq_getElem (by omega)
    have e4 : (true, ms[k]) ∈ bs.zip ms := by
      have : (bs.zip ms)[k]? = some (true, ms[k]) := by rw [List.getElem?_zip_eq_some]; exact ⟨e2, e3⟩
      exact List.mem_of_getElem? this
    rw [hbs] at e4
    have := (List.mem_filter.mp e4).2
    rw [e3]
    simpa using this)
  refine ⟨⟨fun a => H a = none ∨ a ∈ Fh, Sx, refAt vs⟩, H, entryM N.length ms ds, Fh, o, ⟨.refl htb, fun b e => .inl e, nF, (fun _ z => .inr z), ha.mu, ?_⟩, e1, ?_⟩
  · unfold entryM L2.start
    rw [ha.len.1, ha.len.2]
    exact entry_slots (N := ⟨fun a => H a = none ∨ a ∈ Fh, Sx, refAt vs⟩) (L := Fh) dis 0 ha fun k v e1 e2 => by rw [Nat.zero_add]; exact href k v e1 e2
  · have frame : ∀ {H' : Hp}, (∀ b o, H b = some o → ¬ (H b = none ∨ b ∈ Fh) → NT o → H' b = some o) → ∀ b o, H b = some o → b ∉ Fh → NT o → H' b = some o := fun k b o e n => k b o e fun z => z.elim (fun z => by rw [e] at z; cases z) n
    cases o with
    | nx ρ =>
      cases hrun
      intro σ' H' L' sim fr
      obtain ⟨F', sub, hbk⟩ := back_slots 0 bs vs sim.sl (hl.trans hbl.symm) fun k v e1 e2 => by rw [Nat.zero_add]; exact hrb k v e1 e2
      exact q .non H' [] F' (frame sim.kp.k) sim.kp.t sim.nw (hbk.mono fun a z => ⟨or_assoc.mp z.1.1, fun m => z.2 rfl (sub.subset m), fun m => nomatch m⟩) (fun a z => (sim.ln a (sub.subset (by simpa using z))).symm) (by rw [List.append_nil]; exact sub.nodup sim.nd) (fun a z => sim.mu a (sub.subset (by simpa using z))) .non
    | rt ρ d l al =>
      cases hrun
      intro v σ' H' L' G sim _ rp
      obtain ⟨F', sub, hbk⟩ := back_slots 0 bs vs sim.sl (hl.trans hbl.symm) fun k v e1 e2 => by rw [Nat.zero_add]; exact hrb k v e1 e2
      have subW : (F' ++ G).Sublist (L' ++ G) := List.Sublist.append sub (List.Sublist.refl _)
      refine q v H' G F' (frame sim.kp.k) sim.kp.t sim.nw (hbk.mono fun a z => ⟨or_assoc.mp z.1.1, fun m => z.2 rfl (List.mem_append_left _ (sub.subset m)), fun m => z.2 rfl (List.mem_append_right _ m)⟩) (fun a z => (sim.ln a (subW.subset z)).symm) (subW.nodup sim.nd) (fun a z => sim.mu a (subW.subset z)) (rp.mono fun a z => ⟨?_, z.2.1, fun m => z.2.2 (sub.subset m)⟩)
      show H a = none ∨ a ∈ Fh ∨ al = true ∧ Sx a
      cases al with
      | false => exact (z.1.2 rfl).imp id .inl
      | true => exact (or_assoc.mp z.1.1).imp id (.imp id fun y => ⟨rfl, y⟩)
    | bk ρ => cases hrun
    | ct ρ => cases hrun
end Ev
set_option Elab.async false
set_option linter.all false
set_option maxRecDepth 100000
namespace Ev
open PySem PySem.Spec L2
open PyProof.Rows hiding St
inductive MA where
  | val (r : Rv) | slot (j : Nat) (s : Sv)
abbrev EvM := Env → Option (List MA)
def mNil : EvM := fun _ => some []
def mVal (f : EvE) (g : EvM) : EvM := fun ρ => (f ρ).bind fun r => if r.vw = false then (g ρ).map (.val r :: ·) else none
def mSlot (j : Nat) (g : EvM) : EvM := fun ρ => match ρ[j]? with
  | some (some s) => (g ρ).map (.slot j s :: ·)
  | _ => none
inductive RowM (K : PySem.W.Frag) (N : Nw) (W T : List Addr) (H : Hp) (σ : St) : List MA → List V → List Addr → Prop
  | nil : RowM K N W T H σ [] [] []
  | val {r : Rv} {v : V} {as : List MA} {vs : List V} {F G : List Addr} : Rp K (fun a => SR N W r.al false a ∧ a ∉ T) H r.l v r.d F → RowM K N W T H σ as vs G → RowM K N W T H σ (.val r :: as) (v :: vs) (F ++ G)
  | slot {j : Nat} {s : Sv} {v : V} {as : List MA} {vs : List V} {G : List Addr} : σ[j]? = some (some v) → RowM K N W T H σ as vs G → RowM K N W T H σ (.slot j s :: as) (v :: vs) G
theorem RowM.mono {K : PySem.W.Frag} {N : Nw} {W W' T T' : List Addr} {H : Hp} {σ : St} (h : ∀ a, a ∉ W ∧ a ∉ T → a ∉ W' ∧ a ∉ T') : ∀ {as : List MA} {vs : List V} {F : List Addr}, RowM K N W T H σ as vs F → RowM K N W' T' H σ as vs F
  | _, _, _, .nil => .nil
  | _, _, _, .val r q => .val (r.mono fun a z => ⟨⟨z.1.1, fun _ => (h a ⟨z.1.2 rfl, z.2⟩).1⟩, (h a ⟨z.1.2 rfl, z.2⟩).2⟩) (RowM.mono h q)
  | _, _, _, .slot e q => .slot e (RowM.mono h q)
theorem RowM.len {K : PySem.W.Frag} {N : Nw} {W T : List Addr} {H : Hp} {σ : St} : ∀ {as : List MA} {vs : List V} {F : List Addr}, RowM K N W T H σ as vs F → vs.length = as.length
  | _, _, _, .nil => rfl
  | _, _, _, .val _ q => by rw [List.length_cons, List.length_cons, q.len]
  | _, _, _, .slot _ q => by rw [List.length_cons, List.length_cons, q.len]
def tM (K : PySem.W.Frag) (g : EvM) : TA := fun σ H R => ∃ N H0 ρ L W as, SimH K N H0 ρ σ H L W ∧ g ρ = some as ∧ ∀ vs H1 T, Same H H1 → (∀ a ∈ T, H a = none) → T.Nodup → RowM K N W T H1 σ as vs T → R vs H1
abbrev PMv (X : Cx) (es : List Expr) (g : EvM) : Prop := PA X es (tM X.K g)
section
variable {X : Cx} {e : Expr} {es : List Expr} {fe : EvE} {g : EvM} {pos : Pos} {x : Str}
theorem m_nil : PMv X [] mNil := imp_a pa_nil fun σ H Q ⟨N, H0, ρ, L, W, rs, sim, z, q⟩ => by
  cases z
  exact q [] H [] (Same.refl H) (fun _ z => nomatch z) .nil .nil
theorem m_val (ha : PEv X e fe) (hr : PMv X es g) (hs : starEach (e :: es) X.env = (false, eval e X.env) :: starEach es X.env := by rfl) : PMv X (e :: es) (mVal fe g) := by
  refine imp_a (pa_cons ha hr hs) fun σ H Q ⟨N, H0, ρ, L, W, rs, sim, z, q⟩ => ?_
  unfold mVal at z
  obtain ⟨r, e1, z⟩ := bind_some z
  split at z
  · rename_i hv
    obtain ⟨rs, e2, z⟩ := Option.map_eq_some_iff.mp z
    subst z
    refine one sim e1 fun v H1 F s1 n1 d1 p1 => ?_
    refine ⟨N, H0, ρ, L, W ++ F, rs, sim.hold s1 n1 d1 p1.own_mut, e2, fun vs H2 T s2 n2 d2 p2 => ?_⟩
    refine q (v :: vs) H2 (F ++ T) (s1.trans s2) (fun a z => (List.mem_append.mp z).elim (n1 a) fun z => s1.free (n2 a z)) ?_ (.val ?_ (p2.mono fun a z => ⟨fun m => z.1 (List.mem_append_left _ m), fun m => (List.mem_append.mp m).elim (fun m => z.1 (List.mem_append_right _ m)) z.2⟩))
    · rw [List.nodup_append]
      exact ⟨d1, d2, fun a ha b hb e => p1.own_trk a ha (e ▸ n2 b hb)⟩
    · exact (p1.trk.same s2).mono fun a z => ⟨⟨z.1.1.1, fun _ => z.1.1.2 hv⟩, fun m => (List.mem_append.mp m).elim z.1.2 fun m => z.2 (n2 a m)⟩
  · cases z
theorem m_slot (j : Nat) (hr : PMv X es g) (hN : X.N[j]? = some x := by rfl) (hv : Vis X.env.scope x := by first | exact Or.inl rfl | exact Or.inr (Or.inl rfl) | exact Or.inr (Or.inr rfl)) (hd : (x == ("__debug__" : Str)) = false := by decide)
    (hcd : (x == ("__classdict__" : Str)) = false := by decide) (hs : starEach (.Name x pos :: es) X.env = (false, eval (.Name x pos) X.env) :: starEach es X.env := by rfl) : PMv X (.Name x pos :: es) (mSlot j g) := by
  refine imp_a (pa_cons (pe_var hN hv hd hcd) hr hs) fun σ H Q ⟨N, H0, ρ, L, W, rs, sim, z, q⟩ => ?_
  unfold mSlot at z
  split at z
  · rename_i s es
    obtain ⟨rs, e2, z⟩ := Option.map_eq_some_iff.mp z
    subst z
    obtain ⟨v, G, ev, _⟩ := sim.sl.get es
    exact ⟨v, ev, N, H0, ρ, L, W, rs, sim, e2, fun vs H2 T s2 n2 d2 p2 => q (v :: vs) H2 T s2 n2 d2 (.slot ev p2)⟩
  · cases z
end
def splitM : List Bool → List MA → Env → Option Env
  | [], [], ρ => some ρ
  | b :: ms, .val r :: as, ρ => if b = false ∨ r.l = .full ∧ isHd r.d = true then splitM ms as ρ else none
  | true :: ms, .slot j _ :: as, ρ => match ρ[j]? with
    | some (some s) => if s.l = .full ∧ isHd s.d = true then splitM ms as (ρ.set j none) else none
    | _ => none
  | _, _, _ => none
def maD : MA → D
  | .val r => r.d
  | .slot _ s => s.d
def maA : MA → Bool
  | .val r => r.al
  | .slot _ s => s.al
theorem split_ok {K : PySem.W.Frag} {N : Nw} {W T : List Addr} {H H1 : Hp} {σ : St} {al : Bool} (sm : Same H H1) (hW : ∀ a ∈ W, N a) (hT : ∀ b ∈ T, H b = none) (hTW : ∀ b ∈ T, b ∉ W) (hTN : ∀ b ∈ T, N b) : ∀ {ms : List Bool} {as : List MA} {vs : List V} {Tc : List Addr} {ρ ρh : Env} {F : List Addr}, RowM K N W T H1 σ as vs Tc → splitM ms as ρ = some ρh → (∀ a ∈ as, maA a = true → al = true) →
    (∀ j s, MA.slot j s ∈ as → ∀ s', ρ[j]? = some (some s') → s' = s) → Slots K N W H σ ρ F → F.Nodup → (∀ b ∈ F, b ∈ W) → Tc.Nodup → (∀ b ∈ Tc, b ∈ T) →
    ∃ Fr G P : List Addr, Slots K N W H σ ρh Fr ∧ Fr.Nodup ∧ (∀ b ∈ Fr, b ∈ F ∧ b ∉ G) ∧ HArgs K (fun a => (AlN N al a ∧ a ∉ W ∧ a ∉ T) ∨ a ∈ P) H1 ms vs (as.map maD) G ∧ G.Nodup ∧ (∀ b ∈ G, b ∈ F ∨ b ∈ Tc) ∧ (∀ b ∈ P, b ∈ Tc ∧ b ∉ G)
  | ms, _, _, _, ρ, ρh, F, .nil, z, _, _, sl, nF, _, _, _ => by
    cases ms with
    | nil =>
      unfold splitM at z
      cases z
      exact ⟨F, [], [], sl, nF, fun b z => ⟨z, fun m => nomatch m⟩, .nil, .nil, (fun _ z => nomatch z), (fun _ z => nomatch z)⟩
    | cons b ms => cases b <;> exact nomatch z
  | ms, _, _, _, ρ, ρh, F, .val (r := r) (v := v) (as := as) (F := Fi) (G := Tc) rp row, z, ha, hs, sl, nF, hF, nT, sT => by
    cases ms with
    | nil => exact nomatch z
    | cons b ms =>
      unfold splitM at z
      split at z
      · rename_i hc
        rw [List.nodup_append] at nT
        obtain ⟨n1, n2, n3⟩ := nT
        obtain ⟨Fr, G, P, h1, h2, h3, h4, h5, h6, h7⟩ := split_ok sm hW hT hTW hTN row z (fun a m => ha a (List.mem_cons_of_mem _ m)) (fun j s m => hs j s (List.mem_cons_of_mem _ m)) sl nF hF n2 fun b m => sT b (List.mem_append_right _ m)
        have fiW : ∀ b ∈ Fi, b ∉ W := fun b m => hTW b (sT b (List.mem_append_left _ m))
        have fiG : ∀ b ∈ Fi, b ∉ G := fun b m m2 => (h6 b m2).elim (fun y => fiW b m (hF b y)) fun y => n3 b m b y rfl
        have har : ∀ {a : Addr}, AlN N r.al a → AlN N al a := fun z => z.up (ha (.val r) List.mem_cons_self)
        by_cases hb : b = false
        · subst hb
          refine ⟨Fr, G, Fi ++ P, h1, h2, h3, .sh (rp.give (fun a z => .inl ⟨har z.1.1, z.1.2 rfl, z.2⟩) fun a m => .inr (List.mem_append_left _ m)) (h4.mono fun a z => z.imp id (List.mem_append_right _)), h5, fun b m => (h6 b m).imp id (List.mem_append_right _), fun b m => (List.mem_append.mp m).elim (fun m => ⟨List.mem_append_left _ m, fiG b m⟩) fun m => ⟨List.mem_append_right _ (h7 b m).1, (h7 b m).2⟩⟩
        · have hb : b = true := by cases b <;> first | rfl | exact absurd rfl hb
          subst hb
          obtain ⟨hl, hn⟩ := hc.resolve_left (fun z => nomatch z)
          rw [hl] at rp
          refine ⟨Fr, Fi ++ G, P, h1, h2, fun b m => ⟨(h3 b m).1, fun m2 => (List.mem_append.mp m2).elim (fun y => fiW b y (hF b (h3 b m).1)) (h3 b m).2⟩, .ov hn (rp.mono fun a z => .inl ⟨har z.1.1, z.1.2 rfl, z.2⟩) h4, ?_, fun b m => (List.mem_append.mp m).elim (fun m => .inr (List.mem_append_left _ m)) fun m => (h6 b m).imp id (List.mem_append_right _), fun b m => ⟨List.mem_append_right _ (h7 b m).1, fun m2 => (List.mem_append.mp m2).elim (fun y => n3 b y b (h7 b m).1 rfl) (h7 b m).2⟩⟩
          rw [List.nodup_append]
          exact ⟨n1, h5, fun a m b m2 e => fiG a m (e ▸ m2)⟩
      · cases z
  | ms, _, _, _, ρ, ρh, F, .slot (j := j) (s := s) (v := v) (as := as) (G := Tc) ev row, z, ha, hs, sl, nF, hF, nT, sT => by
    cases ms with
    | nil => exact nomatch z
    | cons b ms =>
      cases b with
      | false => exact nomatch z
      | true =>
        unfold splitM at z
        split at z
        · rename_i s' es
          split at z
          · rename_i hc
            have := hs j s List.mem_cons_self s' es
            subst this
            obtain ⟨F1, G0, F2, v', eF, ev', rp, sl'⟩ := sl.hide es
            rw [ev] at ev'
            cases ev'
            have nF0 := nF
            rw [eF, List.nodup_append, List.nodup_append] at nF
            obtain ⟨a1, ⟨a2, a3, a4⟩, a5⟩ := nF
            have sub : ∀ b, b ∈ F1 ++ F2 → b ∈ F := fun b m => by
              rw [eF]
              rcases List.mem_append.mp m with m | m <;> simp [m]
            have n12 : (F1 ++ F2).Nodup := by
              rw [List.nodup_append]
              exact ⟨a1, a3, fun a m b m2 => a5 a m b (by simp [m2])⟩
            have g0 : ∀ b ∈ G0, b ∈ F := fun b m => by rw [eF]; simp [m]
            have g12 : ∀ b ∈ G0, b ∉ F1 ++ F2 := fun b m m2 => (List.mem_append.mp m2).elim (fun y => a5 b y b (by simp [m]) rfl) fun y => a4 b m b y rfl
            obtain ⟨Fr, G, P, h1, h2, h3, h4, h5, h6, h7⟩ := split_ok sm hW hT hTW hTN row z (fun a m => ha a (List.mem_cons_of_mem _ m)) (fun j2 s2 m s3 e3 => hs j2 s2 (List.mem_cons_of_mem _ m) s3 (by
              by_cases q : j = j2
              · subst q
                rw [List.getElem?_set_self (List.getElem?_eq_some_iff.mp es).1] at e3
                cases e3
              · rw [List.getElem?_set_ne q] at e3
                exact e3)) sl' n12 (fun b m => hF b (sub b m)) nT sT
            have gG : ∀ b ∈ G0, b ∉ G := fun b m m2 => (h6 b m2).elim (g12 b m) fun y => hTW b (sT b y) (hF b (g0 b m))
            rw [hc.1] at rp
            have rp1 := (rp.trk.same sm).mono (S' := fun a => (AlN N al a ∧ a ∉ W ∧ a ∉ T) ∨ a ∈ P) fun a z => .inl ⟨z.1.1.up (ha (.slot j s') List.mem_cons_self), z.1.2 rfl, fun m => z.2 (hT a m)⟩
            refine ⟨Fr, G0 ++ G, P, h1, h2, fun b m => ⟨sub b (h3 b m).1, fun m2 => (List.mem_append.mp m2).elim (fun y => g12 b y (h3 b m).1) (h3 b m).2⟩, .ov hc.2 rp1 h4, ?_, fun b m => (List.mem_append.mp m).elim (fun m => .inl (g0 b m)) fun m => (h6 b m).imp (sub b) id, fun b m => ⟨(h7 b m).1, fun m2 => (List.mem_append.mp m2).elim (fun y => hTW b (sT b (h7 b m).1) (hF b (g0 b y))) (h7 b m).2⟩⟩
            rw [List.nodup_append]
            exact ⟨a2, h5, fun a m b m2 e => gG a m (e ▸ m2)⟩
          · cases z
        · cases z
end Ev
set_option Elab.async false
set_option linter.all false
set_option maxRecDepth 100000
namespace Ev
open PySem PySem.Spec L2
open PyProof.Rows hiding St
def backM (al : Bool) : List MA → List (Option D) → Env → Env
  | .slot j s :: as, some d :: os, ρ => (backM al as os ρ).set j (some ⟨d, .full, al, s.pn⟩)
  | _ :: as, _ :: os, ρ => backM al as os ρ
  | _, _, ρ => ρ
section
variable {K : PySem.W.Frag} {N : Nw}
theorem Slots.put {L0 : List Addr} {H : Hp} {σ : St} {ρ : Env} {F G : List Addr} {i : Nat} {v : V} {s : Sv} (h : Slots K N L0 H σ ρ F) (ev : σ[i]? = some (some v)) (pp : ∀ k, s.pn = some k → v = .ref (N.p k)) (rp : Rp K (SR N L0 s.al false) H s.l v s.d G) :
    ∃ F', Slots K N L0 H σ (ρ.set i (some s)) F' ∧ (∀ b ∈ F', b ∈ F ∨ b ∈ G) ∧ (F.Nodup → G.Nodup → (∀ b ∈ G, b ∉ F) → F'.Nodup) := by
  have hi : i < ρ.length := by rw [← h.len]; exact (List.getElem?_eq_some_iff.mp ev).1
  obtain ⟨F1, G0, F2, eF, _, p⟩ := h.at_ hi
  have z := p (L1 := L0) (H1 := H) (v := v) (s := s) (G' := G) (fun _ => .same (Same.refl H)) (fun _ z _ => z) pp rp
  have eσ : σ.set i (some v) = σ := by
    obtain ⟨h1, h2⟩ := List.getElem?_eq_some_iff.mp ev
    rw [← h2, List.set_getElem_self]
  rw [eσ] at z
  refine ⟨_, z, fun b m => ?_, fun nF nG dis => ?_⟩
  · rw [eF]
    rcases List.mem_append.mp m with m | m
    · exact .inl (by simp [m])
    · exact (List.mem_append.mp m).elim .inr fun m => .inl (by simp [m])
  · rw [eF] at nF dis
    rw [List.nodup_append, List.nodup_append] at nF
    rw [List.nodup_append, List.nodup_append]
    exact ⟨nF.1, ⟨nG, nF.2.1.2.1, fun a m b m2 e => dis a m (by rw [e]; simp [m2])⟩, fun a m b m2 e => (List.mem_append.mp m2).elim (fun m2 => dis b m2 (by rw [← e]; simp [m])) fun m2 => nF.2.2 a m b (by simp [m2]) e⟩
theorem back_ok {W T L1 : List Addr} {H1 H' H3 : Hp} {σ : St} {al : Bool} {S' : Addr → Prop} (hS : ∀ a, S' a → SR N L1 al false a) : ∀ {as : List MA} {vs : List V} {os : List (Option D)} {Tc F' Fr : List Addr} {ρ : Env}, RowM K N W T H1 σ as vs Tc → HBack K S' H' vs os F' →
    (∀ j s, MA.slot j s ∈ as → ∀ v, σ[j]? = some (some v) → ∀ k, s.pn = some k → v = .ref (N.p k)) → Keeps S' F' H' H3 → Slots K N L1 H3 σ ρ Fr → Fr.Nodup → F'.Nodup → (∀ b ∈ F', b ∉ Fr) →
    ∃ Ff : List Addr, Slots K N L1 H3 σ (backM al as os ρ) Ff ∧ (∀ b ∈ Ff, b ∈ Fr ∨ b ∈ F') ∧ Ff.Nodup
  | [], _, _, _, _, Fr, ρ, .nil, .nil, _, _, sl, nF, _, _ => ⟨Fr, sl, fun b m => .inl m, nF⟩
  | .val r :: as, _, _, _, _, Fr, ρ, .val _ row, .no hb, pn, kp, sl, nF, nF', dis => by
    have := back_ok hS row hb (fun j s m => pn j s (List.mem_cons_of_mem _ m)) kp sl nF nF' dis
    exact this
  | .val r :: as, _, _, _, _, Fr, ρ, .val _ row, .so (F := F0) (G := G0) _ hb, pn, kp, sl, nF, nF', dis => by
    obtain ⟨Ff, h1, h2, h3⟩ := back_ok hS row hb (fun j s m => pn j s (List.mem_cons_of_mem _ m)) (kp.sub fun a m => List.mem_append_right _ m) sl nF (List.nodup_append.mp nF').2.1 fun b m => dis b (List.mem_append_right _ m)
    exact ⟨Ff, h1, fun b m => (h2 b m).imp id (List.mem_append_right _), h3⟩
  | .slot j s :: as, _, _, _, _, Fr, ρ, .slot _ row, .no hb, pn, kp, sl, nF, nF', dis => by
    have := back_ok hS row hb (fun j s m => pn j s (List.mem_cons_of_mem _ m)) kp sl nF nF' dis
    exact this
  | .slot j s :: as, _, _, _, _, Fr, ρ, .slot ev row, .so (d := d) (F := F0) (G := G0) rp hb, pn, kp, sl, nF, nF', dis => by
    have nF0 := List.nodup_append.mp nF'
    obtain ⟨Ff, h1, h2, h3⟩ := back_ok hS row hb (fun j s m => pn j s (List.mem_cons_of_mem _ m)) (kp.sub fun a m => List.mem_append_right _ m) sl nF nF0.2.1 fun b m => dis b (List.mem_append_right _ m)
    obtain ⟨F2, h4, h5, h6⟩ := h1.put (s := ⟨d, .full, al, s.pn⟩) ev (pn j s List.mem_cons_self _ ev) ((rp.keep (kp.sub fun a m => List.mem_append_left _ m)).mono hS)
    refine ⟨F2, h4, fun b m => (h5 b m).elim (fun m => (h2 b m).imp id (List.mem_append_right _)) fun m => .inr (List.mem_append_left _ m), h6 h3 nF0.1 fun b m m2 => (h2 b m2).elim (dis b (List.mem_append_left _ m)) fun y => nF0.2.2 b m b y rfl⟩
end
def xCall (ms : List Bool) (φ : List D → Option RetM) (g : EvM) : EvX := fun ρ => (g ρ).bind fun as => (splitM ms as ρ).bind fun ρh => (φ (as.map maD)).map fun r => (backM (as.any maA) as r.1 ρh, mkR (as.any maA) false r.2)
structure MOk (g : EvM) : Prop where
  ok : ∀ ρ as, g ρ = some as → ∀ j s, MA.slot j s ∈ as → ρ[j]? = some (some s)
theorem mok_nil : MOk mNil := ⟨fun ρ as z j s m => by cases z; cases m⟩
theorem mok_val {f : EvE} {g : EvM} (h : MOk g) : MOk (mVal f g) := ⟨fun ρ as z j s m => by
  unfold mVal at z
  obtain ⟨r, e1, z⟩ := bind_some z
  split at z
  · obtain ⟨rs, e2, z⟩ := Option.map_eq_some_iff.mp z
    subst z
    rcases List.mem_cons.mp m with m | m
    · cases m
    · exact h.ok ρ rs e2 j s m
  · cases z⟩
theorem mok_slot {i : Nat} {g : EvM} (h : MOk g) : MOk (mSlot i g) := ⟨fun ρ as z j s m => by
  unfold mSlot at z
  split at z
  · rename_i s' es
    obtain ⟨rs, e2, z⟩ := Option.map_eq_some_iff.mp z
    subst z
    rcases List.mem_cons.mp m with m | m
    · cases m; exact es
    · exact h.ok ρ rs e2 j s m
  · cases z⟩
section
variable {X : Cx} {k : Nat} {x : Str} {ms : List Bool} {φ : List D → Option RetM} {p pos : Pos} {e : Expr} {es : List Expr} {g : EvM}
theorem x_call (F : FnM X.prog X.w X.K X.mg X.base k x ms φ) (hr : Room k X.A) (ha : PMv X (e :: es) g) (ho : MOk g) (hl : ∀ ρ as, g ρ = some as → as.length = ms.length) (hg : Gl X x := by rfl) (hdb : (x == ("__debug__" : Str)) = false := by decide)
    (he : starEach (e :: es) X.env = (false, eval e X.env) :: starEach es X.env := by rfl) (hpl : (backTo pos (starEach es X.env)).any (·.1) = false := by rfl) :
    PXv X (.Call (.Name x p) (e :: es) [] pos) (xCall ms φ g) := by
  obtain ⟨f, fd, ps, G, hm, hk, hb⟩ := F.ok
  refine imp_e (pe_call G hr hg hm hk hb .nil pass0 ha hdb he hpl) fun σ H Q ⟨N, H0, ρ, L, ρ', r, sim, z, q⟩ => ?_
  unfold xCall at z
  obtain ⟨as, e1, z⟩ := bind_some z
  obtain ⟨ρh, e2, z⟩ := bind_some z
  obtain ⟨⟨os, rr⟩, e3, z⟩ := Option.map_eq_some_iff.mp z
  cases z
  refine ⟨N, H0, ρ, L, L, as, sim.h, e1, fun vs H1 T s1 n1 d1 row => ?_⟩
  suffices h : ∀ E, spM X.K ms φ vs H1 Q E by
    show spM X.K ms φ (vs ++ []) H1 Q (fun _ _ _ => False)
    rw [List.append_nil]
    exact h _
  intro E
  have hTN : ∀ b ∈ T, N b := fun b m => sim.nw b (n1 b m)
  have hTW : ∀ b ∈ T, b ∉ L := fun b m w => sim.th b w (n1 b m)
  have hal : ∀ a ∈ as, maA a = true → as.any maA = true := fun a m e => List.any_eq_true.mpr ⟨a, m, e⟩
  obtain ⟨Fr, Gh, P, sl, nFr, hFr, hargs, nG, hG, hP⟩ := split_ok (al := as.any maA) s1 sim.ln n1 hTW hTN row e2 hal (fun j s m s' es => by
    have := ho.ok ρ as e1 j s m
    rw [this] at es
    cases es
    rfl) sim.sl sim.nd (fun _ z => z) d1 fun _ z => z
  have gN : ∀ b ∈ Gh, N b := fun b m => (hG b m).elim (sim.ln b) (hTN b)
  have muG := hargs.mu
  have frL : ∀ b ∈ Fr, b ∈ L := fun b m => (hFr b m).1
  refine ⟨by rw [row.len, hl ρ as e1], _, _, Gh, (os, rr), hargs, nG, fun a z => ?_, e3, sim.kp.tb.same s1, fun v H' Gr F' k1 kt k2 hbk k3 k4 k5 rp => ?_⟩
  · rcases z with z | z
    · exact fun m => (hG a m).elim z.2.1 z.2.2
    · exact (hP a z).2
  dsimp only at hbk rp
  have nFG := List.nodup_append.mp k4
  -- the heap without what is made
  let H3 : Hp := fun b => if b ∈ Gr then none else H' b
  have h3in : ∀ b, b ∈ Gr → H3 b = none := fun b m => if_pos m
  have h3out : ∀ b, b ∉ Gr → H3 b = H' b := fun b m => if_neg m
  have sm3 : Same H3 H' := .of fun b o e => by
    by_cases m : b ∈ Gr
    · rw [h3in b m] at e; cases e
    · rw [h3out b m] at e; exact e
  have new3 : ∀ b ∈ F' ++ Gr, N b := fun b m => (k3 b m).elim (gN b) fun y => sim.nw b (s1.free y)
  have hold : ∀ b o, H1 b = some o → b ∉ Gh → b ∉ Gr → NT o → H3 b = some o := fun b o e n1 n2 nt => by rw [h3out b n2]; exact k1 b o e n1 nt
  have t3 : ∀ P q, TbQ H P q → TbQ H3 P q := fun P q t => tabS_rem rp.own_ne h3out (kt P q (s1.t P q t))
  have grOut : ∀ b, H1 b ≠ none → b ∉ Gh → b ∉ Gr := fun b n m y => (k3 b (List.mem_append_right _ y)).elim m n
  have disF : ∀ b ∈ F', b ∉ Fr := fun b m m2 => (k3 b (List.mem_append_left _ m)).elim (hFr b m2).2 fun y => sim.th b (frL b m2) (s1.free y)
  have frH1 : ∀ b ∈ Fr, H1 b ≠ none := fun b m y => sim.th b (frL b m) (s1.free y)
  have kpS : ∀ al, Keeps (SR N L al false) Fr H H3 := fun al b o e nt q => by
    have eb := s1.k b o e nt
    have hn : H1 b ≠ none := by rw [eb]; exact fun z => nomatch z
    have hGb : b ∉ Gh := fun m => by
      rcases q with q | q | ⟨xs, rfl⟩ | ⟨o', u, rfl⟩
      · exact (hG b m).elim (q.2 rfl) fun y => by have := n1 b y; rw [e] at this; cases this
      · exact (hFr b q).2 m
      · have := muG b m; rw [eb] at this; exact this
      · have := muG b m; rw [eb] at this; exact this
    exact hold b o eb hGb (grOut b hn hGb) nt
  have sl3 : Slots X.K N (Fr ++ F') H3 σ ρh Fr := sl.move (fun a z t m => (List.mem_append.mp m).elim (fun m => z (frL a m)) fun m => (k3 a (List.mem_append_left _ m)).elim (fun y => (hG a y).elim z fun y => t (n1 a y)) fun y => t (s1.free y)) kpS
  have S'ok : ∀ a, (H1 a = none ∨ a ∈ Gh ∨ (AlN N (as.any maA) a ∧ a ∉ L ∧ a ∉ T) ∨ a ∈ P) → AlN N (as.any maA) a ∧ a ∉ Fr := fun a z => by
    rcases z with z | z | z | z
    · exact ⟨.new (sim.nw a (s1.free z)), fun m => frH1 a m z⟩
    · exact ⟨.new (gN a z), fun m => (hFr a m).2 z⟩
    · exact ⟨z.1, fun m => z.2.1 (frL a m)⟩
    · exact ⟨.new (hTN a (hP a z).1), fun m => hTW a (hP a z).1 (frL a m)⟩
  obtain ⟨Ff, slf, hFf, nFf⟩ := back_ok (K := X.K) (N := N) (L1 := Fr ++ F') (al := as.any maA) (H3 := H3) (S' := fun a => (H1 a = none ∨ a ∈ Gh ∨ (AlN N (as.any maA) a ∧ a ∉ L ∧ a ∉ T) ∨ a ∈ P) ∧ a ∉ F' ∧ a ∉ Gr) (fun a z => ⟨(S'ok a z.1).1, fun _ m => (List.mem_append.mp m).elim (S'ok a z.1).2 z.2.1⟩) row hbk (fun j s m v ev k ek => by
      obtain ⟨v', _, ev', _, _, hp⟩ := sim.sl.get (ho.ok ρ as e1 j s m)
      rw [ev] at ev'
      cases ev'
      exact hp k ek) (fun b o e _ q => by
      have : b ∉ Gr := fun m => by
        rcases q with q | q | ⟨xs, rfl⟩ | ⟨o', u, rfl⟩
        · exact q.2.2 m
        · exact nFG.2.2 b q b m rfl
        · have := k5 b (List.mem_append_right _ m); rw [e] at this; exact this
        · have := k5 b (List.mem_append_right _ m); rw [e] at this; exact this
      rw [h3out b this]
      exact e) sl3 nFr nFG.1 disF
  have mu3 : ∀ b ∈ Ff, Mut (H3 b) := fun b m => by
    rcases hFf b m with y | y
    · obtain ⟨o, eo, neo⟩ : ∃ o, H1 b = some o ∧ NE o := by
        obtain ⟨o, eo, neo⟩ := sim.ne b (frL b y)
        exact ⟨o, s1.k b o eo (ne_nt neo), neo⟩
      rw [hold b o eo (hFr b y).2 (grOut b (frH1 b y) (hFr b y).2) (ne_nt neo), ← eo]
      exact mut_same (sim.mu b (frL b y)) s1
    · rw [h3out b fun m2 => nFG.2.2 b y b m2 rfl]
      exact k5 b (List.mem_append_left _ y)
  have sim3 : Sim X.K N H0 (backM (as.any maA) as os ρh) σ H3 Ff := by
    refine ⟨⟨fun b o e n nt => ?_, fun P q t => t3 P q (sim.kp.t P q t), sim.kp.b⟩, fun b e => ?_, nFf, fun b m => (hFf b m).elim (fun y => sim.ln b (frL b y)) fun y => new3 b (List.mem_append_left _ y), mu3, slf.mono fun a z m => z ((hFf a m).elim (List.mem_append_left _) (List.mem_append_right _))⟩
    · exact hold b o (s1.k b o (sim.kp.k b o e n nt) nt) (fun m => n (gN b m)) (fun m => n (new3 b (List.mem_append_right _ m))) nt
    · by_cases m : b ∈ Gr
      · exact new3 b (List.mem_append_right _ m)
      · rw [h3out b m] at e
        exact (k2 b e).elim (fun y => sim.nw b (s1.free y)) (gN b)
  have gL : ∀ b ∈ Gh, b ∈ L ∨ H b = none := fun b m => (hG b m).imp id (n1 b)
  have fr3 : Frm H L H3 Ff := by
    refine ⟨fun b o e n nt => ?_, fun b e => ?_, fun b m => (hFf b m).elim (fun y => .inl (frL b y)) fun y => (k3 b (List.mem_append_left _ y)).elim (gL b) fun y => .inr (s1.free y)⟩
    · have eb := s1.k b o e nt
      have hGb : b ∉ Gh := fun m => (gL b m).elim n fun y => by rw [e] at y; cases y
      exact hold b o eb hGb (grOut b (by rw [eb]; exact fun z => nomatch z) hGb) nt
    · by_cases m : b ∈ Gr
      · exact (k3 b (List.mem_append_right _ m)).elim (fun y => (gL b y).symm) fun y => .inl (s1.free y)
      · rw [h3out b m] at e
        exact (k2 b e).elim (fun y => .inl (s1.free y)) fun y => (gL b y).symm
  refine (q H3 Ff sim3 fr3).ret sm3 h3in nFG.2.1 (fun a z => ⟨?_, z.2.1⟩) rp
  have offF : a ∉ Fr → a ∉ Ff := fun n m => (hFf a m).elim n z.2.2
  rcases z.1 with y | y | ⟨y1, y2⟩
  · exact .inl ⟨sim.nw a (s1.free y), offF (S'ok a (.inl y)).2⟩
  · exact .inl ⟨gN a y, offF (S'ok a (.inr (.inl y))).2⟩
  · have w := S'ok a (.inr (.inr y2))
    exact .inr ⟨y1, w.1, fun _ => offF w.2⟩
end
end Ev
set_option Elab.async false
set_option linter.all false
set_option maxRecDepth 100000
namespace Ev
open PySem PySem.Spec L2
open PyProof.Rows hiding St
structure MLen (g : EvM) (n : Nat) : Prop where
  ok : ∀ ρ as, g ρ = some as → as.length = n
theorem ml_nil : MLen mNil 0 := ⟨fun ρ as z => by cases z; rfl⟩
theorem ml_val {f : EvE} {g : EvM} {n : Nat} (h : MLen g n) : MLen (mVal f g) (n + 1) := ⟨fun ρ as z => by
  unfold mVal at z
  obtain ⟨r, e1, z⟩ := bind_some z
  split at z
  · obtain ⟨rs, e2, z⟩ := Option.map_eq_some_iff.mp z
    subst z
    rw [List.length_cons, h.ok ρ rs e2]
  · cases z⟩
theorem ml_slot {i : Nat} {g : EvM} {n : Nat} (h : MLen g n) : MLen (mSlot i g) (n + 1) := ⟨fun ρ as z => by
  unfold mSlot at z
  split at z
  · obtain ⟨rs, e2, z⟩ := Option.map_eq_some_iff.mp z
    subst z
    rw [List.length_cons, h.ok ρ rs e2]
  · cases z⟩
theorem fnM_of {P : Program} {w : World} {K : PySem.W.Frag} {mg : Str → Option Value} {base : Heap} {k : Nat} {x : Str} {ms : List Bool} {φ : List D → Option RetM} {f : Addr} {fd : FuncData} {ps : List Str} (F : FnOk P w K mg base CX0 k f fd ps (spM K ms φ)) (hm : mg x = some (.ref f)) (hk : PySem.W.keepIn K (.ref f) = true) (hb : Binds K fd ps []) : FnM P w K mg base k x ms φ := ⟨f, fd, ps, F, hm, hk, hb⟩
section
variable {X : Cx} {k : Nat} {C : Addr} {m x : Str} {e : Expr} {es : List Expr} {fx : EvX} {pos apos npos p : Pos} {φ : List D → Option RetD} {ms : List Bool} {ψ : List D → Option RetM} {g : EvM} {n : Nat}
theorem x_callM (F : FnM X.prog X.w X.K X.mg X.base k x ms ψ) (hr : Room k X.A) (ha : PMv X (e :: es) g) (ho : MOk g) (hl : MLen g n) (hn : n = ms.length := by rfl) (hg : Gl X x := by rfl) (hdb : (x == ("__debug__" : Str)) = false := by decide)
    (he : starEach (e :: es) X.env = (false, eval e X.env) :: starEach es X.env := by rfl) (hpl : (backTo pos (starEach es X.env)).any (·.1) = false := by rfl) :
    PXv X (.Call (.Name x p) (e :: es) [] pos) (xCall ms ψ g) := x_call F hr ha ho (fun ρ as z => (hl.ok ρ as z).trans hn) hg hdb he hpl
end
end Ev
set_option Elab.async false
set_option linter.all false
set_option maxRecDepth 100000
namespace Ev
open PySem PySem.Spec L2
open PyProof.Rows hiding St
theorem Slots.any {K : PySem.W.Frag} {N : Nw} {L : List Addr} {H : Hp} (y : Option V) : ∀ {σ : St} {ρ : Env} {F : List Addr} (i : Nat), Slots K N L H σ ρ F → ρ[i]? = some none → Slots K N L H (σ.set i y) ρ F
  | _, _, _, _, .nil, h => by simp at h
  | _, _, _, 0, .no h, _ => .no h
  | _, _, _, i + 1, .no h, e => .no (Slots.any y i h (by simpa using e))
  | _, _, _, 0, .so _ _ _, e => by simp at e
  | _, _, _, i + 1, .so h0 h1 h, e => .so h0 h1 (Slots.any y i h (by simpa using e))
theorem Sim.any {K : PySem.W.Frag} {N : Nw} {H0 H : Hp} {ρ : Env} {σ : St} {L : List Addr} (s : Sim K N H0 ρ σ H L) (y : Option V) {i : Nat} (h : ρ[i]? = some none) : Sim K N H0 ρ (σ.set i y) H L := ⟨s.kp, s.nw, s.nd, s.ln, s.mu, s.sl.any y i h⟩
theorem Slots.wipe {K : PySem.W.Frag} {N : Nw} {L : List Addr} {H : Hp} : ∀ {σ : St} {ρ : Env} {F : List Addr} (i : Nat), Slots K N L H σ ρ F → ∃ F', Slots K N L H σ (ρ.set i none) F' ∧ F'.Sublist F
  | _, _, _, i, .nil => ⟨[], by cases i <;> exact .nil, List.Sublist.refl _⟩
  | _, _, F, 0, .no h => ⟨F, .no h, List.Sublist.refl _⟩
  | _, _, _, 0, .so (F := F) (G := G) _ _ h => ⟨G, .no h, List.sublist_append_right F G⟩
  | _, _, _, i + 1, .no h => let ⟨F', s, q⟩ := Slots.wipe i h; ⟨F', .no s, q⟩
  | _, _, _, i + 1, .so (F := F) h0 h1 h => let ⟨F', s, q⟩ := Slots.wipe i h; ⟨F ++ F', .so h0 h1 s, List.Sublist.append (List.Sublist.refl F) q⟩
theorem Sim.wipe {K : PySem.W.Frag} {N : Nw} {H0 H : Hp} {ρ : Env} {σ : St} {L : List Addr} (s : Sim K N H0 ρ σ H L) (i : Nat) : ∃ L', Sim K N H0 (ρ.set i none) σ H L' ∧ ∀ b ∈ L', b ∈ L := by
  obtain ⟨F', h, q⟩ := s.sl.wipe i
  exact ⟨F', ⟨s.kp, s.nw, q.nodup s.nd, fun a z => s.ln a (q.subset z), fun a z => s.mu a (q.subset z), h.mono fun a z m => z (q.subset m)⟩, fun b z => q.subset z⟩
end Ev
set_option Elab.async false
set_option linter.all false
set_option maxRecDepth 100000
namespace Ev
open PySem PySem.Spec L2
open PyProof.Rows hiding St
end Ev
set_option Elab.async false
set_option linter.all false
set_option maxRecDepth 100000
namespace Ev
open PySem PySem.Spec L2
open PyProof.Rows hiding St
theorem for_run {K : PySem.W.Frag} {N : Nw} {H0 H1 : Hp} {ρX : Env} {σ : St} {L : List Addr} {t : Tg} {b : EvS} {J : It} {items : List (D × Bool)} {o : Out} {De : Ends} (sim : Sim K N H0 ρX σ H1 L) (Y : Yld K N L H1 J items) (z : forL t b items ρX = some o) (q : PostS K N H0 H1 L o De) :
    ∃ W : Nat → Nat → St → Hp → Prop, (∃ m, W 0 m σ H1) ∧ ∀ i m σ H, W i m σ H →
      (J.stop i H ∧ De.nx σ H) ∨ (J.go i H ∧ ∃ N' : St → Hp → Prop, (∀ σ' H', N' σ' H' → ∃ m', m' < m ∧ W (i + 1) m' σ' H') ∧ ∀ x H', J.yld i H x H' → tG K t x σ H' fun σ2 H2 => tS K b { De with nx := N', ct := N', bk := De.nx } σ2 H2) := by
  refine ⟨fun i m σ' H' => m = items.length - i ∧ i ≤ items.length ∧ ∃ ρ' L', Sim K N H0 ρ' σ' H' L' ∧ Frm H1 L H' L' ∧ forL t b (items.drop i) ρ' = some o ∧ PostS K N H0 H' L' o De,
    ⟨items.length, by simp, Nat.zero_le _, _, L, sim, Frm.refl _ _, by simpa using z, q⟩, ?_⟩
  rintro i m σ' H' ⟨rfl, hi, ρ', L', sim', fr, zi, qi⟩
  have kept : Kept H1 L H' := fr.1
  by_cases hlt : i < items.length
  · obtain ⟨⟨d, al⟩, ei⟩ : ∃ x, items[i]? = some x := ⟨items[i], List.getElem?_eq_getElem hlt⟩
    have ed : items.drop i = (d, al) :: items.drop (i + 1) := by
      rw [List.drop_eq_getElem_cons hlt]
      have := List.getElem?_eq_getElem hlt
      rw [ei] at this
      rw [← Option.some.inj this]
    rw [ed] at zi
    unfold forL at zi
    obtain ⟨ρ1, et, zi⟩ := bind_some zi
    obtain ⟨ob, eb, zi⟩ := bind_some zi
    refine .inr ⟨Y.go i d al H' ei kept, fun σ'' H'' => ∃ m', m' < items.length - i ∧ (m' = items.length - (i + 1) ∧ i + 1 ≤ items.length ∧ ∃ ρ' L', Sim K N H0 ρ' σ'' H'' L' ∧ Frm H1 L H'' L' ∧ forL t b (items.drop (i + 1)) ρ' = some o ∧ PostS K N H0 H'' L' o De), fun _ _ h => h, fun x H3 y => ?_⟩
    obtain ⟨s3, r3⟩ := Y.yld i d al H' x H3 ei kept y
    have fr3 : Frm H' L' H3 L' := Frm.same s3 fun b z => .inl z
    refine ⟨N, H0, ρ', L', L', d, al, ρ1, (sim'.same s3).h, r3.mono fun a z => ⟨z.1.1, fun _ w => (fr.2.2 a w).elim (z.1.2 rfl) z.2⟩, et, fun σ2 L2 sim2 sub2 _ => ?_⟩
    have fr2 : Frm H' L' H3 L2 := Frm.same s3 fun b z => .inl (sub2 b z)
    refine ⟨N, H0, ρ1, L2, ob, sim2.sim, eb, ?_⟩
    have again : ∀ {ρ2 : Env}, forL t b (items.drop (i + 1)) ρ2 = some o → ∀ σ4 H4 L4, Sim K N H0 ρ2 σ4 H4 L4 → Frm H3 L2 H4 L4 → ∃ m', m' < items.length - i ∧ (m' = items.length - (i + 1) ∧ i + 1 ≤ items.length ∧ ∃ ρ' L', Sim K N H0 ρ' σ4 H4 L' ∧ Frm H1 L H4 L' ∧ forL t b (items.drop (i + 1)) ρ' = some o ∧ PostS K N H0 H4 L' o De) :=
      fun z4 σ4 H4 L4 sim4 fr4 => ⟨_, by omega, rfl, hlt, _, L4, sim4, fr.trans (fr2.trans fr4), z4, qi.at_ (fr2.trans fr4)⟩
    cases ob with
    | nx ρ2 => exact again zi
    | ct ρ2 => exact again zi
    | bk ρ2 => cases zi; exact fun σ4 H4 L4 sim4 fr4 => qi σ4 H4 L4 sim4 (fr2.trans fr4)
    | rt ρ2 d l al => cases zi; exact qi.at_ fr2
  · have ei : i = items.length := by omega
    subst ei
    rw [List.drop_length] at zi
    unfold forL at zi
    cases zi
    exact .inl ⟨Y.stop H' kept, qi σ' H' L' sim' (Frm.refl _ _)⟩
def noPin (k : Nat) (ρ : Env) : Bool := ρ.all fun o => match o with
  | some s => decide (s.pn ≠ some k)
  | none => true
def clr (k : Nat) (ρ : Env) : Env := ρ.map fun o => o.map fun s => if s.pn = some k then ⟨s.d, s.l, s.al, none⟩ else s
def backH (j k : Nat) (s : Sv) : Out → Option Out
  | .nx ρ => match ρ[j]? with
    | some (some s2) => if s2.pn = some k then some (.nx ((clr k ρ).set j (some s))) else none
    | _ => none
  | .rt ρ d l al => some (.rt (clr k ρ) d l al)
  | _ => none
def topP : Env → Nat
  | [] => 0
  | some s :: ρ => match s.pn with
    | some k => max (k + 1) (topP ρ)
    | none => topP ρ
  | none :: ρ => topP ρ
theorem topP_no : ∀ (ρ : Env) (k : Nat), topP ρ ≤ k → noPin k ρ = true
  | [], _, _ => rfl
  | none :: ρ, k, h => by
    show (true && noPin k ρ) = true
    rw [topP_no ρ k h]; rfl
  | some s :: ρ, k, h => by
    show (decide (s.pn ≠ some k) && noPin k ρ) = true
    unfold topP at h
    cases e : s.pn with
    | none =>
      rw [e] at h
      rw [topP_no ρ k h]; rfl
    | some j =>
      rw [e] at h
      dsimp only at h
      rw [topP_no ρ k (by omega)]
      simp; omega
def sForH (fp : EvP) (t : Tg) (b : EvS) : EvS := fun ρ => (fp ρ).bind fun z => match z.2.2, ρ[z.1]? with
  | .lst ds, some (some s) => if immAll ds = true ∧ isNd s.d = true then (forL t b (ds.map fun d => (d, false)) (ρ.set z.1 (some ⟨.any, .full, false, some (topP ρ)⟩))).bind (backH z.1 (topP ρ) s) else none
  | _, _ => none
theorem Slots.into {K : PySem.W.Frag} {N N' : Nw} {L L' : List Addr} {H : Hp} {k0 : Nat} (hp : ∀ k, k ≠ k0 → N'.p k = N.p k) (h : ∀ al a, SR N L al false a → SR N' L' al false a) : ∀ {σ : St} {ρ : Env} {F : List Addr}, Slots K N L H σ ρ F → noPin k0 ρ = true → Slots K N' L' H σ ρ F
  | _, _, _, .nil, _ => .nil
  | _, _, _, .no q, e => .no (Slots.into hp h q (by simpa [noPin] using e))
  | _, _, _, .so (s := s) h0 h1 q, e => by
    simp only [noPin, List.all_cons, Bool.and_eq_true, decide_eq_true_eq] at e
    exact .so (fun k ek => by rw [hp k fun z => e.1 (by rw [ek, z])]; exact h0 k ek) (h1.mono fun a z => h _ a z) (Slots.into hp h q e.2)
theorem Slots.outof {K : PySem.W.Frag} {N N' : Nw} {L L' : List Addr} {H : Hp} {k0 : Nat} (hp : ∀ k, k ≠ k0 → N'.p k = N.p k) (h : ∀ al a, SR N' L' al false a → SR N L al false a) : ∀ {σ : St} {ρ : Env} {F : List Addr}, Slots K N' L' H σ ρ F → Slots K N L H σ (clr k0 ρ) F
  | _, _, _, .nil => .nil
  | _, _, _, .no q => .no (Slots.outof hp h q)
  | _, _, _, .so (s := s) h0 h1 q => by
    have r := Slots.outof (k0 := k0) hp h q
    by_cases e : s.pn = some k0
    · have z := Slots.so (K := K) (N := N) (L := L) (H := H) (s := ⟨s.d, s.l, s.al, none⟩) (fun _ z => nomatch z) (h1.mono fun a z => h _ a z) r
      unfold clr at z ⊢
      rw [List.map_cons, Option.map_some, if_pos e]
      exact z
    · have z := Slots.so (K := K) (N := N) (L := L) (H := H) (s := s) (fun k ek => by rw [← hp k fun z => e (by rw [ek, z])]; exact h0 k ek) (h1.mono fun a z => h _ a z) r
      unfold clr at z ⊢
      rw [List.map_cons, Option.map_some, if_neg e]
      exact z
end Ev
set_option Elab.async false
set_option linter.all false
set_option maxRecDepth 100000
namespace Ev
open PySem PySem.Spec L2
open PyProof.Rows hiding St
section
variable {X : Cx} {tg e : Expr} {fp : EvP} {t : Tg} {b : EvS} {body : List Stmt} {pos : Pos}
theorem s_forH (hc : X.calm = true) (h : PPv X e fp) (hg : PGv X tg t) (hb : PSsv X body b) (hp : PassesOwn (model X.prog X.w) X.A X.env X.xe := by exact PassesOwn.never) (hs : ∀ x, foldedSetIterable e X.env x = pure x := by intro _; rfl) : PSv X (.For tg e body [] pos) (sForH fp t b) := by
  refine imp_s (ps_for hp hc (pi_list h.run) hg hb hs) fun De σ H ⟨N, H0, ρ, L, o, sim, z, q⟩ => ?_
  unfold sForH at z
  obtain ⟨⟨j, p, d⟩, e1, z⟩ := bind_some z
  dsimp only at z
  split at z
  · rename_i ds s es
    split at z
    · rename_i hcd
      obtain ⟨hi, hnd⟩ := hcd
      generalize hk0 : topP ρ = k0 at z
      have hnp : noPin k0 ρ = true := topP_no ρ k0 (by omega)
      obtain ⟨o1, z1, z2⟩ := bind_some z
      obtain ⟨s', es', hl, hdp⟩ := h.ok ρ j p _ e1
      rw [es] at es'
      cases es'
      obtain ⟨F1, G, F2, v0, eL, ev, rp, sl⟩ := sim.sl.hide es
      have nd := sim.nd
      rw [eL, List.nodup_append, List.nodup_append] at nd
      obtain ⟨a1, ⟨a2, a3, a4⟩, a5⟩ := nd
      rw [hl] at rp
      obtain ⟨u, A, G2, B, eG, ru, w2, _⟩ := rp.way hdp a2
      obtain ⟨a, ob, vs, ds', F3, rfl, eG2, ha, hn, hr⟩ := ru.node rfl
      cases hn with
      | lst =>
        obtain ⟨a0, o0, vs0, ds0, F0, rfl, _⟩ := rp.node hnd
        have aG : a ∈ G := by rw [eG, eG2]; simp
        have gL : ∀ b ∈ G, b ∈ L := fun b m => by rw [eL]; simp [m]
        have n12 : (F1 ++ F2).Nodup := by
          rw [List.nodup_append]
          exact ⟨a1, a3, fun a m b m2 => a5 a m b (by simp [m2])⟩
        have g12 : ∀ b ∈ F1 ++ F2, b ∉ G := fun b m m2 => (List.mem_append.mp m).elim (fun y => a5 b y b (by simp [m2]) rfl) fun y => a4 b m2 b y rfl
        have sub12 : ∀ b ∈ F1 ++ F2, b ∈ L := fun b m => by
          rw [eL]
          rcases List.mem_append.mp m with m | m <;> simp [m]
        refine ⟨N, H0, ρ, L, L, j, p, _, sim.h, e1, fun u' H1 s1 at1 => ?_⟩
        have := (at1 _ ev).fn (w2.same s1)
        subst this
        refine ⟨a, rfl, ⟨vs, SqL.of (s1.k _ _ ha (by first | trivial | exact node_nt (by assumption)))⟩, ?_⟩
        let N' : Nw := ⟨fun a => N a ∧ a ∉ G, fun a => N.s a ∧ a ∉ G, fun k => if k = k0 then a0 else N.p k⟩
        have hpin : ∀ k, k ≠ k0 → N'.p k = N.p k := fun k hk => if_neg hk
        have cvI : ∀ al b, SR N L al false b → SR N' (F1 ++ F2) al false b := fun al b w => by
          have hG : b ∉ G := fun m => w.2 rfl (gL b m)
          exact ⟨⟨w.1.1.imp (fun y => ⟨y, hG⟩) (fun y => ⟨y, hG⟩), fun ee => ⟨w.1.2 ee, hG⟩⟩, fun _ m => w.2 rfl (sub12 b m)⟩
        have np1 : noPin k0 (ρ.set j none) = true := by
          unfold noPin at hnp ⊢
          rw [List.all_eq_true] at hnp ⊢
          intro x hx
          rcases List.mem_or_eq_of_mem_set hx with hx | hx
          · exact hnp x hx
          · rw [hx]
        have sl1 : Slots X.K N' (F1 ++ F2) H σ (ρ.set j none) (F1 ++ F2) := sl.into hpin cvI np1
        obtain ⟨F4, sl2, f1, f2⟩ := sl1.put (s := ⟨.any, .full, false, some k0⟩) (G := []) ev (fun k ek => by cases ek; show V.ref a0 = V.ref (if k0 = k0 then a0 else N.p k0); rw [if_pos rfl]) .any
        rw [List.set_set] at sl2
        have nF4 := f2 n12 .nil (fun _ z => nomatch z)
        have F4s : ∀ b ∈ F4, b ∈ F1 ++ F2 := fun b m => (f1 b m).resolve_right (fun z => nomatch z)
        have F4L : ∀ b ∈ F4, b ∈ L := fun b m => sub12 b (F4s b m)
        have gN : ∀ b ∈ G, H b ≠ none := fun b m => sim.th b (gL b m)
        have simI : Sim X.K N' H (ρ.set j (some ⟨.any, .full, false, some k0⟩)) σ H F4 := ⟨.refl sim.kp.tb, fun b e => ⟨sim.nw b e, fun m => gN b m e⟩, nF4, fun b m => ⟨sim.ln b (F4L b m), g12 b (F4s b m)⟩, fun b m => sim.mu b (F4L b m), sl2.mono fun b y m => y (F4s b m)⟩
        have simI1 := simI.same s1
        have hvs := ((hr.same s1).of_imm (S' := SR N' F4 false false) (l' := .shr) hi).2
        have muW : ∀ b ∈ F4, Mut (H1 b) := simI1.mu
        have Y : Yld X.K N' F4 H1 (Itl X.K a) (ds.map fun d => (d, false)) := yld_list (fun H2 k => SqL.of (k _ _ (s1.k _ _ ha trivial) (fun m => g12 a (F4s a m) aG) trivial)) muW hvs
        -- what stands behind the loop stands for us, too
        have keepG : ∀ {ρ2 : Env} {σ2 : St} {H2 : Hp} {L2 : List Addr}, Sim X.K N' H ρ2 σ2 H2 L2 → ∀ b o, H b = some o → (b ∈ G ∨ ¬ N b) → NT o → H2 b = some o := fun s2 b o e m nt => s2.kp.k b o e (fun y => m.elim y.2 fun m => m y.1) nt
        refine for_run simI1 Y z1 ?_
        have cvO : ∀ {L2 : List Addr}, ∀ al b, SR N' L2 al false b → SR N L2 al false b := fun al b w => ⟨⟨w.1.1.imp And.left And.left, fun ee => (w.1.2 ee).1⟩, w.2⟩
        cases o1 with
        | bk ρ2 => cases z2
        | ct ρ2 => cases z2
        | nx ρ2 =>
          have z2 : (match ρ2[j]? with
            | some (some s2) => if s2.pn = some k0 then some (Out.nx ((clr k0 ρ2).set j (some s))) else none
            | _ => none) = some o := z2
          split at z2
          · rename_i s2 es2
            split at z2
            · rename_i hpk
              cases z2
              intro σ2 H2 L2 sim2 fr2
              obtain ⟨v2, _, ev2, _, _, hp2⟩ := sim2.sl.get es2
              have hv2 := hp2 k0 hpk
              have : N'.p k0 = a0 := if_pos rfl
              rw [this] at hv2
              subst hv2
              have L2G : ∀ b ∈ L2, b ∉ G := fun b m => (sim2.ln b m).2
              have slO : Slots X.K N (L2 ++ G) H2 σ2 (clr k0 ρ2) L2 := sim2.sl.outof hpin fun al b w => ⟨⟨w.1.1.imp And.left And.left, fun ee => (w.1.2 ee).1⟩, fun _ m => (List.mem_append.mp m).elim (w.2 rfl) (w.1.1.elim And.right And.right)⟩
              have f4G : ∀ b ∈ G, b ∉ F4 := fun b m m2 => g12 b (F4s b m2) m
              have kp2 : ∀ b o, H b = some o → b ∉ F4 → NT o → H2 b = some o := fun b o e n nt => fr2.1 b o (s1.k b o e nt) n nt
              have newL : ∀ b ∈ L2, b ∈ L ∨ H b = none := fun b m => (fr2.2.2 b m).imp (F4L b) s1.free
              have rpO : Rp X.K (SR N (L2 ++ G) s.al false) H2 .full (.ref a0) s.d G := (rp.trk.keep (H' := H2) fun b o e nt m => kp2 b o e (fun m4 => by
                rcases m with m | m | ⟨xs, rfl⟩ | ⟨o', u, rfl⟩
                · exact m.1.2 rfl (F4L b m4)
                · exact f4G b m m4
                · have := simI.mu b m4; rw [e] at this; exact this
                · have := simI.mu b m4; rw [e] at this; exact this) nt).mono fun b w => ⟨w.1.1, fun _ m => (List.mem_append.mp m).elim (fun m => (newL b m).elim (w.1.2 rfl) w.2) fun m => w.1.2 rfl (gL b m)⟩
              obtain ⟨v9, _, ev9, _, _, pin9⟩ := sim.sl.get es
              rw [ev] at ev9
              cases ev9
              obtain ⟨F6, sl6, g1, g2⟩ := slO.put (s := s) ev2 pin9 (by rw [hl]; exact rpO)
              have n6 := g2 sim2.nd a2 fun b m m2 => L2G b m2 m
              refine q σ2 H2 F6 ⟨⟨fun b o e n nt => sim2.kp.k b o (sim.kp.k b o e n nt) (fun y => n y.1) nt, fun P q t => sim2.kp.t P q (sim.kp.t P q t), sim.kp.b⟩, fun b e => (sim2.nw b e).1, n6, fun b m => (g1 b m).elim (fun m => (sim2.ln b m).1) fun m => sim.ln b (gL b m), fun b m => ?_, sl6.mono fun b y m => y ((g1 b m).elim (List.mem_append_left _) (List.mem_append_right _))⟩ ⟨fun b o e n nt => kp2 b o e (fun m => n (F4L b m)) nt, fun b e => (fr2.2.1 b e).imp s1.free (F4L b), fun b m => (g1 b m).elim (newL b) fun m => .inl (gL b m)⟩
              rcases g1 b m with m | m
              · exact sim2.mu b m
              · obtain ⟨o, eo, neo⟩ := sim.ne b (gL b m)
                rw [kp2 b o eo (f4G b m) (ne_nt neo), ← eo]
                exact sim.mu b (gL b m)
            · cases z2
          · cases z2
        | rt ρ2 d2 l2 al2 =>
          have z2 : some (Out.rt (clr k0 ρ2) d2 l2 al2) = some o := z2
          cases z2
          intro v σ2 H2 L2 F5 sim2 kp2 rp2
          refine q v σ2 H2 L2 F5 ⟨⟨fun b o e n nt => sim2.kp.k b o (sim.kp.k b o e n nt) (fun y => n y.1) nt, fun P q t => sim2.kp.t P q (sim.kp.t P q t), sim.kp.b⟩, fun b e => (sim2.nw b e).1, sim2.nd, fun b m => (sim2.ln b m).1, sim2.mu, sim2.sl.outof hpin cvO, sim2.sub, sim2.ndl⟩ (fun b o e n nt => kp2 b o (s1.k b o e nt) (fun m => n (F4L b m)) nt) (rp2.mono fun b w => ⟨⟨w.1.1.imp And.left And.left, fun ee => (w.1.2 ee).1⟩, w.2⟩)
    · cases z
  · cases z
end
end Ev
set_option Elab.async false
set_option linter.all false
set_option maxRecDepth 100000
namespace Ev
open PySem PySem.Spec L2
open PyProof.Rows hiding St
abbrev DctO (u : HO) : Prop := (∃ kv, u = .dK kv) ∨ ∃ kv, u = .dT kv
theorem DctO.mu {u : HO} (h : DctO u) : Mut (some u) := by
  rcases h with ⟨kv, rfl⟩ | ⟨kv, rfl⟩ <;> trivial
section
variable {K : PySem.W.Frag} {S : Addr → Prop} {H : Hp} {x : Addr} {od : Obj} {u : HO}
mutual
theorem Rp.free (hx : H x = some (.frz od u)) (hd : DctO u) : ∀ {l : Lv} {v : V} {d : D} {F : List Addr}, Rp K S H l v d F → (∀ a ∈ F, a ≠ x) → Rp K S (upd H x u) l v d F
  | _, _, _, _, .any, _ => .any
  | _, _, _, _, .exc, _ => .exc
  | _, _, _, _, .sh h1, _ => .sh (Rp.free hx hd h1 (fun _ z => nomatch z))
  | _, _, _, _, .non, _ => .non
  | _, _, _, _, .bl, _ => .bl
  | _, _, _, _, .int, _ => .int
  | _, _, _, _, .str, _ => .str
  | _, _, _, _, .tup h1 h2, hF => .tup (by rw [upd_ne (fun y => by rw [y, hx] at h1; cases h1)]; exact h1) (Rps.free hx hd h2 hF)
  | _, _, _, _, .fl h1 h3, hF => .fl (by
      rcases h1 with ⟨o, h1⟩ | h1
      · exact .inl ⟨o, by rw [upd_ne (fun y => by rw [y, hx] at h1; cases h1; rcases hd with ⟨_, e⟩ | ⟨_, e⟩ <;> cases e)]; exact h1⟩
      · exact .inr h1) (Rps.free hx hd h3 (fun _ z => nomatch z))
  | _, _, _, _, .nd0 (a := a) h0 h1 h2 h3, hF => .nd0 h0 (by
      by_cases e : a = x
      · subst e
        rcases h1 with h1 | ⟨⟨o', h1⟩, _⟩
        · rw [hx] at h1
          cases h1
          cases h0
        · rw [hx] at h1
          cases h1
          exact .inl upd_same
      · exact h1.imp fun _ q => by rw [upd_ne e]; exact q) h2 (Rps.free hx hd h3 (fun _ z => nomatch z))
  | _, _, _, _, .nd1 h0 h1 h2 h3, hF => .nd1 h0 h1 (by rw [upd_ne (hF _ List.mem_cons_self)]; exact h2) (Rps.free hx hd h3 (fun a z => hF a (List.mem_cons_of_mem _ z)))
theorem Rps.free (hx : H x = some (.frz od u)) (hd : DctO u) : ∀ {l : Lv} {vs : List V} {ds : List D} {F : List Addr}, Rps K S H l vs ds F → (∀ a ∈ F, a ≠ x) → Rps K S (upd H x u) l vs ds F
  | _, _, _, _, .nil, _ => .nil
  | _, _, _, _, .cons h1 h2, hF => .cons (Rp.free hx hd h1 fun a z => hF a (List.mem_append_left _ z)) (Rps.free hx hd h2 fun a z => hF a (List.mem_append_right _ z))
end
variable {N : Nw} {H0 : Hp} {ρ : Env} {σ : St} {L W : List Addr}
theorem Slots.free {L0 : List Addr} (hx : H x = some (.frz od u)) (hd : DctO u) : ∀ {σ : St} {ρ : Env} {F : List Addr}, Slots K N L0 H σ ρ F → (∀ a ∈ F, a ≠ x) → Slots K N L0 (upd H x u) σ ρ F
  | _, _, _, .nil, _ => .nil
  | _, _, _, .no h, k => .no (Slots.free hx hd h k)
  | _, _, _, .so h0 h1 h2, k => .so h0 (h1.free hx hd fun a z => k a (List.mem_append_left _ z)) (Slots.free hx hd h2 fun a z => k a (List.mem_append_right _ z))
theorem DctO.ne {u : HO} (h : DctO u) : NE u := by cases u <;> first | trivial | exact (nomatch h) | (unfold DctO at h; exact h.elim)
theorem SimH.free {ρ' : Env} {σ' : St} {H' : Hp} {L' W : List Addr} (s : Sim K N H0 ρ σ H L) (hu : H x = some u) (hd : DctO u) (s' : SimH K N (upd H x (.frz od u)) ρ' σ' H' L' W) (hx : H' x = some (.frz od u)) : SimH K N H0 ρ' σ' (upd H' x u) L' W := by
  have hw : ∀ a ∈ W, a ≠ x := fun a m e => by
    have := s'.mu a m
    rw [e, hx] at this
    exact this
  refine ⟨⟨fun b o e n nt => ?_, fun P q t => tabS_upd hx trivial (s'.kp.t P q (tabS_upd hu hd.ne (s.kp.t P q t))), s.kp.b⟩, fun b e => s'.nw b ?_, s'.nd, s'.ln, fun a m => ?_, s'.sl.free hx hd fun a m => hw a (s'.sub a m), s'.sub, s'.ndl⟩
  · have h1 := s.kp.k b o e n nt
    by_cases q : b = x
    · subst q; rw [upd_same]; rw [hu] at h1; exact h1
    · rw [upd_ne q]; exact s'.kp.k b o (by rw [upd_ne q]; exact h1) n nt
  · by_cases q : b = x
    · subst q; rw [upd_same] at e; cases e
    · rw [upd_ne q] at e; exact e
  · rw [upd_ne (hw a m)]; exact s'.mu a m
theorem frm_free {H' : Hp} {L' : List Addr} (hu : H x = some u) (k : Frm (upd H x (.frz od u)) L H' L') : Frm H L (upd H' x u) L' := by
  refine ⟨fun b o e n nt => ?_, fun b e => ?_, fun b m => (k.2.2 b m).imp id fun e => ?_⟩
  · by_cases q : b = x
    · subst q; rw [upd_same]; rw [hu] at e; exact e
    · rw [upd_ne q]; exact k.1 b o (by rw [upd_ne q]; exact e) n nt
  · by_cases q : b = x
    · subst q; rw [upd_same] at e; cases e
    · rw [upd_ne q] at e
      exact (k.2.1 b e).imp (fun z => by rw [upd_ne q] at z; exact z) id
  · by_cases q : b = x
    · subst q; rw [upd_same] at e; cases e
    · rw [upd_ne q] at e; exact e
theorem PostS.free {o : Out} {D : Ends} (s : Sim K N H0 ρ σ H L) (hu : H x = some u) (hd : DctO u) (hn : x ∉ L) (q : PostS K N H0 H L o D) :
    PostS K N (upd H x (.frz od u)) (upd H x (.frz od u)) L o ⟨fun σ' H' => H' x = some (.frz od u) ∧ D.nx σ' (upd H' x u), fun v H' => H' x = some (.frz od u) ∧ D.rt v (upd H' x u), fun σ' H' => H' x = some (.frz od u) ∧ D.bk σ' (upd H' x u), fun σ' H' => H' x = some (.frz od u) ∧ D.ct σ' (upd H' x u)⟩ := by
  have go : ∀ {ρ' : Env} {σ' : St} {H' : Hp} {L' : List Addr}, Sim K N (upd H x (.frz od u)) ρ' σ' H' L' → Frm (upd H x (.frz od u)) L H' L' → H' x = some (.frz od u) ∧ Sim K N H0 ρ' σ' (upd H' x u) L' ∧ Frm H L (upd H' x u) L' := fun s' k => by
    have hx := k.1 x _ upd_same hn trivial
    exact ⟨hx, (SimH.free s hu hd s'.h hx).sim, frm_free hu k⟩
  cases o with
  | nx ρ' => exact fun σ' H' L' s' k => let ⟨a, b, c⟩ := go s' k; ⟨a, q _ _ _ b c⟩
  | bk ρ' => exact fun σ' H' L' s' k => let ⟨a, b, c⟩ := go s' k; ⟨a, q _ _ _ b c⟩
  | ct ρ' => exact fun σ' H' L' s' k => let ⟨a, b, c⟩ := go s' k; ⟨a, q _ _ _ b c⟩
  | rt ρ' d l al =>
    intro v σ' H' L' F s' k rp
    have hx := k x _ upd_same hn trivial
    have hw : ∀ a ∈ L' ++ F, a ≠ x := fun a m e => by
      have := s'.mu a m
      rw [e, hx] at this
      exact this
    refine ⟨hx, q v σ' _ L' F (SimH.free s hu hd s' hx) (fun b o e n nt => ?_) (rp.free hx hd fun a m => hw a (List.mem_append_right _ m))⟩
    by_cases e2 : b = x
    · subst e2; rw [upd_same]; rw [hu] at e; exact e
    · rw [upd_ne e2]; exact k b o (by rw [upd_ne e2]; exact e) n nt
end
end Ev
set_option Elab.async false
set_option linter.all false
set_option maxRecDepth 100000
namespace Ev
open PySem PySem.Spec L2
open PyProof.Rows hiding St
section
variable {K : PySem.W.Frag} {H : Hp} {x : Addr} {od : Obj} {u : HO} {N : Nw} {H0 : Hp} {ρ : Env} {σ : St} {L W : List Addr}
theorem Post.free {r : Rv} {Q : VK} (hu : H x = some u) (hd : DctO u) (q : Post K N W H r Q) : Post K N W (upd H x (.frz od u)) r fun v H' => H' x = some (.frz od u) ∧ Q v (upd H' x u) := fun v H1 F s n nd rp => by
  have hx := s.k x _ upd_same trivial
  have nF : ∀ a ∈ F, H a = none ∧ a ≠ x := fun a m => by
    have := n a m
    by_cases e : a = x
    · subst e; rw [upd_same] at this; cases this
    · rw [upd_ne e] at this; exact ⟨this, e⟩
  refine ⟨hx, q v _ F ⟨fun b o e nt => ?_, fun b e => ?_, fun P q t => tabS_upd hx trivial (s.t P q (tabS_upd hu hd.ne t))⟩ (fun a m => (nF a m).1) nd (rp.free hx hd fun a m => (nF a m).2)⟩
  · by_cases e2 : b = x
    · subst e2; rw [upd_same]; rw [hu] at e; exact e
    · rw [upd_ne e2]; exact s.k b o (by rw [upd_ne e2]; exact e) nt
  · by_cases e2 : b = x
    · subst e2; rw [upd_same] at e; cases e
    · rw [upd_ne e2] at e
      have := s.f b e
      rw [upd_ne e2] at this
      exact this
end
end Ev
set_option Elab.async false
set_option linter.all false
set_option maxRecDepth 100000
namespace Ev
open PySem PySem.Spec L2
open PyProof.Rows hiding St
end Ev
set_option Elab.async false
set_option linter.all false
set_option maxRecDepth 100000
namespace Ev
open PySem PySem.Spec L2
open PyProof.Rows hiding St
end Ev
set_option Elab.async false
set_option linter.all false
set_option maxRecDepth 100000
namespace Ev
open PySem PySem.Spec L2
open PyProof.Rows hiding St
section
variable {K : PySem.W.Frag} {S : Addr → Prop} {H : Hp} {l : Lv}
theorem Rps.erase : ∀ {vs : List V} {ds : List D} {F : List Addr} (j : Nat), Rps K S H l vs ds F → F.Nodup → ∃ F', Rps K S H l (vs.eraseIdx j) (ds.eraseIdx j) F' ∧ (∀ b ∈ F', b ∈ F) ∧ F'.Nodup
  | _, _, _, j, .nil, nd => ⟨[], .nil, fun _ z => z, nd⟩
  | _, _, _, 0, .cons (F := F) (G := G) h1 h2, nd => ⟨G, h2, fun b z => List.mem_append_right _ z, (List.nodup_append.mp nd).2.1⟩
  | _, _, _, j + 1, .cons (F := F) (G := G) h1 h2, nd => by
    rw [List.nodup_append] at nd
    obtain ⟨F', r, sub, nd'⟩ := Rps.erase j h2 nd.2.1
    refine ⟨F ++ F', .cons h1 r, fun b z => ?_, ?_⟩
    · rcases List.mem_append.mp z with z | z
      · exact List.mem_append_left _ z
      · exact List.mem_append_right _ (sub b z)
    · rw [List.nodup_append]
      exact ⟨nd.1, nd', fun b hb c hc y => nd.2.2 b hb c (sub c hc) y⟩
end
end Ev
set_option Elab.async false
set_option linter.all false
set_option maxRecDepth 100000
namespace Ev
open PySem PySem.Spec L2
open PyProof.Rows hiding St
end Ev
namespace Ev
open PySem
open PySem.SeqAt PySem.MeetsSeq
open PySem.AutoSeq1 (wpAny_loadPart')
end Ev
namespace Ev
open PySem PySem.Spec L2
open PyProof.Rows hiding St
end Ev
set_option Elab.async false
set_option linter.all false
set_option maxRecDepth 100000
namespace Ev
open PySem PySem.Spec L2
open PyProof.Rows hiding St
end Ev
set_option Elab.async false
set_option linter.all false
set_option maxRecDepth 100000
namespace Ev
open PySem PySem.Spec L2
open PyProof.Rows hiding St
section
variable {K : PySem.W.Frag} {N : Nw} {H0 H : Hp} {ρ : Env} {σ : St} {L : List Addr}
theorem Slots.cut {L0 : List Addr} : ∀ {σ : St} {ρ : Env} {F : List Addr} {j : Nat} {s : Sv}, Slots K N L0 H σ ρ F → ρ[j]? = some (some s) →
    ∃ v G F', σ[j]? = some (some v) ∧ Rp K (SR N L0 s.al false) H s.l v s.d G ∧ Slots K N L0 H σ (ρ.set j none) F' ∧ F.Perm (G ++ F')
  | _, _, _, _, _, .nil, e => by simp at e
  | _, _, _, 0, _, .no _, e => by simp at e
  | _, _, _, j + 1, s, .no h, e => by
    obtain ⟨v, G, F', e1, r, q, p⟩ := Slots.cut (j := j) (s := s) h (by simpa using e)
    exact ⟨v, G, F', by simpa using e1, r, .no q, p⟩
  | _, _, _, 0, _, .so (G := F2) h0 h h2, e => by
    simp at e; subst e
    exact ⟨_, _, F2, rfl, h, .no h2, List.Perm.refl _⟩
  | _, _, _, j + 1, s, .so (F := F1) h0 h h2, e => by
    obtain ⟨v, G, F', e1, r, q, p⟩ := Slots.cut (j := j) (s := s) h2 (by simpa using e)
    refine ⟨v, G, F1 ++ F', by simpa using e1, r, .so h0 h q, ?_⟩
    have h3 := List.Perm.append_left F1 p
    refine h3.trans ?_
    rw [← List.append_assoc, ← List.append_assoc]
    exact List.Perm.append_right F' List.perm_append_comm
def rem (H : Hp) (G : List Addr) : Hp := fun b => if b ∈ G then none else H b
theorem rem_out {G : List Addr} {b : Addr} (h : b ∉ G) : rem H G b = H b := if_neg h
theorem Sim.out (sim : Sim K N H0 ρ σ H L) {j : Nat} {s : Sv} (e : ρ[j]? = some (some s)) :
    ∃ v G L', σ[j]? = some (some v) ∧ Rp K (SR N L s.al false) H s.l v s.d G ∧ Sim K N H0 (ρ.set j none) σ (rem H G) L' ∧ L.Perm (G ++ L') := by
  obtain ⟨v, G, L', e1, r, q, p⟩ := sim.sl.cut e
  have nd := p.nodup_iff.mp sim.nd
  rw [List.nodup_append] at nd
  have inG : ∀ b ∈ G, b ∈ L := fun b h => p.mem_iff.mpr (List.mem_append_left _ h)
  have inL : ∀ b ∈ L', b ∈ L := fun b h => p.mem_iff.mpr (List.mem_append_right _ h)
  have off : ∀ b ∈ L', b ∉ G := fun b h1 h2 => nd.2.2 b h2 b h1 rfl
  refine ⟨v, G, L', e1, r, ⟨⟨fun b o e n nt => ?_, fun P q t => tabS_rem r.own_ne (fun b hb => rem_out hb) (sim.kp.t P q t), sim.kp.b⟩, fun b h => ?_, nd.2.1, fun a h => sim.ln a (inL a h), fun a h => by rw [rem_out (off a h)]; exact sim.mu a (inL a h), ?_⟩, p⟩
  · rw [rem_out fun h => n (sim.ln b (inG b h))]
    exact sim.kp.k b o e n nt
  · by_cases hb : b ∈ G
    · exact sim.ln b (inG b hb)
    · rw [rem_out hb] at h
      exact sim.nw b h
  · refine (q.keep fun al b o hb _ z => ?_).mono fun a h1 h2 => h1 (inL a h2)
    rw [rem_out]
    · exact hb
    · intro hG
      rcases z with z | z | ⟨xs, rfl⟩ | ⟨o', u, rfl⟩
      · exact z.2 rfl (inG b hG)
      · exact off b z hG
      · have := sim.mu b (inG b hG)
        rw [hb] at this
        cases this
      · have := sim.mu b (inG b hG)
        rw [hb] at this
        cases this
end
end Ev
set_option Elab.async false
set_option linter.all false
set_option maxRecDepth 100000
set_option maxHeartbeats 4000000
namespace Ev
open PySem PySem.Spec L2
open PyProof.Rows hiding St
end Ev
set_option Elab.async false
set_option linter.all false
namespace Ev
open PySem PySem.Spec L2 PyProof
open PyProof.Rows hiding St
end Ev
set_option Elab.async false
set_option linter.all false
namespace Ev
open PySem PySem.Spec L2
open PyProof.Rows hiding St
structure OwnIs (K : PySem.W.Frag) (C : Addr) : Prop where
  ha : PySem.W.findIn K (.ref C) "__class__" = some (some (.builtin "object.__class__"))
  hn : PySem.W.specialIn K (.builtin "object.__class__") "__get__" = some (some (.builtin "getset_descriptor.__get__"))
  htk : PySem.W.takesIn K (.builtin "object.__class__") = some true
  hm : PySem.W.mroIn K C (.type "object") = some true
section
variable {X : Cx} {e tg : Expr} {fe : EvE}
def eIsiO (C : Addr) (fe : EvE) : EvE := fun ρ => (fe ρ).bind fun x => match x.d with
  | .ins C' _ => if C' = C then some (rB true) else none
  | _ => none
theorem kit_self (K : PySem.W.Frag) (C : Addr) : PySem.W.kitOne K (.ref C) (.ref C) = some true := by
  unfold PySem.W.kitOne
  rw [if_pos (by simp)]
theorem e_isiO {t : Str} {C : Addr} {p1 p2 pos : Pos} (O : OwnIs X.K C) (cl : Cls X.K C) (hmC : X.mg t = some (.ref C)) (hm : X.mg "isinstance" = none) (he : PEv X e fe) (hg : Gl X "isinstance" := by rfl) (hgT : Gl X t := by rfl) (hdT : (t == ("__debug__" : Str)) = false := by decide)
    (hs1 : starEach [e, .Name t p2] X.env = (false, eval e X.env) :: starEach [.Name t p2] X.env := by rfl) (hs2 : starEach [.Name t p2] X.env = (false, eval (.Name t p2) X.env) :: starEach [] X.env := by rfl)
    (hpl : (backTo pos (starEach [.Name t p2] X.env)).any (·.1) = false := by rfl) : PEv X (.Call (.Name "isinstance" p1) [e, .Name t p2] [] pos) (eIsiO C fe) := by
  have hv : bootBuiltins "isinstance" = some (.builtin "isinstance") := PyProof.Rows.boot_isinstance
  refine imp_e (pe_callB call_isi hg hm hv (pa_cons he (pa_cons (pe_glob (v := .ref C) hgT hmC rfl hdT) pa_nil hs2) hs1) (by decide) (by decide) hs1 hpl) fun σ H Q ⟨N, H0, ρ, L, W, rr, sim, z, q⟩ => ?_
  unfold eIsiO at z
  obtain ⟨x, e1, z⟩ := bind_some z
  split at z
  · rename_i C' fd hd
    split at z
    · rename_i hc
      have z := Option.some.inj z
      subst z
      subst hc
      refine one sim e1 fun v H1 F s1 n1 d1 p1 => ?_
      rw [hd] at p1
      obtain ⟨a, dx, fv, G, rfl, h1, _⟩ := p1.ins_inv
      exact ⟨.ref a, .ref C', .ref C', .ref C', true, rfl, .own C', .base (.ins h1 cl O.ha O.hn O.htk O.hm), kit_self X.K C', q.bl s1⟩
    · cases z
  · cases z
end
end Ev
set_option Elab.async false
set_option linter.all false
set_option maxRecDepth 100000
namespace Ev
open PySem PySem.Spec L2
open PyProof.Rows hiding St
section
variable {X : Cx} {e ix : Expr} {es : List Expr} {fp : EvP} {fk fe : EvE} {pos apos cpos : Pos}
def pTx (fp : EvP) (fk : EvE) : EvP := fun ρ => (fp ρ).bind fun z => (fk ρ).bind fun y => match z.2.2, y.d with
  | .tup ds, .int k => (L2.ixN ds.length k).bind fun j => ds[j]?.map fun e => (z.1, z.2.1 ++ [j], e)
  | _, _ => none
theorem pTx_some {ρ : Env} {i : Nat} {p : List Nat} {d : D} (z : pTx fp fk ρ = some (i, p, d)) : ∃ p0 ds y k j, fp ρ = some (i, p0, .tup ds) ∧ fk ρ = some y ∧ y.d = .int k ∧ L2.ixN ds.length k = some j ∧ ds[j]? = some d ∧ p = p0 ++ [j] := by
  unfold pTx at z
  obtain ⟨⟨i0, p0, d0⟩, e1, z1⟩ := bind_some z
  obtain ⟨y, e2, z2⟩ := bind_some z1
  clear z z1
  dsimp only at z2
  split at z2
  · rename_i ds k hy
    obtain ⟨j, e3, z3⟩ := bind_some z2
    obtain ⟨e, e4, e5⟩ := Option.map_eq_some_iff.mp z3
    cases e5
    exact ⟨p0, ds, y, k, j, e1, e2, hy, e3, e4, rfl⟩
  · cases z2
theorem p_tx (hu : X.A.units + 65 < cLine) (h : PPv X e fp) (hk : PEv X ix fk) (hs : PlainIx ix := by exact fun _ _ => rfl) : PPv X (.Subscript e ix pos) (pTx fp fk) where
  run := imp_e (pe_ix (ix_any (by omega)) h.run hk hs) fun σ H Q ⟨N, H0, ρ, L, W, i, p, d, sim, z, q⟩ => by
    obtain ⟨p0, ds, y, k, j, e1, e2, hy, e3, e4, rfl⟩ := pTx_some z
    obtain ⟨s, es, hl, hd⟩ := h.ok ρ i p0 _ e1
    obtain ⟨v0, u', S, G, ev, w, r⟩ := sim.way es hl hd
    refine ⟨N, H0, ρ, L, W, i, p0, _, sim, e1, fun u H1 s1 at1 => ?_⟩
    refine one (sim.same s1) e2 fun ky H2 T s2 n2 d2 p2 => ?_
    have w1 := at1 v0 ev
    have := w1.fn (w.same s1)
    subst this
    rw [hy] at p2
    obtain ⟨rfl, _⟩ := p2.int_inv
    obtain ⟨a, vs, rfl, h1, h2⟩ := r.tup_inv
    obtain ⟨v, G2, e5, _, _⟩ := h2.get e4
    have sall := s1.trans s2
    refine .inl (.inr (.inl ⟨a, vs, k, v, rfl, rfl, SqT.of (sall.k a _ h1 (by first | trivial | exact node_nt (by assumption))), ?_, q v H2 sall fun v1 e0 => ?_⟩))
    · unfold L2.atI
      rw [h2.len, e3]
      exact e5
    · rw [ev] at e0
      cases e0
      exact (w1.same s2).snoc (sall.k a _ h1 (by first | trivial | exact node_nt (by assumption))) e5
  ok := fun ρ i p d z => by
    obtain ⟨p0, ds, y, k, j, e1, e2, hy, e3, e4, rfl⟩ := pTx_some z
    obtain ⟨s, es, hl, hd⟩ := h.ok ρ i p0 _ e1
    exact ⟨s, es, hl, dAt_snoc hd e4⟩
end
end Ev
set_option Elab.async false
set_option linter.all false
set_option maxRecDepth 100000
namespace Ev
open PySem PySem.Spec L2
open PyProof.Rows hiding St
end Ev
set_option Elab.async false
set_option linter.all false
namespace Ev
open PySem PySem.Spec L2
open PyProof.Rows hiding St
end Ev
set_option Elab.async false
set_option linter.all false
set_option maxRecDepth 100000
namespace L2
open PySem PySem.Spec PyProof.Rows PyProof
end L2
namespace Ev
open PySem PySem.Spec L2
open PyProof.Rows hiding St
end Ev
set_option Elab.async false
set_option linter.all false
set_option maxRecDepth 100000
namespace Ev
open PySem PySem.Spec L2
open PyProof.Rows hiding St
theorem Frm.s {H H1 : Hp} {L : List Addr} (s : Same H H1) : Frm H L H1 L := Frm.same s fun b z => .inl z
section
variable {X : Cx} {a b c e : Expr} {es : List Expr} {fe fa : EvE} {fx fy : EvX} {pos : Pos} {f g : EvS} {body orelse : List Stmt}
abbrev EvTX := Env → Option (Env × Bool)
end
end Ev
set_option Elab.async false
set_option linter.all false
set_option maxRecDepth 100000
namespace L2
open PySem PySem.Spec PyProof.Rows
end L2
namespace Ev
open PySem PySem.Spec L2
open PyProof.Rows hiding St
end Ev
set_option Elab.async false
set_option linter.all false
set_option maxRecDepth 100000
namespace Ev
open PySem PySem.Spec L2
open PyProof.Rows hiding St
end Ev
set_option Elab.async false
set_option linter.all false
set_option maxRecDepth 100000
namespace Ev
open PySem PySem.Spec L2
open PyProof.Rows hiding St
end Ev
set_option Elab.async false
set_option linter.all false
set_option maxRecDepth 100000
namespace Ev
open PySem PySem.Spec L2
open PyProof.Rows hiding St
end Ev
set_option Elab.async false
set_option linter.all false
set_option maxRecDepth 100000
namespace Ev
open PySem PySem.Spec L2
open PyProof.Rows hiding St
end Ev
set_option Elab.async false
set_option linter.all false
set_option maxRecDepth 100000
namespace Ev
open PySem PySem.Spec L2
open PyProof.Rows hiding St
end Ev
set_option Elab.async false
set_option linter.all false
set_option maxRecDepth 100000
namespace Ev
open PySem PySem.Spec L2
open PyProof.Rows hiding St
end Ev
set_option Elab.async false
set_option linter.all false
set_option maxRecDepth 100000
namespace Ev
open PySem PySem.Spec L2
open PyProof.Rows hiding St
def tChn (g g' : D → D → Option Bool) (fa fb fc : EvE) : EvT := fun ρ => (fa ρ).bind fun x => (fb ρ).bind fun y => (g x.d y.d).bind fun k => if imm y.d = true then (if k = true then (fc ρ).bind fun z => g' y.d z.d else some false) else none
section
variable {X : Cx} {a b c : Expr} {fa fb fc : EvE} {pos : Pos}
def eChn (g g' : D → D → Option Bool) (fa fb fc : EvE) : EvE := fun ρ => (tChn g g' fa fb fc ρ).map rB
theorem e_chn {op op' : CmpOp} {g g' : D → D → Option Bool} (ho : CmpOk X op g) (ho' : CmpOk X op' g') (ha : PEv X a fa) (hb : PEv X b fb) (hc : PEv X c fc) (hm : lastMarks [op, op'] [b, c] = false := by with_unfolding_all rfl) : PEv X (.Compare a [op, op'] [b, c] pos) (eChn g g' fa fb fc) := by
  obtain ⟨r, ho, hr⟩ := ho
  obtain ⟨r', ho', hr'⟩ := ho'
  refine imp_e (pe_chain ho ho' ha hb hc hm) fun σ H Q ⟨N, H0, ρ, L, W, rr, sim, e, q⟩ => ?_
  unfold eChn at e
  obtain ⟨k, e', ek⟩ := Option.map_eq_some_iff.mp e
  subst ek
  clear e
  have e := e'
  clear e'
  unfold tChn at e
  obtain ⟨x, e1, e⟩ := bind_some e
  obtain ⟨y, e2, e⟩ := bind_some e
  obtain ⟨j, e3, e⟩ := bind_some e
  split at e
  · rename_i hi
    refine two sim e1 e2 fun v w H2 F G s _ _ _ _ _ p1 p2 => hr _ _ _ _ _ _ _ _ _ _ _ _ _ p1 p2 e3 ⟨j, rfl, ?_⟩
    cases j with
    | true =>
      rw [if_pos rfl] at e
      obtain ⟨z, e4, e⟩ := bind_some e
      refine iteT (one (sim.same s) e4 fun u H4 T s3 _ _ p3 => ?_)
      have p2' : Rp X.K (fun _ => False) H4 .shr w y.d [] := ((p2.same s3).of_imm hi).2
      exact hr' _ _ _ _ _ _ _ _ _ _ _ _ _ p2' p3 e (q.bl (s.trans s3))
    | false =>
      rw [if_neg Bool.false_ne_true] at e
      cases e
      exact iteF (q.bl s)
  · cases e
end
end Ev
set_option Elab.async false
set_option linter.all false
set_option maxRecDepth 100000
namespace Ev
open PySem PySem.Spec L2
open PyProof.Rows hiding St
end Ev
set_option Elab.async false
set_option linter.all false
set_option maxRecDepth 100000
namespace Ev
open PySem PySem.Spec L2
open PyProof.Rows hiding St
end Ev
set_option Elab.async false
set_option linter.all false
set_option maxRecDepth 100000
namespace Ev
open PySem PySem.Spec L2
open PyProof.Rows hiding St
abbrev Cod := Int → Option Value
end Ev
set_option Elab.async false
set_option linter.all false
set_option maxRecDepth 100000
namespace Ev
open PySem PySem.Spec L2
open PyProof.Rows hiding St
abbrev EvC := Env → Option Int
end Ev
set_option Elab.async false
set_option linter.all false
set_option maxRecDepth 100000
namespace Ev
open PySem PySem.Spec L2
open PyProof.Rows hiding St
def tB (b : Bool) : EvT := fun _ => some b
def selH : List (List Int × EvS) → Int → EvS
  | [], _ => sBad
  | (_, h) :: [], _ => h
  | (ks, h) :: q :: r, c => sIf (tB (ks.contains c)) h (selH (q :: r) c)
theorem sIf_tB {b : Bool} {f g : EvS} {ρ : Env} : sIf (tB b) f g ρ = if b = true then f ρ else g ρ := rfl
section
variable {X : Cx} {cd : Cod} {g : EvC} {nB : EvS} {body suite : List Stmt} {b₀ : Stmt} {x n : Str} {np pos pos' : Pos} {i : Nat} {cls0 : Value} {ks : List Int} {hs : Int → EvS}
inductive HdsE (X : Cx) (cd : Cod) : List ExceptHandler → List (List Int × EvS) → Prop
  | nil : HdsE X cd [] []
  | cons {x : Str} {c : Value} {ks : List Int} {h : EvS} {b₀ : Stmt} {suite : List Stmt} {np pos' : Pos} {hds : List ExceptHandler} {l : List (List Int × EvS)} (hc : Names X x c) (hk : ∀ n C, cd n = some C → PySem.W.exmOne X.K C c = some (ks.contains n))
      (hsu : ∀ (a : Addr) (oe : Obj) (C : Value) (d : Option Addr) (pn : List (Addr × Obj)), Zc C d oe → (∃ vs, oe.data = .fields vs) → PSsv (X.suite a ((a, oe) :: pn)) (b₀ :: suite) h) (r : HdsE X cd hds l) :
      HdsE X cd (.ExceptHandler (some (.Name x np)) none (b₀ :: suite) pos' :: hds) ((ks, h) :: l)
theorem HdsE.ok {Wout : WX} : ∀ {hds : List ExceptHandler} {l : List (List Int × EvS)}, HdsE X cd hds l → ∃ l', HdsOk X hds l' ∧ ∀ n C D σ H, cd n = some C → (l.flatMap (·.1)).contains n = true → tS X.K (selH l n) D σ H → wMany X.K Wout D l' C none σ H
  | _, _, .nil => ⟨[], .nil, fun n C D σ H _ h _ => nomatch h⟩
  | _, _, @HdsE.cons _ _ _ c ks h _ _ _ _ _ [] hc hk hsu r => by
    obtain ⟨l', h1, h2⟩ := HdsE.ok (Wout := Wout) r
    refine ⟨(c, fun _ _ _ => tS X.K h) :: l', .cons hc (fun a oe C d pn hz hf => hsu a oe C d pn hz hf) h1, fun n C D σ H hcd hm z => ?_⟩
    have hm : ks.contains n = true := by simpa using hm
    exact ⟨ks.contains n, hk n C hcd, fun e a na => z, fun e => by rw [hm] at e; cases e⟩
  | _, _, @HdsE.cons _ _ _ c ks h _ _ _ _ _ (p :: l) hc hk hsu r => by
    obtain ⟨l', h1, h2⟩ := HdsE.ok (Wout := Wout) r
    refine ⟨(c, fun _ _ _ => tS X.K h) :: l', .cons hc (fun a oe C d pn hz hf => hsu a oe C d pn hz hf) h1, fun n C D σ H hcd hm ⟨N, H0, ρ, L, o, sim, z, q⟩ => ?_⟩
    have z : sIf (tB (ks.contains n)) h (selH (p :: l) n) ρ = some o := z
    rw [sIf_tB] at z
    refine ⟨ks.contains n, hk n C hcd, fun e a na => ?_, fun e => ?_⟩
    · rw [e, if_pos rfl] at z
      exact ⟨N, H0, ρ, L, o, sim, z, q⟩
    · rw [e, if_neg Bool.false_ne_true] at z
      refine h2 n C D σ H hcd ?_ ⟨N, H0, ρ, L, o, sim, z, q⟩
      rw [List.flatMap_cons, List.contains_append, e, Bool.false_or] at hm
      exact hm
end
end Ev
set_option Elab.async false
set_option linter.all false
set_option maxRecDepth 100000
namespace Ev
open PySem PySem.Spec L2
open PyProof.Rows hiding St
end Ev
set_option Elab.async false
set_option linter.all false
set_option maxRecDepth 100000
namespace Ev
open PySem PySem.Spec L2
open PyProof.Rows hiding St
end Ev
set_option Elab.async false
set_option linter.all false
set_option maxRecDepth 100000
set_option maxHeartbeats 3200000
namespace Ev
open PySem PySem.Spec L2
open PyProof.Rows hiding St
abbrev set0 (w : World) : Obj := { cls := .type "set", dict := none, data := .set #[] 0 (.fresh 0 0 (!w.params.followText "set-order")) }
end Ev
set_option Elab.async false
set_option linter.all false
set_option maxRecDepth 100000
namespace Ev
open PySem PySem.Spec L2
open PyProof.Rows hiding St
def dd {α : Type} [DecidableEq α] : List α → List α
  | [] => []
  | x :: xs => if x ∈ xs then dd xs else x :: dd xs
end Ev
set_option Elab.async false
set_option linter.all false
set_option maxRecDepth 100000
namespace Ev
open PySem PySem.Spec L2
open PyProof.Rows hiding St
end Ev
set_option Elab.async false
set_option linter.all false
set_option maxRecDepth 100000
namespace Ev
open PySem PySem.Spec L2
open PyProof.Rows hiding St
end Ev
set_option Elab.async false
set_option linter.all false
set_option maxRecDepth 100000
namespace Ev
open PySem PySem.Spec L2
open PyProof.Rows hiding St
end Ev
set_option Elab.async false
set_option linter.all false
set_option maxRecDepth 100000
namespace Ev
open PySem PySem.Spec L2
open PyProof.Rows hiding St
end Ev
set_option Elab.async false
set_option linter.all false
set_option maxRecDepth 100000
namespace Ev
open PySem PySem.Spec L2
open PyProof.Rows hiding St
end Ev
set_option Elab.async false
set_option linter.all false
set_option maxRecDepth 100000
namespace Ev
open PySem PySem.Spec L2
open PyProof.Rows hiding St
end Ev
set_option Elab.async false
set_option linter.all false
set_option maxRecDepth 100000
namespace Ev
open PySem PySem.Spec L2
open PyProof.Rows hiding St
end Ev
set_option Elab.async false
set_option linter.all false
set_option maxRecDepth 100000
namespace Ev
open PySem PySem.Spec L2
open PyProof.Rows hiding St
abbrev EvK := Env → Option (Env × D × Bool)
abbrev EvKs := Env → Option (Env × List D × Bool)
structure Took (K : PySem.W.Frag) (N : Nw) (H0 : Hp) (ρ' : Env) (σ : St) (H : Hp) (L W : List Addr) (H' : Hp) (F L' W' : List Addr) : Prop where
  sim : SimH K N H0 ρ' σ H' L' W'
  same : Same H H'
  sub : ∀ a ∈ L', a ∈ L
  up : ∀ a ∈ W, a ∈ W'
  new : ∀ a ∈ W', a ∈ W ∨ H a = none
  own : ∀ a ∈ F, a ∈ W' ∧ a ∉ L' ∧ (a ∈ L ∨ H a = none)
  nd : F.Nodup
def tK (K : PySem.W.Frag) (f : EvK) : TE := fun σ H Q => ∃ N H0 ρ L W ρ' d al, SimH K N H0 ρ σ H L W ∧ f ρ = some (ρ', d, al) ∧ ∀ v H' F L' W', Took K N H0 ρ' σ H L W H' F L' W' → Rp K (SR N W' al false) H' .full v d F → Q v H'
def tKs (K : PySem.W.Frag) (f : EvKs) : TA := fun σ H Q => ∃ N H0 ρ L W ρ' ds al, SimH K N H0 ρ σ H L W ∧ f ρ = some (ρ', ds, al) ∧ ∀ vs H' F L' W', Took K N H0 ρ' σ H L W H' F L' W' → Rps K (SR N W' al false) H' .full vs ds F → Q vs H'
abbrev PKv (X : Cx) (e : Expr) (f : EvK) : Prop := PE X e (tK X.K f)
abbrev PKs (X : Cx) (es : List Expr) (f : EvKs) : Prop := PA X es (tKs X.K f)
section
variable {X : Cx} {e : Expr} {es : List Expr} {fe : EvE} {fk : EvK} {gk : EvKs} {pos : Pos}
def tkVal (fe : EvE) : EvK := fun ρ => (fe ρ).bind fun r => match r.l, r.vw with
  | .full, false => some (ρ, r.d, r.al)
  | _, _ => none
theorem k_val (he : PEv X e fe) : PKv X e (tkVal fe) := imp_e he fun σ H Q ⟨N, H0, ρ, L, W, ρ', d, al, sim, z, q⟩ => by
  unfold tkVal at z
  obtain ⟨r, e1, z⟩ := bind_some z
  obtain ⟨rd, rl, ra, rv⟩ := r
  dsimp only at z
  split at z
  · cases z
    refine ⟨N, H0, ρ, L, W, _, sim, e1, fun v H' F s n nd rp => ?_⟩
    have rp : Rp X.K (fun a => SR N W al false a ∧ a ∉ F) H' .full v d F := rp
    refine q v H' F L (W ++ F) ⟨sim.hold s n nd rp.own_mut, s, fun _ z => z, fun a z => List.mem_append_left _ z, fun a z => (List.mem_append.mp z).imp id (n a), fun a z => ⟨List.mem_append_right _ z, fun m => sim.th a (sim.sub a m) (n a z), .inr (n a z)⟩, nd⟩ (rp.mono fun a z => ⟨z.1.1, fun _ m => (List.mem_append.mp m).elim (z.1.2 rfl) z.2⟩)
  · cases z
theorem Slots.wipe1 {K : PySem.W.Frag} {N : Nw} {L : List Addr} {H : Hp} {s : Sv} : ∀ {σ : St} {ρ : Env} {F : List Addr} (i : Nat), Slots K N L H σ ρ F → F.Nodup → ρ[i]? = some (some s) → ∃ v F' G, σ[i]? = some (some v) ∧ Slots K N L H σ (ρ.set i none) F' ∧ Rp K (SR N L s.al false) H s.l v s.d G ∧ F'.Nodup ∧ G.Nodup ∧ (∀ a ∈ F', a ∈ F ∧ a ∉ G) ∧ ∀ a ∈ G, a ∈ F
  | _, _, _, i, .nil, _, e => by simp at e
  | _, _, _, 0, .no h, _, e => by simp at e
  | _, _, _, i + 1, .no h, nd, e => by
    obtain ⟨v, F', G, e1, sl, r, n1, n2, a, b⟩ := Slots.wipe1 i h nd (by simpa using e)
    exact ⟨v, F', G, by simpa using e1, .no sl, r, n1, n2, a, b⟩
  | _, _, _, 0, .so (F := F) (G := G) h0 h1 h, nd, e => by
    simp at e
    subst e
    rw [List.nodup_append] at nd
    exact ⟨_, G, F, rfl, .no h, h1, nd.2.1, nd.1, fun a z => ⟨List.mem_append_right _ z, fun m => nd.2.2 a m a z rfl⟩, fun a z => List.mem_append_left _ z⟩
  | _, _, _, i + 1, .so (F := F) (G := G) h0 h1 h, nd, e => by
    rw [List.nodup_append] at nd
    obtain ⟨v, F', G', e1, sl, r, n1, n2, a, b⟩ := Slots.wipe1 i h nd.2.1 (by simpa using e)
    refine ⟨v, F ++ F', G', by simpa using e1, .so h0 h1 sl, r, ?_, n2, fun x z => ?_, fun x z => List.mem_append_right _ (b x z)⟩
    · rw [List.nodup_append]
      exact ⟨nd.1, n1, fun x hx y hy z => nd.2.2 x hx y (a y hy).1 z⟩
    · rcases List.mem_append.mp z with z | z
      · exact ⟨List.mem_append_left _ z, fun m => nd.2.2 x z x (b x m) rfl⟩
      · exact ⟨List.mem_append_right _ (a x z).1, (a x z).2⟩
def ksNil : EvKs := fun ρ => some (ρ, [], false)
theorem ks_nil : PKs X [] ksNil := imp_a pa_nil fun σ H Q ⟨N, H0, ρ, L, W, ρ', ds, al, sim, z, q⟩ => by
  cases z
  exact q [] H [] L W ⟨sim, Same.refl H, fun _ z => z, fun _ z => z, fun _ z => .inl z, fun _ z => (nomatch z), .nil⟩ .nil
def ksCons (fk : EvK) (gk : EvKs) : EvKs := fun ρ => (fk ρ).bind fun p => (gk p.1).map fun q => (q.1, p.2.1 :: q.2.1, p.2.2 || q.2.2)
theorem ks_cons (ha : PKv X e fk) (hr : PKs X es gk) (hs : starEach (e :: es) X.env = (false, eval e X.env) :: starEach es X.env := by rfl) : PKs X (e :: es) (ksCons fk gk) := by
  refine imp_a (pa_cons ha hr hs) fun σ H Q ⟨N, H0, ρ, L, W, ρ', ds, al, sim, z, q⟩ => ?_
  unfold ksCons at z
  obtain ⟨⟨ρ1, d1, a1⟩, e1, z⟩ := bind_some z
  obtain ⟨⟨ρ2, ds2, a2⟩, e2, z⟩ := Option.map_eq_some_iff.mp z
  dsimp only at e2
  cases z
  refine ⟨N, H0, ρ, L, W, ρ1, d1, a1, sim, e1, fun v H1 F1 L1 W1 t1 r1 => ?_⟩
  refine ⟨N, H0, ρ1, L1, W1, ρ2, ds2, a2, t1.sim, e2, fun vs H2 F2 L2 W2 t2 r2 => ?_⟩
  have dis : ∀ a ∈ F1, a ∉ F2 := fun a m1 m2 => by
    obtain ⟨o1, o2, _⟩ := t1.own a m1
    rcases (t2.own a m2).2.2 with h | h
    · exact o2 h
    · exact t1.sim.th a o1 h
  refine q (v :: vs) H2 (F1 ++ F2) L2 W2 ⟨t2.sim, t1.same.trans t2.same, fun a z => t1.sub a (t2.sub a z), fun a z => t2.up a (t1.up a z), fun a z => ?_, fun a z => ?_, ?_⟩ ?_
  · rcases t2.new a z with h | h
    · exact t1.new a h
    · exact .inr (t1.same.free h)
  · rcases List.mem_append.mp z with z | z
    · obtain ⟨o1, o2, o3⟩ := t1.own a z
      exact ⟨t2.up a o1, fun m => o2 (t2.sub a m), o3⟩
    · obtain ⟨o1, o2, o3⟩ := t2.own a z
      exact ⟨o1, o2, o3.elim (fun h => .inl (t1.sub a h)) fun h => .inr (t1.same.free h)⟩
  · rw [List.nodup_append]
    exact ⟨t1.nd, t2.nd, fun a ha b hb e => dis a ha (e ▸ hb)⟩
  · refine .cons ((r1.trk.same t2.same).mono fun a z => ⟨z.1.1.up (fun h => by rw [h]; rfl), fun _ m => ?_⟩) (r2.mono fun a z => ⟨z.1.up (fun h => by rw [h]; exact Bool.or_true _), z.2⟩)
    rcases t2.new a m with h | h
    · exact z.1.2 rfl h
    · exact z.2 h
def tkTup (gk : EvKs) : EvK := fun ρ => (gk ρ).bind fun p => if decide (p.2.1.length ≤ 1000) = true then some (p.1, .tup p.2.1, p.2.2) else none
theorem k_tup {x1} (h : PKs X es gk) : PKv X (.Tuple es x1 pos) (tkTup gk) := by
  refine imp_e (pe_tup h) fun σ H Q ⟨N, H0, ρ, L, W, ρ', d, al, sim, z, q⟩ => ?_
  unfold tkTup at z
  obtain ⟨⟨ρ1, ds, a1⟩, e1, z⟩ := bind_some z
  dsimp only at z
  split at z
  · rename_i hc
    cases z
    refine ⟨N, H0, ρ, L, W, _, ds, _, sim, e1, fun vs H1 F L1 W1 t1 r1 => ⟨le1000 (by rw [r1.len]; exact of_decide_eq_true hc), fun p np => ?_⟩⟩
    exact q _ _ F L1 W1 ⟨t1.sim.same (same_upd np), t1.same.trans (same_upd np), t1.sub, t1.up, t1.new, t1.own, t1.nd⟩ (.tup upd_same (r1.same (same_upd np)))
  · cases z
def sRetK (fk : EvK) : EvS := fun ρ => (fk ρ).map fun p => .rt p.1 p.2.1 .full p.2.2
theorem s_retK (he : PKv X e fk) : PSv X (.Return (some e) pos) (sRetK fk) := by
  refine imp_s (ps_ret he) fun D σ H ⟨N, H0, ρ, L, o, sim, z, q⟩ => ?_
  unfold sRetK at z
  obtain ⟨⟨ρ1, d, al⟩, e1, z⟩ := Option.map_eq_some_iff.mp z
  subst z
  refine ⟨N, H0, ρ, L, L, ρ1, d, al, sim.h, e1, fun v H' F L' W' t r => ?_⟩
  have inW : ∀ a, a ∈ L' ++ F → a ∈ W' := fun a z => (List.mem_append.mp z).elim (t.sim.sub a) fun m => (t.own a m).1
  refine q v σ H' L' F ⟨t.sim.kp, t.sim.nw, ?_, fun a z => t.sim.ln a (inW a z), fun a z => t.sim.mu a (inW a z), t.sim.sl.mono fun a z m => z (inW a m), fun a z => List.mem_append_left _ z, t.sim.ndl⟩ (fun b o e _ nt => t.same.k b o e nt) (r.mono fun a z => ⟨z.1, fun m => z.2 rfl (t.own a m).1, fun m => z.2 rfl (t.sim.sub a m)⟩)
  rw [List.nodup_append]
  exact ⟨t.sim.ndl, t.nd, fun a ha b hb e => (t.own b hb).2.1 (e ▸ ha)⟩
end
end Ev
set_option Elab.async false
set_option linter.all false
set_option maxRecDepth 100000
namespace Ev
open PySem PySem.Spec L2
open PyProof.Rows hiding St
theorem AtV.cut {H : Hp} : ∀ {v : V} {p q : List Nat} {u : V}, AtV H v (p ++ q) u → ∃ m, AtV H v p m ∧ AtV H m q u
  | v, [], q, u, h => ⟨v, .nil, h⟩
  | _, j :: p, q, u, .cons h1 h2 h3 => by
    obtain ⟨m, a, b⟩ := AtV.cut h3
    exact ⟨m, .cons h1 h2 a, b⟩
end Ev
set_option Elab.async false
set_option linter.all false
set_option maxRecDepth 100000
namespace Ev
open PySem PySem.Spec L2
open PyProof.Rows hiding St
end Ev
set_option Elab.async false
set_option linter.all false
set_option maxRecDepth 100000
namespace Ev
open PySem PySem.Spec L2
open PyProof.Rows hiding St
end Ev
set_option Elab.async false
set_option linter.all false
set_option maxRecDepth 100000
namespace Ev
open PySem PySem.Spec L2
open PyProof.Rows hiding St
def immL : D → Bool
  | .lst ds => immAll ds
  | _ => false
def ksLate (fp : EvP) (gk : EvKs) : EvKs := fun ρ => (fp ρ).bind fun z => (gk ρ).bind fun q => match q.1[z.1]? with
  | some (some s2) => match dAt s2.d z.2.1 with
    | some d => if s2.l = .full then some (q.1.set z.1 none, d :: q.2.1, if immL d = true then q.2.2 else s2.al || q.2.2) else none
    | none => none
  | _ => none
section
variable {X : Cx} {e : Expr} {es : List Expr} {fp : EvP} {gk : EvKs}
theorem ks_late (h : PPv X e fp) (hr : PKs X es gk) (hs : starEach (e :: es) X.env = (false, eval e X.env) :: starEach es X.env := by rfl) : PKs X (e :: es) (ksLate fp gk) := by
  refine imp_a (pa_cons h.run hr hs) fun σ H Q ⟨N, H0, ρ, L, W, ρ', ds, al, sim, z, q⟩ => ?_
  unfold ksLate at z
  obtain ⟨⟨j, p, d0⟩, e1, z⟩ := bind_some z
  obtain ⟨⟨ρ2, ds2, a2⟩, e2, z⟩ := bind_some z
  dsimp only at z
  split at z
  · rename_i s2 es2
    split at z
    · rename_i d ed
      split at z
      · rename_i hl
        cases z
        refine ⟨N, H0, ρ, L, W, j, p, d0, sim, e1, fun u H1 s1 at1 => ?_⟩
        refine ⟨N, H0, ρ, L, W, ρ2, ds2, a2, sim.same s1, e2, fun vs H2 F2 L2 W2 t2 r2 => ?_⟩
        obtain ⟨v0, F', G, ev, sl, rp, n1, n2, a, b⟩ := t2.sim.sl.wipe1 j t2.sim.ndl es2
        rw [hl] at rp
        obtain ⟨u', A, G2, B, eG, ru, w2, _⟩ := rp.way ed n2
        have := w2.fn ((at1 _ ev).same t2.same)
        subst this
        have g2G : ∀ x ∈ G2, x ∈ G := fun x m => by rw [eG]; simp [m]
        have nG2 : G2.Nodup := by
          have := n2
          rw [eG, List.nodup_append, List.nodup_append] at this
          exact this.2.1.1
        have dis : ∀ x ∈ G2, x ∉ F2 := fun x m m2 => (t2.own x m2).2.1 (b x (g2G x m))
        refine q (u' :: vs) H2 (G2 ++ F2) F' W2 ⟨⟨t2.sim.kp, t2.sim.nw, t2.sim.nd, t2.sim.ln, t2.sim.mu, sl, fun x z => t2.sim.sub x (a x z).1, n1⟩, s1.trans t2.same, fun x z => t2.sub x (a x z).1, t2.up, fun x z => (t2.new x z).imp id s1.free, fun x z => ?_, ?_⟩ ?_
        · rcases List.mem_append.mp z with z | z
          · exact ⟨t2.sim.sub x (b x (g2G x z)), fun m => (a x m).2 (g2G x z), .inl (t2.sub x (b x (g2G x z)))⟩
          · obtain ⟨o1, o2, o3⟩ := t2.own x z
            exact ⟨o1, fun m => o2 (a x m).1, o3.imp id s1.free⟩
        · rw [List.nodup_append]
          exact ⟨nG2, t2.nd, fun x hx y hy e => dis x hx (e ▸ hy)⟩
        · by_cases hI : immL d = true
          · rw [if_pos hI]
            unfold immL at hI
            split at hI
            · obtain ⟨a0, o0, vs0, ds0, F0, rfl, rfl, ha0, hn0, hr0⟩ := ru.node rfl
              cases hn0
              obtain ⟨rfl, hr1⟩ := hr0.of_imm (S' := SR N W2 a2 false) (l' := .full) hI
              exact .cons (F := [a0]) (Rp.nd1 (l := .full) (fun z => nomatch z) .lst ha0 hr1) r2
            · cases hI
          · rw [if_neg hI]
            exact .cons (ru.mono fun x z => ⟨z.1.up (fun h => by rw [h]; rfl), z.2⟩) (r2.mono fun x z => ⟨z.1.up (fun h => by rw [h]; exact Bool.or_true _), z.2⟩)
      · cases z
    · cases z
  · cases z
end
end Ev
set_option Elab.async false
set_option linter.all false
set_option maxRecDepth 100000
namespace Ev
open PySem PySem.Spec L2
open PyProof.Rows hiding St
def eIxO (fa fb : EvE) : EvE := fun ρ => (fa ρ).bind fun x => (fb ρ).bind fun y => match x.d, y.d with
  | .tup ds, .int i => (L2.ixN ds.length i).bind fun j => if x.l = .full ∧ x.vw = false then ds[j]?.map fun d => ⟨d, .full, x.al, false⟩ else none
  | _, _ => none
section
variable {X : Cx} {a b e : Expr} {fa fb fe : EvE} {pos : Pos}
theorem e_ixO (hu : X.A.units + 65 < cLine) (ha : PEv X a fa) (hb : PEv X b fb) (hs : PlainIx b := by exact fun _ _ => rfl) : PEv X (.Subscript a b pos) (eIxO fa fb) := by
  refine imp_e (pe_ix (ix_any (by omega)) ha hb hs) fun σ H Q ⟨N, H0, ρ, L, W, r, sim, z, q⟩ => ?_
  unfold eIxO at z
  obtain ⟨x, e1, z⟩ := bind_some z
  obtain ⟨y, e2, z⟩ := bind_some z
  split at z
  · rename_i ds i hx hy
    obtain ⟨j, e3, z⟩ := bind_some z
    split at z
    · rename_i hc
      obtain ⟨d, e4, z⟩ := Option.map_eq_some_iff.mp z
      subst z
      refine two sim e1 e2 fun v w H2 F G s n1 n2 d1 d2 dj p1 p2 => ?_
      rw [hx, hc.1] at p1
      rw [hy] at p2
      obtain ⟨rfl, _⟩ := p2.int_inv
      obtain ⟨c, vs, rfl, h1, h2⟩ := p1.tup_inv
      obtain ⟨u, A, G2, B, eF, eu, ru, _⟩ := h2.hole e4
      have g2 : ∀ b ∈ G2, b ∈ F := fun b m => by rw [eF]; simp [m]
      have nG2 : G2.Nodup := by
        have := d1
        rw [eF, List.nodup_append, List.nodup_append] at this
        exact this.2.1.1
      refine .inl (.inr (.inl ⟨c, vs, _, u, rfl, rfl, SqT.of h1, ?_, q u H2 G2 s (fun b m => n1 b (g2 b m)) nG2 (ru.mono fun b z => ⟨⟨z.1.1, fun _ => z.1.2 hc.2⟩, fun m => z.2.1 (g2 b m)⟩)⟩))
      unfold L2.atI
      rw [h2.len, e3]
      exact eu
    · cases z
  · cases z
end
end Ev
set_option Elab.async false
set_option linter.all false
set_option maxRecDepth 100000
namespace Ev
open PySem PySem.Spec L2
open PyProof.Rows hiding St
end Ev
set_option Elab.async false
set_option linter.all false
set_option maxRecDepth 100000
namespace Ev
open PySem PySem.Spec L2
open PyProof.Rows hiding St
end Ev
set_option Elab.async false
set_option linter.all false
set_option maxRecDepth 100000
namespace Ev
open PySem PySem.Spec L2
open PyProof.Rows hiding St
end Ev
set_option Elab.async false
set_option linter.all false
set_option maxRecDepth 100000
namespace Ev
open PySem PySem.Spec L2
open PyProof.Rows hiding St
section
variable {X : Cx} {a b e : Expr} {es rest : List Expr} {fx fy : EvX} {pos p : Pos} {f g : EvTX} {ga : EvA}
theorem x_one (op : BoolOp) (ha : PXv X a fx) : PXv X (.BoolOp op [a] pos) fx := by
  cases op <;> exact pe_one ha
end
end Ev
set_option Elab.async false
set_option linter.all false
set_option maxRecDepth 100000
namespace Ev
open PySem PySem.Spec L2
open PyProof.Rows hiding St
end Ev
set_option Elab.async false
set_option linter.all false
set_option maxRecDepth 100000
namespace Ev
open PySem PySem.Spec L2
open PyProof.Rows hiding St
end Ev
set_option Elab.async false
set_option linter.all false
set_option maxRecDepth 100000
namespace Ev
open PySem PySem.Spec L2
open PyProof.Rows hiding St
end Ev
namespace Ev
open PySem PySem.Spec L2
open PyProof.Rows hiding St
theorem Want.eq {K : PySem.W.Frag} {P : Addr} {q : Str} (h : Want K P qN) (e : q = qN) : Want K P q := by rw [e]; exact h
end Ev
set_option Elab.async false
set_option linter.all false
set_option maxRecDepth 100000
namespace Ev
open PySem PySem.Spec L2
open PyProof.Rows hiding St
end Ev
set_option Elab.async false
set_option linter.all false
set_option maxRecDepth 100000
namespace Ev
open PySem PySem.Spec L2
open PyProof.Rows hiding St
end Ev
set_option Elab.async false
set_option linter.all false
set_option maxRecDepth 100000
namespace Ev
open PySem PySem.Spec L2
open PyProof.Rows hiding St
end Ev
set_option Elab.async false
set_option linter.all false
set_option maxRecDepth 100000
namespace Ev
open PySem PySem.Spec L2
open PyProof.Rows hiding St
end Ev
namespace Ev
open PySem PySem.Spec L2
open PyProof.Rows hiding St
end Ev
set_option Elab.async false
set_option linter.all false
set_option maxRecDepth 100000
namespace L2
open PySem PySem.Spec PyProof.Rows PyProof
end L2
namespace Ev
open PySem PySem.Spec L2
open PyProof.Rows hiding St
end Ev
set_option Elab.async false
set_option linter.all false
set_option maxRecDepth 100000
namespace Ev
open PySem PySem.Spec L2
open PyProof.Rows hiding St
end Ev
set_option Elab.async false
set_option linter.all false
set_option maxRecDepth 100000
namespace Ev
open PySem PySem.Spec L2
open PyProof.Rows hiding St
end Ev
set_option Elab.async false
set_option linter.all false
set_option maxRecDepth 100000
namespace Ev
open PySem PySem.Spec L2
open PyProof.Rows hiding St
end Ev
set_option Elab.async false
set_option linter.all false
set_option maxRecDepth 100000
namespace Ev
open PySem PySem.Spec L2
open PyProof.Rows hiding St
abbrev FunI (K : PySem.W.Frag) (x qual : Str) (st : Stmt) (z : Int) (f : Addr) (fd : FuncData) : Prop := FunD K x qual (defArgs st) (defBody st) (defScope st) [V.int z] [] f fd
section
variable {P : Program} {w : World} {K : PySem.W.Frag} {mg : Str → Option Value} {base : Heap} {x qual : Str} {st : Stmt} {z : Int} {f : Addr} {fd : FuncData} {ps : List Str}
theorem FunI.full (F : FunI K x qual st z f fd)
    (h : ∀ (T : Addr) (kV doc pm : Value) (an : Option Addr) (cdv ct : Value) (us its : List Value), us.length = ps.length → its.length = 1 → ∃ k, bindArgs (PySem.W.fnOf x qual (defArgs st) (defBody st) (defScope st) (.ref T) kV doc pm an cdv ct) ⟨us, []⟩ = seqItems? (.ref T) >>= k ∧ k (some its.toArray) = pure (ps.zip (us ++ its.drop 1))) : Binds K fd ps [] := by
  obtain ⟨ds, h1, h2⟩ := FunD.binds1 F ps.length 1 (by simp) (by simp) h
  cases h1
  exact h2
end
end Ev
set_option Elab.async false
set_option linter.all false
set_option maxRecDepth 100000
namespace Ev
open PySem PySem.Spec L2
open PyProof.Rows hiding St
end Ev
set_option Elab.async false
set_option linter.all false
set_option maxRecDepth 100000
namespace Ev
open PySem PySem.Spec L2
open PyProof.Rows hiding St
end Ev
set_option Elab.async false
set_option linter.all false
set_option maxRecDepth 100000
namespace Ev
open PySem PySem.Spec L2
open PyProof.Rows hiding St
end Ev
set_option Elab.async false
set_option linter.all false
set_option maxRecDepth 100000
namespace Ev
open PySem PySem.Spec L2
open PyProof.Rows hiding St
end Ev
set_option Elab.async false
set_option linter.all false
set_option maxRecDepth 100000
namespace Ev
open PySem PySem.Spec L2
open PyProof.Rows hiding St
end Ev
set_option Elab.async false
set_option linter.all false
set_option maxRecDepth 100000
namespace Ev
open PySem PySem.Spec L2
open PyProof.Rows hiding St
end Ev
set_option Elab.async false
set_option linter.all false
set_option maxRecDepth 100000
namespace Ev
open PySem PySem.Spec L2
open PyProof.Rows hiding St
end Ev
set_option Elab.async false
set_option linter.all false
set_option maxRecDepth 100000
namespace Ev
open PySem PySem.Spec L2
open PyProof.Rows hiding St
def ePlusS (fa fb : EvE) : EvE := fun ρ => (fa ρ).bind fun x => (fb ρ).bind fun y => match x.d, y.d with
  | .str a, .str b => if a.length + b.length ≤ 1000000 then some (rA (.str (a ++ b))) else none
  | _, _ => none
def eIxS (fa fb : EvE) : EvE := fun ρ => (fa ρ).bind fun x => (fb ρ).bind fun y => match x.d, y.d with
  | .str a, .int i => if a.length ≤ 1000000 then (atI a.cps.toList i).map fun c => rA (.str ⟨#[c]⟩) else none
  | _, _ => none
def eSlS (fe : EvE) (fl fh : Env → Option (Option Int)) : EvE := fun ρ => (fe ρ).bind fun x => (fl ρ).bind fun l => (fh ρ).bind fun h => match x.d with
  | .str a => if a.length ≤ 1000000 then some (rA (.str (cutS a l h))) else none
  | _ => none
def gInS : D → D → Option Bool
  | .str a, .str z => match a.cps.toList with
    | [c] => some (decide (c ∈ z.cps.toList))
    | _ => none
  | _, _ => none
def bStrI : List D → Option Ret
  | [.int i] => if i.natAbs.log2 < 1920 then some (.str (toString i), .full) else none
  | _ => none
def bIntS : List D → Option Ret
  | [.str a] => if a.length ≤ 640 then (PySem.intText? a).map fun n => (.int n, .full) else none
  | _ => none
def mSplit : D → List D → Option Ret
  | .str a, [.str b] => if b.length ≠ 0 ∧ a.length ≤ 1000000 then some (.lst ((Txt.split a b).map D.str), .top) else none
  | _, _ => none
def mPart : D → List D → Option Ret
  | .str a, [.str b] => if b.length ≠ 0 ∧ a.length ≤ 1000000 then some (.tup [.str (Txt.partition a b).1, .str (Txt.partition a b).2.1, .str (Txt.partition a b).2.2], .full) else none
  | _, _ => none
def mStarts : D → List D → Option Ret
  | .str a, [.str b] => some (.bl (Txt.startswith a b), .full)
  | _, _ => none
def strsOf : List D → Option (List Str)
  | [] => some []
  | .str x :: ds => (strsOf ds).map (x :: ·)
  | _ => none
def mJoin : D → List D → Option Ret
  | .str a, [.lst ds] => (strsOf ds).bind fun ys => if (ys.map (·.length)).sum + ys.length * a.length ≤ 1000000 then some (.str (Txt.join a ys), .full) else none
  | _, _ => none
theorem strs_rp {K : PySem.W.Frag} {S : Addr → Prop} {H : Hp} {l : Lv} : ∀ {vs : List V} {ds : List D} {F : List Addr} {ys : List Str}, Rps K S H l vs ds F → strsOf ds = some ys → vs = ys.map V.str
  | _, _, _, _, .nil, h => by
    unfold strsOf at h
    cases h
    rfl
  | _, _, _, _, .cons h1 h2, h => by
    unfold strsOf at h
    split at h
    · rename_i e; cases e
    · rename_i x ds' e
      cases e
      obtain ⟨ys', e1, e2⟩ := Option.map_eq_some_iff.mp h
      subst e2
      obtain ⟨rfl, _⟩ := h1.str_inv
      rw [strs_rp h2 e1]
      rfl
    · cases h
theorem rps_strs {K : PySem.W.Frag} {S : Addr → Prop} {H : Hp} {l : Lv} : ∀ ys : List Str, Rps K S H l (ys.map V.str) (ys.map D.str) []
  | [] => .nil
  | y :: ys => Rps.cons (F := []) (G := []) .str (rps_strs ys)
theorem mil2 {n : Nat} (h : n ≤ 1000000) : n + 2 ≤ sizeLine := Nat.le_trans (Nat.add_le_add_right h 2) (by rw [sizeLine_eq]; decide)
section
variable {X : Cx} {e e2 o : Expr} {es : List Expr} {ga : EvA} {fe fa fb : EvE} {p pos : Pos}
theorem e_plusS (ha : PEv X e fa) (hb : PEv X e2 fb) : PEv X (.BinOp e .Add e2 pos) (ePlusS fa fb) := by
  refine imp_e (pe_op op_add_str ha hb) fun σ H Q ⟨N, H0, ρ, L, W, rr, sim, z, q⟩ => ?_
  unfold ePlusS at z
  obtain ⟨x, e1, z⟩ := bind_some z
  obtain ⟨y, e2, z⟩ := bind_some z
  split at z
  · rename_i a b h1 h2
    split at z
    · rename_i hl
      cases z
      refine two sim e1 e2 fun v w H2 F G s _ _ _ _ _ p1 p2 => ?_
      rw [h1] at p1
      rw [h2] at p2
      obtain ⟨rfl, _⟩ := p1.str_inv
      obtain ⟨rfl, _⟩ := p2.str_inv
      exact ⟨a, b, rfl, rfl, mil hl, q.atom s fun _ => .str⟩
    · cases z
  · cases z
theorem e_ixS (ha : PEv X e fa) (hb : PEv X e2 fb) (hs : PlainIx e2 := by exact fun _ _ => rfl) : PEv X (.Subscript e e2 pos) (eIxS fa fb) := by
  refine imp_e (pe_ix ix_str ha hb hs) fun σ H Q ⟨N, H0, ρ, L, W, rr, sim, z, q⟩ => ?_
  unfold eIxS at z
  obtain ⟨x, e1, z⟩ := bind_some z
  obtain ⟨y, e2, z⟩ := bind_some z
  split at z
  · rename_i a i h1 h2
    split at z
    · rename_i hl
      obtain ⟨c, e3, z⟩ := Option.map_eq_some_iff.mp z
      subst z
      refine two sim e1 e2 fun v w H2 F G s _ _ _ _ _ p1 p2 => ?_
      rw [h1] at p1
      rw [h2] at p2
      obtain ⟨rfl, _⟩ := p1.str_inv
      obtain ⟨rfl, _⟩ := p2.int_inv
      exact ⟨a, i, c, rfl, rfl, mil hl, e3, q.atom s fun _ => .str⟩
    · cases z
  · cases z
theorem c_inS : CmpOk X .In gInS :=
  ⟨_, op_in_sign, fun S S' H l l' v w d e F G b Q p1 p2 h q => by
    unfold gInS at h
    split at h
    · rename_i a z
      split at h
      · rename_i c hc
        cases h
        obtain ⟨rfl, _⟩ := p1.str_inv
        obtain ⟨rfl, _⟩ := p2.str_inv
        have : a = ⟨#[c]⟩ := by
          obtain ⟨ac⟩ := a
          have hc : ac.toList = [c] := hc
          congr 1
          exact Array.toList_inj.mp hc
        subst this
        exact ⟨c, z, rfl, rfl, q⟩
      · cases h
    · cases h⟩
theorem x_inS (hu : X.A.units + 65 < cLine) : CmpOk X .In gInS := c_inS
theorem k_strI : CallOk X (.type "str") bStrI := ⟨_, call_str_int, fun S H vs ds z Q r h q => by
  unfold bStrI at h
  split at h
  · rename_i i
    split at h
    · rename_i hl
      cases h
      obtain ⟨v, rfl, r1⟩ := r.inv1
      obtain ⟨rfl, _⟩ := r1.int_inv
      exact ⟨i, rfl, hl, q.atom fun _ => .str⟩
    · cases h
  · cases h⟩
theorem k_intS : CallOk X (.type "int") bIntS := ⟨_, call_int_str, fun S H vs ds z Q r h q => by
  unfold bIntS at h
  split at h
  · rename_i a
    split at h
    · rename_i hl
      obtain ⟨n, e1, h⟩ := Option.map_eq_some_iff.mp h
      subst h
      obtain ⟨v, rfl, r1⟩ := r.inv1
      obtain ⟨rfl, _⟩ := r1.str_inv
      exact ⟨a, n, rfl, e1, hl, q.atom fun _ => .int⟩
    · cases h
  · cases h⟩
theorem m_split : MtOk X "str" "str.split" mSplit := ⟨_, mt_split, fun S H v d vs ds z Q r1 r2 h q => by
  unfold mSplit at h
  split at h
  · rename_i a b
    split at h
    · rename_i hc
      cases h
      obtain ⟨rfl, _⟩ := r1.str_inv
      obtain ⟨w, rfl, r3⟩ := r2.inv1
      obtain ⟨rfl, _⟩ := r3.str_inv
      exact ⟨a, b, rfl, rfl, by simpa using hc.1, mil2 hc.2, fun p np => q.lst (rps_strs _) p np⟩
    · cases h
  · cases h⟩
theorem m_part : MtOk X "str" "str.partition" mPart := ⟨_, mt_partition, fun S H v d vs ds z Q r1 r2 h q => by
  unfold mPart at h
  split at h
  · rename_i a b
    split at h
    · rename_i hc
      cases h
      obtain ⟨rfl, _⟩ := r1.str_inv
      obtain ⟨w, rfl, r3⟩ := r2.inv1
      obtain ⟨rfl, _⟩ := r3.str_inv
      exact ⟨a, b, rfl, rfl, by simpa using hc.1, mil hc.2, fun p np => q _ _ [] (same_upd np) (fun _ z => nomatch z) .nil (.tup upd_same (rps_strs [_, _, _]))⟩
    · cases h
  · cases h⟩
theorem m_starts : MtOk X "str" "str.startswith" mStarts := ⟨_, mt_startswith, fun S H v d vs ds z Q r1 r2 h q => by
  unfold mStarts at h
  split at h
  · rename_i a b
    cases h
    obtain ⟨rfl, _⟩ := r1.str_inv
    obtain ⟨w, rfl, r3⟩ := r2.inv1
    obtain ⟨rfl, _⟩ := r3.str_inv
    exact ⟨a, b, rfl, rfl, q.atom fun _ => .bl⟩
  · cases h⟩
theorem m_join : MtOk X "str" "str.join" mJoin := ⟨_, mt_join, fun S H v d vs ds z Q r1 r2 h q => by
  unfold mJoin at h
  split at h
  · rename_i a ds
    obtain ⟨ys, e1, h⟩ := bind_some h
    split at h
    · rename_i hc
      cases h
      obtain ⟨rfl, _⟩ := r1.str_inv
      obtain ⟨w, rfl, r3⟩ := r2.inv1
      obtain ⟨p, us, rfl, h1, _, h2⟩ := r3.lst_shr
      have := strs_rp h2 e1
      subst this
      exact ⟨a, p, ys, rfl, rfl, .inl (SqL.of h1), Nat.le_trans hc (by decide), q.atom fun _ => .str⟩
    · cases h
  · cases h⟩
def iStrE (fe : EvE) : EvI := fun ρ => (fe ρ).bind fun x => match x.d with
  | .str a => some (a.cps.toList.map fun c => (.str ⟨#[c]⟩, false))
  | _ => none
theorem yld_str {K : PySem.W.Frag} {N : Nw} {W : List Addr} {H1 : Hp} (x : Str) : Yld K N W H1 (Its x) (x.cps.toList.map fun c => (D.str ⟨#[c]⟩, false)) where
  go := fun i d al H2 e _ => by
    have := (List.getElem?_eq_some_iff.mp e).1
    show i < x.cps.size
    simpa using this
  yld := fun i d al H2 v H3 e _ y => by
    obtain ⟨rfl, c, hc, rfl⟩ := y
    rw [List.getElem?_map, Array.getElem?_toList, hc] at e
    cases e
    exact ⟨Same.refl _, .str⟩
  stop := fun H2 _ => by
    show x.cps.size ≤ _
    simp
theorem i_str {tg : Expr} (he : PEv X e fe) : PIv X tg e (iStrE fe) := by
  refine imp_i (pi_str he) fun σ H R ⟨N, H0, ρ, L, W, items, sim, z, q⟩ => ?_
  unfold iStrE at z
  obtain ⟨x, e1, z⟩ := bind_some z
  split at z
  · rename_i a hd
    cases z
    refine one sim e1 fun v H1 F s1 n1 d1 p1 => ?_
    rw [hd] at p1
    obtain ⟨rfl, _⟩ := p1.str_inv
    exact ⟨a, rfl, q _ H1 s1 (yld_str a)⟩
  · cases z
theorem e_gstr {x y : Str} (hm : ∃ t, X.mg x = some (.str y t)) (hg : Gl X x := by rfl) (hdb : (x == ("__debug__" : Str)) = false := by decide) : PEv X (.Name x pos) (eC (.str y)) := by
  obtain ⟨t, hm⟩ := hm
  exact ⟨fun pins s σ H Q I ⟨N, H0, ρ, L, W, r, sim, z, q⟩ => ld_glob I hg hm (by
    cases z
    exact ⟨.str y, H, I, ⟨t, rfl⟩, q.atom (Same.refl H) fun _ => .str⟩) hdb⟩
theorem e_slS {lo hi : Option Expr} {fl fh : EvO} {p2 : Pos} (he : PEv X e fe) (hl : POv X lo fl) (hh : POv X hi fh) : PEv X (.Subscript e (.Slice lo hi none p2) pos) (eSlS fe fl fh) := by
  refine imp_e (pe_slice sl_str he hl hh) fun σ H Q ⟨N, H0, ρ, L, W, rr, sim, z, q⟩ => ?_
  unfold eSlS at z
  obtain ⟨x, e1, z⟩ := bind_some z
  obtain ⟨l, e2, z⟩ := bind_some z
  obtain ⟨h, e3, z⟩ := bind_some z
  split at z
  · rename_i a hd
    split at z
    · rename_i hlen
      cases z
      refine one sim e1 fun v H1 F s1 n1 d1 p1 => ⟨N, H0, ρ, L, W, l, sim.same s1, e2, fun H2 s2 => ⟨N, H0, ρ, L, W, h, (sim.same s1).same s2, e3, fun H3 s3 => ?_⟩⟩
      rw [hd] at p1
      obtain ⟨rfl, _⟩ := p1.str_inv
      exact ⟨a, rfl, mil hlen, q.atom (s1.trans (s2.trans s3)) fun _ => .str⟩
    · cases z
  · cases z
end
end Ev
set_option Elab.async false
set_option linter.all false
set_option maxRecDepth 100000
namespace Ev
open PySem PySem.Spec L2
open PyProof.Rows hiding St
def sAsgL (i j : Nat) (fe : EvE) : EvS := fun ρ => (fe ρ).bind fun r => match r.d with
  | .lst [d1, d2] => if imm d1 = true ∧ imm d2 = true ∧ i < ρ.length ∧ j < ρ.length then some (.nx ((ρ.set i (some ⟨d1, .full, false, none⟩)).set j (some ⟨d2, .full, false, none⟩))) else none
  | _ => none
def sTake (fp : EvP) (i : Nat) : EvS := fun ρ => (fp ρ).bind fun z => match ρ[z.1]? with
  | some (some s) => if z.1 ≠ i ∧ i < ρ.length ∧ isNd z.2.2 = true then some (.nx (((ρ.set i none).set z.1 (some ⟨dSet s.d z.2.1 .any, .full, s.al, s.pn⟩)).set i (some ⟨z.2.2, .full, s.al, none⟩))) else none
  | _ => none
section
variable {X : Cx} {pos pos' p1 p2 : Pos} {e tg : Expr} {fe : EvE} {fp : EvP}
def tG2L (i j : Nat) (K : PySem.W.Frag) : TG := fun v σ H Q => ∃ a v1 v2, v = .ref a ∧ SqL K H a [v1, v2] ∧ Q ((σ.set i (some v1)).set j (some v2)) H
theorem g_twoL {k : Nat} (i j : Nat) {x y : Str} (hc : X.calm = true) (hN : X.N.Nodup) (hi : X.N[i]? = some x) (hj : X.N[j]? = some y) (hx : Loc X.env.scope x) (hy : Loc X.env.scope y) (hf : X.fn x = true ∨ X.env.scope.names.lookup x = some .local) (hg : X.fn y = true ∨ X.env.scope.names.lookup y = some .local)
    (hs : (assignEach [.Name x p1, .Name y p2] X.env).map (·.2) = assign (.Name x p1) X.env :: (assignEach [.Name y p2] X.env).map (·.2) := by rfl) (hs2 : (assignEach [.Name y p2] X.env).map (·.2) = assign (.Name y p2) X.env :: (assignEach [] X.env).map (·.2) := by rfl)
    (hn : (assignEach [.Name x p1, .Name y p2] X.env).length = 2 := by rfl) (hst : (assignEach [.Name x p1, .Name y p2] X.env).findIdx? (·.1) = none := by rfl) : PG X (.Tuple [.Name x p1, .Name y p2] k pos) (tG2L i j X.K) := by
  refine imp_g (pg_unl hc (pgs_cons (pg_name hN hi hx hf) (pgs_cons (pg_name hN hj hy hg) pgs_nil hs2) hs) hn hst) fun v σ H Q ⟨a, v1, v2, ev, h, q⟩ => ?_
  exact ⟨a, [v1, v2], ev, h, rfl, v1, [v2], rfl, v2, [], rfl, rfl, q⟩
theorem s_asgL {i j : Nat} (he : PEv X e fe) (hg : PG X tg (tG2L i j X.K)) (hs : swapsWithSole [tg] e pos.line X.env = pure false := by rfl) (hw : swappedStores [tg] e X.env = pure none := by rfl) (h1 : (assignEach [tg] X.env).map (·.2) = [assign tg X.env] := by rfl) : PSv X (.Assign [tg] e pos) (sAsgL i j fe) := by
  refine imp_s (ps_asg he hg hs hw h1) fun D σ H ⟨N, H0, ρ, L, o, sim, z, q⟩ => ?_
  unfold sAsgL at z
  obtain ⟨r, e1, z⟩ := bind_some z
  split at z
  · rename_i d1 d2 hd
    split at z
    · rename_i hc
      obtain ⟨hi1, hi2, hil, hjl⟩ := hc
      cases z
      refine one sim.h e1 fun v H1 F s1 n1 nd p1 => ?_
      rw [hd] at p1
      obtain ⟨a, vs, G, rfl, ha, rs, _, _⟩ := p1.lst_inv
      cases rs with
      | cons r1 rs =>
        cases rs with
        | cons r2 rs =>
          cases rs
          obtain ⟨L2, sim2, sub2⟩ := sim.set (i := i) (r := ⟨d1, .full, false, none⟩) (G := []) (fun _ z => nomatch z) s1 (fun _ z => nomatch z) .nil (r1.of_imm hi1).2 hil
          obtain ⟨L3, sim3, sub3⟩ := sim2.set (i := j) (r := ⟨d2, .full, false, none⟩) (G := []) (fun _ z => nomatch z) (Same.refl H1) (fun _ z => nomatch z) .nil (r2.of_imm hi2).2 (by rw [List.length_set]; exact hjl)
          exact ⟨a, _, _, rfl, SqL.of ha, q _ H1 L3 sim3 (Frm.same s1 fun b hb => .inl ((sub3 b hb).elim (fun m => (sub2 b m).elim id fun z => nomatch z) fun z => nomatch z))⟩
    · cases z
  · cases z
theorem s_take (i : Nat) {x : Str} (h : PPv X e fp) (hN : X.N.Nodup) (hi : X.N[i]? = some x := by rfl) (hx : Loc X.env.scope x := by first | exact Or.inl rfl | exact Or.inr rfl) (hs : swapsWith e (some (.Name x pos')) pos.line X.env = pure false := by rfl) (hf : X.fn x = true ∨ X.env.scope.names.lookup x = some .local := by first | exact .inl rfl | exact .inr rfl | assumption) :
    PSv X (.Assign [.Name x pos'] e pos) (sTake fp i) := by
  refine imp_s (ps_set hN hi hx h.run hs hf) fun De σ H ⟨N, H0, ρ, L0, o, sim0, z, q⟩ => ?_
  unfold sTake at z
  obtain ⟨⟨j, p, d⟩, e1, z⟩ := bind_some z
  dsimp only at z
  split at z
  · rename_i s es
    split at z
    · rename_i hcd
      obtain ⟨hji, hil, hnd⟩ := hcd
      cases z
      obtain ⟨s', es', hl, hdp⟩ := h.ok ρ j p _ e1
      rw [es] at es'
      cases es'
      refine ⟨N, H0, ρ, L0, L0, j, p, d, sim0.h, e1, fun u' H1 s1 at1 => ?_⟩
      obtain ⟨L, simw, subL⟩ := sim0.wipe i
      have sim1 := simw.same s1
      have es1 : (ρ.set i none)[j]? = some (some s) := by rw [List.getElem?_set_ne (fun q => hji q.symm)]; exact es
      obtain ⟨F1, G, F2, v0, eL, ev, rp, sl⟩ := sim1.sl.hide es1
      have nd := sim1.nd
      rw [eL, List.nodup_append, List.nodup_append] at nd
      obtain ⟨a1, ⟨a2, a3, a4⟩, a5⟩ := nd
      rw [hl] at rp
      obtain ⟨u, A, G2, B, eG, ru, w2, q2⟩ := rp.trk.way hdp a2
      have := w2.fn (at1 _ ev)
      subst this
      have a2' := a2
      rw [eG, List.nodup_append, List.nodup_append] at a2'
      obtain ⟨nA, ⟨nG2, nB, dGB⟩, dA⟩ := a2'
      have abG : ∀ b ∈ A ++ B, b ∈ G := fun b m => by rw [eG]; rcases List.mem_append.mp m with m | m <;> simp [m]
      have g2G : ∀ b ∈ G2, b ∈ G := fun b m => by rw [eG]; simp [m]
      have gL : ∀ b ∈ G, b ∈ L := fun b m => by rw [eL]; simp [m]
      have nAB : (A ++ ([] ++ B)).Nodup := by
        rw [List.nil_append, List.nodup_append]
        exact ⟨nA, nB, fun a m b m2 => dA a m b (by simp [m2])⟩
      have n12 : (F1 ++ F2).Nodup := by
        rw [List.nodup_append]
        exact ⟨a1, a3, fun a m b m2 => a5 a m b (by simp [m2])⟩
      have g12 : ∀ b ∈ F1 ++ F2, b ∉ G := fun b m m2 => (List.mem_append.mp m).elim (fun y => a5 b y b (by simp [m2]) rfl) fun y => a4 b m2 b y rfl
      have sub12 : ∀ b ∈ F1 ++ F2, b ∈ L := fun b m => by
        rw [eL]
        rcases List.mem_append.mp m with m | m <;> simp [m]
      have pnj : ∀ k, s.pn = some k → v0 = .ref (N.p k) := fun k ek => by
        obtain ⟨v9, _, ev9, _, _, pin9⟩ := sim0.sl.get es
        rw [ev] at ev9
        cases ev9
        exact pin9 k ek
      have rpj : Rp X.K (SR N L s.al false) H1 .full v0 (dSet s.d p .any) (A ++ ([] ++ B)) :=
        (q2 (S' := fun b => SR N L s.al false b ∧ H1 b ≠ none) (fun _ w => w) (.same (Same.refl H1)) .any).mono fun b w => w.1
      obtain ⟨F4, sl2, f1, f2⟩ := sl.put (s := ⟨dSet s.d p .any, .full, s.al, s.pn⟩) (G := A ++ ([] ++ B)) ev pnj rpj
      rw [List.set_set] at sl2
      have abG' : ∀ b ∈ A ++ ([] ++ B), b ∈ G := fun b m => abG b (by simpa using m)
      have nF4 := f2 n12 nAB fun b m m2 => g12 b m2 (abG' b m)
      have F4s : ∀ b ∈ F4, b ∈ F1 ++ F2 ∨ b ∈ A ++ B := fun b m => (f1 b m).imp id fun m => by simpa using m
      obtain ⟨E1, E0, E2, eF4, _, put⟩ := sl2.at_ (i := i) (by rw [List.length_set, List.length_set]; exact hil)
      have slI := put (L1 := L) (H1 := H1) (v := u) (s := ⟨d, .full, s.al, none⟩) (G' := G2) (fun _ => .same (Same.refl H1)) (fun _ z _ => z) (fun k ek => nomatch ek) (ru.mono fun a w => w.1)
      have eE : ∀ b ∈ E1 ++ (G2 ++ E2), b ∈ F4 ∨ b ∈ G2 := fun b m => by
        rcases List.mem_append.mp m with m | m
        · exact .inl (by rw [eF4]; simp [m])
        · rcases List.mem_append.mp m with m | m
          · exact .inr m
          · exact .inl (by rw [eF4]; simp [m])
      have f4g : ∀ b ∈ F4, b ∉ G2 := fun b m m2 => (F4s b m).elim (fun m => g12 b m (g2G b m2)) fun m => (List.mem_append.mp m).elim (fun m => dA b m b (by simp [m2]) rfl) fun m => dGB b m2 b m rfl
      have nF5 : (E1 ++ (G2 ++ E2)).Nodup := by
        rw [eF4, List.nodup_append, List.nodup_append] at nF4
        obtain ⟨b1, ⟨_, b3, _⟩, b5⟩ := nF4
        rw [List.nodup_append, List.nodup_append]
        refine ⟨b1, ⟨nG2, b3, fun a m b m2 e => ?_⟩, fun a m b m2 e => ?_⟩
        · subst e
          exact f4g a (by rw [eF4]; simp [m2]) m
        · subst e
          rcases List.mem_append.mp m2 with m2 | m2
          · exact f4g a (by rw [eF4]; simp [m]) m2
          · exact b5 a m a (by simp [m2]) rfl
      generalize hF5 : E1 ++ (G2 ++ E2) = F5 at slI eE nF5
      have F5L : ∀ b ∈ F5, b ∈ L := fun b m => (eE b m).elim (fun m => (F4s b m).elim (sub12 b) fun m => gL b (abG b m)) fun m => gL b (g2G b m)
      exact q _ H1 F5 ⟨sim1.kp, sim1.nw, nF5, fun b m => sim1.ln b (F5L b m), fun b m => sim1.mu b (F5L b m), slI.mono fun b y m => y (F5L b m)⟩ (Frm.same s1 fun b m => .inl (subL b (F5L b m)))
    · cases z
  · cases z
end
end Ev
set_option Elab.async false
set_option linter.all false
set_option maxRecDepth 100000
set_option maxHeartbeats 1000000
namespace RS
open PySem PySem.Spec PyProof.Rows L2 RT
theorem norev_str : typeLookup (.type "str") "__reversed__" = pure none := by rw [typeLookup_type, builtinLookup_eq_fast]; kernel_rfl
theorem get_str : typeLookup (.type "str") "__getitem__" = pure (some (.builtin "str.__getitem__")) := by rw [typeLookup_type, builtinLookup_eq_fast]; kernel_rfl
theorem sub_str_dict : isSubtype (.type "str") (.type "dict") = pure false := by rw [isSubtype_type]; kernel_rfl
theorem nolen_rt : typeLookup (.type "reversed") "__len__" = pure none := by rw [typeLookup_type, builtinLookup_eq_fast]; kernel_rfl
theorem slot_rt_hint : Slot "reversed" "__length_hint__" "reversed.__length_hint__" :=
  .of (owner := "reversed") (n := "__length_hint__") (by rw [typeLookup_type, builtinLookup_eq_fast]; kernel_rfl) (by decide +kernel) (by decide +kernel) (by decide +kernel)
    (by first | exact .inl (by decide +kernel) | exact .inr (by decide +kernel)) (by rw [isSubtype_type]; kernel_rfl)
theorem entry_rt_hint : entryFor table "reversed.__length_hint__" = some Builtin.«reversed.__length_hint__» := entryFor_of_tree (by kernel_rfl)
theorem args_rt_hint (a : Value) : argsOk "reversed.__length_hint__" ⟨[a], []⟩ := by
  unfold argsOk; rw [signature?_of (id := "reversed.__length_hint__") (n := ['_', '_', 't', 'n', 'i', 'h', '_', 'h', 't', 'g', 'n', 'e', 'l', '_', '_']) (o := ['d', 'e', 's', 'r', 'e', 'v', 'e', 'r']) (by kernel_rfl) owner_rt]; kernel_rfl
def rsObj (x : Str) (t : Tok) (i : Int) : Obj := { cls := .type "reversed", data := .fields #[.str x t, rawInt i] }
def IsRs (h : Heap) (a : Addr) (x : Str) (t : Tok) (i : Int) : Prop := ∃ o, h.get? a = some o ∧ o.cls = .type "reversed" ∧ o.data = .fields #[.str x t, rawInt i]
theorem IsRs.at {h h' : Heap} {a : Addr} {x : Str} {t : Tok} {i : Int} (r : IsRs h a x t i) (e : ∀ o, h.get? a = some o → h'.get? a = some o) : IsRs h' a x t i := let ⟨o, ho, q⟩ := r; ⟨o, e _ ho, q⟩
section
variable {prog : Program} {w : World} {A : Around} {E : Value → Shared → Prop} {s : Shared} {x : Str} {t : Tok}
theorem IsRs.typeIs {a : Addr} {i : Int} (r : IsRs s.heap a x t i) : s.TypeIs (.ref a) "reversed" := let ⟨o, ho, hc, _⟩ := r; ⟨o, ho, hc⟩
theorem code_reversed_str {Q₁ : Value → Shared → Prop} (hz : x.length ≤ sizeLine)
    (h : Q₁ (.ref s.heap.objs.size) { s with heap := s.heap.push (rsObj x t ((x.length : Int) - 1)), toks := s.toks + 1 + 1 }) :
    codeAny (model prog w) A (.call (.builtin "reversed.__new__") ⟨[.type "reversed", .str x t], []⟩) (wants Q₁ E) s := by
  have hT : s.TypeIs (.str x t) "str" := typeIs_str s x t
  have hn := line63
  refine codeAny_of_tree ?_
  show wpAny _ A.in1 (do checkBuiltinCall "reversed.__new__" ⟨[.type "reversed", .str x t], []⟩; again (.builtin "reversed.__new__" ⟨[.type "reversed", .str x t], []⟩)) _ _ s
  refine wpAny_bind (wpAny_of_eq (F.newCall_reversed_1 _) (wpAny_pure ⟨plainId_quiet F.plain_reversed_new _, codeAny_builtin F.entry_reversed_new ?_⟩))
  rw [Around.under_plainId F.plain_reversed_new _]
  unfold Builtin.«reversed.__new__»
  refine wpAny_bind (wpAny_of_eq (newClass_reversed _) ?_)
  try dsimp only
  refine wpAny_bind (wpAny_of_eq (a := ()) (by first | rfl | kernel_rfl) ?_)
  try dsimp only
  refine wpAny_bind (wpAny_of_eq (a := ()) (by first | rfl | kernel_rfl) ?_)
  try dsimp only
  refine wpAny_bind (wpAny_specialOf hT norev_str ?_)
  try dsimp only
  refine wpAny_bind ?_
  wp_delta
  refine wpAny_bind (wpAny_isInstance (T := "str") (U := "dict") (b := false) hT sub_str_dict ?_)
  try dsimp only
  try rw [if_neg Bool.false_ne_true]
  try dsimp only
  refine wpAny_bind (wpAny_specialOf hT get_str ?_)
  try dsimp only
  try rw [if_pos (by decide +kernel)]
  refine wpAny_pure ?_
  try dsimp only
  try rw [if_neg (by decide)]
  try dsimp only
  refine wpAny_bind (len_str (by omega) ?_)
  refine wpAny_bind (wpAny_of_eq (a := some ((x.length : Nat) : Int)) rfl ?_)
  try dsimp only
  refine wpAny_bind ?_
  show wpAny _ _ (newObj (.type "reversed") (.fields #[.str x t, rawInt ((x.length : Int) - 1)])) _ _ _
  refine wpAny_newObj_type ?_
  exact wpAny_pure h
theorem call_reversed_str {Q : Value → Shared → Prop} (hz : x.length ≤ sizeLine)
    (h : Q (.ref s.heap.objs.size) { s with heap := s.heap.push (rsObj x t ((x.length : Int) - 1)), toks := s.toks + 1 + 1 }) : wpAny (model prog w) A (call (.type "reversed") [.str x t]) Q E s := by
  refine callType_codes (Q₁ := fun obj s₁ => s₁.TypeIs obj "reversed" ∧ Q obj s₁) called_rt (F.typeCall_reversed_1 _) F.entry_object_init
    (code_reversed_str (A := A.in1) hz ⟨⟨_, Heap.get?_push_size _ rfl, rfl⟩, h⟩) fun obj s₁ h₁ => ?_
  exact ⟨h₁.1, F.args_object_init_2 obj _, object_init_meets called_rt.init.lookup called_rt.made (by decide) prog w A.in1 _ s₁ ⟨h₁.1, rfl, h₁.2⟩⟩
theorem next_rs_item {it : Addr} {i c : Nat} {Q : Option Value → Shared → Prop} (hit : IsRs s.heap it x t (i : Int)) (hx : x.cps[i]? = some c) (hsz : x.length ≤ sizeLine)
    (hQ : ∀ h' tk, IsRs h' it x t ((i : Int) - 1) → Heap.SameBut it s.heap h' → Q (some (.str ⟨#[c]⟩ tk)) { s with heap := h', toks := s.toks + 1 + 1 }) : wpAny (model prog w) A (pyNext (.ref it)) Q E s := by
  obtain ⟨o, ho, hc, hd⟩ := id hit
  have hi : i < x.length := (Array.getElem?_eq_some_iff.mp hx).1
  have hT : s.TypeIs (.str x t) "str" := typeIs_str s x t
  have hn := line63
  unfold pyNext
  refine wpAny_bind (wpAny_attempt (wpAny_callSpecial?_slot (name := Str.ofString "__next__") hit.typeIs slot_rt_next
    (wpAny_call_entry slot_rt_next hit.typeIs entry_rt_next ?_ (args_rt_next _))))
  unfold Builtin.«reversed.__next__»
  refine wpAny_bind (wpAny_of_eq (a := (Value.ref it, [])) rfl ?_)
  try dsimp only
  refine wpAny_bind (wpAny_field ho hd (x := .str x t) rfl ?_)
  try dsimp only
  refine wpAny_bind (wpAny_field ho hd (x := rawInt (i : Int)) rfl ?_)
  show wpAny _ _ (if (i : Int) < 0 then _ else _) _ _ s
  rw [if_neg (by omega)]
  try dsimp only
  refine wpAny_bind (wpAny_specialOf hT get_str ?_)
  try dsimp only
  try rw [if_neg (by decide)]
  try dsimp only
  refine wpAny_bind (wpAny_mkInt ?_)
  refine wpAny_bind (wpAny_attempt ?_)
  have fin : seqIndex? (i : Int) x.length = some i := seqIndex_of (by omega) (by omega)
  refine PyProof.Rows.getItem_str (s := { s with toks := s.toks + 1 }) (c := c) (by
    have e1 : decide ((i : Int) < -(2 ^ 63 : Int)) = false := decide_eq_false (by omega)
    have e2 : decide ((i : Int) ≥ 2 ^ 63) = false := decide_eq_false (by omega)
    rw [e1, e2, Bool.or_false]) (by rw [fin]; exact hx) ?_
  try dsimp only
  refine wpAny_bind (wpAny_field (s := { s with toks := s.toks + 1 + 1 }) ho hd (x := rawInt (i : Int)) rfl ?_)
  try dsimp only
  refine wpAny_bind (wpAny_setField (s := { s with toks := s.toks + 1 + 1 }) ho hd (by simp) ?_)
  first
  | refine wpAny_pure ⟨_, rfl, wpAny_pure (hQ _ _ ?_ (Heap.SameBut.update ..))⟩
  | refine wpAny_bind (wpAny_pure (wpAny_pure ⟨_, rfl, wpAny_pure (hQ _ _ ?_ (Heap.SameBut.update ..))⟩))
  exact ⟨_, Heap.get?_update_self _ ho (Obj.isFreed_of_fields (Obj.data_mapFields hd _)), (Obj.cls_mapFields ..).trans hc, by
    rw [Obj.data_mapFields hd]; simp⟩
theorem next_rs_end {it : Addr} {Q : Option Value → Shared → Prop} (hh : A.handled = none) (hit : IsRs s.heap it x t (-1))
    (hQ : ∀ h', Heap.ExtBut it s.heap h' → Q none { s with heap := h' }) : wpAny (model prog w) A (pyNext (.ref it)) Q E s := by
  obtain ⟨o, ho, hc, hd⟩ := id hit
  unfold pyNext
  refine wpAny_bind (wpAny_attempt (wpAny_callSpecial?_slot (name := Str.ofString "__next__") hit.typeIs slot_rt_next
    (wpAny_call_entry slot_rt_next hit.typeIs entry_rt_next ?_ (args_rt_next _))))
  unfold Builtin.«reversed.__next__»
  refine wpAny_bind (wpAny_of_eq (a := (Value.ref it, [])) rfl ?_)
  try dsimp only
  refine wpAny_bind (wpAny_field ho hd (x := .str x t) rfl ?_)
  try dsimp only
  refine wpAny_bind (wpAny_field ho hd (x := rawInt (-1)) rfl ?_)
  show wpAny _ _ (if (-1 : Int) < 0 then _ else _) _ _ s
  rw [if_pos (by decide)]
  try dsimp only
  refine wpAny_bind (wpAny_rule ?_)
  refine wpAny_bind ?_
  wp_delta
  refine wpAny_bind (wpAny_setField ho hd (by simp) ?_)
  have ho2 := Heap.get?_update_self (Obj.mapFields (·.setIfInBounds 1 (rawInt (-1)))) ho (Obj.isFreed_of_fields (Obj.data_mapFields hd _))
  refine wpAny_setField (s := { s with heap := s.heap.update it (Obj.mapFields (·.setIfInBounds 1 (rawInt (-1)))) }) ho2 (Obj.data_mapFields hd _) (by simp) ?_
  try dsimp only
  first
  | show wpAny _ _ (newExc (.type "StopIteration") [] >>= _) _ _ _
  | (refine wpAny_bind ?_; show wpAny _ _ (newExc (.type "StopIteration") [] >>= _) _ _ _)
  | (refine wpAny_bind ?_; wp_delta; show wpAny _ _ (newExc (.type "StopIteration") [] >>= _) _ _ _)
  refine wpAny_bind ?_
  simp only [newExc, newTuple]
  refine wpAny_bind (wpAny_newObj_type ?_ (by size_fits))
  refine wpAny_bind (m := firstArgMember _ _) (wpAny_of_eq (a := Value.none) (by first | rfl | (simp only [firstArgMember]; rfl)) ?_)
  refine wpAny_newObj_type ?_ (by size_fits)
  simp only [raiseNew]
  refine wpAny_bind (wpAny_handled ?_)
  first | rw [show A.in1.handled = none from hh] | rw [hh]
  refine wpAny_bind (wpAny_pure (wpAny_throw ?_))
  refine wpAny_bind (wpAny_isInstance (T := "StopIteration") (b := true) ⟨_, Heap.get?_push_size _ rfl, rfl⟩ isSubtype_stop ?_)
  refine wpAny_pure (hQ _ ?_)
  refine ((?_ : Heap.ExtBut it s.heap _).push _).push _
  exact fun b ob hb e => (Heap.get?_update_other _ _ (Ne.symm hb)).trans ((Heap.get?_update_other _ _ (Ne.symm hb)).trans e)
theorem iter_rs {it : Addr} {i : Int} {Q : Value → Shared → Prop} (hit : IsRs s.heap it x t i) (h : Q (.ref it) s) : wpAny (model prog w) A (pyIter (.ref it)) Q E s := by
  refine wpAny_pyIter_slot hit.typeIs slot_rt_iter (wpAny_call_entry slot_rt_iter hit.typeIs entry_rt_iter ?_ (args_rt_iter _))
  show wpAny _ _ (ret (.ref it)) _ _ s
  exact wpAny_pure ⟨_, rfl, "reversed", _, hit.typeIs, slot_rt_next.lookup, h⟩
theorem hint_rs {it : Addr} {i : Int} {Q : Value → Shared → Prop} (hit : IsRs s.heap it x t i) (hz : x.length ≤ sizeLine) (hi : i + 1 ≤ x.length)
    (h : ∀ tk, Q (.int (i + 1) tk) { s with toks := s.toks + 1 + 1 + 1 }) : wpAny (model prog w) A (call (.builtin "reversed.__length_hint__") [.ref it]) Q E s := by
  obtain ⟨o, ho, hc, hd⟩ := id hit
  have hn := line63
  refine wpAny_call_entry slot_rt_hint hit.typeIs entry_rt_hint ?_ (args_rt_hint _)
  unfold Builtin.«reversed.__length_hint__»
  refine wpAny_bind (wpAny_of_eq (a := Value.ref it) rfl ?_)
  try dsimp only
  refine wpAny_bind (wpAny_field ho hd (x := .str x t) rfl ?_)
  try dsimp only
  try rw [if_neg (by decide)]
  try dsimp only
  refine wpAny_bind (len_str (by omega) ?_)
  refine wpAny_bind (wpAny_of_eq (a := some ((x.length : Nat) : Int)) rfl ?_)
  try dsimp only
  refine wpAny_bind (wpAny_field (s := { s with toks := s.toks + 1 + 1 }) ho hd (x := rawInt i) rfl ?_)
  show wpAny _ _ (if ((x.length : Nat) : Int) < i + 1 then _ else _) _ _ _
  rw [if_neg (by omega)]
  show wpAny _ _ (retInt (i + 1)) _ _ _
  exact wpAny_bind (wpAny_mkInt (wpAny_pure ⟨_, rfl, h _⟩))
end
end RS
set_option Elab.async false
set_option linter.all false
set_option maxRecDepth 100000
set_option maxHeartbeats 1000000
namespace RS
open PySem PySem.Spec PyProof.Rows L2 RT
theorem type_rt_hint : typeOf (.builtin "reversed.__length_hint__") = pure (.type "method_descriptor") := by show builtinType _ = _; rw [builtinType_eq_fast]; kernel_rfl
theorem walk_rs {prog : Program} {w : World} {A : Around} (hh : A.handled = none) (I : Addr) (x : Str) (t : Tok) (hz : x.length ≤ sizeLine) :
    Walks prog w A I [I] [I] x.length (fun i v => ∃ c tk, x.cps[x.length - 1 - i]? = some c ∧ v = .str ⟨#[c]⟩ tk) (fun i h => i ≤ x.length ∧ IsRs h I x t ((x.length : Int) - 1 - (i : Int))) where
  sub := fun b hb => hb
  frame := fun _ _ _ r hk => ⟨r.1, r.2.at fun o e => hk I (by simp) o e⟩
  item := fun i s Q E hi r hQ => by
    have e : (x.length : Int) - 1 - (i : Int) = ((x.length - 1 - i : Nat) : Int) := by omega
    have hit := r.2
    rw [e] at hit
    have hlt : x.length - 1 - i < x.cps.size := by show x.length - 1 - i < x.length; omega
    have hx : x.cps[x.length - 1 - i]? = some (x.cps[x.length - 1 - i]'hlt) := Array.getElem?_eq_getElem hlt
    refine next_rs_item hit hx hz fun h' tk hit' hs' => ?_
    have e2 : ((x.length - 1 - i : Nat) : Int) - 1 = (x.length : Int) - 1 - ((i + 1 : Nat) : Int) := by omega
    rw [e2] at hit'
    exact hQ _ h' _ ⟨_, tk, hx, rfl⟩ ⟨hi, hit'⟩ fun b o hb eo => hs'.extBut b o (fun h => hb (by simp [h])) eo
  done := fun s Q E r hQ => by
    have e : (x.length : Int) - 1 - (x.length : Int) = -1 := by omega
    have hit := r.2
    rw [e] at hit
    exact next_rs_end hh hit fun h' he' => hQ h' s.toks fun b o hb eo => he' b o (fun h => hb (by simp [h])) eo
  self := fun _ _ _ _ r hQ => iter_rs r.2 hQ
section
variable {prog : Program} {w : World} {A : Around} {E : Value → Shared → Prop} {s : Shared} {x : Str} {t : Tok}
theorem room_rs {it : Addr} {Q : Bool → Shared → Prop} (hit : IsRs s.heap it x t ((x.length : Int) - 1)) (hz : x.length ≤ sizeLine)
    (h : Q (((x.length : Nat) : Int) != 0) { s with toks := s.toks + 1 + 1 + 1 }) : wpAny (model prog w) A (Builtin.List.listLengthHint (.ref it)) Q E s := by
  have hT : s.TypeIs (.ref it) "reversed" := hit.typeIs
  have hn := line63
  unfold Builtin.List.listLengthHint
  refine wpAny_bind (wpAny_specialOf hT nolen_rt ?_)
  show wpAny _ A (specialOf (Value.ref it) (Str.ofString "__length_hint__") >>= _) _ _ _
  refine wpAny_bind (wpAny_specialOf hT slot_rt_hint.lookup ?_)
  generalize hid : ("reversed.__length_hint__" : String) = id0
  wp_delta
  rw [show splitId id0 = some ("reversed", "__length_hint__") from by subst hid; decide +kernel]
  subst hid
  refine wpAny_bind (wpAny_isInstance (b := true) hT (by rw [isSubtype_type]; kernel_rfl) ?_)
  rw [if_neg (by decide)]
  show wpAny _ _ (ite _ _ _) _ _ _
  rw [if_neg (by decide +kernel)]
  refine wpAny_bind (wpAny_rule ?_)
  refine wpAny_bind ?_
  unfold bindSpecial
  refine wpAny_bind (wpAny_of_eq (a := Value.type "method_descriptor") type_rt_hint ?_)
  rw [if_pos (by decide +kernel)]
  refine wpAny_pure ?_
  refine wpAny_bind (wpAny_attempt (hint_rs hit hz (by omega) fun tk => ?_))
  dsimp only
  refine wpAny_bind (wpAny_of_eq (a := some ((x.length : Int) - 1 + 1)) rfl ?_)
  dsimp only
  have e1 : (x.length : Int) - 1 + 1 = (x.length : Int) := by omega
  rw [e1]
  have hf : Builtin.List.listFitsIndex (x.length : Int) = true := by
    unfold Builtin.List.listFitsIndex
    simp
    omega
  have hl : Builtin.List.listTooLong (x.length : Int).toNat = false := by
    unfold Builtin.List.listTooLong
    simp
    omega
  rw [hf]
  show wpAny _ _ (ite _ _ _) _ _ _
  rw [if_neg (by decide)]
  show wpAny _ _ (ite _ _ _) _ _ _
  rw [if_neg (by omega)]
  show wpAny _ _ (ite _ _ _) _ _ _
  rw [hl, if_neg (by decide)]
  exact wpAny_pure h
theorem init_rs {R : Result → Shared → Prop} {it S : Addr} (hh : A.handled = none) (hit : IsRs s.heap it x t ((x.length : Int) - 1)) (hn : x.length ≤ sizeLine) (hSi : S ≠ it)
    (hS : s.heap.get? S = some { cls := .type "list", data := .seq #[] })
    (hR : ∀ h' tk acc' c', (∀ b o, b ≠ S → b ≠ it → s.heap.get? b = some o → h'.get? b = some o) → h'.get? S = some { cls := .type "list", dict := none, data := .seq acc' c', slots := #[] } →
      ItemsOf (fun i v => ∃ c tk, x.cps[x.length - 1 - i]? = some c ∧ v = .str ⟨#[c]⟩ tk) acc' x.length → R (.ok (.ret .none)) { s with heap := h', toks := tk }) :
    wpAny (model prog w) A.in1 (Builtin.«list.__init__» ⟨[.ref S, .ref it], []⟩)
      (fun fin s' => match fin with | .done f => R (.ok f) s' | .again c' => c'.quiet = true ∧ codeAny (model prog w) A c' R s') (fun e s' => R (.error e) s') s := by
  show wpAny _ _ (do let old ← Builtin.List.listItems (.ref S); Builtin.List.listUpdate (.ref S) (fun _ => #[]); letGo old.toList.reverse; Builtin.List.listExtendWith (.ref S) (.ref it) .none) _ _ s
  refine wpAny_bind ?_
  unfold Builtin.List.listItems
  refine wpAny_bind (wpAny_seqItems hS rfl (wpAny_pure ?_))
  show wpAny _ _ (updateSeq S (fun _ => #[]) >>= fun _ => letGo (#[] : Array Value).toList.reverse >>= fun _ => Builtin.List.listExtendWith (.ref S) (.ref it) .none) _ _ s
  refine wpAny_bind (wpAny_updateSeq hS rfl ?_)
  have hS₂ := Heap.get?_update_self (Obj.mapSeq (fun _ => (#[] : Array Value))) hS rfl
  have oth : ∀ b o, b ≠ S → s.heap.get? b = some o → (s.heap.update S (Obj.mapSeq (fun _ => (#[] : Array Value)))).get? b = some o :=
    fun b o hb e => (Heap.get?_update_other _ _ (Ne.symm hb)).trans e
  refine wpAny_bind (wpAny_letGo ?_)
  have hit1 : IsRs (s.heap.update S (Obj.mapSeq (fun _ => (#[] : Array Value)))) it x t ((x.length : Int) - 1) := hit.at fun o e => oth it o (Ne.symm hSi) e
  have W := (walk_rs (prog := prog) (w := w) (A := A.in1) hh it x t hn).toS
  have hSf : S ∉ [it] := by simp only [List.mem_cons, List.not_mem_nil, or_false]; exact hSi
  have hT : ({ s with heap := s.heap.update S (Obj.mapSeq (fun _ => (#[] : Array Value))) } : Shared).TypeIs (.ref it) "reversed" := IsRs.typeIs (s := { s with heap := s.heap.update S (Obj.mapSeq (fun _ => (#[] : Array Value))) }) hit1
  have h1 : Builtin.List.listSameRef (.ref S) (.ref it) = false := by simp [Builtin.List.listSameRef, hSi]
  unfold Builtin.List.listExtendWith
  refine wpAny_bind (wpAny_typeOf hT ?_)
  rw [if_neg (by rw [h1]; decide)]
  refine wpAny_bind (iter_rs (s := { s with heap := s.heap.update S (Obj.mapSeq (fun _ => (#[] : Array Value))) }) hit1 ?_)
  refine wpAny_bind (wpAny_holding (room_rs (s := { s with heap := s.heap.update S (Obj.mapSeq (fun _ => (#[] : Array Value))) }) hit1 hn ?_))
  have e0 : ((x.length : Nat) : Int) - 1 - ((0 : Nat) : Int) = (x.length : Int) - 1 := by omega
  have fin : ∀ (h2 : Heap) (tk c : Nat), (∀ b o, b ≠ S → s.heap.get? b = some o → h2.get? b = some o) → h2.get? S = some { cls := .type "list", dict := none, data := .seq #[] c, slots := #[] } →
      wpAny (model prog w) A.in1 (again (.builtin "list.extend.loop" ⟨[.ref S, .ref it, .none], []⟩)) (fun fin s' => match fin with | .done f => R (.ok f) s' | .again c' => c'.quiet = true ∧ codeAny (model prog w) A c' R s') (fun e s' => R (.error e) s') { s with heap := h2, toks := tk } := fun h2 tk c hk2 hS' => by
    have hit2 : IsRs h2 it x t ((x.length : Int) - 1) := hit.at fun o e => hk2 it o (Ne.symm hSi) e
    refine wpAny_pure ⟨plainId_quiet F.plain_extend_loop _, codeAny_extend_loopS W hn S hSf .none x.length 0 _ #[] _ rfl (Nat.zero_le _) ⟨Nat.zero_le _, by rw [e0]; exact hit2⟩ hS' (ItemsOf.nil _) fun s' acc' c' hm hS' hacc => ?_⟩
    rw [Moved.eq_with hm]
    refine hR s'.heap s'.toks acc' c' (fun b o hb hb2 e => hm.heap b o (fun hmem => ?_) (hk2 b o hb e)) hS' hacc
    rcases List.mem_cons.mp hmem with e' | hmem
    · exact hb e'
    · exact hb2 (List.mem_singleton.mp hmem)
  show wpAny _ _ (ite _ _ _) _ _ _
  split
  · refine wpAny_bind (wpAny_rule ?_)
    refine wpAny_bind ?_
    show wpAny _ _ (updateSeq S (fun a => a.push Value.none) >>= fun _ => updateSeq S (fun a => a.pop)) _ _ _
    refine wpAny_bind (wpAny_updateSeq hS₂ rfl ?_)
    have hS₃ := Heap.get?_update_self (Obj.mapSeq (fun a : Array Value => a.push Value.none)) hS₂ rfl
    refine wpAny_updateSeq hS₃ rfl ?_
    have hS₄ := Heap.get?_update_self (Obj.mapSeq (fun a : Array Value => a.pop)) hS₃ rfl
    exact fin _ _ _ (fun b o hb e => (Heap.get?_update_other _ _ (Ne.symm hb)).trans ((Heap.get?_update_other _ _ (Ne.symm hb)).trans (oth b o hb e))) hS₄
  · exact fin _ _ _ oth hS₂
theorem call_list_rs {Q : Value → Shared → Prop} {it : Addr} (hh : A.handled = none) (hit : IsRs s.heap it x t ((x.length : Int) - 1)) (hn : x.length ≤ sizeLine)
    (hQ : ∀ h' tk acc' c', (∀ b o, b ≠ it → s.heap.get? b = some o → h'.get? b = some o) →
      h'.get? s.heap.objs.size = some { cls := .type "list", dict := none, data := .seq acc' c', slots := #[] } → ItemsOf (fun i v => ∃ c tk, x.cps[x.length - 1 - i]? = some c ∧ v = .str ⟨#[c]⟩ tk) acc' x.length → Q (.ref s.heap.objs.size) { s with heap := h', toks := tk }) :
    wpAny (model prog w) A (call (.type "list") [.ref it]) Q E s := by
  refine callType_codes (Q₁ := fun obj s₁ => obj = .ref s.heap.objs.size ∧ s₁ = { s with heap := s.heap.push { cls := .type "list", data := .seq #[] } }) F.called_list (F.typeCall_list_1 _) F.entry_list_init
    (code_list_new _ ⟨rfl, rfl⟩) fun obj s₁ h₁ => ?_
  obtain ⟨rfl, rfl⟩ := h₁
  have hS : (s.heap.push { cls := .type "list", data := .seq #[] }).get? s.heap.objs.size = some { cls := .type "list", data := .seq #[] } := Heap.get?_push_size _ rfl
  obtain ⟨oi, hoi, _⟩ := id hit
  refine ⟨⟨_, hS, rfl⟩, F.args_list_init_2 _ _, init_rs (A := A.in1) hh (hit.at fun o e => Heap.get?_push_of_some _ e) hn (Nat.ne_of_gt (Heap.lt_size hoi)) hS fun h' tk acc' c' hk hS' hacc => ?_⟩
  exact ⟨rfl, hQ h' tk acc' c' (fun b o hb e => hk b o (Nat.ne_of_lt (Heap.lt_size e)) hb (Heap.get?_push_of_some _ e)) hS' hacc⟩
def revS (x : Str) : List Str := x.cps.toList.reverse.map fun c => ⟨#[c]⟩
theorem vals_rs {acc : Array Value} (h : ItemsOf (fun i v => ∃ c tk, x.cps[x.length - 1 - i]? = some c ∧ v = .str ⟨#[c]⟩ tk) acc x.length) : Vals ((revS x).map V.str) acc.toList := by
  have hl : acc.toList.length = x.length := by rw [Array.length_toList, h.1]
  have go : ∀ (l : List Value) (m : List Str), l.length = m.length → (∀ (j : Nat) (v : Value) (y : Str), l[j]? = some v → m[j]? = some y → ∃ tk, v = Value.str y tk) → Vals (m.map V.str) l := by
    intro l
    induction l with
    | nil => intro m hm _; cases m with | nil => exact .nil | cons => simp at hm
    | cons v l ih =>
      intro m hm hk
      cases m with
      | nil => simp at hm
      | cons y m =>
        obtain ⟨tk, rfl⟩ := hk 0 v y rfl rfl
        exact .cons ⟨tk, rfl⟩ (ih m (by simpa using hm) fun j v y e1 e2 => hk (j + 1) v y (by simpa using e1) (by simpa using e2))
  have hxl : x.cps.toList.length = x.length := by simp [Str.length]
  refine go _ _ (by rw [hl]; unfold revS; rw [List.length_map, List.length_reverse, hxl]) fun j v y e1 e2 => ?_
  have hj : j < x.length := by
    have := (List.getElem?_eq_some_iff.mp e1).1
    omega
  obtain ⟨c, tk, e3, rfl⟩ := h.2 j v (by rw [← Array.getElem?_toList]; exact e1)
  unfold revS at e2
  rw [List.getElem?_map, List.getElem?_reverse (by omega), hxl, Array.getElem?_toList, e3] at e2
  cases e2
  exact ⟨tk, rfl⟩
end
end RS
namespace Ev
open PySem PySem.Spec L2
open PyProof.Rows hiding St
section
variable {X : Cx} {e : Expr} {es : List Expr} {ga : EvA} {pos : Pos} {t : TA}
theorem pe_lstRs {p p2 pos2 : Pos} (hc : X.calm = true) (hg : Gl X "list") (hm : X.mg "list" = none) (hg2 : Gl X "reversed") (hm2 : X.mg "reversed" = none) (ha : PA X (e :: es) t)
    (he : starEach (e :: es) X.env = (false, eval e X.env) :: starEach es X.env := by rfl) (hpl : (backTo pos2 (starEach es X.env)).any (·.1) = false := by rfl)
    (hs2 : starEach [.Call (.Name "reversed" p2) (e :: es) [] pos2] X.env = (false, eval (.Call (.Name "reversed" p2) (e :: es) [] pos2) X.env) :: starEach [] X.env := by rfl) :
    PE X (.Call (.Name "list" p) [.Call (.Name "reversed" p2) (e :: es) [] pos2] [] pos) (fun σ H Q => t σ H fun vs H1 => ∃ x : Str, vs = [.str x] ∧ x.length ≤ sizeLine ∧ ∀ q, H1 q = none → Q (.ref q) (upd H1 q (.lst ((RS.revS x).map V.str)))) := by
  refine ⟨fun pins s σ H Q I h => ?_⟩
  refine Call_ (ld_blt I hg hm boot_list (PyProof.Rows.callWith_type1 (args_cons (Call_ (ld_blt I hg2 hm2 PyProof.Rows.boot_reversed (PyProof.Rows.callWith_type1 (thn (ha.run pos2 pins s σ H _ I h) fun us s1 ⟨vs, H1, I1, r1, q1⟩ => ?_) he hpl))) hs2) hs2 rfl))
  obtain ⟨x, ev, hz, q⟩ := q1
  subst ev
  obtain ⟨u, rfl, tx, rfl⟩ := vals1 r1
  refine RS.call_reversed_str hz (args_nil ?_)
  have k0 : ∀ b o, s1.heap.get? b = some o → (s1.heap.push (RS.rsObj x tx ((x.length : Int) - 1))).get? b = some o := fun b o e => Heap.get?_push_of_some _ e
  have hsz : (s1.heap.push (RS.rsObj x tx ((x.length : Int) - 1))).objs.size = s1.heap.objs.size + 1 := Heap.size_push _ _
  have fr : H1 (s1.heap.objs.size + 1) = none := I1.hok.fresh (by omega)
  refine RS.call_list_rs (s := { s1 with heap := s1.heap.push (RS.rsObj x tx ((x.length : Int) - 1)), toks := s1.toks + 1 + 1 }) (x := x) (t := tx) (I1.ok.hd hc) ⟨_, Heap.get?_push_size _ rfl, rfl, rfl⟩ hz fun h' tk acc c' hk e' hi => ?_
  have e' : h'.get? ((s1.heap.push (RS.rsObj x tx ((x.length : Int) - 1))).objs.size) = some { cls := .type "list", dict := none, data := .seq acc c', slots := #[] } := e'
  show EP X pins σ Q (.ref ((s1.heap.push (RS.rsObj x tx ((x.length : Int) - 1))).objs.size)) _
  rw [hsz] at e' ⊢
  have hk1 : ∀ b o, s1.heap.get? b = some o → h'.get? b = some o := fun b o e => hk b o (Nat.ne_of_lt (Heap.lt_size e)) (k0 b o e)
  have hl : ((RS.revS x).map V.str).length ≤ sizeLine := by
    unfold RS.revS
    rw [List.length_map, List.length_map, List.length_reverse]
    have : x.cps.toList.length = x.length := by simp [Str.length]
    omega
  refine ⟨.ref (s1.heap.objs.size + 1), upd H1 (s1.heap.objs.size + 1) (.lst ((RS.revS x).map V.str)), I1.laid (t' := tk) hk1 (by omega) (show ObjOk X.prog X.w _ _ _ (.lst ((RS.revS x).map V.str)) from ⟨hl, acc.toList, c', RS.vals_rs hi, ?_⟩), rfl, q _ fr⟩
  rw [Array.toArray_toList]
  exact e'
def bLstRevS : List D → Option Ret
  | [.str x] => if x.length ≤ 1000000 then some (.lst ((RS.revS x).map D.str), .top) else none
  | _ => none
theorem e_lstRevS {p p2 pos2 : Pos} (hc : X.calm = true) (hm : X.mg "list" = none) (hm2 : X.mg "reversed" = none) (ha : PAv X (e :: es) ga) (hg : Gl X "list" := by rfl) (hg2 : Gl X "reversed" := by rfl)
    (he : starEach (e :: es) X.env = (false, eval e X.env) :: starEach es X.env := by rfl) (hpl : (backTo pos2 (starEach es X.env)).any (·.1) = false := by rfl)
    (hs2 : starEach [.Call (.Name "reversed" p2) (e :: es) [] pos2] X.env = (false, eval (.Call (.Name "reversed" p2) (e :: es) [] pos2) X.env) :: starEach [] X.env := by rfl) :
    PEv X (.Call (.Name "list" p) [.Call (.Name "reversed" p2) (e :: es) [] pos2] [] pos) (eBi bLstRevS ga) := by
  refine imp_e (pe_lstRs hc hg hm hg2 hm2 ha he hpl hs2) fun σ H Q h => ?_
  refine bi_read (r := fun vs H1 Q => ∃ x : Str, vs = [.str x] ∧ x.length ≤ sizeLine ∧ ∀ q, H1 q = none → Q (.ref q) (upd H1 q (.lst ((RS.revS x).map V.str)))) (fun S H vs ds z Q r e q => ?_) h
  unfold bLstRevS at e
  split at e
  · rename_i x
    split at e
    · rename_i hl
      cases e
      obtain ⟨v, rfl, r1⟩ := r.inv1
      obtain ⟨rfl, _⟩ := r1.str_inv
      exact ⟨x, rfl, mil hl, q.lst (rps_strs _)⟩
    · cases e
  · cases e
end
end Ev
set_option Elab.async false
set_option linter.all false
set_option maxRecDepth 100000
namespace Tg
open PySem PySem.Spec L2 Ev
open PyProof.Rows hiding St
@[reducible] def letB {α β : Type} (x : α) (k : α → β) : β := k x
@[reducible] def bindO {α β : Type} (o : Option α) (k : α → Option β) : Option β := o.bind k
theorem bindO_some {α β : Type} {o : Option α} {k : α → Option β} {y : β} (h : bindO o k = some y) : ∃ x, o = some x ∧ k x = some y := bind_some h
def forS {α σ : Type} : List α → σ → (α → σ → Option σ) → Option σ
  | [], s, _ => some s
  | x :: xs, s, f => bindO (f x s) fun s' => forS xs s' f
def big {α : Type} (xs : List α) : Option (List α) := if xs.length ≤ 1000000 then some xs else none
def appO {α : Type} (xs : List α) (x : α) : Option (List α) := if xs.length ≤ 1000000 then some (xs ++ [x]) else none
def catO {α : Type} (xs ys : List α) : Option (List α) := if xs.length + ys.length ≤ 1000000 then some (xs ++ ys) else none
def idx {α : Type} (xs : List α) (i : Int) : Option α := atI xs i
def lcM {α β : Type} (xs : List α) (p : α → Option Bool) (f : α → Option β) : Option (List β) := match xs with
  | [] => some []
  | x :: r => bindO (p x) fun k => if k = true then bindO (f x) fun y => (lcM r p f).map (y :: ·) else lcM r p f
def divO (i j : Int) : Option Int := if 0 < j ∧ j.natAbs.log2 < 9000 then some (i / j) else none
def modO (i j : Int) : Option Int := if 0 < j then some (i % j) else none
def mulO (i j : Int) : Option Int := if ((-(2 ^ 64) < i ∧ i < 2 ^ 64) ∨ (-(2 ^ 64) < j ∧ j < 2 ^ 64)) ∨ Builtin.Int.intBits i + Builtin.Int.intBits j ≤ 134217728 then some (i * j) else none
def rngO (i j : Int) : Option (List Int) := if -(2 ^ 62) ≤ i ∧ i < 2 ^ 62 ∧ -(2 ^ 62) ≤ j ∧ j < 2 ^ 62 then some ((List.range (j - i).toNat).map fun (k : Nat) => i + (k : Int)) else none
def aget {κ α : Type} [DecidableEq κ] (m : List (κ × α)) (k : κ) : Option α := (m.find? fun p => decide (p.1 = k)).map (·.2)
def ahas {κ α : Type} [DecidableEq κ] (m : List (κ × α)) (k : κ) : Bool := m.any fun p => decide (p.1 = k)
def aput {κ α : Type} [DecidableEq κ] (m : List (κ × α)) (k : κ) (v : α) : List (κ × α) := if ahas m k = true then m.map (fun p => if p.1 = k then (p.1, v) else p) else m ++ [(k, v)]
def aputO {κ α : Type} [DecidableEq κ] (m : List (κ × α)) (k : κ) (v : α) : Option (List (κ × α)) := if m.length < 1000000 then some (aput m k v) else none
abbrev dI : Int → D := D.int
abbrev dB : Bool → D := D.bl
section
variable {α β γ δ ε κ : Type}
abbrev dL (e : α → D) (xs : List α) : D := .lst (xs.map e)
abbrev dF (e : α → D) (xs : List α) : D := .fl (xs.map e)
abbrev dT2 (e : α → D) (f : β → D) (p : α × β) : D := .tup [e p.1, f p.2]
abbrev dT3 (e : α → D) (f : β → D) (g : γ → D) (p : α × β × γ) : D := .tup [e p.1, f p.2.1, g p.2.2]
abbrev dKT (e : α → D) (m : List ((Int × Int) × α)) : D := .dt (m.map fun p => ([.inl p.1.1, .inl p.1.2], e p.2))
end
inductive Md where
  | s | a | t | f | p (k : Nat)
structure Cl where
  d : D
  m : Md
  al : Bool
def Md.ok : Md → Sv → Prop
  | .s, x => x.l = .shr
  | .a, _ => True
  | .t, x => x.l ≠ .shr
  | .f, x => x.l = .full
  | .p k, x => x.l = .full ∧ x.pn = some k
structure Cl.ok (c : Cl) (s : Sv) : Prop where
  d : s.d = c.d
  m : imm c.d = false → c.m.ok s
  al : imm c.d = false → s.al = true → c.al = true
abbrev CS := List (Option Cl)
structure Rel (ρ : Ev.Env) (cs : CS) : Prop where
  len : ρ.length = cs.length
  at_ : ∀ (i : Nat) (c : Cl), cs[i]? = some (some c) → ∃ s, ρ[i]? = some (some s) ∧ c.ok s
def nthC : CS → Nat → Option Cl
  | [], _ => none
  | c :: _, 0 => c
  | _ :: cs, i + 1 => nthC cs i
theorem nthC_at : ∀ {cs : CS} {i : Nat} {c : Cl}, nthC cs i = some c → cs[i]? = some (some c)
  | [], _, _, h => by cases h
  | x :: _, 0, _, h => by simp only [nthC] at h; rw [h]; rfl
  | _ :: cs, i + 1, c, h => by simpa using nthC_at (cs := cs) (i := i) h
theorem Rel.nthC {ρ : Ev.Env} {cs : CS} (r : Rel ρ cs) {i : Nat} {c : Cl} (h : nthC cs i = some c) : ∃ s, ρ[i]? = some (some s) ∧ c.ok s := r.at_ i c (nthC_at h)
def put : CS → Nat → Cl → CS
  | [], _, _ => []
  | _ :: cs, 0, c => some c :: cs
  | x :: cs, i + 1, c => x :: put cs i c
theorem put_set : ∀ (cs : CS) (i : Nat) (c : Cl), put cs i c = cs.set i (some c)
  | [], _, _ => rfl
  | _ :: cs, 0, _ => rfl
  | x :: cs, i + 1, c => by show x :: put cs i c = _; rw [put_set cs i c]; rfl
theorem Rel.put {ρ : Ev.Env} {cs : CS} (r : Rel ρ cs) {i : Nat} {c : Cl} {s : Sv} (h : c.ok s) : Rel (ρ.set i (some s)) (put cs i c) where
  len := by rw [put_set, List.length_set, List.length_set, r.len]
  at_ := fun j c' e => by
    rw [put_set, List.getElem?_set] at e
    rw [List.getElem?_set]
    by_cases q : i = j
    · subst q
      rw [if_pos rfl] at e
      rw [if_pos rfl]
      split at e
      · rename_i hl
        cases e
        rw [if_pos (by rw [r.len]; exact hl)]
        exact ⟨s, rfl, h⟩
      · cases e
    · rw [if_neg q] at e
      rw [if_neg q]
      exact r.at_ j c' e
def leM : Md → Md → Bool
  | .s, .s => true | .f, .f => true | .f, .t => true | .t, .t => true | _, .a => true
  | .p _, .f => true | .p _, .t => true | .p k, .p j => decide (k = j) | _, _ => false
theorem leM_ok {m n : Md} (h : leM m n = true) {x : Sv} (k : m.ok x) : n.ok x := by
  cases m <;> cases n <;> first
    | exact k
    | trivial
    | (cases h; done)
    | (simp only [Md.ok] at k ⊢; rw [k]; decide)
    | exact k.1
    | (show x.l ≠ .shr; rw [k.1]; decide)
    | (have e := of_decide_eq_true h; subst e; exact k)
inductive Le : CS → CS → Prop
  | nil : Le [] []
  | no {x : Option Cl} {cs es : CS} : Le cs es → Le (x :: cs) (none :: es)
  | so {d : D} {m n : Md} {a b : Bool} {cs es : CS} : leM m n = true → (!a || b) = true → Le cs es → Le (some ⟨d, m, a⟩ :: cs) (some ⟨d, n, b⟩ :: es)
theorem Le.rel : ∀ {cs es : CS} {ρ : Ev.Env}, Le cs es → Rel ρ cs → Rel ρ es
  | _, _, _, .nil, r => r
  | _, _, [], .no h, r => by have := r.len; simp at this
  | _, _, [], .so h _ _, r => by have := r.len; simp at this
  | _, _, x :: ρ, .no (cs := cs) (es := es) h, r => by
    have q : Rel ρ es := h.rel ⟨by simpa using r.len, fun i c e => by simpa using r.at_ (i + 1) c (by simpa using e)⟩
    exact ⟨by simp [q.len], fun i c e => by
      cases i with
      | zero => simp at e
      | succ i => simpa using q.at_ i c (by simpa using e)⟩
  | _, _, x :: ρ, .so (d := d) (m := m) (n := n) (a := a) (b := b) (cs := cs) (es := es) h1 h2 h, r => by
    have q : Rel ρ es := h.rel ⟨by simpa using r.len, fun i c e => by simpa using r.at_ (i + 1) c (by simpa using e)⟩
    exact ⟨by simp [q.len], fun i c e => by
      cases i with
      | zero =>
        simp at e
        subst e
        obtain ⟨s, e1, k⟩ := r.at_ 0 ⟨d, m, a⟩ (by simp)
        refine ⟨s, e1, k.d, fun z => leM_ok h1 (k.m z), fun z w => ?_⟩
        have := k.al z w
        simp only at this
        subst this
        simpa using h2
      | succ i => simpa using q.at_ i c (by simpa using e)⟩
def fzC : CS → Nat → CS
  | [], _ => []
  | x :: cs, 0 => x.map (fun c => ⟨c.d, .s, c.al⟩) :: cs
  | x :: cs, i + 1 => x :: fzC cs i
def fzsC : List Nat → CS → CS
  | [], cs => cs
  | i :: is, cs => fzsC is (fzC cs i)
theorem fzC_get : ∀ (cs : CS) (i j : Nat) (c : Cl), (fzC cs i)[j]? = some (some c) → (j ≠ i ∧ cs[j]? = some (some c)) ∨ (j = i ∧ ∃ c0, cs[j]? = some (some c0) ∧ c = ⟨c0.d, .s, c0.al⟩)
  | [], _, _, _, h => by simp [fzC] at h
  | x :: cs, 0, 0, c, h => by
    cases x with
    | none => simp [fzC] at h
    | some c0 => simp [fzC] at h; exact .inr ⟨rfl, c0, rfl, h.symm⟩
  | x :: cs, 0, j + 1, c, h => .inl ⟨by omega, by simpa [fzC] using h⟩
  | x :: cs, i + 1, 0, c, h => .inl ⟨by omega, by simpa [fzC] using h⟩
  | x :: cs, i + 1, j + 1, c, h => by
    rcases fzC_get cs i j c (by simpa [fzC] using h) with ⟨h1, h2⟩ | ⟨h1, c0, h2, h3⟩
    · exact .inl ⟨by omega, by simpa using h2⟩
    · exact .inr ⟨by omega, c0, by simpa using h2, h3⟩
theorem fzC_len : ∀ (cs : CS) (i : Nat), (fzC cs i).length = cs.length
  | [], _ => rfl
  | x :: cs, 0 => rfl
  | x :: cs, i + 1 => by show (fzC cs i).length + 1 = _; rw [fzC_len cs i]; rfl
theorem frz_get (ρ : Ev.Env) (i j : Nat) : (frz i ρ)[j]? = if j = i then (ρ[j]?).map (fun x => x.map fun s => ⟨s.d, .shr, s.al, none⟩) else ρ[j]? := by
  unfold frz
  by_cases h : j = i
  · subst h
    rw [if_pos rfl]
    cases e : ρ[j]? with
    | none => simp [e]
    | some x =>
      cases x with
      | none => simp [e]
      | some s =>
        have := (List.getElem?_eq_some_iff.mp e).1
        simp [this]
  · rw [if_neg h]
    split
    · rw [List.getElem?_set_ne (fun z => h z.symm)]
    · rfl
theorem frz_len (ρ : Ev.Env) (i : Nat) : (frz i ρ).length = ρ.length := by
  unfold frz
  split <;> simp
theorem Rel.fz {ρ : Ev.Env} {cs : CS} (r : Rel ρ cs) (i : Nat) : Rel (frz i ρ) (fzC cs i) where
  len := by rw [frz_len, fzC_len, r.len]
  at_ := fun j c e => by
    rw [frz_get]
    rcases fzC_get cs i j c e with ⟨h1, h2⟩ | ⟨h1, c0, h2, rfl⟩
    · rw [if_neg h1]
      exact r.at_ j c h2
    · rw [if_pos h1]
      obtain ⟨s, e1, k⟩ := r.at_ j c0 h2
      rw [e1]
      exact ⟨_, rfl, k.d, fun _ => rfl, k.al⟩
theorem Rel.fzs : ∀ (is : List Nat) {ρ : Ev.Env} {cs : CS}, Rel ρ cs → Rel (frzs is ρ) (fzsC is cs)
  | [], _, _, r => r
  | i :: is, _, _, r => Rel.fzs is (r.fz i)
def leL : Lv → Lv → Bool
  | .shr, _ => true | .top, .top => true | .top, .full => true | .full, .full => true | _, _ => false
structure ROk (r : Rv) (d : D) (l : Lv) (al vw : Bool) : Prop where
  d : r.d = d
  l : leL l r.l = true
  al : r.al = true → al = true
  vw : r.vw = true → vw = true
def JE (cs : CS) (f : EvE) (d : D) (l : Lv) (al vw : Bool) : Prop := ∀ ρ, Rel ρ cs → ∃ r, f ρ = some r ∧ ROk r d l al vw
abbrev JI (cs : CS) (f : EvE) (d : D) : Prop := JE cs f d .full false false
def JEo {α : Type} (cs : CS) (f : EvE) (e : α → D) (o : Option α) (l : Lv) (al vw : Bool) : Prop := ∀ x, o = some x → JE cs f (e x) l al vw
def JT (cs : CS) (f : EvT) (b : Bool) : Prop := ∀ ρ, Rel ρ cs → f ρ = some b
def JTo (cs : CS) (f : EvT) (o : Option Bool) : Prop := ∀ b, o = some b → JT cs f b
structure AOk (rs : List Rv) (ds : List D) (fl al vw : Bool) : Prop where
  d : rs.map (·.d) = ds
  fl : fl = true → ∀ r ∈ rs, r.l = .full
  al : ∀ r ∈ rs, r.al = true → al = true
  vw : ∀ r ∈ rs, r.vw = true → vw = true
def JA (cs : CS) (g : EvA) (ds : List D) (fl al vw : Bool) : Prop := ∀ ρ, Rel ρ cs → ∃ rs, g ρ = some rs ∧ AOk rs ds fl al vw
def JIt {α : Type} (cs : CS) (it : EvI) (xs : List α) (e : α → D) (al : Bool) : Prop := ∀ ρ, Rel ρ cs → ∃ a, (a = true → al = true) ∧ it ρ = some (xs.map fun x => (e x, a))
def JS {T : Type} (cs : CS) (b : EvS) (o : Option T) (Ψ : T → Out → Prop) : Prop := ∀ ρ, Rel ρ cs → ∀ t, o = some t → ∃ out, b ρ = some out ∧ Ψ t out
def ΨR {R : Type} (e : R → D) (l : Lv) (a : Bool) (P : R → Ev.Env → Prop := fun _ _ => True) (r : R) : Out → Prop
  | .rt ρ d l' a' => d = e r ∧ leL l l' = true ∧ (a' = true → a = true) ∧ P r ρ
  | _ => False
def ΨJ {σ : Type} (C : σ → CS) (s : σ) : Out → Prop
  | .nx ρ => Rel ρ (C s)
  | _ => False
def ΨL {σ : Type} (C : σ → CS) (s : σ) : Out → Prop
  | .nx ρ => Rel ρ (C s)
  | .ct ρ => Rel ρ (C s)
  | _ => False
end Tg
set_option Elab.async false
set_option linter.all false
set_option maxRecDepth 100000
namespace Tg
open PySem PySem.Spec L2 Ev
open PyProof.Rows hiding St
theorem ROk.i (d : D) : ROk (rA d) d .full false false := ⟨rfl, rfl, fun h => h, fun h => h⟩
theorem leL_shr (l : Lv) : leL .shr l = true := by cases l <;> rfl
theorem leL_full {l : Lv} (h : leL .full l = true) : l = .full := by cases l <;> first | rfl | cases h
theorem leL_trans {a b c : Lv} (h : leL a b = true) (h2 : leL b c = true) : leL a c = true := by cases a <;> cases b <;> cases c <;> first | rfl | (cases h; done) | (cases h2; done)
section
variable {cs : CS} {f g : EvE} {ga : EvA} {t t2 : EvT} {i j : Int} {d d2 : D} {l l2 : Lv} {a a2 v v2 : Bool} {α β γ δ ε : Type} {e : α → D} {e2 : β → D}
theorem JE.w (h : JE cs f d l a v) (hl : leL l2 l = true := by rfl) (ha : (!a || a2) = true := by rfl) (hv : (!v || v2) = true := by rfl) : JE cs f d l2 a2 v2 := fun ρ r => by
  obtain ⟨x, e, k⟩ := h ρ r
  refine ⟨x, e, k.d, leL_trans hl k.l, fun z => ?_, fun z => ?_⟩
  · have := k.al z; subst this; simpa using ha
  · have := k.vw z; subst this; simpa using hv
theorem JE.cast (h : JE cs f d l a v) (e : d = d2) : JE cs f d2 l a v := e ▸ h
theorem jn_i {i : Nat} {d : D} {m : Md} {al : Bool} (h : nthC cs i = some ⟨d, m, al⟩) (hi : imm d = true) : JI cs (eName i) d := fun ρ r => by
  obtain ⟨s, e, k⟩ := r.nthC h
  refine ⟨rA d, ?_, .i _⟩
  have hd : s.d = d := k.d
  unfold eName
  rw [e]
  simp only [hd, hi, if_true]
theorem jn_s {i : Nat} {d : D} {al : Bool} (h : nthC cs i = some ⟨d, .s, al⟩) : JE cs (eName i) d .shr al false := fun ρ r => by
  obtain ⟨s, e, k⟩ := r.nthC h
  unfold eName
  rw [e]
  by_cases hi : imm s.d = true
  · exact ⟨rA s.d, by simp only [hi, if_true], k.d, rfl, fun h => (nomatch h), fun h => nomatch h⟩
  · refine ⟨_, by simp only [hi]; rfl, k.d, rfl, ?_, ?_⟩
    · exact k.al (by rw [← k.d]; simpa using hi)
    · intro z
      have := k.m (by rw [← k.d]; simpa using hi)
      have : s.l = .shr := this
      simp [this] at z
theorem jn_v {i : Nat} {d : D} {m : Md} {al : Bool} (h : nthC cs i = some ⟨d, m, al⟩) : JE cs (eName i) d .shr al true := fun ρ r => by
  obtain ⟨s, e, k⟩ := r.nthC h
  unfold eName
  rw [e]
  by_cases hi : imm s.d = true
  · exact ⟨rA s.d, by simp only [hi, if_true], k.d, rfl, fun h => (nomatch h), fun h => rfl⟩
  · refine ⟨_, by simp only [hi]; rfl, k.d, rfl, ?_, fun _ => rfl⟩
    exact k.al (by rw [← k.d]; simpa using hi)
theorem jc : JI cs (eC d) d := fun ρ r => ⟨rA d, rfl, .i d⟩
theorem je_op {C : Int → Int → Bool} {G : Int → Int → D} (h1 : JE cs f (.int i) l a v) (h2 : JE cs g (.int j) l2 a2 v2) (hc : C i j = true) : JI cs (eOp C G f g) (G i j) := fun ρ r => by
  obtain ⟨x, e1, k1⟩ := h1 ρ r
  obtain ⟨y, e2, k2⟩ := h2 ρ r
  refine ⟨rA (G i j), ?_, .i _⟩
  unfold eOp
  rw [e1, e2]
  simp only [Option.bind_some, k1.d, k2.d, hc, if_true]
theorem je_add (h1 : JE cs f (.int i) l a v) (h2 : JE cs g (.int j) l2 a2 v2) : JI cs (ePlus f g) (.int (i + j)) := fun ρ r => by
  obtain ⟨x, e, k⟩ := je_op (C := cT) (G := fun i j => .int (i + j)) h1 h2 rfl ρ r
  refine ⟨x, ?_, k⟩
  have e' : eAdd f g ρ = some x := e
  unfold ePlus
  rw [e']
  rfl
theorem je_sub (h1 : JE cs f (.int i) l a v) (h2 : JE cs g (.int j) l2 a2 v2) : JI cs (eSub f g) (.int (i - j)) := je_op (C := cT) (G := fun i j => .int (i - j)) h1 h2 rfl
theorem je_mulO {k : Int} (h1 : JE cs f (.int i) l a v) (h2 : JE cs g (.int j) l2 a2 v2) (h : mulO i j = some k) : JI cs (eMul f g) (.int k) := by
  unfold mulO at h
  split at h
  · cases h
    exact je_op (G := fun i j => .int (i * j)) h1 h2 (decide_eq_true ‹_›)
  · cases h
theorem je_mulL (h1 : JE cs f (.int i) l a v) (h2 : JE cs g (.int j) l2 a2 v2) (h : decide (-(2 ^ 64) < i ∧ i < 2 ^ 64) = true := by decide) : JI cs (eMul f g) (.int (i * j)) := je_mulO h1 h2 (by unfold mulO; rw [if_pos (.inl (.inl (of_decide_eq_true h)))])
theorem je_divO {k : Int} (h1 : JE cs f (.int i) l a v) (h2 : JE cs g (.int j) l2 a2 v2) (h : divO i j = some k) : JI cs (eDiv f g) (.int k) := by
  unfold divO at h
  split at h
  · cases h
    exact je_op (G := fun i j => .int (i / j)) h1 h2 (decide_eq_true ‹_›)
  · cases h
theorem je_divL (h1 : JE cs f (.int i) l a v) (h2 : JE cs g (.int j) l2 a2 v2) (h : decide (0 < j ∧ j.natAbs.log2 < 9000) = true := by decide +kernel) : JI cs (eDiv f g) (.int (i / j)) := je_divO h1 h2 (by unfold divO; rw [if_pos (of_decide_eq_true h)])
theorem je_modO {k : Int} (h1 : JE cs f (.int i) l a v) (h2 : JE cs g (.int j) l2 a2 v2) (h : modO i j = some k) : JI cs (eMod f g) (.int k) := by
  unfold modO at h
  split at h
  · cases h
    exact je_op (G := fun i j => .int (i % j)) h1 h2 (decide_eq_true ‹_›)
  · cases h
theorem je_modP (h1 : JE cs f (.int i) l a v) (h2 : JE cs g (.int j) l2 a2 v2) (h : 0 < j) : JI cs (eMod f g) (.int (i % j)) := je_modO h1 h2 (by unfold modO; rw [if_pos h])
theorem je_modL (h1 : JE cs f (.int i) l a v) (h2 : JE cs g (.int j) l2 a2 v2) (h : decide (0 < j) = true := by decide) : JI cs (eMod f g) (.int (i % j)) := je_modP h1 h2 (of_decide_eq_true h)
theorem je_powL (h1 : JE cs f (.int i) l a v) (h2 : JE cs g (.int j) l2 a2 v2) {k : Int} (hk : i ^ j.toNat = k := by decide) (h : decide (0 ≤ j ∧ j ≤ 1000000 ∧ i.natAbs < 2 ^ 64) = true := by decide) : JI cs (ePow f g) (.int k) := by
  subst hk
  exact je_op (G := fun i j => .int (i ^ j.toNat)) h1 h2 h
def maxI (i j : Int) : Int := if j > i then j else i
def minI (i j : Int) : Int := if j < i then j else i
theorem je_cmp {G : D → D → Option Bool} {b : Bool} (h1 : JE cs f d l a v) (h2 : JE cs g d2 l2 a2 v2) (h : G d d2 = some b) : JI cs (eCmp G f g) (.bl b) := fun ρ r => by
  obtain ⟨x, e1, k1⟩ := h1 ρ r
  obtain ⟨y, e2, k2⟩ := h2 ρ r
  refine ⟨rA (.bl b), ?_, .i _⟩
  unfold eCmp
  rw [e1, e2]
  simp only [Option.bind_some, k1.d, k2.d, h]
  rfl
theorem jt_cmp {G : D → D → Option Bool} {b : Bool} (h1 : JE cs f d l a v) (h2 : JE cs g d2 l2 a2 v2) (h : G d d2 = some b) : JT cs (tCmp G f g) b := fun ρ r => by
  obtain ⟨x, e1, k1⟩ := h1 ρ r
  obtain ⟨y, e2, k2⟩ := h2 ρ r
  unfold Ev.tCmp
  rw [e1, e2]
  simp only [Option.bind_some, k1.d, k2.d, h]
theorem q_ltI : gLt (.int i) (.int j) = some (decide (i < j)) := rfl
theorem q_leI : gLe (.int i) (.int j) = some (decide (i ≤ j)) := rfl
theorem q_gtI : gGt (.int i) (.int j) = some (decide (i > j)) := rfl
theorem q_geI : gGe (.int i) (.int j) = some (decide (i ≥ j)) := rfl
def ltP3 (p q : Int × Int × Int) : Bool := HT.lexLt [p.1, p.2.1, p.2.2] [q.1, q.2.1, q.2.2]
structure EqOk (n : Nat) (e : α → D) [DecidableEq α] : Prop where
  shp : ∀ x m, n ≤ m → shp m (e x) = true
  eq : ∀ x y, deq (e x) (e y) = decide (x = y)
theorem ek_int : EqOk 0 dI := ⟨fun x m _ => by simp [Ev.shp], fun x y => deq_int x y⟩
theorem shps_map {n : Nat} (h : ∀ x, shp n (e x) = true) : ∀ xs : List α, shps n (xs.map e) = true
  | [] => rfl
  | x :: xs => by rw [List.map_cons, shps, h, shps_map h xs]; rfl
theorem eqvAll_map [DecidableEq α] (h : ∀ x y, deq (e x) (e y) = decide (x = y)) : ∀ xs ys : List α, PyData.eqvAll (pds (xs.map e)) (pds (ys.map e)) = decide (xs = ys)
  | [], [] => by simp [pds, PyData.eqvAll]
  | [], _ :: _ => by simp [pds, PyData.eqvAll]
  | _ :: _, [] => by simp [pds, PyData.eqvAll]
  | x :: xs, y :: ys => by
    have hh := h x y
    unfold deq at hh
    simp only [List.map_cons, pds, PyData.eqvAll, eqvAll_map h xs ys, hh]
    by_cases q : x = y <;> simp [q]
theorem ek_list [DecidableEq α] {n : Nat} (h : EqOk n e) : EqOk (n + 1) (dL e) := ⟨fun x m hm => by
    obtain ⟨k, rfl⟩ : ∃ k, m = k + 1 := ⟨m - 1, by omega⟩
    simp only [Ev.shp]
    exact shps_map (fun y => h.shp y k (by omega)) x, fun x y => by
    unfold deq
    simp only [pd, PyData.eqv]
    exact eqvAll_map h.eq x y⟩
theorem ek_t2 [DecidableEq α] [DecidableEq β] {n m : Nat} (h : EqOk n e) (h2 : EqOk m e2) : EqOk (max n m + 1) (dT2 e e2) := ⟨fun x k hk => by
    obtain ⟨k, rfl⟩ : ∃ j, k = j + 1 := ⟨k - 1, by omega⟩
    simp only [Ev.shp, shps]
    rw [h.shp _ k (by omega), h2.shp _ k (by omega)]
    rfl, fun x y => by
    have q1 := h.eq x.1 y.1
    have q2 := h2.eq x.2 y.2
    unfold deq at q1 q2 ⊢
    simp only [pd, pds, PyData.eqv, PyData.eqvAll, q1, q2]
    obtain ⟨x1, x2⟩ := x
    obtain ⟨y1, y2⟩ := y
    by_cases z1 : x1 = y1 <;> by_cases z2 : x2 = y2 <;> simp [z1, z2]⟩
theorem ek_t3 [DecidableEq α] [DecidableEq β] [DecidableEq γ] {e3 : γ → D} {n m k : Nat} (h : EqOk n e) (h2 : EqOk m e2) (h3 : EqOk k e3) : EqOk (max n (max m k) + 1) (dT3 e e2 e3) := ⟨fun x j hj => by
    obtain ⟨j, rfl⟩ : ∃ i, j = i + 1 := ⟨j - 1, by omega⟩
    simp only [Ev.shp, shps]
    rw [h.shp _ j (by omega), h2.shp _ j (by omega), h3.shp _ j (by omega)]
    rfl, fun x y => by
    have q1 := h.eq x.1 y.1
    have q2 := h2.eq x.2.1 y.2.1
    have q3 := h3.eq x.2.2 y.2.2
    unfold deq at q1 q2 q3 ⊢
    simp only [pd, pds, PyData.eqv, PyData.eqvAll, q1, q2, q3]
    obtain ⟨x1, x2, x3⟩ := x
    obtain ⟨y1, y2, y3⟩ := y
    by_cases z1 : x1 = y1 <;> by_cases z2 : x2 = y2 <;> by_cases z3 : x3 = y3 <;> simp [z1, z2, z3]⟩
theorem q_eq [DecidableEq α] {n : Nat} (h : EqOk n e) (x y : α) [Decidable (x = y)] (hn : decide (n ≤ 8) = true := by decide) : gEq (e x) (e y) = some (decide (x = y)) := by
  unfold gEq
  rw [h.shp x 8 (of_decide_eq_true hn), h.shp y 8 (of_decide_eq_true hn), h.eq]
  simp only [Bool.and_self, if_true]
  congr 1
  first | exact decide_eq_decide.mpr Iff.rfl | exact congrArg _ (decide_eq_decide.mpr Iff.rfl)
theorem q_ne [DecidableEq α] {n : Nat} (h : EqOk n e) (x y : α) [Decidable (x = y)] (hn : decide (n ≤ 8) = true := by decide) : gNe (e x) (e y) = some (!decide (x = y)) := by
  unfold gNe
  rw [h.shp x 8 (of_decide_eq_true hn), h.shp y 8 (of_decide_eq_true hn), h.eq]
  simp only [Bool.and_self, if_true]
  congr 1
  first | exact decide_eq_decide.mpr Iff.rfl | exact congrArg _ (decide_eq_decide.mpr Iff.rfl)
theorem any_map_mem' [DecidableEq α] (h : ∀ x y, deq (e x) (e y) = decide (x = y)) (x : α) : ∀ xs : List α, ((xs.map e).any fun z => deq z (e x)) = decide (x ∈ xs)
  | [] => by simp
  | y :: ys => by
    rw [List.map_cons, List.any_cons, any_map_mem' h x ys, h]
    by_cases q : y = x
    · simp [q]
    · simp [q]; exact fun z => absurd z.symm q
theorem any_map_mem [DecidableEq α] (h : ∀ x y, deq (e x) (e y) = decide (x = y)) (x : α) (xs : List α) [Decidable (x ∈ xs)] : ((xs.map e).any fun z => deq z (e x)) = decide (x ∈ xs) := by
  rw [any_map_mem' h x xs]
  exact decide_eq_decide.mpr Iff.rfl
theorem or_none_l {γ : Type} (x : Option γ) : (none : Option γ).or x = x := by cases x <;> rfl
theorem gInL_l (n : Bool) (d : D) (ds : List D) : gInL n d (.lst ds) = if (shp 8 d && shps 7 ds) = true then some (n != (ds.any fun z => deq z d)) else none := by cases d <;> rfl
theorem q_inL [DecidableEq α] {n : Nat} (h : EqOk n e) (x : α) (xs : List α) [Decidable (x ∈ xs)] (hn : decide (n ≤ 7) = true := by decide) : gIn (e x) (dL e xs) = some (decide (x ∈ xs)) := by
  have hn := of_decide_eq_true hn
  show (gInL false (e x) (.lst (xs.map e))).or _ = _
  rw [gInL_l, h.shp x 8 (by omega), shps_map (fun y => h.shp y 7 hn), any_map_mem h.eq]
  cases decide (x ∈ xs) <;> rfl
theorem q_ninL [DecidableEq α] {n : Nat} (h : EqOk n e) (x : α) (xs : List α) [Decidable (x ∈ xs)] (hn : decide (n ≤ 7) = true := by decide) : gNin (e x) (dL e xs) = some (!decide (x ∈ xs)) := by
  have hn := of_decide_eq_true hn
  show (gInL true (e x) (.lst (xs.map e))).or _ = _
  rw [gInL_l, h.shp x 8 (by omega), shps_map (fun y => h.shp y 7 hn), any_map_mem h.eq]
  cases decide (x ∈ xs) <;> rfl
theorem dhas_KT (m : List ((Int × Int) × α)) (k : Int × Int) : dhas (m.map fun p => (([.inl p.1.1, .inl p.1.2] : List Key), e p.2)) [.inl k.1, .inl k.2] = ahas m k := by
  unfold dhas ahas
  rw [List.any_map]
  congr 1
  funext p
  obtain ⟨⟨x, y⟩, z⟩ := p
  obtain ⟨k1, k2⟩ := k
  simp only [Function.comp]
  by_cases h : x = k1 <;> by_cases h2 : y = k2 <;> simp [h, h2]
theorem q_inKT (m : List ((Int × Int) × α)) (k : Int × Int) : gIn (dT2 dI dI k) (dKT e m) = some (ahas m k) := by
  show some (false != dhas _ _) = _
  rw [dhas_KT]
  cases ahas m k <;> rfl
theorem jt_val {b : Bool} (h : JE cs f (.bl b) l a v) : JT cs (tVal f) b := fun ρ r => by
  obtain ⟨x, e1, k1⟩ := h ρ r
  unfold tVal
  rw [e1]
  simp only [Option.bind_some, k1.d]
theorem jt_and {b c : Bool} (h : JT cs t b) (h2 : JT cs t2 c) : JT cs (tAnd t t2) (b && c) := fun ρ r => by
  unfold Ev.tAnd
  rw [h ρ r]
  cases b with
  | true => exact h2 ρ r
  | false => rfl
theorem jt_or {b c : Bool} (h : JT cs t b) (h2 : JT cs t2 c) : JT cs (tOr t t2) (b || c) := fun ρ r => by
  unfold Ev.tOr
  rw [h ρ r]
  cases b with
  | false => exact h2 ρ r
  | true => rfl
theorem jt_not {b : Bool} (h : JT cs t b) : JT cs (tNot t) (!b) := fun ρ r => by
  unfold Ev.tNot
  rw [h ρ r]
  rfl
theorem jt_andO {b c : Bool} {o : Option Bool} (h : JT cs t b) (h2 : JTo cs t2 o) (hc : (if b = true then o else some false) = some c) : JT cs (tAnd t t2) c := fun ρ r => by
  unfold Ev.tAnd
  rw [h ρ r]
  cases b with
  | true => exact h2 c hc ρ r
  | false => cases hc; rfl
theorem jt_orO {b c : Bool} {o : Option Bool} (h : JT cs t b) (h2 : JTo cs t2 o) (hc : (if b = true then some true else o) = some c) : JT cs (tOr t t2) c := fun ρ r => by
  unfold Ev.tOr
  rw [h ρ r]
  cases b with
  | false => exact h2 c hc ρ r
  | true => cases hc; rfl
theorem jto_p {b : Bool} (h : JT cs t b) : JTo cs t (some b) := fun c e => by cases e; exact h
theorem jto_b {k : α → Option Bool} {o : Option α} (h : ∀ x, o = some x → JTo cs t (k x)) : JTo cs t (bindO o k) := fun c e => by
  obtain ⟨x, e1, e2⟩ := bindO_some e
  exact h x e1 c e2
theorem jeo_p {x : α} (h : JE cs f (e x) l a v) : JEo cs f e (some x) l a v := fun c q => by cases q; exact h
theorem jeo_b {k : β → Option α} {o : Option β} (h : ∀ x, o = some x → JEo cs f e (k x) l a v) : JEo cs f e (bindO o k) l a v := fun c q => by
  obtain ⟨x, e1, e2⟩ := bindO_some q
  exact h x e1 c e2
theorem je_not {b : Bool} (h : JE cs f (.bl b) l a v) : JI cs (eNot f) (.bl !b) := fun ρ r => by
  obtain ⟨x, e1, k1⟩ := h ρ r
  refine ⟨rA (.bl !b), ?_, .i _⟩
  unfold eNot
  rw [e1]
  simp only [Option.bind_some, k1.d]
theorem je_andO {b c : Bool} {o : Option Bool} (h : JE cs f (.bl b) l a v) (h2 : JEo cs g dB o .full false false) (hc : (if b = true then o else some false) = some c) : JI cs (eAnd f g) (.bl c) := fun ρ r => by
  obtain ⟨x, e1, k1⟩ := h ρ r
  unfold eAnd
  rw [e1]
  simp only [Option.bind_some, k1.d]
  cases b with
  | true => exact h2 c hc ρ r
  | false => cases hc; exact ⟨_, rfl, .i _⟩
theorem je_orO {b c : Bool} {o : Option Bool} (h : JE cs f (.bl b) l a v) (h2 : JEo cs g dB o .full false false) (hc : (if b = true then some true else o) = some c) : JI cs (eOr f g) (.bl c) := fun ρ r => by
  obtain ⟨x, e1, k1⟩ := h ρ r
  unfold eOr
  rw [e1]
  simp only [Option.bind_some, k1.d]
  cases b with
  | false => exact h2 c hc ρ r
  | true => cases hc; exact ⟨_, rfl, .i _⟩
theorem je_and {b c : Bool} (h : JE cs f (.bl b) l a v) (h2 : JI cs g (.bl c)) : JI cs (eAnd f g) (.bl (b && c)) := je_andO (o := some c) h (jeo_p (e := dB) h2) (by cases b <;> rfl)
theorem je_or {b c : Bool} (h : JE cs f (.bl b) l a v) (h2 : JI cs g (.bl c)) : JI cs (eOr f g) (.bl (b || c)) := je_orO (o := some c) h (jeo_p (e := dB) h2) (by cases b <;> rfl)
theorem ja_nil : JA cs aNil [] true false false := fun ρ r => ⟨[], rfl, rfl, fun _ _ h => (nomatch h), fun _ h => (nomatch h), fun _ h => nomatch h⟩
def isFull : Lv → Bool
  | .full => true
  | _ => false
theorem ja_cons {ds : List D} {fl al vw : Bool} (h : JE cs f d l a v) (h2 : JA cs ga ds fl al vw) : JA cs (aCons f ga) (d :: ds) (isFull l && fl) (a || al) (v || vw) := fun ρ r => by
  obtain ⟨x, e1, k1⟩ := h ρ r
  obtain ⟨rs, e2, k2⟩ := h2 ρ r
  refine ⟨x :: rs, ?_, ?_, ?_, ?_, ?_⟩
  · unfold aCons
    rw [e1, e2]
    rfl
  · rw [List.map_cons, k1.d, k2.d]
  · intro z y hy
    rw [Bool.and_eq_true] at z
    rcases List.mem_cons.mp hy with rfl | hy
    · have hl : l = .full := by cases l <;> first | rfl | (cases z.1; done)
      subst hl
      exact leL_full k1.l
    · exact k2.fl z.2 y hy
  · intro y hy z
    rcases List.mem_cons.mp hy with rfl | hy
    · rw [k1.al z]; rfl
    · rw [k2.al y hy z]; cases a <;> rfl
  · intro y hy z
    rcases List.mem_cons.mp hy with rfl | hy
    · rw [k1.vw z]; rfl
    · rw [k2.vw y hy z]; cases v <;> rfl
theorem AOk.nvw {rs : List Rv} {ds : List D} {fl al : Bool} (k : AOk rs ds fl al false) : rs.all (fun r => !r.vw) = true := List.all_eq_true.mpr fun y hy => by
  cases z : y.vw with
  | false => rfl
  | true => exact nomatch k.vw y hy z
theorem AOk.anyal {rs : List Rv} {ds : List D} {fl al vw : Bool} (k : AOk rs ds fl al vw) (h : rs.any (·.al) = true) : al = true := by
  obtain ⟨y, hy, z⟩ := List.any_eq_true.mp h
  exact k.al y hy z
theorem AOk.anyvw {rs : List Rv} {ds : List D} {fl al vw : Bool} (k : AOk rs ds fl al vw) (h : rs.any (·.vw) = true) : vw = true := by
  obtain ⟨y, hy, z⟩ := List.any_eq_true.mp h
  exact k.vw y hy z
theorem AOk.allfull {rs : List Rv} {ds : List D} {al : Bool} (k : AOk rs ds true al false) : rs.all (fun r => !r.vw && decide (r.l = .full)) = true := List.all_eq_true.mpr fun y hy => by
  rw [k.fl rfl y hy]
  have := List.all_eq_true.mp k.nvw y hy
  simp [this]
theorem je_tup {ds : List D} {fl al : Bool} (h : JA cs ga ds fl al false) (hl : decide (ds.length ≤ 1000) = true := by rfl) : JE cs (eTup ga) (.tup ds) (if fl = true then .full else .shr) al false := fun ρ r => by
  obtain ⟨rs, e2, k⟩ := h ρ r
  have hlen : rs.length ≤ 1000 := by rw [← List.length_map (f := fun r : Rv => r.d), k.d]; exact of_decide_eq_true hl
  unfold eTup mkTup
  rw [e2]
  simp only [Option.bind_some]
  rw [if_pos (by rw [k.nvw, decide_eq_true hlen]; rfl)]
  cases fl with
  | true => rw [if_pos k.allfull]; exact ⟨_, rfl, by rw [k.d], rfl, k.anyal, fun h => nomatch h⟩
  | false =>
    split
    · exact ⟨_, rfl, by rw [k.d], rfl, k.anyal, fun h => nomatch h⟩
    · exact ⟨_, rfl, by rw [k.d], rfl, k.anyal, fun h => nomatch h⟩
theorem je_lst {ds : List D} {fl al : Bool} (h : JA cs ga ds fl al false) (hl : decide (ds.length ≤ 1000) = true := by rfl) : JE cs (eLst ga) (.lst ds) (if fl = true then .full else .top) al false := fun ρ r => by
  obtain ⟨rs, e2, k⟩ := h ρ r
  have hlen : rs.length ≤ 1000 := by rw [← List.length_map (f := fun r : Rv => r.d), k.d]; exact of_decide_eq_true hl
  unfold eLst mkLst
  rw [e2]
  simp only [Option.bind_some]
  rw [if_pos (by rw [k.nvw, decide_eq_true hlen]; rfl)]
  cases fl with
  | true => rw [if_pos k.allfull]; exact ⟨_, rfl, by rw [k.d], rfl, k.anyal, fun h => nomatch h⟩
  | false =>
    split
    · exact ⟨_, rfl, by rw [k.d], rfl, k.anyal, fun h => nomatch h⟩
    · exact ⟨_, rfl, by rw [k.d], rfl, k.anyal, fun h => nomatch h⟩
theorem je_dt : JI cs eDt (.dt []) := fun ρ r => ⟨_, rfl, rfl, rfl, fun h => (nomatch h), fun h => nomatch h⟩
theorem part_ok {x : Rv} (k : ROk x d l a v) (d' : D) : ROk (part x d') d' (if imm d' = true then .full else .shr) a v := by
  unfold Ev.part
  by_cases hi : imm d' = true
  · rw [if_pos hi, if_pos hi]
    exact ⟨rfl, rfl, fun h => (nomatch h), fun h => nomatch h⟩
  · rw [if_neg hi, if_neg hi]
    exact ⟨rfl, rfl, k.al, k.vw⟩
theorem part_okI {x : Rv} {d' : D} (h : imm d' = true) : ROk (part x d') d' .full false false := by
  unfold Ev.part
  rw [if_pos h]
  exact .i d'
theorem je_ix {d' : D} (h1 : JE cs f d l a v) (h2 : JE cs g d2 l2 a2 v2) (h : gIx d d2 = some d') : JE cs (eIx f g) d' .shr a v := fun ρ r => by
  obtain ⟨x, e1, k1⟩ := h1 ρ r
  obtain ⟨y, e2, k2⟩ := h2 ρ r
  refine ⟨part x d', ?_, ?_⟩
  · unfold eIx
    rw [e1, e2]
    simp only [Option.bind_some, k1.d, k2.d, h, Option.map_some]
  · have := part_ok k1 d'
    exact ⟨this.d, leL_shr _, this.al, this.vw⟩
theorem je_ixI {d' : D} (h1 : JE cs f d l a v) (h2 : JE cs g d2 l2 a2 v2) (h : gIx d d2 = some d') (hi : imm d' = true) : JI cs (eIx f g) d' := fun ρ r => by
  obtain ⟨x, e1, k1⟩ := h1 ρ r
  obtain ⟨y, e2, k2⟩ := h2 ρ r
  refine ⟨part x d', ?_, part_okI hi⟩
  unfold eIx
  rw [e1, e2]
  simp only [Option.bind_some, k1.d, k2.d, h, Option.map_some]
theorem atI_map {xs : List α} {y : α} (h : idx xs i = some y) : atI (xs.map e) i = some (e y) := by
  unfold idx atI at h
  unfold atI
  rw [List.length_map]
  obtain ⟨j, e1, e2⟩ := bind_some h
  rw [e1]
  simp only [Option.bind_some, List.getElem?_map, e2, Option.map_some]
theorem x_l {xs : List α} {y : α} (h : idx xs i = some y) : gIx (dL e xs) (.int i) = some (e y) := atI_map h
theorem x_f {xs : List α} {y : α} (h : idx xs i = some y) : gIx (dF e xs) (.int i) = some (e y) := atI_map h
theorem je_len {n : Nat} (h : JE cs f d l a v) (hn : lenOf d = some n) : JI cs (eLen (aCons f aNil)) (.int n) := fun ρ r => by
  obtain ⟨x, e1, k1⟩ := h ρ r
  refine ⟨rI n, ?_, .i _⟩
  unfold eLen aCons aNil
  simp only [e1, Option.bind_some, k1.d, hn, Option.map_some]
  rfl
theorem n_l (xs : List α) : lenOf (dL e xs) = some xs.length := by show some _ = _; rw [List.length_map]
theorem n_f (xs : List α) : lenOf (dF e xs) = some xs.length := by show some _ = _; rw [List.length_map]
def JO (cs : CS) (f : EvO) (o : Option Int) : Prop := ∀ ρ, Rel ρ cs → f ρ = some o
theorem jo_n : JO cs oNone none := fun ρ r => rfl
theorem jo_s (h : JE cs f (.int i) l a v) : JO cs (oSome f) (some i) := fun ρ r => by
  obtain ⟨x, e1, k1⟩ := h ρ r
  unfold oSome
  rw [e1]
  simp only [Option.bind_some, k1.d, intOf, Option.map_some]
theorem cutL_map (xs : List α) (lo hi : Option Int) : cutL (xs.map e) lo hi = (cutL xs lo hi).map e := by
  unfold cutL
  rw [List.length_map, List.map_take, List.map_drop]
theorem je_slI {f1 f2 : EvO} {lo hi : Option Int} {d' : D} {l' : Lv} (h : JE cs f d l a v) (h1 : JO cs f1 lo) (h2 : JO cs f2 hi) (hz : cutD d lo hi = some (d', l')) (hi' : imm d' = true ∨ whole d' = true ∧ l' = .top) : JI cs (eSl f f1 f2) d' := fun ρ r => by
  obtain ⟨x, e1, k1⟩ := h ρ r
  refine ⟨res x.al x.vw (d', l'), ?_, ?_⟩
  · unfold eSl
    rw [e1]
    simp only [Option.bind_some, h1 ρ r, h2 ρ r, k1.d, hz, Option.map_some]
  · unfold res
    by_cases q : imm d' = true
    · rw [if_pos q]; exact .i _
    · rw [if_neg q]
      rcases hi' with hi' | ⟨h3, h4⟩
      · exact absurd hi' q
      · rw [if_pos (by rw [h3, h4]; rfl)]
        exact ⟨rfl, rfl, fun h => (nomatch h), fun h => nomatch h⟩
theorem immAll_map (h : ∀ x, imm (e x) = true) : ∀ xs : List α, immAll (xs.map e) = true
  | [] => rfl
  | x :: xs => by rw [List.map_cons, immAll, h, immAll_map h xs]; rfl
theorem je_slFI {f1 f2 : EvO} {lo hi : Option Int} {xs : List α} (h : JE cs f (dF e xs) l a v) (h1 : JO cs f1 lo) (h2 : JO cs f2 hi) (hi' : ∀ x, imm (e x) = true) : JI cs (eSl f f1 f2) (dL e (cutL xs lo hi)) :=
  JE.cast (je_slI h h1 h2 rfl (.inr ⟨by rw [cutL_map]; exact immAll_map hi' _, rfl⟩)) (by rw [cutL_map])
theorem catO_len {xs ys zs : List α} (h : catO xs ys = some zs) : xs.length + ys.length ≤ 1000000 ∧ zs = xs ++ ys := by
  unfold catO at h
  split at h
  · cases h; exact ⟨‹_›, rfl⟩
  · cases h
theorem je_catI {xs ys zs : List α} (h : JE cs f (dL e xs) l a v) (h2 : JE cs g (dL e ys) l2 a2 v2) (hz : catO xs ys = some zs) (hi' : ∀ x, imm (e x) = true) : JI cs (ePlus f g) (dL e zs) := fun ρ r => by
  obtain ⟨x, e1, k1⟩ := h ρ r
  obtain ⟨y, e2, k2⟩ := h2 ρ r
  obtain ⟨hl, rfl⟩ := catO_len hz
  refine ⟨⟨.lst (xs.map e ++ ys.map e), .full, false, false⟩, ?_, ?_⟩
  · unfold ePlus eCat eAdd eOp
    rw [e1, e2]
    simp only [Option.bind_some, k1.d, k2.d, List.length_map]
    rw [if_pos hl]
    unfold res
    rw [if_neg (fun z => nomatch z), if_pos]
    · rfl
    · show (immAll _ && _) = true
      rw [← List.map_append, immAll_map hi']
      rfl
  · exact ⟨by simp, rfl, fun h => (nomatch h), fun h => nomatch h⟩
theorem res_I {al vw : Bool} {d' : D} {l' : Lv} (hi : imm d' = true ∨ whole d' = true ∧ l' = .top) : ROk (res al vw (d', l')) d' .full false false := by
  unfold res
  by_cases q : imm d' = true
  · rw [if_pos q]; exact .i _
  · rw [if_neg q]
    rcases hi with hi | ⟨h3, h4⟩
    · exact absurd hi q
    · rw [if_pos (by rw [h3, h4]; rfl)]
      exact ⟨rfl, rfl, fun h => (nomatch h), fun h => nomatch h⟩
theorem je_biI {G : List D → Option Ret} {ds : List D} {fl al vw : Bool} {l' : Lv} {d' : D} (h : JA cs ga ds fl al vw) (hz : G ds = some (d', l')) (hi : imm d' = true ∨ whole d' = true ∧ l' = .top) : JI cs (eBi G ga) d' := fun ρ r => by
  obtain ⟨rs, e2, k⟩ := h ρ r
  refine ⟨res (rs.any (·.al)) (rs.any (·.vw)) (d', l'), ?_, res_I hi⟩
  unfold eBi
  rw [e2]
  simp only [Option.bind_some, k.d, hz, Option.map_some]
theorem whole_map {xs : List α} (h : ∀ x, imm (e x) = true) : whole (dL e xs) = true := immAll_map h xs
theorem b_min : bMin2 [.int i, .int j] = some (.int (minI i j), .full) := rfl
theorem b_max : bMax2 [.int i, .int j] = some (.int (maxI i j), .full) := rfl
theorem blsOf_map : ∀ xs : List Bool, blsOf (xs.map dB) = some xs
  | [] => rfl
  | x :: xs => by
    show (some x).bind (fun i => (blsOf (xs.map dB)).map (i :: ·)) = _
    rw [blsOf_map xs]
    rfl
theorem b_all (xs : List Bool) : bAll [dL dB xs] = some (.bl (xs.all id), .full) := by
  unfold bAll
  simp only [blsOf_map, Option.map_some]
theorem b_list (xs : List α) : bList [dL e xs] = some (dL e xs, .top) := rfl
theorem b_sortedI (xs : List Int) : bSorted [dL dI xs] = some (dL dI (sortI xs), .top) := bSorted_ints xs
theorem rowsOf_m {ro : α → List Int} (h : ∀ x, e x = dRow (ro x)) : ∀ xs : List α, rowsOfL (xs.map e) = some (xs.map ro)
  | [] => rfl
  | x :: xs => by
    rw [List.map_cons, rowsOfL, rowsOf_m h xs, h]
    unfold rowOfD dRow
    simp only [intsOf_map, Option.bind_some, Option.map_some, List.map_cons]
theorem b_sortedR {ro : α → List Int} {n : Nat} (h : ∀ x, e x = dRow (ro x)) (hn : ∀ x, (ro x).length = n + 1) (xs : List α) : bSorted [dL e xs] = some (dL e (isort (fun x y => HT.lexLt (ro x) (ro y)) xs), .top) := by
  cases xs with
  | nil => rfl
  | cons x xs =>
    have h1 : bSortedI [dL e (x :: xs)] = none := by
      unfold bSortedI
      simp only [seqOf, Option.bind_some, List.map_cons]
      rw [h]
      rfl
    show (bSortedI _).or (bSortedR _) = _
    rw [h1, or_none_l]
    unfold bSortedR
    have hl : sameLen ((x :: xs).map ro) = true := by
      unfold sameLen
      rw [List.map_cons]
      simp [hn]
    simp only [seqOf, Option.bind_some, rowsOf_m h, hl, if_true]
    have : sortR ((x :: xs).map ro) = (isort (fun x y => HT.lexLt (ro x) (ro y)) (x :: xs)).map ro := isort_map _ _ _
    rw [this, List.map_map]
    have : dRow ∘ ro = e := by funext y; exact (h y).symm
    rw [this]
abbrev sort3 (xs : List (Int × Int × Int)) : List (Int × Int × Int) := isort ltP3 xs
theorem b_sorted3 (xs : List (Int × Int × Int)) : bSorted [dL (dT3 dI dI dI) xs] = some (dL (dT3 dI dI dI) (sort3 xs), .top) := b_sortedR (e := dT3 dI dI dI) (ro := fun p => [p.1, p.2.1, p.2.2]) (n := 2) (fun _ => rfl) (fun _ => rfl) xs
theorem je_mt {T : String} {G : D → List D → Option Ret} {ds : List D} {fl al vw : Bool} {l' : Lv} {d' : D} (h1 : JE cs f d l a v) (h : JA cs ga ds fl al vw) (hz : G d ds = some (d', l')) (hi : imm d' = true ∨ whole d' = true ∧ l' = .top) (hr : rcv T d = true := by rfl) : JI cs (eMt T G f ga) d' := fun ρ r => by
  obtain ⟨x, e1, k1⟩ := h1 ρ r
  obtain ⟨rs, e2, k⟩ := h ρ r
  refine ⟨res (x.al || rs.any (·.al)) (x.vw || rs.any (·.vw)) (d', l'), ?_, res_I hi⟩
  unfold eMt
  rw [e1]
  simp only [Option.bind_some, k1.d]
  rw [if_pos hr, e2]
  simp only [Option.bind_some, k.d, hz, Option.map_some]
def idxO [DecidableEq α] (xs : List α) (x : α) : Option Int := (xs.findIdx? fun z => decide (z = x)).map fun j => ((j : Nat) : Int)
theorem m_idx [DecidableEq α] {n : Nat} (h : EqOk n e) {xs : List α} {x : α} {k : Int} (hk : idxO xs x = some k) (hn : decide (n ≤ 7) = true := by decide) : mIndex (dL e xs) [e x] = some (.int k, .full) := by
  have hn := of_decide_eq_true hn
  unfold mIndex
  simp only
  rw [h.shp x 8 (by omega), shps_map (fun y => h.shp y 7 hn)]
  unfold idxO at hk
  rw [List.findIdx?_map]
  have : ((fun z => deq z (e x)) ∘ e) = fun z => decide (z = x) := by funext z; exact h.eq z x
  rw [this]
  obtain ⟨j, h1, h2⟩ := Option.map_eq_some_iff.mp hk
  rw [h1]
  subst h2
  rfl
def RetE (φ : List D → Option RetD) (ds : List D) (d : D) (l : Lv) (al : Bool) : Prop := ∃ l' a', φ ds = some (d, l', a') ∧ leL l l' = true ∧ (a' = true → al = true)
theorem mkR_ok {d : D} {l' : Lv} {a' al' vw' ral al vw : Bool} (hl : leL l l' = true) (ha : a' = true → ral = true) (h1 : al' = true → al = true) (h2 : vw' = true → vw = true) : ROk (mkR al' vw' (d, l', a')) d l (ral && al) (ral && vw) := by
  unfold mkR
  split
  · exact ⟨rfl, by cases l <;> rfl, fun h => (nomatch h), fun h => (nomatch h)⟩
  · split
    · rename_i h
      have h : a' = true := h
      refine ⟨rfl, hl, fun z => ?_, fun z => ?_⟩
      · rw [ha h, h1 z]; rfl
      · rw [ha h, h2 z]; rfl
    · exact ⟨rfl, hl, fun h => (nomatch h), fun h => (nomatch h)⟩
theorem mkR_okI {z : RetD} {al vw : Bool} (hi : imm z.1 = true) : ROk (mkR al vw z) z.1 .full false false := by
  unfold mkR
  rw [if_pos hi]
  exact .i _
theorem je_call {R : List D → Option RetD} {ds : List D} {fl al vw ral : Bool} (h : JA cs ga ds fl al vw) (hR : RetE R ds d l ral) : JE cs (eCall R ga) d l (ral && al) (ral && vw) := fun ρ r => by
  obtain ⟨rs, e2, k⟩ := h ρ r
  obtain ⟨l', a', e3, k3, k4⟩ := hR
  refine ⟨mkR (rs.any (·.al)) (rs.any (·.vw)) (d, l', a'), ?_, mkR_ok k3 k4 k.anyal k.anyvw⟩
  unfold eCall
  rw [e2]
  simp only [Option.bind_some, k.d, e3, Option.map_some]
theorem je_callI {R : List D → Option RetD} {ds : List D} {fl al vw ral : Bool} (h : JA cs ga ds fl al vw) (hR : RetE R ds d l ral) (hi : imm d = true) : JI cs (eCall R ga) d := fun ρ r => by
  obtain ⟨rs, e2, k⟩ := h ρ r
  obtain ⟨l', a', e3, k3, k4⟩ := hR
  refine ⟨mkR (rs.any (·.al)) (rs.any (·.vw)) (d, l', a'), ?_, mkR_okI (z := (d, l', a')) hi⟩
  unfold eCall
  rw [e2]
  simp only [Option.bind_some, k.d, e3, Option.map_some]
theorem je_meth {C : Addr} {m : Str} {R : List D → Option RetD} {fs : List (Str × D)} {ds : List D} {fl al vw ral : Bool} (h1 : JE cs f (.ins C fs) l2 a v) (hm : (fs.lookup m).isNone = true) (h : JA cs ga ds fl al vw) (hR : RetE R (.ins C fs :: ds) d l ral) : JE cs (eMeth C m R f ga) d l (ral && (a || al)) (ral && (v || vw)) := fun ρ r => by
  obtain ⟨x, e1, k1⟩ := h1 ρ r
  obtain ⟨rs, e2, k⟩ := h ρ r
  obtain ⟨l', a', e3, k3, k4⟩ := hR
  refine ⟨mkR (x.al || rs.any (·.al)) (x.vw || rs.any (·.vw)) (d, l', a'), ?_, mkR_ok k3 k4 (fun z => ?_) (fun z => ?_)⟩
  · unfold eMeth
    rw [e1]
    simp only [Option.bind_some, k1.d]
    rw [if_pos ⟨trivial, hm⟩, e2]
    simp only [Option.bind_some, k.d, e3, Option.map_some]
  · rcases Bool.or_eq_true _ _ ▸ z with z | z
    · rw [k1.al z]; rfl
    · rw [k.anyal z]; cases a <;> rfl
  · rcases Bool.or_eq_true _ _ ▸ z with z | z
    · rw [k1.vw z]; rfl
    · rw [k.anyvw z]; cases v <;> rfl
theorem je_methI {C : Addr} {m : Str} {R : List D → Option RetD} {fs : List (Str × D)} {ds : List D} {fl al vw ral : Bool} (h1 : JE cs f (.ins C fs) l2 a v) (hm : (fs.lookup m).isNone = true) (h : JA cs ga ds fl al vw) (hR : RetE R (.ins C fs :: ds) d l ral) (hi : imm d = true) : JI cs (eMeth C m R f ga) d := fun ρ r => by
  obtain ⟨x, e1, k1⟩ := h1 ρ r
  obtain ⟨rs, e2, k⟩ := h ρ r
  obtain ⟨l', a', e3, k3, k4⟩ := hR
  refine ⟨mkR (x.al || rs.any (·.al)) (x.vw || rs.any (·.vw)) (d, l', a'), ?_, mkR_okI (z := (d, l', a')) hi⟩
  unfold eMeth
  rw [e1]
  simp only [Option.bind_some, k1.d]
  rw [if_pos ⟨trivial, hm⟩, e2]
  simp only [Option.bind_some, k.d, e3, Option.map_some]
theorem je_new {C : Addr} {φ : List D → Option (List (Str × D))} {fs : List (Str × D)} {ds : List D} {fl al vw : Bool} (h : JA cs ga ds fl al vw) (hφ : φ ds = some fs) : JI cs (eNew C φ ga) (.ins C fs) := fun ρ r => by
  obtain ⟨rs, e2, k⟩ := h ρ r
  refine ⟨⟨.ins C fs, .full, false, false⟩, ?_, ⟨rfl, rfl, fun h => (nomatch h), fun h => (nomatch h)⟩⟩
  unfold eNew
  rw [e2]
  simp only [Option.bind_some, k.d, hφ, Option.map_some]
theorem je_atI {C : Addr} {m : Str} {fs : List (Str × D)} (h1 : JE cs f (.ins C fs) l a v) (hm : fs.lookup m = some d) (hi : imm d = true) : JI cs (eAt C m f) d := fun ρ r => by
  obtain ⟨x, e1, k1⟩ := h1 ρ r
  refine ⟨part x d, ?_, part_okI hi⟩
  unfold eAt
  rw [e1]
  simp only [Option.bind_some, k1.d]
  rw [if_pos trivial, hm]
  rfl
theorem je_atO {C dx : Addr} {m : Str} {fs : List (Str × D)} (h1 : JE cs f (.obj C dx fs) l a v) (hm : fs.lookup m = some d) : JE cs (eAtO C m f) d .shr a v := fun ρ r => by
  obtain ⟨x, e1, k1⟩ := h1 ρ r
  refine ⟨part x d, ?_, ?_⟩
  · unfold eAtO
    rw [e1]
    simp only [Option.bind_some, k1.d]
    rw [if_pos trivial, hm]
    rfl
  · have := part_ok k1 d
    exact ⟨this.d, leL_shr _, this.al, this.vw⟩
theorem je_isi {T : String} {tn : String} {b : Bool} (h1 : JE cs f d l a v) (h2 : tyN d = some tn) (h3 : kitB tn T = some b) : JI cs (eIsi T f) (.bl b) := fun ρ r => by
  obtain ⟨x, e1, k1⟩ := h1 ρ r
  refine ⟨rB b, ?_, .i _⟩
  unfold eIsi
  rw [e1]
  simp only [Option.bind_some, k1.d, h2, h3, Option.map_some]
end
end Tg
set_option Elab.async false
set_option linter.all false
set_option maxRecDepth 100000
namespace Tg
open PySem PySem.Spec L2 Ev
open PyProof.Rows hiding St
mutual
def tgC : Tg → D → Bool → CS → Option CS
  | .nm i, d, al, cs => if i < cs.length then some (put cs i ⟨d, .s, al⟩) else none
  | .tp ts, .tup ds, al, cs => if ts.length = ds.length then tgsC ts ds al cs else none
  | _, _, _, _ => none
def tgsC : List Tg → List D → Bool → CS → Option CS
  | [], [], _, cs => some cs
  | t :: ts, d :: ds, al, cs => (tgC t d al cs).bind (tgsC ts ds al)
  | _, _, _, _ => none
end
mutual
theorem tgC_ok : ∀ {t : Tg} {d : D} {al al' : Bool} {cs cs' : CS} {ρ : Ev.Env}, tgC t d al cs = some cs' → (al' = true → al = true) → Rel ρ cs → ∃ ρ', tgSet t d al' ρ = some ρ' ∧ Rel ρ' cs'
  | .nm i, d, al, al', cs, cs', ρ, h, ha, r => by
    simp only [tgC] at h
    split at h
    · rename_i hi
      cases h
      refine ⟨ρ.set i (some ⟨d, if imm d = true then .full else .shr, al', none⟩), ?_, r.put ⟨rfl, fun z => ?_, fun _ => ha⟩⟩
      · simp only [tgSet]
        rw [if_pos (by rw [r.len]; exact hi)]
      · simp only [z]
        rfl
    · cases h
  | .tp ts, d, al, al', cs, cs', ρ, h, ha, r => by
    cases d with
    | tup ds =>
      simp only [tgC] at h
      split at h
      · rename_i hl
        obtain ⟨ρ', e, r'⟩ := tgsC_ok h ha r
        exact ⟨ρ', by simp only [tgSet]; rw [if_pos hl]; exact e, r'⟩
      · cases h
    | _ => simp only [tgC] at h; cases h
theorem tgsC_ok : ∀ {ts : List Tg} {ds : List D} {al al' : Bool} {cs cs' : CS} {ρ : Ev.Env}, tgsC ts ds al cs = some cs' → (al' = true → al = true) → Rel ρ cs → ∃ ρ', tgsSet ts ds al' ρ = some ρ' ∧ Rel ρ' cs'
  | [], [], al, al', cs, cs', ρ, h, ha, r => by
    simp only [tgsC] at h
    cases h
    exact ⟨ρ, by simp only [tgsSet], r⟩
  | t :: ts, d :: ds, al, al', cs, cs', ρ, h, ha, r => by
    simp only [tgsC] at h
    obtain ⟨c1, h1, h2⟩ := bind_some h
    obtain ⟨ρ1, e1, r1⟩ := tgC_ok h1 ha r
    obtain ⟨ρ2, e2, r2⟩ := tgsC_ok h2 ha r1
    exact ⟨ρ2, by simp only [tgsSet]; rw [e1]; exact e2, r2⟩
  | [], _ :: _, al, al', cs, cs', ρ, h, ha, r => by simp only [tgsC] at h; cases h
  | _ :: _, [], al, al', cs, cs', ρ, h, ha, r => by simp only [tgsC] at h; cases h
end
def drop1 : CS → Nat → CS
  | [], _ => []
  | _ :: cs, 0 => none :: cs
  | x :: cs, i + 1 => x :: drop1 cs i
theorem drop1_set : ∀ (cs : CS) (i : Nat), drop1 cs i = cs.set i none
  | [], _ => rfl
  | _ :: cs, 0 => rfl
  | x :: cs, i + 1 => by show x :: drop1 cs i = _; rw [drop1_set cs i]; rfl
theorem Rel.drop1 {ρ : Ev.Env} {cs : CS} (r : Rel ρ cs) (i : Nat) : Rel (ρ.set i none) (drop1 cs i) where
  len := by rw [drop1_set, List.length_set, List.length_set, r.len]
  at_ := fun j c e => by
    rw [drop1_set, List.getElem?_set] at e
    rw [List.getElem?_set]
    by_cases q : i = j
    · subst q
      rw [if_pos rfl] at e
      split at e <;> cases e
    · rw [if_neg q] at e
      rw [if_neg q]
      exact r.at_ j c e
def wipeC : List Nat → CS → CS
  | [], cs => cs
  | i :: is, cs => drop1 (wipeC is cs) i
theorem Rel.wipe : ∀ (is : List Nat) {ρ : Ev.Env} {cs : CS}, Rel ρ cs → Rel (wipeE is ρ) (wipeC is cs)
  | [], _, _, r => r
  | i :: is, _, _, r => (Rel.wipe is r).drop1 i
section
variable {cs : CS} {f g : EvE} {ga : EvA} {t t2 : EvT} {i j : Int} {d d2 : D} {l l2 : Lv} {a a2 v v2 : Bool} {α β γ δ ε : Type} {e : α → D} {e2 : β → D}
theorem jit_l {xs : List α} (h : JE cs f (dL e xs) l a false) : JIt cs (iLst f) xs e a := fun ρ r => by
  obtain ⟨x, e1, k⟩ := h ρ r
  refine ⟨x.al, k.al, ?_⟩
  have hv : x.vw = false := by
    cases q : x.vw with
    | false => rfl
    | true => exact nomatch k.vw q
  unfold iLst
  rw [e1]
  simp only [Option.bind_some, hv, k.d, List.map_map]
  rfl
theorem rngO_some {i j : Int} {xs : List Int} (h : rngO i j = some xs) : (-(2 ^ 62) ≤ i ∧ i < 2 ^ 62 ∧ -(2 ^ 62) ≤ j ∧ j < 2 ^ 62) ∧ xs = (List.range (j - i).toNat).map fun (k : Nat) => i + (k : Int) := by
  unfold rngO at h
  split at h
  · cases h; exact ⟨‹_›, rfl⟩
  · cases h
theorem jit_r1 {xs : List Int} {j : Int} (h : JE cs f (.int j) l a v) (hx : rngO 0 j = some xs) : JIt cs (iRange (aCons f aNil)) xs dI false := fun ρ r => by
  obtain ⟨x, e1, k⟩ := h ρ r
  obtain ⟨hc, rfl⟩ := rngO_some hx
  refine ⟨false, fun z => z, ?_⟩
  unfold iRange aCons aNil
  simp only [e1, Option.bind_some, List.map_cons, List.map_nil, k.d]
  rw [if_pos ⟨hc.2.2.1, hc.2.2.2⟩]
  simp [iRng]
theorem lc_ok {tg : Tg} {c : EvT} {el : EvE} {p : α → Option Bool} {F : α → Option β} {B : α → CS} {cs0 : CS} (ht : ∀ x, tgC tg (e x) a cs0 = some (B x)) (hc : ∀ x, JTo (B x) c (p x)) (he : ∀ x, JEo (B x) el e2 (F x) l a2 false) {ρ : Ev.Env} (r : Rel ρ cs0) {a' : Bool} (ha : a' = true → a = true) :
    ∀ {xs : List α} {ys : List β}, lcM xs p F = some ys → ∃ rs, lcL tg c el ρ (xs.map fun x => (e x, a')) = some rs ∧ AOk rs (ys.map e2) (isFull l) a2 false ∧ rs.length = ys.length
  | [], ys, h => by
    cases h
    exact ⟨[], rfl, ⟨rfl, fun _ _ h => (nomatch h), fun _ h => (nomatch h), fun _ h => (nomatch h)⟩, rfl⟩
  | x :: xs, ys, h => by
    unfold lcM at h
    obtain ⟨k, e1, h⟩ := bindO_some h
    obtain ⟨ρ1, e3, r1⟩ := tgC_ok (ht x) ha r
    rw [List.map_cons]
    unfold lcL
    rw [e3]
    simp only [Option.bind_some, hc x k e1 ρ1 r1]
    cases k with
    | false =>
      obtain ⟨rs, h1, h2, h3⟩ := lc_ok ht hc he r ha (xs := xs) (ys := ys) h
      exact ⟨rs, h1, h2, h3⟩
    | true =>
      rw [if_pos rfl] at h
      obtain ⟨y, e4, h⟩ := bindO_some h
      obtain ⟨zs, e5, h⟩ := Option.map_eq_some_iff.mp h
      subst h
      obtain ⟨rs, h1, h2, h3⟩ := lc_ok ht hc he r ha (xs := xs) (ys := zs) e5
      obtain ⟨r0, e6, k0⟩ := he x y e4 ρ1 r1
      have hv : r0.vw = false := by
        cases q : r0.vw with
        | false => rfl
        | true => exact nomatch k0.vw q
      refine ⟨r0 :: rs, ?_, ⟨?_, ?_, ?_, ?_⟩, by simp [h3]⟩
      · simp only [if_true, e6, Option.bind_some, hv, h1]
        rfl
      · rw [List.map_cons, k0.d, h2.d]; rfl
      · intro z y hy
        rcases List.mem_cons.mp hy with rfl | hy
        · have hl : l = .full := by cases l <;> first | rfl | (cases z; done)
          subst hl
          exact leL_full k0.l
        · exact h2.fl z y hy
      · intro y hy z
        rcases List.mem_cons.mp hy with rfl | hy
        · exact k0.al z
        · exact h2.al y hy z
      · intro y hy z
        rcases List.mem_cons.mp hy with rfl | hy
        · exact k0.vw z
        · exact h2.vw y hy z
theorem big_some {xs ys : List α} (h : big xs = some ys) : xs.length ≤ 1000000 ∧ ys = xs := by
  unfold big at h
  split at h
  · cases h; exact ⟨‹_›, rfl⟩
  · cases h
theorem je_lcM {it : EvI} {vs : List Nat} {tg : Tg} {c : EvT} {el : EvE} {p : α → Option Bool} {F : α → Option β} {B : α → CS} {xs : List α} {ys : List β} (hit : JIt cs it xs e a) (ht : ∀ x, tgC tg (e x) a (wipeC vs cs) = some (B x)) (hc : ∀ x, JTo (B x) c (p x)) (he : ∀ x, JEo (B x) el e2 (F x) l a2 false) (h : bindO (lcM xs p F) big = some ys) : JE cs (eLc it vs tg c el) (dL e2 ys) (if isFull l = true then .full else .top) a2 false := fun ρ r => by
  obtain ⟨a', ha, e1⟩ := hit ρ r
  obtain ⟨zs, e3, e4⟩ := bindO_some h
  obtain ⟨hl, rfl⟩ := big_some e4
  obtain ⟨rs, h1, h2, h3⟩ := lc_ok ht hc he (r.wipe vs) ha e3
  unfold eLc
  rw [e1]
  simp only [Option.bind_some, h1]
  unfold mkBig
  rw [if_pos (by rw [h3]; exact hl)]
  by_cases q : isFull l = true
  · rw [if_pos q]
    rw [q] at h2
    rw [if_pos h2.allfull]
    exact ⟨_, rfl, by rw [h2.d], rfl, h2.anyal, fun h => (nomatch h)⟩
  · rw [if_neg q]
    split
    · exact ⟨_, rfl, by rw [h2.d], rfl, h2.anyal, fun h => (nomatch h)⟩
    · exact ⟨_, rfl, by rw [h2.d], rfl, h2.anyal, fun h => (nomatch h)⟩
theorem lcM_m {F : α → β} : ∀ xs : List α, lcM xs (fun _ => some true) (fun x => some (F x)) = some (xs.map F)
  | [] => rfl
  | x :: xs => by
    unfold lcM
    rw [lcM_m xs]
    simp [bindO]
theorem je_lcQ {it : EvI} {vs : List Nat} {tg : Tg} {el : EvE} {F : α → β} {B : α → CS} {xs : List α} {ys : List β} (hit : JIt cs it xs e a) (ht : ∀ x, tgC tg (e x) a (wipeC vs cs) = some (B x)) (he : ∀ x, JE (B x) el (e2 (F x)) l a2 false) (h : big (xs.map F) = some ys) : JE cs (eLc it vs tg tYes el) (dL e2 ys) (if isFull l = true then .full else .top) a2 false :=
  je_lcM (p := fun x => some true) (F := fun x => some (F x)) hit ht (fun x => jto_p (fun _ _ => rfl)) (fun x => jeo_p (he x)) (by rw [lcM_m]; exact h)
theorem jt_yes : JT cs tYes true := fun _ _ => rfl
end
section
variable {cs : CS} {f g : EvE} {ga : EvA} {t : EvT} {b b1 b2 b3 : EvS} {i : Nat} {d : D} {l l2 : Lv} {a a2 v v2 : Bool} {α β σ R T : Type} {e : α → D} {Ψ : T → Out → Prop} {o o1 o2 : Option T} {fz z : List Nat}
theorem js_last (h : JS cs (sSeq b sNil) o Ψ) : JS cs b o Ψ := fun ρ r t ht => by
  obtain ⟨out, e1, q⟩ := h ρ r t ht
  refine ⟨out, ?_, q⟩
  unfold sSeq sNil at e1
  obtain ⟨o', e2, e3⟩ := bind_some e1
  rw [e2]
  cases o' <;> exact e3
theorem js_assoc (h : JS cs (sSeq b1 (sSeq b2 b3)) o Ψ) : JS cs (sSeq (sSeq b1 b2) b3) o Ψ := fun ρ r t ht => by
  obtain ⟨out, e1, q⟩ := h ρ r t ht
  refine ⟨out, ?_, q⟩
  unfold sSeq at e1 ⊢
  obtain ⟨o', e2, e3⟩ := bind_some e1
  rw [e2]
  cases o' <;> exact e3
theorem js_nil (h : JS cs b o Ψ) : JS cs (sSeq sNil b) o Ψ := h
theorem js_bind {k : α → Option T} {x : Option α} (h : ∀ y, x = some y → JS cs b (k y) Ψ) : JS cs b (bindO x k) Ψ := fun ρ r t ht => by
  obtain ⟨y, e1, e2⟩ := bindO_some ht
  exact h y e1 ρ r t e2
def mdOf : Lv → Md
  | .full => .f
  | .top => .t
  | .shr => .a
theorem mdOf_ok {l : Lv} {x : Sv} (h : leL l x.l = true) : (mdOf l).ok x := by
  obtain ⟨d, l', a, p⟩ := x
  cases l <;> cases l' <;> first | trivial | (cases h; done) | (show Lv.full = Lv.full; rfl) | (intro z; cases z)
theorem js_set {k : α → Option T} {x : α} (he : JE (fzsC fz cs) f (e x) l a false) (hi : decide (i < (fzsC fz cs).length) = true) (h : ∀ x, JS (put (fzsC fz cs) i ⟨e x, mdOf l, a⟩) b (k x) Ψ) : JS cs (sSeq (sSet fz i f) b) (letB x k) Ψ := fun ρ r t ht => by
  have r1 := r.fzs fz
  obtain ⟨y, e1, k1⟩ := he _ r1
  have hv : y.vw = false := by
    cases q : y.vw with
    | false => rfl
    | true => exact nomatch k1.vw q
  obtain ⟨out, e2, q⟩ := h x _ (r1.put (i := i) (s := ⟨y.d, y.l, y.al, none⟩) ⟨k1.d, fun _ => mdOf_ok k1.l, fun _ => k1.al⟩) t ht
  refine ⟨out, ?_, q⟩
  unfold sSeq sSet
  simp only [e1, Option.bind_some, hv]
  rw [if_pos (by rw [r1.len, hi]; rfl)]
  exact e2
theorem js_asg {k : α → Option T} {x : α} {tg : Tg} {B : α → CS} (he : JE (fzsC fz cs) f (e x) l a false) (ht : ∀ x, tgC tg (e x) a (fzsC fz cs) = some (B x)) (h : ∀ x, JS (B x) b (k x) Ψ) : JS cs (sSeq (sAsg fz tg f) b) (letB x k) Ψ := fun ρ r t hh => by
  have r1 := r.fzs fz
  obtain ⟨y, e1, k1⟩ := he _ r1
  have hv : y.vw = false := by
    cases q : y.vw with
    | false => rfl
    | true => exact nomatch k1.vw q
  obtain ⟨ρ', e3, r2⟩ := tgC_ok (al' := y.al) (ht x) k1.al r1
  obtain ⟨out, e2, q⟩ := h x _ r2 t hh
  refine ⟨out, ?_, q⟩
  unfold sSeq sAsg
  simp only [e1, Option.bind_some, hv, k1.d, e3, Option.map_some]
  exact e2
theorem js_fz (h : JS (fzsC z cs) (sSeq b1 b) o Ψ) : JS cs (sSeq (sFz z b1) b) o Ψ := fun ρ r t ht => h _ (r.fzs z) t ht
theorem js_if {c : Bool} (hc : JT cs t c) (h1 : JS cs (sSeq b1 b) o1 Ψ) (h2 : JS cs (sSeq b2 b) o2 Ψ) : JS cs (sSeq (sIf t b1 b2) b) (if c = true then o1 else o2) Ψ := fun ρ r t' ht => by
  have e1 := hc ρ r
  unfold sSeq sIf
  rw [e1]
  simp only [Option.bind_some]
  cases c with
  | true => exact h1 ρ r t' ht
  | false => exact h2 ρ r t' ht
theorem js_ifJ {c : Bool} {C : σ → CS} {s1 s2 : Option σ} {k : σ → Option T} (hc : JT cs t c) (h1 : JS cs b1 s1 (ΨJ C)) (h2 : JS cs b2 s2 (ΨJ C)) (h : ∀ s, JS (C s) b (k s) Ψ) : JS cs (sSeq (sIf t b1 b2) b) (bindO (if c = true then s1 else s2) k) Ψ := fun ρ r t' ht => by
  obtain ⟨s, e1, e2⟩ := bindO_some ht
  have e3 := hc ρ r
  have : ∃ out, (sIf t b1 b2) ρ = some out ∧ ΨJ C s out := by
    unfold sIf
    rw [e3]
    simp only [Option.bind_some]
    cases c with
    | true => exact h1 ρ r s e1
    | false => exact h2 ρ r s e1
  obtain ⟨out, e4, q⟩ := this
  cases out with
  | nx ρ' =>
    obtain ⟨out2, e5, q2⟩ := h s ρ' q t' e2
    refine ⟨out2, ?_, q2⟩
    unfold sSeq
    rw [e4]
    exact e5
  | _ => exact q.elim
theorem js_endJ {C : σ → CS} {s : σ} (h : Le cs (C s)) : JS cs sNil (some s) (ΨJ C) := fun ρ r t ht => by
  cases ht
  exact ⟨_, rfl, h.rel r⟩
theorem js_endL {C : σ → CS} {s : σ} (h : Le cs (C s)) : JS cs sNil (some s) (ΨL C) := fun ρ r t ht => by
  cases ht
  exact ⟨_, rfl, h.rel r⟩
def RetOk (Ψ : T → Out → Prop) (q : R → T) (er : R → D) (lr : Lv) (ra : Bool) (P : R → Ev.Env → Prop := fun _ _ => True) : Prop := ∀ ρ r l a, leL lr l = true → (a = true → ra = true) → P r ρ → Ψ (q r) (.rt ρ (er r) l a)
theorem ret_R {er : R → D} {lr : Lv} {ra : Bool} {P : R → Ev.Env → Prop} : RetOk (ΨR er lr ra P) (fun r => r) er lr ra P := fun ρ r l a h h2 h3 => ⟨rfl, h, h2, h3⟩
theorem js_ret {q : R → T} {er : R → D} {lr : Lv} {ra : Bool} {x : R} {P : R → Ev.Env → Prop} (hr : RetOk Ψ q er lr ra P) (he : JE cs f (er x) l a v) (hl : leL lr l = true := by rfl) (ha : (!a || ra) = true := by rfl) (hP : ∀ ρ, Rel ρ cs → P x ρ ∧ (v = true → P x (wipeA ρ)) := by exact fun _ _ => ⟨trivial, fun _ => trivial⟩) : JS cs (sSeq (sRet f) b) (some (q x)) Ψ := fun ρ r t ht => by
  cases ht
  obtain ⟨y, e1, k1⟩ := he _ r
  refine ⟨.rt (if y.vw = true then wipeA ρ else ρ) y.d y.l y.al, ?_, ?_⟩
  · unfold sSeq sRet
    simp only [e1, Option.bind_some]
  · rw [k1.d]
    refine hr _ x _ _ (leL_trans hl k1.l) (fun z => by have := k1.al z; subst this; simpa using ha) ?_
    by_cases hv : y.vw = true
    · rw [if_pos hv]; exact (hP ρ r).2 (k1.vw hv)
    · rw [if_neg hv]; exact (hP ρ r).1
theorem js_retV {q : R → T} {er : R → D} {lr : Lv} {ra : Bool} {x : R} {m : Md} {P : R → Ev.Env → Prop} (hr : RetOk Ψ q er lr ra P) (h : nthC cs i = some ⟨er x, m, a⟩) (hm : (∀ s, m.ok s → leL lr s.l = true)) (ha : (!a || ra) = true := by rfl) (hlr : leL lr .full = true := by rfl) (hP : ∀ ρ, Rel ρ cs → P x ρ ∧ P x (ρ.set i none) := by exact fun _ _ => ⟨trivial, trivial⟩) : JS cs (sSeq (sRetV i) b) (some (q x)) Ψ := fun ρ r t ht => by
  cases ht
  obtain ⟨s, e1, k⟩ := r.nthC h
  by_cases hi : imm s.d = true
  · refine ⟨.rt ρ s.d .full false, ?_, ?_⟩
    · unfold sSeq sRetV
      rw [e1]
      simp only [Option.bind_some, hi, if_true]
    · rw [k.d]
      exact hr _ x _ _ hlr (fun z => nomatch z) (hP ρ r).1
  · have hi' : imm (er x) = false := by rw [← show s.d = er x from k.d]; simpa using hi
    refine ⟨.rt (ρ.set i none) s.d s.l s.al, ?_, ?_⟩
    · unfold sSeq sRetV
      rw [e1]
      simp only [hi]
      rfl
    · rw [k.d]
      exact hr _ x _ _ (hm _ (k.m hi')) (fun z => by have := k.al hi' z; simp only at this; subst this; simpa using ha) (hP ρ r).2
theorem md_f : ∀ s, Md.f.ok s → leL .full s.l = true := fun s h => by rw [show s.l = .full from h]; rfl
theorem js_retI {q : R → T} {er : R → D} {lr : Lv} {ra : Bool} {x : R} {c : Cl} {P : R → Ev.Env → Prop} (hr : RetOk Ψ q er lr ra P) (h : nthC cs i = some c) (hd : c.d = er x) (hi : imm (er x) = true) (hlr : leL lr .full = true := by rfl) (hP : ∀ ρ, Rel ρ cs → P x ρ := by exact fun _ _ => trivial) : JS cs (sSeq (sRetV i) b) (some (q x)) Ψ := fun ρ r t ht => by
  cases ht
  obtain ⟨s, e1, k⟩ := r.nthC h
  refine ⟨.rt ρ s.d .full false, ?_, ?_⟩
  · unfold sSeq sRetV
    rw [e1]
    have : imm s.d = true := by rw [k.d, hd]; exact hi
    simp only [Option.bind_some, this, if_true]
  · rw [k.d, hd]
    exact hr _ x _ _ hlr (fun z => nomatch z) (hP ρ r)
theorem js_for {C : σ → CS} {it : EvI} {tg : Tg} {body : EvS} {xs : List α} {s0 : σ} {F : α → σ → Option σ} {B : α → σ → CS} {k : σ → Option T} (hit : JIt (fzsC fz cs) it xs e a) (h0 : Le (fzsC fz cs) (C s0)) (ht : ∀ x s, tgC tg (e x) a (C s) = some (B x s)) (hb : ∀ x s, JS (B x s) body (F x s) (ΨL C)) (h : ∀ s, JS (C s) b (k s) Ψ) : JS cs (sSeq (sFor fz it tg body) b) (bindO (forS xs s0 F) k) Ψ := fun ρ r t hh => by
  have r1 := r.fzs fz
  obtain ⟨a', ha, e1⟩ := hit _ r1
  obtain ⟨s', e2, e3⟩ := bindO_some hh
  have go : ∀ (xs : List α) (s : σ) (ρ : Ev.Env), Rel ρ (C s) → ∀ s', forS xs s F = some s' → ∃ ρ', forL tg body (xs.map fun x => (e x, a')) ρ = some (.nx ρ') ∧ Rel ρ' (C s') := by
    intro xs
    induction xs with
    | nil => intro s ρ r s' h; cases h; exact ⟨ρ, rfl, r⟩
    | cons x xs ih =>
      intro s ρ r s' h
      unfold forS at h
      obtain ⟨s1, g1, g2⟩ := bindO_some h
      obtain ⟨ρ1, g3, r3⟩ := tgC_ok (ht x s) ha r
      obtain ⟨out, g4, q4⟩ := hb x s ρ1 r3 s1 g1
      rw [List.map_cons]
      unfold forL
      rw [g3]
      simp only [Option.bind_some, g4]
      cases out with
      | nx ρ2 => exact ih s1 ρ2 q4 s' g2
      | ct ρ2 => exact ih s1 ρ2 q4 s' g2
      | bk ρ2 => exact q4.elim
      | rt ρ2 d l a' => exact q4.elim
  obtain ⟨ρ', g1, r2⟩ := go xs s0 _ (h0.rel r1) s' e2
  obtain ⟨out, e5, q⟩ := h s' ρ' r2 t e3
  refine ⟨out, ?_, q⟩
  unfold sSeq sFor
  rw [e1]
  simp only [Option.bind_some, g1]
  exact e5
theorem appO_some {xs ys : List α} {x : α} (h : appO xs x = some ys) : xs.length ≤ 1000000 ∧ ys = xs ++ [x] := by
  unfold appO at h
  split at h
  · cases h; exact ⟨‹_›, rfl⟩
  · cases h
def keepM : Md → Lv → Md
  | .f, .full => .f
  | .p k, .full => .p k
  | _, _ => .t
theorem keepM_ok {m : Md} {l l2 : Lv} {x y : Sv} (hm : m.ok x) (hl : leL l l2 = true) (hy : y.l = keepLv x.l l2) (hp : y.pn = x.pn) : (keepM m l).ok y := by
  unfold keepLv at hy
  have ht : y.l ≠ .shr := by rw [hy]; split <;> decide
  cases m <;> cases l <;> first
    | exact ht
    | (show y.l = .full; rw [hy, show x.l = .full from hm, leL_full hl]; rfl)
    | (refine ⟨?_, by rw [hp]; exact hm.2⟩; rw [hy, hm.1, leL_full hl]; rfl)
def ownM : Md → Bool
  | .t => true
  | .f => true
  | .p _ => true
  | _ => false
theorem ownM_ok {m : Md} {x : Sv} (h : ownM m = true) (k : m.ok x) : x.l ≠ .shr := by
  cases m <;> first | exact absurd h (by decide) | exact k | (intro z; rw [show x.l = .full from k] at z; cases z) | (intro z; rw [k.1] at z; cases z)
theorem js_app {xs : List α} {x : α} {m : Md} {k : List α → Option T} (hn : nthC (fzsC fz cs) i = some ⟨dL e xs, m, a⟩) (he : JE (fzsC fz cs) f (e x) l a2 false) (hm : ownM m = true) (h : ∀ ys, JS (put (fzsC fz cs) i ⟨dL e ys, keepM m l, a || a2⟩) b (k ys) Ψ) : JS cs (sSeq (sLop oApp fz i (aCons f aNil)) b) (bindO (appO xs x) k) Ψ := fun ρ r t ht => by
  have r1 := r.fzs fz
  obtain ⟨s, e1, k1⟩ := r1.nthC hn
  obtain ⟨y, e2, k2⟩ := he _ r1
  obtain ⟨zs, e3, e4⟩ := bindO_some ht
  obtain ⟨hl, rfl⟩ := appO_some e3
  have hv : y.vw = false := by
    cases q : y.vw with
    | false => rfl
    | true => exact nomatch k2.vw q
  have hml := k1.m rfl
  have hne := ownM_ok hm hml
  have hd : s.d = .lst (xs.map e) := k1.d
  have hs : Cl.ok ⟨dL e (xs ++ [x]), keepM m l, a || a2⟩ ⟨.lst (xs.map e ++ [y.d]), keepLv s.l (if [y].all (fun r => !r.vw && decide (r.l = .full)) = true then .full else .top), s.al || [y].any (·.al), s.pn⟩ := by
    refine ⟨by simp [k2.d], fun _ => ?_, fun _ z => ?_⟩
    · have e5 : [y].all (fun r => !r.vw && decide (r.l = .full)) = decide (y.l = .full) := by simp [hv]
      rw [e5]
      refine keepM_ok (l2 := if decide (y.l = .full) = true then .full else .top) hml ?_ rfl rfl
      cases l with
      | full => rw [leL_full k2.l]; rfl
      | top => split <;> rfl
      | shr => exact leL_shr _
    · rcases Bool.or_eq_true _ _ ▸ z with z | z
      · have := k1.al rfl z
        simp only at this
        rw [this]; rfl
      · have : a2 = true := k2.al (by simpa using z)
        rw [this]
        cases a <;> rfl
  obtain ⟨out, e6, q⟩ := h _ _ (r1.put (i := i) hs) t e4
  refine ⟨out, ?_, q⟩
  have : sLop oApp fz i (aCons f aNil) ρ = some (.nx ((frzs fz ρ).set i (some ⟨.lst (xs.map e ++ [y.d]), keepLv s.l (if [y].all (fun r => !r.vw && decide (r.l = .full)) = true then .full else .top), s.al || [y].any (·.al), s.pn⟩))) := by
    unfold sLop
    rw [e1]
    simp only [hd]
    rw [if_neg (by simp [hne]; omega)]
    unfold aCons aNil
    simp only [e2, Option.bind_some]
    rw [if_pos (by simp [hv])]
    rfl
  unfold sSeq
  rw [this]
  exact e6
theorem rel_entry : ∀ (n : Nat) (ds : List D), ds.length ≤ n → Rel (entry n ds) (ds.map (fun d => some ⟨d, .s, true⟩) ++ List.replicate (n - ds.length) none) := fun n ds h => by
  refine ⟨by simp [entry], fun i c e => ?_⟩
  unfold entry
  rw [List.getElem?_append] at e ⊢
  simp only [List.length_map] at e ⊢
  split at e
  · rename_i hi
    rw [if_pos hi]
    rw [List.getElem?_map] at e ⊢
    cases q : ds[i]? with
    | none => rw [q] at e; simp at e
    | some d =>
      rw [q] at e
      simp at e
      subst e
      exact ⟨_, rfl, rfl, fun _ => rfl, fun _ => id⟩
  · rw [List.getElem?_replicate] at e
    split at e <;> simp at e
theorem fn_ok {body : EvS} {n : Nat} {ds : List D} {o : Option R} {er : R → D} {lr : Lv} {ra : Bool} {x : R} (h : JS (ds.map (fun d => some ⟨d, .s, true⟩) ++ List.replicate (n - ds.length) none) body o (ΨR er lr ra)) (hx : o = some x) (hn : ds.length ≤ n) : RetE (Ev.run body n) ds (er x) lr ra := by
  obtain ⟨out, e1, q⟩ := h _ (rel_entry n ds hn) x hx
  cases out with
  | rt ρ d l a' =>
    refine ⟨l, a', ?_, q.2.1, q.2.2.1⟩
    unfold Ev.run
    rw [e1, ← q.1]
    rfl
  | _ => exact q.elim
end
end Tg
set_option Elab.async false
set_option linter.all false
set_option maxRecDepth 100000
namespace Tg
open PySem PySem.Spec L2 Ev
open PyProof.Rows hiding St
theorem dSet_snoc : ∀ {p : List Nat} {d x : D} {j : Nat} {y : D} (d' : D), dAt d p = some x → (kids x)[j]? = some y → dSet d (p ++ [j]) d' = dSet d p (setKid x j d')
  | [], d, x, j, y, d', h, hj => by
    cases h
    show (match (kids d)[j]? with | some e => setKid d j (dSet e [] d') | none => d) = setKid d j d'
    rw [hj]
    rfl
  | k :: p, d, x, j, y, d', h, hj => by
    unfold dAt at h
    obtain ⟨e, e1, e2⟩ := bind_some h
    show (match (kids d)[k]? with | some e => setKid d k (dSet e (p ++ [j]) d') | none => d) = (match (kids d)[k]? with | some e => setKid d k (dSet e p (setKid x j d')) | none => d)
    rw [e1]
    show setKid d k _ = setKid d k _
    rw [dSet_snoc d' e2 hj]
theorem dAt_snoc : ∀ {p : List Nat} {d x : D} {j : Nat} {y : D}, dAt d p = some x → (kids x)[j]? = some y → dAt d (p ++ [j]) = some y
  | [], d, x, j, y, h, hj => by
    cases h
    show ((kids d)[j]?.bind fun e => dAt e []) = _
    rw [hj]
    rfl
  | k :: p, d, x, j, y, h, hj => by
    unfold dAt at h
    obtain ⟨e, e1, e2⟩ := bind_some h
    show ((kids d)[k]?.bind fun e => dAt e (p ++ [j])) = _
    rw [e1]
    exact dAt_snoc e2 hj
def fullM : Md → Bool
  | .f => true
  | .p _ => true
  | _ => false
theorem fullM_ok {m : Md} {x : Sv} (h : fullM m = true) (k : m.ok x) : x.l = .full := by
  cases m <;> first | exact absurd h (by decide) | exact k | exact k.1
def JP (cs : CS) (fp : EvP) (i : Nat) (m : Md) (d : D) (a : Bool) (upd : D → D) : Prop := fullM m = true ∧ ∀ ρ, Rel ρ cs → ∃ p s, fp ρ = some (i, p, d) ∧ ρ[i]? = some (some s) ∧ m.ok s ∧ (s.al = true → a = true) ∧ dAt s.d p = some d ∧ ∀ d', dSet s.d p d' = upd d'
theorem ok_keep {m : Md} {x y : Sv} (h : fullM m = true) (k : m.ok x) (hl : y.l = .full) (hp : y.pn = x.pn) : m.ok y := by
  cases m <;> first | exact absurd h (by decide) | exact hl | exact ⟨hl, by rw [hp]; exact k.2⟩
section
variable {cs : CS} {f g : EvE} {fp : EvP} {b : EvS} {i : Nat} {mm : Md} {d d2 : D} {l l2 : Lv} {a a2 v v2 : Bool} {α β σ R T : Type} {e : α → D} {Ψ : T → Out → Prop} {upd : D → D} {fz : List Nat}
theorem jp_name (h : nthC cs i = some ⟨d, mm, a⟩) (hm : fullM mm = true := by rfl) (hi : imm d = false := by rfl) : JP cs (pName i) i mm d a (fun x => x) := ⟨hm, fun ρ r => by
  obtain ⟨s, e, k⟩ := r.nthC h
  have ho : mm.ok s := k.m hi
  have hl : s.l = .full := fullM_ok hm ho
  have hd : s.d = d := k.d
  refine ⟨[], s, ?_, e, ho, k.al hi, by rw [← hd]; rfl, fun _ => rfl⟩
  unfold pName
  rw [e]
  simp only [hl, if_true, hd]⟩
theorem jp_fldO {C dx : Addr} {m : Str} {fs : List (Str × D)} {j : Nat} (h : JP cs fp i mm (.obj C dx fs) a upd) (hj : (fs.findIdx? fun q => q.1 == m) = some j) (hd : (fs.map (·.2))[j]? = some d) : JP cs (pFldO C m fp) i mm d a (fun x => upd (.obj C dx (setSnd fs j x))) := ⟨h.1, fun ρ r => by
  obtain ⟨p, s, e1, e2, e3, e4, e5, e6⟩ := h.2 ρ r
  refine ⟨p ++ [j], s, ?_, e2, e3, e4, dAt_snoc e5 hd, fun d' => ?_⟩
  · unfold pFldO
    rw [e1]
    simp only [Option.bind_some, if_true, hj]
    show (((fs.map (·.2))[j]?).map fun e => (i, p ++ [j], e)) = _
    rw [hd]
    rfl
  · rw [dSet_snoc d' e5 hd, e6]
    rfl⟩
def setI {α : Type} (xs : List α) (k : Int) (y : α) : List α := match L2.ixN xs.length k with
  | some j => xs.set j y
  | none => xs
theorem jp_ix {xs : List α} {k : Int} {y : α} (h : JP cs fp i mm (dL e xs) a upd) (hk : JE cs g (.int k) l a2 v) (hy : idx xs k = some y) : JP cs (pIx fp g) i mm (e y) a (fun x => upd (.lst ((xs.map e).set ((L2.ixN xs.length k).getD 0) x))) := ⟨h.1, fun ρ r => by
  obtain ⟨p, s, e1, e2, e3, e4, e5, e6⟩ := h.2 ρ r
  obtain ⟨z, g1, g2⟩ := hk ρ r
  unfold idx atI at hy
  obtain ⟨j, h1, h2⟩ := bind_some hy
  have h3 : (xs.map e)[j]? = some (e y) := by rw [List.getElem?_map, h2]; rfl
  refine ⟨p ++ [j], s, ?_, e2, e3, e4, dAt_snoc e5 h3, fun d' => ?_⟩
  · unfold pIx
    rw [e1, g1]
    simp only [Option.bind_some, g2.d, List.length_map, h1, h3, Option.map_some]
  · rw [dSet_snoc d' e5 h3, e6, h1]
    rfl⟩
theorem upd_ix {xs : List α} {k : Int} {y : α} (hy : (L2.ixN xs.length k).isSome = true) : D.lst ((xs.map e).set ((L2.ixN xs.length k).getD 0) (e y)) = dL e (setI xs k y) := by
  obtain ⟨j, hj⟩ := Option.isSome_iff_exists.mp hy
  unfold setI
  rw [hj]
  show D.lst ((xs.map e).set j (e y)) = D.lst ((xs.set j y).map e)
  rw [List.map_set]
theorem ix_some {xs : List α} {k : Int} {y : α} (h : idx xs k = some y) : (L2.ixN xs.length k).isSome = true := by
  unfold idx atI at h
  obtain ⟨j, h1, h2⟩ := bind_some h
  rw [h1]
  rfl
theorem dput_KT (m : List ((Int × Int) × α)) (k : Int × Int) (y : α) : dput (m.map fun p => (([.inl p.1.1, .inl p.1.2] : List Key), e p.2)) [.inl k.1, .inl k.2] (e y) = (aput m k y).map fun p => ([.inl p.1.1, .inl p.1.2], e p.2) := by
  unfold dput aput
  rw [dhas_KT]
  split
  · rw [List.map_map, List.map_map]
    refine List.map_congr_left fun p _ => ?_
    obtain ⟨⟨x, z⟩, w⟩ := p
    obtain ⟨k1, k2⟩ := k
    simp only [Function.comp]
    by_cases h : x = k1 <;> by_cases h2 : z = k2 <;> simp [h, h2]
  · simp
theorem aputO_some {κ : Type} [DecidableEq κ] {m m' : List (κ × α)} {k : κ} {y : α} (h : aputO m k y = some m') : m.length < 1000000 ∧ m' = aput m k y := by
  unfold aputO at h
  split at h
  · cases h; exact ⟨‹_›, rfl⟩
  · cases h
theorem p_KT {m m' : List ((Int × Int) × α)} {k : Int × Int} {y : α} (h : aputO m k y = some m') : Ev.putAt (dKT e m) (dT2 dI dI k) (e y) = some (dKT e m') := by
  obtain ⟨hl, rfl⟩ := aputO_some h
  show (if (m.map _).length < 1000000 then _ else _) = _
  rw [List.length_map, if_pos hl]
  show some (D.dt (dput _ _ _)) = _
  rw [dput_KT]
theorem js_putP {fk fv : EvE} {M : Type} {eM : M → D} {m : M} {o : Option M} {k : M → Option T} {dk dv : D} {W : M → D} (hp : JP (fzsC fz cs) fp i mm (eM m) a upd) (hk : JE (fzsC fz cs) fk dk l a2 v) {l3 : Lv} {a3 v3 : Bool} (hv : JE (fzsC fz cs) fv dv l3 a3 v3) (hi : imm dv = true) (hput : ∀ m', o = some m' → Ev.putAt (eM m) dk dv = some (eM m')) (hu : ∀ m', o = some m' → upd (eM m') = W m') (h : ∀ m', JS (put (fzsC fz cs) i ⟨W m', mm, a⟩) b (k m') Ψ) : JS cs (sSeq (sPutP fz fp fk fv) b) (bindO o k) Ψ := fun ρ r t ht => by
  have r1 := r.fzs fz
  obtain ⟨m', e1, e2⟩ := bindO_some ht
  obtain ⟨p, s, g1, g2, g3, g4, g5, g6⟩ := hp.2 _ r1
  obtain ⟨y, k1, k2⟩ := hk _ r1
  obtain ⟨w, q1, q2⟩ := hv _ r1
  obtain ⟨out, e6, q⟩ := h m' _ (r1.put (i := i) (s := ⟨dSet s.d p (eM m'), .full, s.al || false, s.pn⟩) ⟨by rw [g6, hu m' e1], fun _ => ok_keep hp.1 g3 rfl rfl, fun _ z => g4 (by simpa using z)⟩) t e2
  refine ⟨out, ?_, q⟩
  unfold sSeq sPutP
  simp only [q1, g1, k1, Option.bind_some, q2.d, k2.d, hput m' e1, g2, hi, if_true]
  exact e6
theorem js_appP {fe : EvE} {xs : List α} {x : α} {k : List α → Option T} {W : List α → D} (hp : JP (fzsC fz cs) fp i mm (dL e xs) a upd) (hv : JE (fzsC fz cs) fe (e x) .full a2 false) (hu : ∀ ys, appO xs x = some ys → upd (dL e ys) = W ys) (h : ∀ ys, JS (put (fzsC fz cs) i ⟨W ys, mm, a || a2⟩) b (k ys) Ψ) : JS cs (sSeq (sAppP fz fp fe) b) (bindO (appO xs x) k) Ψ := fun ρ r t ht => by
  have r1 := r.fzs fz
  obtain ⟨ys, e1, e2⟩ := bindO_some ht
  obtain ⟨hl, rfl⟩ := appO_some e1
  obtain ⟨p, s, g1, g2, g3, g4, g5, g6⟩ := hp.2 _ r1
  obtain ⟨w, q1, q2⟩ := hv _ r1
  have hvw : w.vw = false := by
    cases q : w.vw with
    | false => rfl
    | true => exact nomatch q2.vw q
  obtain ⟨out, e6, q⟩ := h _ _ (r1.put (i := i) (s := ⟨dSet s.d p (.lst (xs.map e ++ [w.d])), .full, s.al || w.al, s.pn⟩) ⟨by rw [g6, ← hu _ e1, q2.d]; show upd (D.lst (xs.map e ++ [e x])) = upd (D.lst ((xs ++ [x]).map e)); rw [List.map_append]; rfl, fun _ => ok_keep hp.1 g3 rfl rfl, fun _ z => by
    rcases Bool.or_eq_true _ _ ▸ z with z | z
    · rw [g4 z]; rfl
    · rw [q2.al z]; cases a <;> rfl⟩) t e2
  refine ⟨out, ?_, q⟩
  unfold sSeq sAppP
  simp only [q1, g1, Option.bind_some, g2]
  rw [if_pos ⟨hvw, leL_full q2.l, by simpa using hl⟩]
  exact e6
theorem js_atPO {C dx : Addr} {m : Str} {fe : EvE} {fs : List (Str × D)} {x : α} {k : α → Option T} {W : α → D} (hp : JP (fzsC fz cs) fp i mm (.obj C dx fs) a upd) (hv : JE (fzsC fz cs) fe (e x) .full a2 false) (hl : decide (fs.length < 1000) = true) (hu : ∀ x, upd (.obj C dx (putD m (e x) fs)) = W x) (h : ∀ x, JS (put (fzsC fz cs) i ⟨W x, mm, a || a2⟩) b (k x) Ψ) : JS cs (sSeq (sAtPO C m fz fp fe) b) (letB x k) Ψ := fun ρ r t ht => by
  have r1 := r.fzs fz
  obtain ⟨p, s, g1, g2, g3, g4, g5, g6⟩ := hp.2 _ r1
  obtain ⟨w, q1, q2⟩ := hv _ r1
  have hvw : w.vw = false := by
    cases q : w.vw with
    | false => rfl
    | true => exact nomatch q2.vw q
  obtain ⟨out, e6, q⟩ := h x _ (r1.put (i := i) (s := ⟨dSet s.d p (.obj C dx (putD m w.d fs)), .full, s.al || w.al, s.pn⟩) ⟨by rw [g6, ← hu x, q2.d], fun _ => ok_keep hp.1 g3 rfl rfl, fun _ z => by
    rcases Bool.or_eq_true _ _ ▸ z with z | z
    · rw [g4 z]; rfl
    · rw [q2.al z]; cases a <;> rfl⟩) t ht
  refine ⟨out, ?_, q⟩
  unfold sSeq sAtPO
  simp only [q1, g1, Option.bind_some, g2]
  rw [if_pos ⟨trivial, hvw, leL_full q2.l, of_decide_eq_true hl⟩]
  exact e6
theorem init_run {body : EvS} {n : Nat} {C dx : Addr} {ds : List D} {o : Option R} {x : R} {F : R → List (Str × D)} {cs' : CS} (h : JS (some ⟨.obj C dx [], .f, false⟩ :: (ds.map (fun d => some ⟨d, .s, true⟩) ++ List.replicate (n - 1 - ds.length) none)) body o (ΨJ fun r => some ⟨.obj C dx (F r), .f, false⟩ :: cs')) (hx : o = some x) (hn : ds.length ≤ n - 1) : runNew body n C dx ds = some (F x) := by
  have r0 := rel_entry (n - 1) ds hn
  have r1 : Rel (some ⟨.obj C dx [], .full, false, none⟩ :: entry (n - 1) ds) (some ⟨.obj C dx [], .f, false⟩ :: (ds.map (fun d => some ⟨d, .s, true⟩) ++ List.replicate (n - 1 - ds.length) none)) := ⟨by simp [r0.len], fun i c e => by
    cases i with
    | zero => simp at e; subst e; exact ⟨_, rfl, rfl, fun _ => rfl, fun _ => id⟩
    | succ i => simpa using r0.at_ i c (by simpa using e)⟩
  obtain ⟨out, e1, q⟩ := h _ r1 x hx
  cases out with
  | nx ρ =>
    have q : Rel ρ _ := q
    obtain ⟨s, e2, k⟩ := q.at_ 0 ⟨.obj C dx (F x), .f, false⟩ rfl
    cases ρ with
    | nil => cases e2
    | cons y ρ =>
      have : y = some s := by simpa using e2
      subst this
      obtain ⟨sd, sl, sa, sp⟩ := s
      have h1 : sd = .obj C dx (F x) := k.d
      have h2 : sl = .full := k.m rfl
      have h3 : sa = false := by
        cases q : sa with
        | false => rfl
        | true => exact nomatch k.al rfl q
      subst h1 h2 h3
      unfold runNew
      rw [e1]
      simp
  | _ => exact q.elim
end
end Tg
set_option Elab.async false
set_option linter.all false
set_option maxRecDepth 100000
namespace Tg
open PySem PySem.Spec L2 Ev
open PyProof.Rows hiding St
noncomputable def pick {α : Type} (P : α → Prop) : Option α := open Classical in if h : ∃ x, P x then some h.choose else none
theorem pick_some {α : Type} {P : α → Prop} {x : α} (h : pick P = some x) : P x := by
  unfold pick at h
  split at h
  · rename_i hx
    cases h
    exact hx.choose_spec
  · cases h
theorem pick_ex {α : Type} {P : α → Prop} {x : α} (h : P x) (u : ∀ y, P y → y = x) : pick P = some x := by
  unfold pick
  rw [dif_pos ⟨x, h⟩]
  congr 1
  exact u _ (Exists.choose_spec _)
section
variable {cs : CS} {f : EvE} {b : EvS} {d : D} {l : Lv} {a v : Bool} {α β γ δ T : Type} {e : α → D} {e2 : β → D} {e3 : γ → D} {e4 : δ → D} {Ψ : T → Out → Prop}
theorem js_none : JS cs b (none : Option T) Ψ := fun _ _ _ h => nomatch h
theorem jit_lI {xs : List α} (hi : ∀ x, imm (e x) = true) (h : JE cs f (dL e xs) l a v) : JIt cs (iLstV f) xs e false := fun ρ r => by
  obtain ⟨x, e1, k⟩ := h ρ r
  refine ⟨false, id, ?_⟩
  unfold iLstV
  rw [e1]
  simp only [Option.bind_some, k.d, immAll_map hi, if_true, List.map_map]
  rfl
end
end Tg
set_option Elab.async false
set_option linter.all false
set_option maxRecDepth 100000
namespace Tg
open PySem PySem.Spec L2 Ev
open PyProof.Rows hiding St
inductive Hid : CS → CS → Prop
  | nil : Hid [] []
  | no {x : Option Cl} {cs es : CS} : Hid cs es → Hid (x :: cs) (none :: es)
  | so {d : D} {m : Md} {a : Bool} {cs es : CS} : imm d = true → Hid cs es → Hid (some ⟨d, m, a⟩ :: cs) (some ⟨d, .a, true⟩ :: es)
theorem Hid.rel : ∀ {cs es : CS} {ρ : Ev.Env}, Hid cs es → Rel ρ cs → Rel (hideN ρ) es
  | _, _, ρ, .nil, r => by
    have := r.len
    cases ρ with
    | nil => exact ⟨rfl, fun i c e => by simp at e⟩
    | cons x ρ => simp at this
  | _, _, [], .no h, r => by have := r.len; simp at this
  | _, _, [], .so h _, r => by have := r.len; simp at this
  | _, _, x :: ρ, .no (cs := cs) (es := es) h, r => by
    have q : Rel (hideN ρ) es := h.rel ⟨by simpa using r.len, fun i c e => by simpa using r.at_ (i + 1) c (by simpa using e)⟩
    refine ⟨by simpa [hideN] using q.len, fun i c e => ?_⟩
    cases i with
    | zero => simp at e
    | succ i => simpa [hideN] using q.at_ i c (by simpa using e)
  | _, _, x :: ρ, .so (d := d) (m := m) (a := a) (cs := cs) (es := es) hi h, r => by
    have q : Rel (hideN ρ) es := h.rel ⟨by simpa using r.len, fun i c e => by simpa using r.at_ (i + 1) c (by simpa using e)⟩
    refine ⟨by simpa [hideN] using q.len, fun i c e => ?_⟩
    cases i with
    | zero =>
      simp at e
      subst e
      obtain ⟨s, e1, k⟩ := r.at_ 0 ⟨d, m, a⟩ (by simp)
      have : x = some s := by simpa using e1
      subst this
      have hd : s.d = d := k.d
      have hx : imm s.d = true := by rw [hd]; exact hi
      refine ⟨⟨s.d, .full, false, none⟩, by simp [hideN, hx], hd, fun z => trivial, fun z _ => rfl⟩
    | succ i => simpa [hideN] using q.at_ i c (by simpa using e)
section
variable {cs cs0 : CS} {fd : Ev.Env → Option D} {l : Lv} {a2 : Bool} {α β : Type} {e : α → D} {e2 : β → D}
theorem rd_fld {i : Nat} {C : Addr} {f : Str} {fs : List (Str × D)} {d : D} {m : Md} {a : Bool} (h : nthC cs i = some ⟨.ins C fs, m, a⟩) (hf : fs.lookup f = some d) : ∀ ρ, Rel ρ cs → rdFld C f i ρ = some d := fun ρ r => by
  obtain ⟨s, e1, k⟩ := r.nthC h
  have hd : s.d = .ins C fs := k.d
  unfold rdFld
  rw [e1]
  simp only [hd, if_true, hf]
theorem lcD_ok {itD : D → Option (List D)} {d : D} {vs : List Nat} {tg : Tg} {c : EvT} {el : EvE} {p : α → Option Bool} {F : α → Option β} {B : α → CS} {xs : List α} {ys : List β} (hd : ∀ ρ, Rel ρ cs → fd ρ = some d) (hit : itD d = some (xs.map e)) (hh : Hid cs cs0) (ht : ∀ x, tgC tg (e x) false (wipeC vs cs0) = some (B x)) (hc : ∀ x, JTo (B x) c (p x)) (he : ∀ x, JEo (B x) el e2 (F x) l a2 false) (h : bindO (lcM xs p F) big = some ys) : JE cs (eLcD itD fd vs tg c el) (dL e2 ys) (if isFull l = true then .full else .top) false false := fun ρ r => by
  obtain ⟨zs, e3, e4⟩ := bindO_some h
  obtain ⟨hl, rfl⟩ := big_some e4
  obtain ⟨rs, h1, h2, h3⟩ := lc_ok (a := false) ht hc he ((hh.rel r).wipe vs) (a' := false) id e3
  have e5 : (xs.map e).map (fun d => (d, false)) = xs.map fun x => (e x, false) := by rw [List.map_map]; rfl
  unfold eLcD
  rw [hd ρ r]
  simp only [Option.bind_some, hit, e5, h1]
  unfold mkBig
  rw [if_pos (by rw [h3]; exact hl)]
  by_cases q : isFull l = true
  · rw [if_pos q]
    rw [q] at h2
    rw [if_pos h2.allfull]
    exact ⟨_, rfl, by rw [h2.d], rfl, fun h => (nomatch h), fun h => (nomatch h)⟩
  · rw [if_neg q]
    split
    · exact ⟨_, rfl, by rw [h2.d], rfl, fun h => (nomatch h), fun h => (nomatch h)⟩
    · exact ⟨_, rfl, by rw [h2.d], rfl, fun h => (nomatch h), fun h => (nomatch h)⟩
theorem it_KT (hi : ∀ x, imm (e x) = true) (m : List ((Int × Int) × α)) : itDT (dKT e m) = some (m.map (dT2 (dT2 dI dI) e)) := by
  show (if immAll _ = true then _ else _) = _
  rw [if_pos (by rw [List.map_map]; exact immAll_map (e := fun p : (Int × Int) × α => e p.2) (fun x => hi x.2) m), List.map_map]
  rfl
end
end Tg
set_option Elab.async false
set_option linter.all false
set_option maxRecDepth 100000
namespace Tg
open PySem PySem.Spec Ev
end Tg
set_option Elab.async false
set_option linter.all false
set_option maxRecDepth 100000
namespace Tg
open PySem PySem.Spec Ev
section
variable {α β : Type} {e : α → D} {e2 : β → D} {cs : CS} {f g : EvE} {l l2 : Lv} {a a2 v v2 : Bool}
theorem b_lstRev (xs : List α) : bLstRev [dL e xs] = some (dL e xs.reverse, .top) := by
  show some (D.lst (xs.map e).reverse, Lv.top) = _
  rw [← List.map_reverse]
theorem n_t {xs : List D} {n : Nat} (h : xs.length = n) : lenOf (.tup xs) = some n := by rw [← h]; rfl
end
end Tg
set_option Elab.async false
set_option linter.all false
set_option maxRecDepth 100000
namespace Tg
open PySem PySem.Spec L2 Ev
open PyProof.Rows hiding St
section
variable {cs cs' : CS} {f g : EvE} {fx : EvX} {ga : EvA} {b : EvS} {d d2 : D} {l l2 : Lv} {a a2 v v2 : Bool} {α β T R σ : Type} {e : α → D} {e2 : β → D} {Ψ : T → Out → Prop} {i j : Nat} {o : Option T}
def JX (cs : CS) (fx : EvX) (cs' : CS) (d : D) (l : Lv) (a v : Bool) : Prop := ∀ ρ, Rel ρ cs → ∃ ρ' r, fx ρ = some (ρ', r) ∧ Rel ρ' cs' ∧ ROk r d l a v
theorem js_setX {k : α → Option T} {x : α} (h : JX cs fx cs' (e x) l a false) (hi : decide (i < cs'.length) = true) (hk : ∀ x, JS (put cs' i ⟨e x, mdOf l, a⟩) b (k x) Ψ) : JS cs (sSeq (sSetX i fx) b) (letB x k) Ψ := fun ρ r t ht => by
  obtain ⟨ρ', y, e1, r1, k1⟩ := h ρ r
  have hv : y.vw = false := by
    cases q : y.vw with
    | false => rfl
    | true => exact nomatch k1.vw q
  obtain ⟨out, e2, q⟩ := hk x _ (r1.put (i := i) (s := ⟨y.d, y.l, y.al, none⟩) ⟨k1.d, fun _ => mdOf_ok k1.l, fun _ => k1.al⟩) t ht
  refine ⟨out, ?_, q⟩
  unfold sSeq sSetX
  simp only [e1, Option.bind_some, hv]
  rw [if_pos (by rw [r1.len, hi]; rfl)]
  exact e2
theorem js_appX {xs : List α} {x : α} {m : Md} {c0 : Cl} {xs0 : List α} {k : List α → Option T} (h0 : nthC cs i = some c0) (hd0 : c0.d = dL e xs0) (h : JX cs fx cs' (e x) l a2 false) (hn : nthC cs' i = some ⟨dL e xs, m, a⟩) (hm : ownM m = true) (hk : ∀ ys, JS (put cs' i ⟨dL e ys, keepM m l, a || a2⟩) b (k ys) Ψ) : JS cs (sSeq (sAppX i fx) b) (bindO (appO xs x) k) Ψ := fun ρ r t ht => by
  obtain ⟨s0, e0, k0⟩ := r.nthC h0
  obtain ⟨ρ', y, e1, r1, k2⟩ := h ρ r
  obtain ⟨s, e3, k1⟩ := r1.nthC hn
  obtain ⟨zs, e4, e5⟩ := bindO_some ht
  obtain ⟨hl, rfl⟩ := appO_some e4
  have hv : y.vw = false := by
    cases q : y.vw with
    | false => rfl
    | true => exact nomatch k2.vw q
  have hml := k1.m rfl
  have hne := ownM_ok hm hml
  have hd : s.d = .lst (xs.map e) := k1.d
  have hd0 : s0.d = .lst (xs0.map e) := by rw [k0.d, hd0]
  have hs : Cl.ok ⟨dL e (xs ++ [x]), keepM m l, a || a2⟩ ⟨.lst (xs.map e ++ [y.d]), keepLv s.l (if y.l = .full then .full else .top), s.al || y.al, s.pn⟩ := by
    refine ⟨by simp [k2.d], fun _ => ?_, fun _ z => ?_⟩
    · refine keepM_ok (l2 := if y.l = .full then .full else .top) hml ?_ rfl rfl
      cases l with
      | full => rw [leL_full k2.l]; rfl
      | top => split <;> rfl
      | shr => exact leL_shr _
    · rcases Bool.or_eq_true _ _ ▸ z with z | z
      · have := k1.al rfl z
        simp only at this
        rw [this]; rfl
      · rw [k2.al z, Bool.or_true]
  obtain ⟨out, e6, q⟩ := hk _ _ (r1.put hs) t e5
  refine ⟨out, ?_, q⟩
  unfold sSeq sAppX
  rw [e0]
  simp only [hd0, e1, Option.bind_some, e3, hd]
  rw [if_pos ⟨hne, by rw [List.length_map]; exact hl, hv⟩]
  exact e6
end
end Tg
set_option Elab.async false
set_option linter.all false
set_option maxRecDepth 100000
namespace Tg
open PySem PySem.Spec L2 Ev
open PyProof.Rows hiding St
section
variable {cs cs' : CS} {f : EvE} {fx : EvX} {g : EvM} {b : EvS} {d d2 : D} {l l2 : Lv} {a a2 v v2 : Bool} {α β T R σ : Type} {e : α → D} {e2 : β → D} {Ψ : T → Out → Prop} {i j : Nat} {o : Option T}
inductive MC where
  | val (d : D) (l : Lv) (a : Bool) | slot (j : Nat) (d : D) (m : Md) (a : Bool)
def mcD : MC → D
  | .val d _ _ => d
  | .slot _ d _ _ => d
def mcA : MC → Bool
  | .val _ _ a => a
  | .slot _ _ _ a => a
inductive MAOk : List MA → List MC → Prop
  | nil : MAOk [] []
  | val {r : Rv} {d : D} {l : Lv} {a : Bool} {as : List MA} {is : List MC} : ROk r d l a false → MAOk as is → MAOk (.val r :: as) (.val d l a :: is)
  | slot {j : Nat} {s : Sv} {d : D} {m : Md} {a : Bool} {as : List MA} {is : List MC} : Cl.ok ⟨d, m, a⟩ s → isHd d = true → MAOk as is → MAOk (.slot j s :: as) (.slot j d m a :: is)
theorem nd_imm {d : D} (h : isHd d = true) : imm d = false := isHd_imm h
theorem MAOk.ds : ∀ {as : List MA} {is : List MC}, MAOk as is → as.map maD = is.map mcD
  | _, _, .nil => rfl
  | _, _, .val k q => by rw [List.map_cons, List.map_cons, q.ds]; congr 1; exact k.d
  | _, _, .slot k _ q => by rw [List.map_cons, List.map_cons, q.ds]; congr 1; exact k.d
theorem MAOk.als : ∀ {as : List MA} {is : List MC}, MAOk as is → as.any maA = true → is.any mcA = true
  | _, _, .nil, h => by cases h
  | _, _, .val k q, h => by
    rw [List.any_cons, Bool.or_eq_true] at h ⊢
    exact h.imp k.al q.als
  | _, _, .slot k n q, h => by
    rw [List.any_cons, Bool.or_eq_true] at h ⊢
    exact h.imp (k.al (nd_imm n)) q.als
def JM (cs : CS) (g : EvM) (is : List MC) : Prop := ∀ ρ, Rel ρ cs → ∃ as, g ρ = some as ∧ MAOk as is
theorem jm_nil : JM cs mNil [] := fun ρ r => ⟨[], rfl, .nil⟩
theorem jm_val {is : List MC} (h : JE cs f d l a false) (h2 : JM cs g is) : JM cs (mVal f g) (.val d l a :: is) := fun ρ r => by
  obtain ⟨x, e1, k1⟩ := h ρ r
  obtain ⟨as, e2, k2⟩ := h2 ρ r
  refine ⟨.val x :: as, ?_, .val k1 k2⟩
  have hv : x.vw = false := by
    cases q : x.vw with
    | false => rfl
    | true => exact nomatch k1.vw q
  unfold mVal
  rw [e1, e2]
  simp only [Option.bind_some, Option.map_some]
  exact if_pos hv
theorem jm_slot {is : List MC} {m : Md} (hn : nthC cs j = some ⟨d, m, a⟩) (hd : isHd d = true) (h2 : JM cs g is) : JM cs (mSlot j g) (.slot j d m a :: is) := fun ρ r => by
  obtain ⟨s, e1, k1⟩ := r.nthC hn
  obtain ⟨as, e2, k2⟩ := h2 ρ r
  refine ⟨.slot j s :: as, ?_, .slot k1 hd k2⟩
  unfold mSlot
  rw [e1, e2]
  rfl
def hideC (cs : CS) (j : Nat) : CS := cs.set j none
theorem Rel.hide {ρ : Ev.Env} (r : Rel ρ cs) (j : Nat) : Rel (ρ.set j none) (hideC cs j) where
  len := by unfold hideC; rw [List.length_set, List.length_set, r.len]
  at_ := fun k c e => by
    unfold hideC at e
    rw [List.getElem?_set] at e ⊢
    by_cases q : j = k
    · subst q
      rw [if_pos rfl] at e
      split at e <;> simp at e
    · rw [if_neg q] at e
      rw [if_neg q]
      exact r.at_ k c e
def splitC : List Bool → List MC → CS → CS
  | true :: ms, .slot j _ _ _ :: is, cs => splitC ms is (hideC cs j)
  | _ :: ms, _ :: is, cs => splitC ms is cs
  | _, _, cs => cs
inductive OkC : List Bool → List MC → CS → Prop
  | nil {cs : CS} : OkC [] [] cs
  | sh {ms : List Bool} {is : List MC} {cs : CS} {d : D} {l : Lv} {a : Bool} : OkC ms is cs → OkC (false :: ms) (.val d l a :: is) cs
  | ov {ms : List Bool} {is : List MC} {cs : CS} {d : D} {a : Bool} : isHd d = true → OkC ms is cs → OkC (true :: ms) (.val d .full a :: is) cs
  | sl {ms : List Bool} {is : List MC} {cs : CS} {j : Nat} {d : D} {m : Md} {a : Bool} : nthC cs j = some ⟨d, m, a⟩ → fullM m = true → isHd d = true → OkC ms is (hideC cs j) → OkC (true :: ms) (.slot j d m a :: is) cs
theorem OkC.split : ∀ {ms : List Bool} {as : List MA} {is : List MC} {cs : CS} {ρ : Ev.Env}, OkC ms is cs → MAOk as is → Rel ρ cs → ∃ ρh, splitM ms as ρ = some ρh ∧ Rel ρh (splitC ms is cs)
  | _, _, _, _, ρ, .nil, .nil, r => ⟨ρ, rfl, r⟩
  | _, _, _, _, ρ, .sh q, .val k p, r => by
    obtain ⟨ρh, e1, r1⟩ := q.split p r
    refine ⟨ρh, ?_, r1⟩
    unfold splitM
    rw [if_pos (.inl rfl)]
    exact e1
  | _, _, _, _, ρ, .ov n q, .val k p, r => by
    obtain ⟨ρh, e1, r1⟩ := q.split p r
    refine ⟨ρh, ?_, r1⟩
    unfold splitM
    rw [if_pos (.inr ⟨leL_full k.l, by rw [k.d]; exact n⟩)]
    exact e1
  | _, _, _, _, ρ, .sl (j := j) hn hm n q, .slot k _ p, r => by
    obtain ⟨s, e0, k0⟩ := r.nthC hn
    obtain ⟨ρh, e1, r1⟩ := q.split p (r.hide j)
    refine ⟨ρh, ?_, r1⟩
    unfold splitM
    rw [e0]
    simp only
    rw [if_pos ⟨fullM_ok hm (k0.m (nd_imm n)), by rw [k0.d]; exact n⟩]
    exact e1
def backC (al : Bool) : List MC → List (Option D) → CS → CS
  | .slot j _ m _ :: is, some d :: os, cs => put (backC al is os cs) j ⟨d, m, al⟩
  | _ :: is, _ :: os, cs => backC al is os cs
  | _, _, cs => cs
theorem back_rel {al al' : Bool} (ha : al = true → al' = true) : ∀ {as : List MA} {is : List MC} (os : List (Option D)) {cs : CS} {ρ : Ev.Env}, (∀ i ∈ is, ∀ j d m a, i = MC.slot j d m a → fullM m = true) → MAOk as is → Rel ρ cs → Rel (backM al as os ρ) (backC al' is os cs)
  | _, _, [], _, ρ, _, .nil, r => r
  | _, _, _ :: _, _, ρ, _, .nil, r => r
  | _, _, [], _, ρ, _, .val _ _, r => r
  | _, _, [], _, ρ, _, .slot _ _ _, r => r
  | _, _, o :: os, _, ρ, hf, .val k p, r => by
    have := back_rel ha os (fun i m => hf i (List.mem_cons_of_mem _ m)) p r
    cases o <;> exact this
  | _, _, none :: os, _, ρ, hf, .slot k n p, r => back_rel ha os (fun i m => hf i (List.mem_cons_of_mem _ m)) p r
  | .slot j s :: as, .slot _ _ m a0 :: is, some d' :: os, _, ρ, hf, .slot k n p, r => by
    have := back_rel ha os (fun i m => hf i (List.mem_cons_of_mem _ m)) p r
    have hm := hf _ List.mem_cons_self j _ m a0 rfl
    refine this.put (i := j) (s := ⟨d', .full, al, s.pn⟩) ⟨rfl, fun _ => ?_, fun _ z => ha z⟩
    have hk := k.m (nd_imm n)
    cases m <;> first | exact absurd hm (by decide) | rfl | exact ⟨rfl, hk.2⟩
theorem OkC.fm : ∀ {ms : List Bool} {is : List MC} {cs : CS}, OkC ms is cs → ∀ i ∈ is, ∀ j d m a, i = MC.slot j d m a → fullM m = true
  | _, _, _, .nil, _, m, _, _, _, _, _ => nomatch m
  | _, _, _, .sh q, i, m, j, d, md, a, e => by
    rcases List.mem_cons.mp m with m | m
    · rw [m] at e; cases e
    · exact q.fm i m j d md a e
  | _, _, _, .ov _ q, i, m, j, d, md, a, e => by
    rcases List.mem_cons.mp m with m | m
    · rw [m] at e; cases e
    · exact q.fm i m j d md a e
  | _, _, _, .sl _ hm _ q, i, m, j, d, md, a, e => by
    rcases List.mem_cons.mp m with m | m
    · rw [m] at e; cases e; exact hm
    · exact q.fm i m j d md a e
def RetME (φ : List D → Option RetM) (ds : List D) (os : List (Option D)) (d : D) (l : Lv) (al : Bool) : Prop := ∃ l' a', φ ds = some (os, d, l', a') ∧ leL l l' = true ∧ (a' = true → al = true)
theorem jx_call {Rf : List D → Option RetM} {ms : List Bool} {is : List MC} {os : List (Option D)} {ral : Bool} (h : JM cs g is) (hok : OkC ms is cs) (hR : RetME Rf (is.map mcD) os d l ral) : JX cs (xCall ms Rf g) (backC (is.any mcA) is os (splitC ms is cs)) d l (ral && is.any mcA) false := fun ρ r => by
  obtain ⟨as, e1, k1⟩ := h ρ r
  obtain ⟨ρh, e2, r2⟩ := hok.split k1 r
  obtain ⟨l', a', hz, hl, ha⟩ := hR
  refine ⟨backM (as.any maA) as os ρh, mkR (as.any maA) false (d, l', a'), ?_, back_rel k1.als os hok.fm k1 r2, ?_⟩
  · unfold xCall
    rw [e1]
    simp only [Option.bind_some, e2, k1.ds, hz, Option.map_some]
  · unfold mkR
    by_cases hi : imm d = true
    · rw [if_pos hi]
      exact ⟨rfl, by cases l <;> rfl, fun h => (nomatch h), fun h => nomatch h⟩
    · rw [if_neg hi]
      cases a' with
      | false => exact ⟨rfl, hl, fun h => (nomatch h), fun h => nomatch h⟩
      | true => exact ⟨rfl, hl, fun h => by rw [ha rfl, k1.als h]; rfl, fun h => nomatch h⟩
def entC : Nat → List Bool → List D → CS
  | _, [], _ => []
  | _, _, [] => []
  | i, b :: ms, d :: ds => some ⟨d, if b = true then .p i else .s, true⟩ :: entC (i + 1) ms ds
def backsC : Nat → List Bool → CS → Option (List (Option D))
  | _, [], _ => some []
  | i, false :: ms, _ :: cs => (backsC (i + 1) ms cs).map (none :: ·)
  | i, true :: ms, some ⟨d, .p k, _⟩ :: cs => if k = i ∧ isHd d = true then (backsC (i + 1) ms cs).map (some d :: ·) else none
  | _, _, _ => none
theorem Rel.tail {ρ : Ev.Env} {x : Option Sv} {c : Option Cl} (r : Rel (x :: ρ) (c :: cs)) : Rel ρ cs := ⟨by simpa using r.len, fun i c e => by simpa using r.at_ (i + 1) c (by simpa using e)⟩
theorem backs_ok : ∀ {i : Nat} {ms : List Bool} {cs : CS} {ρ : Ev.Env} {os : List (Option D)}, Rel ρ cs → backsC i ms cs = some os → backs i ms ρ = os
  | i, [], _, _, _, _, h => by cases h; rfl
  | i, false :: ms, [], _, _, _, h => by cases h
  | i, true :: ms, [], _, _, _, h => by cases h
  | i, _ :: _, _ :: _, [], _, r, _ => by have := r.len; simp at this
  | i, false :: ms, c :: cs, x :: ρ, os, r, h => by
    unfold backsC at h
    obtain ⟨os', h1, rfl⟩ := Option.map_eq_some_iff.mp h
    have := backs_ok r.tail h1
    unfold backs
    rw [this]
  | i, true :: ms, none :: cs, x :: ρ, os, r, h => by cases h
  | i, true :: ms, some ⟨d, m, a⟩ :: cs, x :: ρ, os, r, h => by
    cases m with
    | p k =>
      unfold backsC at h
      split at h
      · rename_i hc
        obtain ⟨rfl, hn⟩ := hc
        obtain ⟨os', h1, rfl⟩ := Option.map_eq_some_iff.mp h
        have := backs_ok r.tail h1
        obtain ⟨s, e, k0⟩ := r.at_ 0 _ rfl
        have e : x = some s := by simpa using e
        subst e
        have hm := k0.m (nd_imm hn)
        unfold backs
        rw [this]
        simp only
        rw [if_pos (show s.l = .full ∧ s.pn = some k from hm), k0.d]
      · cases h
    | _ => cases h
end
end Tg
set_option Elab.async false
set_option linter.all false
set_option maxRecDepth 100000
namespace Tg
open PySem PySem.Spec L2 Ev
open PyProof.Rows hiding St
section
variable {cs cs' : CS} {b : EvS} {T R : Type} {Ψ : T → Out → Prop}
theorem go_rel : ∀ (i : Nat) (ms : List Bool) (ds : List D) (n : Nat), Rel (entryM.go i ms ds ++ List.replicate n none) (entC i ms ds ++ List.replicate n none)
  | i, [], ds, n => ⟨by simp [entryM.go, entC], fun k c e => by
      simp only [entC, List.nil_append] at e
      rw [List.getElem?_replicate] at e
      split at e <;> simp at e⟩
  | i, _ :: _, [], n => ⟨by simp [entryM.go, entC], fun k c e => by
      simp only [entC, List.nil_append] at e
      rw [List.getElem?_replicate] at e
      split at e <;> simp at e⟩
  | i, bb :: ms, d :: ds, n => by
    have q := go_rel (i + 1) ms ds n
    refine ⟨?_, fun k c e => ?_⟩
    · have := q.len
      simpa [entryM.go, entC] using this
    · cases k with
      | zero =>
        have e : some ⟨d, if bb = true then Md.p i else .s, true⟩ = some c := by simpa [entC] using e
        cases e
        refine ⟨⟨d, if bb = true then .full else .shr, true, if bb = true then some i else none⟩, by simp [entryM.go], rfl, fun _ => ?_, fun _ => id⟩
        cases bb with
        | true => exact ⟨rfl, rfl⟩
        | false => rfl
      | succ k =>
        have e : (entC (i + 1) ms ds ++ List.replicate n none)[k]? = some (some c) := by simpa [entC] using e
        obtain ⟨s, e1, k1⟩ := q.at_ k c e
        exact ⟨s, by simpa [entryM.go] using e1, k1⟩
def Bk (ms : List Bool) (bk : R → List (Option D)) (r : R) (ρ : Ev.Env) : Prop := backs 0 ms ρ = bk r
theorem bk_ret {ms : List Bool} {bk : R → List (Option D)} {x : R} (h : backsC 0 ms cs = some (bk x)) : ∀ ρ, Rel ρ cs → Bk ms bk x ρ ∧ (false = true → Bk ms bk x (wipeA ρ)) := fun ρ r => ⟨backs_ok r h, fun h => nomatch h⟩
theorem fn_okM {body : EvS} {n : Nat} {ms bs : List Bool} {ds : List D} {o : Option R} {er : R → D} {lr : Lv} {ra : Bool} {bk : R → List (Option D)} {x : R} (h : JS (entC 0 ms ds ++ List.replicate (n - ds.length) none) body o (ΨR er lr ra (Bk bs bk))) (hx : o = some x) : RetME (Ev.runM body n ms bs) ds (bk x) (er x) lr ra := by
  obtain ⟨out, e1, q⟩ := h (entryM n ms ds) (go_rel 0 ms ds _) x hx
  cases out with
  | rt ρ d l a' =>
    refine ⟨l, a', ?_, q.2.1, q.2.2.1⟩
    unfold Ev.runM
    rw [e1, ← q.1, ← show backs 0 bs ρ = bk x from q.2.2.2]
    rfl
  | _ => exact q.elim
end
end Tg
set_option Elab.async false
set_option linter.all false
set_option maxRecDepth 100000
namespace Tg
open PySem PySem.Spec L2 Ev
open PyProof.Rows hiding St
end Tg
set_option Elab.async false
set_option linter.all false
set_option maxRecDepth 100000
namespace Tg
open PySem PySem.Spec L2 Ev
open PyProof.Rows hiding St
end Tg
set_option Elab.async false
set_option linter.all false
set_option maxRecDepth 100000
namespace Tg
open PySem PySem.Spec L2 Ev
open PyProof.Rows hiding St
end Tg
set_option Elab.async false
set_option linter.all false
set_option maxRecDepth 100000
namespace Tg
open PySem PySem.Spec L2 Ev
open PyProof.Rows hiding St
section
variable {cs : CS} {b : EvS} {a : Bool} {α σ R T : Type} {e : α → D} {Ψ : T → Out → Prop}
theorem forS_go {C : σ → CS} {tg : Tg} {body : EvS} {F : α → σ → Option σ} {B : α → σ → CS} (ht : ∀ x s, tgC tg (e x) a (C s) = some (B x s)) (hb : ∀ x s, JS (B x s) body (F x s) (ΨL C)) {a' : Bool} (ha : a' = true → a = true) :
    ∀ (xs : List α) (s : σ) (ρ : Ev.Env), Rel ρ (C s) → ∀ s', forS xs s F = some s' → ∃ ρ', forL tg body (xs.map fun x => (e x, a')) ρ = some (.nx ρ') ∧ Rel ρ' (C s') := by
  intro xs
  induction xs with
  | nil => intro s ρ r s' h; cases h; exact ⟨ρ, rfl, r⟩
  | cons x xs ih =>
    intro s ρ r s' h
    unfold forS at h
    obtain ⟨s1, g1, g2⟩ := bindO_some h
    obtain ⟨ρ1, g3, r3⟩ := tgC_ok (ht x s) ha r
    obtain ⟨out, g4, q4⟩ := hb x s ρ1 r3 s1 g1
    rw [List.map_cons]
    unfold forL
    rw [g3]
    simp only [Option.bind_some, g4]
    cases out with
    | nx ρ2 => exact ih s1 ρ2 q4 s' g2
    | ct ρ2 => exact ih s1 ρ2 q4 s' g2
    | bk ρ2 => exact q4.elim
    | rt ρ2 d l a' => exact q4.elim
theorem leM_pp (k : Nat) : leM (.p k) (.p k) = true := by simp [leM]
def pinOk (cs : CS) (j : Nat) : Nat → CS → Bool
  | _, [] => true
  | i, some ⟨_, .p k, _⟩ :: es => ((i == j) || (match nthC cs i with
    | some ⟨d, .p k', _⟩ => !imm d && (k == k')
    | _ => false)) && pinOk cs j (i + 1) es
  | i, _ :: es => pinOk cs j (i + 1) es
theorem pinOk_at {cs : CS} {j : Nat} : ∀ {n : Nat} {es : CS}, pinOk cs j n es = true → ∀ {i : Nat} {d : D} {k : Nat} {al : Bool}, es[i]? = some (some ⟨d, .p k, al⟩) → n + i ≠ j → ∃ d' al', nthC cs (n + i) = some ⟨d', .p k, al'⟩ ∧ imm d' = false
  | _, [], _, i, _, _, _, e, _ => by simp at e
  | n, x :: es, h, 0, d, k, al, e, hj => by
    simp at e
    subst e
    simp only [pinOk, Bool.and_eq_true, Bool.or_eq_true, beq_iff_eq] at h
    rcases h.1 with h1 | h1
    · exact absurd h1 (by simpa using hj)
    · split at h1
      · rename_i d2 k2 a2 e2
        simp only [Bool.and_eq_true, Bool.not_eq_true', beq_iff_eq] at h1
        rw [h1.2]
        exact ⟨d2, a2, by simpa using e2, h1.1⟩
      · cases h1
  | n, x :: es, h, i + 1, d, k, al, e, hj => by
    have h2 : pinOk cs j (n + 1) es = true := by
      cases x with
      | none => simpa [pinOk] using h
      | some c =>
        obtain ⟨d0, m0, a0⟩ := c
        cases m0 <;> first
          | (simpa [pinOk] using h)
          | (simp only [pinOk, Bool.and_eq_true] at h; exact h.2)
    have := pinOk_at h2 (i := i) (by simpa using e) (by omega)
    rw [show n + (i + 1) = n + 1 + i by omega]
    exact this
theorem topP_lt : ∀ {ρ : Ev.Env} {i k : Nat} {s : Sv}, ρ[i]? = some (some s) → s.pn = some k → k < topP ρ
  | [], _, _, _, e, _ => by simp at e
  | x :: ρ, 0, k, s, e, h => by
    simp at e
    subst e
    unfold topP
    rw [h]
    exact Nat.lt_of_lt_of_le (Nat.lt_succ_self k) (Nat.le_max_left _ _)
  | x :: ρ, i + 1, k, s, e, h => by
    have := topP_lt (ρ := ρ) (i := i) (by simpa using e) h
    unfold topP
    cases x with
    | none => exact this
    | some s0 =>
      cases e0 : s0.pn with
      | none => simpa [e0] using this
      | some k0 => simp only [e0]; omega
theorem clr_get (k : Nat) (ρ : Ev.Env) (i : Nat) : (clr k ρ)[i]? = (ρ[i]?).map fun o => o.map fun s => if s.pn = some k then ⟨s.d, s.l, s.al, none⟩ else s := by
  unfold clr
  rw [List.getElem?_map]
theorem rel_back {ρ0 ρ : Ev.Env} {cs es : CS} {j : Nat} {c : Cl} {s0 : Sv} (r0 : Rel ρ0 cs) (r : Rel ρ es) (hp : pinOk cs j 0 es = true) (e0 : ρ0[j]? = some (some s0)) (k0 : c.ok s0) : Rel ((clr (topP ρ0) ρ).set j (some s0)) (put es j c) where
  len := by rw [put_set, List.length_set, List.length_set]; unfold clr; rw [List.length_map, r.len]
  at_ := fun i c' e => by
    rw [put_set, List.getElem?_set] at e
    rw [List.getElem?_set]
    by_cases q : j = i
    · subst q
      rw [if_pos rfl] at e ⊢
      split at e
      · rename_i hl
        cases e
        rw [if_pos (by unfold clr; rw [List.length_map, r.len]; exact hl)]
        exact ⟨s0, rfl, k0⟩
      · cases e
    · rw [if_neg q] at e ⊢
      obtain ⟨s, e1, k1⟩ := r.at_ i c' e
      rw [clr_get, e1]
      by_cases hk : s.pn = some (topP ρ0)
      · refine ⟨⟨s.d, s.l, s.al, none⟩, by simp [hk], k1.d, fun hi => ?_, k1.al⟩
        have hm := k1.m hi
        obtain ⟨d1, m1, a1⟩ := c'
        cases m1 with
        | p k =>
          obtain ⟨d', al', e2, hi2⟩ := pinOk_at hp e (by simpa using fun z => q z.symm)
          obtain ⟨s2, e3, k3⟩ := r0.nthC e2
          have h3 := k3.m hi2
          have := topP_lt (by simpa using e3) h3.2
          have h4 : s.pn = some k := hm.2
          rw [h4] at hk
          have := Option.some.inj hk
          omega
        | _ => exact hm
      · exact ⟨s, by simp [hk], k1.d, k1.m, k1.al⟩
theorem js_forH {C : Nat → σ → CS} {fp : EvP} {tg : Tg} {body : EvS} {xs : List α} {s0 : σ} {F : α → σ → Option σ} {B : Nat → α → σ → CS} {k : σ → Option T} {i : Nat} {mm : Md} {dd : D} {upd : D → D} {a2 : Bool} (hp : JP cs fp i mm (dL e xs) a upd) (hn : nthC cs i = some ⟨dd, mm, a2⟩) (hnd : isNd dd = true) (him : ∀ x, imm (e x) = true)
    (h0 : ∀ kp, Le (put cs i ⟨.any, .p kp, false⟩) (C kp s0)) (hs : ∀ kp s, nthC (C kp s) i = some ⟨.any, .p kp, false⟩) (hq : ∀ kp s, pinOk cs i 0 (C kp s) = true)
    (ht : ∀ kp x s, tgC tg (e x) false (C kp s) = some (B kp x s)) (hb : ∀ kp x s, JS (B kp x s) body (F x s) (ΨL (C kp))) (h : ∀ kp s, JS (put (C kp s) i ⟨dd, mm, a2⟩) b (k s) Ψ) : JS cs (sSeq (sForH fp tg body) b) (bindO (forS xs s0 F) k) Ψ := fun ρ r t hh => by
  obtain ⟨s', e2, e3⟩ := bindO_some hh
  obtain ⟨p, sv, e4, e5, e6, _, _, _⟩ := hp.2 ρ r
  obtain ⟨sv', e5', k5⟩ := r.nthC hn
  rw [e5] at e5'
  cases e5'
  have r1 : Rel (ρ.set i (some ⟨.any, .full, false, some (topP ρ)⟩)) (C (topP ρ) s0) := (h0 (topP ρ)).rel (r.put ⟨rfl, fun _ => ⟨rfl, rfl⟩, fun _ => id⟩)
  obtain ⟨ρ', g1, r2⟩ := forS_go (a' := false) (ht _) (hb _) (fun z => nomatch z) xs s0 _ r1 s' e2
  obtain ⟨s2, e7, k7⟩ := r2.nthC (hs _ _)
  have hpn := (k7.m rfl).2
  obtain ⟨out, e8, q⟩ := h (topP ρ) s' _ (rel_back r r2 (hq _ _) e5 k5) t e3
  refine ⟨out, ?_, q⟩
  have him' : immAll (xs.map e) = true := immAll_map him xs
  have hsd : isNd sv.d = true := by rw [k5.d]; exact hnd
  unfold sSeq sForH
  rw [e4]
  simp only [Option.bind_some, e5]
  rw [if_pos ⟨him', hsd⟩, List.map_map]
  have g1' : forL tg body (xs.map ((fun d => (d, false)) ∘ e)) (ρ.set i (some ⟨.any, .full, false, some (topP ρ)⟩)) = some (.nx ρ') := g1
  rw [g1']
  simp only [Option.bind_some]
  unfold backH
  simp only [e7]
  rw [if_pos hpn]
  exact e8
end
end Tg
set_option Elab.async false
set_option linter.all false
set_option maxRecDepth 100000
namespace Tg
open PySem PySem.Spec L2 Ev
open PyProof.Rows hiding St
end Tg
set_option Elab.async false
set_option linter.all false
set_option maxRecDepth 100000
namespace Tg
open PySem PySem.Spec L2 Ev
open PyProof.Rows hiding St
end Tg
set_option Elab.async false
set_option linter.all false
set_option maxRecDepth 100000
namespace Tg
open PySem PySem.Spec L2 Ev
open PyProof.Rows hiding St
end Tg
set_option Elab.async false
set_option linter.all false
set_option maxRecDepth 100000
namespace Tg
open PySem PySem.Spec L2 Ev
open PyProof.Rows hiding St
section
variable {cs : CS} {f g : EvE} {b : EvS} {l l1 l2 : Lv} {a a1 a2 v v1 v2 : Bool} {α T : Type} {e : α → D} {Ψ : T → Out → Prop} {i j : Nat}
abbrev SS : Type := { x : Str // PyData.strOk x = true }
abbrev mkS (x : Str) (h : PyData.strOk x = true) : SS := ⟨x, h⟩
abbrev dSS (x : SS) : D := .str x.1
theorem ek_str : EqOk 0 dSS := ⟨fun x m _ => by simp [Ev.shp]; exact x.2, fun x y => by
  unfold deq
  simp only [pd, PyData.eqv]
  by_cases h : x = y
  · simp [h]
  · have : x.1 ≠ y.1 := fun z => h (Subtype.ext z)
    simp [h, this]⟩
end
end Tg
set_option Elab.async false
set_option linter.all false
set_option maxRecDepth 100000
namespace Tg
open PySem PySem.Spec L2 Ev
open PyProof.Rows hiding St
end Tg
set_option Elab.async false
set_option linter.all false
set_option maxRecDepth 100000
namespace Tg
open PySem PySem.Spec L2 Ev
open PyProof.Rows hiding St
end Tg
set_option Elab.async false
set_option linter.all false
set_option maxRecDepth 100000
namespace Tg
open PySem PySem.Spec L2 Ev
open PyProof.Rows hiding St
end Tg
set_option Elab.async false
set_option linter.all false
set_option maxRecDepth 100000
namespace Tg
open PySem PySem.Spec L2 Ev
open PyProof.Rows hiding St
end Tg
set_option Elab.async false
set_option linter.all false
set_option maxRecDepth 100000
namespace Tg
open PySem PySem.Spec L2 Ev
open PyProof.Rows hiding St
section
variable {cs : CS} {f g : EvE} {fp : EvP} {b : EvS} {i : Nat} {mm : Md} {d d2 : D} {l l2 : Lv} {a a2 v v2 : Bool} {α β σ R T : Type} {e : α → D} {Ψ : T → Out → Prop} {upd : D → D} {fz : List Nat}
theorem je_isiW {C : Addr} {fs : List (Str × D)} (h : JE cs f (.ins C fs) l a v) : JI cs (eIsiO C f) (.bl true) := fun ρ r => by
  obtain ⟨x, e1, k1⟩ := h ρ r
  refine ⟨rB true, ?_, .i _⟩
  unfold eIsiO
  rw [e1]
  simp only [Option.bind_some, k1.d, if_true]
theorem jp_tx {ds : List D} {k : Int} {j : Nat} (h : JP cs fp i mm (.tup ds) a upd) (hk : JE cs g (.int k) l a2 v) (hj : L2.ixN ds.length k = some j) (hd : ds[j]? = some d) : JP cs (pTx fp g) i mm d a (fun x => upd (.tup (ds.set j x))) := ⟨h.1, fun ρ r => by
  obtain ⟨p, s, e1, e2, e3, e4, e5, e6⟩ := h.2 ρ r
  obtain ⟨z, g1, g2⟩ := hk ρ r
  refine ⟨p ++ [j], s, ?_, e2, e3, e4, dAt_snoc e5 hd, fun d' => ?_⟩
  · unfold pTx
    rw [e1, g1]
    simp only [Option.bind_some, g2.d, hj, hd, Option.map_some]
  · rw [dSet_snoc d' e5 hd, e6]
    rfl⟩
end
end Tg
set_option Elab.async false
set_option linter.all false
set_option maxRecDepth 100000
namespace Tg
open PySem PySem.Spec L2 Ev
open PyProof.Rows hiding St
section
variable {cs : CS} {f g fk fv : EvE} {fp : EvP} {b : EvS} {i : Nat} {mm : Md} {d d2 : D} {l l2 : Lv} {a a2 a3 v v2 : Bool} {α β σ R T : Type} {e : α → D} {Ψ : T → Out → Prop} {upd : D → D} {fz : List Nat}
theorem imm_flI (xs : List Int) : imm (dF dI xs) = true := immAll_map (fun _ => rfl) xs
end
end Tg
set_option Elab.async false
set_option linter.all false
set_option maxRecDepth 100000
namespace Tg
open PySem PySem.Spec L2 Ev
open PyProof.Rows hiding St
end Tg
set_option Elab.async false
set_option linter.all false
set_option maxRecDepth 100000
namespace Tg
open PySem PySem.Spec L2 Ev
open PyProof.Rows hiding St
end Tg
namespace Tg
open PySem PySem.Spec L2 Ev
open PyProof.Rows hiding St
theorem js_le {cs : CS} {b : EvS} {T : Type} {o : Option T} {Ψ : T → Out → Prop} (C : CS) (h : Le cs C) (k : JS C b o Ψ) : JS cs b o Ψ := fun ρ r t ht => k ρ (h.rel r) t ht
end Tg
namespace Tg
open PySem PySem.Spec L2 Ev
open PyProof.Rows hiding St
end Tg
set_option Elab.async false
set_option linter.all false
set_option maxRecDepth 100000
namespace Tg
open PySem PySem.Spec L2 Ev
open PyProof.Rows hiding St
end Tg
namespace Tg
open PySem PySem.Spec L2 Ev
open PyProof.Rows hiding St
end Tg
set_option Elab.async false
set_option linter.all false
set_option maxRecDepth 100000
namespace Tg
open PySem PySem.Spec L2 Ev
open PyProof.Rows hiding St
abbrev dAny : Unit → D := fun _ => .any
end Tg
set_option Elab.async false
set_option linter.all false
set_option maxRecDepth 100000
namespace Tg
open PySem PySem.Spec L2 Ev
open PyProof.Rows hiding St
section
variable {cs : CS} {f g k : EvE} {d d2 d3 : D} {l l2 l3 : Lv} {a a2 a3 v v2 v3 : Bool}
theorem jt_chn {G G' : D → D → Option Bool} {b b2 : Bool} (h1 : JE cs f d l a v) (h2 : JE cs g d2 l2 a2 v2) (h3 : JE cs k d3 l3 a3 v3) (hi : imm d2 = true) (q : G d d2 = some b) (q2 : G' d2 d3 = some b2) : JT cs (tChn G G' f g k) (b && b2) := fun ρ r => by
  obtain ⟨x, e1, k1⟩ := h1 ρ r
  obtain ⟨y, e2, k2⟩ := h2 ρ r
  obtain ⟨z, e3, k3⟩ := h3 ρ r
  unfold tChn
  rw [e1, e2]
  simp only [Option.bind_some, k1.d, k2.d, q, hi, if_true]
  cases b with
  | true => rw [if_pos rfl, e3]; simp only [Option.bind_some, k3.d, q2, Bool.true_and]
  | false => rfl
theorem je_chn {G G' : D → D → Option Bool} {b b2 : Bool} (h1 : JE cs f d l a v) (h2 : JE cs g d2 l2 a2 v2) (h3 : JE cs k d3 l3 a3 v3) (hi : imm d2 = true) (q : G d d2 = some b) (q2 : G' d2 d3 = some b2) : JI cs (eChn G G' f g k) (.bl (b && b2)) := fun ρ r => by
  refine ⟨rB (b && b2), ?_, .i _⟩
  unfold eChn
  rw [jt_chn h1 h2 h3 hi q q2 ρ r]
  rfl
end
end Tg
set_option Elab.async false
set_option linter.all false
set_option maxRecDepth 100000
namespace Tg
open PySem PySem.Spec L2 Ev
open PyProof.Rows hiding St
end Tg
set_option Elab.async false
set_option linter.all false
set_option maxRecDepth 100000
namespace Tg
open PySem PySem.Spec L2 Ev
open PyProof.Rows hiding St
end Tg
set_option Elab.async false
set_option linter.all false
set_option maxRecDepth 100000
namespace Tg
open PySem PySem.Spec L2 Ev
open PyProof.Rows hiding St
end Tg
set_option Elab.async false
set_option linter.all false
set_option maxRecDepth 100000
namespace Tg
open PySem PySem.Spec L2 Ev
open PyProof.Rows hiding St
end Tg
set_option Elab.async false
set_option linter.all false
set_option maxRecDepth 100000
namespace Tg
open PySem PySem.Spec L2 Ev
open PyProof.Rows hiding St
end Tg
set_option Elab.async false
set_option linter.all false
set_option maxRecDepth 100000
namespace Tg
open PySem PySem.Spec L2 Ev
open PyProof.Rows hiding St
end Tg
set_option Elab.async false
set_option linter.all false
set_option maxRecDepth 100000
namespace Tg
open PySem PySem.Spec L2 Ev
open PyProof.Rows hiding St
def JK (cs : CS) (f : EvK) (cs' : CS) (d : D) (al : Bool) : Prop := ∀ ρ, Rel ρ cs → ∃ ρ' a, f ρ = some (ρ', d, a) ∧ Rel ρ' cs' ∧ (a = true → al = true)
def JKs (cs : CS) (f : EvKs) (cs' : CS) (ds : List D) (al : Bool) : Prop := ∀ ρ, Rel ρ cs → ∃ ρ' a, f ρ = some (ρ', ds, a) ∧ Rel ρ' cs' ∧ (a = true → al = true)
section
variable {cs cs1 cs2 : CS} {fe : EvE} {f : EvK} {g : EvKs} {d : D} {ds : List D} {a a2 : Bool} {i : Nat} {b : EvS} {T R : Type} {Ψ : T → Out → Prop}
theorem jk_val (h : JE cs fe d .full a false) : JK cs (tkVal fe) cs d a := fun ρ r => by
  obtain ⟨y, e, k⟩ := h ρ r
  refine ⟨ρ, y.al, ?_, r, k.al⟩
  have hv : y.vw = false := by
    cases q : y.vw with
    | false => rfl
    | true => exact nomatch k.vw q
  have hl : y.l = .full := by
    have := k.l
    cases q : y.l with
    | full => rfl
    | top => rw [q] at this; exact nomatch this
    | shr => rw [q] at this; exact nomatch this
  unfold tkVal
  simp only [e, Option.bind_some, hv, hl, k.d]
theorem jks_nil : JKs cs ksNil cs [] false := fun ρ r => ⟨ρ, false, rfl, r, id⟩
theorem jks_cons (h : JK cs f cs1 d a) (h2 : JKs cs1 g cs2 ds a2) : JKs cs (ksCons f g) cs2 (d :: ds) (a || a2) := fun ρ r => by
  obtain ⟨ρ1, b1, e1, r1, k1⟩ := h ρ r
  obtain ⟨ρ2, b2, e2, r2, k2⟩ := h2 ρ1 r1
  refine ⟨ρ2, b1 || b2, ?_, r2, fun z => ?_⟩
  · unfold ksCons
    simp only [e1, Option.bind_some, e2, Option.map_some]
  · rcases Bool.or_eq_true _ _ ▸ z with z | z
    · rw [k1 z]; rfl
    · rw [k2 z]; exact Bool.or_true _
theorem jk_tup (h : JKs cs g cs2 ds a) (hl : decide (ds.length ≤ 1000) = true := by rfl) : JK cs (tkTup g) cs2 (.tup ds) a := fun ρ r => by
  obtain ⟨ρ1, b1, e1, r1, k1⟩ := h ρ r
  refine ⟨ρ1, b1, ?_, r1, k1⟩
  unfold tkTup
  simp only [e1, Option.bind_some]
  rw [if_pos hl]
theorem js_retK {q : R → T} {er : R → D} {lr : Lv} {ra : Bool} {x : R} (hr : RetOk Ψ q er lr ra) (h : JK cs f cs2 (er x) a) (hlr : leL lr .full = true := by rfl) (ha : (!a || ra) = true := by rfl) : JS cs (sSeq (sRetK f) b) (some (q x)) Ψ := fun ρ r t ht => by
  cases ht
  obtain ⟨ρ1, b1, e1, r1, k1⟩ := h ρ r
  refine ⟨.rt ρ1 (er x) .full b1, ?_, ?_⟩
  · unfold sSeq sRetK
    simp only [e1, Option.map_some, Option.bind_some]
  · refine hr _ x _ _ hlr (fun z => ?_) trivial
    have := k1 z
    rw [this] at ha
    simpa using ha
end
end Tg
set_option Elab.async false
set_option linter.all false
set_option maxRecDepth 100000
namespace Tg
open PySem PySem.Spec L2 Ev
open PyProof.Rows hiding St
end Tg
set_option Elab.async false
set_option linter.all false
set_option maxRecDepth 100000
namespace Tg
open PySem PySem.Spec L2 Ev
open PyProof.Rows hiding St
end Tg
set_option Elab.async false
set_option linter.all false
set_option maxRecDepth 100000
namespace Tg
open PySem PySem.Spec L2 Ev
open PyProof.Rows hiding St
end Tg
set_option Elab.async false
set_option linter.all false
set_option maxRecDepth 100000
namespace Tg
open PySem PySem.Spec L2 Ev
open PyProof.Rows hiding St
section
variable {cs cs2 : CS} {fp : EvP} {fe : EvE} {g : EvKs} {i : Nat} {mm m2 : Md} {d dd d2 : D} {ds : List D} {a a0 a1 a2 a3 : Bool} {upd : D → D} {b : EvS} {α T : Type} {e : α → D} {Ψ : T → Out → Prop} {fz : List Nat} {l2 : Lv}
theorem jks_lateI (hp : JP cs fp i mm d a upd) (hn : nthC cs i = some ⟨dd, mm, a0⟩) (hi : imm dd = false) (hI : immL d = true) (h : JKs cs g cs2 ds a2) (hn2 : nthC cs2 i = some ⟨dd, .f, a3⟩) : JKs cs (ksLate fp g) (hideC cs2 i) (d :: ds) a2 := fun ρ r => by
  obtain ⟨p, s, e1, e2, e3, e4, e5, _⟩ := hp.2 ρ r
  obtain ⟨ρ2, b2, f1, r2, k2⟩ := h ρ r
  obtain ⟨s', g1, g2⟩ := r.nthC hn
  rw [e2] at g1
  cases g1
  obtain ⟨s2, h1, h2⟩ := r2.nthC hn2
  have hd2 : s2.d = dd := h2.d
  have hd1 : s.d = dd := g2.d
  have hda : dAt s2.d p = some d := by rw [hd2, ← hd1]; exact e5
  have hl : s2.l = .full := h2.m hi
  refine ⟨ρ2.set i none, b2, ?_, r2.hide i, k2⟩
  unfold ksLate
  simp only [e1, Option.bind_some, f1, h1, hda]
  rw [if_pos hl, if_pos hI]
end
end Tg
set_option Elab.async false
set_option linter.all false
set_option maxRecDepth 100000
namespace Tg
open PySem PySem.Spec L2 Ev
open PyProof.Rows hiding St
section
variable {cs : CS} {f g : EvE} {d : D} {ds : List D} {i j : Int} {l l2 : Lv} {a a2 v v2 : Bool}
theorem je_ixO {k : Nat} (h1 : JE cs f (.tup ds) .full a false) (h2 : JE cs g (.int j) l2 a2 v2) (hk : L2.ixN ds.length j = some k) (hd : ds[k]? = some d) : JE cs (eIxO f g) d .full a false := fun ρ r => by
  obtain ⟨x, e1, k1⟩ := h1 ρ r
  obtain ⟨y, e2, k2⟩ := h2 ρ r
  have hv : x.vw = false := by
    cases q : x.vw with
    | false => rfl
    | true => exact nomatch k1.vw q
  refine ⟨⟨d, .full, x.al, false⟩, ?_, ⟨rfl, rfl, k1.al, fun z => nomatch z⟩⟩
  unfold eIxO
  simp only [e1, e2, Option.bind_some, k1.d, k2.d, hk]
  rw [if_pos ⟨leL_full k1.l, hv⟩, hd]
  rfl
end
end Tg
set_option Elab.async false
set_option linter.all false
set_option maxRecDepth 100000
namespace Tg
open PySem PySem.Spec L2 Ev
open PyProof.Rows hiding St
end Tg
set_option Elab.async false
set_option linter.all false
set_option maxRecDepth 100000
namespace Tg
open PySem PySem.Spec L2 Ev
open PyProof.Rows hiding St
end Tg
set_option Elab.async false
set_option linter.all false
set_option maxRecDepth 100000
namespace Tg
open PySem PySem.Spec L2 Ev
open PyProof.Rows hiding St
end Tg
set_option Elab.async false
set_option linter.all false
set_option maxRecDepth 100000
namespace Tg
open PySem PySem.Spec L2 Ev
open PyProof.Rows hiding St
end Tg
set_option Elab.async false
set_option linter.all false
set_option maxRecDepth 100000
namespace Tg
open PySem PySem.Spec L2 Ev
open PyProof.Rows hiding St
end Tg
set_option Elab.async false
set_option linter.all false
set_option maxRecDepth 100000
namespace Tg
open PySem PySem.Spec L2 Ev
open PyProof.Rows hiding St
end Tg
set_option Elab.async false
set_option linter.all false
set_option maxRecDepth 100000
namespace Tg
open PySem PySem.Spec L2 Ev
open PyProof.Rows hiding St
end Tg
set_option Elab.async false
set_option linter.all false
set_option maxRecDepth 100000
namespace Tg
open PySem PySem.Spec L2 Ev
open PyProof.Rows hiding St
end Tg
set_option Elab.async false
set_option linter.all false
set_option maxRecDepth 100000
namespace Tg
open PySem PySem.Spec L2 Ev
open PyProof.Rows hiding St
end Tg
set_option Elab.async false
set_option linter.all false
set_option maxRecDepth 100000
namespace Tg
open PySem PySem.Spec L2 Ev
open PyProof.Rows hiding St
end Tg
set_option Elab.async false
set_option linter.all false
set_option maxRecDepth 100000
namespace Tg
open PySem PySem.Spec L2 Ev
open PyProof.Rows hiding St
end Tg
set_option Elab.async false
set_option linter.all false
set_option maxRecDepth 100000
namespace Tg
open PySem PySem.Spec L2 Ev
open PyProof.Rows hiding St
end Tg
set_option Elab.async false
set_option linter.all false
set_option maxRecDepth 100000
namespace Tg
open PySem PySem.Spec L2 Ev
open PyProof.Rows hiding St
end Tg
set_option Elab.async false
set_option linter.all false
set_option maxRecDepth 100000
namespace Tg
open PySem PySem.Spec L2 Ev
open PyProof.Rows hiding St
section
variable {cs : CS} {f : EvE} {d : D} {l : Lv} {a v al : Bool} {m : Md} {R : Type}
theorem wF (h : JE cs f d l a v) (hl : leL .full l = true := by rfl) (ha : (!a || false) = true := by rfl) (hv : (!v || false) = true := by rfl) : JE cs f d .full false false := h.w hl ha hv
theorem wS (h : JE cs f d l a v) (hl : leL .shr l = true := by rfl) (ha : (!a || false) = true := by rfl) (hv : (!v || false) = true := by rfl) : JE cs f d .shr false false := h.w hl ha hv
theorem jni (i : Nat) (h : nthC cs i = some ⟨d, m, al⟩) (hi : imm d = true) : JI cs (eName i) d := jn_i h hi
theorem jns (i : Nat) (h : nthC cs i = some ⟨d, .s, al⟩) : JE cs (eName i) d .shr al false := jn_s h
theorem jnv (i : Nat) (h : nthC cs i = some ⟨d, m, al⟩) : JE cs (eName i) d .shr al true := jn_v h
theorem fnk (n : Nat) {body : EvS} {ds : List D} {o : Option R} {er : R → D} {lr : Lv} {ra : Bool} {x : R} (h : JS (ds.map (fun d => some ⟨d, .s, true⟩) ++ List.replicate (n - ds.length) none) body o (ΨR er lr ra)) (hx : o = some x) (hn : ds.length ≤ n := by exact Nat.le_of_ble_eq_true rfl) : RetE (Ev.run body n) ds (er x) lr ra := fn_ok h hx hn
end
end Tg
set_option Elab.async false
set_option linter.all false
set_option maxRecDepth 100000
namespace Tg
open PySem PySem.Spec L2 Ev
open PyProof.Rows hiding St
end Tg
set_option Elab.async false
set_option linter.all false
set_option maxRecDepth 100000
namespace Tg
open PySem PySem.Spec L2 Ev
open PyProof.Rows hiding St
section
variable {α β σ T : Type} {e : α → D}
def gN (n l : Nat) : Option Unit := if n < l then some () else none
def nH (len : Nat) (k : Int) : Nat := (L2.ixN len k).getD 0
def envC : CS → Ev.Env
  | [] => []
  | some ⟨d, .s, a⟩ :: cs => some ⟨d, .shr, a, none⟩ :: envC cs
  | some ⟨d, .f, a⟩ :: cs => some ⟨d, .full, a, none⟩ :: envC cs
  | _ :: cs => none :: envC cs
inductive KsR : Ev.Env → CS → Prop
  | nil : KsR [] []
  | no {x : Option Sv} {ρ : Ev.Env} {cs : CS} : KsR ρ cs → KsR (x :: ρ) (none :: cs)
  | so {s : Sv} {c : Cl} {ρ : Ev.Env} {cs : CS} : s.d = c.d → imm c.d = false → ((c.m = .s ∧ s.l = .shr) ∨ (c.m = .f ∧ s.l = .full)) → (s.al = true → c.al = true) → KsR ρ cs → KsR (some s :: ρ) (some c :: cs)
theorem KsR.rel : ∀ {ρ : Ev.Env} {cs : CS}, KsR ρ cs → Rel (envC cs) cs
  | _, _, .nil => ⟨rfl, fun i c e => by simp at e⟩
  | _, _, .no (cs := cs) h => by
    have r := h.rel
    refine ⟨by show (none :: envC cs).length = _; rw [List.length_cons, List.length_cons, r.len], fun i c e => ?_⟩
    cases i with
    | zero => simp at e
    | succ i => exact r.at_ i c (by simpa using e)
  | _, _, .so (s := s) (c := c) (cs := cs) hd _ hm ha h => by
    have r := h.rel
    obtain ⟨d, m, a⟩ := c
    dsimp only at hd hm ha
    rcases hm with ⟨rfl, _⟩ | ⟨rfl, _⟩
    all_goals
      refine ⟨by show (some _ :: envC cs).length = _; rw [List.length_cons, List.length_cons, r.len], fun i c e => ?_⟩
      cases i with
      | zero =>
        simp at e
        subst e
        exact ⟨_, rfl, rfl, fun _ => rfl, fun _ z => z⟩
      | succ i => exact r.at_ i c (by simpa using e)
theorem KsR.of : ∀ {ρ : Ev.Env} {cs : CS}, ρ.length = cs.length → (∀ (i : Nat) (c : Cl), cs[i]? = some (some c) → ∃ s : Sv, ρ[i]? = some (some s) ∧ s.d = c.d ∧ imm c.d = false ∧ ((c.m = .s ∧ s.l = .shr) ∨ (c.m = .f ∧ s.l = .full)) ∧ (s.al = true → c.al = true)) → KsR ρ cs
  | [], [], _, _ => .nil
  | [], _ :: _, h, _ => by simp at h
  | _ :: _, [], h, _ => by simp at h
  | x :: ρ, none :: cs, h, k => .no (KsR.of (by simpa using h) fun i c e => k (i + 1) c (by simpa using e))
  | x :: ρ, some c :: cs, h, k => by
    obtain ⟨s, e1, e2, e3, e4, e5⟩ := k 0 c rfl
    simp at e1
    subst e1
    exact .so e2 e3 e4 e5 (KsR.of (by simpa using h) fun i c e => k (i + 1) c (by simpa using e))
inductive LeK : CS → CS → Prop
  | nil : LeK [] []
  | no {x : Option Cl} {a b : CS} : LeK a b → LeK (none :: a) (x :: b)
  | so {c : Cl} {a b : CS} : imm c.d = false → (c.m = .s ∨ c.m = .f) → LeK a b → LeK (some c :: a) (some c :: b)
theorem LeK.len : ∀ {a b : CS}, LeK a b → a.length = b.length
  | _, _, .nil => rfl
  | _, _, .no h => by rw [List.length_cons, List.length_cons, h.len]
  | _, _, .so _ _ h => by rw [List.length_cons, List.length_cons, h.len]
theorem LeK.get : ∀ {a b : CS} {i : Nat} {c : Cl}, LeK a b → a[i]? = some (some c) → b[i]? = some (some c) ∧ imm c.d = false ∧ (c.m = .s ∨ c.m = .f)
  | _, _, _, _, .nil, e => by simp at e
  | _, _, 0, _, .no _, e => by simp at e
  | _, _, i + 1, _, .no h, e => by
    have := h.get (i := i) (by simpa using e)
    exact ⟨by simpa using this.1, this.2⟩
  | _, _, 0, _, .so h1 h2 _, e => by
    simp at e
    subst e
    exact ⟨rfl, h1, h2⟩
  | _, _, i + 1, _, .so _ _ h, e => by
    have := h.get (i := i) (by simpa using e)
    exact ⟨by simpa using this.1, this.2⟩
end
end Tg
set_option Elab.async false
set_option linter.all false
set_option maxRecDepth 100000
namespace Tg
open PySem PySem.Spec L2 Ev
open PyProof.Rows hiding St
def mkSO (x : Str) : Option SS := if h : PyData.strOk x = true then some ⟨x, h⟩ else none
theorem mkSO_some {x : Str} {s : SS} (h : mkSO x = some s) : s.1 = x := by
  unfold mkSO at h
  split at h
  · cases h; rfl
  · cases h
def allS : List Str → Option (List SS)
  | [] => some []
  | x :: xs => bindO (mkSO x) fun s => (allS xs).map (s :: ·)
theorem allS_map : ∀ {xs : List Str} {ss : List SS}, allS xs = some ss → xs.map D.str = ss.map dSS
  | [], _, h => by cases h; rfl
  | x :: xs, ss, h => by
    unfold allS at h
    obtain ⟨s, h1, h⟩ := bindO_some h
    obtain ⟨r, h2, h⟩ := Option.map_eq_some_iff.mp h
    subst h
    rw [List.map_cons, List.map_cons, allS_map h2, ← mkSO_some h1]
def catS (a b : SS) : Option SS := if a.1.length + b.1.length ≤ 1000000 then mkSO (a.1 ++ b.1) else none
def ixS (a : SS) (i : Int) : Option SS := if a.1.length ≤ 1000000 then (atI a.1.cps.toList i).bind fun c => mkSO ⟨#[c]⟩ else none
def cutSO (a : SS) (l h : Option Int) : Option SS := if a.1.length ≤ 1000000 then mkSO (cutS a.1 l h) else none
def lenS (a : SS) : Option Int := if a.1.length ≤ 1000000 then some (a.1.length : Int) else none
def strI (i : Int) : Option SS := if i.natAbs.log2 < 1920 then mkSO (toString i) else none
def intS (a : SS) : Option Int := if a.1.length ≤ 640 then PySem.intText? a.1 else none
def splitS (a b : SS) : Option (List SS) := if b.1.length ≠ 0 ∧ a.1.length ≤ 1000000 then allS (Txt.split a.1 b.1) else none
def partS (a b : SS) : Option (SS × SS × SS) := if b.1.length ≠ 0 ∧ a.1.length ≤ 1000000 then bindO (mkSO (Txt.partition a.1 b.1).1) fun x => bindO (mkSO (Txt.partition a.1 b.1).2.1) fun y => bindO (mkSO (Txt.partition a.1 b.1).2.2) fun z => some (x, y, z) else none
def startsS (a b : SS) : Bool := Txt.startswith a.1 b.1
def joinS (a : SS) (ys : List SS) : Option SS := if (ys.map (·.1.length)).sum + ys.length * a.1.length ≤ 1000000 then mkSO (Txt.join a.1 (ys.map (·.1))) else none
def inS (a z : SS) : Option Bool := match a.1.cps.toList with
  | [c] => some (decide (c ∈ z.1.cps.toList))
  | _ => none
def sgnS (a : SS) : Option (List SS) := allS (a.1.cps.toList.map fun c => ⟨#[c]⟩)
section
variable {cs : CS} {f g : EvE} {ga : EvA} {l l2 : Lv} {a a2 v v2 fl al vw : Bool} {x y z : SS}
theorem je_catS (h1 : JE cs f (dSS x) l a v) (h2 : JE cs g (dSS y) l2 a2 v2) (h : catS x y = some z) : JI cs (ePlusS f g) (dSS z) := fun ρ r => by
  obtain ⟨p, e1, k1⟩ := h1 ρ r
  obtain ⟨q, e2, k2⟩ := h2 ρ r
  unfold catS at h
  split at h
  · rename_i hl
    refine ⟨rA (dSS z), ?_, .i _⟩
    unfold ePlusS
    rw [e1, e2]
    simp only [Option.bind_some, k1.d, k2.d]
    rw [if_pos hl, dSS, mkSO_some h]
  · cases h
theorem je_ixS {i : Int} (h1 : JE cs f (dSS x) l a v) (h2 : JE cs g (.int i) l2 a2 v2) (h : ixS x i = some z) : JI cs (eIxS f g) (dSS z) := fun ρ r => by
  obtain ⟨p, e1, k1⟩ := h1 ρ r
  obtain ⟨q, e2, k2⟩ := h2 ρ r
  unfold ixS at h
  split at h
  · rename_i hl
    obtain ⟨c, e3, h⟩ := bind_some h
    refine ⟨rA (dSS z), ?_, .i _⟩
    unfold eIxS
    rw [e1, e2]
    simp only [Option.bind_some, k1.d, k2.d]
    rw [if_pos hl, e3, dSS, mkSO_some h]
    rfl
  · cases h
theorem je_slS {f1 f2 : EvO} {lo hi : Option Int} (h1 : JE cs f (dSS x) l a v) (h2 : JO cs f1 lo) (h3 : JO cs f2 hi) (h : cutSO x lo hi = some z) : JI cs (eSlS f f1 f2) (dSS z) := fun ρ r => by
  obtain ⟨p, e1, k1⟩ := h1 ρ r
  unfold cutSO at h
  split at h
  · rename_i hl
    refine ⟨rA (dSS z), ?_, .i _⟩
    unfold eSlS
    rw [e1, h2 ρ r, h3 ρ r]
    simp only [Option.bind_some, k1.d]
    rw [if_pos hl, dSS, mkSO_some h]
  · cases h
theorem n_s {k : Int} (h : lenS x = some k) : ∃ n : Nat, k = n ∧ lenOf (dSS x) = some n := by
  unfold lenS at h
  split at h
  · rename_i hl
    cases h
    exact ⟨_, rfl, if_pos hl⟩
  · cases h
theorem je_lenS {k : Int} (h1 : JE cs f (dSS x) l a v) (h : lenS x = some k) : JI cs (eLen (aCons f aNil)) (.int k) := by
  obtain ⟨n, rfl, hn⟩ := n_s h
  exact je_len h1 hn
theorem b_strI {i : Int} (h : strI i = some z) : bStrI [.int i] = some (dSS z, .full) := by
  unfold strI at h
  split at h
  · rename_i hl
    show (if i.natAbs.log2 < 1920 then _ else _) = _
    rw [if_pos hl, dSS, mkSO_some h]
  · cases h
theorem b_intS {i : Int} (h : intS x = some i) : bIntS [dSS x] = some (.int i, .full) := by
  unfold intS at h
  split at h
  · rename_i hl
    show (if x.1.length ≤ 640 then _ else _) = _
    rw [if_pos hl, h]
    rfl
  · cases h
theorem m_splitS {ys : List SS} (h : splitS x y = some ys) : mSplit (dSS x) [dSS y] = some (dL dSS ys, .top) := by
  unfold splitS at h
  split at h
  · rename_i hc
    show (if y.1.length ≠ 0 ∧ x.1.length ≤ 1000000 then _ else _) = _
    rw [if_pos hc, allS_map h]
  · cases h
theorem m_partS {p : SS × SS × SS} (h : partS x y = some p) : mPart (dSS x) [dSS y] = some (dT3 dSS dSS dSS p, .full) := by
  unfold partS at h
  split at h
  · rename_i hc
    obtain ⟨p1, h1, h⟩ := bindO_some h
    obtain ⟨p2, h2, h⟩ := bindO_some h
    obtain ⟨p3, h3, h⟩ := bindO_some h
    cases h
    show (if y.1.length ≠ 0 ∧ x.1.length ≤ 1000000 then _ else _) = _
    rw [if_pos hc, dT3, dSS, dSS, dSS, mkSO_some h1, mkSO_some h2, mkSO_some h3]
  · cases h
theorem m_startsS : mStarts (dSS x) [dSS y] = some (.bl (startsS x y), .full) := rfl
theorem strsOf_map : ∀ ys : List SS, strsOf (ys.map dSS) = some (ys.map (·.1))
  | [] => rfl
  | y :: ys => by
    show (strsOf (ys.map dSS)).map _ = _
    rw [strsOf_map ys]
    rfl
theorem m_joinS {ys : List SS} (h : joinS x ys = some z) : mJoin (dSS x) [dL dSS ys] = some (dSS z, .full) := by
  unfold joinS at h
  split at h
  · rename_i hc
    show ((strsOf (ys.map dSS)).bind _) = _
    rw [strsOf_map, Option.bind_some]
    rw [if_pos (by rw [List.map_map, List.length_map]; exact hc), dSS, mkSO_some h]
  · cases h
theorem q_inS {b : Bool} (h : inS x z = some b) : gInS (dSS x) (dSS z) = some b := h
theorem jit_s {ss : List SS} (h1 : JE cs f (dSS x) l a v) (h : sgnS x = some ss) : JIt cs (iStrE f) ss dSS false := fun ρ r => by
  obtain ⟨p, e1, k1⟩ := h1 ρ r
  refine ⟨false, id, ?_⟩
  unfold iStrE
  rw [e1]
  simp only [Option.bind_some, k1.d]
  have := allS_map h
  rw [List.map_map] at this
  have e2 : (x.1.cps.toList.map fun c => ((D.str ⟨#[c]⟩, false) : D × Bool)) = (x.1.cps.toList.map (D.str ∘ fun c => (⟨#[c]⟩ : Str))).map fun d => (d, false) := by rw [List.map_map]; rfl
  rw [e2, this, List.map_map]
  rfl
end
end Tg
set_option Elab.async false
set_option linter.all false
set_option maxRecDepth 100000
namespace Tg
open PySem PySem.Spec L2 Ev
open PyProof.Rows hiding St
def two {α : Type} : List α → Option (α × α)
  | [x, y] => some (x, y)
  | _ => none
section
variable {cs : CS} {f : EvE} {fp : EvP} {b : EvS} {l : Lv} {a v : Bool} {α T : Type} {e : α → D} {Ψ : T → Out → Prop} {i j : Nat} {mm : Md} {d : D} {upd : D → D}
theorem js_asgL {xs : List α} {k : α × α → Option T} (he : JE cs f (dL e xs) l a v) (hi : ∀ x, imm (e x) = true) (h1 : decide (i < cs.length) = true) (h2 : decide (j < cs.length) = true)
    (h : ∀ q, JS (put (put cs i ⟨e q.1, .a, true⟩) j ⟨e q.2, .a, true⟩) b (k q) Ψ) : JS cs (sSeq (sAsgL i j f) b) (bindO (two xs) k) Ψ := fun ρ r t ht => by
  obtain ⟨q, e1, e2⟩ := bindO_some ht
  obtain ⟨y, e3, k3⟩ := he ρ r
  unfold two at e1
  split at e1
  · rename_i x1 x2
    cases e1
    have r1 := (r.put (i := i) (s := ⟨e x1, .full, false, none⟩) (c := ⟨e x1, .a, true⟩) ⟨rfl, fun _ => trivial, fun _ _ => rfl⟩).put (i := j) (s := ⟨e x2, .full, false, none⟩) (c := ⟨e x2, .a, true⟩) ⟨rfl, fun _ => trivial, fun _ _ => rfl⟩
    obtain ⟨out, g1, g2⟩ := h (x1, x2) _ r1 t e2
    refine ⟨out, ?_, g2⟩
    unfold sSeq sAsgL
    rw [e3]
    have hd : y.d = .lst [e x1, e x2] := k3.d
    simp only [Option.bind_some, hd]
    rw [if_pos ⟨hi _, hi _, by rw [r.len]; exact of_decide_eq_true h1, by rw [r.len]; exact of_decide_eq_true h2⟩]
    exact g1
  · cases e1
theorem js_take {o : Option T} {w : D} (hp : JP cs fp j mm d a upd) (hnd : isNd d = true) (hji : decide (j ≠ i) = true) (hil : decide (i < cs.length) = true) (hW : upd .any = w) (hw : imm w = false)
    (h : JS (put (put (hideC cs i) j ⟨w, mm, a⟩) i ⟨d, .f, a⟩) b o Ψ) : JS cs (sSeq (sTake fp i) b) o Ψ := fun ρ r t ht => by
  obtain ⟨p, s, g1, g2, g3, g4, g5, g6⟩ := hp.2 _ r
  have hl := fullM_ok hp.1 g3
  have r1 := ((r.hide i).put (i := j) (s := ⟨dSet s.d p .any, .full, s.al, s.pn⟩) (c := ⟨w, mm, a⟩) ⟨by rw [g6, hW], fun _ => ok_keep hp.1 g3 rfl rfl, fun _ z => g4 z⟩).put (i := i) (s := ⟨d, .full, s.al, none⟩) (c := ⟨d, .f, a⟩) ⟨rfl, fun _ => rfl, fun _ z => g4 z⟩
  obtain ⟨out, q1, q2⟩ := h _ r1 t ht
  refine ⟨out, ?_, q2⟩
  unfold sSeq sTake
  simp only [g1, Option.bind_some, g2]
  rw [if_pos ⟨of_decide_eq_true hji, by rw [r.len]; exact of_decide_eq_true hil, hnd⟩]
  exact q1
end
end Tg
set_option Elab.async false
set_option linter.all false
set_option maxRecDepth 100000
namespace Tg
open PySem PySem.Spec L2 Ev
open PyProof.Rows hiding St
def revSO (x : SS) : Option (List SS) := if x.1.length ≤ 1000000 then allS (RS.revS x.1) else none
theorem b_lstRevS {x : SS} {ys : List SS} (h : revSO x = some ys) : bLstRevS [dSS x] = some (dL dSS ys, .top) := by
  unfold revSO at h
  split at h
  · rename_i hl
    show (if x.1.length ≤ 1000000 then _ else _) = _
    rw [if_pos hl, allS_map h]
  · cases h
end Tg
set_option Elab.async false
set_option linter.all false
set_option maxRecDepth 100000
set_option maxHeartbeats 4000000
set_option synthInstance.maxSize 2000
set_option synthInstance.maxHeartbeats 400000
namespace Pr
open PySem PySem.Spec L2 Ev Tg
open PyProof.Rows hiding St
noncomputable section
abbrev WebT : Type := Int × (List ((Int × Int) × Int)) × (List (List Int))
def p_law_cell_at (x_script : List Int) (x_k : Int) : Option Int :=
if decide (x_k < (x_script.length : Int)) = true then
(bindO (idx x_script x_k) fun v1 =>
some v1)
else
(some (0 : Int))
def p_law_written (x_names_here : List SS) (x_rows : List (Int × Int × Int)) : Option (List SS) :=
bindO (bindO (lcM x_rows (fun y1 => (some true)) (fun y1 => (bindO (idx x_names_here y1.1) fun v2 => bindO (catS v2 (mkS "-" (by decide +kernel))) fun v3 => bindO (idx x_names_here y1.2.1) fun v4 => bindO (catS v3 v4) fun v5 => bindO (catS v5 (mkS " " (by decide +kernel))) fun v6 => bindO (strI y1.2.2) fun v7 => bindO (catS v6 v7) fun v8 => some v8))) big) fun v9 =>
some v9
def p_Web_init_L1 (x_many : Int) (x_a : Int) (x_b : Int) (x_heavy : Int) (x_self_table : List ((Int × Int) × Int)) (x_self_ends : List (List Int)) : Option ((List ((Int × Int) × Int)) × (List (List Int))) :=
if (decide (x_a = x_b) || (decide ((minI x_a x_b) < (0 : Int)) || decide ((maxI x_a x_b) ≥ x_many))) = true then
(none)
else
(if ahas x_self_table (x_a, x_b) = true then
(none)
else
(bindO (aputO x_self_table (x_a, x_b) x_heavy) fun x_self_table_2 =>
bindO (aputO x_self_table_2 (x_b, x_a) x_heavy) fun x_self_table_3 =>
bindO (idx x_self_ends x_a) fun v4 =>
bindO (appO v4 x_b) fun w5 =>
bindO (idx (setI x_self_ends x_a w5) x_b) fun v6 =>
bindO (appO v6 x_a) fun w7 =>
some (x_self_table_3, (setI (setI x_self_ends x_a w5) x_b w7))))
def p_Web_init (x_many : Int) (x_ties : List (Int × Int × Int)) : Option WebT :=
if (decide (x_many < (0 : Int)) || decide (x_many > (24 : Int))) = true then
(none)
else
(letB (x_many : Int) fun x_self_many =>
letB (([] : List ((Int × Int) × Int)) : List ((Int × Int) × Int)) fun x_self_table =>
bindO (rngO 0 x_many) fun v1 =>
bindO (big (v1.map fun y2 => ([] : List Int))) fun v3 =>
letB (v3 : List (List Int)) fun x_self_ends =>
bindO (forS x_ties (x_self_table, x_self_ends) (fun (x8 : Int × Int × Int) (s8 : (List ((Int × Int) × Int)) × (List (List Int))) => p_Web_init_L1 x_many x8.1 x8.2.1 x8.2.2 s8.1 s8.2)) fun s8 =>
some (x_self_many, s8.1, s8.2))
def p_law_mixed (x_cell : Int) (x_factor : Int) : Option Int :=
bindO (mulO (x_cell + (x_factor % (97 : Int))) x_factor) fun v1 =>
some (v1 % (2147483647 : Int))
def p_is_name (x_word : SS) : Option Bool :=
bindO (lenS x_word) fun v1 =>
bindO (if (decide ((1 : Int) ≤ v1) && decide (v1 ≤ (8 : Int))) = true then (bindO (sgnS x_word) fun v2 => bindO (bindO (lcM v2 (fun y3 => (some true)) (fun y3 => (bindO (inS y3 (mkS "abcdefghijklmnopqrstuvwxyz" (by decide +kernel))) fun v4 => some v4))) big) fun v5 => some (v5.all id)) else some false) fun v6 =>
some v6
def p_law_whole (x_found : Int) : Option Bool :=
some (true && (!false))
def p_Web_ties (x_self : WebT) : Option (List (Int × Int × Int)) :=
bindO (bindO (lcM x_self.2.1 (fun y1 => (some (decide (y1.1.1 < y1.1.2)))) (fun y1 => (some (y1.1.1, y1.1.2, y1.2)))) big) fun v2 =>
some (sort3 v2)
def p_Web_size (x_self : WebT) : Option Int :=
some x_self.1
def p_law_letter (x_number : Int) : Option SS :=
bindO (ixS (mkS "abcdefghijklmnopqrstuvwxyz" (by decide +kernel)) (x_number % (26 : Int))) fun v1 =>
some v1
def p_is_number (x_word : SS) : Option Bool :=
letB (x_word : SS) fun x_figures =>
bindO (if (startsS x_word (mkS "-" (by decide +kernel))) = true then
bindO (cutSO x_word (some (1 : Int)) none) fun v1 =>
letB (v1 : SS) fun x_figures_2 =>
some x_figures_2
else
some x_figures) fun (s2 : SS) =>
bindO (if decide (s2 = (mkS "" (by decide +kernel))) = true then some true else (bindO (lenS s2) fun v3 => bindO (if decide (v3 > (60 : Int)) = true then some true else (bindO (sgnS s2) fun v4 => bindO (bindO (lcM v4 (fun y5 => (some true)) (fun y5 => (bindO (inS y5 (mkS "0123456789" (by decide +kernel))) fun v6 => some v6))) big) fun v7 => some (!(v7.all id)))) fun v8 => some v8)) fun v9 =>
if v9 = true then
(some false)
else
(bindO (ixS s2 (0 : Int)) fun v10 =>
some ((!decide (v10 = (mkS "0" (by decide +kernel)))) || decide (x_word = (mkS "0" (by decide +kernel)))))
def p_place_of (x_names : List SS) (x_name : SS) : Option ((List SS) × Int) :=
bindO (if (!(decide (x_name ∈ x_names))) = true then
bindO (appO x_names x_name) fun x_names_2 =>
some x_names_2
else
some x_names) fun (s1 : (List SS)) =>
bindO (idxO s1 x_name) fun v2 =>
some (s1, v2)
def p_law_right (x_found : (List SS) × WebT) (x_names_here : List SS) (x_rows : List (Int × Int × Int)) : Option Bool :=
if ((!true) || ((!decide ((2 : Int) = (2 : Int))) || (!true))) = true then
(some false)
else
(bindO (big (x_found.1.map fun y1 => true)) fun v2 =>
if ((!(v2.all id)) || (!decide (x_found.1 = x_names_here))) = true then
(some false)
else
(bindO (if (!true) = true then some true else (bindO (p_Web_size x_found.2) fun v3 => bindO (p_law_whole v3) fun v4 => some (!v4))) fun v5 =>
if v5 = true then
(some false)
else
(bindO (p_Web_size x_found.2) fun v6 =>
bindO (if decide (v6 = (x_names_here.length : Int)) = true then (bindO (p_Web_ties x_found.2) fun v7 => some (decide (v7 = x_rows))) else some false) fun v8 =>
some v8)))
def p_shown_L1 (x_names : List SS) (x_a : Int) (x_b : Int) (x_heavy : Int) (x_things : List SS) : Option ((List SS)) :=
bindO (idx x_names x_a) fun v2 =>
bindO (catS v2 (mkS "-" (by decide +kernel))) fun v3 =>
bindO (idx x_names x_b) fun v4 =>
bindO (catS v3 v4) fun v5 =>
bindO (catS v5 (mkS " " (by decide +kernel))) fun v6 =>
bindO (strI x_heavy) fun v7 =>
bindO (catS v6 v7) fun v8 =>
bindO (appO x_things v8) fun x_things_2 =>
some x_things_2
def p_shown (x_names : List SS) (x_web : WebT) : Option SS :=
letB (x_names : List SS) fun x_things =>
bindO (p_Web_ties x_web) fun v1 =>
bindO (forS v1 x_things (fun (x9 : Int × Int × Int) (s9 : (List SS)) => p_shown_L1 x_names x9.1 x9.2.1 x9.2.2 s9)) fun s9 =>
bindO (joinS (mkS ", " (by decide +kernel)) s9) fun v10 =>
some v10
def p_law_word_L1 (x_k : Int) (x_number : Int) (x_word_here : SS) : Option (Int × SS) :=
bindO (p_law_mixed (x_number + x_k) (1103515245 : Int)) fun v2 =>
letB (v2 : Int) fun x_number_2 =>
bindO (p_law_letter (x_number_2 / (64 : Int))) fun v3 =>
bindO (catS x_word_here v3) fun v4 =>
letB (v4 : SS) fun x_word_here_2 =>
some (x_number_2, x_word_here_2)
def p_law_word (x_number : Int) : Option SS :=
letB ((mkS "" (by decide +kernel)) : SS) fun x_word_here =>
bindO (rngO 0 ((1 : Int) + ((x_number / (4 : Int)) % (8 : Int)))) fun v1 =>
bindO (forS v1 (x_number, x_word_here) (fun (x5 : Int) (s5 : Int × SS) => p_law_word_L1 x5 s5.1 s5.2)) fun s5 =>
some s5.2
def p_law_heavy (x_cell : Int) (x_way : Int) : Option Int :=
if decide (x_way = (0 : Int)) = true then
(some ((x_cell % (((2 : Int) * (1000000000000000000000000000000000000000000000000000000000000 : Int)) - (1 : Int))) - ((1000000000000000000000000000000000000000000000000000000000000 : Int) - (1 : Int))))
else
(bindO (p_law_mixed x_cell (1812433253 : Int)) fun v1 =>
some ((v1 % (21 : Int)) - (10 : Int)))
def p_tie_of (x_thing : SS) (x_names : List SS) (x_seen : List ((Int × Int) × Bool)) : Option ((List SS) × (List ((Int × Int) × Bool)) × (Int × Int × Int)) :=
bindO (partS x_thing (mkS " " (by decide +kernel))) fun v1 =>
letB (v1 : SS × SS × SS) fun q2 =>
bindO (partS q2.1 (mkS "-" (by decide +kernel))) fun v3 =>
letB (v3 : SS × SS × SS) fun q4 =>
bindO (p_is_name q4.1) fun v5 =>
bindO (if (!v5) = true then some true else (bindO (p_is_name q4.2.2) fun v6 => bindO (if (!v6) = true then some true else (bindO (p_is_number q2.2.2) fun v7 => some ((!v7) || decide (q4.1 = q4.2.2)))) fun v8 => some v8)) fun v9 =>
if v9 = true then
(none)
else
(bindO (p_place_of x_names q4.1) fun v10 =>
letB (v10.2 : Int) fun x_a =>
bindO (p_place_of v10.1 q4.2.2) fun v11 =>
letB (v11.2 : Int) fun x_b =>
if ahas x_seen (x_a, x_b) = true then
(none)
else
(bindO (aputO x_seen (x_a, x_b) true) fun x_seen_2 =>
bindO (aputO x_seen_2 (x_b, x_a) true) fun x_seen_3 =>
bindO (intS q2.2.2) fun v12 =>
some (v11.1, x_seen_3, (x_a, x_b, v12))))
def p_law_things_L2 (x_word_here : SS) (x_names_here : List SS) : Option ((List SS)) :=
bindO (if (!(decide (x_word_here ∈ x_names_here))) = true then
bindO (appO x_names_here x_word_here) fun x_names_here_2 =>
some x_names_here_2
else
some x_names_here) fun (s8 : (List SS)) =>
some s8
def p_law_things_L1 (x_pool : List SS) (x_way : Int) (x_cell : Int) (x_things_here : List SS) (x_names_here : List SS) (x_rows : List (Int × Int × Int)) (x_seen : List (SS × SS)) : Option ((List SS) × (List SS) × (List (Int × Int × Int)) × (List (SS × SS))) :=
bindO (p_law_mixed x_cell (1103515245 : Int)) fun v1 =>
letB (v1 : Int) fun x_number =>
bindO (modO (x_number / (8 : Int)) (x_pool.length : Int)) fun v2 =>
bindO (idx x_pool v2) fun v3 =>
letB (v3 : SS) fun x_one =>
bindO (p_law_mixed x_cell (1812433253 : Int)) fun v4 =>
bindO (modO (v4 / (8 : Int)) (x_pool.length : Int)) fun v5 =>
bindO (idx x_pool v5) fun v6 =>
letB (v6 : SS) fun x_other =>
bindO (p_law_heavy x_cell x_way) fun v7 =>
letB (v7 : Int) fun x_heavy_here =>
bindO (if (decide ((x_number % (4 : Int)) = (0 : Int)) && (!(decide (x_one ∈ x_names_here)))) = true then
bindO (appO x_names_here x_one) fun x_names_here_2 =>
bindO (appO x_things_here x_one) fun x_things_here_2 =>
some (x_names_here_2, x_things_here_2, x_seen, x_rows)
else
bindO (if ((!decide (x_one = x_other)) && (!(decide ((x_one, x_other) ∈ x_seen)))) = true then
bindO (forS ([x_one, x_other]) x_names_here (fun (x9 : SS) (s9 : (List SS)) => p_law_things_L2 x9 s9)) fun s9 =>
bindO (catO x_seen ([(x_one, x_other), (x_other, x_one)])) fun v10 =>
letB (v10 : List (SS × SS)) fun x_seen_2 =>
bindO (idxO s9 x_one) fun v11 =>
bindO (idxO s9 x_other) fun v12 =>
bindO (two (sortI ([v11, v12]))) fun (q13 : Int × Int) =>
bindO (appO x_rows (q13.1, q13.2, x_heavy_here)) fun x_rows_2 =>
bindO (catS x_one (mkS "-" (by decide +kernel))) fun v14 =>
bindO (catS v14 x_other) fun v15 =>
bindO (catS v15 (mkS " " (by decide +kernel))) fun v16 =>
bindO (strI x_heavy_here) fun v17 =>
bindO (catS v16 v17) fun v18 =>
bindO (appO x_things_here v18) fun x_things_here_3 =>
some (s9, x_seen_2, x_rows_2, x_things_here_3)
else
some (x_names_here, x_seen, x_rows, x_things_here)) fun (s19 : (List SS) × (List (SS × SS)) × (List (Int × Int × Int)) × (List SS)) =>
some (s19.1, s19.2.2.2, s19.2.1, s19.2.2.1)) fun (s20 : (List SS) × (List SS) × (List (SS × SS)) × (List (Int × Int × Int))) =>
some (s20.2.1, s20.1, s20.2.2.2, s20.2.2.1)
def p_law_things (x_script : List Int) (x_pool : List SS) (x_way : Int) : Option (SS × (List SS) × (List (Int × Int × Int))) :=
letB (([] : List SS) : List SS) fun x_things_here =>
letB (([] : List SS) : List SS) fun x_names_here =>
letB (([] : List (Int × Int × Int)) : List (Int × Int × Int)) fun x_rows =>
letB (([] : List (SS × SS)) : List (SS × SS)) fun x_seen =>
bindO (forS (cutL x_script (some (2 : Int)) (some (65 : Int))) (x_things_here, x_names_here, x_rows, x_seen) (fun (x21 : Int) (s21 : (List SS) × (List SS) × (List (Int × Int × Int)) × (List (SS × SS))) => p_law_things_L1 x_pool x_way x21 s21.1 s21.2.1 s21.2.2.1 s21.2.2.2)) fun s21 =>
bindO (joinS (mkS ", " (by decide +kernel)) s21.1) fun v22 =>
some (v22, s21.2.1, (sort3 s21.2.2.1))
def p_read_L1 (x_thing : SS) (x_names : List SS) (x_rows : List (Int × Int × Int)) (x_seen : List ((Int × Int) × Bool)) : Option ((List SS) × (List (Int × Int × Int)) × (List ((Int × Int) × Bool))) :=
bindO (p_is_name x_thing) fun v4 =>
if v4 = true then
(if decide (x_thing ∈ x_names) = true then
(none)
else
(bindO (appO x_names x_thing) fun x_names_2 =>
some (x_names_2, x_rows, x_seen)))
else
(bindO (p_tie_of x_thing x_names x_seen) fun v5 =>
bindO (appO x_rows v5.2.2) fun x_rows_2 =>
some (v5.1, x_rows_2, v5.2.1))
def p_read (x_text : SS) : Option ((List SS) × WebT) :=
letB (([] : List SS) : List SS) fun x_names =>
letB (([] : List (Int × Int × Int)) : List (Int × Int × Int)) fun x_rows =>
letB (([] : List ((Int × Int) × Bool)) : List ((Int × Int) × Bool)) fun x_seen =>
bindO (splitS x_text (mkS ", " (by decide +kernel))) fun v1 =>
letB (v1 : List SS) fun x_things =>
bindO (if decide (x_text = (mkS "" (by decide +kernel))) = true then
letB (([] : List SS) : List SS) fun x_things_2 =>
some x_things_2
else
some x_things) fun (s2 : (List SS)) =>
bindO (forS s2 (x_names, x_rows, x_seen) (fun (x6 : SS) (s6 : (List SS) × (List (Int × Int × Int)) × (List ((Int × Int) × Bool))) => p_read_L1 x6 s6.1 s6.2.1 s6.2.2)) fun s6 =>
if decide ((s6.1.length : Int) > (24 : Int)) = true then
(none)
else
(bindO (p_Web_init (s6.1.length : Int) s6.2.1) fun v7 =>
some (s6.1, v7))
def p_law_other_word (x_word_here : SS) (x_number : Int) : Option SS :=
letB ((x_number % (4 : Int)) : Int) fun x_way =>
bindO (lenS x_word_here) fun v1 =>
bindO (modO (x_number / (8 : Int)) v1) fun v2 =>
letB (v2 : Int) fun x_at =>
bindO (if decide (x_way = (0 : Int)) = true then (bindO (lenS x_word_here) fun v3 => some (decide (v3 < (8 : Int)))) else some false) fun v4 =>
if v4 = true then
(bindO (p_law_letter (x_number / (64 : Int))) fun v5 =>
bindO (catS x_word_here v5) fun v6 =>
some v6)
else
(if decide (x_way = (1 : Int)) = true then
(bindO (cutSO x_word_here none (some x_at)) fun v7 =>
bindO (p_law_letter (x_number / (64 : Int))) fun v8 =>
bindO (catS v7 v8) fun v9 =>
bindO (cutSO x_word_here (some (x_at + (1 : Int))) none) fun v10 =>
bindO (catS v9 v10) fun v11 =>
some v11)
else
(if decide (x_way = (2 : Int)) = true then
(bindO (revSO x_word_here) fun v12 =>
bindO (joinS (mkS "" (by decide +kernel)) v12) fun v13 =>
some v13)
else
(bindO (p_law_word (x_number / (4 : Int))) fun v14 =>
some v14)))
def p_law_names_L1 (x_many : Int) (x_k : Int) (x_number : Int) (x_found : List SS) : Option (Int × (List SS)) :=
bindO (mulO x_k x_k) fun v4 =>
bindO (p_law_mixed (x_number + v4) (630360016 : Int)) fun v5 =>
letB (v5 : Int) fun x_number_2 =>
bindO (modO (x_number_2 / (16 : Int)) (x_found.length : Int)) fun v6 =>
bindO (idx x_found v6) fun v7 =>
bindO (p_law_other_word v7 (x_number_2 / (512 : Int))) fun v8 =>
letB (v8 : SS) fun x_word_here =>
bindO (if ((!(decide (x_word_here ∈ x_found))) && decide ((x_found.length : Int) < x_many)) = true then
bindO (appO x_found x_word_here) fun x_found_2 =>
some x_found_2
else
some x_found) fun (s9 : (List SS)) =>
some (x_number_2, s9)
def p_law_names (x_cell : Int) (x_many : Int) : Option (List SS) :=
bindO (p_law_mixed x_cell (1664525013 : Int)) fun v1 =>
letB (v1 : Int) fun x_number =>
bindO (p_law_word x_number) fun v2 =>
letB ([v2] : List SS) fun x_found =>
bindO (rngO 0 ((4 : Int) * x_many)) fun v3 =>
bindO (forS v3 (x_number, x_found) (fun (x10 : Int) (s10 : Int × (List SS)) => p_law_names_L1 x_many x10 s10.1 s10.2)) fun s10 =>
some s10.2
def p_law (x_script : List Int) : Option Bool :=
bindO (p_law_cell_at x_script (0 : Int)) fun v1 =>
letB ((v1 % (1000003 : Int)) : Int) fun x_head =>
bindO (p_law_cell_at x_script (1 : Int)) fun v2 =>
bindO (p_law_names v2 ((2 : Int) + ((x_head / (2 : Int)) % (23 : Int)))) fun v3 =>
letB (v3 : List SS) fun x_pool =>
bindO (p_law_things x_script x_pool (x_head % (2 : Int))) fun v4 =>
letB (v4 : SS × (List SS) × (List (Int × Int × Int))) fun q5 =>
bindO (p_read q5.1) fun v6 =>
letB (v6 : (List SS) × WebT) fun x_found =>
bindO (p_law_right x_found q5.2.1 q5.2.2) fun v7 =>
if (!v7) = true then
(some false)
else
(bindO (p_law_written q5.2.1 q5.2.2) fun v8 =>
bindO (catO q5.2.1 v8) fun v9 =>
bindO (joinS (mkS ", " (by decide +kernel)) v9) fun v10 =>
letB (v10 : SS) fun x_due =>
letB (q5.2.1 : List SS) fun x_handed =>
bindO (p_shown x_handed x_found.2) fun v11 =>
letB (v11 : SS) fun x_told =>
if ((!true) || ((!decide (x_told = x_due)) || (!decide (x_handed = q5.2.1)))) = true then
(some false)
else
(bindO (appO ((x_found.1, ()).1) (mkS "x" (by decide +kernel))) fun w12 =>
bindO (p_read x_told) fun v13 =>
bindO (p_law_right v13 q5.2.1 q5.2.2) fun v14 =>
bindO (if (!v14) = true then some true else (bindO (p_read q5.1) fun v15 => bindO (p_law_right v15 q5.2.1 q5.2.2) fun v16 => some (!v16))) fun v17 =>
if v17 = true then
(some false)
else
(letB (q5.2.1.reverse : List SS) fun x_other =>
bindO (p_shown x_other x_found.2) fun v18 =>
bindO (p_read v18) fun v19 =>
letB (v19 : (List SS) × WebT) fun x_again =>
bindO (p_law_right x_again x_other q5.2.2) fun v20 =>
bindO (if v20 = true then (bindO (p_read (mkS "" (by decide +kernel))) fun v21 => bindO (if decide (v21.1 = ([] : List SS)) = true then (bindO (p_Web_init (0 : Int) ([] : List (Int × Int × Int))) fun v22 => bindO (p_shown ([] : List SS) v22) fun v23 => some (decide (v23 = (mkS "" (by decide +kernel))))) else some false) fun v24 => some v24) else some false) fun v25 =>
some v25)))
abbrev fsWeb (w : WebT) : List (Str × D) := [("many", dI w.1), ("table", (dKT dI) w.2.1), ("ends", (dL (dL dI)) w.2.2)]
abbrev dWeb (WC : Addr) (w : WebT) : D := D.ins WC (fsWeb w)
noncomputable def I_Web (ds : List D) : Option (List (Str × D)) := pick fun fs => ∃ x_many x_ties r, ds = [dI x_many, (dL (dT3 dI dI dI)) x_ties] ∧ p_Web_init x_many x_ties = some r ∧ fs = fsWeb r
end
end Pr
set_option Elab.async false
set_option linter.all false
set_option maxRecDepth 100000
set_option maxHeartbeats 4000000
set_option synthInstance.maxSize 2000
set_option synthInstance.maxHeartbeats 400000
namespace Pr
open PySem PySem.Spec L2 Ev Tg
open PyProof.Rows hiding St
noncomputable section
def CE_Web_init_1 (WC : Addr) : EvE :=
  (eLst aNil)
def C_Web_init_1 (WC : Addr) : EvE :=
  (eLc (iRange (aCons (eName 1) aNil)) [6] (.nm 6) tYes (CE_Web_init_1 WC))
def FB_Web_init_1 (WC : Addr) : EvS :=
  (sSeq (sIf (tOr (tCmp gEq (eName 3) (eName 4)) (tOr (tCmp gLt (eBi bMin2 (aCons (eName 3) (aCons (eName 4) aNil))) (eC (.int 0))) (tCmp gGe (eBi bMax2 (aCons (eName 3) (aCons (eName 4) aNil))) (eName 1)))) sBad sNil) (sSeq (sIf (tCmp gIn (eTup (aCons (eName 3) (aCons (eName 4) aNil))) (eAtO WC "table" (eName 0))) sBad sNil) (sSeq (sPutP [] (pFldO WC "table" (pName 0)) (eTup (aCons (eName 3) (aCons (eName 4) aNil))) (eName 5)) (sSeq (sPutP [] (pFldO WC "table" (pName 0)) (eTup (aCons (eName 4) (aCons (eName 3) aNil))) (eName 5)) (sSeq (sAppP [] (pIx (pFldO WC "ends" (pName 0)) (eName 3)) (eName 4)) (sAppP [] (pIx (pFldO WC "ends" (pName 0)) (eName 4)) (eName 3)))))))
def F_Web_init_1 (WC : Addr) : EvS :=
  (sFor [] (iLst (eName 2)) (.tp [(.nm 3), (.nm 4), (.nm 5)]) (FB_Web_init_1 WC))
def B_Web_init (WC : Addr) : EvS :=
  (sSeq (sIf (tOr (tCmp gLt (eName 1) (eC (.int 0))) (tCmp gGt (eName 1) (eC (.int (24))))) sBad sNil) (sSeq (sAtPO WC "many" [] (pName 0) (eName 1)) (sSeq (sAtPO WC "table" [] (pName 0) eDt) (sSeq (sAtPO WC "ends" [] (pName 0) (C_Web_init_1 WC)) (F_Web_init_1 WC)))))
def B_Web_size (WC : Addr) : EvS :=
  (sRet (eAt WC "many" (eName 0)))
def R_Web_size (WC : Addr) : List D → Option RetD := run (B_Web_size WC) 1
def CT_Web_ties_1 (WC : Addr) : EvT :=
  (tCmp gLt (eIx (eName 1) (eC (.int 0))) (eIx (eName 1) (eC (.int 1))))
def CE_Web_ties_1 (WC : Addr) : EvE :=
  (eTup (aCons (eIx (eName 1) (eC (.int 0))) (aCons (eIx (eName 1) (eC (.int 1))) (aCons (eName 2) aNil))))
def C_Web_ties_1 (WC : Addr) : EvE :=
  (eLcD itDT (rdFld WC "table" 0) [1, 2] (.tp [(.nm 1), (.nm 2)]) (CT_Web_ties_1 WC) (CE_Web_ties_1 WC))
def B_Web_ties (WC : Addr) : EvS :=
  (sRet (eBi bSorted (aCons (C_Web_ties_1 WC) aNil)))
def R_Web_ties (WC : Addr) : List D → Option RetD := run (B_Web_ties WC) 3
def CE_is_name_1 (WC : Addr) : EvE :=
  (eCmp gInS (eName 1) (eC (.str "abcdefghijklmnopqrstuvwxyz")))
def C_is_name_1 (WC : Addr) : EvE :=
  (eLc (iStrE (eName 0)) [1] (.nm 1) tYes (CE_is_name_1 WC))
def B_is_name (WC : Addr) : EvS :=
  (sRet (eAnd (eChn gLe gLe (eC (.int 1)) (eLen (aCons (eName 0) aNil)) (eC (.int 8))) (eBi bAll (aCons (C_is_name_1 WC) aNil))))
def R_is_name (WC : Addr) : List D → Option RetD := run (B_is_name WC) 2
def CE_is_number_1 (WC : Addr) : EvE :=
  (eCmp gInS (eName 2) (eC (.str "0123456789")))
def C_is_number_1 (WC : Addr) : EvE :=
  (eLc (iStrE (eName 1)) [2] (.nm 2) tYes (CE_is_number_1 WC))
def B_is_number (WC : Addr) : EvS :=
  (sSeq (sSet [] 1 (eName 0)) (sSeq (sIf (tVal (eMt "str" mStarts (eName 0) (aCons (eC (.str "-")) aNil))) (sSet [] 1 (eSlS (eName 0) (oSome (eC (.int 1))) oNone)) sNil) (sSeq (sIf (tOr (tCmp gEq (eName 1) (eC (.str ""))) (tOr (tCmp gGt (eLen (aCons (eName 1) aNil)) (eC (.int 60))) (tNot (tVal (eBi bAll (aCons (C_is_number_1 WC) aNil)))))) (sRet (eC (.bl false))) sNil) (sRet (eOr (eCmp gNe (eIxS (eName 1) (eC (.int 0))) (eC (.str "0"))) (eCmp gEq (eName 0) (eC (.str "0"))))))))
def R_is_number (WC : Addr) : List D → Option RetD := run (B_is_number WC) 3
def B_place_of (WC : Addr) : EvS :=
  (sSeq (sIf (tCmp gNin (eName 1) (eName 0)) (sLop oApp [] 0 (aCons (eName 1) aNil)) sNil) (sRet (eMt "list" mIndex (eName 0) (aCons (eName 1) aNil))))
def R_place_of (WC : Addr) : List D → Option RetM := runM (B_place_of WC) 2 [true, false] [true, false]
def B_law_cell_at (WC : Addr) : EvS :=
  (sSeq (sIf (tCmp gLt (eName 1) (eLen (aCons (eName 0) aNil))) (sRet (eIx (eName 0) (eName 1))) sNil) (sRet (eC (.int 0))))
def R_law_cell_at (WC : Addr) : List D → Option RetD := run (B_law_cell_at WC) 2
def B_law_whole (WC : Addr) : EvS :=
  (sRet (eAnd (eIsi "int" (eName 0)) (eNot (eIsi "bool" (eName 0)))))
def R_law_whole (WC : Addr) : List D → Option RetD := run (B_law_whole WC) 1
def B_law_mixed (WC : Addr) : EvS :=
  (sRet (eMod (eMul (ePlus (eName 0) (eMod (eName 1) (eC (.int 97)))) (eName 1)) (eC (.int 2147483647))))
def R_law_mixed (WC : Addr) : List D → Option RetD := run (B_law_mixed WC) 2
def B_law_letter (WC : Addr) : EvS :=
  (sRet (eIxS (eC (.str "abcdefghijklmnopqrstuvwxyz")) (eMod (eName 0) (eC (.int 26)))))
def R_law_letter (WC : Addr) : List D → Option RetD := run (B_law_letter WC) 1
def CE_law_written_1 (WC : Addr) : EvE :=
  (ePlusS (ePlusS (ePlusS (ePlusS (eIx (eName 0) (eName 2)) (eC (.str "-"))) (eIx (eName 0) (eName 3))) (eC (.str " "))) (eBi bStrI (aCons (eName 4) aNil)))
def C_law_written_1 (WC : Addr) : EvE :=
  (eLc (iLstV (eName 1)) [2, 3, 4] (.tp [(.nm 2), (.nm 3), (.nm 4)]) tYes (CE_law_written_1 WC))
def B_law_written (WC : Addr) : EvS :=
  (sRet (C_law_written_1 WC))
def R_law_written (WC : Addr) : List D → Option RetD := run (B_law_written WC) 5
def B_tie_of (WC : Addr) : EvS :=
  (sSeq (sAsg [] (.tp [(.nm 3), (.nm 4), (.nm 5)]) (eMt "str" mPart (eName 0) (aCons (eC (.str " ")) aNil))) (sSeq (sAsg [] (.tp [(.nm 6), (.nm 7), (.nm 8)]) (eMt "str" mPart (eName 3) (aCons (eC (.str "-")) aNil))) (sSeq (sIf (tOr (tNot (tVal (eCall (R_is_name WC) (aCons (eName 6) aNil)))) (tOr (tNot (tVal (eCall (R_is_name WC) (aCons (eName 8) aNil)))) (tOr (tNot (tVal (eCall (R_is_number WC) (aCons (eName 5) aNil)))) (tCmp gEq (eName 6) (eName 8))))) sBad sNil) (sSeq (sSetX 9 (xCall [true, false] (R_place_of WC) (mSlot 1 (mVal (eName 6) mNil)))) (sSeq (sSetX 10 (xCall [true, false] (R_place_of WC) (mSlot 1 (mVal (eName 8) mNil)))) (sSeq (sIf (tCmp gIn (eTup (aCons (eName 9) (aCons (eName 10) aNil))) (eName 2)) sBad sNil) (sSeq (sPutP [] (pName 2) (eTup (aCons (eName 9) (aCons (eName 10) aNil))) (eC (.bl true))) (sSeq (sPutP [] (pName 2) (eTup (aCons (eName 10) (aCons (eName 9) aNil))) (eC (.bl true))) (sRet (eTup (aCons (eName 9) (aCons (eName 10) (aCons (eBi bIntS (aCons (eName 5) aNil)) aNil)))))))))))))
def R_tie_of (WC : Addr) : List D → Option RetM := runM (B_tie_of WC) 11 [false, true, true] [false, true, true]
def FB_shown_1 (WC : Addr) : EvS :=
  (sLop oApp [] 2 (aCons (ePlusS (ePlusS (ePlusS (ePlusS (eIx (eName 0) (eName 3)) (eC (.str "-"))) (eIx (eName 0) (eName 4))) (eC (.str " "))) (eBi bStrI (aCons (eName 5) aNil))) aNil))
def F_shown_1 (WC : Addr) : EvS :=
  (sFor [] (iLst (eMeth WC "ties" (R_Web_ties WC) (eName 1) aNil)) (.tp [(.nm 3), (.nm 4), (.nm 5)]) (FB_shown_1 WC))
def B_shown (WC : Addr) : EvS :=
  (sSeq (sSet [] 2 (eBi bList (aCons (eName 0) aNil))) (sSeq (F_shown_1 WC) (sRet (eMt "str" mJoin (eC (.str ", ")) (aCons (eName 2) aNil)))))
def R_shown (WC : Addr) : List D → Option RetD := run (B_shown WC) 6
def FB_law_word_1 (WC : Addr) : EvS :=
  (sSeq (sSet [] 0 (eCall (R_law_mixed WC) (aCons (ePlus (eName 0) (eName 2)) (aCons (eC (.int 1103515245)) aNil)))) (sSet [] 1 (ePlusS (eName 1) (eCall (R_law_letter WC) (aCons (eDiv (eName 0) (eC (.int 64))) aNil)))))
def F_law_word_1 (WC : Addr) : EvS :=
  (sFor [] (iRange (aCons (ePlus (eC (.int 1)) (eMod (eDiv (eName 0) (eC (.int 4))) (eC (.int 8)))) aNil)) (.nm 2) (FB_law_word_1 WC))
def B_law_word (WC : Addr) : EvS :=
  (sSeq (sSet [] 1 (eC (.str ""))) (sSeq (F_law_word_1 WC) (sRetV 1)))
def R_law_word (WC : Addr) : List D → Option RetD := run (B_law_word WC) 3
def B_law_heavy (WC : Addr) : EvS :=
  (sSeq (sIf (tCmp gEq (eName 1) (eC (.int 0))) (sRet (eSub (eMod (eName 0) (eSub (eMul (eC (.int 2)) (ePow (eC (.int 10)) (eC (.int 60)))) (eC (.int 1)))) (eSub (ePow (eC (.int 10)) (eC (.int 60))) (eC (.int 1))))) sNil) (sRet (eSub (eMod (eCall (R_law_mixed WC) (aCons (eName 0) (aCons (eC (.int 1812433253)) aNil))) (eC (.int 21))) (eC (.int 10)))))
def R_law_heavy (WC : Addr) : List D → Option RetD := run (B_law_heavy WC) 2
def CE_law_right_1 (WC : Addr) : EvE :=
  (eIsi "str" (eName 3))
def C_law_right_1 (WC : Addr) : EvE :=
  (eLc (iLstV (eIx (eName 0) (eC (.int 0)))) [3] (.nm 3) tYes (CE_law_right_1 WC))
def B_law_right (WC : Addr) : EvS :=
  (sSeq (sIf (tOr (tNot (tVal (eIsi "tuple" (eName 0)))) (tOr (tCmp gNe (eLen (aCons (eName 0) aNil)) (eC (.int 2))) (tNot (tVal (eIsi "list" (eIx (eName 0) (eC (.int 0)))))))) (sRet (eC (.bl false))) sNil) (sSeq (sIf (tOr (tNot (tVal (eBi bAll (aCons (C_law_right_1 WC) aNil)))) (tCmp gNe (eIx (eName 0) (eC (.int 0))) (eName 1))) (sRet (eC (.bl false))) sNil) (sSeq (sIf (tOr (tNot (tVal (eIsiO WC (eIx (eName 0) (eC (.int 1)))))) (tNot (tVal (eCall (R_law_whole WC) (aCons (eMeth WC "size" (R_Web_size WC) (eIx (eName 0) (eC (.int 1))) aNil) aNil))))) (sRet (eC (.bl false))) sNil) (sRet (eAnd (eCmp gEq (eMeth WC "size" (R_Web_size WC) (eIx (eName 0) (eC (.int 1))) aNil) (eLen (aCons (eName 1) aNil))) (eCmp gEq (eMeth WC "ties" (R_Web_ties WC) (eIx (eName 0) (eC (.int 1))) aNil) (eName 2)))))))
def R_law_right (WC : Addr) : List D → Option RetD := run (B_law_right WC) 4
def FB_read_1 (WC : Addr) : EvS :=
  (sIf (tVal (eCall (R_is_name WC) (aCons (eName 5) aNil))) (sSeq (sIf (tCmp gIn (eName 5) (eName 1)) sBad sNil) (sLop oApp [] 1 (aCons (eName 5) aNil))) (sAppX 2 (xCall [false, true, true] (R_tie_of WC) (mVal (eName 5) (mSlot 1 (mSlot 3 mNil))))))
def F_read_1 (WC : Addr) : EvS :=
  (sForH (pName 4) (.nm 5) (FB_read_1 WC))
def B_read (WC : Addr) : EvS :=
  (sSeq (sSet [] 1 (eLst aNil)) (sSeq (sSet [] 2 (eLst aNil)) (sSeq (sSet [] 3 eDt) (sSeq (sSet [] 4 (eMt "str" mSplit (eName 0) (aCons (eC (.str ", ")) aNil))) (sSeq (sIf (tCmp gEq (eName 0) (eC (.str ""))) (sSet [] 4 (eLst aNil)) sNil) (sSeq (F_read_1 WC) (sSeq (sIf (tCmp gGt (eLen (aCons (eName 1) aNil)) (eC (.int (24)))) sBad sNil) (sRetK (tkTup (ksLate (pName 1) (ksCons (tkVal (eNew WC I_Web (aCons (eLen (aCons (eName 1) aNil)) (aCons (eName 2) aNil)))) ksNil)))))))))))
def R_read (WC : Addr) : List D → Option RetD := run (B_read WC) 6
def B_law_other_word (WC : Addr) : EvS :=
  (sSeq (sSet [] 2 (eMod (eName 1) (eC (.int 4)))) (sSeq (sSet [] 3 (eMod (eDiv (eName 1) (eC (.int 8))) (eLen (aCons (eName 0) aNil)))) (sSeq (sIf (tAnd (tCmp gEq (eName 2) (eC (.int 0))) (tCmp gLt (eLen (aCons (eName 0) aNil)) (eC (.int 8)))) (sRet (ePlusS (eName 0) (eCall (R_law_letter WC) (aCons (eDiv (eName 1) (eC (.int 64))) aNil)))) sNil) (sSeq (sIf (tCmp gEq (eName 2) (eC (.int 1))) (sRet (ePlusS (ePlusS (eSlS (eName 0) oNone (oSome (eName 3))) (eCall (R_law_letter WC) (aCons (eDiv (eName 1) (eC (.int 64))) aNil))) (eSlS (eName 0) (oSome (ePlus (eName 3) (eC (.int 1)))) oNone))) sNil) (sSeq (sIf (tCmp gEq (eName 2) (eC (.int 2))) (sRet (eMt "str" mJoin (eC (.str "")) (aCons (eBi bLstRevS (aCons (eName 0) aNil)) aNil))) sNil) (sRet (eCall (R_law_word WC) (aCons (eDiv (eName 1) (eC (.int 4))) aNil))))))))
def R_law_other_word (WC : Addr) : List D → Option RetD := run (B_law_other_word WC) 4
def FB_law_things_1 (WC : Addr) : EvS :=
  (sIf (tCmp gNin (eName 12) (eName 4)) (sLop oApp [] 4 (aCons (eName 12) aNil)) sNil)
def F_law_things_1 (WC : Addr) : EvS :=
  (sFor [] (iLst (eLst (aCons (eName 9) (aCons (eName 10) aNil)))) (.nm 12) (FB_law_things_1 WC))
def FB_law_things_2 (WC : Addr) : EvS :=
  (sSeq (sSet [] 8 (eCall (R_law_mixed WC) (aCons (eName 7) (aCons (eC (.int 1103515245)) aNil)))) (sSeq (sSet [] 9 (eIx (eName 1) (eMod (eDiv (eName 8) (eC (.int 8))) (eLen (aCons (eName 1) aNil))))) (sSeq (sSet [] 10 (eIx (eName 1) (eMod (eDiv (eCall (R_law_mixed WC) (aCons (eName 7) (aCons (eC (.int 1812433253)) aNil))) (eC (.int 8))) (eLen (aCons (eName 1) aNil))))) (sSeq (sSet [] 11 (eCall (R_law_heavy WC) (aCons (eName 7) (aCons (eName 2) aNil)))) (sIf (tAnd (tCmp gEq (eMod (eName 8) (eC (.int 4))) (eC (.int 0))) (tCmp gNin (eName 9) (eName 4))) (sSeq (sLop oApp [] 4 (aCons (eName 9) aNil)) (sLop oApp [] 3 (aCons (eName 9) aNil))) (sIf (tAnd (tCmp gNe (eName 9) (eName 10)) (tCmp gNin (eTup (aCons (eName 9) (aCons (eName 10) aNil))) (eName 6))) (sSeq (F_law_things_1 WC) (sSeq (sSet [] 6 (ePlus (eName 6) (eLst (aCons (eTup (aCons (eName 9) (aCons (eName 10) aNil))) (aCons (eTup (aCons (eName 10) (aCons (eName 9) aNil))) aNil))))) (sSeq (sAsgL 13 14 (eBi bSorted (aCons (eLst (aCons (eMt "list" mIndex (eName 4) (aCons (eName 9) aNil)) (aCons (eMt "list" mIndex (eName 4) (aCons (eName 10) aNil)) aNil))) aNil))) (sSeq (sLop oApp [] 5 (aCons (eTup (aCons (eName 13) (aCons (eName 14) (aCons (eName 11) aNil)))) aNil)) (sLop oApp [] 3 (aCons (ePlusS (ePlusS (ePlusS (ePlusS (eName 9) (eC (.str "-"))) (eName 10)) (eC (.str " "))) (eBi bStrI (aCons (eName 11) aNil))) aNil)))))) sNil))))))
def F_law_things_2 (WC : Addr) : EvS :=
  (sFor [] (iLst (eSl (eName 0) (oSome (eC (.int 2))) (oSome (eC (.int 65))))) (.nm 7) (FB_law_things_2 WC))
def B_law_things (WC : Addr) : EvS :=
  (sSeq (sSet [] 3 (eLst aNil)) (sSeq (sSet [] 4 (eLst aNil)) (sSeq (sSet [] 5 (eLst aNil)) (sSeq (sSet [] 6 (eLst aNil)) (sSeq (F_law_things_2 WC) (sFz [4] (sRet (eTup (aCons (eMt "str" mJoin (eC (.str ", ")) (aCons (eName 3) aNil)) (aCons (eName 4) (aCons (eBi bSorted (aCons (eName 5) aNil)) aNil)))))))))))
def R_law_things (WC : Addr) : List D → Option RetD := run (B_law_things WC) 15
def FB_law_names_1 (WC : Addr) : EvS :=
  (sSeq (sSet [] 2 (eCall (R_law_mixed WC) (aCons (ePlus (eName 2) (eMul (eName 4) (eName 4))) (aCons (eC (.int 630360016)) aNil)))) (sSeq (sSet [] 5 (eCall (R_law_other_word WC) (aCons (eIx (eName 3) (eMod (eDiv (eName 2) (eC (.int 16))) (eLen (aCons (eName 3) aNil)))) (aCons (eDiv (eName 2) (eC (.int 512))) aNil)))) (sIf (tAnd (tCmp gNin (eName 5) (eName 3)) (tCmp gLt (eLen (aCons (eName 3) aNil)) (eName 1))) (sLop oApp [] 3 (aCons (eName 5) aNil)) sNil)))
def F_law_names_1 (WC : Addr) : EvS :=
  (sFor [] (iRange (aCons (eMul (eC (.int 4)) (eName 1)) aNil)) (.nm 4) (FB_law_names_1 WC))
def B_law_names (WC : Addr) : EvS :=
  (sSeq (sSet [] 2 (eCall (R_law_mixed WC) (aCons (eName 0) (aCons (eC (.int 1664525013)) aNil)))) (sSeq (sSet [] 3 (eLst (aCons (eCall (R_law_word WC) (aCons (eName 2) aNil)) aNil))) (sSeq (F_law_names_1 WC) (sRetV 3))))
def R_law_names (WC : Addr) : List D → Option RetD := run (B_law_names WC) 6
def B_law (WC : Addr) : EvS :=
  (sSeq (sSet [] 1 (eMod (eCall (R_law_cell_at WC) (aCons (eName 0) (aCons (eC (.int 0)) aNil))) (eC (.int 1000003)))) (sSeq (sSet [] 2 (eCall (R_law_names WC) (aCons (eCall (R_law_cell_at WC) (aCons (eName 0) (aCons (eC (.int 1)) aNil))) (aCons (ePlus (eC (.int 2)) (eMod (eDiv (eName 1) (eC (.int 2))) (eC (.int 23)))) aNil)))) (sSeq (sAsg [] (.tp [(.nm 3), (.nm 4), (.nm 5)]) (eCall (R_law_things WC) (aCons (eName 0) (aCons (eName 2) (aCons (eMod (eName 1) (eC (.int 2))) aNil))))) (sSeq (sSet [] 6 (eCall (R_read WC) (aCons (eName 3) aNil))) (sSeq (sIf (tNot (tVal (eCall (R_law_right WC) (aCons (eName 6) (aCons (eName 4) (aCons (eName 5) aNil)))))) (sRet (eC (.bl false))) sNil) (sSeq (sSet [] 7 (eMt "str" mJoin (eC (.str ", ")) (aCons (ePlus (eName 4) (eCall (R_law_written WC) (aCons (eName 4) (aCons (eName 5) aNil)))) aNil))) (sSeq (sSet [] 8 (eBi bList (aCons (eName 4) aNil))) (sSeq (sSet [] 9 (eCall (R_shown WC) (aCons (eName 8) (aCons (eIx (eName 6) (eC (.int 1))) aNil)))) (sSeq (sIf (tOr (tNot (tVal (eIsi "str" (eName 9)))) (tOr (tCmp gNe (eName 9) (eName 7)) (tCmp gNe (eName 8) (eName 4)))) (sRet (eC (.bl false))) sNil) (sSeq (sTake (pTx (pName 6) (eC (.int 1))) 10) (sSeq (sAppP [] (pTx (pName 6) (eC (.int 0))) (eC (.str "x"))) (sSeq (sIf (tOr (tNot (tVal (eCall (R_law_right WC) (aCons (eCall (R_read WC) (aCons (eName 9) aNil)) (aCons (eName 4) (aCons (eName 5) aNil)))))) (tNot (tVal (eCall (R_law_right WC) (aCons (eCall (R_read WC) (aCons (eName 3) aNil)) (aCons (eName 4) (aCons (eName 5) aNil))))))) (sRet (eC (.bl false))) sNil) (sSeq (sSet [] 11 (eBi bLstRev (aCons (eName 4) aNil))) (sSeq (sSet [] 12 (eCall (R_read WC) (aCons (eCall (R_shown WC) (aCons (eName 11) (aCons (eName 10) aNil))) aNil))) (sRet (eAnd (eCall (R_law_right WC) (aCons (eName 12) (aCons (eName 11) (aCons (eName 5) aNil)))) (eAnd (eCmp gEq (eIxO (eCall (R_read WC) (aCons (eC (.str "")) aNil)) (eC (.int 0))) (eLst aNil)) (eCmp gEq (eCall (R_shown WC) (aCons (eLst aNil) (aCons (eNew WC I_Web (aCons (eC (.int 0)) (aCons (eLst aNil) aNil))) aNil))) (eC (.str ""))))))))))))))))))))
def R_law (WC : Addr) : List D → Option RetD := run (B_law WC) 13
end
end Pr
set_option Elab.async false
set_option linter.all false
set_option maxRecDepth 100000
set_option maxHeartbeats 4000000
set_option synthInstance.maxSize 2000
set_option synthInstance.maxHeartbeats 400000
namespace Pr
open PySem PySem.Spec L2 Ev Tg
open PyProof.Rows hiding St
noncomputable section
theorem nqs : (("many" : Str) == "table") = false ∧ ("many" : Str) ≠ "table" ∧ (("table" : Str) == "many") = false ∧ ("table" : Str) ≠ "many" ∧ (("many" : Str) == "ends") = false ∧ ("many" : Str) ≠ "ends" ∧ (("ends" : Str) == "many") = false ∧ ("ends" : Str) ≠ "many" ∧ (("table" : Str) == "ends") = false ∧ ("table" : Str) ≠ "ends" ∧ (("ends" : Str) == "table") = false ∧ ("ends" : Str) ≠ "table" ∧ (("size" : Str) == "many") = false ∧ ("size" : Str) ≠ "many" ∧ (("many" : Str) == "size") = false ∧ ("many" : Str) ≠ "size" ∧ (("size" : Str) == "table") = false ∧ ("size" : Str) ≠ "table" ∧ (("table" : Str) == "size") = false ∧ ("table" : Str) ≠ "size" ∧ (("size" : Str) == "ends") = false ∧ ("size" : Str) ≠ "ends" ∧ (("ends" : Str) == "size") = false ∧ ("ends" : Str) ≠ "size" ∧ (("ties" : Str) == "many") = false ∧ ("ties" : Str) ≠ "many" ∧ (("many" : Str) == "ties") = false ∧ ("many" : Str) ≠ "ties" ∧ (("ties" : Str) == "table") = false ∧ ("ties" : Str) ≠ "table" ∧ (("table" : Str) == "ties") = false ∧ ("table" : Str) ≠ "ties" ∧ (("ties" : Str) == "ends") = false ∧ ("ties" : Str) ≠ "ends" ∧ (("ends" : Str) == "ties") = false ∧ ("ends" : Str) ≠ "ties" ∧ (("weight" : Str) == "many") = false ∧ ("weight" : Str) ≠ "many" ∧ (("many" : Str) == "weight") = false ∧ ("many" : Str) ≠ "weight" ∧ (("weight" : Str) == "table") = false ∧ ("weight" : Str) ≠ "table" ∧ (("table" : Str) == "weight") = false ∧ ("table" : Str) ≠ "weight" ∧ (("weight" : Str) == "ends") = false ∧ ("weight" : Str) ≠ "ends" ∧ (("ends" : Str) == "weight") = false ∧ ("ends" : Str) ≠ "weight" ∧ (("tied" : Str) == "many") = false ∧ ("tied" : Str) ≠ "many" ∧ (("many" : Str) == "tied") = false ∧ ("many" : Str) ≠ "tied" ∧ (("tied" : Str) == "table") = false ∧ ("tied" : Str) ≠ "table" ∧ (("table" : Str) == "tied") = false ∧ ("table" : Str) ≠ "tied" ∧ (("tied" : Str) == "ends") = false ∧ ("tied" : Str) ≠ "ends" ∧ (("ends" : Str) == "tied") = false ∧ ("ends" : Str) ≠ "tied" := by decide +kernel
local macro_rules | `(tactic| walk_at "lk") => `(tactic| simp [List.lookup_cons, List.findIdx?_cons, putD, nqs])
theorem kb_int_bool : kitB "int" "bool" = some false := by decide +kernel
theorem kb_int_int : kitB "int" "int" = some true := by decide +kernel
theorem kb_list_list : kitB "list" "list" = some true := by decide +kernel
theorem kb_str_str : kitB "str" "str" = some true := by decide +kernel
theorem kb_tuple_tuple : kitB "tuple" "tuple" = some true := by decide +kernel
theorem p_law_cell_at_ok (WC : Addr) (x_script : List Int) (x_k : Int) (r : Int) (h : p_law_cell_at x_script x_k = some r) : RetE (R_law_cell_at WC) [(dF dI) x_script, dI x_k] (dI r) .full false :=
  fnk 2 (by
    unfold p_law_cell_at B_law_cell_at
    exact (js_if (jt_cmp (d := (dI x_k)) (d2 := (dI (x_script.length : Int))) (jni 1 rfl rfl) (je_len (d := ((dF dI) x_script)) (jni 0 rfl (imm_flI x_script)) (n_f _)) q_ltI) (js_bind fun v1 h1 =>
(js_ret (q := (fun r => r)) (er := dI) (x := v1) (l := .full) ret_R (je_ixI (d := ((dF dI) x_script)) (d2 := (dI x_k)) (jni 0 rfl (imm_flI x_script)) (jni 1 rfl rfl) (x_f (e := dI) h1) rfl))) (js_nil (js_last (js_ret (q := (fun r => r)) (er := dI) (x := (0 : Int)) (l := .full) ret_R jc))))) h
theorem p_law_written_ok (WC : Addr) (x_names_here : List SS) (x_rows : List (Int × Int × Int)) (r : (List SS)) (h : p_law_written x_names_here x_rows = some r) : RetE (R_law_written WC) [(dL dSS) x_names_here, (dL (dT3 dI dI dI)) x_rows] ((dL dSS) r) .full false :=
  fnk 5 (by
    unfold p_law_written B_law_written
    exact (js_last (js_bind fun v9 h9 =>
(js_ret (q := (fun r => r)) (er := (dL dSS)) (x := v9) (l := .full) ret_R (wF (je_lcM (e := (dT3 dI dI dI)) (e2 := dSS) (jit_lI (e := (dT3 dI dI dI)) (fun _ => rfl) (jns 1 rfl)) (fun _ => rfl) (fun y1 => (jto_p jt_yes)) (fun y1 => (jeo_b fun v2 h2 => (jeo_b fun v3 h3 => (jeo_b fun v4 h4 => (jeo_b fun v5 h5 => (jeo_b fun v6 h6 => (jeo_b fun v7 h7 => (jeo_b fun v8 h8 => (jeo_p (je_catS (x := v6) (y := v7) (je_catS (x := v5) (y := (mkS " " (by decide +kernel))) (je_catS (x := v3) (y := v4) (je_catS (x := v2) (y := (mkS "-" (by decide +kernel))) (je_ixI (d := ((dL dSS) x_names_here)) (d2 := (dI y1.1)) (jns 0 rfl) (jni 2 rfl rfl) (x_l (e := dSS) h2) rfl) jc h3) (je_ixI (d := ((dL dSS) x_names_here)) (d2 := (dI y1.2.1)) (jns 0 rfl) (jni 3 rfl rfl) (x_l (e := dSS) h4) rfl) h5) jc h6) (je_biI (ja_cons (jni 4 rfl rfl) ja_nil) (b_strI h7) (.inl rfl)) h8)))))))))) h9)))))) h
abbrev K_Web_init_L1 (WC : Addr) (dx : Addr) (x_many : Int) (x_self_many : Int) : ((List ((Int × Int) × Int)) × (List (List Int))) → CS := fun s => [some ⟨D.obj WC dx [("many", dI x_self_many), ("table", (dKT dI) s.1), ("ends", (dL (dL dI)) s.2)], .f, false⟩, some ⟨dI x_many, .a, true⟩, none, none, none, none, none]
theorem p_Web_init_L1_ok (WC : Addr) (dx : Addr) (x_many : Int) (x_self_many : Int) (x_a : Int) (x_b : Int) (x_heavy : Int) (x_self_table : List ((Int × Int) × Int)) (x_self_ends : List (List Int)) : JS [some ⟨D.obj WC dx [("many", dI x_self_many), ("table", (dKT dI) x_self_table), ("ends", (dL (dL dI)) x_self_ends)], .f, false⟩, some ⟨dI x_many, .a, true⟩, none, some ⟨dI x_a, .s, true⟩, some ⟨dI x_b, .s, true⟩, some ⟨dI x_heavy, .s, true⟩, none] ((FB_Web_init_1 WC)) (p_Web_init_L1 x_many x_a x_b x_heavy x_self_table x_self_ends) (ΨL (K_Web_init_L1 WC dx x_many x_self_many)) := by
  unfold p_Web_init_L1 FB_Web_init_1
  exact (js_if (jt_or (jt_cmp (d := (dI x_a)) (d2 := (dI x_b)) (jni 3 rfl rfl) (jni 4 rfl rfl) (q_eq ek_int x_a x_b)) (jt_or (jt_cmp (d := (dI (minI x_a x_b))) (d2 := (dI (0 : Int))) (je_biI (ja_cons (jni 3 rfl rfl) (ja_cons (jni 4 rfl rfl) ja_nil)) b_min (.inl rfl)) jc q_ltI) (jt_cmp (d := (dI (maxI x_a x_b))) (d2 := (dI x_many)) (je_biI (ja_cons (jni 3 rfl rfl) (ja_cons (jni 4 rfl rfl) ja_nil)) b_max (.inl rfl)) (jni 1 rfl rfl) q_geI))) js_none (js_nil (js_if (jt_cmp (d := ((dT2 dI dI) (x_a, x_b))) (d2 := ((dKT dI) x_self_table)) (wF (je_tup (ja_cons (jni 3 rfl rfl) (ja_cons (jni 4 rfl rfl) ja_nil)))) (je_atO (jnv 0 rfl) (by walk_at "lk")) (q_inKT (e := dI) x_self_table (x_a, x_b))) js_none (js_nil (js_putP (fz := []) (eM := (dKT dI)) (W := (fun x_self_table_2 => D.obj WC dx [("many", dI x_self_many), ("table", (dKT dI) x_self_table_2), ("ends", (dL (dL dI)) x_self_ends)])) (jp_fldO (j := 1) (jp_name (i := 0) rfl) (by walk_at "lk") rfl) (wF (je_tup (ja_cons (jni 3 rfl rfl) (ja_cons (jni 4 rfl rfl) ja_nil)))) (jni 5 rfl rfl) rfl (fun m' h => p_KT (e := dI) h) (fun _ _ => rfl) fun x_self_table_2 =>
(js_putP (fz := []) (eM := (dKT dI)) (W := (fun x_self_table_3 => D.obj WC dx [("many", dI x_self_many), ("table", (dKT dI) x_self_table_3), ("ends", (dL (dL dI)) x_self_ends)])) (jp_fldO (j := 1) (jp_name (i := 0) rfl) (by walk_at "lk") rfl) (wF (je_tup (ja_cons (jni 4 rfl rfl) (ja_cons (jni 3 rfl rfl) ja_nil)))) (jni 5 rfl rfl) rfl (fun m' h => p_KT (e := dI) h) (fun _ _ => rfl) fun x_self_table_3 =>
(js_bind fun v4 h4 =>
(js_appP (fz := []) (e := dI) (W := (fun w5 => D.obj WC dx [("many", dI x_self_many), ("table", (dKT dI) x_self_table_3), ("ends", (dL (dL dI)) (setI x_self_ends x_a w5))])) (jp_ix (e := (dL dI)) (jp_fldO (j := 2) (jp_name (i := 0) rfl) (by walk_at "lk") rfl) (jni 3 rfl rfl) h4) (jni 4 rfl rfl) (fun ys _ => congrArg (fun z => D.obj WC dx [("many", dI x_self_many), ("table", (dKT dI) x_self_table_3), ("ends", z)]) (upd_ix (e := (dL dI)) (ix_some h4))) fun w5 =>
(js_last (js_bind fun v6 h6 =>
(js_appP (fz := []) (e := dI) (W := (fun w7 => D.obj WC dx [("many", dI x_self_many), ("table", (dKT dI) x_self_table_3), ("ends", (dL (dL dI)) (setI (setI x_self_ends x_a w5) x_b w7))])) (jp_ix (e := (dL dI)) (jp_fldO (j := 2) (jp_name (i := 0) rfl) (by walk_at "lk") rfl) (jni 4 rfl rfl) h6) (jni 3 rfl rfl) (fun ys _ => congrArg (fun z => D.obj WC dx [("many", dI x_self_many), ("table", (dKT dI) x_self_table_3), ("ends", z)]) (upd_ix (e := (dL dI)) (ix_some h6))) fun w7 =>
(js_endL (s := (x_self_table_3, (setI (setI x_self_ends x_a w5) x_b w7))) (.so rfl rfl (.so rfl rfl (.no (.no (.no (.no (.no .nil)))))))))))))))))))
theorem p_Web_init_run (WC : Addr) (dx : Addr) (x_many : Int) (x_ties : List (Int × Int × Int)) (r : WebT) (h : p_Web_init x_many x_ties = some r) : runNew (B_Web_init WC) 7 WC dx [dI x_many, (dL (dT3 dI dI dI)) x_ties] = some (fsWeb r) :=
  init_run (n := 7) (ds := [dI x_many, (dL (dT3 dI dI dI)) x_ties]) (F := fsWeb) (cs' := [none, none, none, none, none, none]) (by
    unfold p_Web_init B_Web_init
    exact (js_if (jt_or (jt_cmp (d := (dI x_many)) (d2 := (dI (0 : Int))) (jni 1 rfl rfl) jc q_ltI) (jt_cmp (d := (dI x_many)) (d2 := (dI (24 : Int))) (jni 1 rfl rfl) jc q_gtI)) js_none (js_nil (js_atPO (a2 := false) (fz := []) (e := dI) (W := (fun x_self_many => D.obj WC dx [("many", dI x_self_many)])) (jp_name (i := 0) rfl) (jni 1 rfl rfl) rfl (fun _ => by walk_at "lk") fun x_self_many =>
(js_atPO (a2 := false) (fz := []) (e := (dKT dI)) (W := (fun x_self_table => D.obj WC dx [("many", dI x_self_many), ("table", (dKT dI) x_self_table)])) (jp_name (i := 0) rfl) je_dt rfl (fun _ => by walk_at "lk") fun x_self_table =>
(js_bind fun v1 h1 =>
(js_bind fun v3 h3 =>
(js_atPO (a2 := false) (fz := []) (e := (dL (dL dI))) (W := (fun x_self_ends => D.obj WC dx [("many", dI x_self_many), ("table", (dKT dI) x_self_table), ("ends", (dL (dL dI)) x_self_ends)])) (jp_name (i := 0) rfl) (wF (je_lcQ (e := dI) (e2 := (dL dI)) (F := fun (y2 : Int) => ([] : List Int)) (jit_r1 (jni 1 rfl rfl) h1) (fun _ => rfl) (fun y2 => (wF (je_lst ja_nil))) h3)) rfl (fun _ => by walk_at "lk") fun x_self_ends =>
(js_last (js_for (fz := []) (e := (dT3 dI dI dI)) (C := K_Web_init_L1 WC dx x_many x_self_many) (jit_l (e := (dT3 dI dI dI)) (jns 2 rfl)) (.so rfl rfl (.so rfl rfl (.no (.no (.no (.no (.no .nil))))))) (fun _ _ => rfl) (fun x8 s8 => p_Web_init_L1_ok WC dx x_many x_self_many x8.1 x8.2.1 x8.2.2 s8.1 s8.2) (fun s8 =>
(js_endJ (s := (x_self_many, s8.1, s8.2)) (.so rfl rfl (.no (.no (.no (.no (.no (.no .nil))))))))))))))))))) h (Nat.le_of_ble_eq_true rfl)
theorem I_Web_ok (WC : Addr) : ∀ dx ds fs, I_Web ds = some fs → runNew (B_Web_init WC) 7 WC dx ds = some fs := fun dx ds fs h => by
  obtain ⟨x_many, x_ties, r, h1, h2, h3⟩ := pick_some h
  subst h1 h3
  exact p_Web_init_run WC dx x_many x_ties r h2
theorem p_Web_init_ok (WC : Addr) (x_many : Int) (x_ties : List (Int × Int × Int)) (r : WebT) (h : p_Web_init x_many x_ties = some r) : I_Web [dI x_many, (dL (dT3 dI dI dI)) x_ties] = some (fsWeb r) := pick_ex (P := fun fs => ∃ x_many' x_ties' r', [dI x_many, (dL (dT3 dI dI dI)) x_ties] = [dI x_many', (dL (dT3 dI dI dI)) x_ties'] ∧ p_Web_init x_many' x_ties' = some r' ∧ fs = fsWeb r') ⟨x_many, x_ties, r, rfl, h, rfl⟩ fun y ⟨x_many', x_ties', r', e1, e2, e3⟩ => by
  have q1 := p_Web_init_run WC 0 x_many x_ties r h
  have q2 := p_Web_init_run WC 0 x_many' x_ties' r' e2
  rw [← e1, q1] at q2
  rw [e3]
  exact (Option.some.inj q2).symm
theorem p_law_mixed_ok (WC : Addr) (x_cell : Int) (x_factor : Int) (r : Int) (h : p_law_mixed x_cell x_factor = some r) : RetE (R_law_mixed WC) [dI x_cell, dI x_factor] (dI r) .full false :=
  fnk 2 (by
    unfold p_law_mixed B_law_mixed
    exact (js_last (js_bind fun v1 h1 =>
(js_ret (q := (fun r => r)) (er := dI) (x := (v1 % (2147483647 : Int))) (l := .full) ret_R (je_modL (je_mulO (je_add (jni 0 rfl rfl) (je_modL (jni 1 rfl rfl) jc)) (jni 1 rfl rfl) h1) jc))))) h
theorem p_is_name_ok (WC : Addr) (x_word : SS) (r : Bool) (h : p_is_name x_word = some r) : RetE (R_is_name WC) [dSS x_word] (dB r) .full false :=
  fnk 2 (by
    unfold p_is_name B_is_name
    exact (js_last (js_bind fun v1 h1 =>
(js_bind fun v6 h6 =>
(js_ret (q := (fun r => r)) (er := dB) (x := v6) (l := .full) ret_R (je_andO (je_chn (d := (dI (1 : Int))) (d2 := (dI v1)) (d3 := (dI (8 : Int))) jc (je_lenS (x := x_word) (jni 0 rfl rfl) h1) jc rfl q_leI q_leI) (jeo_b fun v2 h2 => (jeo_b fun v5 h5 => (jeo_p (je_biI (ja_cons (wF (je_lcM (e := dSS) (e2 := dB) (jit_s (x := x_word) (jni 0 rfl rfl) h2) (fun _ => rfl) (fun y3 => (jto_p jt_yes)) (fun y3 => (jeo_b fun v4 h4 => (jeo_p (je_cmp (d := (dSS y3)) (d2 := (dSS (mkS "abcdefghijklmnopqrstuvwxyz" (by decide +kernel)))) (jni 1 rfl rfl) jc (q_inS (x := y3) (z := (mkS "abcdefghijklmnopqrstuvwxyz" (by decide +kernel))) h4))))) h5)) ja_nil) (b_all _) (.inl rfl))))) h6)))))) h
theorem p_law_whole_ok (WC : Addr) (x_found : Int) (r : Bool) (h : p_law_whole x_found = some r) : RetE (R_law_whole WC) [dI x_found] (dB r) .full false :=
  fnk 1 (by
    unfold p_law_whole B_law_whole
    exact (js_last (js_ret (q := (fun r => r)) (er := dB) (x := (true && (!false))) (l := .full) ret_R (je_and (je_isi (d := (dI x_found)) (jni 0 rfl rfl) rfl kb_int_int) (je_not (je_isi (d := (dI x_found)) (jni 0 rfl rfl) rfl kb_int_bool)))))) h
theorem p_Web_ties_ok (WC : Addr) (x_self : WebT) (r : (List (Int × Int × Int))) (h : p_Web_ties x_self = some r) : RetE (R_Web_ties WC) [(dWeb WC) x_self] ((dL (dT3 dI dI dI)) r) .full false :=
  fnk 3 (by
    unfold p_Web_ties B_Web_ties
    exact (js_last (js_bind fun v2 h2 =>
(js_ret (q := (fun r => r)) (er := (dL (dT3 dI dI dI))) (x := (sort3 v2)) (l := .full) ret_R (je_biI (ja_cons (wF (lcD_ok (e := (dT2 (dT2 dI dI) dI)) (e2 := (dT3 dI dI dI)) (rd_fld (i := 0) rfl (by walk_at "lk")) (it_KT (e := dI) (fun _ => rfl) _) (.no (.no (.no .nil))) (fun _ => rfl) (fun y1 => (jto_p (jt_cmp (d := (dI y1.1.1)) (d2 := (dI y1.1.2)) (je_ixI (d' := dI y1.1.1) (jni 1 rfl rfl) jc rfl rfl) (je_ixI (d' := dI y1.1.2) (jni 1 rfl rfl) jc rfl rfl) q_ltI))) (fun y1 => (jeo_p (wF (je_tup (ja_cons (je_ixI (d' := dI y1.1.1) (jni 1 rfl rfl) jc rfl rfl) (ja_cons (je_ixI (d' := dI y1.1.2) (jni 1 rfl rfl) jc rfl rfl) (ja_cons (jni 2 rfl rfl) ja_nil))))))) h2)) ja_nil) (b_sorted3 _) (.inr ⟨whole_map (fun _ => rfl), rfl⟩)))))) h
theorem p_Web_size_ok (WC : Addr) (x_self : WebT) (r : Int) (h : p_Web_size x_self = some r) : RetE (R_Web_size WC) [(dWeb WC) x_self] (dI r) .full false :=
  fnk 1 (by
    unfold p_Web_size B_Web_size
    exact (js_last (js_ret (q := (fun r => r)) (er := dI) (x := x_self.1) (l := .full) ret_R (je_atI (jns 0 rfl) (by walk_at "lk") rfl)))) h
theorem p_law_letter_ok (WC : Addr) (x_number : Int) (r : SS) (h : p_law_letter x_number = some r) : RetE (R_law_letter WC) [dI x_number] (dSS r) .full false :=
  fnk 1 (by
    unfold p_law_letter B_law_letter
    exact (js_last (js_bind fun v1 h1 =>
(js_ret (q := (fun r => r)) (er := dSS) (x := v1) (l := .full) ret_R (je_ixS (x := (mkS "abcdefghijklmnopqrstuvwxyz" (by decide +kernel))) jc (je_modL (jni 0 rfl rfl) jc) h1))))) h
theorem p_is_number_ok (WC : Addr) (x_word : SS) (r : Bool) (h : p_is_number x_word = some r) : RetE (R_is_number WC) [dSS x_word] (dB r) .full false :=
  fnk 3 (by
    unfold p_is_number B_is_number
    exact (js_set (fz := []) (e := dSS) (jni 0 rfl rfl) rfl fun x_figures =>
(js_ifJ (C := fun (s2 : SS) => [some ⟨dSS x_word, .a, true⟩, some ⟨dSS s2, .a, true⟩, none]) (jt_val (je_mt (jni 0 rfl rfl) (ja_cons jc ja_nil) (m_startsS (x := x_word) (y := (mkS "-" (by decide +kernel)))) (.inl rfl))) (js_last (js_bind fun v1 h1 =>
(js_set (fz := []) (e := dSS) (je_slS (x := x_word) (jni 0 rfl rfl) (jo_s jc) jo_n h1) rfl fun x_figures_2 =>
(js_endJ (s := x_figures_2) (.so rfl rfl (.so rfl rfl (.no .nil))))))) (js_endJ (s := x_figures) (.so rfl rfl (.so rfl rfl (.no .nil)))) fun s2 =>
(js_bind fun v9 h9 =>
(js_if (jt_orO (jt_cmp (d := (dSS s2)) (d2 := (dSS (mkS "" (by decide +kernel)))) (jni 1 rfl rfl) jc (q_eq ek_str s2 (mkS "" (by decide +kernel)))) (jto_b fun v3 h3 => (jto_b fun v8 h8 => (jto_p (jt_orO (jt_cmp (d := (dI v3)) (d2 := (dI (60 : Int))) (je_lenS (x := s2) (jni 1 rfl rfl) h3) jc q_gtI) (jto_b fun v4 h4 => (jto_b fun v7 h7 => (jto_p (jt_not (jt_val (je_biI (ja_cons (wF (je_lcM (e := dSS) (e2 := dB) (jit_s (x := s2) (jni 1 rfl rfl) h4) (fun _ => rfl) (fun y5 => (jto_p jt_yes)) (fun y5 => (jeo_b fun v6 h6 => (jeo_p (je_cmp (d := (dSS y5)) (d2 := (dSS (mkS "0123456789" (by decide +kernel)))) (jni 2 rfl rfl) jc (q_inS (x := y5) (z := (mkS "0123456789" (by decide +kernel))) h6))))) h7)) ja_nil) (b_all _) (.inl rfl))))))) h8)))) h9) (js_le [some ⟨dSS x_word, .a, true⟩, some ⟨dSS s2, .a, true⟩, none] (.so rfl rfl (.so rfl rfl (.no .nil))) (js_ret (q := (fun r => r)) (er := dB) (x := false) (l := .full) ret_R jc)) (js_nil (js_last (js_bind fun v10 h10 =>
(js_ret (q := (fun r => r)) (er := dB) (x := ((!decide (v10 = (mkS "0" (by decide +kernel)))) || decide (x_word = (mkS "0" (by decide +kernel))))) (l := .full) ret_R (je_or (je_cmp (d := (dSS v10)) (d2 := (dSS (mkS "0" (by decide +kernel)))) (je_ixS (x := s2) (jni 1 rfl rfl) jc h10) jc (q_ne ek_str v10 (mkS "0" (by decide +kernel)))) (je_cmp (d := (dSS x_word)) (d2 := (dSS (mkS "0" (by decide +kernel)))) (jni 0 rfl rfl) jc (q_eq ek_str x_word (mkS "0" (by decide +kernel)))))))))))))) h
theorem p_place_of_ok (WC : Addr) (x_names : List SS) (x_name : SS) (r : (List SS) × Int) (h : p_place_of x_names x_name = some r) : RetME (R_place_of WC) [(dL dSS) x_names, dSS x_name] ((fun (r : (List SS) × Int) => [some ((dL dSS) r.1), none]) r) ((fun (r : (List SS) × Int) => dI r.2) r) .full false :=
  fn_okM (n := 2) (ms := [true, false]) (bs := [true, false]) (ds := [(dL dSS) x_names, dSS x_name]) (o := p_place_of x_names x_name) (er := (fun (r : (List SS) × Int) => dI r.2)) (bk := (fun (r : (List SS) × Int) => [some ((dL dSS) r.1), none])) (by
    unfold p_place_of B_place_of
    exact (js_ifJ (C := fun (s1 : (List SS)) => [some ⟨(dL dSS) s1, .p 0, true⟩, some ⟨dSS x_name, .a, true⟩]) (jt_cmp (d := (dSS x_name)) (d2 := ((dL dSS) x_names)) (jni 1 rfl rfl) (jnv 0 rfl) (q_ninL ek_str x_name x_names)) (js_last (js_app (fz := []) (e := dSS) rfl (jni 1 rfl rfl) rfl fun x_names_2 =>
(js_endJ (s := x_names_2) (.so rfl rfl (.so rfl rfl .nil))))) (js_endJ (s := x_names) (.so rfl rfl (.so rfl rfl .nil))) fun s1 =>
(js_last (js_bind fun v2 h2 =>
(js_ret (q := (fun r => r)) (er := (fun (r : (List SS) × Int) => dI r.2)) (x := (s1, v2)) (l := .full) ret_R (je_mt (jnv 0 rfl) (ja_cons (jni 1 rfl rfl) ja_nil) (m_idx ek_str h2) (.inl rfl)) (hP := bk_ret rfl)))))) h
theorem p_law_right_ok (WC : Addr) (x_found : (List SS) × WebT) (x_names_here : List SS) (x_rows : List (Int × Int × Int)) (r : Bool) (h : p_law_right x_found x_names_here x_rows = some r) : RetE (R_law_right WC) [(dT2 (dL dSS) (dWeb WC)) x_found, (dL dSS) x_names_here, (dL (dT3 dI dI dI)) x_rows] (dB r) .full false :=
  fnk 4 (by
    unfold p_law_right B_law_right
    exact (js_if (jt_or (jt_not (jt_val (je_isi (d := ((dT2 (dL dSS) (dWeb WC)) x_found)) (jns 0 rfl) rfl kb_tuple_tuple))) (jt_or (jt_cmp (d := (dI (2 : Int))) (d2 := (dI (2 : Int))) (je_len (n := 2) (d := ((dT2 (dL dSS) (dWeb WC)) x_found)) (jns 0 rfl) (n_t rfl)) jc (q_ne ek_int (2 : Int) (2 : Int))) (jt_not (jt_val (je_isi (d := ((dL dSS) x_found.1)) (je_ix (d' := (dL dSS) x_found.1) (jns 0 rfl) jc rfl) rfl kb_list_list))))) (js_ret (q := (fun r => r)) (er := dB) (x := false) (l := .full) ret_R jc) (js_nil (js_bind fun v2 h2 =>
(js_if (jt_or (jt_not (jt_val (je_biI (ja_cons (wF (je_lcQ (e := dSS) (e2 := dB) (F := fun (y1 : SS) => true) (jit_lI (e := dSS) (fun _ => rfl) (je_ix (d' := (dL dSS) x_found.1) (jns 0 rfl) jc rfl)) (fun _ => rfl) (fun y1 => (je_isi (d := (dSS y1)) (jni 3 rfl rfl) rfl kb_str_str)) h2)) ja_nil) (b_all _) (.inl rfl)))) (jt_cmp (d := ((dL dSS) x_found.1)) (d2 := ((dL dSS) x_names_here)) (je_ix (d' := (dL dSS) x_found.1) (jns 0 rfl) jc rfl) (jns 1 rfl) (q_ne (ek_list ek_str) x_found.1 x_names_here))) (js_ret (q := (fun r => r)) (er := dB) (x := false) (l := .full) ret_R jc) (js_nil (js_bind fun v5 h5 =>
(js_if (jt_orO (jt_not (jt_val (je_isiW (je_ix (d' := (dWeb WC) x_found.2) (jns 0 rfl) jc rfl)))) (jto_b fun v3 h3 => (jto_b fun v4 h4 => (jto_p (jt_not (jt_val (je_callI (ja_cons (je_methI (je_ix (d' := (dWeb WC) x_found.2) (jns 0 rfl) jc rfl) (by walk_at "lk") ja_nil (p_Web_size_ok WC x_found.2 v3 h3) rfl) ja_nil) (p_law_whole_ok WC v3 v4 h4) rfl)))))) h5) (js_le [some ⟨(dT2 (dL dSS) (dWeb WC)) x_found, .s, true⟩, some ⟨(dL dSS) x_names_here, .s, true⟩, some ⟨(dL (dT3 dI dI dI)) x_rows, .s, true⟩, none] (.so rfl rfl (.so rfl rfl (.so rfl rfl (.no .nil)))) (js_ret (q := (fun r => r)) (er := dB) (x := false) (l := .full) ret_R jc)) (js_nil (js_last (js_bind fun v6 h6 =>
(js_bind fun v8 h8 =>
(js_ret (q := (fun r => r)) (er := dB) (x := v8) (l := .full) ret_R (je_andO (je_cmp (d := (dI v6)) (d2 := (dI (x_names_here.length : Int))) (je_methI (je_ix (d' := (dWeb WC) x_found.2) (jns 0 rfl) jc rfl) (by walk_at "lk") ja_nil (p_Web_size_ok WC x_found.2 v6 h6) rfl) (je_len (d := ((dL dSS) x_names_here)) (jns 1 rfl) (n_l _)) (q_eq ek_int v6 (x_names_here.length : Int))) (jeo_b fun v7 h7 => (jeo_p (je_cmp (d := ((dL (dT3 dI dI dI)) v7)) (d2 := ((dL (dT3 dI dI dI)) x_rows)) (wF (je_meth (je_ix (d' := (dWeb WC) x_found.2) (jns 0 rfl) jc rfl) (by walk_at "lk") ja_nil (p_Web_ties_ok WC x_found.2 v7 h7))) (jns 2 rfl) (q_eq (ek_list (ek_t3 ek_int ek_int ek_int)) v7 x_rows)))) h8)))))))))))))) h
abbrev K_shown_L1 (WC : Addr) (x_names : List SS) : ((List SS)) → CS := fun s => [some ⟨(dL dSS) x_names, .s, true⟩, none, some ⟨(dL dSS) s, .f, false⟩, none, none, none]
theorem p_shown_L1_ok (WC : Addr) (x_names : List SS) (x_a : Int) (x_b : Int) (x_heavy : Int) (x_things : List SS) : JS [some ⟨(dL dSS) x_names, .s, true⟩, none, some ⟨(dL dSS) x_things, .f, false⟩, some ⟨dI x_a, .s, false⟩, some ⟨dI x_b, .s, false⟩, some ⟨dI x_heavy, .s, false⟩] ((FB_shown_1 WC)) (p_shown_L1 x_names x_a x_b x_heavy x_things) (ΨL (K_shown_L1 WC x_names)) := by
  unfold p_shown_L1 FB_shown_1
  exact (js_last (js_bind fun v2 h2 =>
(js_bind fun v3 h3 =>
(js_bind fun v4 h4 =>
(js_bind fun v5 h5 =>
(js_bind fun v6 h6 =>
(js_bind fun v7 h7 =>
(js_bind fun v8 h8 =>
(js_app (fz := []) (e := dSS) rfl (je_catS (x := v6) (y := v7) (je_catS (x := v5) (y := (mkS " " (by decide +kernel))) (je_catS (x := v3) (y := v4) (je_catS (x := v2) (y := (mkS "-" (by decide +kernel))) (je_ixI (d := ((dL dSS) x_names)) (d2 := (dI x_a)) (jns 0 rfl) (jni 3 rfl rfl) (x_l (e := dSS) h2) rfl) jc h3) (je_ixI (d := ((dL dSS) x_names)) (d2 := (dI x_b)) (jns 0 rfl) (jni 4 rfl rfl) (x_l (e := dSS) h4) rfl) h5) jc h6) (je_biI (ja_cons (jni 5 rfl rfl) ja_nil) (b_strI h7) (.inl rfl)) h8) rfl fun x_things_2 =>
(js_endL (s := x_things_2) (.so rfl rfl (.no (.so rfl rfl (.no (.no (.no .nil))))))))))))))))
theorem p_shown_ok (WC : Addr) (x_names : List SS) (x_web : WebT) (r : SS) (h : p_shown x_names x_web = some r) : RetE (R_shown WC) [(dL dSS) x_names, (dWeb WC) x_web] (dSS r) .full false :=
  fnk 6 (by
    unfold p_shown B_shown
    exact (js_set (fz := []) (e := (dL dSS)) (je_biI (ja_cons (jns 0 rfl) ja_nil) (b_list (e := dSS) _) (.inr ⟨whole_map (fun _ => rfl), rfl⟩)) rfl fun x_things =>
(js_bind fun v1 h1 =>
(js_for (fz := []) (e := (dT3 dI dI dI)) (C := K_shown_L1 WC x_names) (jit_l (e := (dT3 dI dI dI)) (wF (je_meth (jns 1 rfl) (by walk_at "lk") ja_nil (p_Web_ties_ok WC x_web v1 h1)))) (.so rfl rfl (.no (.so rfl rfl (.no (.no (.no .nil)))))) (fun _ _ => rfl) (fun x9 s9 => p_shown_L1_ok WC x_names x9.1 x9.2.1 x9.2.2 s9) (fun s9 =>
(js_last (js_bind fun v10 h10 =>
(js_ret (q := (fun r => r)) (er := dSS) (x := v10) (l := .full) ret_R (je_mt jc (ja_cons (jnv 2 rfl) ja_nil) (m_joinS (x := (mkS ", " (by decide +kernel))) (ys := s9) h10) (.inl rfl)))))))))) h
abbrev K_law_word_L1 (WC : Addr)  : (Int × SS) → CS := fun s => [some ⟨dI s.1, .a, true⟩, some ⟨dSS s.2, .a, true⟩, none]
theorem p_law_word_L1_ok (WC : Addr) (x_k : Int) (x_number : Int) (x_word_here : SS) : JS [some ⟨dI x_number, .a, true⟩, some ⟨dSS x_word_here, .a, true⟩, some ⟨dI x_k, .s, false⟩] ((FB_law_word_1 WC)) (p_law_word_L1 x_k x_number x_word_here) (ΨL (K_law_word_L1 WC )) := by
  unfold p_law_word_L1 FB_law_word_1
  exact (js_bind fun v2 h2 =>
(js_set (fz := []) (e := dI) (je_callI (ja_cons (je_add (jni 0 rfl rfl) (jni 2 rfl rfl)) (ja_cons jc ja_nil)) (p_law_mixed_ok WC (x_number + x_k) (1103515245 : Int) v2 h2) rfl) rfl fun x_number_2 =>
(js_last (js_bind fun v3 h3 =>
(js_bind fun v4 h4 =>
(js_set (fz := []) (e := dSS) (je_catS (x := x_word_here) (y := v3) (jni 1 rfl rfl) (je_callI (ja_cons (je_divL (jni 0 rfl rfl) jc) ja_nil) (p_law_letter_ok WC (x_number_2 / (64 : Int)) v3 h3) rfl) h4) rfl fun x_word_here_2 =>
(js_endL (s := (x_number_2, x_word_here_2)) (.so rfl rfl (.so rfl rfl (.no .nil))))))))))
theorem p_law_word_ok (WC : Addr) (x_number : Int) (r : SS) (h : p_law_word x_number = some r) : RetE (R_law_word WC) [dI x_number] (dSS r) .full false :=
  fnk 3 (by
    unfold p_law_word B_law_word
    exact (js_set (fz := []) (e := dSS) jc rfl fun x_word_here =>
(js_bind fun v1 h1 =>
(js_for (fz := []) (e := dI) (C := K_law_word_L1 WC) (jit_r1 (je_add jc (je_modL (je_divL (jni 0 rfl rfl) jc) jc)) h1) (.so rfl rfl (.so rfl rfl (.no .nil))) (fun _ _ => rfl) (fun x5 s5 => p_law_word_L1_ok WC x5 s5.1 s5.2) (fun s5 =>
(js_last (js_retI (q := (fun r => r)) (er := dSS) (x := s5.2) (i := 1) ret_R rfl rfl rfl))))))) h
theorem p_law_heavy_ok (WC : Addr) (x_cell : Int) (x_way : Int) (r : Int) (h : p_law_heavy x_cell x_way = some r) : RetE (R_law_heavy WC) [dI x_cell, dI x_way] (dI r) .full false :=
  fnk 2 (by
    unfold p_law_heavy B_law_heavy
    exact (js_if (jt_cmp (d := (dI x_way)) (d2 := (dI (0 : Int))) (jni 1 rfl rfl) jc (q_eq ek_int x_way (0 : Int))) (js_ret (q := (fun r => r)) (er := dI) (x := ((x_cell % (((2 : Int) * (1000000000000000000000000000000000000000000000000000000000000 : Int)) - (1 : Int))) - ((1000000000000000000000000000000000000000000000000000000000000 : Int) - (1 : Int)))) (l := .full) ret_R (je_sub (je_modL (jni 0 rfl rfl) (je_sub (je_mulL jc (je_powL jc jc)) jc)) (je_sub (je_powL jc jc) jc))) (js_nil (js_last (js_bind fun v1 h1 =>
(js_ret (q := (fun r => r)) (er := dI) (x := ((v1 % (21 : Int)) - (10 : Int))) (l := .full) ret_R (je_sub (je_modL (je_callI (ja_cons (jni 0 rfl rfl) (ja_cons jc ja_nil)) (p_law_mixed_ok WC x_cell (1812433253 : Int) v1 h1) rfl) jc) jc))))))) h
theorem p_tie_of_ok (WC : Addr) (x_thing : SS) (x_names : List SS) (x_seen : List ((Int × Int) × Bool)) (r : (List SS) × (List ((Int × Int) × Bool)) × (Int × Int × Int)) (h : p_tie_of x_thing x_names x_seen = some r) : RetME (R_tie_of WC) [dSS x_thing, (dL dSS) x_names, (dKT dB) x_seen] ((fun (r : (List SS) × (List ((Int × Int) × Bool)) × (Int × Int × Int)) => [none, some ((dL dSS) r.1), some ((dKT dB) r.2.1)]) r) ((fun (r : (List SS) × (List ((Int × Int) × Bool)) × (Int × Int × Int)) => (dT3 dI dI dI) r.2.2) r) .full false :=
  fn_okM (n := 11) (ms := [false, true, true]) (bs := [false, true, true]) (ds := [dSS x_thing, (dL dSS) x_names, (dKT dB) x_seen]) (o := p_tie_of x_thing x_names x_seen) (er := (fun (r : (List SS) × (List ((Int × Int) × Bool)) × (Int × Int × Int)) => (dT3 dI dI dI) r.2.2)) (bk := (fun (r : (List SS) × (List ((Int × Int) × Bool)) × (Int × Int × Int)) => [none, some ((dL dSS) r.1), some ((dKT dB) r.2.1)])) (by
    unfold p_tie_of B_tie_of
    exact (js_bind fun v1 h1 =>
(js_asg (fz := []) (e := (dT3 dSS dSS dSS)) (je_mt (jni 0 rfl rfl) (ja_cons jc ja_nil) (m_partS (x := x_thing) (y := (mkS " " (by decide +kernel))) h1) (.inl rfl)) (fun _ => rfl) fun q2 =>
(js_bind fun v3 h3 =>
(js_asg (fz := []) (e := (dT3 dSS dSS dSS)) (je_mt (jni 3 rfl rfl) (ja_cons jc ja_nil) (m_partS (x := q2.1) (y := (mkS "-" (by decide +kernel))) h3) (.inl rfl)) (fun _ => rfl) fun q4 =>
(js_bind fun v5 h5 =>
(js_bind fun v9 h9 =>
(js_if (jt_orO (jt_not (jt_val (je_callI (ja_cons (jni 6 rfl rfl) ja_nil) (p_is_name_ok WC q4.1 v5 h5) rfl))) (jto_b fun v6 h6 => (jto_b fun v8 h8 => (jto_p (jt_orO (jt_not (jt_val (je_callI (ja_cons (jni 8 rfl rfl) ja_nil) (p_is_name_ok WC q4.2.2 v6 h6) rfl))) (jto_b fun v7 h7 => (jto_p (jt_or (jt_not (jt_val (je_callI (ja_cons (jni 5 rfl rfl) ja_nil) (p_is_number_ok WC q2.2.2 v7 h7) rfl))) (jt_cmp (d := (dSS q4.1)) (d2 := (dSS q4.2.2)) (jni 6 rfl rfl) (jni 8 rfl rfl) (q_eq ek_str q4.1 q4.2.2))))) h8)))) h9) js_none (js_nil (js_bind fun v10 h10 =>
(js_setX (e := dI) (i := 9) (jx_call (jm_slot (j := 1) rfl rfl (jm_val (jni 6 rfl rfl) jm_nil)) (OkC.sl rfl rfl rfl (OkC.sh OkC.nil)) (p_place_of_ok WC x_names q4.1 v10 h10)) rfl fun x_a =>
(js_le [some ⟨dSS x_thing, .s, true⟩, some ⟨(dL dSS) v10.1, .p 1, true⟩, some ⟨(dKT dB) x_seen, .p 2, true⟩, some ⟨dSS q2.1, .s, false⟩, some ⟨dSS q2.2.1, .s, false⟩, some ⟨dSS q2.2.2, .s, false⟩, some ⟨dSS q4.1, .s, false⟩, some ⟨dSS q4.2.1, .s, false⟩, some ⟨dSS q4.2.2, .s, false⟩, some ⟨dI x_a, .f, false⟩, none] (.so rfl rfl (.so rfl rfl (.so rfl rfl (.so rfl rfl (.so rfl rfl (.so rfl rfl (.so rfl rfl (.so rfl rfl (.so rfl rfl (.so rfl rfl (.no .nil))))))))))) (js_bind fun v11 h11 =>
(js_setX (e := dI) (i := 10) (jx_call (jm_slot (j := 1) rfl rfl (jm_val (jni 8 rfl rfl) jm_nil)) (OkC.sl rfl rfl rfl (OkC.sh OkC.nil)) (p_place_of_ok WC v10.1 q4.2.2 v11 h11)) rfl fun x_b =>
(js_if (jt_cmp (d := ((dT2 dI dI) (x_a, x_b))) (d2 := ((dKT dB) x_seen)) (wF (je_tup (ja_cons (jni 9 rfl rfl) (ja_cons (jni 10 rfl rfl) ja_nil)))) (jnv 2 rfl) (q_inKT (e := dB) x_seen (x_a, x_b))) js_none (js_nil (js_putP (fz := []) (eM := (dKT dB)) (W := (fun x_seen_2 => (dKT dB) x_seen_2)) (jp_name (i := 2) rfl) (wF (je_tup (ja_cons (jni 9 rfl rfl) (ja_cons (jni 10 rfl rfl) ja_nil)))) jc rfl (fun m' h => p_KT (e := dB) h) (fun _ _ => rfl) fun x_seen_2 =>
(js_putP (fz := []) (eM := (dKT dB)) (W := (fun x_seen_3 => (dKT dB) x_seen_3)) (jp_name (i := 2) rfl) (wF (je_tup (ja_cons (jni 10 rfl rfl) (ja_cons (jni 9 rfl rfl) ja_nil)))) jc rfl (fun m' h => p_KT (e := dB) h) (fun _ _ => rfl) fun x_seen_3 =>
(js_last (js_bind fun v12 h12 =>
(js_ret (q := (fun r => r)) (er := (fun (r : (List SS) × (List ((Int × Int) × Bool)) × (Int × Int × Int)) => (dT3 dI dI dI) r.2.2)) (x := (v11.1, x_seen_3, (x_a, x_b, v12))) (l := .full) ret_R (wF (je_tup (ja_cons (jni 9 rfl rfl) (ja_cons (jni 10 rfl rfl) (ja_cons (je_biI (ja_cons (jni 5 rfl rfl) ja_nil) (b_intS (x := q2.2.2) h12) (.inl rfl)) ja_nil))))) (hP := bk_ret rfl)))))))))))))))))))))) h
abbrev K_law_things_L2 (WC : Addr) (x_pool : List SS) (x_way : Int) (x_things_here : List SS) (x_rows : List (Int × Int × Int)) (x_seen : List (SS × SS)) (x_one : SS) (x_other : SS) (x_heavy_here : Int) : ((List SS)) → CS := fun s => [none, some ⟨(dL dSS) x_pool, .s, true⟩, some ⟨dI x_way, .a, true⟩, some ⟨(dL dSS) x_things_here, .f, false⟩, some ⟨(dL dSS) s, .f, false⟩, some ⟨(dL (dT3 dI dI dI)) x_rows, .f, false⟩, some ⟨(dL (dT2 dSS dSS)) x_seen, .f, false⟩, none, none, some ⟨dSS x_one, .a, true⟩, some ⟨dSS x_other, .a, true⟩, some ⟨dI x_heavy_here, .a, true⟩, none, none, none]
theorem p_law_things_L2_ok (WC : Addr) (x_pool : List SS) (x_way : Int) (x_things_here : List SS) (x_rows : List (Int × Int × Int)) (x_seen : List (SS × SS)) (x_one : SS) (x_other : SS) (x_heavy_here : Int) (x_word_here : SS) (x_names_here : List SS) : JS [none, some ⟨(dL dSS) x_pool, .s, true⟩, some ⟨dI x_way, .a, true⟩, some ⟨(dL dSS) x_things_here, .f, false⟩, some ⟨(dL dSS) x_names_here, .f, false⟩, some ⟨(dL (dT3 dI dI dI)) x_rows, .f, false⟩, some ⟨(dL (dT2 dSS dSS)) x_seen, .f, false⟩, none, none, some ⟨dSS x_one, .a, true⟩, some ⟨dSS x_other, .a, true⟩, some ⟨dI x_heavy_here, .a, true⟩, some ⟨dSS x_word_here, .s, false⟩, none, none] ((FB_law_things_1 WC)) (p_law_things_L2 x_word_here x_names_here) (ΨL (K_law_things_L2 WC x_pool x_way x_things_here x_rows x_seen x_one x_other x_heavy_here)) := by
  unfold p_law_things_L2 FB_law_things_1
  exact (js_last (js_ifJ (C := fun (s8 : (List SS)) => [none, some ⟨(dL dSS) x_pool, .s, true⟩, some ⟨dI x_way, .a, true⟩, some ⟨(dL dSS) x_things_here, .f, false⟩, some ⟨(dL dSS) s8, .f, false⟩, some ⟨(dL (dT3 dI dI dI)) x_rows, .f, false⟩, some ⟨(dL (dT2 dSS dSS)) x_seen, .f, false⟩, none, none, some ⟨dSS x_one, .a, true⟩, some ⟨dSS x_other, .a, true⟩, some ⟨dI x_heavy_here, .a, true⟩, none, none, none]) (jt_cmp (d := (dSS x_word_here)) (d2 := ((dL dSS) x_names_here)) (jni 12 rfl rfl) (jnv 4 rfl) (q_ninL ek_str x_word_here x_names_here)) (js_last (js_app (fz := []) (e := dSS) rfl (jni 12 rfl rfl) rfl fun x_names_here_2 =>
(js_endJ (s := x_names_here_2) (.no (.so rfl rfl (.so rfl rfl (.so rfl rfl (.so rfl rfl (.so rfl rfl (.so rfl rfl (.no (.no (.so rfl rfl (.so rfl rfl (.so rfl rfl (.no (.no (.no .nil)))))))))))))))))) (js_endJ (s := x_names_here) (.no (.so rfl rfl (.so rfl rfl (.so rfl rfl (.so rfl rfl (.so rfl rfl (.so rfl rfl (.no (.no (.so rfl rfl (.so rfl rfl (.so rfl rfl (.no (.no (.no .nil)))))))))))))))) fun s8 =>
(js_endL (s := s8) (.no (.so rfl rfl (.so rfl rfl (.so rfl rfl (.so rfl rfl (.so rfl rfl (.so rfl rfl (.no (.no (.so rfl rfl (.so rfl rfl (.so rfl rfl (.no (.no (.no .nil))))))))))))))))))
abbrev K_law_things_L1 (WC : Addr) (x_pool : List SS) (x_way : Int) : ((List SS) × (List SS) × (List (Int × Int × Int)) × (List (SS × SS))) → CS := fun s => [none, some ⟨(dL dSS) x_pool, .s, true⟩, some ⟨dI x_way, .a, true⟩, some ⟨(dL dSS) s.1, .f, false⟩, some ⟨(dL dSS) s.2.1, .f, false⟩, some ⟨(dL (dT3 dI dI dI)) s.2.2.1, .f, false⟩, some ⟨(dL (dT2 dSS dSS)) s.2.2.2, .f, false⟩, none, none, none, none, none, none, none, none]
theorem p_law_things_L1_ok (WC : Addr) (x_pool : List SS) (x_way : Int) (x_cell : Int) (x_things_here : List SS) (x_names_here : List SS) (x_rows : List (Int × Int × Int)) (x_seen : List (SS × SS)) : JS [none, some ⟨(dL dSS) x_pool, .s, true⟩, some ⟨dI x_way, .a, true⟩, some ⟨(dL dSS) x_things_here, .f, false⟩, some ⟨(dL dSS) x_names_here, .f, false⟩, some ⟨(dL (dT3 dI dI dI)) x_rows, .f, false⟩, some ⟨(dL (dT2 dSS dSS)) x_seen, .f, false⟩, some ⟨dI x_cell, .s, false⟩, none, none, none, none, none, none, none] ((FB_law_things_2 WC)) (p_law_things_L1 x_pool x_way x_cell x_things_here x_names_here x_rows x_seen) (ΨL (K_law_things_L1 WC x_pool x_way)) := by
  unfold p_law_things_L1 FB_law_things_2
  exact (js_bind fun v1 h1 =>
(js_set (fz := []) (e := dI) (je_callI (ja_cons (jni 7 rfl rfl) (ja_cons jc ja_nil)) (p_law_mixed_ok WC x_cell (1103515245 : Int) v1 h1) rfl) rfl fun x_number =>
(js_bind fun v2 h2 =>
(js_bind fun v3 h3 =>
(js_set (fz := []) (e := dSS) (je_ixI (d := ((dL dSS) x_pool)) (d2 := (dI v2)) (jns 1 rfl) (je_modO (je_divL (jni 8 rfl rfl) jc) (je_len (d := ((dL dSS) x_pool)) (jns 1 rfl) (n_l _)) h2) (x_l (e := dSS) h3) rfl) rfl fun x_one =>
(js_bind fun v4 h4 =>
(js_bind fun v5 h5 =>
(js_bind fun v6 h6 =>
(js_set (fz := []) (e := dSS) (je_ixI (d := ((dL dSS) x_pool)) (d2 := (dI v5)) (jns 1 rfl) (je_modO (je_divL (je_callI (ja_cons (jni 7 rfl rfl) (ja_cons jc ja_nil)) (p_law_mixed_ok WC x_cell (1812433253 : Int) v4 h4) rfl) jc) (je_len (d := ((dL dSS) x_pool)) (jns 1 rfl) (n_l _)) h5) (x_l (e := dSS) h6) rfl) rfl fun x_other =>
(js_bind fun v7 h7 =>
(js_set (fz := []) (e := dI) (je_callI (ja_cons (jni 7 rfl rfl) (ja_cons (jni 2 rfl rfl) ja_nil)) (p_law_heavy_ok WC x_cell x_way v7 h7) rfl) rfl fun x_heavy_here =>
(js_last (js_le [none, some ⟨(dL dSS) x_pool, .s, true⟩, some ⟨dI x_way, .a, true⟩, some ⟨(dL dSS) x_things_here, .f, false⟩, some ⟨(dL dSS) x_names_here, .f, false⟩, some ⟨(dL (dT3 dI dI dI)) x_rows, .f, false⟩, some ⟨(dL (dT2 dSS dSS)) x_seen, .f, false⟩, some ⟨dI x_cell, .s, false⟩, some ⟨dI x_number, .f, false⟩, some ⟨dSS x_one, .f, false⟩, some ⟨dSS x_other, .f, false⟩, some ⟨dI x_heavy_here, .f, false⟩, none, none, none] (.no (.so rfl rfl (.so rfl rfl (.so rfl rfl (.so rfl rfl (.so rfl rfl (.so rfl rfl (.so rfl rfl (.so rfl rfl (.so rfl rfl (.so rfl rfl (.so rfl rfl (.no (.no (.no .nil))))))))))))))) (js_ifJ (C := fun (s20 : (List SS) × (List SS) × (List (SS × SS)) × (List (Int × Int × Int))) => [none, some ⟨(dL dSS) x_pool, .s, true⟩, some ⟨dI x_way, .a, true⟩, some ⟨(dL dSS) s20.2.1, .f, false⟩, some ⟨(dL dSS) s20.1, .f, false⟩, some ⟨(dL (dT3 dI dI dI)) s20.2.2.2, .f, false⟩, some ⟨(dL (dT2 dSS dSS)) s20.2.2.1, .f, false⟩, none, none, none, none, none, none, none, none]) (jt_and (jt_cmp (d := (dI (x_number % (4 : Int)))) (d2 := (dI (0 : Int))) (je_modL (jni 8 rfl rfl) jc) jc (q_eq ek_int (x_number % (4 : Int)) (0 : Int))) (jt_cmp (d := (dSS x_one)) (d2 := ((dL dSS) x_names_here)) (jni 9 rfl rfl) (jnv 4 rfl) (q_ninL ek_str x_one x_names_here))) (js_app (fz := []) (e := dSS) rfl (jni 9 rfl rfl) rfl fun x_names_here_2 =>
(js_last (js_app (fz := []) (e := dSS) rfl (jni 9 rfl rfl) rfl fun x_things_here_2 =>
(js_endJ (s := (x_names_here_2, x_things_here_2, x_seen, x_rows)) (.no (.so rfl rfl (.so rfl rfl (.so rfl rfl (.so rfl rfl (.so rfl rfl (.so rfl rfl (.no (.no (.no (.no (.no (.no (.no (.no .nil))))))))))))))))))) (js_last (js_ifJ (C := fun (s19 : (List SS) × (List (SS × SS)) × (List (Int × Int × Int)) × (List SS)) => [none, some ⟨(dL dSS) x_pool, .s, true⟩, some ⟨dI x_way, .a, true⟩, some ⟨(dL dSS) s19.2.2.2, .f, false⟩, some ⟨(dL dSS) s19.1, .f, false⟩, some ⟨(dL (dT3 dI dI dI)) s19.2.2.1, .f, false⟩, some ⟨(dL (dT2 dSS dSS)) s19.2.1, .f, false⟩, none, none, none, none, none, none, none, none]) (jt_and (jt_cmp (d := (dSS x_one)) (d2 := (dSS x_other)) (jni 9 rfl rfl) (jni 10 rfl rfl) (q_ne ek_str x_one x_other)) (jt_cmp (d := ((dT2 dSS dSS) (x_one, x_other))) (d2 := ((dL (dT2 dSS dSS)) x_seen)) (wF (je_tup (ja_cons (jni 9 rfl rfl) (ja_cons (jni 10 rfl rfl) ja_nil)))) (jnv 6 rfl) (q_ninL (ek_t2 ek_str ek_str) (x_one, x_other) x_seen))) (js_for (fz := []) (e := dSS) (C := K_law_things_L2 WC x_pool x_way x_things_here x_rows x_seen x_one x_other x_heavy_here) (jit_l (e := dSS) (wF (je_lst (ja_cons (jni 9 rfl rfl) (ja_cons (jni 10 rfl rfl) ja_nil))))) (.no (.so rfl rfl (.so rfl rfl (.so rfl rfl (.so rfl rfl (.so rfl rfl (.so rfl rfl (.no (.no (.so rfl rfl (.so rfl rfl (.so rfl rfl (.no (.no (.no .nil))))))))))))))) (fun _ _ => rfl) (fun x9 s9 => p_law_things_L2_ok WC x_pool x_way x_things_here x_rows x_seen x_one x_other x_heavy_here x9 s9) (fun s9 =>
(js_bind fun v10 h10 =>
(js_set (fz := []) (e := (dL (dT2 dSS dSS))) (je_catI (e := (dT2 dSS dSS)) (jnv 6 rfl) (wF (je_lst (ja_cons (wF (je_tup (ja_cons (jni 9 rfl rfl) (ja_cons (jni 10 rfl rfl) ja_nil)))) (ja_cons (wF (je_tup (ja_cons (jni 10 rfl rfl) (ja_cons (jni 9 rfl rfl) ja_nil)))) ja_nil)))) h10 (fun _ => rfl)) rfl fun x_seen_2 =>
(js_le [none, some ⟨(dL dSS) x_pool, .s, true⟩, some ⟨dI x_way, .a, true⟩, some ⟨(dL dSS) x_things_here, .f, false⟩, some ⟨(dL dSS) s9, .f, false⟩, some ⟨(dL (dT3 dI dI dI)) x_rows, .f, false⟩, some ⟨(dL (dT2 dSS dSS)) x_seen_2, .f, false⟩, none, none, some ⟨dSS x_one, .a, true⟩, some ⟨dSS x_other, .a, true⟩, some ⟨dI x_heavy_here, .a, true⟩, none, none, none] (.no (.so rfl rfl (.so rfl rfl (.so rfl rfl (.so rfl rfl (.so rfl rfl (.so rfl rfl (.no (.no (.so rfl rfl (.so rfl rfl (.so rfl rfl (.no (.no (.no .nil))))))))))))))) (js_bind fun v11 h11 =>
(js_bind fun v12 h12 =>
(js_asgL (i := 13) (j := 14) (e := dI) (je_biI (ja_cons (wF (je_lst (ja_cons (je_mt (jnv 4 rfl) (ja_cons (jni 9 rfl rfl) ja_nil) (m_idx ek_str h11) (.inl rfl)) (ja_cons (je_mt (jnv 4 rfl) (ja_cons (jni 10 rfl rfl) ja_nil) (m_idx ek_str h12) (.inl rfl)) ja_nil)))) ja_nil) (b_sortedI ([v11, v12])) (.inr ⟨whole_map (fun _ => rfl), rfl⟩)) (fun _ => rfl) rfl rfl fun q13 =>
(js_app (fz := []) (e := (dT3 dI dI dI)) rfl (wF (je_tup (ja_cons (jni 13 rfl rfl) (ja_cons (jni 14 rfl rfl) (ja_cons (jni 11 rfl rfl) ja_nil))))) rfl fun x_rows_2 =>
(js_last (js_bind fun v14 h14 =>
(js_bind fun v15 h15 =>
(js_bind fun v16 h16 =>
(js_bind fun v17 h17 =>
(js_bind fun v18 h18 =>
(js_app (fz := []) (e := dSS) rfl (je_catS (x := v16) (y := v17) (je_catS (x := v15) (y := (mkS " " (by decide +kernel))) (je_catS (x := v14) (y := x_other) (je_catS (x := x_one) (y := (mkS "-" (by decide +kernel))) (jni 9 rfl rfl) jc h14) (jni 10 rfl rfl) h15) jc h16) (je_biI (ja_cons (jni 11 rfl rfl) ja_nil) (b_strI h17) (.inl rfl)) h18) rfl fun x_things_here_3 =>
(js_endJ (s := (s9, x_seen_2, x_rows_2, x_things_here_3)) (.no (.so rfl rfl (.so rfl rfl (.so rfl rfl (.so rfl rfl (.so rfl rfl (.so rfl rfl (.no (.no (.no (.no (.no (.no (.no (.no .nil)))))))))))))))))))))))))))))))) (js_endJ (s := (x_names_here, x_seen, x_rows, x_things_here)) (.no (.so rfl rfl (.so rfl rfl (.so rfl rfl (.so rfl rfl (.so rfl rfl (.so rfl rfl (.no (.no (.no (.no (.no (.no (.no (.no .nil)))))))))))))))) fun s19 =>
(js_endJ (s := (s19.1, s19.2.2.2, s19.2.1, s19.2.2.1)) (.no (.so rfl rfl (.so rfl rfl (.so rfl rfl (.so rfl rfl (.so rfl rfl (.so rfl rfl (.no (.no (.no (.no (.no (.no (.no (.no .nil)))))))))))))))))) fun s20 =>
(js_endL (s := (s20.2.1, s20.1, s20.2.2.2, s20.2.2.1)) (.no (.so rfl rfl (.so rfl rfl (.so rfl rfl (.so rfl rfl (.so rfl rfl (.so rfl rfl (.no (.no (.no (.no (.no (.no (.no (.no .nil))))))))))))))))))))))))))))))
theorem p_law_things_ok (WC : Addr) (x_script : List Int) (x_pool : List SS) (x_way : Int) (r : (SS × (List SS) × (List (Int × Int × Int)))) (h : p_law_things x_script x_pool x_way = some r) : RetE (R_law_things WC) [(dF dI) x_script, (dL dSS) x_pool, dI x_way] ((dT3 dSS (dL dSS) (dL (dT3 dI dI dI))) r) .shr false :=
  fnk 15 (by
    unfold p_law_things B_law_things
    exact (js_set (fz := []) (e := (dL dSS)) (wF (je_lst ja_nil)) rfl fun x_things_here =>
(js_set (fz := []) (e := (dL dSS)) (wF (je_lst ja_nil)) rfl fun x_names_here =>
(js_set (fz := []) (e := (dL (dT3 dI dI dI))) (wF (je_lst ja_nil)) rfl fun x_rows =>
(js_set (fz := []) (e := (dL (dT2 dSS dSS))) (wF (je_lst ja_nil)) rfl fun x_seen =>
(js_for (fz := []) (e := dI) (C := K_law_things_L1 WC x_pool x_way) (jit_l (e := dI) (je_slFI (e := dI) (jni 0 rfl (imm_flI x_script)) (jo_s jc) (jo_s jc) (fun _ => rfl))) (.no (.so rfl rfl (.so rfl rfl (.so rfl rfl (.so rfl rfl (.so rfl rfl (.so rfl rfl (.no (.no (.no (.no (.no (.no (.no (.no .nil))))))))))))))) (fun _ _ => rfl) (fun x21 s21 => p_law_things_L1_ok WC x_pool x_way x21 s21.1 s21.2.1 s21.2.2.1 s21.2.2.2) (fun s21 =>
(js_last (js_fz (z := [4]) (js_bind fun v22 h22 =>
(js_ret (q := (fun r => r)) (er := (dT3 dSS (dL dSS) (dL (dT3 dI dI dI)))) (x := (v22, s21.2.1, (sort3 s21.2.2.1))) (l := .shr) ret_R (wS (je_tup (ja_cons (je_mt jc (ja_cons (jnv 3 rfl) ja_nil) (m_joinS (x := (mkS ", " (by decide +kernel))) (ys := s21.1) h22) (.inl rfl)) (ja_cons (jns 4 rfl) (ja_cons (je_biI (ja_cons (jnv 5 rfl) ja_nil) (b_sorted3 _) (.inr ⟨whole_map (fun _ => rfl), rfl⟩)) ja_nil)))))))))))))))) h
abbrev K_read_L1 (WC : Addr) (x_things : Nat) : ((List SS) × (List (Int × Int × Int)) × (List ((Int × Int) × Bool))) → CS := fun s => [none, some ⟨(dL dSS) s.1, .f, false⟩, some ⟨(dL (dT3 dI dI dI)) s.2.1, .f, false⟩, some ⟨(dKT dB) s.2.2, .f, false⟩, some ⟨D.any, .p x_things, false⟩, none]
theorem p_read_L1_ok (WC : Addr) (x_things : Nat) (x_thing : SS) (x_names : List SS) (x_rows : List (Int × Int × Int)) (x_seen : List ((Int × Int) × Bool)) : JS [none, some ⟨(dL dSS) x_names, .f, false⟩, some ⟨(dL (dT3 dI dI dI)) x_rows, .f, false⟩, some ⟨(dKT dB) x_seen, .f, false⟩, some ⟨D.any, .p x_things, false⟩, some ⟨dSS x_thing, .s, false⟩] ((FB_read_1 WC)) (p_read_L1 x_thing x_names x_rows x_seen) (ΨL (K_read_L1 WC x_things)) := by
  unfold p_read_L1 FB_read_1
  exact (js_last (js_bind fun v4 h4 =>
(js_if (jt_val (je_callI (ja_cons (jni 5 rfl rfl) ja_nil) (p_is_name_ok WC x_thing v4 h4) rfl)) (js_assoc (js_if (jt_cmp (d := (dSS x_thing)) (d2 := ((dL dSS) x_names)) (jni 5 rfl rfl) (jnv 1 rfl) (q_inL ek_str x_thing x_names)) js_none (js_nil (js_app (fz := []) (e := dSS) rfl (jni 5 rfl rfl) rfl fun x_names_2 =>
(js_endL (s := (x_names_2, x_rows, x_seen)) (.no (.so rfl rfl (.so rfl rfl (.so rfl rfl (.so (leM_pp _) rfl (.no .nil))))))))))) (js_le [none, some ⟨(dL dSS) x_names, .f, false⟩, some ⟨(dL (dT3 dI dI dI)) x_rows, .f, false⟩, some ⟨(dKT dB) x_seen, .f, false⟩, some ⟨D.any, .p x_things, false⟩, some ⟨dSS x_thing, .s, false⟩] (.no (.so rfl rfl (.so rfl rfl (.so rfl rfl (.so (leM_pp _) rfl (.so rfl rfl .nil)))))) (js_bind fun v5 h5 =>
(js_appX (e := (dT3 dI dI dI)) (i := 2) rfl rfl (jx_call (jm_val (jni 5 rfl rfl) (jm_slot (j := 1) rfl rfl (jm_slot (j := 3) rfl rfl jm_nil))) (OkC.sh (OkC.sl rfl rfl rfl (OkC.sl rfl rfl rfl OkC.nil))) (p_tie_of_ok WC x_thing x_names x_seen v5 h5)) rfl rfl fun x_rows_2 =>
(js_endL (s := (v5.1, x_rows_2, v5.2.1)) (.no (.so rfl rfl (.so rfl rfl (.so rfl rfl (.so (leM_pp _) rfl (.no .nil)))))))))))))
theorem p_read_ok (WC : Addr) (x_text : SS) (r : ((List SS) × WebT)) (h : p_read x_text = some r) : RetE (R_read WC) [dSS x_text] ((dT2 (dL dSS) (dWeb WC)) r) .full false :=
  fnk 6 (by
    unfold p_read B_read
    exact (js_set (fz := []) (e := (dL dSS)) (wF (je_lst ja_nil)) rfl fun x_names =>
(js_set (fz := []) (e := (dL (dT3 dI dI dI))) (wF (je_lst ja_nil)) rfl fun x_rows =>
(js_set (fz := []) (e := (dKT dB)) je_dt rfl fun x_seen =>
(js_bind fun v1 h1 =>
(js_set (fz := []) (e := (dL dSS)) (je_mt (jni 0 rfl rfl) (ja_cons jc ja_nil) (m_splitS (x := x_text) (y := (mkS ", " (by decide +kernel))) h1) (.inr ⟨whole_map (fun _ => rfl), rfl⟩)) rfl fun x_things =>
(js_ifJ (C := fun (s2 : (List SS)) => [none, some ⟨(dL dSS) x_names, .f, false⟩, some ⟨(dL (dT3 dI dI dI)) x_rows, .f, false⟩, some ⟨(dKT dB) x_seen, .f, false⟩, some ⟨(dL dSS) s2, .f, false⟩, none]) (jt_cmp (d := (dSS x_text)) (d2 := (dSS (mkS "" (by decide +kernel)))) (jni 0 rfl rfl) jc (q_eq ek_str x_text (mkS "" (by decide +kernel)))) (js_last (js_set (fz := []) (e := (dL dSS)) (wF (je_lst ja_nil)) rfl fun x_things_2 =>
(js_endJ (s := x_things_2) (.no (.so rfl rfl (.so rfl rfl (.so rfl rfl (.so rfl rfl (.no .nil))))))))) (js_endJ (s := x_things) (.no (.so rfl rfl (.so rfl rfl (.so rfl rfl (.so rfl rfl (.no .nil))))))) fun s2 =>
(js_forH (e := dSS) (C := fun kp3 => K_read_L1 WC kp3) (jp_name (i := 4) rfl) rfl rfl (fun _ => rfl) (fun kp3 => (.no (.so rfl rfl (.so rfl rfl (.so rfl rfl (.so (leM_pp _) rfl (.no .nil))))))) (fun _ _ => rfl) (fun _ _ => rfl) (fun _ _ _ => rfl) (fun kp3 x6 s6 => p_read_L1_ok WC kp3 x6 s6.1 s6.2.1 s6.2.2) (fun kp3 s6 =>
(js_if (jt_cmp (d := (dI (s6.1.length : Int))) (d2 := (dI (24 : Int))) (je_len (d := ((dL dSS) s6.1)) (jnv 1 rfl) (n_l _)) jc q_gtI) js_none (js_nil (js_last (js_bind fun v7 h7 =>
(js_retK (q := (fun r => r)) (er := (dT2 (dL dSS) (dWeb WC))) (x := (s6.1, v7)) ret_R (jk_tup (jks_lateI (i := 1) (jp_name (i := 1) rfl) rfl rfl (immAll_map (fun _ => rfl) _) (jks_cons (jk_val (je_new (ja_cons (je_len (d := ((dL dSS) s6.1)) (jnv 1 rfl) (n_l _)) (ja_cons (jnv 2 rfl) ja_nil)) (p_Web_init_ok WC (s6.1.length : Int) s6.2.1 v7 h7))) jks_nil) rfl)))))))))))))))) h
theorem p_law_other_word_ok (WC : Addr) (x_word_here : SS) (x_number : Int) (r : SS) (h : p_law_other_word x_word_here x_number = some r) : RetE (R_law_other_word WC) [dSS x_word_here, dI x_number] (dSS r) .full false :=
  fnk 4 (by
    unfold p_law_other_word B_law_other_word
    exact (js_set (fz := []) (e := dI) (je_modL (jni 1 rfl rfl) jc) rfl fun x_way =>
(js_bind fun v1 h1 =>
(js_bind fun v2 h2 =>
(js_set (fz := []) (e := dI) (je_modO (je_divL (jni 1 rfl rfl) jc) (je_lenS (x := x_word_here) (jni 0 rfl rfl) h1) h2) rfl fun x_at =>
(js_bind fun v4 h4 =>
(js_if (jt_andO (jt_cmp (d := (dI x_way)) (d2 := (dI (0 : Int))) (jni 2 rfl rfl) jc (q_eq ek_int x_way (0 : Int))) (jto_b fun v3 h3 => (jto_p (jt_cmp (d := (dI v3)) (d2 := (dI (8 : Int))) (je_lenS (x := x_word_here) (jni 0 rfl rfl) h3) jc q_ltI))) h4) (js_bind fun v5 h5 =>
(js_bind fun v6 h6 =>
(js_ret (q := (fun r => r)) (er := dSS) (x := v6) (l := .full) ret_R (je_catS (x := x_word_here) (y := v5) (jni 0 rfl rfl) (je_callI (ja_cons (je_divL (jni 1 rfl rfl) jc) ja_nil) (p_law_letter_ok WC (x_number / (64 : Int)) v5 h5) rfl) h6)))) (js_nil (js_if (jt_cmp (d := (dI x_way)) (d2 := (dI (1 : Int))) (jni 2 rfl rfl) jc (q_eq ek_int x_way (1 : Int))) (js_le [some ⟨dSS x_word_here, .s, true⟩, some ⟨dI x_number, .s, true⟩, some ⟨dI x_way, .f, false⟩, some ⟨dI x_at, .f, false⟩] (.so rfl rfl (.so rfl rfl (.so rfl rfl (.so rfl rfl .nil)))) (js_bind fun v7 h7 =>
(js_bind fun v8 h8 =>
(js_bind fun v9 h9 =>
(js_bind fun v10 h10 =>
(js_bind fun v11 h11 =>
(js_ret (q := (fun r => r)) (er := dSS) (x := v11) (l := .full) ret_R (je_catS (x := v9) (y := v10) (je_catS (x := v7) (y := v8) (je_slS (x := x_word_here) (jni 0 rfl rfl) jo_n (jo_s (jni 3 rfl rfl)) h7) (je_callI (ja_cons (je_divL (jni 1 rfl rfl) jc) ja_nil) (p_law_letter_ok WC (x_number / (64 : Int)) v8 h8) rfl) h9) (je_slS (x := x_word_here) (jni 0 rfl rfl) (jo_s (je_add (jni 3 rfl rfl) jc)) jo_n h10) h11)))))))) (js_nil (js_if (jt_cmp (d := (dI x_way)) (d2 := (dI (2 : Int))) (jni 2 rfl rfl) jc (q_eq ek_int x_way (2 : Int))) (js_bind fun v12 h12 =>
(js_bind fun v13 h13 =>
(js_ret (q := (fun r => r)) (er := dSS) (x := v13) (l := .full) ret_R (je_mt jc (ja_cons (je_biI (ja_cons (jni 0 rfl rfl) ja_nil) (b_lstRevS h12) (.inr ⟨whole_map (fun _ => rfl), rfl⟩)) ja_nil) (m_joinS (x := (mkS "" (by decide +kernel))) (ys := v12) h13) (.inl rfl))))) (js_nil (js_last (js_bind fun v14 h14 =>
(js_ret (q := (fun r => r)) (er := dSS) (x := v14) (l := .full) ret_R (je_callI (ja_cons (je_divL (jni 1 rfl rfl) jc) ja_nil) (p_law_word_ok WC (x_number / (4 : Int)) v14 h14) rfl)))))))))))))))) h
abbrev K_law_names_L1 (WC : Addr) (x_many : Int) : (Int × (List SS)) → CS := fun s => [none, some ⟨dI x_many, .a, true⟩, some ⟨dI s.1, .a, true⟩, some ⟨(dL dSS) s.2, .f, false⟩, none, none]
theorem p_law_names_L1_ok (WC : Addr) (x_many : Int) (x_k : Int) (x_number : Int) (x_found : List SS) : JS [none, some ⟨dI x_many, .a, true⟩, some ⟨dI x_number, .a, true⟩, some ⟨(dL dSS) x_found, .f, false⟩, some ⟨dI x_k, .s, false⟩, none] ((FB_law_names_1 WC)) (p_law_names_L1 x_many x_k x_number x_found) (ΨL (K_law_names_L1 WC x_many)) := by
  unfold p_law_names_L1 FB_law_names_1
  exact (js_bind fun v4 h4 =>
(js_bind fun v5 h5 =>
(js_set (fz := []) (e := dI) (je_callI (ja_cons (je_add (jni 2 rfl rfl) (je_mulO (jni 4 rfl rfl) (jni 4 rfl rfl) h4)) (ja_cons jc ja_nil)) (p_law_mixed_ok WC (x_number + v4) (630360016 : Int) v5 h5) rfl) rfl fun x_number_2 =>
(js_bind fun v6 h6 =>
(js_bind fun v7 h7 =>
(js_bind fun v8 h8 =>
(js_set (fz := []) (e := dSS) (je_callI (ja_cons (je_ixI (d := ((dL dSS) x_found)) (d2 := (dI v6)) (jnv 3 rfl) (je_modO (je_divL (jni 2 rfl rfl) jc) (je_len (d := ((dL dSS) x_found)) (jnv 3 rfl) (n_l _)) h6) (x_l (e := dSS) h7) rfl) (ja_cons (je_divL (jni 2 rfl rfl) jc) ja_nil)) (p_law_other_word_ok WC v7 (x_number_2 / (512 : Int)) v8 h8) rfl) rfl fun x_word_here =>
(js_last (js_ifJ (C := fun (s9 : (List SS)) => [none, some ⟨dI x_many, .a, true⟩, some ⟨dI x_number_2, .a, true⟩, some ⟨(dL dSS) s9, .f, false⟩, none, none]) (jt_and (jt_cmp (d := (dSS x_word_here)) (d2 := ((dL dSS) x_found)) (jni 5 rfl rfl) (jnv 3 rfl) (q_ninL ek_str x_word_here x_found)) (jt_cmp (d := (dI (x_found.length : Int))) (d2 := (dI x_many)) (je_len (d := ((dL dSS) x_found)) (jnv 3 rfl) (n_l _)) (jni 1 rfl rfl) q_ltI)) (js_last (js_le [none, some ⟨dI x_many, .a, true⟩, some ⟨dI x_number_2, .f, false⟩, some ⟨(dL dSS) x_found, .f, false⟩, some ⟨dI x_k, .s, false⟩, some ⟨dSS x_word_here, .f, false⟩] (.no (.so rfl rfl (.so rfl rfl (.so rfl rfl (.so rfl rfl (.so rfl rfl .nil)))))) (js_app (fz := []) (e := dSS) rfl (jni 5 rfl rfl) rfl fun x_found_2 =>
(js_endJ (s := x_found_2) (.no (.so rfl rfl (.so rfl rfl (.so rfl rfl (.no (.no .nil)))))))))) (js_endJ (s := x_found) (.no (.so rfl rfl (.so rfl rfl (.so rfl rfl (.no (.no .nil))))))) fun s9 =>
(js_endL (s := (x_number_2, s9)) (.no (.so rfl rfl (.so rfl rfl (.so rfl rfl (.no (.no .nil))))))))))))))))
theorem p_law_names_ok (WC : Addr) (x_cell : Int) (x_many : Int) (r : (List SS)) (h : p_law_names x_cell x_many = some r) : RetE (R_law_names WC) [dI x_cell, dI x_many] ((dL dSS) r) .full false :=
  fnk 6 (by
    unfold p_law_names B_law_names
    exact (js_bind fun v1 h1 =>
(js_set (fz := []) (e := dI) (je_callI (ja_cons (jni 0 rfl rfl) (ja_cons jc ja_nil)) (p_law_mixed_ok WC x_cell (1664525013 : Int) v1 h1) rfl) rfl fun x_number =>
(js_bind fun v2 h2 =>
(js_set (fz := []) (e := (dL dSS)) (wF (je_lst (ja_cons (je_callI (ja_cons (jni 2 rfl rfl) ja_nil) (p_law_word_ok WC x_number v2 h2) rfl) ja_nil))) rfl fun x_found =>
(js_bind fun v3 h3 =>
(js_for (fz := []) (e := dI) (C := K_law_names_L1 WC x_many) (jit_r1 (je_mulL jc (jni 1 rfl rfl)) h3) (.no (.so rfl rfl (.so rfl rfl (.so rfl rfl (.no (.no .nil)))))) (fun _ _ => rfl) (fun x10 s10 => p_law_names_L1_ok WC x_many x10 s10.1 s10.2) (fun s10 =>
(js_last (js_retV (q := (fun r => r)) (er := (dL dSS)) (x := s10.2) (m := .f) (i := 3) ret_R rfl md_f)))))))))) h
theorem p_law_ok (WC : Addr) (x_script : List Int) (r : Bool) (h : p_law x_script = some r) : RetE (R_law WC) [(dF dI) x_script] (dB r) .full false :=
  fnk 13 (by
    unfold p_law B_law
    exact (js_bind fun v1 h1 =>
(js_set (fz := []) (e := dI) (je_modL (je_callI (ja_cons (jni 0 rfl (imm_flI x_script)) (ja_cons jc ja_nil)) (p_law_cell_at_ok WC x_script (0 : Int) v1 h1) rfl) jc) rfl fun x_head =>
(js_bind fun v2 h2 =>
(js_bind fun v3 h3 =>
(js_set (fz := []) (e := (dL dSS)) (wF (je_call (ja_cons (je_callI (ja_cons (jni 0 rfl (imm_flI x_script)) (ja_cons jc ja_nil)) (p_law_cell_at_ok WC x_script (1 : Int) v2 h2) rfl) (ja_cons (je_add jc (je_modL (je_divL (jni 1 rfl rfl) jc) jc)) ja_nil)) (p_law_names_ok WC v2 ((2 : Int) + ((x_head / (2 : Int)) % (23 : Int))) v3 h3))) rfl fun x_pool =>
(js_bind fun v4 h4 =>
(js_asg (fz := []) (e := (dT3 dSS (dL dSS) (dL (dT3 dI dI dI)))) (wS (je_call (ja_cons (jni 0 rfl (imm_flI x_script)) (ja_cons (jnv 2 rfl) (ja_cons (je_modL (jni 1 rfl rfl) jc) ja_nil))) (p_law_things_ok WC x_script x_pool (x_head % (2 : Int)) v4 h4))) (fun _ => rfl) fun q5 =>
(js_bind fun v6 h6 =>
(js_set (fz := []) (e := (dT2 (dL dSS) (dWeb WC))) (wF (je_call (ja_cons (jni 3 rfl rfl) ja_nil) (p_read_ok WC q5.1 v6 h6))) rfl fun x_found =>
(js_bind fun v7 h7 =>
(js_if (jt_not (jt_val (je_callI (ja_cons (jnv 6 rfl) (ja_cons (jns 4 rfl) (ja_cons (jns 5 rfl) ja_nil))) (p_law_right_ok WC x_found q5.2.1 q5.2.2 v7 h7) rfl))) (js_le [some ⟨(dF dI) x_script, .s, true⟩, some ⟨dI x_head, .f, false⟩, some ⟨(dL dSS) x_pool, .f, false⟩, some ⟨dSS q5.1, .s, false⟩, some ⟨(dL dSS) q5.2.1, .s, false⟩, some ⟨(dL (dT3 dI dI dI)) q5.2.2, .s, false⟩, some ⟨(dT2 (dL dSS) (dWeb WC)) x_found, .f, false⟩, none, none, none, none, none, none] (.so rfl rfl (.so rfl rfl (.so rfl rfl (.so rfl rfl (.so rfl rfl (.so rfl rfl (.so rfl rfl (.no (.no (.no (.no (.no (.no .nil))))))))))))) (js_ret (q := (fun r => r)) (er := dB) (x := false) (l := .full) ret_R jc)) (js_nil (js_bind fun v8 h8 =>
(js_bind fun v9 h9 =>
(js_bind fun v10 h10 =>
(js_set (fz := []) (e := dSS) (je_mt jc (ja_cons (je_catI (e := dSS) (jns 4 rfl) (wF (je_call (ja_cons (jns 4 rfl) (ja_cons (jns 5 rfl) ja_nil)) (p_law_written_ok WC q5.2.1 q5.2.2 v8 h8))) h9 (fun _ => rfl)) ja_nil) (m_joinS (x := (mkS ", " (by decide +kernel))) (ys := v9) h10) (.inl rfl)) rfl fun x_due =>
(js_set (fz := []) (e := (dL dSS)) (je_biI (ja_cons (jns 4 rfl) ja_nil) (b_list (e := dSS) _) (.inr ⟨whole_map (fun _ => rfl), rfl⟩)) rfl fun x_handed =>
(js_bind fun v11 h11 =>
(js_set (fz := []) (e := dSS) (je_callI (ja_cons (jnv 8 rfl) (ja_cons (je_ix (d' := (dWeb WC) x_found.2) (jnv 6 rfl) jc rfl) ja_nil)) (p_shown_ok WC x_handed x_found.2 v11 h11) rfl) rfl fun x_told =>
(js_if (jt_or (jt_not (jt_val (je_isi (d := (dSS x_told)) (jni 9 rfl rfl) rfl kb_str_str))) (jt_or (jt_cmp (d := (dSS x_told)) (d2 := (dSS x_due)) (jni 9 rfl rfl) (jni 7 rfl rfl) (q_ne ek_str x_told x_due)) (jt_cmp (d := ((dL dSS) x_handed)) (d2 := ((dL dSS) q5.2.1)) (jnv 8 rfl) (jns 4 rfl) (q_ne (ek_list ek_str) x_handed q5.2.1)))) (js_ret (q := (fun r => r)) (er := dB) (x := false) (l := .full) ret_R jc) (js_nil (js_le [some ⟨(dF dI) x_script, .s, true⟩, some ⟨dI x_head, .f, false⟩, some ⟨(dL dSS) x_pool, .f, false⟩, some ⟨dSS q5.1, .s, false⟩, some ⟨(dL dSS) q5.2.1, .s, false⟩, some ⟨(dL (dT3 dI dI dI)) q5.2.2, .s, false⟩, some ⟨(dT2 (dL dSS) (dWeb WC)) x_found, .f, false⟩, some ⟨dSS x_due, .f, false⟩, some ⟨(dL dSS) x_handed, .f, false⟩, some ⟨dSS x_told, .f, false⟩, none, none, none] (.so rfl rfl (.so rfl rfl (.so rfl rfl (.so rfl rfl (.so rfl rfl (.so rfl rfl (.so rfl rfl (.so rfl rfl (.so rfl rfl (.so rfl rfl (.no (.no (.no .nil))))))))))))) (js_take (i := 10) (w := (dT2 (dL dSS) dAny) (x_found.1, ())) (jp_tx (ds := [(dL dSS) x_found.1, (dWeb WC) x_found.2]) (j := 1) (jp_name (i := 6) rfl) jc rfl rfl) rfl rfl rfl rfl rfl
(js_appP (fz := []) (e := dSS) (W := (fun w12 => (D.tup [(dL dSS) w12, dAny ((x_found.1, ()).2)]))) (jp_tx (ds := [(dL dSS) ((x_found.1, ()).1), dAny ((x_found.1, ()).2)]) (j := 0) (jp_name (i := 6) rfl) jc rfl rfl) jc (fun _ _ => rfl) fun w12 =>
(js_bind fun v13 h13 =>
(js_bind fun v14 h14 =>
(js_bind fun v17 h17 =>
(js_if (jt_orO (jt_not (jt_val (je_callI (ja_cons (wF (je_call (ja_cons (jni 9 rfl rfl) ja_nil) (p_read_ok WC x_told v13 h13))) (ja_cons (jns 4 rfl) (ja_cons (jns 5 rfl) ja_nil))) (p_law_right_ok WC v13 q5.2.1 q5.2.2 v14 h14) rfl))) (jto_b fun v15 h15 => (jto_b fun v16 h16 => (jto_p (jt_not (jt_val (je_callI (ja_cons (wF (je_call (ja_cons (jni 3 rfl rfl) ja_nil) (p_read_ok WC q5.1 v15 h15))) (ja_cons (jns 4 rfl) (ja_cons (jns 5 rfl) ja_nil))) (p_law_right_ok WC v15 q5.2.1 q5.2.2 v16 h16) rfl)))))) h17) (js_ret (q := (fun r => r)) (er := dB) (x := false) (l := .full) ret_R jc) (js_nil (js_set (fz := []) (e := (dL dSS)) (je_biI (ja_cons (jns 4 rfl) ja_nil) (b_lstRev (e := dSS) _) (.inr ⟨whole_map (fun _ => rfl), rfl⟩)) rfl fun x_other =>
(js_bind fun v18 h18 =>
(js_bind fun v19 h19 =>
(js_set (fz := []) (e := (dT2 (dL dSS) (dWeb WC))) (wF (je_call (ja_cons (je_callI (ja_cons (jnv 11 rfl) (ja_cons (jnv 10 rfl) ja_nil)) (p_shown_ok WC x_other x_found.2 v18 h18) rfl) ja_nil) (p_read_ok WC v18 v19 h19))) rfl fun x_again =>
(js_last (js_le [some ⟨(dF dI) x_script, .s, true⟩, some ⟨dI x_head, .f, false⟩, some ⟨(dL dSS) x_pool, .f, false⟩, some ⟨dSS q5.1, .s, false⟩, some ⟨(dL dSS) q5.2.1, .s, false⟩, some ⟨(dL (dT3 dI dI dI)) q5.2.2, .s, false⟩, some ⟨(dT2 (dL dSS) dAny) (w12, (x_found.1, ()).2), .f, false⟩, some ⟨dSS x_due, .f, false⟩, some ⟨(dL dSS) x_handed, .f, false⟩, some ⟨dSS x_told, .f, false⟩, some ⟨(dWeb WC) x_found.2, .f, false⟩, some ⟨(dL dSS) x_other, .f, false⟩, some ⟨(dT2 (dL dSS) (dWeb WC)) x_again, .f, false⟩] (.so rfl rfl (.so rfl rfl (.so rfl rfl (.so rfl rfl (.so rfl rfl (.so rfl rfl (.so rfl rfl (.so rfl rfl (.so rfl rfl (.so rfl rfl (.so rfl rfl (.so rfl rfl (.so rfl rfl .nil))))))))))))) (js_bind fun v20 h20 =>
(js_bind fun v25 h25 =>
(js_ret (q := (fun r => r)) (er := dB) (x := v25) (l := .full) ret_R (je_andO (je_callI (ja_cons (jnv 12 rfl) (ja_cons (jnv 11 rfl) (ja_cons (jns 5 rfl) ja_nil))) (p_law_right_ok WC x_again x_other q5.2.2 v20 h20) rfl) (jeo_b fun v21 h21 => (jeo_b fun v24 h24 => (jeo_p (je_andO (je_cmp (d := ((dL dSS) v21.1)) (d2 := ((dL dSS) ([] : List SS))) (je_ixO (k := 0) (wF (je_call (ja_cons jc ja_nil) (p_read_ok WC (mkS "" (by decide +kernel)) v21 h21))) jc rfl rfl) (wF (je_lst ja_nil)) (q_eq (ek_list ek_str) v21.1 ([] : List SS))) (jeo_b fun v22 h22 => (jeo_b fun v23 h23 => (jeo_p (je_cmp (d := (dSS v23)) (d2 := (dSS (mkS "" (by decide +kernel)))) (je_callI (ja_cons (wF (je_lst ja_nil)) (ja_cons (je_new (ja_cons jc (ja_cons (wF (je_lst ja_nil)) ja_nil)) (p_Web_init_ok WC (0 : Int) ([] : List (Int × Int × Int)) v22 h22)) ja_nil)) (p_shown_ok WC ([] : List SS) v22 v23 h23) rfl) jc (q_eq ek_str v23 (mkS "" (by decide +kernel))))))) h24)))) h25)))))))))))))))))))))))))))))))))))))))) h
end
end Pr
set_option Elab.async false
set_option linter.all false
set_option maxRecDepth 100000
set_option maxHeartbeats 4000000
set_option synthInstance.maxSize 2000
set_option synthInstance.maxHeartbeats 400000
namespace Pr
open PySem PySem.Spec L2 Ev Tg
open PyProof.Rows hiding St
noncomputable section
def topS (i : Nat) : Stmt := PySem.Challenge.pw_pairsheath_k91_texts.main.body.getD i (.Pass ⟨0, 0, 0, 0⟩)
abbrev clsS (i j : Nat) : Stmt := inClass (topS i) j
structure WebK (K : PySem.W.Frag) (mg : Str → Option Value) (WC : Addr) : Prop where
  cl : Cls K WC
  na_many : NoAttr K WC "many"
  na_table : NoAttr K WC "table"
  na_ends : NoAttr K WC "ends"
  c_MOST_POINTS : ∃ t, mg "MOST_POINTS" = some (.int (24) t)
  c_MOST_NAMES : ∃ t, mg "MOST_NAMES" = some (.int (24) t)
  c_LETTERS : ∃ t, mg "LETTERS" = some (.str "abcdefghijklmnopqrstuvwxyz" t)
  c_FIGURES : ∃ t, mg "FIGURES" = some (.str "0123456789" t)
  isi : OwnIs K WC
  nm : mg "Web" = some (.ref WC)
section
variable {P : Program} {w : World} {K : PySem.W.Frag} {mg : Str → Option Value} {base : Heap} {f : Addr} {fd : FuncData}
theorem hrm {k j : Nat} {A : Around} (h : Room k A) (l : j ≤ k := by decide) : Room j A := h.mono l
abbrev s_Web_init : Stmt := clsS 9 0
abbrev N_Web_init : List Str := ["self", "many", "ties", "a", "b", "heavy", "k"]
theorem sc_Web_init : FnScope N_Web_init ["self", "many", "ties"] (defScope s_Web_init) := ⟨rfl, rfl, rfl, by decide +kernel, rfl, by decide +kernel, by decide +kernel⟩
theorem ok_Web_init (F : Fun K "__init__" "Web.__init__" s_Web_init f fd) (hB : Blts mg) {WC : Addr} (T : WebK K mg WC)  : FnOk P w K mg base CX0 1 f fd ["self", "many", "ties"] (spI K 3 WC I_Web) := by
  refine init_ok (k := 0) F sc_Web_init (hφ := I_Web_ok WC) (hN := rfl) fun cdv A outer s H E hr => ?_
  have hu := hu_room hr
  have nd := sc_Web_init.nd
  exact (s_cons (s_if (t_bool (t_or (t_cmp (x_lt hu) (e_name 1) e_int) (t_or1 (t_cmp (x_gt hu) (e_name 1) (e_gint T.c_MOST_POINTS))))) (s_one s_bad) s_nil) (s_cons (s_atpO [] T.cl T.na_many (p_name 0) (e_name 1)) (s_cons (s_atpO [] T.cl T.na_table (p_name 0) e_dictT) (s_cons (s_atpO [] T.cl T.na_ends (p_name 0) (e_lc [("k", 6)] rfl nd (pis (i_range1 hB.range (a_cons (e_name 1) a_nil) len1)) (blkOk_by (N := N_Web_init) (sc := defScope s_Web_init) (by decide +kernel)) (fun _ _ _ _ _ => (g_name 6 nd)) (fun _ _ _ _ _ => ts_nil) (fun _ _ _ _ _ => (e_lst a_nil)))) (s_one (s_for [] rfl (i_lst (e_name 2)) (g_tup rfl (gs_cons (g_name 3 nd) (gs_cons (g_name 4 nd) (gs_cons (g_name 5 nd) gs_nil)))) (s_cons (s_if (t_bool (t_or (t_cmp (x_eq hu) (e_name 3) (e_name 4)) (t_or (t_cmp (x_lt hu) (e_bi (k_min2 rfl) hB.min PyProof.Rows.boot_min (a_cons (e_name 3) (a_cons (e_name 4) a_nil))) e_int) (t_or1 (t_cmp (x_ge hu) (e_bi (k_max2 rfl) hB.max PyProof.Rows.boot_max (a_cons (e_name 3) (a_cons (e_name 4) a_nil))) (e_name 1)))))) (s_one s_bad) s_nil) (s_cons (s_if (t_cmp (x_in hu) (e_tup (a_cons (e_name 3) (a_cons (e_name 4) a_nil))) (e_atO T.cl T.na_table (e_name 0))) (s_one s_bad) s_nil) (s_cons (s_putp [] hu (p_fldO T.cl T.na_table (p_name 0)) (e_tup (a_cons (e_name 3) (a_cons (e_name 4) a_nil))) (e_name 5)) (s_cons (s_putp [] hu (p_fldO T.cl T.na_table (p_name 0)) (e_tup (a_cons (e_name 4) (a_cons (e_name 3) a_nil))) (e_name 5)) (s_cons (s_appp [] (p_ix hu (p_fldO T.cl T.na_ends (p_name 0)) (e_name 3)) (a_cons (e_name 4) a_nil)) (s_one (s_appp [] (p_ix hu (p_fldO T.cl T.na_ends (p_name 0)) (e_name 4)) (a_cons (e_name 3) a_nil))))))))))))))
abbrev s_Web_size : Stmt := clsS 9 1
abbrev N_Web_size : List Str := ["self"]
theorem sc_Web_size : FnScope N_Web_size ["self"] (defScope s_Web_size) := ⟨rfl, rfl, rfl, by decide +kernel, rfl, by decide +kernel, by decide +kernel⟩
theorem ok_Web_size (F : Fun K "size" "Web.size" s_Web_size f fd) (hB : Blts mg) {WC : Addr} (T : WebK K mg WC)  : FnOk P w K mg base CX0 1 f fd ["self"] (spD K 1 (R_Web_size WC)) := by
  refine def_ok (k := 0) F sc_Web_size fun cdv A outer s H E hr => ?_
  exact (s_one (s_ret (e_at T.cl T.na_many (e_name 0))))
abbrev s_Web_ties : Stmt := clsS 9 2
abbrev N_Web_ties : List Str := ["self", "ends", "heavy"]
theorem sc_Web_ties : FnScope N_Web_ties ["self"] (defScope s_Web_ties) := ⟨rfl, rfl, rfl, by decide +kernel, rfl, by decide +kernel, by decide +kernel⟩
theorem ok_Web_ties (F : Fun K "ties" "Web.ties" s_Web_ties f fd) (hB : Blts mg) {WC : Addr} (T : WebK K mg WC)  : FnOk P w K mg base CX0 1 f fd ["self"] (spD K 1 (R_Web_ties WC)) := by
  refine def_ok (k := 0) F sc_Web_ties fun cdv A outer s H E hr => ?_
  have hu := hu_room hr
  have nd := sc_Web_ties.nd
  exact (s_one (s_ret (e_bi (k_sorted rfl) hB.sorted PyProof.Rows.boot_sorted (a_cons (e_lcDT [("ends", 1), ("heavy", 2)] rfl nd (dp_fld 0 T.cl T.na_table) (blkOk_by (N := N_Web_ties) (sc := defScope s_Web_ties) (by decide +kernel)) (fun _ _ _ _ _ => (g_tup rfl (gs_cons (g_name 1 nd) (gs_cons (g_name 2 nd) gs_nil)))) (fun _ _ _ _ _ => (ts_one (t_cmp (x_lt hu) (x_ix hu (e_name 1) e_int) (x_ix hu (e_name 1) e_int)))) (fun _ _ _ _ _ => (e_tup (a_cons (x_ix hu (e_name 1) e_int) (a_cons (x_ix hu (e_name 1) e_int) (a_cons (e_name 2) a_nil)))))) a_nil))))
abbrev s_is_name : Stmt := topS 14
abbrev N_is_name : List Str := ["word", "sign"]
theorem sc_is_name : FnScope N_is_name ["word"] (defScope s_is_name) := ⟨rfl, rfl, rfl, by decide +kernel, rfl, by decide +kernel, by decide +kernel⟩
theorem ok_is_name (F : Fun K "is_name" "is_name" s_is_name f fd) (hB : Blts mg) {WC : Addr} (T : WebK K mg WC)  : FnOk P w K mg base CX0 1 f fd ["word"] (spD K 1 (R_is_name WC)) := by
  refine def_ok (k := 0) F sc_is_name fun cdv A outer s H E hr => ?_
  have hu := hu_room hr
  have nd := sc_is_name.nd
  exact (s_one (s_ret (e_and (e_chn (x_le hu) (x_le hu) e_int (e_len hB.len (a_cons (e_name 0) a_nil)) e_int) (e_one _ (e_bi (k_all rfl) hB.all PyProof.Rows.boot_all (a_cons (e_lc [("sign", 1)] rfl nd (pis (i_str (e_name 0))) (blkOk_by (N := N_is_name) (sc := defScope s_is_name) (by decide +kernel)) (fun _ _ _ _ _ => (g_name 1 nd)) (fun _ _ _ _ _ => ts_nil) (fun _ _ _ _ _ => (e_cmp (x_inS hu) (e_name 1) (e_gstr T.c_LETTERS)))) a_nil))))))
abbrev s_is_number : Stmt := topS 15
abbrev N_is_number : List Str := ["word", "figures", "sign"]
theorem sc_is_number : FnScope N_is_number ["word"] (defScope s_is_number) := ⟨rfl, rfl, rfl, by decide +kernel, rfl, by decide +kernel, by decide +kernel⟩
theorem ok_is_number (F : Fun K "is_number" "is_number" s_is_number f fd) (hB : Blts mg) {WC : Addr} (T : WebK K mg WC)  : FnOk P w K mg base CX0 1 f fd ["word"] (spD K 1 (R_is_number WC)) := by
  refine def_ok (k := 0) F sc_is_number fun cdv A outer s H E hr => ?_
  have hu := hu_room hr
  have nd := sc_is_number.nd
  exact (s_cons (s_set [] 1 (e_name 0) nd) (s_cons (s_if (t_val (e_mt m_starts PySem.F.plainAttrs_str PySem.F.slot_str_startswith PySem.F.type_str_startswith (e_name 0) (a_cons e_str a_nil))) (s_one (s_set [] 1 (e_slS (e_name 0) (o_some e_int) o_none) nd)) s_nil) (s_cons (s_if (t_bool (t_or (t_cmp (x_eq hu) (e_name 1) e_str) (t_or (t_cmp (x_gt hu) (e_len hB.len (a_cons (e_name 1) a_nil)) e_int) (t_or1 (t_not (t_val (e_bi (k_all rfl) hB.all PyProof.Rows.boot_all (a_cons (e_lc [("sign", 2)] rfl nd (pis (i_str (e_name 1))) (blkOk_by (N := N_is_number) (sc := defScope s_is_number) (by decide +kernel)) (fun _ _ _ _ _ => (g_name 2 nd)) (fun _ _ _ _ _ => ts_nil) (fun _ _ _ _ _ => (e_cmp (x_inS hu) (e_name 2) (e_gstr T.c_FIGURES)))) a_nil)))))))) (s_one (s_ret e_bl)) s_nil) (s_one (s_ret (e_or (e_cmp (x_ne hu) (e_ixS (e_name 1) e_int) e_str) (e_one _ (e_cmp (x_eq hu) (e_name 0) e_str))))))))
abbrev s_place_of : Stmt := topS 16
abbrev N_place_of : List Str := ["names", "name"]
theorem sc_place_of : FnScope N_place_of ["names", "name"] (defScope s_place_of) := ⟨rfl, rfl, rfl, by decide +kernel, rfl, by decide +kernel, by decide +kernel⟩
theorem ok_place_of (F : Fun K "place_of" "place_of" s_place_of f fd) (hB : Blts mg) {WC : Addr} (T : WebK K mg WC)  : FnOk P w K mg base CX0 1 f fd ["names", "name"] (spM K [true, false] (R_place_of WC)) := by
  refine def_okM (k := 0) [true, false] [true, false] F sc_place_of rfl rfl rfl fun cdv A outer s H E hr => ?_
  have hu := hu_room hr
  exact (s_cons (s_if (t_cmp (x_nin hu) (e_name 1) (e_name 0)) (s_one (s_lop [] 0 l_app PySem.F.slot_list_append PySem.F.type_list_append (a_cons (e_name 1) a_nil))) s_nil) (s_one (s_ret (e_mt (m_index hu) PySem.F.plainAttrs_list PySem.F.slot_list_index PySem.F.type_list_index (e_name 0) (a_cons (e_name 1) a_nil)))))
abbrev s_law_cell_at : Stmt := topS 21
abbrev N_law_cell_at : List Str := ["_law_script", "_law_k"]
theorem sc_law_cell_at : FnScope N_law_cell_at ["_law_script", "_law_k"] (defScope s_law_cell_at) := ⟨rfl, rfl, rfl, by decide +kernel, rfl, by decide +kernel, by decide +kernel⟩
theorem ok_law_cell_at (F : Fun K "_law_cell_at" "_law_cell_at" s_law_cell_at f fd) (hB : Blts mg) {WC : Addr} (T : WebK K mg WC)  : FnOk P w K mg base CX0 1 f fd ["_law_script", "_law_k"] (spD K 2 (R_law_cell_at WC)) := by
  refine def_ok (k := 0) F sc_law_cell_at fun cdv A outer s H E hr => ?_
  have hu := hu_room hr
  exact (s_cons (s_if (t_cmp (x_lt hu) (e_name 1) (e_len hB.len (a_cons (e_name 0) a_nil))) (s_one (s_ret (x_ix hu (e_name 0) (e_name 1)))) s_nil) (s_one (s_ret e_int)))
abbrev s_law_whole : Stmt := topS 22
abbrev N_law_whole : List Str := ["_law_found"]
theorem sc_law_whole : FnScope N_law_whole ["_law_found"] (defScope s_law_whole) := ⟨rfl, rfl, rfl, by decide +kernel, rfl, by decide +kernel, by decide +kernel⟩
theorem ok_law_whole (F : Fun K "_law_whole" "_law_whole" s_law_whole f fd) (hB : Blts mg) {WC : Addr} (T : WebK K mg WC)  : FnOk P w K mg base CX0 1 f fd ["_law_found"] (spD K 1 (R_law_whole WC)) := by
  refine def_ok (k := 0) F sc_law_whole fun cdv A outer s H E hr => ?_
  exact (s_one (s_ret (e_and (e_isi "int" hB.isinstance hB.int PyProof.Rows.boot_int (e_name 0)) (e_one _ (e_not (e_isi "bool" hB.isinstance hB.bool bt_bool (e_name 0)))))))
abbrev s_law_mixed : Stmt := topS 23
abbrev N_law_mixed : List Str := ["_law_cell", "_law_factor"]
theorem sc_law_mixed : FnScope N_law_mixed ["_law_cell", "_law_factor"] (defScope s_law_mixed) := ⟨rfl, rfl, rfl, by decide +kernel, rfl, by decide +kernel, by decide +kernel⟩
theorem ok_law_mixed (F : Fun K "_law_mixed" "_law_mixed" s_law_mixed f fd) (hB : Blts mg) {WC : Addr} (T : WebK K mg WC)  : FnOk P w K mg base CX0 1 f fd ["_law_cell", "_law_factor"] (spD K 2 (R_law_mixed WC)) := by
  refine def_ok (k := 0) F sc_law_mixed fun cdv A outer s H E hr => ?_
  exact (s_one (s_ret (e_mod (e_mul (e_plus (e_name 0) (e_mod (e_name 1) e_int)) (e_name 1)) e_int)))
abbrev s_law_letter : Stmt := topS 24
abbrev N_law_letter : List Str := ["_law_number"]
theorem sc_law_letter : FnScope N_law_letter ["_law_number"] (defScope s_law_letter) := ⟨rfl, rfl, rfl, by decide +kernel, rfl, by decide +kernel, by decide +kernel⟩
theorem ok_law_letter (F : Fun K "_law_letter" "_law_letter" s_law_letter f fd) (hB : Blts mg) {WC : Addr} (T : WebK K mg WC)  : FnOk P w K mg base CX0 1 f fd ["_law_number"] (spD K 1 (R_law_letter WC)) := by
  refine def_ok (k := 0) F sc_law_letter fun cdv A outer s H E hr => ?_
  exact (s_one (s_ret (e_ixS e_str (e_mod (e_name 0) e_int))))
abbrev s_law_written : Stmt := topS 30
abbrev N_law_written : List Str := ["_law_names_here", "_law_rows", "_law_a", "_law_b", "_law_heavy_here"]
theorem sc_law_written : FnScope N_law_written ["_law_names_here", "_law_rows"] (defScope s_law_written) := ⟨rfl, rfl, rfl, by decide +kernel, rfl, by decide +kernel, by decide +kernel⟩
theorem ok_law_written (F : Fun K "_law_written" "_law_written" s_law_written f fd) (hB : Blts mg) {WC : Addr} (T : WebK K mg WC)  : FnOk P w K mg base CX0 1 f fd ["_law_names_here", "_law_rows"] (spD K 2 (R_law_written WC)) := by
  refine def_ok (k := 0) F sc_law_written fun cdv A outer s H E hr => ?_
  have hu := hu_room hr
  have nd := sc_law_written.nd
  exact (s_one (s_ret (e_lc [("_law_a", 2), ("_law_b", 3), ("_law_heavy_here", 4)] rfl nd (i_lstV (e_name 1)) (blkOk_by (N := N_law_written) (sc := defScope s_law_written) (by decide +kernel)) (fun _ _ _ _ _ => (g_tup rfl (gs_cons (g_name 2 nd) (gs_cons (g_name 3 nd) (gs_cons (g_name 4 nd) gs_nil))))) (fun _ _ _ _ _ => ts_nil) (fun _ _ _ _ _ => (e_plusS (e_plusS (e_plusS (e_plusS (x_ix hu (e_name 0) (e_name 2)) e_str) (x_ix hu (e_name 0) (e_name 3))) e_str) (e_ty k_strI hB.str PyProof.Rows.boot_str (a_cons (e_name 4) a_nil)))))))
abbrev s_tie_of : Stmt := topS 17
abbrev N_tie_of : List Str := ["thing", "names", "seen", "ends", "blank", "number", "one", "dash", "other", "a", "b"]
theorem sc_tie_of : FnScope N_tie_of ["thing", "names", "seen"] (defScope s_tie_of) := ⟨rfl, rfl, rfl, by decide +kernel, rfl, by decide +kernel, by decide +kernel⟩
theorem ok_tie_of (F : Fun K "tie_of" "tie_of" s_tie_of f fd) (hB : Blts mg) {WC : Addr} (T : WebK K mg WC) (G_is_name : FnD P w K mg base 1 "is_name" 1 (R_is_name WC)) (G_is_number : FnD P w K mg base 1 "is_number" 1 (R_is_number WC)) (G_place_of : FnM P w K mg base 1 "place_of" [true, false] (R_place_of WC)) : FnOk P w K mg base CX0 2 f fd ["thing", "names", "seen"] (spM K [false, true, true] (R_tie_of WC)) := by
  refine def_okM (k := 1) [false, true, true] [false, true, true] F sc_tie_of rfl rfl rfl fun cdv A outer s H E hr => ?_
  have hu := hu_room hr
  have nd := sc_tie_of.nd
  exact (s_cons (s_asg [] (e_mt m_part PySem.F.plainAttrs_str PySem.F.slot_str_partition PySem.F.type_str_partition (e_name 0) (a_cons e_str a_nil)) (g_tup rfl (gs_cons (g_name 3 nd) (gs_cons (g_name 4 nd) (gs_cons (g_name 5 nd) gs_nil))))) (s_cons (s_asg [] (e_mt m_part PySem.F.plainAttrs_str PySem.F.slot_str_partition PySem.F.type_str_partition (e_name 3) (a_cons e_str a_nil)) (g_tup rfl (gs_cons (g_name 6 nd) (gs_cons (g_name 7 nd) (gs_cons (g_name 8 nd) gs_nil))))) (s_cons (s_if (t_bool (t_or (t_not (t_val (e_call G_is_name (hrm hr) (a_cons (e_name 6) a_nil) (hl := len1)))) (t_or (t_not (t_val (e_call G_is_name (hrm hr) (a_cons (e_name 8) a_nil) (hl := len1)))) (t_or (t_not (t_val (e_call G_is_number (hrm hr) (a_cons (e_name 5) a_nil) (hl := len1)))) (t_or1 (t_cmp (x_eq hu) (e_name 6) (e_name 8))))))) (s_one s_bad) s_nil) (s_cons (s_setX 9 (x_callM G_place_of (hrm hr) (m_slot 1 (m_val (e_name 6) m_nil)) (mok_slot (mok_val mok_nil)) (ml_slot (ml_val ml_nil))) nd) (s_cons (s_setX 10 (x_callM G_place_of (hrm hr) (m_slot 1 (m_val (e_name 8) m_nil)) (mok_slot (mok_val mok_nil)) (ml_slot (ml_val ml_nil))) nd) (s_cons (s_if (t_cmp (x_in hu) (e_tup (a_cons (e_name 9) (a_cons (e_name 10) a_nil))) (e_name 2)) (s_one s_bad) s_nil) (s_cons (s_putp [] hu (p_name 2) (e_tup (a_cons (e_name 9) (a_cons (e_name 10) a_nil))) e_bl) (s_cons (s_putp [] hu (p_name 2) (e_tup (a_cons (e_name 10) (a_cons (e_name 9) a_nil))) e_bl) (s_one (s_ret (e_tup (a_cons (e_name 9) (a_cons (e_name 10) (a_cons (e_ty k_intS hB.int PyProof.Rows.boot_int (a_cons (e_name 5) a_nil)) a_nil))))))))))))))
abbrev s_shown : Stmt := topS 19
abbrev N_shown : List Str := ["names", "web", "things", "a", "b", "heavy"]
theorem sc_shown : FnScope N_shown ["names", "web"] (defScope s_shown) := ⟨rfl, rfl, rfl, by decide +kernel, rfl, by decide +kernel, by decide +kernel⟩
theorem ok_shown (F : Fun K "shown" "shown" s_shown f fd) (hB : Blts mg) {WC : Addr} (T : WebK K mg WC) (G_Web_ties : MetD P w K mg base 1 WC "ties" 1 (R_Web_ties WC)) : FnOk P w K mg base CX0 2 f fd ["names", "web"] (spD K 2 (R_shown WC)) := by
  refine def_ok (k := 1) F sc_shown fun cdv A outer s H E hr => ?_
  have hu := hu_room hr
  have nd := sc_shown.nd
  exact (s_cons (s_set [] 2 (e_ty (k_list) hB.list PyProof.Rows.boot_list (a_cons (e_name 0) a_nil)) nd) (s_cons (s_for [] rfl (i_lst (x_meth0 T.cl G_Web_ties (hrm hr) (e_name 1))) (g_tup rfl (gs_cons (g_name 3 nd) (gs_cons (g_name 4 nd) (gs_cons (g_name 5 nd) gs_nil)))) (s_one (s_lop [] 2 l_app PySem.F.slot_list_append PySem.F.type_list_append (a_cons (e_plusS (e_plusS (e_plusS (e_plusS (x_ix hu (e_name 0) (e_name 3)) e_str) (x_ix hu (e_name 0) (e_name 4))) e_str) (e_ty k_strI hB.str PyProof.Rows.boot_str (a_cons (e_name 5) a_nil))) a_nil)))) (s_one (s_ret (e_mt m_join PySem.F.plainAttrs_str PySem.F.slot_str_join PySem.F.type_str_join e_str (a_cons (e_name 2) a_nil))))))
abbrev s_law_word : Stmt := topS 25
abbrev N_law_word : List Str := ["_law_number", "_law_word_here", "_law_k"]
theorem sc_law_word : FnScope N_law_word ["_law_number"] (defScope s_law_word) := ⟨rfl, rfl, rfl, by decide +kernel, rfl, by decide +kernel, by decide +kernel⟩
theorem ok_law_word (F : Fun K "_law_word" "_law_word" s_law_word f fd) (hB : Blts mg) {WC : Addr} (T : WebK K mg WC) (G_law_mixed : FnD P w K mg base 1 "_law_mixed" 2 (R_law_mixed WC)) (G_law_letter : FnD P w K mg base 1 "_law_letter" 1 (R_law_letter WC)) : FnOk P w K mg base CX0 2 f fd ["_law_number"] (spD K 1 (R_law_word WC)) := by
  refine def_ok (k := 1) F sc_law_word fun cdv A outer s H E hr => ?_
  have nd := sc_law_word.nd
  exact (s_cons (s_set [] 1 e_str nd) (s_cons (s_for [] rfl (i_range1 hB.range (a_cons (e_plus e_int (e_mod (e_div (e_name 0) e_int) e_int)) a_nil) len1) (g_name 2 nd) (s_cons (s_set [] 0 (e_call G_law_mixed (hrm hr) (a_cons (e_plus (e_name 0) (e_name 2)) (a_cons e_int a_nil)) (hl := len2)) nd) (s_one (s_set [] 1 (e_plusS (e_name 1) (e_call G_law_letter (hrm hr) (a_cons (e_div (e_name 0) e_int) a_nil) (hl := len1))) nd)))) (s_one (s_retv 1))))
abbrev s_law_heavy : Stmt := topS 28
abbrev N_law_heavy : List Str := ["_law_cell", "_law_way"]
theorem sc_law_heavy : FnScope N_law_heavy ["_law_cell", "_law_way"] (defScope s_law_heavy) := ⟨rfl, rfl, rfl, by decide +kernel, rfl, by decide +kernel, by decide +kernel⟩
theorem ok_law_heavy (F : Fun K "_law_heavy" "_law_heavy" s_law_heavy f fd) (hB : Blts mg) {WC : Addr} (T : WebK K mg WC) (G_law_mixed : FnD P w K mg base 1 "_law_mixed" 2 (R_law_mixed WC)) : FnOk P w K mg base CX0 2 f fd ["_law_cell", "_law_way"] (spD K 2 (R_law_heavy WC)) := by
  refine def_ok (k := 1) F sc_law_heavy fun cdv A outer s H E hr => ?_
  have hu := hu_room hr
  exact (s_cons (s_if (t_cmp (x_eq hu) (e_name 1) e_int) (s_one (s_ret (e_sub (e_mod (e_name 0) (e_sub (e_mul e_int (e_pow e_int e_int)) e_int)) (e_sub (e_pow e_int e_int) e_int)))) s_nil) (s_one (s_ret (e_sub (e_mod (e_call G_law_mixed (hrm hr) (a_cons (e_name 0) (a_cons e_int a_nil)) (hl := len2)) e_int) e_int))))
abbrev s_law_right : Stmt := topS 31
abbrev N_law_right : List Str := ["_law_found", "_law_names_here", "_law_rows", "_law_name"]
theorem sc_law_right : FnScope N_law_right ["_law_found", "_law_names_here", "_law_rows"] (defScope s_law_right) := ⟨rfl, rfl, rfl, by decide +kernel, rfl, by decide +kernel, by decide +kernel⟩
theorem ok_law_right (F : Fun K "_law_right" "_law_right" s_law_right f fd) (hB : Blts mg) {WC : Addr} (T : WebK K mg WC) (G_law_whole : FnD P w K mg base 1 "_law_whole" 1 (R_law_whole WC)) (G_Web_size : MetD P w K mg base 1 WC "size" 1 (R_Web_size WC)) (G_Web_ties : MetD P w K mg base 1 WC "ties" 1 (R_Web_ties WC)) : FnOk P w K mg base CX0 2 f fd ["_law_found", "_law_names_here", "_law_rows"] (spD K 3 (R_law_right WC)) := by
  refine def_ok (k := 1) F sc_law_right fun cdv A outer s H E hr => ?_
  have hu := hu_room hr
  have nd := sc_law_right.nd
  exact (s_cons (s_if (t_bool (t_or (t_not (t_val (e_isi "tuple" hB.isinstance hB.tuple PyProof.Rows.boot_tuple (e_name 0)))) (t_or (t_cmp (x_ne hu) (e_len hB.len (a_cons (e_name 0) a_nil)) e_int) (t_or1 (t_not (t_val (e_isi "list" hB.isinstance hB.list PyProof.Rows.boot_list (x_ix hu (e_name 0) e_int)))))))) (s_one (s_ret e_bl)) s_nil) (s_cons (s_if (t_bool (t_or (t_not (t_val (e_bi (k_all rfl) hB.all PyProof.Rows.boot_all (a_cons (e_lc [("_law_name", 3)] rfl nd (i_lstV (x_ix hu (e_name 0) e_int)) (blkOk_by (N := N_law_right) (sc := defScope s_law_right) (by decide +kernel)) (fun _ _ _ _ _ => (g_name 3 nd)) (fun _ _ _ _ _ => ts_nil) (fun _ _ _ _ _ => (e_isi "str" hB.isinstance hB.str PyProof.Rows.boot_str (e_name 3)))) a_nil)))) (t_or1 (t_cmp (x_ne hu) (x_ix hu (e_name 0) e_int) (e_name 1))))) (s_one (s_ret e_bl)) s_nil) (s_cons (s_if (t_bool (t_or (t_not (t_val (e_isiO T.isi T.cl T.nm hB.isinstance (x_ix hu (e_name 0) e_int)))) (t_or1 (t_not (t_val (e_call G_law_whole (hrm hr) (a_cons (x_meth0 T.cl G_Web_size (hrm hr) (x_ix hu (e_name 0) e_int)) a_nil) (hl := len1))))))) (s_one (s_ret e_bl)) s_nil) (s_one (s_ret (e_and (e_cmp (x_eq hu) (x_meth0 T.cl G_Web_size (hrm hr) (x_ix hu (e_name 0) e_int)) (e_len hB.len (a_cons (e_name 1) a_nil))) (e_one _ (e_cmp (x_eq hu) (x_meth0 T.cl G_Web_ties (hrm hr) (x_ix hu (e_name 0) e_int)) (e_name 2)))))))))
abbrev s_read : Stmt := topS 18
abbrev N_read : List Str := ["text", "names", "rows", "seen", "things", "thing"]
theorem sc_read : FnScope N_read ["text"] (defScope s_read) := ⟨rfl, rfl, rfl, by decide +kernel, rfl, by decide +kernel, by decide +kernel⟩
theorem ok_read (F : Fun K "read" "read" s_read f fd) (hB : Blts mg) {WC : Addr} (T : WebK K mg WC) (G_is_name : FnD P w K mg base 1 "is_name" 1 (R_is_name WC)) (G_tie_of : FnM P w K mg base 2 "tie_of" [false, true, true] (R_tie_of WC)) (G_new_Web : NewD P w K mg base 1 WC "Web" 3 I_Web) : FnOk P w K mg base CX0 3 f fd ["text"] (spD K 1 (R_read WC)) := by
  refine def_ok (k := 2) F sc_read fun cdv A outer s H E hr => ?_
  have hu := hu_room hr
  have nd := sc_read.nd
  exact (s_cons (s_set [] 1 (e_lst a_nil) nd) (s_cons (s_set [] 2 (e_lst a_nil) nd) (s_cons (s_set [] 3 e_dictT nd) (s_cons (s_set [] 4 (e_mt m_split PySem.F.plainAttrs_str PySem.F.slot_str_split PySem.F.type_str_split (e_name 0) (a_cons e_str a_nil)) nd) (s_cons (s_if (t_cmp (x_eq hu) (e_name 0) e_str) (s_one (s_set [] 4 (e_lst a_nil) nd)) s_nil) (s_cons (s_forH rfl (p_name 4) (g_name 5 nd) (s_one (s_if (t_val (e_call G_is_name (hrm hr) (a_cons (e_name 5) a_nil) (hl := len1))) (s_cons (s_if (t_cmp (x_in hu) (e_name 5) (e_name 1)) (s_one s_bad) s_nil) (s_one (s_lop [] 1 l_app PySem.F.slot_list_append PySem.F.type_list_append (a_cons (e_name 5) a_nil)))) (s_one (s_appX 2 (x_callM G_tie_of (hrm hr) (m_val (e_name 5) (m_slot 1 (m_slot 3 m_nil))) (mok_val (mok_slot (mok_slot mok_nil))) (ml_val (ml_slot (ml_slot ml_nil))))))))) (s_cons (s_if (t_cmp (x_gt hu) (e_len hB.len (a_cons (e_name 1) a_nil)) (e_gint T.c_MOST_NAMES)) (s_one s_bad) s_nil) (s_one (s_retK (k_tup (ks_late (p_name 1) (ks_cons (k_val (x_new G_new_Web (hrm hr) (a_cons (e_len hB.len (a_cons (e_name 1) a_nil)) (a_cons (e_name 2) a_nil)) (hl := fun ρ rs h => congrArg (· + 1) (len2 ρ rs h)))) ks_nil))))))))))))
abbrev s_law_other_word : Stmt := topS 26
abbrev N_law_other_word : List Str := ["_law_word_here", "_law_number", "_law_way", "_law_at"]
theorem sc_law_other_word : FnScope N_law_other_word ["_law_word_here", "_law_number"] (defScope s_law_other_word) := ⟨rfl, rfl, rfl, by decide +kernel, rfl, by decide +kernel, by decide +kernel⟩
theorem ok_law_other_word (F : Fun K "_law_other_word" "_law_other_word" s_law_other_word f fd) (hB : Blts mg) {WC : Addr} (T : WebK K mg WC) (G_law_letter : FnD P w K mg base 1 "_law_letter" 1 (R_law_letter WC)) (G_law_word : FnD P w K mg base 2 "_law_word" 1 (R_law_word WC)) : FnOk P w K mg base CX0 3 f fd ["_law_word_here", "_law_number"] (spD K 2 (R_law_other_word WC)) := by
  refine def_ok (k := 2) F sc_law_other_word fun cdv A outer s H E hr => ?_
  have hu := hu_room hr
  have nd := sc_law_other_word.nd
  exact (s_cons (s_set [] 2 (e_mod (e_name 1) e_int) nd) (s_cons (s_set [] 3 (e_mod (e_div (e_name 1) e_int) (e_len hB.len (a_cons (e_name 0) a_nil))) nd) (s_cons (s_if (t_bool (t_and (t_cmp (x_eq hu) (e_name 2) e_int) (t_and1 (t_cmp (x_lt hu) (e_len hB.len (a_cons (e_name 0) a_nil)) e_int)))) (s_one (s_ret (e_plusS (e_name 0) (e_call G_law_letter (hrm hr) (a_cons (e_div (e_name 1) e_int) a_nil) (hl := len1))))) s_nil) (s_cons (s_if (t_cmp (x_eq hu) (e_name 2) e_int) (s_one (s_ret (e_plusS (e_plusS (e_slS (e_name 0) o_none (o_some (e_name 3))) (e_call G_law_letter (hrm hr) (a_cons (e_div (e_name 1) e_int) a_nil) (hl := len1))) (e_slS (e_name 0) (o_some (e_plus (e_name 3) e_int)) o_none)))) s_nil) (s_cons (s_if (t_cmp (x_eq hu) (e_name 2) e_int) (s_one (s_ret (e_mt m_join PySem.F.plainAttrs_str PySem.F.slot_str_join PySem.F.type_str_join e_str (a_cons (e_lstRevS rfl hB.list hB.reversed (a_cons (e_name 0) a_nil)) a_nil)))) s_nil) (s_one (s_ret (e_call G_law_word (hrm hr) (a_cons (e_div (e_name 1) e_int) a_nil) (hl := len1)))))))))
abbrev s_law_things : Stmt := topS 29
abbrev N_law_things : List Str := ["_law_script", "_law_pool", "_law_way", "_law_things_here", "_law_names_here", "_law_rows", "_law_seen", "_law_cell", "_law_number", "_law_one", "_law_other", "_law_heavy_here", "_law_word_here", "_law_a", "_law_b"]
theorem sc_law_things : FnScope N_law_things ["_law_script", "_law_pool", "_law_way"] (defScope s_law_things) := ⟨rfl, rfl, rfl, by decide +kernel, rfl, by decide +kernel, by decide +kernel⟩
theorem ok_law_things (F : Fun K "_law_things" "_law_things" s_law_things f fd) (hB : Blts mg) {WC : Addr} (T : WebK K mg WC) (G_law_mixed : FnD P w K mg base 1 "_law_mixed" 2 (R_law_mixed WC)) (G_law_heavy : FnD P w K mg base 2 "_law_heavy" 2 (R_law_heavy WC)) : FnOk P w K mg base CX0 3 f fd ["_law_script", "_law_pool", "_law_way"] (spD K 3 (R_law_things WC)) := by
  refine def_ok (k := 2) F sc_law_things fun cdv A outer s H E hr => ?_
  have hu := hu_room hr
  have nd := sc_law_things.nd
  exact (s_cons (s_set [] 3 (e_lst a_nil) nd) (s_cons (s_set [] 4 (e_lst a_nil) nd) (s_cons (s_set [] 5 (e_lst a_nil) nd) (s_cons (s_set [] 6 (e_lst a_nil) nd) (s_cons (s_for [] rfl (i_lst (e_sl (e_name 0) (o_some e_int) (o_some e_int))) (g_name 7 nd) (s_cons (s_set [] 8 (e_call G_law_mixed (hrm hr) (a_cons (e_name 7) (a_cons e_int a_nil)) (hl := len2)) nd) (s_cons (s_set [] 9 (x_ix hu (e_name 1) (e_mod (e_div (e_name 8) e_int) (e_len hB.len (a_cons (e_name 1) a_nil)))) nd) (s_cons (s_set [] 10 (x_ix hu (e_name 1) (e_mod (e_div (e_call G_law_mixed (hrm hr) (a_cons (e_name 7) (a_cons e_int a_nil)) (hl := len2)) e_int) (e_len hB.len (a_cons (e_name 1) a_nil)))) nd) (s_cons (s_set [] 11 (e_call G_law_heavy (hrm hr) (a_cons (e_name 7) (a_cons (e_name 2) a_nil)) (hl := len2)) nd) (s_one (s_if (t_bool (t_and (t_cmp (x_eq hu) (e_mod (e_name 8) e_int) e_int) (t_and1 (t_cmp (x_nin hu) (e_name 9) (e_name 4))))) (s_cons (s_lop [] 4 l_app PySem.F.slot_list_append PySem.F.type_list_append (a_cons (e_name 9) a_nil)) (s_one (s_lop [] 3 l_app PySem.F.slot_list_append PySem.F.type_list_append (a_cons (e_name 9) a_nil)))) (s_one (s_if (t_bool (t_and (t_cmp (x_ne hu) (e_name 9) (e_name 10)) (t_and1 (t_cmp (x_nin hu) (e_tup (a_cons (e_name 9) (a_cons (e_name 10) a_nil))) (e_name 6))))) (s_cons (s_for [] rfl (i_lst (e_lst (a_cons (e_name 9) (a_cons (e_name 10) a_nil)))) (g_name 12 nd) (s_one (s_if (t_cmp (x_nin hu) (e_name 12) (e_name 4)) (s_one (s_lop [] 4 l_app PySem.F.slot_list_append PySem.F.type_list_append (a_cons (e_name 12) a_nil))) s_nil))) (s_cons (s_set [] 6 (e_plus (e_name 6) (e_lst (a_cons (e_tup (a_cons (e_name 9) (a_cons (e_name 10) a_nil))) (a_cons (e_tup (a_cons (e_name 10) (a_cons (e_name 9) a_nil))) a_nil)))) nd) (s_cons (s_asgL (e_bi (k_sorted rfl) hB.sorted PyProof.Rows.boot_sorted (a_cons (e_lst (a_cons (e_mt (m_index hu) PySem.F.plainAttrs_list PySem.F.slot_list_index PySem.F.type_list_index (e_name 4) (a_cons (e_name 9) a_nil)) (a_cons (e_mt (m_index hu) PySem.F.plainAttrs_list PySem.F.slot_list_index PySem.F.type_list_index (e_name 4) (a_cons (e_name 10) a_nil)) a_nil))) a_nil)) (g_twoL 13 14 rfl nd (by rfl) (by rfl) (by first | exact Or.inl rfl | exact Or.inr rfl) (by first | exact Or.inl rfl | exact Or.inr rfl) (by first | exact .inl rfl | exact .inr rfl | assumption) (by first | exact .inl rfl | exact .inr rfl | assumption))) (s_cons (s_lop [] 5 l_app PySem.F.slot_list_append PySem.F.type_list_append (a_cons (e_tup (a_cons (e_name 13) (a_cons (e_name 14) (a_cons (e_name 11) a_nil)))) a_nil)) (s_one (s_lop [] 3 l_app PySem.F.slot_list_append PySem.F.type_list_append (a_cons (e_plusS (e_plusS (e_plusS (e_plusS (e_name 9) e_str) (e_name 10)) e_str) (e_ty k_strI hB.str PyProof.Rows.boot_str (a_cons (e_name 11) a_nil))) a_nil))))))) s_nil))))))))) (s_one (s_fz [4] (s_ret (e_tup (a_cons (e_mt m_join PySem.F.plainAttrs_str PySem.F.slot_str_join PySem.F.type_str_join e_str (a_cons (e_name 3) a_nil)) (a_cons (e_name 4) (a_cons (e_bi (k_sorted rfl) hB.sorted PyProof.Rows.boot_sorted (a_cons (e_name 5) a_nil)) a_nil))))))))))))
abbrev s_law_names : Stmt := topS 27
abbrev N_law_names : List Str := ["_law_cell", "_law_many", "_law_number", "_law_found", "_law_k", "_law_word_here"]
theorem sc_law_names : FnScope N_law_names ["_law_cell", "_law_many"] (defScope s_law_names) := ⟨rfl, rfl, rfl, by decide +kernel, rfl, by decide +kernel, by decide +kernel⟩
theorem ok_law_names (F : Fun K "_law_names" "_law_names" s_law_names f fd) (hB : Blts mg) {WC : Addr} (T : WebK K mg WC) (G_law_mixed : FnD P w K mg base 1 "_law_mixed" 2 (R_law_mixed WC)) (G_law_word : FnD P w K mg base 2 "_law_word" 1 (R_law_word WC)) (G_law_other_word : FnD P w K mg base 3 "_law_other_word" 2 (R_law_other_word WC)) : FnOk P w K mg base CX0 4 f fd ["_law_cell", "_law_many"] (spD K 2 (R_law_names WC)) := by
  refine def_ok (k := 3) F sc_law_names fun cdv A outer s H E hr => ?_
  have hu := hu_room hr
  have nd := sc_law_names.nd
  exact (s_cons (s_set [] 2 (e_call G_law_mixed (hrm hr) (a_cons (e_name 0) (a_cons e_int a_nil)) (hl := len2)) nd) (s_cons (s_set [] 3 (e_lst (a_cons (e_call G_law_word (hrm hr) (a_cons (e_name 2) a_nil) (hl := len1)) a_nil)) nd) (s_cons (s_for [] rfl (i_range1 hB.range (a_cons (e_mul e_int (e_name 1)) a_nil) len1) (g_name 4 nd) (s_cons (s_set [] 2 (e_call G_law_mixed (hrm hr) (a_cons (e_plus (e_name 2) (e_mul (e_name 4) (e_name 4))) (a_cons e_int a_nil)) (hl := len2)) nd) (s_cons (s_set [] 5 (e_call G_law_other_word (hrm hr) (a_cons (x_ix hu (e_name 3) (e_mod (e_div (e_name 2) e_int) (e_len hB.len (a_cons (e_name 3) a_nil)))) (a_cons (e_div (e_name 2) e_int) a_nil)) (hl := len2)) nd) (s_one (s_if (t_bool (t_and (t_cmp (x_nin hu) (e_name 5) (e_name 3)) (t_and1 (t_cmp (x_lt hu) (e_len hB.len (a_cons (e_name 3) a_nil)) (e_name 1))))) (s_one (s_lop [] 3 l_app PySem.F.slot_list_append PySem.F.type_list_append (a_cons (e_name 5) a_nil))) s_nil))))) (s_one (s_retv 3)))))
abbrev s_law : Stmt := topS 32
abbrev N_law : List Str := ["_law_script", "_law_head", "_law_pool", "_law_text", "_law_names_here", "_law_rows", "_law_found", "_law_due", "_law_handed", "_law_told", "_law_web", "_law_other", "_law_again"]
theorem sc_law : FnScope N_law ["_law_script"] (defScope s_law) := ⟨rfl, rfl, rfl, by decide +kernel, rfl, by decide +kernel, by decide +kernel⟩
theorem ok_law (F : Fun K "law" "law" s_law f fd) (hB : Blts mg) {WC : Addr} (T : WebK K mg WC) (G_law_cell_at : FnD P w K mg base 1 "_law_cell_at" 2 (R_law_cell_at WC)) (G_law_names : FnD P w K mg base 4 "_law_names" 2 (R_law_names WC)) (G_law_things : FnD P w K mg base 3 "_law_things" 3 (R_law_things WC)) (G_read : FnD P w K mg base 3 "read" 1 (R_read WC)) (G_law_right : FnD P w K mg base 2 "_law_right" 3 (R_law_right WC)) (G_law_written : FnD P w K mg base 1 "_law_written" 2 (R_law_written WC)) (G_shown : FnD P w K mg base 2 "shown" 2 (R_shown WC)) (G_new_Web : NewD P w K mg base 1 WC "Web" 3 I_Web) : FnOk P w K mg base CX0 5 f fd ["_law_script"] (spD K 1 (R_law WC)) := by
  refine def_ok (k := 4) F sc_law fun cdv A outer s H E hr => ?_
  have hu := hu_room hr
  have nd := sc_law.nd
  exact (s_cons (s_set [] 1 (e_mod (e_call G_law_cell_at (hrm hr) (a_cons (e_name 0) (a_cons e_int a_nil)) (hl := len2)) e_int) nd) (s_cons (s_set [] 2 (e_call G_law_names (hrm hr) (a_cons (e_call G_law_cell_at (hrm hr) (a_cons (e_name 0) (a_cons e_int a_nil)) (hl := len2)) (a_cons (e_plus e_int (e_mod (e_div (e_name 1) e_int) e_int)) a_nil)) (hl := len2)) nd) (s_cons (s_asg [] (e_call G_law_things (hrm hr) (a_cons (e_name 0) (a_cons (e_name 2) (a_cons (e_mod (e_name 1) e_int) a_nil))) (hl := len3)) (g_tup rfl (gs_cons (g_name 3 nd) (gs_cons (g_name 4 nd) (gs_cons (g_name 5 nd) gs_nil))))) (s_cons (s_set [] 6 (e_call G_read (hrm hr) (a_cons (e_name 3) a_nil) (hl := len1)) nd) (s_cons (s_if (t_not (t_val (e_call G_law_right (hrm hr) (a_cons (e_name 6) (a_cons (e_name 4) (a_cons (e_name 5) a_nil))) (hl := len3)))) (s_one (s_ret e_bl)) s_nil) (s_cons (s_set [] 7 (e_mt m_join PySem.F.plainAttrs_str PySem.F.slot_str_join PySem.F.type_str_join e_str (a_cons (e_plus (e_name 4) (e_call G_law_written (hrm hr) (a_cons (e_name 4) (a_cons (e_name 5) a_nil)) (hl := len2))) a_nil)) nd) (s_cons (s_set [] 8 (e_ty (k_list) hB.list PyProof.Rows.boot_list (a_cons (e_name 4) a_nil)) nd) (s_cons (s_set [] 9 (e_call G_shown (hrm hr) (a_cons (e_name 8) (a_cons (x_ix hu (e_name 6) e_int) a_nil)) (hl := len2)) nd) (s_cons (s_if (t_bool (t_or (t_not (t_val (e_isi "str" hB.isinstance hB.str PyProof.Rows.boot_str (e_name 9)))) (t_or (t_cmp (x_ne hu) (e_name 9) (e_name 7)) (t_or1 (t_cmp (x_ne hu) (e_name 8) (e_name 4)))))) (s_one (s_ret e_bl)) s_nil) (s_cons (s_take 10 (p_tx hu (p_name 6) e_int) nd) (s_cons (s_appp [] (p_tx hu (p_name 6) e_int) (a_cons e_str a_nil)) (s_cons (s_if (t_bool (t_or (t_not (t_val (e_call G_law_right (hrm hr) (a_cons (e_call G_read (hrm hr) (a_cons (e_name 9) a_nil) (hl := len1)) (a_cons (e_name 4) (a_cons (e_name 5) a_nil))) (hl := len3)))) (t_or1 (t_not (t_val (e_call G_law_right (hrm hr) (a_cons (e_call G_read (hrm hr) (a_cons (e_name 3) a_nil) (hl := len1)) (a_cons (e_name 4) (a_cons (e_name 5) a_nil))) (hl := len3))))))) (s_one (s_ret e_bl)) s_nil) (s_cons (s_set [] 11 (e_lstRev rfl hB.list hB.reversed (a_cons (e_name 4) a_nil)) nd) (s_cons (s_set [] 12 (e_call G_read (hrm hr) (a_cons (e_call G_shown (hrm hr) (a_cons (e_name 11) (a_cons (e_name 10) a_nil)) (hl := len2)) a_nil) (hl := len1)) nd) (s_one (s_ret (e_and (e_call G_law_right (hrm hr) (a_cons (e_name 12) (a_cons (e_name 11) (a_cons (e_name 5) a_nil))) (hl := len3)) (e_and (e_cmp (x_eq hu) (e_ixO hu (e_call G_read (hrm hr) (a_cons e_str a_nil) (hl := len1)) e_int) (e_lst a_nil)) (e_one _ (e_cmp (x_eq hu) (e_call G_shown (hrm hr) (a_cons (e_lst a_nil) (a_cons (x_new G_new_Web (hrm hr) (a_cons e_int (a_cons (e_lst a_nil) a_nil)) (hl := fun ρ rs h => congrArg (· + 1) (len2 ρ rs h))) a_nil)) (hl := len2)) e_str))))))))))))))))))))
end
end
end Pr
set_option Elab.async false
set_option linter.all false
set_option maxRecDepth 100000
namespace Tg
open PySem PySem.Spec L2 Ev
open PyProof.Rows hiding St
section
variable {α β σ R T κ : Type}
@[simp] theorem letB_eq (x : α) (k : α → β) : letB x k = k x := Eq.trans rfl rfl
@[simp] theorem bindO_s (x : α) (k : α → Option β) : bindO (some x) k = k x := Eq.trans rfl rfl
theorem forS_inv {xs : List α} {s0 : σ} {f : α → σ → Option σ} (P : List α → σ → Prop) (h0 : P [] s0)
    (hs : ∀ pre x post s, xs = pre ++ x :: post → P pre s → ∃ s', f x s = some s' ∧ P (pre ++ [x]) s') : ∃ s', forS xs s0 f = some s' ∧ P xs s' := by
  have go : ∀ (post pre : List α) (s : σ), xs = pre ++ post → P pre s → ∃ s', forS post s f = some s' ∧ P xs s' := by
    intro post
    induction post with
    | nil => exact fun pre s e p => ⟨s, rfl, by rw [e, List.append_nil]; exact p⟩
    | cons x post ih =>
      intro pre s e p
      obtain ⟨s1, e1, p1⟩ := hs pre x post s e p
      obtain ⟨s2, e2, p2⟩ := ih (pre ++ [x]) s1 (by rw [e, List.append_assoc]; rfl) p1
      exact ⟨s2, by unfold forS; rw [e1]; exact e2, p2⟩
  exact go xs [] s0 rfl h0
theorem big_e {xs : List α} (h : xs.length ≤ 1000000) : big xs = some xs := if_pos h
theorem appO_e {xs : List α} {x : α} (h : xs.length ≤ 1000000) : appO xs x = some (xs ++ [x]) := if_pos h
theorem catO_e {xs ys : List α} (h : xs.length + ys.length ≤ 1000000) : catO xs ys = some (xs ++ ys) := if_pos h
theorem lcM_e {xs : List α} {p : α → Option Bool} {f : α → Option β} (p' : α → Bool) (f' : α → β) (hp : ∀ x ∈ xs, p x = some (p' x)) (hf : ∀ x ∈ xs, p' x = true → f x = some (f' x)) : lcM xs p f = some ((xs.filter p').map f') := by
  induction xs with
  | nil => rfl
  | cons x xs ih =>
    unfold lcM
    rw [hp x List.mem_cons_self, ih (fun y hy => hp y (List.mem_cons_of_mem _ hy)) fun y hy => hf y (List.mem_cons_of_mem _ hy)]
    cases h : p' x with
    | true => simp [bindO, hf x List.mem_cons_self h, h]
    | false => simp [bindO, h]
theorem lcM_map {xs : List α} {f : α → Option β} (f' : α → β) (hf : ∀ x ∈ xs, f x = some (f' x)) : lcM xs (fun _ => some true) f = some (xs.map f') := by
  rw [lcM_e (fun _ => true) f' (fun _ _ => rfl) fun x hx _ => hf x hx, List.filter_eq_self.mpr (fun _ _ => rfl)]
theorem rng_e {n : Nat} (h : n ≤ 1000000000) : rngO 0 (n : Int) = some ((List.range n).map fun (k : Nat) => (k : Int)) := by
  unfold rngO
  rw [if_pos (by omega)]
  simp
theorem idx_nat (xs : List α) (k : Nat) : idx xs (k : Int) = xs[k]? := by
  unfold idx atI ixN
  by_cases h : k < xs.length
  · rw [if_pos (by omega), if_pos (by omega)]
    simp
  · rw [if_pos (by omega), if_neg (by omega)]
    simp
    omega
theorem idx_lt {xs : List α} {k : Nat} (h : k < xs.length) : idx xs (k : Int) = some xs[k] := by rw [idx_nat, List.getElem?_eq_getElem h]
theorem idx_i {xs : List α} {i : Int} (h0 : 0 ≤ i) (h : i < xs.length) : idx xs i = some (xs[i.toNat]'(by omega)) := by
  obtain ⟨k, rfl⟩ : ∃ k : Nat, i = k := ⟨i.toNat, by omega⟩
  rw [idx_lt (by omega)]
  simp
theorem setI_nat {xs : List α} {k : Nat} {y : α} (h : k < xs.length) : setI xs (k : Int) y = xs.set k y := by
  unfold setI ixN
  rw [if_pos (by omega), if_pos (by omega)]
  simp
theorem mulR {i j : Int} (h : -(2 ^ 64) < j ∧ j < 2 ^ 64) : mulO i j = some (i * j) := if_pos (.inl (.inr h))
theorem modP {i j : Int} (h : 0 < j) : modO i j = some (i % j) := if_pos h
section
variable [DecidableEq κ]
theorem ahas_iff {m : List (κ × α)} {k : κ} : ahas m k = (aget m k).isSome := by
  unfold ahas aget
  rw [Option.isSome_map]
  induction m with
  | nil => rfl
  | cons p m ih =>
    rw [List.any_cons, List.find?_cons]
    by_cases h : p.1 = k <;> simp [h, ih]
theorem aget_put (m : List (κ × α)) (k k' : κ) (v : α) : aget (aput m k v) k' = if k = k' then some v else aget m k' := by
  unfold aput
  by_cases h : ahas m k = true
  · rw [if_pos h]
    have e : ∀ m : List (κ × α), ahas m k = true → aget (m.map fun p => if p.1 = k then (p.1, v) else p) k' = if k = k' then some v else aget m k' := by
      intro m
      induction m with
      | nil => intro h; simp [ahas] at h
      | cons p m ih =>
        intro h
        by_cases hp : p.1 = k
        · by_cases hk : k = k'
          · subst hk
            simp [aget, hp]
          · rw [if_neg hk]
            have hne : ¬ p.1 = k' := fun z => hk (hp.symm.trans z)
            by_cases h2 : ahas m k = true
            · have := ih h2
              rw [if_neg hk] at this
              unfold aget at this ⊢
              rw [List.map_cons, List.find?_cons, List.find?_cons]
              simp only [hp, if_true]
              rw [show decide (k = k') = false from decide_eq_false hk]
              exact this
            · have h3 : m.map (fun p => if p.1 = k then (p.1, v) else p) = m := by
                rw [List.map_congr_left (g := id)]
                · simp
                · intro q hq
                  have : ¬ q.1 = k := fun z => h2 (List.any_eq_true.mpr ⟨q, hq, by simp [z]⟩)
                  simp [this]
              unfold aget
              rw [List.map_cons, h3, List.find?_cons, List.find?_cons]
              simp [hp, hk]
        · have h2 : ahas m k = true := by
            unfold ahas at h ⊢
            rw [List.any_cons] at h
            simpa [hp] using h
          have := ih h2
          unfold aget at this ⊢
          rw [List.map_cons, List.find?_cons, List.find?_cons]
          simp only [hp, if_false]
          by_cases hk : p.1 = k'
          · have : ¬ k = k' := fun z => hp (hk.trans z.symm)
            simp [hk, this]
          · simp only [hk, decide_false]
            exact this
    exact e m h
  · rw [if_neg h]
    have hn : aget m k = none := by
      have := ahas_iff (m := m) (k := k)
      cases e : aget m k with
      | none => rfl
      | some x => rw [e] at this; exact absurd this h
    unfold aget at hn ⊢
    rw [List.find?_append]
    by_cases hk : k = k'
    · subst hk
      rw [if_pos rfl]
      rw [Option.map_eq_none_iff] at hn
      rw [hn]
      simp
    · rw [if_neg hk]
      cases m.find? (fun p => decide (p.1 = k')) with
      | some x => simp
      | none => simp [hk]
theorem ahas_put (m : List (κ × α)) (k k' : κ) (v : α) : ahas (aput m k v) k' = (decide (k = k') || ahas m k') := by
  rw [ahas_iff, aget_put, ahas_iff]
  by_cases h : k = k' <;> simp [h]
theorem aputO_e {m : List (κ × α)} {k : κ} {v : α} (h : m.length < 1000000) : aputO m k v = some (aput m k v) := if_pos h
theorem aput_new {m : List (κ × α)} {k : κ} {v : α} (h : ahas m k = false) : aput m k v = m ++ [(k, v)] := by
  unfold aput
  rw [if_neg (by rw [h]; exact Bool.false_ne_true)]
@[simp] theorem aget_nil (k : κ) : aget ([] : List (κ × α)) k = none := rfl
@[simp] theorem ahas_nil (k : κ) : ahas ([] : List (κ × α)) k = false := rfl
end
end
theorem minI_eq (i j : Int) : minI i j = min i j := by unfold minI; split <;> omega
theorem maxI_eq (i j : Int) : maxI i j = max i j := by unfold maxI; split <;> omega
theorem swo3 : SrtO.Swo ltP3 := ⟨fun x y h => EvS.lt_asym _ _ h, fun x y z h1 h2 => EvS.lt_neg_trans _ _ _ h2 h1⟩
theorem perm3 (xs : List (Int × Int × Int)) : (sort3 xs).Perm xs := isort_perm xs
theorem permI (xs : List Int) : (sortI xs).Perm xs := isort_perm xs
theorem srt3 (xs : List (Int × Int × Int)) : (sort3 xs).Pairwise fun a b => ltP3 b a = false := isort_srtd swo3 xs
theorem srtI (xs : List Int) : (sortI xs).Pairwise fun a b => a ≤ b := (isort_srtd swo_int xs).imp fun h => by have := of_decide_eq_false h; omega
end Tg
set_option Elab.async false
set_option linter.all false
namespace Tg
open PySem PySem.Spec L2 Ev
open PyProof.Rows hiding St
section
variable {α β σ R T κ : Type}
theorem rng_at {n : Nat} {pre post : List Int} {x : Int} (e : (List.range n).map (fun (k : Nat) => (k : Int)) = pre ++ x :: post) : pre.length < n ∧ x = (pre.length : Int) := by
  have h1 := congrArg List.length e
  simp at h1
  have h2 : ((List.range n).map fun (k : Nat) => (k : Int))[pre.length]? = some x := by rw [e]; simp
  rw [List.getElem?_map, List.getElem?_range (by omega)] at h2
  simp at h2
  exact ⟨by omega, h2.symm⟩
theorem forS_rng {n : Nat} {s0 : σ} {f : Int → σ → Option σ} (P : Nat → σ → Prop) (h0 : P 0 s0)
    (hs : ∀ (k : Nat) s, k < n → P k s → (∃ s', f k s = some s' ∧ P (k + 1) s')) : ∃ s', forS ((List.range n).map fun (k : Nat) => (k : Int)) s0 f = some s' ∧ P n s' := by
  have := forS_inv (xs := (List.range n).map fun (k : Nat) => (k : Int)) (f := f) (fun pre s => P pre.length s) h0 fun pre x post s e p => by
    obtain ⟨hk, hx⟩ := rng_at e
    have := hs pre.length s hk p
    rw [hx, List.length_append]
    exact this
  simpa using this
end
end Tg
set_option Elab.async false
set_option linter.all false
set_option maxRecDepth 100000
namespace Pr
open PySem PySem.Spec L2 Ev Tg
open PyProof.Rows hiding St
theorem aget_cons {κ α : Type} [DecidableEq κ] (p : κ × α) (m : List (κ × α)) (k : κ) : aget (p :: m) k = if p.1 = k then some p.2 else aget m k := by
  unfold aget
  rw [List.find?_cons]
  by_cases h : p.1 = k <;> simp [h]
theorem ahas_keys {κ α : Type} [DecidableEq κ] {m : List (κ × α)} {k : κ} : ahas m k = decide (k ∈ m.map (·.1)) := by
  unfold ahas
  rw [Bool.eq_iff_iff, decide_eq_true_eq, List.any_eq_true, List.mem_map]
  constructor
  · rintro ⟨p, h, e⟩; exact ⟨p, h, of_decide_eq_true e⟩
  · rintro ⟨p, h, e⟩; exact ⟨p, h, decide_eq_true e⟩
theorem ahas_key {κ α : Type} [DecidableEq κ] {m : List (κ × α)} {k : κ} : ahas m k = true ↔ k ∈ m.map (·.1) := by rw [ahas_keys, decide_eq_true_eq]
end Pr
set_option Elab.async false
set_option linter.all false
namespace Pr
open PySem PySem.Spec L2 Ev Tg
open PyProof.Rows hiding St
section
variable {α : Type}
theorem cut_to (xs : List α) (k : Nat) : cutL xs none (some (k : Int)) = xs.take k := by
  unfold cutL
  rw [HT.sIx_none, HT.sIx_nat, List.drop_zero]
  by_cases h : k ≤ xs.length
  · rw [show min k xs.length - 0 = k by omega]
  · rw [List.take_of_length_le (by omega), List.take_of_length_le (by omega)]
theorem cut_from (xs : List α) (k : Nat) : cutL xs (some (k : Int)) none = xs.drop k := by
  unfold cutL
  rw [HT.sIx_none, HT.sIx_nat]
  by_cases h : k ≤ xs.length
  · rw [show min k xs.length = k by omega, List.take_of_length_le (by rw [List.length_drop]; omega)]
  · rw [List.drop_eq_nil_of_le (by omega), List.drop_eq_nil_of_le (by omega)]
    simp
theorem cut_1 (xs : List α) : cutL xs (some (1 : Int)) none = xs.tail := by
  have := cut_from xs 1
  rw [show ((1 : Nat) : Int) = 1 from rfl] at this
  rw [this, List.drop_one]
end
end Pr
set_option Elab.async false
set_option linter.all false
set_option maxRecDepth 100000
namespace Pr
open PySem PySem.Spec L2 Ev Tg
open PyProof.Rows hiding St
theorem len_of_sub {α : Type} [DecidableEq α] : ∀ {xs ys : List α}, xs.Nodup → (∀ x ∈ xs, x ∈ ys) → xs.length ≤ ys.length
  | [], _, _, _ => Nat.zero_le _
  | x :: xs, ys, nd, h => by
    rw [List.nodup_cons] at nd
    have hx : x ∈ ys := h x List.mem_cons_self
    have := len_of_sub (ys := ys.erase x) nd.2 fun y hy => by
      have hne : y ≠ x := fun e => nd.1 (e ▸ hy)
      exact (List.mem_erase_of_ne hne).mpr (h y (List.mem_cons_of_mem _ hy))
    rw [List.length_erase_of_mem hx] at this
    have hp : 0 < ys.length := List.length_pos_of_mem hx
    rw [List.length_cons]
    omega
theorem nd_le {n : Nat} {xs : List Int} (nd : xs.Nodup) (h : ∀ x ∈ xs, 0 ≤ x ∧ x < n) : xs.length ≤ n := by
  have := len_of_sub (ys := (List.range n).map fun (k : Nat) => (k : Int)) nd fun x hx => by
    have := h x hx
    exact List.mem_map.mpr ⟨x.toNat, List.mem_range.mpr (by omega), by omega⟩
  simpa using this
abbrev Up (xs : List Int) : Prop := xs.Pairwise fun a b => a < b
theorem Up.nd {xs : List Int} (h : Up xs) : xs.Nodup := h.imp fun h => by omega
theorem sortI_up {xs : List Int} (nd : xs.Nodup) : Up (sortI xs) := by
  have h1 := srtI xs
  have h2 : (sortI xs).Nodup := (permI xs).nodup_iff.mpr nd
  exact (h1.and h2).imp fun ⟨a, b⟩ => by omega
theorem up_uniq : ∀ {xs ys : List Int}, Up xs → Up ys → (∀ x, x ∈ xs ↔ x ∈ ys) → xs = ys
  | [], [], _, _, _ => rfl
  | [], y :: ys, _, _, h => absurd ((h y).mpr List.mem_cons_self) (fun z => nomatch z)
  | x :: xs, [], _, _, h => absurd ((h x).mp List.mem_cons_self) (fun z => nomatch z)
  | x :: xs, y :: ys, h1, h2, h => by
    have g1 := List.pairwise_cons.mp h1
    have g2 := List.pairwise_cons.mp h2
    have e : x = y := by
      rcases List.mem_cons.mp ((h x).mp List.mem_cons_self) with e | m
      · exact e
      · rcases List.mem_cons.mp ((h y).mpr List.mem_cons_self) with e | m2
        · exact e.symm
        · have := g2.1 x m
          have := g1.1 y m2
          omega
    subst e
    rw [up_uniq g1.2 g2.2 fun z => ?_]
    constructor
    · intro hz
      rcases List.mem_cons.mp ((h z).mp (List.mem_cons_of_mem _ hz)) with e | m
      · subst e; exact absurd (g1.1 z hz) (by omega)
      · exact m
    · intro hz
      rcases List.mem_cons.mp ((h z).mpr (List.mem_cons_of_mem _ hz)) with e | m
      · subst e; exact absurd (g2.1 z hz) (by omega)
      · exact m
theorem sort_of_up {xs : List Int} (h : Up xs) : sortI xs = xs := up_uniq (sortI_up h.nd) h fun x => (permI xs).mem_iff
end Pr
set_option Elab.async false
set_option linter.all false
set_option maxRecDepth 100000
namespace Pr
open PySem PySem.Spec L2 Ev Tg
open PyProof.Rows hiding St
abbrev Tie := Int × Int × Int
def isT (a b : Int) (t : Tie) : Bool := (decide (t.1 = a) && decide (t.2.1 = b)) || (decide (t.1 = b) && decide (t.2.1 = a))
def wt (ts : List Tie) (a b : Int) : Option Int := (ts.find? (isT a b)).map (·.2.2)
def nb1 (a : Int) (t : Tie) : Option Int := if t.1 = a then some t.2.1 else if t.2.1 = a then some t.1 else none
def nb (ts : List Tie) (a : Int) : List Int := ts.filterMap (nb1 a)
def tab (ts : List Tie) : List ((Int × Int) × Int) := ts.flatMap fun t => [((t.1, t.2.1), t.2.2), ((t.2.1, t.1), t.2.2)]
def endsW (n : Nat) (ts : List Tie) : List (List Int) := (List.range n).map fun (k : Nat) => nb ts k
def web (n : Nat) (ts : List Tie) : WebT := ((n : Int), tab ts, endsW n ts)
structure Good1 (n : Int) (t : Tie) : Prop where
  ne : t.1 ≠ t.2.1
  a0 : 0 ≤ t.1
  b0 : 0 ≤ t.2.1
  an : t.1 < n
  bn : t.2.1 < n
structure Good (n : Nat) (ts : List Tie) : Prop where
  one : ∀ t ∈ ts, Good1 n t
  two : ts.Pairwise fun t u => isT t.1 t.2.1 u = false
theorem isT_comm (a b : Int) (t : Tie) : isT a b t = isT b a t := by
  unfold isT
  rw [Bool.or_comm]
theorem isT_iff {a b : Int} {t : Tie} : isT a b t = true ↔ (t.1 = a ∧ t.2.1 = b) ∨ (t.1 = b ∧ t.2.1 = a) := by
  unfold isT
  simp
theorem isT_no {a b : Int} {t : Tie} : isT a b t = false ↔ ¬ ((t.1 = a ∧ t.2.1 = b) ∨ (t.1 = b ∧ t.2.1 = a)) := by
  rw [← isT_iff]
  simp
theorem isT_sym (t u : Tie) : isT t.1 t.2.1 u = isT u.1 u.2.1 t := by
  rw [Bool.eq_iff_iff, isT_iff, isT_iff]
  constructor
  · rintro (⟨h1, h2⟩ | ⟨h1, h2⟩)
    · exact .inl ⟨h1.symm, h2.symm⟩
    · exact .inr ⟨h2.symm, h1.symm⟩
  · rintro (⟨h1, h2⟩ | ⟨h1, h2⟩)
    · exact .inl ⟨h1.symm, h2.symm⟩
    · exact .inr ⟨h2.symm, h1.symm⟩
theorem Good.nil (n : Nat) : Good n [] := ⟨fun _ h => (nomatch h), List.Pairwise.nil⟩
theorem Good.snoc {n : Nat} {ts : List Tie} {t : Tie} (g : Good n ts) (g1 : Good1 n t) (h : ∀ u ∈ ts, isT t.1 t.2.1 u = false) : Good n (ts ++ [t]) where
  one := fun u hu => by
    rcases List.mem_append.mp hu with hu | hu
    · exact g.one u hu
    · rw [List.mem_singleton.mp hu]; exact g1
  two := List.pairwise_append.mpr ⟨g.two, List.pairwise_singleton _ _, fun u hu v hv => by rw [List.mem_singleton.mp hv, isT_sym]; exact h u hu⟩
theorem Good.left {n : Nat} {ts us : List Tie} (g : Good n (ts ++ us)) : Good n ts := ⟨fun t h => g.one t (List.mem_append_left _ h), (List.pairwise_append.mp g.two).1⟩
theorem Good.mid {n : Nat} {ts us : List Tie} {t : Tie} (g : Good n (ts ++ t :: us)) : Good1 n t ∧ ∀ u ∈ ts, isT t.1 t.2.1 u = false := ⟨g.one t (by simp), fun u hu => by
  have := (List.pairwise_append.mp g.two).2.2 u hu t (by simp)
  rw [isT_sym]
  exact this⟩
theorem wt_cons (t : Tie) (ts : List Tie) (a b : Int) : wt (t :: ts) a b = if isT a b t = true then some t.2.2 else wt ts a b := by
  unfold wt
  rw [List.find?_cons]
  cases isT a b t <;> rfl
theorem aget_tab (ts : List Tie) (a b : Int) : aget (tab ts) (a, b) = wt ts a b := by
  induction ts with
  | nil => rfl
  | cons t ts ih =>
    rw [wt_cons, ← ih]
    show aget (((t.1, t.2.1), t.2.2) :: ((t.2.1, t.1), t.2.2) :: tab ts) (a, b) = _
    rw [aget_cons, aget_cons]
    simp only [Prod.mk.injEq]
    by_cases h1 : t.1 = a ∧ t.2.1 = b
    · rw [if_pos h1, if_pos (isT_iff.mpr (.inl h1))]
    · rw [if_neg h1]
      by_cases h2 : t.2.1 = a ∧ t.1 = b
      · rw [if_pos h2, if_pos (isT_iff.mpr (.inr ⟨h2.2, h2.1⟩))]
      · rw [if_neg h2, if_neg]
        rw [isT_iff]
        rintro (h | h)
        · exact h1 h
        · exact h2 ⟨h.2, h.1⟩
theorem wt_none {ts : List Tie} {a b : Int} (h : ∀ u ∈ ts, isT a b u = false) : wt ts a b = none := by
  unfold wt
  rw [Option.map_eq_none_iff, List.find?_eq_none]
  intro u hu
  rw [h u hu]
  exact Bool.false_ne_true
theorem tab_snoc (ts : List Tie) (t : Tie) : tab (ts ++ [t]) = tab ts ++ [((t.1, t.2.1), t.2.2), ((t.2.1, t.1), t.2.2)] := by
  unfold tab
  rw [List.flatMap_append]
  rfl
theorem tab_len (ts : List Tie) : (tab ts).length = 2 * ts.length := by
  induction ts with
  | nil => rfl
  | cons t ts ih =>
    unfold tab at ih ⊢
    rw [List.flatMap_cons, List.length_append, ih]
    simp only [List.length_cons, List.length_nil]
    omega
theorem wt_comm (ts : List Tie) (a b : Int) : wt ts a b = wt ts b a := by
  unfold wt
  congr 2
  funext t
  exact isT_comm a b t
theorem nb_snoc (ts : List Tie) (t : Tie) (a : Int) : nb (ts ++ [t]) a = nb ts a ++ (nb1 a t).toList := by
  unfold nb
  rw [List.filterMap_append]
  cases h : nb1 a t <;> simp [List.filterMap_cons, h]
theorem nb_len (ts : List Tie) (a : Int) : (nb ts a).length ≤ ts.length := List.length_filterMap_le _ _
theorem ends_get {n : Nat} {ts : List Tie} {k : Nat} (h : k < n) : (endsW n ts)[k]? = some (nb ts k) := by
  unfold endsW
  rw [List.getElem?_map, List.getElem?_range h]
  rfl
theorem ends_len (n : Nat) (ts : List Tie) : (endsW n ts).length = n := by simp [endsW]
theorem init_L1 {n : Nat} {ts : List Tie} {t : Tie} (g : Good n ts) (g1 : Good1 n t) (h : ∀ u ∈ ts, isT t.1 t.2.1 u = false) (hl : ts.length ≤ 10000) : p_Web_init_L1 n t.1 t.2.1 t.2.2 (tab ts) (endsW n ts) = some (tab (ts ++ [t]), endsW n (ts ++ [t])) := by
  obtain ⟨a, b, w⟩ := t
  obtain ⟨ne, a0, b0, an, bn⟩ := g1
  dsimp only at ne a0 b0 an bn h
  obtain ⟨i, rfl⟩ : ∃ i : Nat, a = i := ⟨a.toNat, by omega⟩
  obtain ⟨j, rfl⟩ : ∃ j : Nat, b = j := ⟨b.toNat, by omega⟩
  have hw : wt ts i j = none := wt_none h
  have h1 : ahas (tab ts) ((i : Int), (j : Int)) = false := by rw [ahas_iff, aget_tab, hw]; rfl
  have h2 : ahas (tab ts ++ [(((i : Int), (j : Int)), w)]) ((j : Int), (i : Int)) = false := by
    rw [← aput_new h1, ahas_put, ahas_iff, aget_tab, wt_comm, hw]
    simp
    omega
  unfold p_Web_init_L1
  have c1 : (decide ((i : Int) = j) || (decide (minI i j < 0) || decide (maxI i j ≥ (n : Int)))) = false := by
    rw [minI_eq, maxI_eq]
    simp
    omega
  rw [c1, if_neg Bool.false_ne_true, h1, if_neg Bool.false_ne_true, aputO_e (by rw [tab_len]; omega), bindO_s, aput_new h1, aputO_e (by rw [List.length_append, tab_len]; simp; omega), bindO_s, aput_new h2, idx_nat, ends_get (by omega), bindO_s, appO_e (by have := nb_len ts i; omega), bindO_s]
  have ij : i ≠ j := by omega
  rw [setI_nat (by rw [ends_len]; omega), idx_nat, List.getElem?_set_ne ij, ends_get (by omega), bindO_s, appO_e (by have := nb_len ts j; omega), bindO_s, setI_nat (by rw [List.length_set, ends_len]; omega), tab_snoc]
  refine congrArg some (Prod.ext (by simp) ?_)
  apply List.ext_getElem?
  intro k
  simp only
  rw [List.getElem?_set, List.getElem?_set]
  simp only [List.length_set, ends_len]
  by_cases hk : k < n
  · rw [ends_get hk, ends_get hk, nb_snoc]
    unfold nb1
    by_cases e1 : j = k
    · subst e1
      simp [hk, ne]
    · by_cases e2 : i = k
      · subst e2
        simp [hk, e1]
      · simp [e1, e2]
        have : ¬ ((i : Int) = k) := by omega
        have : ¬ ((j : Int) = k) := by omega
        simp [*]
  · rw [List.getElem?_eq_none (by rw [ends_len]; omega), List.getElem?_eq_none (by rw [ends_len]; omega)]
    have : ¬ (j = k) := by omega
    have : ¬ (i = k) := by omega
    simp [*]
theorem init_web {n : Nat} {ts : List Tie} (hn : n ≤ 24) (g : Good n ts) (hl : ts.length ≤ 10000) : p_Web_init n ts = some (web n ts) := by
  unfold p_Web_init
  have c1 : (decide ((n : Int) < 0) || decide ((n : Int) > 24)) = false := by simp; omega
  rw [c1, if_neg Bool.false_ne_true]
  simp -implicitDefEqProofs only [letB_eq]
  rw [rng_e (by omega), bindO_s, big_e (by simp; omega), bindO_s]
  have e0 : ((List.range n).map fun (k : Nat) => (k : Int)).map (fun _ => ([] : List Int)) = endsW n [] := by
    unfold endsW
    rw [List.map_map]
    rfl
  rw [e0]
  obtain ⟨s, e1, e2⟩ := forS_inv (xs := ts) (s0 := (([] : List ((Int × Int) × Int)), endsW n [])) (f := fun (x8 : Int × Int × Int) (s8 : (List ((Int × Int) × Int)) × (List (List Int))) => p_Web_init_L1 n x8.1 x8.2.1 x8.2.2 s8.1 s8.2) (fun pre s => s = (tab pre, endsW n pre)) rfl fun pre x post s e p => by
    subst p
    subst e
    obtain ⟨g1, g2⟩ := g.mid
    exact ⟨_, init_L1 g.left g1 g2 (by simp at hl; omega), rfl⟩
  rw [e1, bindO_s, e2]
  rfl
end Pr
set_option Elab.async false
set_option linter.all false
set_option maxRecDepth 100000
namespace Pr
open PySem PySem.Spec L2 Ev Tg
abbrev L (s : SS) : List Nat := TL.tl s.1
theorem len_L (s : SS) : s.1.length = (L s).length := TL.len_tl s.1
theorem ss_ext {a b : SS} (h : L a = L b) : a = b := Subtype.ext (TL.ext_tl h)
theorem ok_iff {x : Str} : PyData.strOk x = true ↔ ∀ c ∈ TL.tl x, c < 0x110000 := by
  show x.cps.all (· < 0x110000) = true ↔ _
  rw [← Array.all_toList, List.all_eq_true]
  refine ⟨fun h c hc => of_decide_eq_true (h c hc), fun h c hc => decide_eq_true (h c hc)⟩
theorem ss_ok (s : SS) : ∀ c ∈ L s, c < 0x110000 := ok_iff.mp s.2
theorem mkSO_e {x : Str} (h : ∀ c ∈ TL.tl x, c < 0x110000) : ∃ s, mkSO x = some s ∧ L s = TL.tl x := by
  unfold mkSO
  rw [dif_pos (ok_iff.mpr h)]
  exact ⟨_, rfl, rfl⟩
theorem catS_e {a b : SS} (h : (L a).length + (L b).length ≤ 1000000) : ∃ z, catS a b = some z ∧ L z = L a ++ L b := by
  unfold catS
  rw [if_pos (by rw [len_L, len_L]; exact h)]
  obtain ⟨z, e1, e2⟩ := mkSO_e (x := a.1 ++ b.1) (by
    rw [TL.tl_append]
    intro c hc
    rcases List.mem_append.mp hc with hc | hc
    · exact ss_ok a c hc
    · exact ss_ok b c hc)
  exact ⟨z, e1, by rw [e2, TL.tl_append]⟩
theorem ixS_e {a : SS} {i : Nat} (hl : (L a).length ≤ 1000000) (hi : i < (L a).length) : ∃ z, ixS a (i : Int) = some z ∧ L z = [(L a)[i]] := by
  unfold ixS
  rw [if_pos (by rw [len_L]; exact hl)]
  have e : atI a.1.cps.toList (i : Int) = some ((L a)[i]) := idx_lt (xs := L a) hi
  rw [e, Option.bind_some]
  exact mkSO_e (x := ⟨#[(L a)[i]]⟩) (fun c hc => by
    have : c = (L a)[i] := by simpa [TL.tl] using hc
    rw [this]
    exact ss_ok a _ (List.getElem_mem hi))
theorem lenS_e {a : SS} (hl : (L a).length ≤ 1000000) : lenS a = some ((L a).length : Int) := by
  unfold lenS
  rw [if_pos (by rw [len_L]; exact hl), len_L]
theorem allS_e : ∀ {xs : List Str}, (∀ x ∈ xs, ∀ c ∈ TL.tl x, c < 0x110000) → ∃ ss, allS xs = some ss ∧ ss.map L = xs.map TL.tl
  | [], _ => ⟨[], rfl, rfl⟩
  | x :: xs, h => by
    obtain ⟨s, e1, e2⟩ := mkSO_e (h x List.mem_cons_self)
    obtain ⟨ss, e3, e4⟩ := allS_e fun y hy => h y (List.mem_cons_of_mem _ hy)
    refine ⟨s :: ss, ?_, by rw [List.map_cons, List.map_cons, e2, e4]⟩
    unfold allS
    rw [e1, bindO_s, e3]
    rfl
theorem sgnS_e (a : SS) : ∃ ss, sgnS a = some ss ∧ ss.map L = (L a).map fun c => [c] := by
  obtain ⟨ss, e1, e2⟩ := allS_e (xs := a.1.cps.toList.map fun c => (⟨#[c]⟩ : Str)) (fun x hx c hc => by
    obtain ⟨d, hd, rfl⟩ := List.mem_map.mp hx
    have : c = d := by simpa [TL.tl] using hc
    rw [this]
    exact ss_ok a d hd)
  refine ⟨ss, e1, ?_⟩
  rw [e2, List.map_map]
  rfl
theorem inS_e {a z : SS} {c : Nat} (h : L a = [c]) : inS a z = some (decide (c ∈ L z)) := by
  unfold inS
  have : a.1.cps.toList = [c] := h
  rw [this]
theorem all_in (a z : SS) (hl : (L a).length ≤ 1000000) : ∃ ss, sgnS a = some ss ∧ bindO (lcM ss (fun _ => some true) (fun y => bindO (inS y z) fun v => some v)) big = some (ss.map fun y => (L y).all fun c => decide (c ∈ L z)) ∧ (ss.map fun y => (L y).all fun c => decide (c ∈ L z)).all id = (L a).all fun c => decide (c ∈ L z) := by
  obtain ⟨ss, e1, e2⟩ := sgnS_e a
  have hone : ∀ y ∈ ss, ∃ c, L y = [c] := fun y hy => by
    have : L y ∈ ss.map L := List.mem_map.mpr ⟨y, hy, rfl⟩
    rw [e2] at this
    obtain ⟨c, _, hc⟩ := List.mem_map.mp this
    exact ⟨c, hc.symm⟩
  have hlen : ss.length = (L a).length := by
    have := congrArg List.length e2
    rwa [List.length_map, List.length_map] at this
  refine ⟨ss, e1, ?_, ?_⟩
  · rw [lcM_map (fun y => (L y).all fun c => decide (c ∈ L z)) (fun y hy => by
      obtain ⟨c, hc⟩ := hone y hy
      rw [inS_e hc, bindO_s, hc]
      simp), bindO_s, big_e (by rw [List.length_map, hlen]; exact hl)]
  · have e3 : (ss.map fun y => (L y).all fun c => decide (c ∈ L z)) = (ss.map L).map fun l => l.all fun c => decide (c ∈ L z) := by rw [List.map_map]; rfl
    rw [e3, e2, List.map_map, List.all_map]
    congr 1
    funext c
    simp
abbrev nameB (l : List Nat) : Bool := (decide (1 ≤ l.length) && decide (l.length ≤ 8)) && l.all fun c => decide (97 ≤ c ∧ c ≤ 122)
theorem letters : L (mkS "abcdefghijklmnopqrstuvwxyz" (by decide +kernel)) = [97, 98, 99, 100, 101, 102, 103, 104, 105, 106, 107, 108, 109, 110, 111, 112, 113, 114, 115, 116, 117, 118, 119, 120, 121, 122] := by decide +kernel
theorem figures : L (mkS "0123456789" (by decide +kernel)) = [48, 49, 50, 51, 52, 53, 54, 55, 56, 57] := by decide +kernel
theorem letter_iff (c : Nat) : c ∈ L (mkS "abcdefghijklmnopqrstuvwxyz" (by decide +kernel)) ↔ 97 ≤ c ∧ c ≤ 122 := by
  rw [letters]
  simp
  omega
theorem figure_iff (c : Nat) : c ∈ L (mkS "0123456789" (by decide +kernel)) ↔ 48 ≤ c ∧ c ≤ 57 := by
  rw [figures]
  simp
  omega
theorem is_name_e {s : SS} (hl : (L s).length ≤ 1000000) : p_is_name s = some (nameB (L s)) := by
  unfold p_is_name
  rw [lenS_e hl, bindO_s]
  have e0 : (decide ((1 : Int) ≤ ((L s).length : Int)) && decide (((L s).length : Int) ≤ 8)) = (decide (1 ≤ (L s).length) && decide ((L s).length ≤ 8)) := by
    congr 1
    · rw [decide_eq_decide]; omega
    · rw [decide_eq_decide]; omega
  rw [e0]
  unfold nameB
  cases h : (decide (1 ≤ (L s).length) && decide ((L s).length ≤ 8)) with
  | false => rfl
  | true =>
    obtain ⟨ss, e1, e2, e3⟩ := all_in s (mkS "abcdefghijklmnopqrstuvwxyz" (by decide +kernel)) hl
    rw [if_pos rfl, e1, bindO_s, e2, bindO_s, bindO_s, e3, Bool.true_and]
    congr 1
    congr 1
    funext c
    rw [decide_eq_decide]
    exact letter_iff c
def numZ (w : Int) : List Nat := if w < 0 then 45 :: TL.numL (-w).toNat else TL.numL w.toNat
theorem str_nat (n : Nat) : TL.tl (Str.ofString (toString (n : Int))) = TL.numL n := TL.tl_num n
theorem toString_neg (n : Nat) : toString (-((n + 1 : Nat) : Int)) = "-" ++ toString (n + 1) := by
  show Int.repr (Int.negSucc n) = _
  rfl
theorem str_z (w : Int) : TL.tl (Str.ofString (toString w)) = numZ w := by
  unfold numZ
  by_cases h : w < 0
  · rw [if_pos h]
    obtain ⟨n, rfl⟩ : ∃ n : Nat, w = -((n + 1 : Nat) : Int) := ⟨(-w).toNat - 1, by omega⟩
    have e : (- -((n + 1 : Nat) : Int)).toNat = n + 1 := by omega
    rw [e, toString_neg, TL.tl_ofString, String.toList_append, List.map_append]
    have e2 : (toString (n + 1)).toList.map Char.toNat = TL.numL (n + 1) := by
      have := str_nat (n + 1)
      rw [TL.tl_ofString] at this
      exact this
    rw [e2]
    rfl
  · rw [if_neg h]
    obtain ⟨n, rfl⟩ : ∃ n : Nat, w = n := ⟨w.toNat, by omega⟩
    rw [Int.toNat_natCast]
    exact str_nat n
theorem numL_ok {n : Nat} : ∀ c ∈ TL.numL n, 48 ≤ c ∧ c ≤ 57 := TL.numL_digits n
theorem numL_head : ∀ n : Nat, 0 < n → (TL.numL n).getD 0 0 ≠ 48 := by
  intro n
  induction n using Nat.strongRecOn with
  | _ n ih =>
    intro h
    by_cases q : n < 10
    · rw [TL.numL_lt q]
      show 48 + n ≠ 48
      omega
    · rw [TL.numL_step (by omega)]
      have hne := TL.numL_ne (n / 10)
      have := ih (n / 10) (by omega) (by omega)
      cases e : TL.numL (n / 10) with
      | nil => exact absurd e hne
      | cons c r => rw [e] at this; exact this
theorem strI_e {w : Int} (h : w.natAbs < 10 ^ 60) : ∃ z, strI w = some z ∧ L z = numZ w := by
  unfold strI
  rw [if_pos (by
    by_cases h0 : w.natAbs = 0
    · rw [h0]; decide
    · exact Nat.lt_trans ((Nat.log2_lt h0).mpr (Nat.lt_trans h (by decide : 10 ^ 60 < 2 ^ 200))) (by decide))]
  have := str_z w
  obtain ⟨z, e1, e2⟩ := mkSO_e (x := Str.ofString (toString w)) (by
    rw [this]
    intro c hc
    unfold numZ at hc
    split at hc
    · rcases List.mem_cons.mp hc with hc | hc
      · omega
      · have := numL_ok c hc; omega
    · have := numL_ok c hc; omega)
  exact ⟨z, e1, by rw [e2, this]⟩
theorem numL_len60 {n : Nat} (h : n < 10 ^ 60) : (TL.numL n).length ≤ 60 := TL.numL_len (by decide) h
theorem numZ_len {w : Int} (h : w.natAbs < 10 ^ 60) : (numZ w).length ≤ 61 := by
  unfold numZ
  split
  · rw [List.length_cons]
    have := numL_len60 (n := (-w).toNat) (by omega)
    omega
  · have := numL_len60 (n := w.toNat) (by omega)
    omega
theorem starts_e {a b : SS} (hb : L b ≠ []) : startsS a b = TL.pre (L b) (L a) := by
  unfold startsS Txt.startswith
  by_cases h : b.1.length ≤ a.1.length
  · have h0 : (decide (0 + b.1.length ≤ a.1.length)) = true := by rw [Nat.zero_add]; exact decide_eq_true h
    have := TL.at_iff (x := a.1) (y := b.1) hb 0
    rw [List.drop_zero] at this
    cases hp : TL.pre (L b) (L a) with
    | true =>
      obtain ⟨_, h2⟩ := this.mpr hp
      rw [h0, h2]; rfl
    | false =>
      cases hs : Builtin.Str.subAt a.1 b.1 0 with
      | false => rw [h0]; rfl
      | true => have := this.mp ⟨by omega, hs⟩; rw [hp] at this; cases this
  · have h0 : (decide (0 + b.1.length ≤ a.1.length)) = false := by rw [Nat.zero_add]; exact decide_eq_false h
    rw [h0, Bool.false_and]
    cases hp : TL.pre (L b) (L a) with
    | false => rfl
    | true =>
      have e : (L a).take (L b).length = L b := eq_of_beq hp
      have e1 := congrArg List.length e
      rw [List.length_take] at e1
      rw [len_L, len_L] at h
      omega
end Pr
set_option Elab.async false
set_option linter.all false
set_option maxRecDepth 100000
namespace Pr
open PySem PySem.Spec L2 Ev Tg
theorem cutSO_e {a : SS} (lo hi : Option Int) (hl : (L a).length ≤ 1000000) : ∃ z, cutSO a lo hi = some z ∧ L z = cutL (L a) lo hi := by
  unfold cutSO
  rw [if_pos (by rw [len_L]; exact hl)]
  have e : TL.tl (cutS a.1 lo hi) = cutL (L a) lo hi := by
    show (a.1.cps.toList.drop (HT.sIx a.1.length 0 lo)).take (HT.sIx a.1.length a.1.length hi - HT.sIx a.1.length 0 lo) = cutL (L a) lo hi
    rw [len_L]
    rfl
  obtain ⟨z, e1, e2⟩ := mkSO_e (x := cutS a.1 lo hi) (by
    rw [e]
    intro c hc
    unfold cutL at hc
    exact ss_ok a c (List.mem_of_mem_drop (List.mem_of_mem_take hc)))
  exact ⟨z, e1, by rw [e2, e]⟩
theorem dash : L (mkS "-" (by decide +kernel)) = [45] := by decide +kernel
theorem blank : L (mkS " " (by decide +kernel)) = [32] := by decide +kernel
theorem nought : L (mkS "0" (by decide +kernel)) = [48] := by decide +kernel
theorem empty_t : L (mkS "" (by decide +kernel)) = [] := by decide +kernel
theorem comma : L (mkS ", " (by decide +kernel)) = [44, 32] := by decide +kernel
theorem pre1 (c d : Nat) (r : List Nat) : TL.pre [c] (d :: r) = decide (d = c) := by
  show ((d :: r).take 1 == [c]) = _
  rw [List.take_succ_cons, List.take_zero]
  by_cases h : d = c
  · rw [h]; simp
  · rw [decide_eq_false h]
    simp [h]
theorem fig_true {f : SS} {n : Nat} (hf : L f = TL.numL n) : ((L f).all fun c => decide (c ∈ L (mkS "0123456789" (by decide +kernel)))) = true := by
  rw [List.all_eq_true]
  intro c hc
  rw [hf] at hc
  exact decide_eq_true ((figure_iff c).mpr (numL_ok c hc))
theorem is_number_e {s : SS} {w : Int} (hw : w.natAbs < 10 ^ 60) (hs : L s = numZ w) : p_is_number s = some true := by
  have hlen := numZ_len hw
  unfold p_is_number
  simp -implicitDefEqProofs only [letB_eq]
  obtain ⟨f, n, e1, hf, hn, hz⟩ : ∃ f n, (if (startsS s (mkS "-" (by decide +kernel))) = true then bindO (cutSO s (some (1 : Int)) none) fun v1 => some v1 else some s) = some f ∧ L f = TL.numL n ∧ n < 10 ^ 60 ∧ (n = 0 → s = mkS "0" (by decide +kernel)) := by
    rw [starts_e (by rw [dash]; exact fun z => nomatch z), dash, hs]
    unfold numZ
    by_cases h : w < 0
    · rw [if_pos h, pre1, if_pos (by simp)]
      obtain ⟨z, e2, e3⟩ := cutSO_e (a := s) (some 1) none (by rw [hs]; omega)
      rw [cut_1, hs] at e3
      unfold numZ at e3
      rw [if_pos h] at e3
      exact ⟨z, (-w).toNat, by rw [e2, bindO_s], e3, by omega, fun q => by omega⟩
    · rw [if_neg h]
      have hne := TL.numL_ne w.toNat
      cases e : TL.numL w.toNat with
      | nil => exact absurd e hne
      | cons c r =>
        have := numL_ok (n := w.toNat) c (by rw [e]; exact List.mem_cons_self)
        rw [pre1, if_neg (by simp; omega)]
        refine ⟨s, w.toNat, rfl, ?_, by omega, fun q => ss_ext ?_⟩
        · rw [hs]; unfold numZ; rw [if_neg h]
        · rw [hs, nought]; unfold numZ; rw [if_neg h, q]; rfl
  rw [e1, bindO_s]
  have hl60 := numL_len60 hn
  have hne := TL.numL_ne n
  have hpos : 0 < (L f).length := by
    rw [hf]
    exact List.length_pos_iff.mpr hne
  have c1 : decide (f = mkS "" (by decide +kernel)) = false := by
    rw [decide_eq_false_iff_not]
    intro q
    rw [q, empty_t] at hpos
    cases hpos
  rw [c1, if_neg Bool.false_ne_true, lenS_e (by rw [hf]; omega), bindO_s]
  have c2 : decide (((L f).length : Int) > 60) = false := by rw [decide_eq_false_iff_not, hf]; omega
  obtain ⟨ss, q1, q2, q3⟩ := all_in f (mkS "0123456789" (by decide +kernel)) (by rw [hf]; omega)
  rw [c2, if_neg Bool.false_ne_true, q1, bindO_s, q2, bindO_s, bindO_s, bindO_s, q3, fig_true hf]
  rw [if_neg (by decide)]
  obtain ⟨z, r1, r2⟩ := ixS_e (a := f) (i := 0) (by rw [hf]; omega) hpos
  have r1 : ixS f (0 : Int) = some z := r1
  rw [r1, bindO_s]
  congr 1
  by_cases h0 : n = 0
  · rw [hz h0]
    simp
  · have : (!decide (z = mkS "0" (by decide +kernel))) = true := by
      rw [Bool.not_eq_true', decide_eq_false_iff_not]
      intro q
      rw [q, nought] at r2
      have h48 := numL_head n (by omega)
      apply h48
      have e9 : (L f)[0]? = some 48 := by
        rw [List.getElem?_eq_getElem hpos]
        injection r2 with r2 _
        rw [← r2]
      rw [hf] at e9
      rw [List.getD_eq_getElem?_getD, e9]
      rfl
    rw [this]
    rfl
theorem intS_e {s : SS} {w : Int} (hw : w.natAbs < 10 ^ 60) (hs : L s = numZ w) : intS s = some w := by
  have hlen := numZ_len hw
  unfold intS
  rw [if_pos (by rw [len_L, hs]; omega)]
  unfold numZ at hs
  by_cases h : w < 0
  · rw [if_pos h] at hs
    rw [PySem.intText_neg (x := s.1) hs (TL.numL_digits _) (TL.numL_ne _) (by rw [len_L, hs, List.length_cons]; have := numL_len60 (n := (-w).toNat) (by omega); omega), TL.numL_val]
    congr 1
    omega
  · rw [if_neg h] at hs
    rw [PySem.intText_digits (x := s.1) (by rw [show s.1.cps.toList = _ from hs]; exact TL.numL_digits _) (by rw [show s.1.cps.toList = _ from hs]; exact TL.numL_ne _) (by rw [len_L, hs]; have := numL_len60 (n := w.toNat) (by omega); omega)]
    rw [show s.1.cps.toList = _ from hs, TL.numL_val]
    congr 1
    omega
theorem partS_e {t y : SS} {c : Nat} {p r : List Nat} (hy : L y = [c]) (ht : L t = p ++ c :: r) (hc : c ∉ p) (hl : (L t).length ≤ 1000000) : ∃ a b, partS t y = some (a, y, b) ∧ L a = p ∧ L b = r := by
  unfold partS
  rw [if_pos ⟨by rw [len_L, hy]; simp, by rw [len_L]; exact hl⟩]
  have e := TL.partition_par t.1 y.1 (by rw [show TL.tl y.1 = [c] from hy]; exact fun z => nomatch z)
  have e2 : TL.par (TL.tl y.1) [] (TL.tl t.1) = some (p, r) := by
    rw [show TL.tl y.1 = [c] from hy, show TL.tl t.1 = p ++ c :: r from ht]
    have := TL.par_part1 (s := c) (S := []) (p := p) (rest := r) (acc := []) hc
    simpa using this
  rw [e2] at e
  dsimp only at e
  rw [e]
  have hok := ss_ok t
  rw [ht] at hok
  obtain ⟨a, a1, a2⟩ := mkSO_e (x := ⟨p.toArray⟩) (fun d hd => hok d (List.mem_append_left _ (by simpa [TL.tl] using hd)))
  obtain ⟨b, b1, b2⟩ := mkSO_e (x := ⟨r.toArray⟩) (fun d hd => hok d (List.mem_append_right _ (List.mem_cons_of_mem _ (by simpa [TL.tl] using hd))))
  have hyy : mkSO y.1 = some y := by unfold mkSO; rw [dif_pos y.2]
  refine ⟨a, b, ?_, by rw [a2], by rw [b2]⟩
  show bindO (mkSO ⟨p.toArray⟩) _ = _
  rw [a1, bindO_s]
  show bindO (mkSO y.1) _ = _
  rw [hyy, bindO_s]
  show bindO (mkSO ⟨r.toArray⟩) _ = _
  rw [b1, bindO_s]
def ins (ns : List SS) (x : SS) : List SS := if x ∈ ns then ns else ns ++ [x]
theorem mem_ins {ns : List SS} {x y : SS} : y ∈ ins ns x ↔ y ∈ ns ∨ y = x := by
  unfold ins
  split
  · exact ⟨.inl, fun h => h.elim id fun e => by rw [e]; assumption⟩
  · rw [List.mem_append, List.mem_singleton]
theorem ins_nd {ns : List SS} {x : SS} (h : ns.Nodup) : (ins ns x).Nodup := by
  unfold ins
  split
  · exact h
  · rename_i hx
    rw [List.nodup_append]
    exact ⟨h, by simp, fun a ha b hb e => hx (by rw [List.mem_singleton.mp hb] at e; rw [← e]; exact ha)⟩
theorem ins_len {ns : List SS} {x : SS} : ns.length ≤ (ins ns x).length ∧ (ins ns x).length ≤ ns.length + 1 := by
  unfold ins
  split
  · omega
  · rw [List.length_append, List.length_singleton]; omega
theorem ins_at {ns : List SS} {x y : SS} {k : Nat} (h : ns[k]? = some y) : (ins ns x)[k]? = some y := by
  unfold ins
  split
  · exact h
  · rw [List.getElem?_append_left (List.getElem?_eq_some_iff.mp h).1]
    exact h
theorem idx_ex {ns : List SS} {x : SS} (h : x ∈ ns) : ∃ k : Nat, idxO ns x = some (k : Int) ∧ ns[k]? = some x := by
  unfold idxO
  cases e : ns.findIdx? fun z => decide (z = x) with
  | none =>
    have := List.findIdx?_eq_none_iff.mp e x h
    simp at this
  | some k =>
    obtain ⟨h1, h2, _⟩ := List.findIdx?_eq_some_iff_getElem.mp e
    refine ⟨k, rfl, ?_⟩
    rw [List.getElem?_eq_getElem h1, of_decide_eq_true h2]
theorem nd_at {ns : List SS} (nd : ns.Nodup) {i j : Nat} {x : SS} (h1 : ns[i]? = some x) (h2 : ns[j]? = some x) : i = j := by
  obtain ⟨a1, b1⟩ := List.getElem?_eq_some_iff.mp h1
  obtain ⟨a2, b2⟩ := List.getElem?_eq_some_iff.mp h2
  rw [List.nodup_iff_pairwise_ne, List.pairwise_iff_getElem] at nd
  rcases Nat.lt_trichotomy i j with h | h | h
  · exact absurd (b1.trans b2.symm) (nd i j a1 a2 h)
  · exact h
  · exact absurd (b2.trans b1.symm) (nd j i a2 a1 h)
theorem place_e {ns : List SS} {x : SS} (hl : ns.length ≤ 1000) : ∃ k : Nat, p_place_of ns x = some (ins ns x, (k : Int)) ∧ (ins ns x)[k]? = some x := by
  obtain ⟨k, e1, e2⟩ := idx_ex (ns := ins ns x) (x := x) (mem_ins.mpr (.inr rfl))
  refine ⟨k, ?_, e2⟩
  unfold p_place_of
  unfold ins at e1 ⊢
  by_cases h : x ∈ ns
  · rw [if_pos h] at e1 ⊢
    rw [if_neg (by simp [h]), bindO_s, e1, bindO_s]
  · rw [if_neg h] at e1 ⊢
    rw [if_pos (by simp [h]), appO_e (by omega), bindO_s, bindO_s, e1, bindO_s]
end Pr
set_option Elab.async false
set_option linter.all false
set_option maxRecDepth 100000
namespace Pr
open PySem PySem.Spec L2 Ev Tg
inductive Th where
  | nm (s : SS)
  | tie (a b : SS) (w : Int)
def Th.sg : Th → List Nat
  | .nm s => L s
  | .tie a b w => L a ++ 45 :: (L b ++ 32 :: numZ w)
def NmOk (s : SS) : Prop := nameB (L s) = true
theorem NmOk.all {s : SS} (h : NmOk s) : (1 ≤ (L s).length ∧ (L s).length ≤ 8) ∧ ∀ c ∈ L s, 97 ≤ c ∧ c ≤ 122 := by
  unfold NmOk nameB at h
  rw [Bool.and_eq_true, Bool.and_eq_true, decide_eq_true_eq, decide_eq_true_eq, List.all_eq_true] at h
  exact ⟨h.1, fun c hc => of_decide_eq_true (h.2 c hc)⟩
theorem NmOk.of {s : SS} (h1 : 1 ≤ (L s).length ∧ (L s).length ≤ 8) (h2 : ∀ c ∈ L s, 97 ≤ c ∧ c ≤ 122) : NmOk s := by
  unfold NmOk nameB
  rw [Bool.and_eq_true, Bool.and_eq_true, decide_eq_true_eq, decide_eq_true_eq, List.all_eq_true]
  exact ⟨h1, fun c hc => decide_eq_true (h2 c hc)⟩
theorem NmOk.no {s : SS} (h : NmOk s) {c : Nat} (hc : c < 97) : c ∉ L s := fun m => by have := h.all.2 c m; omega
def wOk (w : Int) : Prop := w.natAbs < 10 ^ 60
inductive Step : List SS → List Tie → Th → List SS → List Tie → Prop
  | nm {ns : List SS} {rows : List Tie} {s : SS} : s ∉ ns → NmOk s → Step ns rows (.nm s) (ns ++ [s]) rows
  | tie {ns : List SS} {rows : List Tie} {a b : SS} {w : Int} {ka kb : Nat} : NmOk a → NmOk b → a ≠ b → wOk w → (ins (ins ns a) b)[ka]? = some a → (ins (ins ns a) b)[kb]? = some b → (∀ t ∈ rows, isT ka kb t = false) →
      Step ns rows (.tie a b w) (ins (ins ns a) b) (rows ++ [((ka : Int), (kb : Int), w)])
inductive Runs : List SS → List Tie → List Th → List SS → List Tie → Prop
  | nil {ns : List SS} {rows : List Tie} : Runs ns rows [] ns rows
  | cons {ns n1 n2 : List SS} {rows r1 r2 : List Tie} {t : Th} {ts : List Th} : Step ns rows t n1 r1 → Runs n1 r1 ts n2 r2 → Runs ns rows (t :: ts) n2 r2
theorem Runs.snoc {ns n1 n2 : List SS} {rows r1 r2 : List Tie} {ts : List Th} {t : Th} (h : Runs ns rows ts n1 r1) (s : Step n1 r1 t n2 r2) : Runs ns rows (ts ++ [t]) n2 r2 := by
  induction h with
  | nil => exact .cons s .nil
  | cons a _ ih => exact .cons a (ih s)
theorem Runs.app {ns n1 n2 : List SS} {rows r1 r2 : List Tie} {ts us : List Th} (h : Runs ns rows ts n1 r1) (k : Runs n1 r1 us n2 r2) : Runs ns rows (ts ++ us) n2 r2 := by
  induction h with
  | nil => exact k
  | cons a _ ih => exact .cons a (ih k)
structure RB (ns : List SS) (rows : List Tie) : Prop where
  nd : ns.Nodup
  ok : ∀ s ∈ ns, NmOk s
  g : Good ns.length rows
  wb : ∀ t ∈ rows, wOk t.2.2
structure RI (ns : List SS) (rows : List Tie) (seen : List ((Int × Int) × Bool)) : Prop extends RB ns rows where
  sn : ∀ a b, ahas seen (a, b) = true ↔ ∃ t ∈ rows, isT a b t = true
  sl : seen.length ≤ 2 * rows.length
theorem Good.up {n m : Nat} {ts : List Tie} (g : Good n ts) (h : n ≤ m) : Good m ts := ⟨fun t ht => by
  have := g.one t ht
  exact ⟨this.ne, this.a0, this.b0, by have := this.an; omega, by have := this.bn; omega⟩, g.two⟩
theorem good_snoc {n : Nat} {ts : List Tie} {u : Tie} (g : Good n ts) (h : Good1 n u) (k : ∀ t ∈ ts, isT u.1 u.2.1 t = false) : Good n (ts ++ [u]) := ⟨fun t ht => by
  rcases List.mem_append.mp ht with ht | ht
  · exact g.one t ht
  · rw [List.mem_singleton.mp ht]; exact h, by
  rw [List.pairwise_append]
  refine ⟨g.two, by simp, fun t ht v hv => ?_⟩
  rw [List.mem_singleton.mp hv]
  have := k t ht
  rw [isT_no] at this ⊢
  omega⟩
theorem Step.rb {ns n1 : List SS} {rows r1 : List Tie} {t : Th} (s : Step ns rows t n1 r1) (I : RB ns rows) : RB n1 r1 := by
  cases s with
  | nm h1 h2 =>
    refine ⟨?_, fun x hx => ?_, I.g.up (by simp), I.wb⟩
    · rw [List.nodup_append]
      exact ⟨I.nd, by simp, fun a ha b hb e => h1 (by rw [List.mem_singleton.mp hb] at e; rw [← e]; exact ha)⟩
    · rcases List.mem_append.mp hx with hx | hx
      · exact I.ok x hx
      · rw [List.mem_singleton.mp hx]; exact h2
  | @tie a b w ka kb ha hb hab hw ea eb hno =>
    have l1 := (ins_len (ns := ns) (x := a)).1
    have l2 := (ins_len (ns := ins ns a) (x := b)).1
    have la := (List.getElem?_eq_some_iff.mp ea).1
    have lb := (List.getElem?_eq_some_iff.mp eb).1
    refine ⟨ins_nd (ins_nd I.nd), fun x hx => ?_, good_snoc (I.g.up (by omega)) ⟨?_, by dsimp only; omega, by dsimp only; omega, by dsimp only; omega, by dsimp only; omega⟩ hno, fun t ht => ?_⟩
    · rcases mem_ins.mp hx with hx | hx
      · rcases mem_ins.mp hx with hx | hx
        · exact I.ok x hx
        · rw [hx]; exact ha
      · rw [hx]; exact hb
    · intro e
      have e : ka = kb := by dsimp only at e; omega
      subst e
      rw [ea] at eb
      exact hab (Option.some.inj eb)
    · rcases List.mem_append.mp ht with ht | ht
      · exact I.wb t ht
      · rw [List.mem_singleton.mp ht]; exact hw
theorem Runs.rb {ns n1 : List SS} {rows r1 : List Tie} {ts : List Th} (s : Runs ns rows ts n1 r1) (I : RB ns rows) : RB n1 r1 := by
  induction s with
  | nil => exact I
  | cons a _ ih => exact ih (a.rb I)
theorem rb0 : RB [] [] := ⟨.nil, fun _ z => (nomatch z), ⟨fun _ z => (nomatch z), .nil⟩, fun _ z => (nomatch z)⟩
theorem numZ_in {w : Int} {c : Nat} (h : c ∈ numZ w) : c = 45 ∨ 48 ≤ c ∧ c ≤ 57 := by
  unfold numZ at h
  split at h
  · rcases List.mem_cons.mp h with h | h
    · exact .inl h
    · exact .inr (numL_ok c h)
  · exact .inr (numL_ok c h)
theorem sg_len {ns n1 : List SS} {rows r1 : List Tie} {t : Th} (s : Step ns rows t n1 r1) : 1 ≤ t.sg.length ∧ t.sg.length ≤ 79 := by
  cases s with
  | @nm s h1 h2 =>
    have := h2.all.1
    show 1 ≤ (L s).length ∧ (L s).length ≤ 79
    omega
  | tie ha hb hab hw ea eb hno =>
    have h1 := ha.all.1
    have h2 := hb.all.1
    have h3 := numZ_len hw
    unfold Th.sg
    rw [List.length_append, List.length_cons, List.length_append, List.length_cons]
    omega
theorem sg_no {ns n1 : List SS} {rows r1 : List Tie} {t : Th} (s : Step ns rows t n1 r1) : 44 ∉ t.sg := by
  cases s with
  | nm h1 h2 => exact h2.no (by omega)
  | tie ha hb hab hw ea eb hno =>
    unfold Th.sg
    intro h
    rcases List.mem_append.mp h with h | h
    · exact ha.no (by omega) h
    · rcases List.mem_cons.mp h with h | h
      · omega
      · rcases List.mem_append.mp h with h | h
        · exact hb.no (by omega) h
        · rcases List.mem_cons.mp h with h | h
          · omega
          · have := numZ_in h; omega
theorem Step.len {ns n1 : List SS} {rows r1 : List Tie} {t : Th} (s : Step ns rows t n1 r1) : n1.length ≤ ns.length + 2 ∧ r1.length ≤ rows.length + 1 := by
  cases s with
  | nm => simp
  | tie =>
    rename_i a b w ka kb _ _ _ _ _ _ _
    have l1 := (ins_len (ns := ns) (x := a)).2
    have l2 := (ins_len (ns := ins ns a) (x := b)).2
    rw [List.length_append, List.length_singleton]
    omega
theorem step_e {ns n1 : List SS} {rows r1 : List Tie} {seen : List ((Int × Int) × Bool)} {t : Th} {x : SS} (s : Step ns rows t n1 r1) (I : RI ns rows seen) (hx : L x = t.sg) (hl : ns.length ≤ 900 ∧ rows.length ≤ 900) : ∃ seen', p_read_L1 x ns rows seen = some (n1, r1, seen') ∧ RI n1 r1 seen' := by
  have hlen := sg_len s
  have hrb := s.rb I.toRB
  have hnm := is_name_e (s := x) (by rw [hx]; omega)
  cases s with
  | @nm s h1 h2 =>
    have hxs : x = s := ss_ext hx
    subst hxs
    unfold p_read_L1
    rw [hnm, show nameB (L x) = true from h2, bindO_s, if_pos rfl, if_neg (by simp [h1]), appO_e (by omega), bindO_s]
    exact ⟨seen, rfl, hrb, I.sn, I.sl⟩
  | @tie a b w ka kb ha hb hab hw ea eb hno =>
    have hx : L x = L a ++ 45 :: (L b ++ 32 :: numZ w) := hx
    have hnf : nameB (L x) = false := by
      cases q : nameB (L x) with
      | false => rfl
      | true =>
        have := (show NmOk x from q).no (c := 45) (by omega)
        exact absurd (by rw [hx]; simp) this
    have lx : (L x).length ≤ 1000000 := by rw [hx]; exact Nat.le_trans hlen.2 (by decide)
    have hx1 : L x = (L a ++ 45 :: L b) ++ 32 :: numZ w := by rw [hx]; simp
    obtain ⟨p, r, e1, hp, hr⟩ := partS_e (t := x) (y := mkS " " (by decide +kernel)) blank hx1 (by
      intro h
      rcases List.mem_append.mp h with h | h
      · exact ha.no (by omega) h
      · rcases List.mem_cons.mp h with h | h
        · omega
        · exact hb.no (by omega) h) lx
    have lp : (L p).length ≤ 1000000 := by
      rw [hp, List.length_append, List.length_cons]
      have := ha.all.1
      have := hb.all.1
      omega
    obtain ⟨p1, p2, e2, h1, h2⟩ := partS_e (t := p) (y := mkS "-" (by decide +kernel)) dash hp (ha.no (by omega)) lp
    have hpa : p1 = a := ss_ext h1
    have hpb : p2 = b := ss_ext h2
    subst hpa hpb
    obtain ⟨k1, e3, f1⟩ := place_e (ns := ns) (x := p1) (by omega)
    have l1 := ins_len (ns := ns) (x := p1)
    obtain ⟨k2, e4, f2⟩ := place_e (ns := ins ns p1) (x := p2) (by omega)
    have hk1 : k1 = ka := nd_at (ins_nd (ins_nd I.nd)) (ins_at f1) ea
    have hk2 : k2 = kb := nd_at (ins_nd (ins_nd I.nd)) f2 eb
    subst hk1 hk2
    have hns : ahas seen ((k1 : Int), (k2 : Int)) = false := by
      cases q : ahas seen ((k1 : Int), (k2 : Int)) with
      | false => rfl
      | true =>
        obtain ⟨t, ht, hi⟩ := (I.sn _ _).mp q
        rw [hno t ht] at hi
        cases hi
    have sl := I.sl
    have put_len : ∀ (m : List ((Int × Int) × Bool)) k, (aput m k true).length ≤ m.length + 1 := fun m k => by
      unfold aput
      split
      · rw [List.length_map]; omega
      · rw [List.length_append, List.length_singleton]; exact Nat.le_refl _
    have pl := put_len seen ((k1 : Int), (k2 : Int))
    refine ⟨aput (aput seen ((k1 : Int), (k2 : Int)) true) ((k2 : Int), (k1 : Int)) true, ?_, hrb, fun a' b' => ?_, ?_⟩
    · unfold p_read_L1
      rw [hnm, hnf, bindO_s, if_neg Bool.false_ne_true]
      unfold p_tie_of
      simp -implicitDefEqProofs only [letB_eq]
      rw [e1, bindO_s]
      dsimp only
      rw [e2, bindO_s]
      dsimp only
      rw [is_name_e (by have := ha.all.1; omega), show nameB (L p1) = true from ha, bindO_s, if_neg (by decide), is_name_e (by have := hb.all.1; omega), show nameB (L p2) = true from hb, bindO_s, if_neg (by decide), is_number_e hw hr, bindO_s, bindO_s, bindO_s]
      have hd : decide (p1 = p2) = false := decide_eq_false hab
      rw [hd, if_neg (by decide), e3, bindO_s]
      dsimp only
      rw [e4, bindO_s]
      dsimp only
      rw [hns, if_neg Bool.false_ne_true, aputO_e (by omega), bindO_s, aputO_e (by omega), bindO_s, intS_e hw hr, bindO_s, bindO_s]
      dsimp only
      rw [appO_e (by omega), bindO_s]
    · rw [ahas_put, ahas_put, Bool.or_eq_true, Bool.or_eq_true, decide_eq_true_eq, decide_eq_true_eq, I.sn]
      constructor
      · rintro (e | e | ⟨t, ht, hi⟩)
        · cases e
          exact ⟨((k1 : Int), (k2 : Int), w), by simp, isT_iff.mpr (.inr ⟨rfl, rfl⟩)⟩
        · cases e
          exact ⟨((k1 : Int), (k2 : Int), w), by simp, isT_iff.mpr (.inl ⟨rfl, rfl⟩)⟩
        · exact ⟨t, by simp [ht], hi⟩
      · rintro ⟨t, ht, hi⟩
        rcases List.mem_append.mp ht with ht | ht
        · exact .inr (.inr ⟨t, ht, hi⟩)
        · rw [List.mem_singleton.mp ht] at hi
          rcases isT_iff.mp hi with ⟨q1, q2⟩ | ⟨q1, q2⟩
          · exact .inr (.inl (by rw [← q1, ← q2]))
          · exact .inl (by rw [← q1, ← q2])
    · have := put_len (aput seen ((k1 : Int), (k2 : Int)) true) ((k2 : Int), (k1 : Int))
      rw [List.length_append, List.length_singleton]
      omega
theorem runs_e {ts : List Th} : ∀ {ns n1 : List SS} {rows r1 : List Tie} {seen : List ((Int × Int) × Bool)} {xs : List SS}, Runs ns rows ts n1 r1 → RI ns rows seen → xs.map L = ts.map Th.sg → ns.length + 2 * ts.length ≤ 900 → rows.length + ts.length ≤ 900 →
    ∃ seen', forS xs (ns, rows, seen) (fun (x6 : SS) (s6 : (List SS) × (List (Int × Int × Int)) × (List ((Int × Int) × Bool))) => p_read_L1 x6 s6.1 s6.2.1 s6.2.2) = some (n1, r1, seen') ∧ RI n1 r1 seen' := by
  induction ts with
  | nil =>
    intro ns n1 rows r1 seen xs h I hx _ _
    cases h
    cases xs with
    | nil => exact ⟨seen, rfl, I⟩
    | cons => simp at hx
  | cons t ts ih =>
    intro ns n2 rows r2 seen xs h I hx l1 l2
    cases h with
    | cons a r =>
      cases xs with
      | nil => simp at hx
      | cons x xs =>
        rw [List.map_cons, List.map_cons] at hx
        injection hx with hx1 hx2
        rw [List.length_cons] at l1 l2
        obtain ⟨s1, e1, I1⟩ := step_e a I hx1 (by omega)
        have := a.len
        obtain ⟨s2, e2, I2⟩ := ih (xs := xs) r I1 hx2 (by omega) (by omega)
        refine ⟨s2, ?_, I2⟩
        unfold forS
        dsimp only
        rw [e1, bindO_s]
        exact e2
theorem split_e {x y : SS} (hy : L y = [44, 32]) (hl : (L x).length ≤ 1000000) : ∃ ss, splitS x y = some ss ∧ ss.map L = TL.spl [44, 32] 0 [] (L x) := by
  unfold splitS
  rw [if_pos ⟨by rw [len_L, hy]; simp, by rw [len_L]; exact hl⟩]
  have e := TL.split_spl x.1 y.1 (by rw [show TL.tl y.1 = [44, 32] from hy]; exact fun z => nomatch z) (TL.kind_ok (by
    rw [← Array.all_toList, show y.1.cps.toList = [44, 32] from hy]; decide))
  rw [show TL.tl y.1 = [44, 32] from hy] at e
  have hsub : ∀ z ∈ Txt.split x.1 y.1, ∀ c ∈ TL.tl z, c < 0x110000 := by
    have : ∀ (l acc : List Nat) (k : Nat), (∀ c ∈ l, c < 0x110000) → (∀ c ∈ acc, c < 0x110000) → ∀ p ∈ TL.spl [44, 32] k acc l, ∀ c ∈ p, c < 0x110000 := by
      intro l
      induction l with
      | nil =>
        intro acc k _ ha p hp
        rw [TL.spl_nil] at hp
        rw [List.mem_singleton.mp hp]
        exact ha
      | cons d r ih =>
        intro acc k h ha p hp
        have hr : ∀ c ∈ r, c < 0x110000 := fun c hc => h c (List.mem_cons_of_mem _ hc)
        cases k with
        | zero =>
          by_cases q : TL.pre [44, 32] (d :: r) = true
          · rw [TL.spl_hit q] at hp
            rcases List.mem_cons.mp hp with hp | hp
            · rw [hp]; exact ha
            · exact ih [] _ hr (fun _ z => (nomatch z)) p hp
          · rw [TL.spl_miss (by simpa using q)] at hp
            exact ih (acc ++ [d]) 0 hr (fun c hc => by
              rcases List.mem_append.mp hc with hc | hc
              · exact ha c hc
              · rw [List.mem_singleton.mp hc]; exact h d List.mem_cons_self) p hp
        | succ k =>
          have hp : p ∈ TL.spl [44, 32] k acc r := hp
          exact ih acc k hr ha p hp
    intro z hz
    exact this (TL.tl x.1) [] 0 (ss_ok x) (fun _ z => (nomatch z)) (TL.tl z) (by rw [← e]; exact List.mem_map.mpr ⟨z, hz, rfl⟩)
  obtain ⟨ss, e1, e2⟩ := allS_e hsub
  exact ⟨ss, e1, by rw [e2, e]⟩
theorem runs_sg {ts : List Th} {ns n1 : List SS} {rows r1 : List Tie} (h : Runs ns rows ts n1 r1) : ∀ t ∈ ts, (1 ≤ t.sg.length ∧ t.sg.length ≤ 79) ∧ 44 ∉ t.sg := by
  induction h with
  | nil => exact fun _ z => (nomatch z)
  | cons a _ ih =>
    intro t ht
    rcases List.mem_cons.mp ht with e | ht
    · rw [e]; exact ⟨sg_len a, sg_no a⟩
    · exact ih t ht
theorem runs_len {ts : List Th} {ns n1 : List SS} {rows r1 : List Tie} (h : Runs ns rows ts n1 r1) : r1.length ≤ rows.length + ts.length := by
  induction h with
  | nil => simp
  | cons a _ ih => have := a.len; rw [List.length_cons]; omega
theorem read_e {ts : List Th} {ns : List SS} {rows : List Tie} {x : SS} (h : Runs [] [] ts ns rows) (hx : L x = TL.joinL [44, 32] (ts.map Th.sg)) (hl : ts.length ≤ 400) (hn : ns.length ≤ 24) (hxl : (L x).length ≤ 1000000) : p_read x = some (ns, web ns.length rows) := by
  unfold p_read
  simp -implicitDefEqProofs only [letB_eq]
  obtain ⟨ss, e1, e2⟩ := split_e (x := x) comma hxl
  rw [e1, bindO_s]
  obtain ⟨zs, e3, e4⟩ : ∃ zs, (if decide (x = (mkS "" (by decide +kernel))) = true then some ([] : List SS) else some ss) = some zs ∧ zs.map L = ts.map Th.sg := by
    have st := runs_sg h
    cases ts with
    | nil =>
      have : x = mkS "" (by decide +kernel) := ss_ext (by rw [hx, empty_t]; rfl)
      rw [if_pos (decide_eq_true this)]
      exact ⟨[], rfl, rfl⟩
    | cons t ts =>
      have hne : ¬ x = mkS "" (by decide +kernel) := by
        intro e
        rw [e, empty_t] at hx
        have h1 := (st t List.mem_cons_self).1.1
        cases ts with
        | nil =>
          have hx : ([] : List Nat) = t.sg := hx
          rw [← hx] at h1
          exact absurd h1 (by simp)
        | cons u us =>
          have hx : ([] : List Nat) = t.sg ++ _ := hx
          have := congrArg List.length hx
          rw [List.length_append, List.length_nil] at this
          omega
      rw [if_neg (by simpa using hne)]
      refine ⟨ss, rfl, ?_⟩
      rw [e2, hx]
      exact TL.spl_join (by simp) fun p hp => by
        obtain ⟨u, hu, rfl⟩ := List.mem_map.mp hp
        exact (st u hu).2
  rw [e3, bindO_s]
  obtain ⟨seen', e5, I⟩ := runs_e (seen := []) (xs := zs) h ⟨rb0, fun a b => ⟨fun z => (nomatch z), fun ⟨_, z, _⟩ => (nomatch z)⟩, Nat.zero_le _⟩ e4 (by simp; omega) (by simp; omega)
  rw [e5, bindO_s, if_neg (by simp; omega)]
  have hrl := runs_len h
  rw [init_web hn I.g (by simp at hrl; omega), bindO_s]
end Pr
set_option Elab.async false
set_option linter.all false
set_option maxRecDepth 100000
namespace Pr
open PySem PySem.Spec L2 Ev Tg
theorem mem_joinL {S : List Nat} {c : Nat} : ∀ {ps : List (List Nat)}, c ∈ TL.joinL S ps → c ∈ S ∨ ∃ p ∈ ps, c ∈ p
  | [], h => nomatch h
  | [p], h => .inr ⟨p, List.mem_cons_self, h⟩
  | p :: q :: r, h => by
    have h : c ∈ p ++ (S ++ TL.joinL S (q :: r)) := h
    rcases List.mem_append.mp h with h | h
    · exact .inr ⟨p, List.mem_cons_self, h⟩
    · rcases List.mem_append.mp h with h | h
      · exact .inl h
      · rcases mem_joinL h with h | ⟨u, hu, h⟩
        · exact .inl h
        · exact .inr ⟨u, List.mem_cons_of_mem _ hu, h⟩
theorem joinL_len (S : List Nat) : ∀ ps : List (List Nat), (TL.joinL S ps).length ≤ (ps.map List.length).sum + ps.length * S.length
  | [] => Nat.zero_le _
  | [p] => by show p.length ≤ _; simp
  | p :: q :: r => by
    have ih := joinL_len S (q :: r)
    show (p ++ (S ++ TL.joinL S (q :: r))).length ≤ _
    rw [List.length_append, List.length_append, List.map_cons, List.sum_cons, List.length_cons (a := p), Nat.succ_mul]
    omega
theorem joinS_e {a : SS} {ys : List SS} (h : (ys.map fun y => (L y).length).sum + ys.length * (L a).length ≤ 1000000) : ∃ z, joinS a ys = some z ∧ L z = TL.joinL (L a) (ys.map L) := by
  unfold joinS
  have e0 : (ys.map (·.1.length)).sum = (ys.map fun y => (L y).length).sum := by
    congr 1
  rw [if_pos (by rw [e0, len_L]; exact h)]
  have e : TL.tl (Txt.join a.1 (ys.map (·.1))) = TL.joinL (L a) (ys.map L) := by
    rw [TL.join_eq, TL.tl_join, List.map_map]
    rfl
  obtain ⟨z, e1, e2⟩ := mkSO_e (x := Txt.join a.1 (ys.map (·.1))) (by
    rw [e]
    intro c hc
    rcases mem_joinL hc with hc | ⟨p, hp, hc⟩
    · exact ss_ok a c hc
    · obtain ⟨y, _, rfl⟩ := List.mem_map.mp hp
      exact ss_ok y c hc)
  exact ⟨z, e1, by rw [e2, e]⟩
theorem joinL_one : ∀ l : List Nat, TL.joinL [] (l.map fun c => [c]) = l
  | [] => rfl
  | [_] => rfl
  | c :: d :: r => by
    show [c] ++ ([] ++ TL.joinL [] ((d :: r).map fun c => [c])) = _
    rw [joinL_one (d :: r)]
    rfl
theorem rev_e {a : SS} (hl : (L a).length ≤ 1000000) : ∃ ys, revSO a = some ys ∧ ys.map L = (L a).reverse.map fun c => [c] := by
  unfold revSO
  rw [if_pos (by rw [len_L]; exact hl)]
  obtain ⟨ss, e1, e2⟩ := allS_e (xs := RS.revS a.1) (fun x hx c hc => by
    unfold RS.revS at hx
    obtain ⟨d, hd, rfl⟩ := List.mem_map.mp hx
    have : c = d := by simpa [TL.tl] using hc
    rw [this]
    exact ss_ok a d (List.mem_reverse.mp hd))
  refine ⟨ss, e1, ?_⟩
  rw [e2]
  unfold RS.revS
  rw [List.map_map]
  rfl
theorem mixed_e (c : Int) {f : Int} (hf : -(2 ^ 64) < f ∧ f < 2 ^ 64) : ∃ v, p_law_mixed c f = some v ∧ 0 ≤ v ∧ v < 2147483647 := by
  unfold p_law_mixed
  rw [mulR hf, bindO_s]
  exact ⟨_, rfl, Int.emod_nonneg _ (by decide), Int.emod_lt_of_pos _ (by decide)⟩
theorem letter_e (n : Int) : ∃ z c, p_law_letter n = some z ∧ L z = [c] ∧ 97 ≤ c ∧ c ≤ 122 := by
  unfold p_law_letter
  have h1 := Int.emod_nonneg n (b := 26) (by decide)
  have h2 := Int.emod_lt_of_pos n (b := 26) (by decide)
  obtain ⟨k, hk⟩ : ∃ k : Nat, n % 26 = k := ⟨(n % 26).toNat, by omega⟩
  rw [hk]
  have hll : (L (mkS "abcdefghijklmnopqrstuvwxyz" (by decide +kernel))).length = 26 := by rw [letters]; rfl
  obtain ⟨z, e1, e2⟩ := ixS_e (a := mkS "abcdefghijklmnopqrstuvwxyz" (by decide +kernel)) (i := k) (by rw [hll]; decide) (by rw [hll]; omega)
  rw [e1, bindO_s]
  exact ⟨z, _, rfl, e2, (letter_iff _).mp (List.getElem_mem _)⟩
def Ltr (l : List Nat) : Prop := ∀ c ∈ l, 97 ≤ c ∧ c ≤ 122
theorem Ltr.app {l m : List Nat} (h : Ltr l) (k : Ltr m) : Ltr (l ++ m) := fun c hc => (List.mem_append.mp hc).elim (h c) (k c)
theorem word_e (n : Int) : ∃ z, p_law_word n = some z ∧ NmOk z := by
  unfold p_law_word
  simp -implicitDefEqProofs only [letB_eq]
  have h1 := Int.emod_nonneg (n / 4) (b := 8) (by decide)
  have h2 := Int.emod_lt_of_pos (n / 4) (b := 8) (by decide)
  obtain ⟨k, hk⟩ : ∃ k : Nat, (1 : Int) + n / 4 % 8 = k := ⟨((1 : Int) + n / 4 % 8).toNat, by omega⟩
  rw [hk, rng_e (by omega), bindO_s]
  obtain ⟨s, e, hs, hl⟩ := forS_rng (n := k) (s0 := (n, mkS "" (by decide +kernel))) (f := fun (x5 : Int) (s5 : Int × SS) => p_law_word_L1 x5 s5.1 s5.2) (fun j s => (L s.2).length = j ∧ Ltr (L s.2)) ⟨by rw [empty_t]; rfl, by rw [empty_t]; exact fun _ z => nomatch z⟩ fun j s hj ⟨p1, p2⟩ => by
    unfold p_law_word_L1
    obtain ⟨v, e1, _, _⟩ := mixed_e (s.1 + j) (f := 1103515245) (by decide)
    rw [e1, bindO_s]
    simp -implicitDefEqProofs only [letB_eq]
    obtain ⟨z, c, e2, e3, e4⟩ := letter_e (v / 64)
    rw [e2, bindO_s]
    obtain ⟨y, e5, e6⟩ := catS_e (a := s.2) (b := z) (by rw [e3, p1]; simp; omega)
    rw [e5, bindO_s]
    refine ⟨_, rfl, ?_, ?_⟩
    · dsimp only
      rw [e6, e3, List.length_append, p1]
      rfl
    · dsimp only
      rw [e6, e3]
      exact p2.app fun d hd => by rw [List.mem_singleton.mp hd]; exact e4
  rw [e, bindO_s]
  exact ⟨_, rfl, NmOk.of (by rw [hs]; omega) hl⟩
theorem other_e {w : SS} (h : NmOk w) (n : Int) : ∃ z, p_law_other_word w n = some z ∧ NmOk z := by
  obtain ⟨hl, hc⟩ := h.all
  have hc : Ltr (L w) := hc
  unfold p_law_other_word
  simp -implicitDefEqProofs only [letB_eq]
  rw [lenS_e (by omega), bindO_s, modP (by omega), bindO_s]
  have h1 := Int.emod_nonneg (n / 8) (b := ((L w).length : Int)) (by omega)
  have h2 := Int.emod_lt_of_pos (n / 8) (b := ((L w).length : Int)) (by omega)
  obtain ⟨k, hk⟩ : ∃ k : Nat, n / 8 % ((L w).length : Int) = k := ⟨(n / 8 % ((L w).length : Int)).toNat, by omega⟩
  rw [hk]
  have e0 : (if decide (n % 4 = 0) = true then bindO (some ((L w).length : Int)) fun v3 => some (decide (v3 < 8)) else some false) = some (decide (n % 4 = 0) && decide (((L w).length : Int) < 8)) := by
    cases decide (n % 4 = 0) <;> rfl
  rw [e0, bindO_s]
  obtain ⟨z, c, q1, q2, q3⟩ := letter_e (n / 64)
  have hz : Ltr (L z) := fun d hd => by rw [q2] at hd; rw [List.mem_singleton.mp hd]; exact q3
  have lz : (L z).length = 1 := by rw [q2]; rfl
  by_cases c0 : (decide (n % 4 = 0) && decide (((L w).length : Int) < 8)) = true
  · rw [if_pos c0, q1, bindO_s]
    rw [Bool.and_eq_true, decide_eq_true_eq, decide_eq_true_eq] at c0
    obtain ⟨y, e1, e2⟩ := catS_e (a := w) (b := z) (by omega)
    rw [e1, bindO_s]
    exact ⟨_, rfl, NmOk.of (by rw [e2, List.length_append]; omega) (by rw [e2]; exact hc.app hz)⟩
  · rw [if_neg c0]
    by_cases c1 : decide (n % 4 = 1) = true
    · rw [if_pos c1]
      obtain ⟨y1, e1, e2⟩ := cutSO_e (a := w) none (some (k : Int)) (by omega)
      rw [cut_to] at e2
      rw [e1, bindO_s, q1, bindO_s]
      obtain ⟨y2, e3, e4⟩ := catS_e (a := y1) (b := z) (by rw [e2, List.length_take]; omega)
      rw [e3, bindO_s, show ((k : Int) + 1) = ((k + 1 : Nat) : Int) from by omega]
      obtain ⟨y3, e5, e6⟩ := cutSO_e (a := w) (some ((k + 1 : Nat) : Int)) none (by omega)
      rw [cut_from] at e6
      rw [e5, bindO_s]
      obtain ⟨y4, e7, e8⟩ := catS_e (a := y2) (b := y3) (by rw [e4, e2, e6, List.length_append, List.length_take, List.length_drop]; omega)
      rw [e7, bindO_s]
      refine ⟨_, rfl, NmOk.of (by rw [e8, e4, e2, e6, List.length_append, List.length_append, List.length_take, List.length_drop]; omega) ?_⟩
      rw [e8, e4, e2, e6]
      exact (Ltr.app (fun d hd => hc d (List.mem_of_mem_take hd)) hz).app fun d hd => hc d (List.mem_of_mem_drop hd)
    · rw [if_neg c1]
      by_cases c2 : decide (n % 4 = 2) = true
      · rw [if_pos c2]
        obtain ⟨ys, e1, e2⟩ := rev_e (a := w) (by omega)
        rw [e1, bindO_s]
        have hlen : ys.length = (L w).length := by
          have := congrArg List.length e2
          rwa [List.length_map, List.length_map, List.length_reverse] at this
        obtain ⟨y, e3, e4⟩ := joinS_e (a := mkS "" (by decide +kernel)) (ys := ys) (by
          rw [empty_t]
          have : (ys.map fun y => (L y).length) = (L w).reverse.map fun _ => 1 := by
            have := congrArg (List.map List.length) e2
            rw [List.map_map, List.map_map] at this
            exact this
          rw [this]
          have hs : ∀ l : List Nat, (l.map fun _ => 1).sum = l.length := fun l => by induction l with | nil => rfl | cons _ _ ih => rw [List.map_cons, List.sum_cons, ih, List.length_cons]; omega
          rw [hs, List.length_reverse, List.length_nil, Nat.mul_zero]
          omega)
        rw [e3, bindO_s]
        rw [empty_t, e2, joinL_one] at e4
        exact ⟨_, rfl, NmOk.of (by rw [e4, List.length_reverse]; exact hl) (by rw [e4]; exact fun d hd => hc d (List.mem_reverse.mp hd))⟩
      · rw [if_neg c2]
        obtain ⟨y, e1, e2⟩ := word_e (n / 4)
        rw [e1, bindO_s]
        exact ⟨_, rfl, e2⟩
theorem names_e (c : Int) {m : Nat} (hm : 2 ≤ m ∧ m ≤ 24) : ∃ pool, p_law_names c (m : Int) = some pool ∧ (1 ≤ pool.length ∧ pool.length ≤ 24) ∧ ∀ s ∈ pool, NmOk s := by
  unfold p_law_names
  obtain ⟨v, e1, _, _⟩ := mixed_e c (f := 1664525013) (by decide)
  rw [e1, bindO_s]
  simp -implicitDefEqProofs only [letB_eq]
  obtain ⟨z, e2, hz⟩ := word_e v
  rw [e2, bindO_s, show ((4 : Int) * (m : Int)) = ((4 * m : Nat) : Int) from by omega, rng_e (by omega), bindO_s]
  obtain ⟨s, e, hl, hs⟩ := forS_rng (n := 4 * m) (s0 := (v, [z])) (f := fun (x10 : Int) (s10 : Int × (List SS)) => p_law_names_L1 (m : Int) x10 s10.1 s10.2) (fun j s => (1 ≤ s.2.length ∧ s.2.length ≤ m) ∧ ∀ x ∈ s.2, NmOk x) ⟨by simp; omega, fun x hx => by rw [List.mem_singleton.mp hx]; exact hz⟩ fun j s hj ⟨p1, p2⟩ => by
    unfold p_law_names_L1
    rw [mulR (by omega), bindO_s]
    obtain ⟨u, q1, _, _⟩ := mixed_e (s.1 + (j : Int) * (j : Int)) (f := 630360016) (by decide)
    rw [q1, bindO_s]
    simp -implicitDefEqProofs only [letB_eq]
    rw [modP (by omega), bindO_s]
    have h1 := Int.emod_nonneg (u / 16) (b := (s.2.length : Int)) (by omega)
    have h2 := Int.emod_lt_of_pos (u / 16) (b := (s.2.length : Int)) (by omega)
    rw [idx_i h1 h2, bindO_s]
    obtain ⟨y, q2, hy⟩ := other_e (p2 _ (List.getElem_mem (by omega : (u / 16 % (s.2.length : Int)).toNat < s.2.length))) (u / 512)
    rw [q2, bindO_s]
    by_cases cc : ((!(decide (y ∈ s.2))) && decide ((s.2.length : Int) < (m : Int))) = true
    · rw [if_pos cc, appO_e (by omega), bindO_s, bindO_s]
      rw [Bool.and_eq_true, decide_eq_true_eq] at cc
      refine ⟨_, rfl, by dsimp only; rw [List.length_append, List.length_singleton]; omega, fun x hx => ?_⟩
      rcases List.mem_append.mp hx with hx | hx
      · exact p2 x hx
      · rw [List.mem_singleton.mp hx]; exact hy
    · rw [if_neg cc, bindO_s]
      exact ⟨_, rfl, p1, p2⟩
  rw [e, bindO_s]
  exact ⟨_, rfl, by omega, hs⟩
end Pr
set_option Elab.async false
set_option linter.all false
set_option maxRecDepth 100000
namespace Pr
open PySem PySem.Spec L2 Ev Tg
open PyProof.Rows hiding St
abbrev TD := List ((Int × Int) × Int)
theorem keys_put {κ α : Type} [DecidableEq κ] (m : List (κ × α)) (k : κ) (v : α) : (aput m k v).map (·.1) = if ahas m k = true then m.map (·.1) else m.map (·.1) ++ [k] := by
  unfold aput
  split
  · rw [List.map_map]
    refine List.map_congr_left fun p _ => ?_
    simp only [Function.comp]
    split <;> rfl
  · rw [List.map_append]; rfl
structure KOk (n : Nat) (m : TD) : Prop where
  nd : (m.map (·.1)).Nodup
  rg : ∀ k ∈ m.map (·.1), 0 ≤ k.1 ∧ k.1 < k.2 ∧ k.2 < (n : Int)
theorem KOk.put {n : Nat} {m : TD} (h : KOk n m) {k : Int × Int} (hk : 0 ≤ k.1 ∧ k.1 < k.2 ∧ k.2 < (n : Int)) (v : Int) : KOk n (aput m k v) := by
  refine ⟨?_, fun j hj => ?_⟩
  · rw [keys_put]
    split
    · exact h.nd
    · rename_i hh
      rw [ahas_key] at hh
      rw [List.nodup_append]
      exact ⟨h.nd, by simp, fun a ha b hb => by rw [List.mem_singleton.mp hb]; rintro rfl; exact hh ha⟩
  · rw [keys_put] at hj
    split at hj
    · exact h.rg j hj
    · rcases List.mem_append.mp hj with hj | hj
      · exact h.rg j hj
      · rw [List.mem_singleton.mp hj]; exact hk
theorem KOk.len {n : Nat} {m : TD} (h : KOk n m) (hn : n ≤ 24) : m.length ≤ 576 := by
  have h2 : ((m.map (·.1)).map fun k => k.1 * 24 + k.2).Nodup := by
    rw [List.nodup_iff_pairwise_ne, List.pairwise_map]
    refine (List.Pairwise.and_mem.mp h.nd).imp fun {a b} q e => q.2.2 ?_
    obtain ⟨ha, hb, _⟩ := q
    have := h.rg a ha
    have := h.rg b hb
    exact Prod.ext (by omega) (by omega)
  have := nd_le (n := 576) h2 fun x hx => by
    obtain ⟨k, hk, rfl⟩ := List.mem_map.mp hx
    have := h.rg k hk
    omega
  simpa using this
end Pr
set_option Elab.async false
set_option linter.all false
set_option maxRecDepth 100000
namespace Pr
open PySem PySem.Spec L2 Ev Tg
open PyProof.Rows hiding St
abbrev tkey (t : Tie) : Int × Int := (min t.1 t.2.1, max t.1 t.2.1)
structure Lst (n : Nat) (m : TD) (ts : List Tie) : Prop where
  g : Good n ts
  pm : (ts.map fun t => (tkey t, t.2.2)).Perm m
theorem Good.of_keys {n : Nat} {ts : List Tie} (h1 : ∀ t ∈ ts, Good1 n t) (h2 : (ts.map tkey).Nodup) : Good n ts := ⟨h1, by
  rw [List.nodup_iff_pairwise_ne, List.pairwise_map] at h2
  refine h2.imp fun {t u} h => ?_
  rw [isT_no]
  intro z
  apply h
  show (min t.1 t.2.1, max t.1 t.2.1) = (min u.1 u.2.1, max u.1 u.2.1)
  exact Prod.ext (by dsimp only; omega) (by dsimp only; omega)⟩
theorem isT_key {a b : Int} {t : Tie} : isT a b t = true ↔ tkey t = (min a b, max a b) := by
  rw [isT_iff]
  simp only [tkey, Prod.mk.injEq]
  omega
theorem Lst.len {n : Nat} {m : TD} {ts : List Tie} (h : Lst n m ts) : ts.length = m.length := by
  have := h.pm.length_eq
  simpa using this
end Pr
set_option Elab.async false
set_option linter.all false
set_option maxRecDepth 100000
namespace Pr
open PySem PySem.Spec L2 Ev Tg
abbrev tnorm (t : Tie) : Tie := (min t.1 t.2.1, max t.1 t.2.1, t.2.2)
theorem ties_norm {n : Nat} {ts : List Tie} (g : Good n ts) (hl : ts.length ≤ 1000) : p_Web_ties (web n ts) = some (sort3 (ts.map tnorm)) := by
  unfold p_Web_ties
  rw [lcM_e (xs := (web n ts).2.1) (p := fun y1 => some (decide (y1.1.1 < y1.1.2))) (f := fun y1 => some (y1.1.1, y1.1.2, y1.2)) (fun y1 => decide (y1.1.1 < y1.1.2)) (fun y1 => (y1.1.1, y1.1.2, y1.2)) (fun _ _ => rfl) (fun _ _ _ => rfl), bindO_s]
  have e : ((web n ts).2.1.filter fun y1 => decide (y1.1.1 < y1.1.2)).map (fun y1 => (y1.1.1, y1.1.2, y1.2)) = ts.map tnorm := by
    show ((tab ts).filter _).map _ = _
    have g1 := g.one
    clear hl g
    induction ts with
    | nil => rfl
    | cons t ts ih =>
      have ne := (g1 t (by simp)).ne
      have ih := ih fun u hu => g1 u (List.mem_cons_of_mem _ hu)
      show ((((t.1, t.2.1), t.2.2) :: ((t.2.1, t.1), t.2.2) :: tab ts).filter _).map _ = (min t.1 t.2.1, max t.1 t.2.1, t.2.2) :: ts.map tnorm
      rcases Int.lt_or_gt_of_ne ne with h | h
      · rw [List.filter_cons_of_pos (by simpa using h), List.filter_cons_of_neg (by simp; omega), List.map_cons, ih, show min t.1 t.2.1 = t.1 by omega, show max t.1 t.2.1 = t.2.1 by omega]
      · rw [List.filter_cons_of_neg (by simp; omega), List.filter_cons_of_pos (by simpa using h), List.map_cons, ih, show min t.1 t.2.1 = t.2.1 by omega, show max t.1 t.2.1 = t.1 by omega]
  rw [e, big_e (by rw [List.length_map]; omega), bindO_s]
theorem lt3' (p q : Tie) : ltP3 p q = true ↔ p.1 < q.1 ∨ p.1 = q.1 ∧ (p.2.1 < q.2.1 ∨ p.2.1 = q.2.1 ∧ p.2.2 < q.2.2) := by
  unfold ltP3
  rw [HT.lexLt_cons, HT.lexLt_cons, HT.lexLt_cons]
  have : HT.lexLt [] [] = false := rfl
  rw [this]
  by_cases h : p.1 = q.1
  · rw [if_pos h]
    by_cases h2 : p.2.1 = q.2.1
    · rw [if_pos h2]
      by_cases h3 : p.2.2 = q.2.2
      · rw [if_pos h3]; simp; omega
      · rw [if_neg h3]; simp; omega
    · rw [if_neg h2]; simp; omega
  · rw [if_neg h]; simp; omega
theorem srt_uniq3 : ∀ {xs ys : List Tie}, xs.Pairwise (fun a b => ltP3 b a = false) → ys.Pairwise (fun a b => ltP3 b a = false) → xs.Perm ys → xs = ys
  | [], ys, _, _, p => (List.Perm.nil_eq p)
  | x :: xs, [], _, _, p => absurd p.length_eq (by simp)
  | x :: xs, y :: ys, h1, h2, p => by
    have g1 := List.pairwise_cons.mp h1
    have g2 := List.pairwise_cons.mp h2
    have e : x = y := by
      rcases List.mem_cons.mp (p.mem_iff.mp List.mem_cons_self) with e | m
      · exact e
      · rcases List.mem_cons.mp (p.mem_iff.mpr List.mem_cons_self) with e | m2
        · exact e.symm
        · have a1 := g2.1 x m
          have a2 := g1.1 y m2
          rw [← Bool.not_eq_true, lt3'] at a1 a2
          obtain ⟨x1, x2, x3⟩ := x
          obtain ⟨y1, y2, y3⟩ := y
          simp only at a1 a2
          have : x1 = y1 := by omega
          have : x2 = y2 := by omega
          have : x3 = y3 := by omega
          simp [*]
    subst e
    rw [srt_uniq3 g1.2 g2.2 (List.Perm.cons_inv p)]
theorem sort3_perm {xs ys : List Tie} (p : xs.Perm ys) : sort3 xs = sort3 ys := srt_uniq3 (srt3 xs) (srt3 ys) ((perm3 xs).trans (p.trans (perm3 ys).symm))
end Pr
set_option Elab.async false
set_option linter.all false
set_option maxRecDepth 100000
namespace Pr
open PySem PySem.Spec L2 Ev Tg
theorem two_e {i j : Nat} (h : i ≠ j) : two (sortI [(i : Int), (j : Int)]) = some (min (i : Int) j, max (i : Int) j) := by
  have key : ∀ x y : Int, x < y → sortI [x, y] = [x, y] := fun x y hxy => sort_of_up (by simp [Up]; exact hxy)
  rcases Nat.lt_trichotomy i j with q | q | q
  · rw [key _ _ (by omega), show min (i : Int) j = i by omega, show max (i : Int) j = j by omega]
    rfl
  · exact absurd q h
  · have : sortI [(i : Int), (j : Int)] = [(j : Int), (i : Int)] := by
      have e := sort_of_up (xs := [(j : Int), (i : Int)]) (by simp [Up]; omega)
      rw [← e]
      refine up_uniq (sortI_up (by simp; omega)) (sortI_up (by simp; omega)) fun x => ?_
      rw [(permI _).mem_iff, (permI _).mem_iff]
      simp
      omega
    rw [this, show min (i : Int) j = j by omega, show max (i : Int) j = i by omega]
    rfl
theorem heavy_e (c way : Int) : ∃ w, p_law_heavy c way = some w ∧ wOk w := by
  unfold p_law_heavy
  by_cases h : decide (way = 0) = true
  · rw [if_pos h]
    refine ⟨_, rfl, ?_⟩
    have h1 := Int.emod_nonneg c (b := (2 : Int) * 1000000000000000000000000000000000000000000000000000000000000 - 1) (by decide)
    have h2 := Int.emod_lt_of_pos c (b := (2 : Int) * 1000000000000000000000000000000000000000000000000000000000000 - 1) (by decide)
    unfold wOk
    omega
  · rw [if_neg h]
    obtain ⟨v, e, _, _⟩ := mixed_e c (f := 1812433253) (by decide)
    rw [e, bindO_s]
    refine ⟨_, rfl, ?_⟩
    have h1 := Int.emod_nonneg v (b := 21) (by decide)
    have h2 := Int.emod_lt_of_pos v (b := 21) (by decide)
    unfold wOk
    omega
theorem tie_txt {a b : SS} {w : Int} (ha : NmOk a) (hb : NmOk b) (hw : wOk w) {T : Type} (k : SS → Option T) : ∃ z, (bindO (catS a (mkS "-" (by decide +kernel))) fun v14 => bindO (catS v14 b) fun v15 => bindO (catS v15 (mkS " " (by decide +kernel))) fun v16 => bindO (strI w) fun v17 => bindO (catS v16 v17) k) = k z ∧ L z = (Th.tie a b w).sg := by
  have h1 := ha.all.1
  have h2 := hb.all.1
  have h3 := numZ_len hw
  obtain ⟨z1, e1, f1⟩ := catS_e (a := a) (b := mkS "-" (by decide +kernel)) (by rw [dash, List.length_singleton]; omega)
  obtain ⟨z2, e2, f2⟩ := catS_e (a := z1) (b := b) (by rw [f1, dash, List.length_append, List.length_singleton]; omega)
  obtain ⟨z3, e3, f3⟩ := catS_e (a := z2) (b := mkS " " (by decide +kernel)) (by rw [f2, f1, dash, blank, List.length_append, List.length_append, List.length_singleton, List.length_singleton]; omega)
  obtain ⟨z4, e4, f4⟩ := strI_e hw
  obtain ⟨z5, e5, f5⟩ := catS_e (a := z3) (b := z4) (by rw [f3, f2, f1, f4, dash, blank, List.length_append, List.length_append, List.length_append, List.length_singleton, List.length_singleton]; omega)
  refine ⟨z5, by rw [e1, bindO_s, e2, bindO_s, e3, bindO_s, e4, bindO_s, e5, bindO_s], ?_⟩
  rw [f5, f3, f2, f1, f4, dash, blank]
  unfold Th.sg
  simp
def SnI (seen : List (SS × SS)) (ns : List SS) (ts : List Tie) : Prop := ∀ x y, (x, y) ∈ seen ↔ ∃ t ∈ ts, (ns[t.1.toNat]? = some x ∧ ns[t.2.1.toNat]? = some y) ∨ (ns[t.1.toNat]? = some y ∧ ns[t.2.1.toNat]? = some x)
structure TI (pool : List SS) (j : Nat) (s : (List SS) × (List SS) × (List (Int × Int × Int)) × (List (SS × SS))) : Prop where
  ex : ∃ ths ts, s.1.map L = ths.map Th.sg ∧ Runs [] [] ths s.2.1 ts ∧ s.2.2.1 = ts.map tnorm ∧ SnI s.2.2.2 s.2.1 ts ∧ ths.length ≤ j
  sub : ∀ x ∈ s.2.1, x ∈ pool
  sl : s.2.2.2.length ≤ 2 * j
theorem things_L2 {ns : List SS} {x : SS} (hl : ns.length ≤ 1000) : p_law_things_L2 x ns = some (ins ns x) := by
  unfold p_law_things_L2 ins
  by_cases h : x ∈ ns
  · rw [if_neg (by simp [h]), bindO_s, if_pos h]
  · rw [if_pos (by simp [h]), appO_e (by omega), bindO_s, bindO_s, if_neg h]
theorem things_step {pool : List SS} (hp : (1 ≤ pool.length ∧ pool.length ≤ 24) ∧ ∀ s ∈ pool, NmOk s) (way c : Int) {j : Nat} (hj : j ≤ 100) {s : (List SS) × (List SS) × (List (Int × Int × Int)) × (List (SS × SS))} (I : TI pool j s) :
    ∃ s', p_law_things_L1 pool way c s.1 s.2.1 s.2.2.1 s.2.2.2 = some s' ∧ TI pool (j + 1) s' := by
  obtain ⟨things, ns, rows, seen⟩ := s
  obtain ⟨⟨ths, ts, hx, hr, hrow, hsn, hlen⟩, hsub, hsl⟩ := I
  dsimp only at hx hr hrow hsn hsub hsl
  have rb := hr.rb rb0
  have hnl : ns.length ≤ 24 := Nat.le_trans (len_of_sub rb.nd hsub) hp.1.2
  have hrl := runs_len hr
  have hth : things.length = ths.length := by
    have := congrArg List.length hx
    rwa [List.length_map, List.length_map] at this
  simp at hrl
  unfold p_law_things_L1
  obtain ⟨v1, e1, _, _⟩ := mixed_e c (f := 1103515245) (by decide)
  obtain ⟨v4, e4, _, _⟩ := mixed_e c (f := 1812433253) (by decide)
  obtain ⟨w, ew, hw⟩ := heavy_e c way
  have m1 := Int.emod_nonneg (v1 / 8) (b := (pool.length : Int)) (by omega)
  have m2 := Int.emod_lt_of_pos (v1 / 8) (b := (pool.length : Int)) (by omega)
  have m3 := Int.emod_nonneg (v4 / 8) (b := (pool.length : Int)) (by omega)
  have m4 := Int.emod_lt_of_pos (v4 / 8) (b := (pool.length : Int)) (by omega)
  dsimp only
  rw [e1, bindO_s]
  simp -implicitDefEqProofs only [letB_eq]
  rw [modP (by omega), bindO_s, idx_i m1 m2, bindO_s, e4, bindO_s, modP (by omega), bindO_s, idx_i m3 m4, bindO_s, ew, bindO_s]
  have hone : pool[(v1 / 8 % (pool.length : Int)).toNat]'(by omega) ∈ pool := List.getElem_mem _
  have hoth : pool[(v4 / 8 % (pool.length : Int)).toNat]'(by omega) ∈ pool := List.getElem_mem _
  generalize pool[(v1 / 8 % (pool.length : Int)).toNat]'(by omega) = one at hone
  generalize pool[(v4 / 8 % (pool.length : Int)).toNat]'(by omega) = oth at hoth
  by_cases c1 : (decide ((v1 % (4 : Int)) = (0 : Int)) && (!(decide (one ∈ ns)))) = true
  · rw [if_pos c1, appO_e (by omega), bindO_s, appO_e (by omega), bindO_s, bindO_s]
    refine ⟨_, rfl, ⟨ths ++ [.nm one], ts, ?_, ?_, hrow, ?_, by simp; omega⟩, fun x hx => ?_, by dsimp only; omega⟩
    · dsimp only
      rw [List.map_append, List.map_append, hx]
      rfl
    · rw [Bool.and_eq_true] at c1
      exact hr.snoc (.nm (by simpa using c1.2) (hp.2 one hone))
    · intro x y
      rw [hsn x y]
      have up : ∀ t ∈ ts, ∀ i : Int, (i = t.1 ∨ i = t.2.1) → (ns ++ [one])[i.toNat]? = ns[i.toNat]? := fun t ht i hi => by
        have g := rb.g.one t ht
        have := g.a0; have := g.b0; have := g.an; have := g.bn
        exact List.getElem?_append_left (by rcases hi with e | e <;> omega)
      constructor
      · rintro ⟨t, ht, h⟩
        exact ⟨t, ht, by rw [up t ht t.1 (.inl rfl), up t ht t.2.1 (.inr rfl)]; exact h⟩
      · rintro ⟨t, ht, h⟩
        rw [up t ht t.1 (.inl rfl), up t ht t.2.1 (.inr rfl)] at h
        exact ⟨t, ht, h⟩
    · rcases List.mem_append.mp hx with hx | hx
      · exact hsub x hx
      · rw [List.mem_singleton.mp hx]; exact hone
  · rw [if_neg c1]
    by_cases c2 : ((!decide (one = oth)) && (!(decide ((one, oth) ∈ seen)))) = true
    · rw [if_pos c2]
      rw [Bool.and_eq_true, Bool.not_eq_true', Bool.not_eq_true', decide_eq_false_iff_not, decide_eq_false_iff_not] at c2
      have li := ins_len (ns := ns) (x := one)
      have li2 := ins_len (ns := ins ns one) (x := oth)
      have ef : forS [one, oth] ns (fun (x9 : SS) (s9 : (List SS)) => p_law_things_L2 x9 s9) = some (ins (ins ns one) oth) := by
        unfold forS
        dsimp only
        rw [things_L2 (by omega), bindO_s]
        unfold forS
        dsimp only
        rw [things_L2 (by omega), bindO_s]
        rfl
      have ho1 : one ∈ ins (ins ns one) oth := mem_ins.mpr (.inl (mem_ins.mpr (.inr rfl)))
      have ho2 : oth ∈ ins (ins ns one) oth := mem_ins.mpr (.inr rfl)
      obtain ⟨k1, f1, g1⟩ := idx_ex ho1
      obtain ⟨k2, f2, g2⟩ := idx_ex ho2
      have hk : k1 ≠ k2 := fun e => by rw [e, g2] at g1; exact c2.1 (Option.some.inj g1).symm
      rw [ef, bindO_s, catO_e (by simp; omega), bindO_s, f1, bindO_s, f2, bindO_s, two_e hk, bindO_s, appO_e (by rw [hrow, List.length_map]; omega), bindO_s]
      obtain ⟨z, ez, hz⟩ := tie_txt (hp.2 one hone) (hp.2 oth hoth) hw (fun v18 => bindO (appO things v18) fun x_things_here_3 => some (ins (ins ns one) oth, seen ++ [(one, oth), (oth, one)], rows ++ [(min (k1 : Int) k2, max (k1 : Int) k2, w)], x_things_here_3))
      dsimp only
      rw [ez, appO_e (by omega), bindO_s, bindO_s, bindO_s]
      have up : ∀ t ∈ ts, ∀ i : Int, (i = t.1 ∨ i = t.2.1) → (ins (ins ns one) oth)[i.toNat]? = ns[i.toNat]? := fun t ht i hi => by
        have g := rb.g.one t ht
        have := g.a0; have := g.b0; have := g.an; have := g.bn
        have hlt : i.toNat < ns.length := by rcases hi with e | e <;> omega
        obtain ⟨y, hy⟩ : ∃ y, ns[i.toNat]? = some y := ⟨_, List.getElem?_eq_getElem hlt⟩
        rw [hy]
        exact ins_at (ins_at hy)
      have hno : ∀ t ∈ ts, isT (k1 : Int) (k2 : Int) t = false := fun t ht => by
        cases q : isT (k1 : Int) (k2 : Int) t with
        | false => rfl
        | true =>
          refine absurd ((hsn one oth).mpr ⟨t, ht, ?_⟩) c2.2
          rw [← up t ht t.1 (.inl rfl), ← up t ht t.2.1 (.inr rfl)]
          rcases isT_iff.mp q with ⟨a1, a2⟩ | ⟨a1, a2⟩
          · left; rw [a1, a2]; exact ⟨g1, g2⟩
          · right; rw [a1, a2]; exact ⟨g2, g1⟩
      refine ⟨_, rfl, ⟨ths ++ [.tie one oth w], ts ++ [((k1 : Int), (k2 : Int), w)], ?_, ?_, ?_, ?_, by simp; omega⟩, fun x hx => ?_, by dsimp only; rw [List.length_append]; simp; omega⟩
      · dsimp only
        rw [List.map_append, List.map_append, hx, List.map_singleton, List.map_singleton, hz]
      · exact hr.snoc (.tie (hp.2 one hone) (hp.2 oth hoth) c2.1 hw g1 g2 hno)
      · dsimp only
        rw [List.map_append, hrow]
        rfl
      · intro x y
        dsimp only
        rw [List.mem_append]
        constructor
        · rintro (h | h)
          · obtain ⟨t, ht, h⟩ := (hsn x y).mp h
            exact ⟨t, by simp [ht], by rw [up t ht t.1 (.inl rfl), up t ht t.2.1 (.inr rfl)]; exact h⟩
          · refine ⟨((k1 : Int), (k2 : Int), w), by simp, ?_⟩
            simp only [List.mem_cons, Prod.mk.injEq, List.not_mem_nil, or_false] at h
            dsimp only
            rw [Int.toNat_natCast, Int.toNat_natCast]
            rcases h with ⟨rfl, rfl⟩ | ⟨rfl, rfl⟩
            · exact .inl ⟨g1, g2⟩
            · exact .inr ⟨g1, g2⟩
        · rintro ⟨t, ht, h⟩
          rcases List.mem_append.mp ht with ht | ht
          · rw [up t ht t.1 (.inl rfl), up t ht t.2.1 (.inr rfl)] at h
            exact .inl ((hsn x y).mpr ⟨t, ht, h⟩)
          · rw [List.mem_singleton.mp ht] at h
            dsimp only at h
            rw [Int.toNat_natCast, Int.toNat_natCast, g1, g2] at h
            right
            rcases h with ⟨h1, h2⟩ | ⟨h1, h2⟩
            · rw [← Option.some.inj h1, ← Option.some.inj h2]; simp
            · rw [← Option.some.inj h1, ← Option.some.inj h2]; simp
      · rcases mem_ins.mp hx with hx | hx
        · rcases mem_ins.mp hx with hx | hx
          · exact hsub x hx
          · rw [hx]; exact hone
        · rw [hx]; exact hoth
    · rw [if_neg c2, bindO_s, bindO_s]
      exact ⟨_, rfl, ⟨ths, ts, hx, hr, hrow, hsn, by omega⟩, hsub, by dsimp only; omega⟩
theorem sg_sum {ths : List Th} {ns n1 : List SS} {rows r1 : List Tie} (h : Runs ns rows ths n1 r1) : ((ths.map Th.sg).map List.length).sum ≤ 79 * ths.length := by
  induction h with
  | nil => exact Nat.zero_le _
  | cons a _ ih =>
    have := (sg_len a).2
    rw [List.map_cons, List.map_cons, List.sum_cons, List.length_cons]
    omega
theorem join_things {ths : List Th} {ns n1 : List SS} {rows r1 : List Tie} (h : Runs ns rows ths n1 r1) {xs : List SS} (hx : xs.map L = ths.map Th.sg) (hl : ths.length ≤ 1000) : ∃ z, joinS (mkS ", " (by decide +kernel)) xs = some z ∧ L z = TL.joinL [44, 32] (ths.map Th.sg) ∧ (L z).length ≤ 1000000 := by
  have hlen : xs.length = ths.length := by
    have := congrArg List.length hx
    rwa [List.length_map, List.length_map] at this
  have hs := sg_sum h
  have e0 : (xs.map fun y => (L y).length) = (ths.map Th.sg).map List.length := by rw [← hx, List.map_map]; rfl
  obtain ⟨z, e1, e2⟩ := joinS_e (a := mkS ", " (by decide +kernel)) (ys := xs) (by rw [e0, comma, hlen]; simp only [List.length_cons, List.length_nil]; omega)
  rw [comma, hx] at e2
  refine ⟨z, e1, e2, ?_⟩
  rw [e2]
  have := joinL_len [44, 32] (ths.map Th.sg)
  simp only [List.length_cons, List.length_nil, List.length_map] at this
  omega
theorem things_e {pool : List SS} (hp : (1 ≤ pool.length ∧ pool.length ≤ 24) ∧ ∀ s ∈ pool, NmOk s) (way : Int) (ns : List Int) (hl : ns.length ≤ 63) :
    ∃ x names ths ts, p_law_things ns pool way = some (x, names, sort3 (ts.map tnorm)) ∧ Runs [] [] ths names ts ∧ L x = TL.joinL [44, 32] (ths.map Th.sg) ∧ (L x).length ≤ 1000000 ∧ names.length ≤ 24 ∧ ths.length ≤ 63 := by
  unfold p_law_things
  simp -implicitDefEqProofs only [letB_eq]
  have hcl : (cutL ns (some (2 : Int)) (some (65 : Int))).length ≤ 63 := by
    unfold cutL
    rw [List.length_take, List.length_drop]
    omega
  generalize cutL ns (some (2 : Int)) (some (65 : Int)) = cells at hcl
  obtain ⟨s, e, I⟩ := forS_inv (xs := cells) (s0 := (([] : List SS), ([] : List SS), ([] : List (Int × Int × Int)), ([] : List (SS × SS)))) (f := fun (x21 : Int) (s21 : (List SS) × (List SS) × (List (Int × Int × Int)) × (List (SS × SS))) => p_law_things_L1 pool way x21 s21.1 s21.2.1 s21.2.2.1 s21.2.2.2) (fun pre s => TI pool pre.length s)
    ⟨⟨[], [], rfl, .nil, rfl, fun x y => ⟨fun z => (nomatch z), fun ⟨_, z, _⟩ => (nomatch z)⟩, Nat.le_refl _⟩, fun _ z => (nomatch z), Nat.le_refl _⟩ fun pre x post s es I => by
      have hpl : pre.length < cells.length := by rw [es]; simp
      obtain ⟨s', e, I'⟩ := things_step hp way x (by omega) I
      exact ⟨s', e, by rw [List.length_append]; exact I'⟩
  rw [e, bindO_s]
  obtain ⟨⟨ths, ts, hx, hr, hrow, _, hlen⟩, hsub, _⟩ := I
  obtain ⟨z, e1, e2, e3⟩ := join_things hr hx (by omega)
  rw [e1, bindO_s, hrow]
  exact ⟨z, _, ths, ts, rfl, hr, e2, e3, Nat.le_trans (len_of_sub (hr.rb rb0).nd hsub) hp.1.2, by omega⟩
end Pr
set_option Elab.async false
set_option linter.all false
namespace Pr
open PySem PySem.Spec L2 Ev Tg
open PyProof.Rows hiding St
theorem web_size (n : Nat) (ts : List Tie) : p_Web_size (web n ts) = some (n : Int) := rfl
end Pr
set_option Elab.async false
set_option linter.all false
namespace Pr
open PySem PySem.Spec L2 Ev Tg
theorem cell_bits {ns : List Int} (hb : ∀ z ∈ ns, Builtin.Int.intBits z ≤ 1048576) (i : Int) (h : 0 ≤ i) : ∃ c, p_law_cell_at ns i = some c ∧ Builtin.Int.intBits c ≤ 1048576 := by
  obtain ⟨k, rfl⟩ : ∃ k : Nat, i = k := ⟨i.toNat, by omega⟩
  unfold p_law_cell_at
  by_cases h : k < ns.length
  · rw [if_pos (by simpa using h), idx_lt h, bindO_s]
    exact ⟨_, rfl, hb _ (List.getElem_mem h)⟩
  · rw [if_neg (by simpa using h)]
    exact ⟨0, rfl, by decide⟩
end Pr
set_option Elab.async false
set_option linter.all false
set_option maxRecDepth 100000
namespace Pr
open PySem PySem.Spec L2 Ev Tg
open Classical in
noncomputable def ofL (l : List Nat) : SS := if h : ∀ c ∈ l, c < 0x110000 then ⟨⟨l.toArray⟩, ok_iff.mpr h⟩ else mkS "" (by decide +kernel)
theorem of_L {l : List Nat} {z : SS} (h : L z = l) : ofL l = z := by
  unfold ofL
  subst h
  rw [dif_pos (ss_ok z)]
noncomputable def nmAt (ns : List SS) (i : Int) : SS := (ns[i.toNat]?).getD (mkS "" (by decide +kernel))
noncomputable def mk (ns : List SS) (t : Tie) : Th := .tie (nmAt ns t.1) (nmAt ns t.2.1) t.2.2
theorem nmAt_e {ns : List SS} {i : Int} (h : 0 ≤ i ∧ i < ns.length) : ns[i.toNat]? = some (nmAt ns i) := by
  unfold nmAt
  rw [List.getElem?_eq_getElem (by omega)]
  rfl
theorem nmAt_mem {ns : List SS} {i : Int} (h : 0 ≤ i ∧ i < ns.length) : nmAt ns i ∈ ns := List.mem_of_getElem? (nmAt_e h)
theorem idx_nm {ns : List SS} {i : Int} (h : 0 ≤ i ∧ i < ns.length) : idx ns i = some (nmAt ns i) := by
  obtain ⟨k, rfl⟩ : ∃ k : Nat, i = k := ⟨i.toNat, by omega⟩
  rw [idx_nat]
  have := nmAt_e h
  rwa [Int.toNat_natCast] at this
theorem keys_nd {n : Nat} {ts : List Tie} (g : Good n ts) : (ts.map tkey).Nodup := by
  rw [List.nodup_iff_pairwise_ne, List.pairwise_map]
  refine g.two.imp fun {t u} h e => ?_
  have : isT t.1 t.2.1 u = true := isT_key.mpr e.symm
  rw [h] at this
  cases this
structure Rws (n : Nat) (R : List Tie) : Prop where
  g : Good n R
  up : ∀ t ∈ R, 0 ≤ t.1 ∧ t.1 < t.2.1 ∧ t.2.1 < n
  wb : ∀ t ∈ R, wOk t.2.2
  st : sort3 (R.map tnorm) = R
theorem rws_of {ns : List SS} {ts : List Tie} (I : RB ns ts) : Rws ns.length (sort3 (ts.map tnorm)) := by
  have hm : ∀ t ∈ sort3 (ts.map tnorm), ∃ u ∈ ts, t = tnorm u := fun t ht => by
    obtain ⟨u, hu, e⟩ := List.mem_map.mp ((perm3 _).mem_iff.mp ht)
    exact ⟨u, hu, e.symm⟩
  have hup : ∀ t ∈ sort3 (ts.map tnorm), 0 ≤ t.1 ∧ t.1 < t.2.1 ∧ t.2.1 < (ns.length : Int) := fun t ht => by
    obtain ⟨u, hu, rfl⟩ := hm t ht
    have g := I.g.one u hu
    have := g.ne; have := g.a0; have := g.b0; have := g.an; have := g.bn
    dsimp only [tnorm]
    omega
  refine ⟨Good.of_keys (fun t ht => ?_) ?_, hup, fun t ht => ?_, ?_⟩
  · have := hup t ht
    exact ⟨by omega, by omega, by omega, by omega, by omega⟩
  · have p := ((perm3 (ts.map tnorm)).map tkey).nodup_iff
    rw [p, List.map_map]
    have : (tkey ∘ tnorm) = tkey := by
      funext t
      show (min (min t.1 t.2.1) (max t.1 t.2.1), max (min t.1 t.2.1) (max t.1 t.2.1)) = (min t.1 t.2.1, max t.1 t.2.1)
      exact Prod.ext (by dsimp only; omega) (by dsimp only; omega)
    rw [this]
    exact keys_nd I.g
  · obtain ⟨u, hu, rfl⟩ := hm t ht
    exact I.wb u hu
  · have : (sort3 (ts.map tnorm)).map tnorm = sort3 (ts.map tnorm) := by
      have : (sort3 (ts.map tnorm)).map tnorm = (sort3 (ts.map tnorm)).map id := List.map_congr_left fun t ht => by
        have := hup t ht
        show (min t.1 t.2.1, max t.1 t.2.1, t.2.2) = t
        exact Prod.ext (by dsimp only; omega) (Prod.ext (by dsimp only; omega) rfl)
      rw [this, List.map_id]
    rw [this]
    exact sort3_perm (perm3 _)
theorem runs_names : ∀ (suf pre : List SS), (pre ++ suf).Nodup → (∀ s ∈ suf, NmOk s) → Runs pre [] (suf.map .nm) (pre ++ suf) []
  | [], pre, _, _ => by rw [List.append_nil]; exact .nil
  | s :: suf, pre, nd, ok => by
    have h1 : s ∉ pre := fun h => by
      rw [List.nodup_append] at nd
      exact nd.2.2 s h s List.mem_cons_self rfl
    have e : pre ++ s :: suf = (pre ++ [s]) ++ suf := by simp
    rw [e] at nd ⊢
    exact .cons (.nm h1 (ok s List.mem_cons_self)) (runs_names suf (pre ++ [s]) nd fun x hx => ok x (List.mem_cons_of_mem _ hx))
theorem ins_in {ns : List SS} {x : SS} (h : x ∈ ns) : ins ns x = ns := if_pos h
theorem runs_rows {ns : List SS} (nd : ns.Nodup) (ok : ∀ s ∈ ns, NmOk s) : ∀ (rest don : List Tie), Good ns.length (don ++ rest) → (∀ t ∈ rest, wOk t.2.2) → Runs ns don (rest.map (mk ns)) ns (don ++ rest)
  | [], don, _, _ => by rw [List.append_nil]; exact .nil
  | t :: rest, don, g, wb => by
    have g1 := g.one t (by simp)
    have ha : 0 ≤ t.1 ∧ t.1 < (ns.length : Int) := ⟨g1.a0, g1.an⟩
    have hb : 0 ≤ t.2.1 ∧ t.2.1 < (ns.length : Int) := ⟨g1.b0, g1.bn⟩
    have ma := nmAt_mem ha
    have mb := nmAt_mem hb
    have hne : nmAt ns t.1 ≠ nmAt ns t.2.1 := fun e => by
      have h1 := nmAt_e ha
      rw [e] at h1
      have := nd_at nd h1 (nmAt_e hb)
      have := g1.ne
      omega
    have hi : ins (ins ns (nmAt ns t.1)) (nmAt ns t.2.1) = ns := by rw [ins_in ma, ins_in mb]
    have hno : ∀ u ∈ don, isT ((t.1.toNat : Nat) : Int) ((t.2.1.toNat : Nat) : Int) u = false := fun u hu => by
      have := (List.pairwise_append.mp g.two).2.2 u hu t List.mem_cons_self
      rw [isT_no] at this ⊢
      have q1 := g1.a0
      have q2 := g1.b0
      omega
    have s := Step.tie (ns := ns) (rows := don) (a := nmAt ns t.1) (b := nmAt ns t.2.1) (w := t.2.2) (ka := t.1.toNat) (kb := t.2.1.toNat) (ok _ ma) (ok _ mb) hne (wb t List.mem_cons_self) (by rw [hi]; exact nmAt_e ha) (by rw [hi]; exact nmAt_e hb) hno
    rw [hi] at s
    have et : (((t.1.toNat : Nat) : Int), ((t.2.1.toNat : Nat) : Int), t.2.2) = t := Prod.ext (by dsimp only; omega) (Prod.ext (by dsimp only; omega) rfl)
    rw [et] at s
    have e : don ++ t :: rest = (don ++ [t]) ++ rest := by simp
    rw [e] at g ⊢
    exact .cons s (runs_rows nd ok rest (don ++ [t]) g fun u hu => wb u (List.mem_cons_of_mem _ hu))
theorem runs_all {ns : List SS} {R : List Tie} (nd : ns.Nodup) (ok : ∀ s ∈ ns, NmOk s) (r : Rws ns.length R) : Runs [] [] (ns.map .nm ++ R.map (mk ns)) ns R :=
  (runs_names ns [] nd ok).app (runs_rows nd ok R [] r.g r.wb)
noncomputable def wr (ns : List SS) (R : List Tie) : List SS := R.map fun t => ofL (mk ns t).sg
theorem tie_at {ns : List SS} {R : List Tie} (ok : ∀ s ∈ ns, NmOk s) (r : Rws ns.length R) {t : Tie} (ht : t ∈ R) {T : Type} (k : SS → Option T) : (bindO (catS (nmAt ns t.1) (mkS "-" (by decide +kernel))) fun v14 => bindO (catS v14 (nmAt ns t.2.1)) fun v15 => bindO (catS v15 (mkS " " (by decide +kernel))) fun v16 => bindO (strI t.2.2) fun v17 => bindO (catS v16 v17) k) = k (ofL (mk ns t).sg) ∧ L (ofL (mk ns t).sg) = (mk ns t).sg := by
  have := r.up t ht
  obtain ⟨z, e1, e2⟩ := tie_txt (ok _ (nmAt_mem (i := t.1) ⟨by omega, by omega⟩)) (ok _ (nmAt_mem (i := t.2.1) ⟨by omega, by omega⟩)) (r.wb t ht) k
  have e3 := of_L e2
  have e3 : ofL (mk ns t).sg = z := e3
  rw [e3]
  exact ⟨e1, e2⟩
theorem wr_L {ns : List SS} {R : List Tie} (ok : ∀ s ∈ ns, NmOk s) (r : Rws ns.length R) : (ns ++ wr ns R).map L = (ns.map Th.nm ++ R.map (mk ns)).map Th.sg := by
  unfold wr
  rw [List.map_append, List.map_append, List.map_map, List.map_map, List.map_map]
  congr 1
  refine List.map_congr_left fun t ht => ?_
  exact (tie_at ok r ht (T := Unit) fun _ => none).2
theorem written_e {ns : List SS} {R : List Tie} (ok : ∀ s ∈ ns, NmOk s) (r : Rws ns.length R) (hl : R.length ≤ 1000) : p_law_written ns R = some (wr ns R) := by
  unfold p_law_written
  rw [lcM_map (fun t => ofL (mk ns t).sg) (fun t ht => by
    have := r.up t ht
    simp only [idx_nm (ns := ns) (i := t.1) ⟨by omega, by omega⟩, idx_nm (ns := ns) (i := t.2.1) ⟨by omega, by omega⟩, bindO_s]
    exact (tie_at ok r ht fun v8 => some v8).1), bindO_s, big_e (by rw [List.length_map]; omega), bindO_s]
  rfl
theorem shown_e {ns : List SS} {ts R : List Tie} (ok : ∀ s ∈ ns, NmOk s) (r : Rws ns.length R) (g : Good ns.length ts) (hl : ts.length ≤ 1000) (hR : sort3 (ts.map tnorm) = R) (hn : ns.length ≤ 24) (z : SS) (hz : joinS (mkS ", " (by decide +kernel)) (ns ++ wr ns R) = some z) : p_shown ns (web ns.length ts) = some z := by
  unfold p_shown
  simp -implicitDefEqProofs only [letB_eq]
  have hRl : R.length ≤ 1000 := by rw [← hR, (perm3 _).length_eq, List.length_map]; exact hl
  rw [ties_norm g hl, bindO_s, hR]
  obtain ⟨s, e, hs⟩ := forS_inv (xs := R) (s0 := ns) (f := fun (x9 : Int × Int × Int) (s9 : (List SS)) => p_shown_L1 ns x9.1 x9.2.1 x9.2.2 s9) (fun pre s => s = ns ++ wr ns pre) (by unfold wr; simp) fun pre t post s es hs => by
    have ht : t ∈ R := by rw [es]; simp
    have := r.up t ht
    subst hs
    have hpl : pre.length < R.length := by rw [es]; simp
    have hwl : (wr ns pre).length = pre.length := by unfold wr; rw [List.length_map]
    unfold p_shown_L1
    simp only [idx_nm (ns := ns) (i := t.1) ⟨by omega, by omega⟩, idx_nm (ns := ns) (i := t.2.1) ⟨by omega, by omega⟩, bindO_s]
    rw [(tie_at ok r ht fun v8 => bindO (appO (ns ++ wr ns pre) v8) fun x_things_2 => some x_things_2).1, appO_e (by rw [List.length_append, hwl]; omega), bindO_s]
    refine ⟨_, rfl, ?_⟩
    unfold wr
    rw [List.map_append, List.map_singleton, List.append_assoc]
  rw [e, bindO_s, hs, hz, bindO_s]
theorem right_e {ns : List SS} {ts R : List Tie} (g : Good ns.length ts) (hl : ts.length ≤ 1000) (hR : sort3 (ts.map tnorm) = R) (hn : ns.length ≤ 24) : p_law_right (ns, web ns.length ts) ns R = some true := by
  unfold p_law_right
  rw [if_neg (by simp), big_e (by rw [List.length_map]; dsimp only; omega), bindO_s]
  have hall : ((ns.map fun _ => true).all id) = true := by
    rw [List.all_map]
    exact List.all_eq_true.mpr fun _ _ => rfl
  dsimp only
  rw [hall, if_neg (by simp), web_size, bindO_s]
  unfold p_law_whole
  rw [bindO_s, if_neg (by decide), bindO_s, if_neg (by decide), bindO_s, if_pos (by simp), ties_norm g hl, bindO_s, bindO_s, hR]
  simp
theorem main (ns : List Int) (hl : ns.length ≤ 63) (hb : ∀ z ∈ ns, Builtin.Int.intBits z ≤ 1048576) : p_law ns = some true := by
  unfold p_law
  obtain ⟨c0, e0, _⟩ := cell_bits hb 0 (by omega)
  obtain ⟨c1, e1, _⟩ := cell_bits hb 1 (by omega)
  rw [e0, bindO_s]
  simp -implicitDefEqProofs only [letB_eq]
  rw [e1, bindO_s]
  generalize c0 % 1000003 = hd
  have h1 := Int.emod_nonneg (hd / 2) (b := 23) (by decide)
  have h2 := Int.emod_lt_of_pos (hd / 2) (b := 23) (by decide)
  obtain ⟨m, hm⟩ : ∃ m : Nat, (2 : Int) + hd / 2 % 23 = m := ⟨((2 : Int) + hd / 2 % 23).toNat, by omega⟩
  rw [hm]
  obtain ⟨pool, e2, hp⟩ := names_e c1 (m := m) (by omega)
  rw [e2, bindO_s]
  obtain ⟨x, nms, ths, ts, e3, hr, hx, hxl, hnl, htl⟩ := things_e hp (hd % 2) ns hl
  have rb := hr.rb rb0
  have hrl := runs_len hr
  simp at hrl
  have rR := rws_of rb
  generalize hR : sort3 (ts.map tnorm) = R at e3 rR
  have hRl : R.length ≤ 63 := by rw [← hR, (perm3 _).length_eq, List.length_map]; omega
  rw [e3, bindO_s]
  dsimp only
  have er := read_e hr hx (by omega) hnl hxl
  have ert := right_e rb.g (by omega) hR hnl
  rw [er, bindO_s, ert, bindO_s, if_neg (by simp), written_e rb.ok rR (by omega), bindO_s, catO_e (by unfold wr; rw [List.length_map]; omega), bindO_s]
  have ra := runs_all rb.nd rb.ok rR
  have la : (nms.map Th.nm ++ R.map (mk nms)).length ≤ 400 := by rw [List.length_append, List.length_map, List.length_map]; omega
  obtain ⟨z, j1, j2, j3⟩ := join_things ra (wr_L rb.ok rR) (by omega)
  rw [j1, bindO_s]
  have sh := shown_e rb.ok rR rb.g (by omega) hR hnl z j1
  rw [sh, bindO_s, if_neg (by simp), appO_e (by dsimp only; omega), bindO_s]
  have er2 := read_e ra j2 (by omega) hnl j3
  have ert2 := right_e rR.g (by omega) rR.st hnl
  rw [er2, bindO_s, ert2, bindO_s, if_neg (by simp), bindO_s, ert, bindO_s, bindO_s, if_neg (by simp)]
  -- turned about
  have nr : nms.reverse.Nodup := (List.reverse_perm nms).nodup_iff.mpr rb.nd
  have okr : ∀ s ∈ nms.reverse, NmOk s := fun s hs => rb.ok s (List.mem_reverse.mp hs)
  have hlr : nms.reverse.length = nms.length := List.length_reverse
  have rRr : Rws nms.reverse.length R := by rw [hlr]; exact rR
  have ra3 := runs_all nr okr rRr
  have la3 : (nms.reverse.map Th.nm ++ R.map (mk nms.reverse)).length ≤ 400 := by rw [List.length_append, List.length_map, List.length_map, hlr]; omega
  obtain ⟨z3, k1, k2, k3⟩ := join_things ra3 (wr_L okr rRr) (by omega)
  have sh3 := shown_e okr rRr (ts := ts) (by rw [hlr]; exact rb.g) (by omega) hR (by omega) z3 k1
  rw [hlr] at sh3
  have er3 := read_e ra3 k2 (by omega) (by omega) k3
  have ert3 := right_e rRr.g (by omega) rRr.st (by omega)
  rw [sh3, bindO_s, er3, bindO_s, ert3, bindO_s, if_pos rfl]
  have er0 := read_e (x := mkS "" (by decide +kernel)) (ts := []) .nil (by rw [empty_t]; rfl) (by simp) (by simp) (by rw [empty_t]; simp)
  rw [er0, bindO_s]
  dsimp only
  rw [if_pos (by simp)]
  have g0 : Good 0 [] := ⟨fun _ z => (nomatch z), .nil⟩
  have i0 := init_web (n := 0) (ts := []) (by omega) g0 (by simp)
  have i0 : p_Web_init (0 : Int) [] = some (web 0 []) := i0
  rw [i0, bindO_s]
  obtain ⟨z0, y1, y2⟩ := joinS_e (a := mkS ", " (by decide +kernel)) (ys := []) (by simp)
  have hz0 : z0 = mkS "" (by decide +kernel) := ss_ext (by rw [y2, empty_t]; rfl)
  have sh0 := shown_e (ns := []) (ts := []) (R := []) (fun _ z => (nomatch z)) ⟨g0, fun _ z => (nomatch z), fun _ z => (nomatch z), rfl⟩ g0 (by simp) rfl (by simp) z0 y1
  have sh0 : p_shown [] (web 0 []) = some z0 := sh0
  rw [sh0, bindO_s, bindO_s, bindO_s, hz0]
  simp
end Pr
set_option Elab.async false
set_option linter.all false
set_option maxRecDepth 100000
set_option maxHeartbeats 4000000
set_option synthInstance.maxSize 2000
set_option synthInstance.maxHeartbeats 400000
namespace Pr
open PySem PySem.Spec L2 Ev Tg
open PyProof.Rows hiding St
def spLaw (K : PySem.W.Frag) : Sp := fun vs H Q _ => ∃ (a : Addr) (ns : List Int), vs = [.ref a] ∧ KSeq K H a (ns.map V.int) ∧ ns.length ≤ 63 ∧ (∀ z ∈ ns, Builtin.Int.intBits z ≤ 1048576) ∧ ∀ H', Q (.bl true) H'
theorem law_sp {WC : Addr} {K : PySem.W.Frag} (nN : PySem.W.nsIn K mainGlobals "nearest" = some none) (main : ∀ ns : List Int, ns.length ≤ 63 → (∀ z ∈ ns, Builtin.Int.intBits z ≤ 1048576) → p_law ns = some true) : ∀ vs H Q E, spLaw K vs H Q E → spD K 1 (R_law WC) vs H Q E := fun vs H Q E ⟨a, ns, e, hs, hl, hb, q⟩ => by
  subst e
  obtain ⟨l, a', hr, _, _⟩ := p_law_ok WC ns true (main ns hl hb)
  refine ⟨rfl, fun _ => True, [.fl (ns.map .int)], _, Rps.cons (F := []) (G := []) (.fl hs (rps_ints ns)) .nil, hr, (fun P q ⟨_, f, c, fo, fd, h1, _⟩ => by rw [nN] at h1; cases h1), fun v H' F _ _ _ rp => ?_⟩
  have rp : Rp K _ H' l v (.bl true) F := rp
  obtain ⟨rfl, _⟩ := rp.bl_inv
  exact q H'
structure FnK (K : PySem.W.Frag) (nm x q : Str) (st : Stmt) (f : Addr) : Prop where
  a : PySem.W.nsIn K mainGlobals nm = some (some (.ref f))
  fn : ∃ fd, Fun K x q st f fd
  k : PySem.W.keepIn K (.ref f) = true
structure FnKM (K : PySem.W.Frag) (C : Addr) (x q : Str) (st : Stmt) (f : Addr) : Prop where
  a : PySem.W.findIn K (.ref C) x = some (some (.ref f))
  i : PySem.W.isFn K (.ref f) = true
  fn : ∃ fd, Fun K x q st f fd
  k : PySem.W.keepIn K (.ref f) = true
section
variable {K : PySem.W.Frag} {nm x q : Str} {st : Stmt} {f C : Addr} {oc : Value} {od an : Option Addr} {osl : Array (Option Value)} {kV doc pm cdv ct : Value}
theorem FnK.mk' (a : PySem.W.nsIn K mainGlobals nm = some (some (.ref f))) (l : K.lookup f = some ⟨oc, od, .func (PySem.W.fnOf x q (defArgs st) (defBody st) (defScope st) .none kV doc pm an cdv ct), osl⟩) (c : PySem.W.codeIn K cdv q = true) (k : PySem.W.keepIn K (.ref f) = true) : FnK K nm x q st f := ⟨a, ⟨_, fun_mk l c k⟩, k⟩
theorem FnKM.mk' (a : PySem.W.findIn K (.ref C) x = some (some (.ref f))) (i : PySem.W.isFn K (.ref f) = true) (l : K.lookup f = some ⟨oc, od, .func (PySem.W.fnOf x q (defArgs st) (defBody st) (defScope st) .none kV doc pm an cdv ct), osl⟩) (c : PySem.W.codeIn K cdv q = true) (k : PySem.W.keepIn K (.ref f) = true) : FnKM K C x q st f := ⟨a, i, ⟨_, fun_mk l c k⟩, k⟩
end
theorem all_mk (main : ∀ ns : List Int, ns.length ≤ 63 → (∀ z ∈ ns, Builtin.Int.intBits z ≤ 1048576) → p_law ns = some true) {l : PySem.W.OpenLaw} {w : World} {K : PySem.W.Frag} {h : Heap} {mg : Str → Option Value} {fa WC f0 f1 f2 f3 f4 f5 f6 f7 f8 f9 f10 f11 f12 f13 f14 f15 f16 f17 f18 f19 f20 : Addr} (X : K.In h) (G : h.Ns mainGlobals mg) (hfa : mg "law" = some (.ref fa))
    {t_LETTERS t_FIGURES t_MOST_POINTS t_MOST_NAMES : Tok} {od20 an20 : Option Addr} {sl20 : Array (Option Value)} {oc20 kV20 dc20 pm20 cd20 ct20 : Value}
    (nN : PySem.W.nsIn K mainGlobals "nearest" = some none)
    (aC_Web : PySem.W.nsIn K mainGlobals "Web" = some (some (.ref WC)))
    (pg_Web : PySem.W.plainGet K WC Str.empty = true)
    (hd_Web : PySem.W.hasDictIn K WC = true)
    (po_Web : PySem.W.plainOver K WC = true)
    (sa_Web : PySem.W.findIn K (.ref WC) "__setattr__" = some (some (.builtin "object.__setattr__")))
    (mk_Web : PySem.W.makesIn K WC = true)
    (kc_Web : PySem.W.keepIn K (.ref WC) = true)
    (oi_1 : PySem.W.findIn K (.ref WC) "__class__" = some (some (.builtin "object.__class__")))
    (oi_2 : PySem.W.specialIn K (.builtin "object.__class__") "__get__" = some (some (.builtin "getset_descriptor.__get__")))
    (oi_3 : PySem.W.takesIn K (.builtin "object.__class__") = some true)
    (oi_4 : PySem.W.mroIn K WC (.type "object") = some true)
    (nA_Web_many : PySem.W.findIn K (.ref WC) "many" = some none)
    (nA_Web_table : PySem.W.findIn K (.ref WC) "table" = some none)
    (nA_Web_ends : PySem.W.findIn K (.ref WC) "ends" = some none)
    (cN_LETTERS : PySem.W.nsIn K mainGlobals "LETTERS" = some (some (.str "abcdefghijklmnopqrstuvwxyz" t_LETTERS)))
    (cN_FIGURES : PySem.W.nsIn K mainGlobals "FIGURES" = some (some (.str "0123456789" t_FIGURES)))
    (cN_MOST_POINTS : PySem.W.nsIn K mainGlobals "MOST_POINTS" = some (some (.int (24) t_MOST_POINTS)))
    (cN_MOST_NAMES : PySem.W.nsIn K mainGlobals "MOST_NAMES" = some (some (.int (24) t_MOST_NAMES)))
    (h0 : FnKM K WC "__init__" "Web.__init__" s_Web_init f0)
    (h1 : FnKM K WC "size" "Web.size" s_Web_size f1)
    (h2 : FnKM K WC "ties" "Web.ties" s_Web_ties f2)
    (h3 : FnK K "is_name" "is_name" "is_name" s_is_name f3)
    (h4 : FnK K "is_number" "is_number" "is_number" s_is_number f4)
    (h5 : FnK K "place_of" "place_of" "place_of" s_place_of f5)
    (h6 : FnK K "tie_of" "tie_of" "tie_of" s_tie_of f6)
    (h7 : FnK K "read" "read" "read" s_read f7)
    (h8 : FnK K "shown" "shown" "shown" s_shown f8)
    (h9 : FnK K "_law_cell_at" "_law_cell_at" "_law_cell_at" s_law_cell_at f9)
    (h10 : FnK K "_law_whole" "_law_whole" "_law_whole" s_law_whole f10)
    (h11 : FnK K "_law_mixed" "_law_mixed" "_law_mixed" s_law_mixed f11)
    (h12 : FnK K "_law_letter" "_law_letter" "_law_letter" s_law_letter f12)
    (h13 : FnK K "_law_word" "_law_word" "_law_word" s_law_word f13)
    (h14 : FnK K "_law_other_word" "_law_other_word" "_law_other_word" s_law_other_word f14)
    (h15 : FnK K "_law_names" "_law_names" "_law_names" s_law_names f15)
    (h16 : FnK K "_law_heavy" "_law_heavy" "_law_heavy" s_law_heavy f16)
    (h17 : FnK K "_law_things" "_law_things" "_law_things" s_law_things f17)
    (h18 : FnK K "_law_written" "_law_written" "_law_written" s_law_written f18)
    (h19 : FnK K "_law_right" "_law_right" "_law_right" s_law_right f19)
    (a20 : PySem.W.nsIn K mainGlobals "law" = some (some (.ref f20)))
    (l20 : K.lookup f20 = some ⟨oc20, od20, .func (PySem.W.fnOf "law" "law" (defArgs s_law) (defBody s_law) (defScope s_law) .none kV20 dc20 pm20 an20 cd20 ct20), sl20⟩)
    (c20 : PySem.W.codeIn K cd20 "law" = true)
    (k20 : PySem.W.keepIn K (.ref f20) = true)
    (z_len : PySem.W.nsIn K mainGlobals "len" = some none)
    (z_min : PySem.W.nsIn K mainGlobals "min" = some none)
    (z_max : PySem.W.nsIn K mainGlobals "max" = some none)
    (z_sum : PySem.W.nsIn K mainGlobals "sum" = some none)
    (z_sorted : PySem.W.nsIn K mainGlobals "sorted" = some none)
    (z_list : PySem.W.nsIn K mainGlobals "list" = some none)
    (z_range : PySem.W.nsIn K mainGlobals "range" = some none)
    (z_zip : PySem.W.nsIn K mainGlobals "zip" = some none)
    (z_enumerate : PySem.W.nsIn K mainGlobals "enumerate" = some none)
    (z_abs : PySem.W.nsIn K mainGlobals "abs" = some none)
    (z_int : PySem.W.nsIn K mainGlobals "int" = some none)
    (z_isinstance : PySem.W.nsIn K mainGlobals "isinstance" = some none)
    (z_bool : PySem.W.nsIn K mainGlobals "bool" = some none)
    (z_tuple : PySem.W.nsIn K mainGlobals "tuple" = some none)
    (z_str : PySem.W.nsIn K mainGlobals "str" = some none)
    (z_set : PySem.W.nsIn K mainGlobals "set" = some none)
    (z_all : PySem.W.nsIn K mainGlobals "all" = some none)
    (z_any : PySem.W.nsIn K mainGlobals "any" = some none)
    (z_reversed : PySem.W.nsIn K mainGlobals "reversed" = some none)
    (z_dict : PySem.W.nsIn K mainGlobals "dict" = some none) :
    ∃ fd : FuncData, (∀ (s : Shared) (v : Value), BindsTo s fd ⟨[v], []⟩ [("_law_script", v)]) ∧ ∀ base : Heap, K.In base → base.Ns mainGlobals mg → FnOk l.prog w K mg base CX0 5 fa fd ["_law_script"] (spLaw K) := by
  have e := hfa.symm.trans (PySem.W.mg_of X G a20)
  cases e
  have hB : Blts mg := ⟨PySem.W.mg_none_of X G z_len, PySem.W.mg_none_of X G z_min, PySem.W.mg_none_of X G z_max, PySem.W.mg_none_of X G z_sum, PySem.W.mg_none_of X G z_sorted, PySem.W.mg_none_of X G z_list, PySem.W.mg_none_of X G z_range, PySem.W.mg_none_of X G z_zip, PySem.W.mg_none_of X G z_enumerate, PySem.W.mg_none_of X G z_abs, PySem.W.mg_none_of X G z_int, PySem.W.mg_none_of X G z_isinstance, PySem.W.mg_none_of X G z_bool, PySem.W.mg_none_of X G z_tuple, PySem.W.mg_none_of X G z_str, PySem.W.mg_none_of X G z_set, PySem.W.mg_none_of X G z_all, PySem.W.mg_none_of X G z_any, PySem.W.mg_none_of X G z_reversed, PySem.W.mg_none_of X G z_dict⟩
  have T : WebK K mg WC := ⟨⟨pg_Web, hd_Web, po_Web, sa_Web⟩, nA_Web_many, nA_Web_table, nA_Web_ends, ⟨_, PySem.W.mg_of X G cN_MOST_POINTS⟩, ⟨_, PySem.W.mg_of X G cN_MOST_NAMES⟩, ⟨_, PySem.W.mg_of X G cN_LETTERS⟩, ⟨_, PySem.W.mg_of X G cN_FIGURES⟩, ⟨oi_1, oi_2, oi_3, oi_4⟩, PySem.W.mg_of X G aC_Web⟩
  obtain ⟨fd0, F0⟩ := h0.fn
  have b0 := F0.binds (ps := ["self", "many", "ties"]) fun _ _ _ _ _ _ us hl => match us, hl with | [_, _, _], _ => rfl
  obtain ⟨fd1, F1⟩ := h1.fn
  have b1 := F1.binds (ps := ["self"]) fun _ _ _ _ _ _ us hl => match us, hl with | [_], _ => rfl
  obtain ⟨fd2, F2⟩ := h2.fn
  have b2 := F2.binds (ps := ["self"]) fun _ _ _ _ _ _ us hl => match us, hl with | [_], _ => rfl
  obtain ⟨fd3, F3⟩ := h3.fn
  have b3 := F3.binds (ps := ["word"]) fun _ _ _ _ _ _ us hl => match us, hl with | [_], _ => rfl
  obtain ⟨fd4, F4⟩ := h4.fn
  have b4 := F4.binds (ps := ["word"]) fun _ _ _ _ _ _ us hl => match us, hl with | [_], _ => rfl
  obtain ⟨fd5, F5⟩ := h5.fn
  have b5 := F5.binds (ps := ["names", "name"]) fun _ _ _ _ _ _ us hl => match us, hl with | [_, _], _ => rfl
  obtain ⟨fd6, F6⟩ := h6.fn
  have b6 := F6.binds (ps := ["thing", "names", "seen"]) fun _ _ _ _ _ _ us hl => match us, hl with | [_, _, _], _ => rfl
  obtain ⟨fd7, F7⟩ := h7.fn
  have b7 := F7.binds (ps := ["text"]) fun _ _ _ _ _ _ us hl => match us, hl with | [_], _ => rfl
  obtain ⟨fd8, F8⟩ := h8.fn
  have b8 := F8.binds (ps := ["names", "web"]) fun _ _ _ _ _ _ us hl => match us, hl with | [_, _], _ => rfl
  obtain ⟨fd9, F9⟩ := h9.fn
  have b9 := F9.binds (ps := ["_law_script", "_law_k"]) fun _ _ _ _ _ _ us hl => match us, hl with | [_, _], _ => rfl
  obtain ⟨fd10, F10⟩ := h10.fn
  have b10 := F10.binds (ps := ["_law_found"]) fun _ _ _ _ _ _ us hl => match us, hl with | [_], _ => rfl
  obtain ⟨fd11, F11⟩ := h11.fn
  have b11 := F11.binds (ps := ["_law_cell", "_law_factor"]) fun _ _ _ _ _ _ us hl => match us, hl with | [_, _], _ => rfl
  obtain ⟨fd12, F12⟩ := h12.fn
  have b12 := F12.binds (ps := ["_law_number"]) fun _ _ _ _ _ _ us hl => match us, hl with | [_], _ => rfl
  obtain ⟨fd13, F13⟩ := h13.fn
  have b13 := F13.binds (ps := ["_law_number"]) fun _ _ _ _ _ _ us hl => match us, hl with | [_], _ => rfl
  obtain ⟨fd14, F14⟩ := h14.fn
  have b14 := F14.binds (ps := ["_law_word_here", "_law_number"]) fun _ _ _ _ _ _ us hl => match us, hl with | [_, _], _ => rfl
  obtain ⟨fd15, F15⟩ := h15.fn
  have b15 := F15.binds (ps := ["_law_cell", "_law_many"]) fun _ _ _ _ _ _ us hl => match us, hl with | [_, _], _ => rfl
  obtain ⟨fd16, F16⟩ := h16.fn
  have b16 := F16.binds (ps := ["_law_cell", "_law_way"]) fun _ _ _ _ _ _ us hl => match us, hl with | [_, _], _ => rfl
  obtain ⟨fd17, F17⟩ := h17.fn
  have b17 := F17.binds (ps := ["_law_script", "_law_pool", "_law_way"]) fun _ _ _ _ _ _ us hl => match us, hl with | [_, _, _], _ => rfl
  obtain ⟨fd18, F18⟩ := h18.fn
  have b18 := F18.binds (ps := ["_law_names_here", "_law_rows"]) fun _ _ _ _ _ _ us hl => match us, hl with | [_, _], _ => rfl
  obtain ⟨fd19, F19⟩ := h19.fn
  have b19 := F19.binds (ps := ["_law_found", "_law_names_here", "_law_rows"]) fun _ _ _ _ _ _ us hl => match us, hl with | [_, _, _], _ => rfl
  have F20 := fun_mk (st := s_law) l20 c20 k20
  refine ⟨PySem.W.fnOf "law" "law" (defArgs s_law) (defBody s_law) (defScope s_law) .none kV20 dc20 pm20 an20 cd20 ct20, fun s v => .of_eq rfl, fun base _ _ => ?_⟩
  have G_new_Web : NewD l.prog w K mg base 1 WC "Web" 3 I_Web := ⟨f0, _, _, ⟨mk_Web, h0.a, h0.i, kc_Web⟩, PySem.W.mg_of X G aC_Web, (ok_Web_init F0 hB T), b0⟩
  have G_Web_size : MetD l.prog w K mg base 1 WC "size" 1 (R_Web_size WC) := ⟨f1, _, _, ⟨h1.a, h1.i, h1.k⟩, (ok_Web_size F1 hB T), b1⟩
  have G_Web_ties : MetD l.prog w K mg base 1 WC "ties" 1 (R_Web_ties WC) := ⟨f2, _, _, ⟨h2.a, h2.i, h2.k⟩, (ok_Web_ties F2 hB T), b2⟩
  have G_is_name : FnD l.prog w K mg base 1 "is_name" 1 (R_is_name WC) := fnD_of (ok_is_name F3 hB T) (PySem.W.mg_of X G h3.a) h3.k b3
  have G_is_number : FnD l.prog w K mg base 1 "is_number" 1 (R_is_number WC) := fnD_of (ok_is_number F4 hB T) (PySem.W.mg_of X G h4.a) h4.k b4
  have G_place_of : FnM l.prog w K mg base 1 "place_of" [true, false] (R_place_of WC) := fnM_of (ok_place_of F5 hB T) (PySem.W.mg_of X G h5.a) h5.k b5
  have G_law_cell_at : FnD l.prog w K mg base 1 "_law_cell_at" 2 (R_law_cell_at WC) := fnD_of (ok_law_cell_at F9 hB T) (PySem.W.mg_of X G h9.a) h9.k b9
  have G_law_whole : FnD l.prog w K mg base 1 "_law_whole" 1 (R_law_whole WC) := fnD_of (ok_law_whole F10 hB T) (PySem.W.mg_of X G h10.a) h10.k b10
  have G_law_mixed : FnD l.prog w K mg base 1 "_law_mixed" 2 (R_law_mixed WC) := fnD_of (ok_law_mixed F11 hB T) (PySem.W.mg_of X G h11.a) h11.k b11
  have G_law_letter : FnD l.prog w K mg base 1 "_law_letter" 1 (R_law_letter WC) := fnD_of (ok_law_letter F12 hB T) (PySem.W.mg_of X G h12.a) h12.k b12
  have G_law_written : FnD l.prog w K mg base 1 "_law_written" 2 (R_law_written WC) := fnD_of (ok_law_written F18 hB T) (PySem.W.mg_of X G h18.a) h18.k b18
  have G_tie_of : FnM l.prog w K mg base 2 "tie_of" [false, true, true] (R_tie_of WC) := fnM_of (ok_tie_of F6 hB T G_is_name G_is_number G_place_of) (PySem.W.mg_of X G h6.a) h6.k b6
  have G_shown : FnD l.prog w K mg base 2 "shown" 2 (R_shown WC) := fnD_of (ok_shown F8 hB T G_Web_ties) (PySem.W.mg_of X G h8.a) h8.k b8
  have G_law_word : FnD l.prog w K mg base 2 "_law_word" 1 (R_law_word WC) := fnD_of (ok_law_word F13 hB T G_law_mixed G_law_letter) (PySem.W.mg_of X G h13.a) h13.k b13
  have G_law_heavy : FnD l.prog w K mg base 2 "_law_heavy" 2 (R_law_heavy WC) := fnD_of (ok_law_heavy F16 hB T G_law_mixed) (PySem.W.mg_of X G h16.a) h16.k b16
  have G_law_right : FnD l.prog w K mg base 2 "_law_right" 3 (R_law_right WC) := fnD_of (ok_law_right F19 hB T G_law_whole G_Web_size G_Web_ties) (PySem.W.mg_of X G h19.a) h19.k b19
  have G_read : FnD l.prog w K mg base 3 "read" 1 (R_read WC) := fnD_of (ok_read F7 hB T G_is_name G_tie_of G_new_Web) (PySem.W.mg_of X G h7.a) h7.k b7
  have G_law_other_word : FnD l.prog w K mg base 3 "_law_other_word" 2 (R_law_other_word WC) := fnD_of (ok_law_other_word F14 hB T G_law_letter G_law_word) (PySem.W.mg_of X G h14.a) h14.k b14
  have G_law_things : FnD l.prog w K mg base 3 "_law_things" 3 (R_law_things WC) := fnD_of (ok_law_things F17 hB T G_law_mixed G_law_heavy) (PySem.W.mg_of X G h17.a) h17.k b17
  have G_law_names : FnD l.prog w K mg base 4 "_law_names" 2 (R_law_names WC) := fnD_of (ok_law_names F15 hB T G_law_mixed G_law_word G_law_other_word) (PySem.W.mg_of X G h15.a) h15.k b15
  exact (ok_law F20 hB T G_law_cell_at G_law_names G_law_things G_read G_law_right G_law_written G_shown G_new_Web).imp (law_sp nN main)
end Pr
open PySem PySem.W PyProof.Rows
set_option maxRecDepth 100000 in
set_option maxHeartbeats 0 in
theorem PySem.Challenge.cw_pairsheath_k91_texts_holds : PySem.Challenge.rw_pairsheath_k91_texts.Holds := by
  w_on; o_law; k_head; (case hw => w_witness2)
  k_fill
  refine L2.walk_ofB (l := PySem.Challenge.rw_pairsheath_k91_texts) (n := 63) (k := 5) (x := "_law_script") (CX := fun _ => L2.CX0) (sp := fun w => Pr.spLaw _) rfl (by decide) rfl ⟨rfl, by decide, by decide⟩ (fun w h Y => PySem.W.kIn_of Y) ?F (fun _ H a ns hl hb hO hS => ⟨a, ns, rfl, Ev.KSeq.of hS (fun xs e => by rcases hO a with q | ⟨o, ys, q⟩ <;> (rw [q] at e; cases e)), hl, hb, fun _ => rfl⟩) (fun _ _ _ _ _ h => h)
  case F =>
    intro w mg fa h KX G hmg
    refine' Pr.all_mk Pr.main KX G hmg ?nN ?aC_Web ?pg_Web ?hd_Web ?po_Web ?sa_Web ?mk_Web ?kc_Web ?oi_1 ?oi_2 ?oi_3 ?oi_4 ?nA_Web_many ?nA_Web_table ?nA_Web_ends ?cN_LETTERS ?cN_FIGURES ?cN_MOST_POINTS ?cN_MOST_NAMES ?h0 ?h1 ?h2 ?h3 ?h4 ?h5 ?h6 ?h7 ?h8 ?h9 ?h10 ?h11 ?h12 ?h13 ?h14 ?h15 ?h16 ?h17 ?h18 ?h19 ?a20 ?l20 ?c20 ?k20 ?z_len ?z_min ?z_max ?z_sum ?z_sorted ?z_list ?z_range ?z_zip ?z_enumerate ?z_abs ?z_int ?z_isinstance ?z_bool ?z_tuple ?z_str ?z_set ?z_all ?z_any ?z_reversed ?z_dict
    (case nN|aC_Web|pg_Web|hd_Web|po_Web|sa_Web|mk_Web|kc_Web|oi_1|oi_2|oi_3|oi_4|nA_Web_many|nA_Web_table|nA_Web_ends|cN_LETTERS|cN_FIGURES|cN_MOST_POINTS|cN_MOST_NAMES => k_is)
    (case h0|h1|h2 => (refine' Pr.FnKM.mk' ?a ?i ?l ?c ?k; (case a|i|l|c|k => k_is)))
    (case h3|h4|h5|h6|h7|h8|h9|h10|h11|h12|h13|h14|h15|h16|h17|h18|h19 => (refine' Pr.FnK.mk' ?a ?l ?c ?k; (case a|l|c|k => k_is)))
    (case a20|l20|c20|k20|z_len|z_min|z_max|z_sum|z_sorted|z_list|z_range|z_zip|z_enumerate|z_abs|z_int|z_isinstance|z_bool|z_tuple|z_str|z_set|z_all|z_any|z_reversed|z_dict => k_is)
