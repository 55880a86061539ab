import PyProof.Rows.All
import Wide.All
import OpenK.AllK
import Wide.FinOn
import HandS.ForMost
import HandS.Deep
import HandS.Wide
import HandS.Lambda
import KE.KNestM
import HandS.TupLe
import HandS.SortOrd
import HandS.SortRule
import HandS.SortInts
import HandS.IsInst
import HandS.Style
import HandS.More
import HandS.SetFor
import HandS.DictTup
import PyProof.Rows.SetFrom
import HandS.Rev
import HandS.Conv
import PyProof.DictMoreH
import HandS.SetKeys
import PyProof.P3In
import HandS.Zip
import HandS.ExcIs
import HandS.WordsExc
import HandS.Exc
import HandS.ExcOwn
import HandS.TryMany
import HandS.Set
import HandS.TupSets
import KE.DatumOrd
import HandS.SortKw
import KE.KDictOf
import KE.KDictCopyH
import KE.DataMinKey
import HandS.EndTab
import KE.KDictSum
import HandS.TupLen
import HandS.Defaults
import KE.SortData
import HandS.EndBits
import PySem.Challenge.RW_pairsheath_k71_ways_walked
set_option Elab.async false
set_option linter.all false
set_option maxRecDepth 100000
namespace Ev
open PySem PySem.Spec L2
open PyProof.Rows hiding St
inductive D where
  | non | bl (b : Bool) | int (i : Int) | str (x : Str)
  | tup (xs : List D) | lst (xs : List D) | fl (xs : List D)
  | dk (kvs : List (Key × D)) | dt (kvs : List (List Key × D))
  | ins (C : Addr) (fs : List (Str × D)) | obj (C dx : Addr) (fs : List (Str × D))
  
  | any
  
  | exc (a : Addr)
  
  | sh (d : D)
inductive Lv where
  | shr | top | full
  deriving DecidableEq
def ch : Lv → Lv
  | .full => .full
  | _ => .shr
mutual

def imm : D → Bool
  | .non => true | .bl _ => true | .int _ => true | .str _ => true
  | .tup xs => immAll xs | .fl xs => immAll xs
  | _ => false
def immAll : List D → Bool
  | [] => true
  | d :: ds => imm d && immAll ds
end
inductive Node : D → HO → List V → List D → Prop
  | lst {vs : List V} {ds : List D} : Node (.lst ds) (.lst vs) vs ds
  | dk {kv : List (Key × V)} {kd : List (Key × D)} : kv.map (·.1) = kd.map (·.1) → Node (.dk kd) (.dK kv) (kv.map (·.2)) (kd.map (·.2))
  | dt {kv : List (List Key × V)} {kd : List (List Key × D)} : kv.map (·.1) = kd.map (·.1) → Node (.dt kd) (.dT kv) (kv.map (·.2)) (kd.map (·.2))
  | ins {C dx : Addr} {fv : List (Str × V)} {fd : List (Str × D)} : fv.map (·.1) = fd.map (·.1) → Node (.ins C fd) (.ins C dx fv) (fv.map (·.2)) (fd.map (·.2))
  | obj {C dx : Addr} {fv : List (Str × V)} {fd : List (Str × D)} : fv.map (·.1) = fd.map (·.1) → Node (.obj C dx fd) (.ins C dx fv) (fv.map (·.2)) (fd.map (·.2))
def NT : HO → Prop
  | .tbl _ => False
  | _ => True
def NE : HO → Prop
  | .tbl _ => False
  | .ext _ => False
  | _ => True
theorem ne_nt {o : HO} (h : NE o) : NT o := by cases o <;> first | trivial | exact h
def KSeq (K : PySem.W.Frag) (H : Hp) (a : Addr) (xs : List V) : Prop :=
  (∃ o, H a = some (.frz o (.lst xs))) ∨ ∃ (o : Obj) (its : Array Value) (n : Nat), K.lookup a = some o ∧ o.cls = .type "list" ∧ o.dict = none ∧ o.data = .seq its n ∧ its.size ≤ sizeLine ∧ Vals xs its.toList
def RdN (H : Hp) (a : Addr) (o : HO) : Prop := H a = some o ∨ (∃ od, H a = some (.frz od o)) ∧ ((∃ kv, o = .dK kv) ∨ ∃ kv, o = .dT kv)
theorem RdN.rd {H : Hp} {a : Addr} {o : HO} (h : RdN H a o) : Rd H a o := h.imp id And.left
theorem RdN.ne {H : Hp} {a : Addr} {o : HO} (h : RdN H a o) : H a ≠ none := fun e => by
  rcases h with h | ⟨⟨od, h⟩, _⟩ <;> (rw [e] at h; cases h)
theorem RdN.lst {H : Hp} {a : Addr} {vs : List V} (h : RdN H a (.lst vs)) : H a = some (.lst vs) := by
  rcases h with h | ⟨_, ⟨_, h⟩ | ⟨_, h⟩⟩
  · exact h
  · cases h
  · cases h
theorem RdN.ins {H : Hp} {a C dx : Addr} {fv : List (Str × V)} (h : RdN H a (.ins C dx fv)) : H a = some (.ins C dx fv) := by
  rcases h with h | ⟨_, ⟨_, h⟩ | ⟨_, h⟩⟩
  · exact h
  · cases h
  · cases h
theorem RdN.keepN {H H' : Hp} {a : Addr} {o : HO} (h : RdN H a o) (n : NT o) (k : ∀ o', H a = some o' → NT o' → H' a = some o') : RdN H' a o := by
  rcases h with h | ⟨⟨od, h⟩, q⟩
  · exact .inl (k _ h n)
  · exact .inr ⟨⟨od, k _ h trivial⟩, q⟩
theorem node_nt {d : D} {o : HO} {vs : List V} {ds : List D} (h : Node d o vs ds) : NT o := by cases h <;> trivial
theorem node_ne {d : D} {o : HO} {vs : List V} {ds : List D} (h : Node d o vs ds) : NE o := by cases h <;> trivial
theorem RdN.imp {H H' : Hp} {a : Addr} {o : HO} (h : RdN H a o) (k : ∀ o', H a = some o' → H' a = some o') : RdN H' a o := by
  rcases h with h | ⟨⟨od, h⟩, q⟩
  · exact .inl (k _ h)
  · exact .inr ⟨⟨od, k _ h⟩, q⟩
mutual

inductive Rp (K : PySem.W.Frag) (S : Addr → Prop) (H : Hp) : Lv → V → D → List Addr → Prop
  | any {l : Lv} {v : V} : Rp K S H l v .any []
  | exc {l : Lv} {a : Addr} : Rp K S H l (.ref a) (.exc a) []
  | sh {l : Lv} {v : V} {d : D} : Rp K S H .shr v d [] → Rp K S H l v (.sh d) []
  | non {l : Lv} : Rp K S H l .non .non []
  | bl {l : Lv} {b : Bool} : Rp K S H l (.bl b) (.bl b) []
  | int {l : Lv} {i : Int} : Rp K S H l (.int i) (.int i) []
  | str {l : Lv} {x : Str} : Rp K S H l (.str x) (.str x) []
  | tup {l : Lv} {a : Addr} {vs : List V} {ds : List D} {F : List Addr} : H a = some (.tup vs) → Rps K S H l vs ds F → Rp K S H l (.ref a) (.tup ds) F
  | fl {l : Lv} {a : Addr} {vs : List V} {ds : List D} : KSeq K H a vs → Rps K S H .shr vs ds [] → Rp K S H l (.ref a) (.fl ds) []
  | nd0 {a : Addr} {o : HO} {d : D} {vs : List V} {ds : List D} : Node d o vs ds → RdN H a o → S a → Rps K S H .shr vs ds [] → Rp K S H .shr (.ref a) d []
  | nd1 {l : Lv} {a : Addr} {o : HO} {d : D} {vs : List V} {ds : List D} {F : List Addr} : l ≠ .shr → Node d o vs ds → H a = some o → Rps K S H (ch l) vs ds F → Rp K S H l (.ref a) d (a :: F)
inductive Rps (K : PySem.W.Frag) (S : Addr → Prop) (H : Hp) : Lv → List V → List D → List Addr → Prop
  | nil {l : Lv} : Rps K S H l [] [] []
  | cons {l : Lv} {v : V} {d : D} {vs : List V} {ds : List D} {F G : List Addr} : Rp K S H l v d F → Rps K S H l vs ds G → Rps K S H l (v :: vs) (d :: ds) (F ++ G)
end
section
variable {K : PySem.W.Frag} {S S' : Addr → Prop} {H H' : Hp} {l : Lv} {v : V} {d : D} {F : List Addr}
mutual
theorem Rp.shr0 : ∀ {v : V} {d : D} {F : List Addr}, Rp K S H .shr v d F → F = []
  | _, _, _, .any => rfl
  | _, _, _, .exc => rfl
  | _, _, _, .sh _ => rfl
  | _, _, _, .non => rfl
  | _, _, _, .bl => rfl
  | _, _, _, .int => rfl
  | _, _, _, .str => rfl
  | _, _, _, .tup _ h => Rps.shr0 h
  | _, _, _, .fl _ _ => rfl
  | _, _, _, .nd0 _ _ _ _ => rfl
  | _, _, _, .nd1 h _ _ _ => absurd rfl h
theorem Rps.shr0 : ∀ {vs : List V} {ds : List D} {F : List Addr}, Rps K S H .shr vs ds F → F = []
  | _, _, _, .nil => rfl
  | _, _, _, .cons h1 h2 => by rw [Rp.shr0 h1, Rps.shr0 h2]; rfl
end
def qN : Str := "nearest.<locals>.<lambda>"
def TbQ (H : Hp) (P : Addr) (q : Str) : Prop := q = qN ∧ LamX.TabS H P q
theorem TbQ.ext {H H' : Hp} {P : Addr} {q : Str} (t : TbQ H P q) (e : ∀ b o, H b = some o → H' b = some o) : TbQ H' P q := ⟨t.1, t.2.ext e⟩
structure Same (H H' : Hp) : Prop where
  k : ∀ b o, H b = some o → NT o → H' b = some o
  f : ∀ b, H' b = none → H b = none
  t : ∀ P q, TbQ H P q → TbQ H' P q
theorem Same.free {H H' : Hp} (e : Same H H') {l : Addr} (h : H' l = none) : H l = none := e.f l h
theorem Same.of {H H' : Hp} (s : L2.Same H H') : Same H H' := ⟨fun b o e _ => s b o e, fun _ e => s.free e, fun _ _ t => t.ext s⟩
theorem Same.refl (H : Hp) : Same H H := .of (L2.Same.refl H)
theorem Same.trans {H H1 H2 : Hp} (a : Same H H1) (b : Same H1 H2) : Same H H2 := ⟨fun c o e n => b.k c o (a.k c o e n) n, fun c e => a.f c (b.f c e), fun P q t => b.t P q (a.t P q t)⟩
theorem same_upd {H : Hp} {p : Addr} {o : HO} (h : H p = none) : Same H (upd H p o) := .of fun b x e => by
  rw [upd_ne fun z => by rw [z, h] at e; cases e]
  exact e
theorem tabS_upd {H : Hp} {a P : Addr} {o o' : HO} {q : Str} (e : H a = some o) (ne : NE o) (t : TbQ H P q) : TbQ (upd H a o') P q := by
  obtain ⟨hq, ps, h1, h2, h3⟩ := t
  refine ⟨hq, ps, ?_, h2, fun pos cv hc => ?_⟩
  · rw [upd_ne fun z => ?_]
    · exact h1
    · rw [z, e] at h1; cases h1; exact ne
  · obtain ⟨c, e1, e2⟩ := h3 pos cv hc
    refine ⟨c, e1, ?_⟩
    rw [upd_ne fun z => ?_]
    · exact e2
    · rw [z, e] at e2
      unfold LamX.CodeO at e2
      cases e2
      exact ne
theorem Same.upd_new {H H' : Hp} {A : Addr} {o o' : HO} (s : Same H H') (nA : H A = none) (e : H' A = some o) (ne : NE o) : Same H (upd H' A o') :=
  ⟨fun b u eb n => by rw [upd_ne fun z => by rw [z, nA] at eb; cases eb]; exact s.k b u eb n, fun b eb => by
    by_cases z : b = A
    · rw [z]; exact nA
    · rw [upd_ne z] at eb; exact s.f b eb, fun P q t => tabS_upd e ne (s.t P q t)⟩
def Keeps (S : Addr → Prop) (F : List Addr) (H H' : Hp) : Prop :=
  ∀ b o, H b = some o → NT o → (S b ∨ b ∈ F ∨ (∃ xs, o = .tup xs) ∨ ∃ o' u, o = .frz o' u) → H' b = some o
theorem Keeps.sub {F G : List Addr} (k : Keeps S G H H') (h : ∀ a ∈ F, a ∈ G) : Keeps S F H H' := fun b o e n q =>
  k b o e n (q.imp id fun q => q.imp (h b) id)
theorem Keeps.same (h : Same H H') : Keeps S F H H' := fun b o e n _ => h.k b o e n
theorem kseq_keep {a : Addr} {vs : List V} (r : KSeq K H a vs) (k : Keeps S F H H') : KSeq K H' a vs := by
  rcases r with ⟨o, e⟩ | r
  · exact .inl ⟨o, k a _ e trivial (.inr (.inr (.inr ⟨_, _, rfl⟩)))⟩
  · exact .inr r
theorem KSeq.sq {a : Addr} {vs : List V} (r : KSeq K H a vs) : SqL K H a vs := by
  rcases r with r | r
  · exact .inl (.inr r)
  · exact .inr r
theorem KSeq.of {a : Addr} {vs : List V} (r : SqL K H a vs) (h : ∀ xs, H a ≠ some (.lst xs)) : KSeq K H a vs := by
  rcases r with (r | r) | r
  · exact absurd r (h _)
  · exact .inl r
  · exact .inr r
mutual
theorem Rp.keep : ∀ {l : Lv} {v : V} {d : D} {F : List Addr}, Rp K S H l v d F → Keeps S F H H' → Rp K S H' l v d F
  | _, _, _, _, .any, _ => .any
  | _, _, _, _, .exc, _ => .exc
  | _, _, _, _, .sh h1, k => .sh (Rp.keep h1 (k.sub fun _ z => nomatch z))
  | _, _, _, _, .non, _ => .non
  | _, _, _, _, .bl, _ => .bl
  | _, _, _, _, .int, _ => .int
  | _, _, _, _, .str, _ => .str
  | _, _, _, _, .tup h1 h2, k => .tup (k _ _ h1 trivial (.inr (.inr (.inl ⟨_, rfl⟩)))) (Rps.keep h2 k)
  | _, _, _, _, .fl h1 h3, k => .fl (kseq_keep h1 k) (Rps.keep h3 (k.sub fun _ z => nomatch z))
  | _, _, _, _, .nd0 h0 h1 h2 h3, k => .nd0 h0 (h1.keepN (node_nt h0) fun _ e n => k _ _ e n (.inl h2)) h2 (Rps.keep h3 k)
  | _, _, _, _, .nd1 h0 h1 h2 h3, k => .nd1 h0 h1 (k _ _ h2 (node_nt h1) (.inr (.inl List.mem_cons_self))) (Rps.keep h3 (k.sub fun _ z => List.mem_cons_of_mem _ z))
theorem Rps.keep : ∀ {l : Lv} {vs : List V} {ds : List D} {F : List Addr}, Rps K S H l vs ds F → Keeps S F H H' → Rps K S H' l vs ds F
  | _, _, _, _, .nil, _ => .nil
  | _, _, _, _, .cons h1 h2, k => .cons (Rp.keep h1 (k.sub fun _ z => List.mem_append_left _ z)) (Rps.keep h2 (k.sub fun _ z => List.mem_append_right _ z))
end
mutual
theorem Rp.mono (h : ∀ a, S a → S' a) : ∀ {l : Lv} {v : V} {d : D} {F : List Addr}, Rp K S H l v d F → Rp K S' H l v d F
  | _, _, _, _, .any => .any
  | _, _, _, _, .exc => .exc
  | _, _, _, _, .sh h1 => .sh (Rp.mono h h1)
  | _, _, _, _, .non => .non
  | _, _, _, _, .bl => .bl
  | _, _, _, _, .int => .int
  | _, _, _, _, .str => .str
  | _, _, _, _, .tup h1 h2 => .tup h1 (Rps.mono h h2)
  | _, _, _, _, .fl h1 h3 => .fl h1 (Rps.mono h h3)
  | _, _, _, _, .nd0 h0 h1 h2 h3 => .nd0 h0 h1 (h _ h2) (Rps.mono h h3)
  | _, _, _, _, .nd1 h0 h1 h2 h3 => .nd1 h0 h1 h2 (Rps.mono h h3)
theorem Rps.mono (h : ∀ a, S a → S' a) : ∀ {l : Lv} {vs : List V} {ds : List D} {F : List Addr}, Rps K S H l vs ds F → Rps K S' H l vs ds F
  | _, _, _, _, .nil => .nil
  | _, _, _, _, .cons h1 h2 => .cons (Rp.mono h h1) (Rps.mono h h2)
end
mutual

theorem Rp.give (h : ∀ a, S a → S' a) : ∀ {l : Lv} {v : V} {d : D} {F : List Addr}, Rp K S H l v d F → (∀ a ∈ F, S' a) → Rp K S' H .shr v d []
  | _, _, _, _, .any, _ => .any
  | _, _, _, _, .exc, _ => .exc
  | _, _, _, _, .sh h1, _ => .sh (Rp.mono h h1)
  | _, _, _, _, .non, _ => .non
  | _, _, _, _, .bl, _ => .bl
  | _, _, _, _, .int, _ => .int
  | _, _, _, _, .str, _ => .str
  | _, _, _, _, .tup h1 h2, k => .tup h1 (Rps.give h h2 k)
  | _, _, _, _, .fl h1 h3, k => .fl h1 (Rps.mono h h3)
  | _, _, _, _, .nd0 h0 h1 h2 h3, k => .nd0 h0 h1 (h _ h2) (Rps.mono h h3)
  | _, _, _, _, .nd1 h0 h1 h2 h3, k => .nd0 h1 (.inl h2) (k _ List.mem_cons_self) (Rps.give h h3 fun a z => k a (List.mem_cons_of_mem _ z))
theorem Rps.give (h : ∀ a, S a → S' a) : ∀ {l : Lv} {vs : List V} {ds : List D} {F : List Addr}, Rps K S H l vs ds F → (∀ a ∈ F, S' a) → Rps K S' H .shr vs ds []
  | _, _, _, _, .nil, _ => .nil
  | _, _, _, _, .cons h1 h2, k => Rps.cons (F := []) (G := []) (Rp.give h h1 fun a z => k a (List.mem_append_left _ z)) (Rps.give h h2 fun a z => k a (List.mem_append_right _ z))
end
mutual
theorem Rp.of_imm {l' : Lv} : ∀ {l : Lv} {v : V} {d : D} {F : List Addr}, Rp K S H l v d F → imm d = true → F = [] ∧ Rp K S' H l' v d []
  | _, _, _, _, .any, e => by simp [imm] at e
  | _, _, _, _, .exc, e => by simp [imm] at e
  | _, _, _, _, .sh _, e => by simp [imm] at e
  | _, _, _, _, .non, _ => ⟨rfl, .non⟩
  | _, _, _, _, .bl, _ => ⟨rfl, .bl⟩
  | _, _, _, _, .int, _ => ⟨rfl, .int⟩
  | _, _, _, _, .str, _ => ⟨rfl, .str⟩
  | _, _, _, _, .tup h1 h2, e => let ⟨q, r⟩ := Rps.of_imm h2 (by simpa only [imm] using e); ⟨q, .tup h1 r⟩
  | _, _, _, _, .fl h1 h2, e => ⟨rfl, .fl h1 (Rps.of_imm h2 (by simpa only [imm] using e)).2⟩
  | _, _, _, _, .nd0 h _ _ _, e => by cases h <;> (simp only [imm] at e; cases e)
  | _, _, _, _, .nd1 _ h _ _, e => by cases h <;> (simp only [imm] at e; cases e)
theorem Rps.of_imm {l' : Lv} : ∀ {l : Lv} {vs : List V} {ds : List D} {F : List Addr}, Rps K S H l vs ds F → immAll ds = true → F = [] ∧ Rps K S' H l' vs ds []
  | _, _, _, _, .nil, _ => ⟨rfl, .nil⟩
  | _, _, _, _, .cons h1 h2, e => by
    simp only [immAll, Bool.and_eq_true] at e
    obtain ⟨q1, r1⟩ := Rp.of_imm (l' := l') h1 e.1
    obtain ⟨q2, r2⟩ := Rps.of_imm (l' := l') h2 e.2
    exact ⟨by rw [q1, q2]; rfl, Rps.cons (F := []) (G := []) r1 r2⟩
end
theorem Rp.same (h : Rp K S H l v d F) (s : Same H H') : Rp K S H' l v d F := h.keep (.same s)
theorem Rps.same {vs : List V} {ds : List D} (h : Rps K S H l vs ds F) (s : Same H H') : Rps K S H' l vs ds F := h.keep (.same s)
theorem Rps.len : ∀ {vs : List V} {ds : List D} {F : List Addr}, Rps K S H l vs ds F → vs.length = ds.length
  | _, _, _, .nil => rfl
  | _, _, _, .cons _ h => by rw [List.length_cons, List.length_cons, Rps.len h]
theorem Rp.int_inv {i : Int} (h : Rp K S H l v (.int i) F) : v = .int i ∧ F = [] := by
  cases h with
  | int => exact ⟨rfl, rfl⟩
  | nd0 h => cases h
  | nd1 _ h => cases h
theorem Rp.bl_inv {b : Bool} (h : Rp K S H l v (.bl b) F) : v = .bl b ∧ F = [] := by
  cases h with
  | bl => exact ⟨rfl, rfl⟩
  | nd0 h => cases h
  | nd1 _ h => cases h
theorem Rp.str_inv {x : Str} (h : Rp K S H l v (.str x) F) : v = .str x ∧ F = [] := by
  cases h with
  | str => exact ⟨rfl, rfl⟩
  | nd0 h => cases h
  | nd1 _ h => cases h
theorem Rp.non_inv (h : Rp K S H l v .non F) : v = .non ∧ F = [] := by
  cases h with
  | non => exact ⟨rfl, rfl⟩
  | nd0 h => cases h
  | nd1 _ h => cases h
theorem Rp.tup_inv {ds : List D} (h : Rp K S H l v (.tup ds) F) : ∃ a vs, v = .ref a ∧ H a = some (.tup vs) ∧ Rps K S H l vs ds F := by
  cases h with
  | tup h1 h2 => exact ⟨_, _, rfl, h1, h2⟩
  | nd0 h => cases h
  | nd1 _ h => cases h
theorem Rp.lst_inv {ds : List D} (h : Rp K S H l v (.lst ds) F) : ∃ a vs G, v = .ref a ∧ H a = some (.lst vs) ∧ Rps K S H (ch l) vs ds G ∧ (∀ b ∈ G, b ∈ F) ∧ (F.Nodup → G.Nodup) := by
  cases h with
  | nd0 h h1 h2 h3 => cases h; exact ⟨_, _, _, rfl, h1.lst, h3, fun _ z => z, id⟩
  | nd1 h0 h h1 h2 => cases h; exact ⟨_, _, _, rfl, h1, h2, fun _ z => List.mem_cons_of_mem _ z, fun n => (List.nodup_cons.mp n).2⟩
theorem Rp.fl_inv {ds : List D} (h : Rp K S H l v (.fl ds) F) : ∃ a vs, v = .ref a ∧ KSeq K H a vs ∧ Rps K S H .shr vs ds [] ∧ F = [] := by
  cases h with
  | fl h1 h2 => exact ⟨_, _, rfl, h1, h2, rfl⟩
  | nd0 h => cases h
  | nd1 _ h => cases h
mutual
theorem Rp.trk : ∀ {l : Lv} {v : V} {d : D} {F : List Addr}, Rp K S H l v d F → Rp K (fun a => S a ∧ H a ≠ none) H l v d F
  | _, _, _, _, .any => .any
  | _, _, _, _, .exc => .exc
  | _, _, _, _, .sh h1 => .sh (Rp.trk h1)
  | _, _, _, _, .non => .non
  | _, _, _, _, .bl => .bl
  | _, _, _, _, .int => .int
  | _, _, _, _, .str => .str
  | _, _, _, _, .tup h1 h2 => .tup h1 (Rps.trk h2)
  | _, _, _, _, .fl h1 h3 => .fl h1 (Rps.trk h3)
  | _, _, _, _, .nd0 h0 h1 h2 h3 => .nd0 h0 h1 ⟨h2, h1.ne⟩ (Rps.trk h3)
  | _, _, _, _, .nd1 h0 h1 h2 h3 => .nd1 h0 h1 h2 (Rps.trk h3)
theorem Rps.trk : ∀ {l : Lv} {vs : List V} {ds : List D} {F : List Addr}, Rps K S H l vs ds F → Rps K (fun a => S a ∧ H a ≠ none) H l vs ds F
  | _, _, _, _, .nil => .nil
  | _, _, _, _, .cons h1 h2 => .cons (Rp.trk h1) (Rps.trk h2)
end
mutual
theorem Rp.own_trk : ∀ {l : Lv} {v : V} {d : D} {F : List Addr}, Rp K S H l v d F → ∀ a ∈ F, H a ≠ none
  | _, _, _, _, .any => fun _ z => nomatch z
  | _, _, _, _, .exc => fun _ z => nomatch z
  | _, _, _, _, .sh _ => fun _ z => nomatch z
  | _, _, _, _, .non => fun _ z => nomatch z
  | _, _, _, _, .bl => fun _ z => nomatch z
  | _, _, _, _, .int => fun _ z => nomatch z
  | _, _, _, _, .str => fun _ z => nomatch z
  | _, _, _, _, .tup h1 h2 => Rps.own_trk h2
  | _, _, _, _, .fl h1 h3 => fun _ z => nomatch z
  | _, _, _, _, .nd0 h0 h1 h2 h3 => fun _ z => nomatch z
  | _, _, _, _, .nd1 h0 h1 h2 h3 => fun a z => (List.mem_cons.mp z).elim (fun e => by rw [e, h2]; exact fun z => nomatch z) (Rps.own_trk h3 a)
theorem Rps.own_trk : ∀ {l : Lv} {vs : List V} {ds : List D} {F : List Addr}, Rps K S H l vs ds F → ∀ a ∈ F, H a ≠ none
  | _, _, _, _, .nil => fun _ z => nomatch z
  | _, _, _, _, .cons h1 h2 => fun a z => (List.mem_append.mp z).elim (Rp.own_trk h1 a) (Rps.own_trk h2 a)
end
theorem Rps.get : ∀ {vs : List V} {ds : List D} {F : List Addr} {i : Nat} {d : D}, Rps K S H l vs ds F → ds[i]? = some d → ∃ v G, vs[i]? = some v ∧ Rp K S H l v d G ∧ ∀ b ∈ G, b ∈ F
  | _, _, _, _, _, .nil, e => by simp at e
  | _, _, _, 0, _, .cons h1 _, e => by
    simp at e; subst e
    exact ⟨_, _, rfl, h1, fun _ z => List.mem_append_left _ z⟩
  | _, _, _, i + 1, d, .cons _ h2, e => by
    obtain ⟨v, G, e1, r, s⟩ := Rps.get (i := i) (d := d) h2 (by simpa using e)
    exact ⟨v, G, by simpa using e1, r, fun b z => List.mem_append_right _ (s b z)⟩
theorem Rps.app : ∀ {vs : List V} {ds : List D} {F : List Addr} {us : List V} {es : List D} {G : List Addr}, Rps K S H l vs ds F → Rps K S H l us es G → Rps K S H l (vs ++ us) (ds ++ es) (F ++ G)
  | _, _, _, _, _, _, .nil, q => q
  | _, _, _, _, _, _, .cons h1 h2, q => by
    rw [List.append_assoc]
    exact .cons h1 (Rps.app h2 q)
theorem Rps.take : ∀ {vs : List V} {ds : List D} (n : Nat), Rps K S H .shr vs ds [] → Rps K S H .shr (vs.take n) (ds.take n) []
  | _, _, 0, _ => .nil
  | _, _, n + 1, h => by
    generalize hF : ([] : List Addr) = F at h
    cases h with
    | nil => exact .nil
    | cons h1 h2 =>
      have e1 := h1.shr0
      have e2 := h2.shr0
      subst e1 e2
      exact Rps.cons (F := []) (G := []) h1 (Rps.take n h2)
theorem Rps.drop : ∀ {vs : List V} {ds : List D} (n : Nat), Rps K S H .shr vs ds [] → Rps K S H .shr (vs.drop n) (ds.drop n) []
  | _, _, 0, h => h
  | _, _, n + 1, h => by
    generalize hF : ([] : List Addr) = F at h
    cases h with
    | nil => exact .nil
    | cons h1 h2 =>
      have e1 := h1.shr0
      have e2 := h2.shr0
      subst e1 e2
      exact Rps.drop n h2
end
section
variable {K : PySem.W.Frag} {S S' : Addr → Prop} {H H' : Hp} {l : Lv} {v : V} {d : D} {F : List Addr}
theorem mut_ne {a : Addr} (m : Mut (H a)) : H a ≠ none := fun e => by rw [e] at m; exact m
theorem Node.mu {d : D} {o : HO} {vs : List V} {ds : List D} (h : Node d o vs ds) : Mut (some o) := by cases h <;> trivial
mutual
theorem Rp.own_mut : ∀ {l : Lv} {v : V} {d : D} {F : List Addr}, Rp K S H l v d F → ∀ a ∈ F, Mut (H a)
  | _, _, _, _, .any => fun _ z => nomatch z
  | _, _, _, _, .exc => fun _ z => nomatch z
  | _, _, _, _, .sh _ => fun _ z => nomatch z
  | _, _, _, _, .non => fun _ z => nomatch z
  | _, _, _, _, .bl => fun _ z => nomatch z
  | _, _, _, _, .int => fun _ z => nomatch z
  | _, _, _, _, .str => fun _ z => nomatch z
  | _, _, _, _, .tup h1 h2 => Rps.own_mut h2
  | _, _, _, _, .fl h1 h3 => fun _ z => nomatch z
  | _, _, _, _, .nd0 h0 h1 h2 h3 => fun _ z => nomatch z
  | _, _, _, _, .nd1 h0 h1 h2 h3 => fun a z => (List.mem_cons.mp z).elim (fun e => by rw [e, h2]; exact h1.mu) (Rps.own_mut h3 a)
theorem Rps.own_mut : ∀ {l : Lv} {vs : List V} {ds : List D} {F : List Addr}, Rps K S H l vs ds F → ∀ a ∈ F, Mut (H a)
  | _, _, _, _, .nil => fun _ z => nomatch z
  | _, _, _, _, .cons h1 h2 => fun a z => (List.mem_append.mp z).elim (Rp.own_mut h1 a) (Rps.own_mut h2 a)
end
mutual
theorem Rp.own_ne : ∀ {l : Lv} {v : V} {d : D} {F : List Addr}, Rp K S H l v d F → ∀ a ∈ F, ∃ o, H a = some o ∧ NE o
  | _, _, _, _, .any => fun _ z => nomatch z
  | _, _, _, _, .exc => fun _ z => nomatch z
  | _, _, _, _, .sh _ => fun _ z => nomatch z
  | _, _, _, _, .non => fun _ z => nomatch z
  | _, _, _, _, .bl => fun _ z => nomatch z
  | _, _, _, _, .int => fun _ z => nomatch z
  | _, _, _, _, .str => fun _ z => nomatch z
  | _, _, _, _, .tup h1 h2 => Rps.own_ne h2
  | _, _, _, _, .fl h1 h3 => fun _ z => nomatch z
  | _, _, _, _, .nd0 h0 h1 h2 h3 => fun _ z => nomatch z
  | _, _, _, _, .nd1 h0 h1 h2 h3 => fun a z => (List.mem_cons.mp z).elim (fun e => ⟨_, by rw [e]; exact h2, node_ne h1⟩) (Rps.own_ne h3 a)
theorem Rps.own_ne : ∀ {l : Lv} {vs : List V} {ds : List D} {F : List Addr}, Rps K S H l vs ds F → ∀ a ∈ F, ∃ o, H a = some o ∧ NE o
  | _, _, _, _, .nil => fun _ z => nomatch z
  | _, _, _, _, .cons h1 h2 => fun a z => (List.mem_append.mp z).elim (Rp.own_ne h1 a) (Rps.own_ne h2 a)
end
theorem mut_same {a : Addr} (m : Mut (H a)) (s : Same H H') : Mut (H' a) := by
  cases e : H a with
  | none => rw [e] at m; exact m.elim
  | some o =>
    rw [e] at m
    rw [s.k a o e (by cases o <;> first | trivial | exact m)]
    exact m
end
structure Sv where
  d : D
  l : Lv
  al : Bool
  pn : Option Nat
structure Rv where
  d : D
  l : Lv
  al : Bool
  vw : Bool
abbrev Env := List (Option Sv)
structure Nw where
  n : Addr → Prop
  s : Addr → Prop
  p : Nat → Addr
instance : CoeFun Nw fun _ => Addr → Prop := ⟨Nw.n⟩
def AlN (N : Nw) (al : Bool) (a : Addr) : Prop := (N a ∨ N.s a) ∧ (al = false → N a)
theorem AlN.new {N : Nw} {al : Bool} {a : Addr} (h : N a) : AlN N al a := ⟨.inl h, fun _ => h⟩
theorem AlN.up {N : Nw} {al al' : Bool} {a : Addr} (h : AlN N al a) (k : al = true → al' = true) : AlN N al' a := ⟨h.1, fun e => h.2 (by
  cases al with
  | false => rfl
  | true => rw [k rfl] at e; cases e)⟩
def SR (N : Nw) (L : List Addr) (al vw : Bool) : Addr → Prop := fun a => AlN N al a ∧ (vw = false → a ∉ L)
inductive Slots (K : PySem.W.Frag) (N : Nw) (L : List Addr) (H : Hp) : St → Env → List Addr → Prop
  | nil : Slots K N L H [] [] []
  | no {x : Option V} {σ : St} {ρ : Env} {F : List Addr} : Slots K N L H σ ρ F → Slots K N L H (x :: σ) (none :: ρ) F
  | so {v : V} {s : Sv} {σ : St} {ρ : Env} {F G : List Addr} : (∀ k, s.pn = some k → v = .ref (N.p k)) → Rp K (SR N L s.al false) H s.l v s.d F → Slots K N L H σ ρ G → Slots K N L H (some v :: σ) (some s :: ρ) (F ++ G)
def Want (K : PySem.W.Frag) (P : Addr) (q : Str) : Prop := q = qN ∧ ∃ f c fo fd, PySem.W.nsIn K mainGlobals "nearest" = some (some (.ref f)) ∧ K.lookup f = some fo ∧ fo.data = .func fd ∧ fd.code = .ref c ∧ PySem.W.codeHdIn K c P = true
def TBs (K : PySem.W.Frag) (H : Hp) : Prop := ∀ P q, Want K P q → TbQ H P q
theorem TBs.same {K : PySem.W.Frag} {H H' : Hp} (t : TBs K H) (s : Same H H') : TBs K H' := fun P q w => s.t P q (t P q w)
structure KpT (K : PySem.W.Frag) (N : Nw) (H0 H : Hp) : Prop where
  k : ∀ b o, H0 b = some o → ¬ N b → NT o → H b = some o
  t : ∀ P q, TbQ H0 P q → TbQ H P q
  b : TBs K H0
theorem KpT.same {K : PySem.W.Frag} {N : Nw} {H0 H H' : Hp} (s : KpT K N H0 H) (h : Same H H') : KpT K N H0 H' := ⟨fun b o e n m => h.k b o (s.k b o e n m) m, fun P q t => h.t P q (s.t P q t), s.b⟩
theorem KpT.tb {K : PySem.W.Frag} {N : Nw} {H0 H : Hp} (s : KpT K N H0 H) : TBs K H := fun P q w => s.t P q (s.b P q w)
theorem KpT.upd {K : PySem.W.Frag} {N : Nw} {H0 H : Hp} {a : Addr} {o0 o : HO} (s : KpT K N H0 H) (hN : N a) (e0 : H a = some o0) (ne : NE o0) : KpT K N H0 (upd H a o) :=
  ⟨fun b u e n m => by rw [upd_ne (fun z => n (by rw [z]; exact hN))]; exact s.k b u e n m, fun P q t => tabS_upd e0 ne (s.t P q t), s.b⟩
structure Sim (K : PySem.W.Frag) (N : Nw) (H0 : Hp) (ρ : Env) (σ : St) (H : Hp) (L : List Addr) : Prop where
  kp : KpT K N H0 H
  nw : ∀ b, H b = none → N b
  nd : L.Nodup
  ln : ∀ a ∈ L, N a
  mu : ∀ a ∈ L, Mut (H a)
  sl : Slots K N L H σ ρ L
theorem Slots.ne {K : PySem.W.Frag} {N : Nw} {L : List Addr} {H : Hp} : ∀ {σ : St} {ρ : Env} {F : List Addr}, Slots K N L H σ ρ F → ∀ a ∈ F, ∃ o, H a = some o ∧ NE o
  | _, _, _, .nil => fun _ z => nomatch z
  | _, _, _, .no h => Slots.ne h
  | _, _, _, .so _ h1 h2 => fun a z => (List.mem_append.mp z).elim (h1.own_ne a) (Slots.ne h2 a)
theorem Sim.ne {K : PySem.W.Frag} {N : Nw} {H0 H : Hp} {ρ : Env} {σ : St} {L : List Addr} (s : Sim K N H0 ρ σ H L) : ∀ a ∈ L, ∃ o, H a = some o ∧ NE o := s.sl.ne
theorem Sim.th {K : PySem.W.Frag} {N : Nw} {H0 H : Hp} {ρ : Env} {σ : St} {L : List Addr} (s : Sim K N H0 ρ σ H L) : ∀ a ∈ L, H a ≠ none := fun a z => mut_ne (s.mu a z)
section
variable {K : PySem.W.Frag} {N : Nw} {H0 H H' : Hp} {ρ : Env} {σ : St} {L : List Addr}
theorem Slots.keep {L0 : List Addr} : ∀ {σ : St} {ρ : Env} {F : List Addr}, Slots K N L0 H σ ρ F → (∀ al, Keeps (SR N L0 al false) F H H') → Slots K N L0 H' σ ρ F
  | _, _, _, .nil, _ => .nil
  | _, _, _, .no h, k => .no (Slots.keep h k)
  | _, _, _, .so h0 h1 h2, k => .so h0 (h1.keep ((k _).sub fun _ z => List.mem_append_left _ z)) (Slots.keep h2 fun al => (k al).sub fun _ z => List.mem_append_right _ z)
theorem Slots.mono {L0 L1 : List Addr} (h : ∀ a, a ∉ L0 → a ∉ L1) : ∀ {σ : St} {ρ : Env} {F : List Addr}, Slots K N L0 H σ ρ F → Slots K N L1 H σ ρ F
  | _, _, _, .nil => .nil
  | _, _, _, .no s => .no (Slots.mono h s)
  | _, _, _, .so h0 h1 h2 => .so h0 (h1.mono fun a z => ⟨z.1, fun e => h a (z.2 e)⟩) (Slots.mono h h2)
theorem Slots.move {L0 L1 : List Addr} (h : ∀ a, a ∉ L0 → H a ≠ none → a ∉ L1) : ∀ {σ : St} {ρ : Env} {F : List Addr}, Slots K N L0 H σ ρ F → (∀ al, Keeps (SR N L0 al false) F H H') → Slots K N L1 H' σ ρ F
  | _, _, _, .nil, _ => .nil
  | _, _, _, .no s, k => .no (Slots.move h s k)
  | _, _, _, .so h0 h1 h2, k => .so h0 ((h1.trk.keep (F := _) (fun b o e n q => k _ b o e n (q.imp (fun z => z.1) (fun z => z.imp (List.mem_append_left _) id)))).mono fun a z => ⟨z.1.1, fun _ => h a (z.1.2 rfl) z.2⟩) (Slots.move h h2 fun al => (k al).sub fun _ z => List.mem_append_right _ z)
theorem Slots.len {L0 : List Addr} : ∀ {σ : St} {ρ : Env} {F : List Addr}, Slots K N L0 H σ ρ F → σ.length = ρ.length
  | _, _, _, .nil => rfl
  | _, _, _, .no h => by rw [List.length_cons, List.length_cons, Slots.len h]
  | _, _, _, .so _ _ h => by rw [List.length_cons, List.length_cons, Slots.len h]
theorem Sim.same (s : Sim K N H0 ρ σ H L) (h : Same H H') : Sim K N H0 ρ σ H' L where
  kp := s.kp.same h
  nw := fun b e => s.nw b (h.free e)
  nd := s.nd
  ln := s.ln
  mu := fun a ha => mut_same (s.mu a ha) h
  sl := s.sl.keep fun _ => .same h
theorem Slots.get {L0 : List Addr} : ∀ {σ : St} {ρ : Env} {F : List Addr} {i : Nat} {s : Sv}, Slots K N L0 H σ ρ F → ρ[i]? = some (some s) → ∃ v G, σ[i]? = some (some v) ∧ Rp K (SR N L0 s.al false) H s.l v s.d G ∧ (∀ b ∈ G, b ∈ F) ∧ ∀ k, s.pn = some k → v = .ref (N.p k)
  | _, _, _, _, _, .nil, e => by simp at e
  | _, _, _, 0, _, .no _, e => by simp at e
  | _, _, _, i + 1, s, .no h, e => by
    obtain ⟨v, G, e1, r, q⟩ := Slots.get (i := i) (s := s) h (by simpa using e)
    exact ⟨v, G, by simpa using e1, r, q⟩
  | _, _, _, 0, _, .so h0 h _, e => by
    simp at e; subst e
    exact ⟨_, _, rfl, h, fun _ z => List.mem_append_left _ z, h0⟩
  | _, _, _, i + 1, s, .so _ _ h, e => by
    obtain ⟨v, G, e1, r, q, p⟩ := Slots.get (i := i) (s := s) h (by simpa using e)
    exact ⟨v, G, by simpa using e1, r, fun b z => List.mem_append_right _ (q b z), p⟩
theorem Slots.at_ {L0 : List Addr} : ∀ {σ : St} {ρ : Env} {F : List Addr} {i : Nat}, Slots K N L0 H σ ρ F → i < ρ.length →
    ∃ F1 G F2, F = F1 ++ (G ++ F2) ∧ (∀ s, ρ[i]? = some (some s) → ∃ v, σ[i]? = some (some v) ∧ (∀ k, s.pn = some k → v = .ref (N.p k)) ∧ Rp K (SR N L0 s.al false) H s.l v s.d G) ∧
      ∀ {L1 : List Addr} {H1 : Hp} {v : V} {s : Sv} {G' : List Addr}, (∀ al, Keeps (SR N L0 al false) (F1 ++ F2) H H1) → (∀ a, a ∉ L0 → H a ≠ none → a ∉ L1) → (∀ k, s.pn = some k → v = .ref (N.p k)) → Rp K (SR N L1 s.al false) H1 s.l v s.d G' → Slots K N L1 H1 (σ.set i (some v)) (ρ.set i (some s)) (F1 ++ (G' ++ F2))
  | _, _, _, _, .nil, h => absurd h (Nat.not_lt_zero _)
  | _, _, F, 0, .no h, _ => ⟨[], [], F, rfl, fun s e => by simp at e, fun {L1 H1 v s G'} k g p r => Slots.so (F := G') p r (h.move g k)⟩
  | _, _, _, 0, .so (F := F) (G := G) h0 h1 h, _ => ⟨[], F, G, rfl, fun s e => by simp at e; subst e; exact ⟨_, rfl, h0, h1⟩, fun {L1 H1 v s G'} k g p r => Slots.so (F := G') p r (h.move g k)⟩
  | _, _, _, i + 1, .no h, hl => by
    obtain ⟨F1, G, F2, e, q, p⟩ := Slots.at_ (i := i) h (by simpa using hl)
    exact ⟨F1, G, F2, e, fun s z => by simpa using q s (by simpa using z), fun {L1 H1 v s G'} k g pp r => .no (p k g pp r)⟩
  | _, _, _, i + 1, .so (F := F) h0 h1 h, hl => by
    obtain ⟨F1, G, F2, e, q, p⟩ := Slots.at_ (i := i) h (by simpa using hl)
    refine ⟨F ++ F1, G, F2, by rw [e, List.append_assoc], fun s z => by simpa using q s (by simpa using z), fun {L1 H1 v s G'} k g pp r => ?_⟩
    rw [List.append_assoc]
    refine .so h0 ?_ (p (fun al => (k al).sub fun a z => ?_) g pp r)
    · exact (h1.trk.keep (fun b o e n q => k _ b o e n (q.imp (fun z => z.1) (fun z => z.imp (fun y => by simp [y]) id)))).mono fun a z => ⟨z.1.1, fun _ => g a (z.1.2 rfl) z.2⟩
    · rcases List.mem_append.mp z with z | z <;> simp [z]
theorem Sim.set {i : Nat} {v : V} {r : Sv} {G : List Addr} (s : Sim K N H0 ρ σ H L) (pp : ∀ k, r.pn = some k → v = .ref (N.p k)) (sm : Same H H') (new : ∀ a ∈ G, H a = none) (nd : G.Nodup) (rp : Rp K (fun a => SR N L r.al false a ∧ a ∉ G) H' r.l v r.d G) (hi : i < ρ.length) :
    ∃ L', Sim K N H0 (ρ.set i (some r)) (σ.set i (some v)) H' L' ∧ ∀ a ∈ L', a ∈ L ∨ a ∈ G := by
  obtain ⟨F1, G0, F2, e, _, p⟩ := s.sl.at_ hi
  have hnd := s.nd
  rw [e] at hnd
  have sub : ∀ a, a ∈ F1 ++ (G ++ F2) → a ∈ L ∨ a ∈ G := fun a z => by
    rw [e]
    rcases List.mem_append.mp z with z | z
    · exact .inl (by simp [z])
    · rcases List.mem_append.mp z with z | z
      · exact .inr z
      · exact .inl (by simp [z])
  have q := p (L1 := F1 ++ (G ++ F2)) (H1 := H') (v := v) (s := r) (G' := G) (fun al => .same sm) (fun a z t m => (sub a m).elim z fun y => t (new a y)) pp (rp.mono fun a z => ⟨z.1.1, fun m y => (sub a y).elim (z.1.2 rfl) z.2⟩)
  refine ⟨F1 ++ (G ++ F2), ⟨s.kp.same sm, fun b z => s.nw b (sm.free z), ?_, fun a z => ?_, fun a z => ?_, q⟩, sub⟩
  · rw [List.nodup_append] at hnd ⊢
    obtain ⟨n1, n2, n3⟩ := hnd
    rw [List.nodup_append] at n2 ⊢
    have inL : ∀ a, a ∈ F1 ∨ a ∈ F2 → H a ≠ none := fun a z => s.th a (by rw [e]; rcases z with z | z <;> simp [z])
    refine ⟨n1, ⟨nd, n2.2.1, fun a ha b hb z => inL b (.inr hb) (z ▸ new a ha)⟩, fun a ha b hb z => ?_⟩
    rcases List.mem_append.mp hb with hb | hb
    · exact inL a (.inl ha) (z ▸ new b hb)
    · exact n3 a ha b (by simp [hb]) z
  · rcases sub a z with z | z
    · exact s.ln a z
    · exact s.nw a (new a z)
  · rcases sub a z with z | z
    · exact mut_same (s.mu a z) sm
    · exact rp.own_mut a z
def frz (i : Nat) (ρ : Env) : Env := match ρ[i]? with
  | some (some s) => ρ.set i (some ⟨s.d, .shr, s.al, none⟩)
  | _ => ρ
theorem Sim.frz (i : Nat) (s : Sim K N H0 ρ σ H L) : ∃ L', Sim K N H0 (frz i ρ) σ H L' ∧ ∀ a ∈ L', a ∈ L := by
  unfold Ev.frz
  split
  · rename_i sv e
    have hi : i < ρ.length := (List.getElem?_eq_some_iff.mp e).1
    obtain ⟨F1, G, F2, e1, q, p⟩ := s.sl.at_ hi
    obtain ⟨v, ev, _, rp⟩ := q sv e
    have hnd := s.nd
    rw [e1] at hnd
    have sub : ∀ a, a ∈ F1 ++ ([] ++ F2) → a ∈ L := fun a z => by
      rw [e1]
      rcases List.mem_append.mp z with z | z
      · simp [z]
      · simp at z; simp [z]
    rw [List.nodup_append] at hnd
    obtain ⟨n1, n2, n3⟩ := hnd
    rw [List.nodup_append] at n2
    have out : ∀ a ∈ G, a ∉ F1 ++ ([] ++ F2) := fun a ha z => by
      rcases List.mem_append.mp z with z | z
      · exact n3 a z a (by simp [ha]) rfl
      · simp at z
        exact n2.2.2 a ha a z rfl
    have rp' : Rp K (SR N (F1 ++ ([] ++ F2)) sv.al false) H .shr v sv.d [] := rp.give (fun a z => ⟨z.1, fun m y => z.2 rfl (sub a y)⟩) fun a ha => ⟨.new (s.ln a (by rw [e1]; simp [ha])), fun _ => out a ha⟩
    have z := p (L1 := F1 ++ ([] ++ F2)) (H1 := H) (v := v) (s := ⟨sv.d, .shr, sv.al, none⟩) (G' := []) (fun al => .same (Same.refl H)) (fun a z _ m => z (sub a m)) (fun _ z => nomatch z) rp'
    have eσ : σ.set i (some v) = σ := by
      obtain ⟨h1, h2⟩ := List.getElem?_eq_some_iff.mp ev
      rw [← h2, List.set_getElem_self]
    rw [eσ] at z
    refine ⟨F1 ++ ([] ++ F2), ⟨s.kp, s.nw, ?_, fun a z => s.ln a (sub a z), fun a z => s.mu a (sub a z), z⟩, sub⟩
    rw [List.nodup_append]
    refine ⟨n1, by simpa using n2.2.1, fun a ha b hb => ?_⟩
    simp at hb
    exact n3 a ha b (by simp [hb])
  · exact ⟨L, s, fun _ z => z⟩
def frzs : List Nat → Env → Env
  | [], ρ => ρ
  | i :: is, ρ => frzs is (frz i ρ)
theorem Sim.frzs : ∀ (is : List Nat) {ρ : Env} {L : List Addr}, Sim K N H0 ρ σ H L → ∃ L', Sim K N H0 (frzs is ρ) σ H L' ∧ ∀ a ∈ L', a ∈ L
  | [], _, L, s => ⟨L, s, fun _ z => z⟩
  | i :: is, _, _, s => let ⟨_, s', h⟩ := s.frz i; let ⟨L2, s2, h2⟩ := Sim.frzs is s'; ⟨L2, s2, fun a z => h a (h2 a z)⟩
structure SimH (K : PySem.W.Frag) (N : Nw) (H0 : Hp) (ρ : Env) (σ : St) (H : Hp) (L W : List Addr) : Prop where
  kp : KpT K N H0 H
  nw : ∀ b, H b = none → N b
  nd : W.Nodup
  ln : ∀ a ∈ W, N a
  mu : ∀ a ∈ W, Mut (H a)
  sl : Slots K N W H σ ρ L
  sub : ∀ a ∈ L, a ∈ W
  ndl : L.Nodup
theorem SimH.th {W : List Addr} (s : SimH K N H0 ρ σ H L W) : ∀ a ∈ W, H a ≠ none := fun a z => mut_ne (s.mu a z)
theorem Sim.h (s : Sim K N H0 ρ σ H L) : SimH K N H0 ρ σ H L L := ⟨s.kp, s.nw, s.nd, s.ln, s.mu, s.sl, fun _ z => z, s.nd⟩
theorem SimH.sim {W : List Addr} (s : SimH K N H0 ρ σ H L W) : Sim K N H0 ρ σ H L := ⟨s.kp, s.nw, s.ndl, fun a z => s.ln a (s.sub a z), fun a z => s.mu a (s.sub a z), s.sl.mono fun a z m => z (s.sub a m)⟩
theorem SimH.same {W : List Addr} (s : SimH K N H0 ρ σ H L W) (h : Same H H') : SimH K N H0 ρ σ H' L W where
  kp := s.kp.same h
  nw := fun b e => s.nw b (h.free e)
  nd := s.nd
  ln := s.ln
  mu := fun a ha => mut_same (s.mu a ha) h
  sl := s.sl.keep fun _ => .same h
  sub := s.sub
  ndl := s.ndl
theorem SimH.hold {W F : List Addr} (s : SimH K N H0 ρ σ H L W) (h : Same H H') (new : ∀ a ∈ F, H a = none) (nd : F.Nodup) (th : ∀ a ∈ F, Mut (H' a)) : SimH K N H0 ρ σ H' L (W ++ F) where
  kp := s.kp.same h
  nw := fun b e => s.nw b (h.free e)
  nd := by
    rw [List.nodup_append]
    exact ⟨s.nd, nd, fun a ha b hb e => s.th a ha (e ▸ new b hb)⟩
  ln := fun a z => (List.mem_append.mp z).elim (s.ln a) fun z => s.nw a (new a z)
  mu := fun a z => (List.mem_append.mp z).elim (fun z => mut_same (s.mu a z) h) fun z => th a z
  sl := s.sl.move (fun a z t m => (List.mem_append.mp m).elim z fun m => t (new a m)) fun _ => .same h
  sub := fun a z => List.mem_append_left _ (s.sub a z)
  ndl := s.ndl
theorem SimH.set0 {W : List Addr} {i : Nat} {v : V} {r : Sv} (s : SimH K N H0 ρ σ H L W) (pp : ∀ k, r.pn = some k → v = .ref (N.p k)) (rp : Rp K (SR N W r.al false) H r.l v r.d []) (hi : i < ρ.length) :
    ∃ L', SimH K N H0 (ρ.set i (some r)) (σ.set i (some v)) H L' W ∧ ∀ a ∈ L', a ∈ L := by
  obtain ⟨F1, G0, F2, e, _, p⟩ := s.sl.at_ hi
  have hnd := s.ndl
  rw [e] at hnd
  have sub : ∀ a, a ∈ F1 ++ ([] ++ F2) → a ∈ L := fun a z => by
    rw [e]
    rcases List.mem_append.mp z with z | z
    · simp [z]
    · simp at z; simp [z]
  refine ⟨F1 ++ ([] ++ F2), ⟨s.kp, s.nw, s.nd, s.ln, s.mu, p (fun al => .same (Same.refl H)) (fun a z _ => z) pp rp, fun a z => s.sub a (sub a z), ?_⟩, sub⟩
  rw [List.nodup_append] at hnd ⊢
  rw [List.nodup_append] at hnd
  exact ⟨hnd.1, by simpa using hnd.2.1.2.1, fun a ha b hb => hnd.2.2 a ha b (by simp at hb; simp [hb])⟩
theorem Slots.drop1 {L0 : List Addr} : ∀ {σ : St} {ρ : Env} {F : List Addr} (i : Nat), Slots K N L0 H σ ρ F → ∃ F', Slots K N L0 H (σ.set i none) (ρ.set i none) F' ∧ F'.Sublist F
  | _, _, _, i, .nil => ⟨[], by cases i <;> exact .nil, List.Sublist.refl _⟩
  | _, _, F, 0, .no h => ⟨F, .no h, List.Sublist.refl _⟩
  | _, _, _, 0, .so (F := F) (G := G) _ h1 h => ⟨G, .no h, List.sublist_append_right F G⟩
  | _, _, _, i + 1, .no h => let ⟨F', s, q⟩ := Slots.drop1 i h; ⟨F', .no s, q⟩
  | _, _, _, i + 1, .so (F := F) h0 h1 h => let ⟨F', s, q⟩ := Slots.drop1 i h; ⟨F ++ F', .so h0 h1 s, List.Sublist.append (List.Sublist.refl F) q⟩
theorem SimH.drop1 {W : List Addr} (i : Nat) (s : SimH K N H0 ρ σ H L W) : ∃ L', SimH K N H0 (ρ.set i none) (σ.set i none) H L' W ∧ ∀ a ∈ L', a ∈ L := by
  obtain ⟨F', h, q⟩ := s.sl.drop1 i
  exact ⟨F', ⟨s.kp, s.nw, s.nd, s.ln, s.mu, h, fun a z => s.sub a (q.subset z), q.nodup s.ndl⟩, fun a z => q.subset z⟩
end
def wipeE : List Nat → Env → Env
  | [], ρ => ρ
  | i :: is, ρ => (wipeE is ρ).set i none
end Ev
set_option Elab.async false
set_option linter.all false
set_option maxRecDepth 100000
namespace Ev
open PySem PySem.Spec L2
open PyProof.Rows hiding St
abbrev EvE := Env → Option Rv
abbrev EvT := Env → Option Bool
abbrev EvA := Env → Option (List Rv)
def Post (K : PySem.W.Frag) (N : Nw) (L : List Addr) (H : Hp) (r : Rv) (Q : VK) : Prop :=
  ∀ v H' F, Same H H' → (∀ a ∈ F, H a = none) → F.Nodup → Rp K (fun a => SR N L r.al r.vw a ∧ a ∉ F) H' r.l v r.d F → Q v H'
def tE (K : PySem.W.Frag) (f : EvE) : TE := fun σ H Q => ∃ N H0 ρ L W r, SimH K N H0 ρ σ H L W ∧ f ρ = some r ∧ Post K N W H r Q
def tT (K : PySem.W.Frag) (f : EvT) : TT := fun σ H Q => ∃ N H0 ρ L W b, SimH K N H0 ρ σ H L W ∧ f ρ = some b ∧ ∀ H', Same H H' → Q b H'
abbrev PEv (X : Cx) (e : Expr) (f : EvE) : Prop := PE X e (tE X.K f)
abbrev PTv (X : Cx) (e : Expr) (f : EvT) : Prop := PT X e (tT X.K f)
abbrev PWv (X : Cx) (e : Expr) (f : EvT) : Prop := PW X e (tT X.K f)
theorem imp_e {X : Cx} {e : Expr} {t t' : TE} (h : PE X e t) (i : ∀ σ H Q, t' σ H Q → t σ H Q) : PE X e t' := ⟨fun p s σ H Q I w => h.run p s σ H Q I (i σ H Q w)⟩
theorem imp_t {X : Cx} {e : Expr} {t t' : TT} (h : PT X e t) (i : ∀ σ H Q, t' σ H Q → t σ H Q) : PT X e t' := ⟨fun p s σ H Q I w => h.run p s σ H Q I (i σ H Q w)⟩
theorem imp_w {X : Cx} {e : Expr} {t t' : TT} (h : PW X e t) (i : ∀ σ H Q, t' σ H Q → t σ H Q) : PW X e t' := ⟨fun wh p s σ H Q I w => h.run wh p s σ H Q I (i σ H Q w)⟩
def rA (d : D) : Rv := ⟨d, .full, false, false⟩
abbrev rI (i : Int) : Rv := rA (.int i)
abbrev rB (b : Bool) : Rv := rA (.bl b)
theorem bind_some {α β : Type} {x : Option α} {f : α → Option β} {b : β} (h : x.bind f = some b) : ∃ a, x = some a ∧ f a = some b := by
  cases x with
  | none => cases h
  | some a => exact ⟨a, rfl, h⟩
section
variable {K : PySem.W.Frag} {N : Nw} {H0 H H' : Hp} {ρ : Env} {σ : St} {L : List Addr} {Q : VK}
theorem Post.atom {v : V} {d : D} (p : Post K N L H (rA d) Q) (s : Same H H') (r : ∀ S, Rp K S H' .full v d []) : Q v H' := p v H' [] s (fun _ z => nomatch z) .nil (r _)
theorem Post.int {i : Int} (p : Post K N L H (rI i) Q) (s : Same H H') : Q (.int i) H' := p.atom s fun _ => .int
theorem Post.bl {i : Bool} (p : Post K N L H (rB i) Q) (s : Same H H') : Q (.bl i) H' := p.atom s fun _ => .bl
theorem one {W : List Addr} {fa : EvE} {x : Rv} {R : V → Hp → Prop} (sim : SimH K N H0 ρ σ H L W) (e1 : fa ρ = some x)
    (k : ∀ v H1 F, Same H H1 → (∀ a ∈ F, H a = none) → F.Nodup → Rp K (fun a => SR N W x.al x.vw a ∧ a ∉ F) H1 x.l v x.d F → R v H1) : tE K fa σ H R :=
  ⟨N, H0, ρ, L, W, x, sim, e1, fun v H1 F s n nd p => k v H1 F s n nd p⟩
theorem two {W : List Addr} {fa fb : EvE} {x y : Rv} {R : V → V → Hp → Prop} (sim : SimH K N H0 ρ σ H L W) (e1 : fa ρ = some x) (e2 : fb ρ = some y)
    (k : ∀ v w H2 F G, Same H H2 → (∀ a ∈ F, H a = none) → (∀ a ∈ G, H a = none) → F.Nodup → G.Nodup → (∀ a ∈ F, a ∉ G) → Rp K (fun a => SR N W x.al x.vw a ∧ a ∉ F ∧ a ∉ G) H2 x.l v x.d F → Rp K (fun a => SR N (W ++ F) y.al y.vw a ∧ a ∉ G) H2 y.l w y.d G → R v w H2) :
    tE K fa σ H fun v H1 => tE K fb σ H1 fun w H2 => R v w H2 :=
  one sim e1 fun v H1 F s1 n1 d1 p1 => one (sim.hold s1 n1 d1 p1.own_mut) e2 fun w H2 G s2 n2 d2 p2 =>
    k v w H2 F G (s1.trans s2) n1 (fun a z => s1.free (n2 a z)) d1 d2 (fun a z m => p1.own_trk a z (n2 a m)) ((p1.trk.same s2).mono fun a z => ⟨z.1.1, z.1.2, fun m => z.2 (n2 a m)⟩) p2
end
def eName (i : Nat) : EvE := fun ρ => match ρ[i]? with
  | some (some s) => some (if imm s.d then rA s.d else ⟨s.d, .shr, s.al, decide (s.l ≠ .shr)⟩)
  | _ => none
section
variable {X : Cx}
theorem e_name (i : Nat) {x : Str} {pos : Pos} (hN : X.N[i]? = some x := by rfl) (hv : Vis X.env.scope x := by first | exact Or.inl rfl | exact Or.inr (Or.inl rfl) | exact Or.inr (Or.inr rfl)) (hd : (x == ("__debug__" : Str)) = false := by decide)
    (hcd : (x == ("__classdict__" : Str)) = false := by decide) : PEv X (.Name x pos) (eName i) := by
  refine imp_e (pe_var hN hv hd hcd) fun σ H Q h => ?_
  obtain ⟨N, H0, ρ, L, W, r, sim, e, q⟩ := h
  unfold eName at e
  split at e
  · rename_i s es
    obtain ⟨v, G, ev, rp, sub, _⟩ := sim.sl.get es
    refine ⟨v, ev, ?_⟩
    cases hi : imm s.d with
    | true =>
      rw [hi, if_pos rfl] at e
      cases e
      exact q.atom (Same.refl H) fun S => (rp.of_imm hi).2
    | false =>
      rw [hi, if_neg Bool.false_ne_true] at e
      cases e
      refine q v H [] (Same.refl H) (fun _ z => nomatch z) .nil (rp.give (fun a z => ⟨⟨z.1, fun _ => z.2 rfl⟩, fun m => nomatch m⟩) fun a z => ⟨⟨.new (sim.ln a (sim.sub a (sub a z))), fun hvw => ?_⟩, fun m => nomatch m⟩)
      have hl : s.l = .shr := by simpa using hvw
      rw [hl] at rp
      rw [rp.shr0] at z
      cases z
  · cases e
def eC (d : D) : EvE := fun _ => some (rA d)
theorem e_int {i j pos} : PEv X (.Constant (.int i) j pos) (eC (.int i)) := imp_e pe_int fun _ H Q ⟨_, _, _, _, _, _, _, e, q⟩ => by cases e; exact q.int (Same.refl H)
theorem e_bl {b j pos} : PEv X (.Constant (.bool b) j pos) (eC (.bl b)) := imp_e pe_bl fun _ H Q ⟨_, _, _, _, _, _, _, e, q⟩ => by cases e; exact q.bl (Same.refl H)
theorem e_non {j pos} : PEv X (.Constant .none j pos) (eC .non) := imp_e pe_non fun _ H Q ⟨_, _, _, _, _, _, _, e, q⟩ => by cases e; exact q.atom (Same.refl H) fun _ => .non
def eOp (C : Int → Int → Bool) (g : Int → Int → D) (fa fb : EvE) : EvE := fun ρ => (fa ρ).bind fun x => (fb ρ).bind fun y => match x.d, y.d with
  | .int i, .int j => if C i j = true then some (rA (g i j)) else none
  | _, _ => none
variable {a b c e : Expr} {fa fb fc fe : EvE} {pos : Pos}
theorem eOp_some {C : Int → Int → Bool} {g : Int → Int → D} {ρ : Env} {r : Rv} (h : eOp C g fa fb ρ = some r) : ∃ x y i j, fa ρ = some x ∧ fb ρ = some y ∧ x.d = .int i ∧ y.d = .int j ∧ C i j = true ∧ r = rA (g i j) := by
  unfold eOp at h
  obtain ⟨x, e1, h⟩ := bind_some h
  obtain ⟨y, e2, h⟩ := bind_some h
  split at h
  · rename_i i j d1 d2
    split at h
    · rename_i hc
      cases h
      exact ⟨x, y, i, j, e1, e2, d1, d2, hc, rfl⟩
    · cases h
  · cases h
theorem e_opI {op : Operator} {P : Int → Int → Prop} {C : Int → Int → Bool} {g : Int → Int → Int} (ho : OpR X (binaryOp op) (L2.rI P fun i j => .int (g i j))) (hP : ∀ i j, C i j = true → P i j) (ha : PEv X a fa) (hb : PEv X b fb) :
    PEv X (.BinOp a op b pos) (eOp C (fun i j => .int (g i j)) fa fb) := by
  refine imp_e (pe_op ho ha hb) fun σ H Q ⟨N, H0, ρ, L, W, r, sim, e, q⟩ => ?_
  obtain ⟨x, y, i, j, e1, e2, d1, d2, hc, rfl⟩ := eOp_some e
  refine two sim e1 e2 fun v w H2 F G s _ _ _ _ _ p1 p2 => ?_
  rw [d1] at p1
  rw [d2] at p2
  obtain ⟨rfl, _⟩ := p1.int_inv
  obtain ⟨rfl, _⟩ := p2.int_inv
  exact ⟨i, j, rfl, rfl, hP _ _ hc, q.int s⟩
abbrev cT : Int → Int → Bool := fun _ _ => true
theorem rI_of {g : Int → Int → V} {f : Value → Value → Sem Value} (h : OpR X f (L2.rI0 g)) : OpR X f (L2.rI (fun _ _ => True) g) := fun pins s σ H x y v u Q I r1 r2 ⟨i, j, e1, e2, _, q⟩ => h pins s σ H x y v u Q I r1 r2 ⟨i, j, e1, e2, q⟩
abbrev eAdd := eOp cT fun i j => .int (i + j)
abbrev eSub := eOp cT fun i j => .int (i - j)
abbrev cMul (i j : Int) : Bool := decide (((-(2 ^ 64) < i ∧ i < 2 ^ 64) ∨ (-(2 ^ 64) < j ∧ j < 2 ^ 64)) ∨ Builtin.Int.intBits i + Builtin.Int.intBits j ≤ 134217728)
abbrev eMul := eOp cMul fun i j => .int (i * j)
theorem mulB_ok {i j : Int} (h : Builtin.Int.intBits i + Builtin.Int.intBits j ≤ 134217728) : IntMulOk i j := by
  have e : bitsLine = 134217728 := by decide
  unfold IntMulOk
  intro z
  rw [Bool.and_eq_true] at z
  have z2 := z.2
  unfold Builtin.Int.intTooBig at z2
  have z3 := of_decide_eq_true z2
  rw [e] at z3
  omega
theorem op_mul2 {X : Cx} : OpR X (binaryOp .Mult) (L2.rI (fun i j => CMul i j ∨ Builtin.Int.intBits i + Builtin.Int.intBits j ≤ 134217728) fun i j => .int (i * j)) := opI fun _ _ _ _ _ _ _ hc q => mul_int q (Or.elim (show CMul _ _ ∨ Builtin.Int.intBits _ + Builtin.Int.intBits _ ≤ 134217728 from hc) CMul.ok mulB_ok)
abbrev eDiv := eOp (fun i j => decide (0 < j ∧ j.natAbs.log2 < 9000)) fun i j => .int (i / j)
abbrev eMod := eOp (fun i j => decide (0 < j)) fun i j => .int (i % j)
abbrev ePow := eOp (fun i j => decide (0 ≤ j ∧ j ≤ 1000000 ∧ i.natAbs < 2 ^ 64)) fun i j => .int (i ^ j.toNat)
theorem e_sub (ha : PEv X a fa) (hb : PEv X b fb) : PEv X (.BinOp a .Sub b pos) (eSub fa fb) := e_opI (rI_of op_sub) (fun _ _ _ => trivial) ha hb
theorem e_mul (ha : PEv X a fa) (hb : PEv X b fb) : PEv X (.BinOp a .Mult b pos) (eMul fa fb) := e_opI op_mul2 (fun i j h => (of_decide_eq_true h : ((-(2 ^ 64) < i ∧ i < 2 ^ 64) ∨ (-(2 ^ 64) < j ∧ j < 2 ^ 64)) ∨ Builtin.Int.intBits i + Builtin.Int.intBits j ≤ 134217728)) ha hb
theorem e_div (ha : PEv X a fa) (hb : PEv X b fb) : PEv X (.BinOp a .FloorDiv b pos) (eDiv fa fb) := e_opI op_fdivW (fun i j h => (of_decide_eq_true h : 0 < j ∧ j.natAbs.log2 < 9000)) ha hb
theorem e_mod (ha : PEv X a fa) (hb : PEv X b fb) : PEv X (.BinOp a .Mod b pos) (eMod fa fb) := e_opI op_mod (fun _ _ h => of_decide_eq_true h) ha hb
theorem e_pow (ha : PEv X a fa) (hb : PEv X b fb) : PEv X (.BinOp a .Pow b pos) (ePow fa fb) := e_opI op_pow (fun i j h => by simpa [CPow] using h) ha hb
def eNeg (fa : EvE) : EvE := fun ρ => (fa ρ).bind fun x => match x.d with
  | .int i => some (rI (-i))
  | _ => none
theorem e_neg (ha : PEv X a fa) : PEv X (.UnaryOp .USub a pos) (eNeg fa) := by
  refine imp_e (pe_un un_neg ha) fun σ H Q ⟨N, H0, ρ, L, W, r, sim, e, q⟩ => ?_
  unfold eNeg at e
  obtain ⟨x, e1, e⟩ := bind_some e
  split at e
  · rename_i i d1
    cases e
    refine one sim e1 fun v H1 F s _ _ p => ?_
    rw [d1] at p
    obtain ⟨rfl, _⟩ := p.int_inv
    exact ⟨i, rfl, q.int s⟩
  · cases e
def eCmp (g : D → D → Option Bool) (fa fb : EvE) : EvE := fun ρ => (fa ρ).bind fun x => (fb ρ).bind fun y => (g x.d y.d).map rB
def CmpOk (X : Cx) (op : CmpOp) (g : D → D → Option Bool) : Prop :=
  ∃ r : R2, OpR X (compareOp op) r ∧ ∀ (S S' : Addr → Prop) (H : Hp) (l l' : Lv) (v w : V) (d e : D) (F G : List Addr) (b : Bool) (Q : VK), Rp X.K S H l v d F → Rp X.K S' H l' w e G → g d e = some b → Q (.bl b) H → r v w H Q
theorem e_cmp {op : CmpOp} {g : D → D → Option Bool} (ho : CmpOk X op g) (ha : PEv X a fa) (hb : PEv X b fb) (hm : behindInMarks op b = false := by first | exact nomark _ (by decide) (by decide) | rfl) : PEv X (.Compare a [op] [b] pos) (eCmp g fa fb) := by
  obtain ⟨r, ho, hr⟩ := ho
  refine imp_e (pe_cmpR ho ha hb hm) fun σ H Q ⟨N, H0, ρ, L, W, rr, sim, e, q⟩ => ?_
  unfold eCmp at e
  obtain ⟨x, e1, e⟩ := bind_some e
  obtain ⟨y, e2, e⟩ := bind_some e
  obtain ⟨k, ek, e⟩ := Option.map_eq_some_iff.mp e
  subst e
  exact two sim e1 e2 fun v w H2 F G s _ _ _ _ _ p1 p2 => hr _ _ _ _ _ _ _ _ _ _ _ _ _ p1 p2 ek (q.bl s)
def tCmp (g : D → D → Option Bool) (fa fb : EvE) : EvT := fun ρ => (fa ρ).bind fun x => (fb ρ).bind fun y => g x.d y.d
theorem t_cmp {op : CmpOp} {g : D → D → Option Bool} (ho : CmpOk X op g) (ha : PEv X a fa) (hb : PEv X b fb) (hm : behindInMarks op b = false := by first | exact nomark _ (by decide) (by decide) | rfl) : PTv X (.Compare a [op] [b] pos) (tCmp g fa fb) := by
  obtain ⟨r, ho, hr⟩ := ho
  refine imp_t (pt_cmpR ho ha hb hm) fun σ H Q ⟨N, H0, ρ, L, W, k, sim, e, q⟩ => ?_
  unfold Ev.tCmp at e
  obtain ⟨x, e1, e⟩ := bind_some e
  obtain ⟨y, e2, e⟩ := bind_some e
  exact two sim e1 e2 fun v w H2 F G s _ _ _ _ _ p1 p2 => hr _ _ _ _ _ _ _ _ _ _ _ _ _ p1 p2 e ⟨k, rfl, q _ s⟩
def gI (p : Int → Int → Bool) : D → D → Option Bool
  | .int i, .int j => some (p i j)
  | _, _ => none
theorem gI_some {p : Int → Int → Bool} {d e : D} {b : Bool} (h : gI p d e = some b) : ∃ i j, d = .int i ∧ e = .int j ∧ b = p i j := by
  unfold gI at h
  split at h
  · cases h; exact ⟨_, _, rfl, rfl, rfl⟩
  · cases h
theorem cmpI {op : CmpOp} {p : Int → Int → Bool} (ho : OpR X (compareOp op) (L2.rI0 fun i j => .bl (p i j))) : CmpOk X op (gI p) :=
  ⟨_, ho, fun S S' H l l' v w d e F G b Q p1 p2 h q => by
    obtain ⟨i, j, rfl, rfl, rfl⟩ := gI_some h
    obtain ⟨rfl, _⟩ := p1.int_inv
    obtain ⟨rfl, _⟩ := p2.int_inv
    exact ⟨i, j, rfl, rfl, q⟩⟩
theorem CmpOk.or {op : CmpOp} {g g' : D → D → Option Bool} (h : CmpOk X op g) (h' : CmpOk X op g') : CmpOk X op (fun d e => (g d e).or (g' d e)) := by
  obtain ⟨r, ho, hr⟩ := h
  obtain ⟨r', ho', hr'⟩ := h'
  refine ⟨_, ho.or ho', fun S S' H l l' v w d e F G b Q p1 p2 h q => ?_⟩
  have h : (g d e).or (g' d e) = some b := h
  cases hg : g d e with
  | some k =>
    rw [hg] at h
    cases h
    exact .inl (hr _ _ _ _ _ _ _ _ _ _ _ _ _ p1 p2 hg q)
  | none =>
    rw [hg] at h
    exact .inr (hr' _ _ _ _ _ _ _ _ _ _ _ _ _ p1 p2 h q)
theorem CmpOk.imp {op : CmpOp} {g g' : D → D → Option Bool} (h : CmpOk X op g) (i : ∀ d e b, g' d e = some b → g d e = some b) : CmpOk X op g' := by
  obtain ⟨r, ho, hr⟩ := h
  exact ⟨r, ho, fun S S' H l l' v w d e F G b Q p1 p2 h q => hr _ _ _ _ _ _ _ _ _ _ _ _ _ p1 p2 (i _ _ _ h) q⟩
end
mutual
def pd : D → PyData
  | .non => .none | .bl b => .bool b | .int i => .int i | .str x => .str x
  | .tup xs => .tuple (pds xs) | .lst xs => .list (pds xs) | .fl xs => .list (pds xs)
  | _ => .dict []
def pds : List D → List PyData
  | [] => []
  | d :: ds => pd d :: pds ds
end
mutual

def shp (n : Nat) : D → Bool
  | .non => true | .bl _ => true | .int _ => true | .str x => PyData.strOk x
  | .tup xs => (match n with | 0 => false | m + 1 => shps m xs)
  | .lst xs => (match n with | 0 => false | m + 1 => shps m xs)
  | .fl xs => (match n with | 0 => false | m + 1 => shps m xs)
  | _ => false
def shps (n : Nat) : List D → Bool
  | [] => true
  | d :: ds => shp n d && shps n ds
end
theorem pds_map : ∀ ds : List D, pds ds = ds.map pd
  | [] => rfl
  | d :: ds => by rw [pds, pds_map ds]; rfl
theorem immAll_all : ∀ ds : List D, immAll ds = ds.all imm
  | [] => rfl
  | d :: ds => by rw [immAll, immAll_all ds]; rfl
mutual
theorem shp_ok : ∀ (n : Nat) (d : D), shp n d = true → (pd d).canLay0 = true ∧ (pd d).depth ≤ n
  | _, .non, _ => ⟨rfl, Nat.zero_le _⟩
  | _, .bl _, _ => ⟨rfl, Nat.zero_le _⟩
  | _, .int _, _ => ⟨rfl, Nat.zero_le _⟩
  | _, .str x, h => ⟨by simpa only [shp, pd, PyData.canLay0] using h, Nat.zero_le _⟩
  | 0, .tup xs, h => by simp only [shp] at h; cases h
  | 0, .lst xs, h => by simp only [shp] at h; cases h
  | 0, .fl xs, h => by simp only [shp] at h; cases h
  | n + 1, .tup xs, h => by
    simp only [shp] at h
    obtain ⟨h1, h2⟩ := shps_ok n xs h
    exact ⟨by simpa only [pd, PyData.canLay0] using h1, by simpa only [pd, PyData.depth] using Nat.succ_le_succ h2⟩
  | n + 1, .lst xs, h => by
    simp only [shp] at h
    obtain ⟨h1, h2⟩ := shps_ok n xs h
    exact ⟨by simpa only [pd, PyData.canLay0] using h1, by simpa only [pd, PyData.depth] using Nat.succ_le_succ h2⟩
  | n + 1, .fl xs, h => by
    simp only [shp] at h
    obtain ⟨h1, h2⟩ := shps_ok n xs h
    exact ⟨by simpa only [pd, PyData.canLay0] using h1, by simpa only [pd, PyData.depth] using Nat.succ_le_succ h2⟩
  | _, .dk _, h => by simp only [shp] at h; cases h
  | _, .dt _, h => by simp only [shp] at h; cases h
  | _, .ins _ _, h => by simp only [shp] at h; cases h
  | _, .obj _ _ _, h => by simp only [shp] at h; cases h
theorem shps_ok : ∀ (n : Nat) (ds : List D), shps n ds = true → PyData.canLayAll0 (pds ds) = true ∧ PyData.depthAll (pds ds) ≤ n
  | _, [], _ => ⟨rfl, Nat.zero_le _⟩
  | n, d :: ds, h => by
    simp only [shps, Bool.and_eq_true] at h
    obtain ⟨a1, a2⟩ := shp_ok n d h.1
    obtain ⟨b1, b2⟩ := shps_ok n ds h.2
    refine ⟨by simp only [pds, PyData.canLayAll0, a1, b1, Bool.and_self], ?_⟩
    simp only [pds, PyData.depthAll]
    exact Nat.max_le.mpr ⟨a2, b2⟩
end
theorem shaped_of {d : D} (h : shp 8 d = true) : SeqAt.shaped (pd d) = true := by
  obtain ⟨h1, h2⟩ := shp_ok 8 d h
  unfold SeqAt.shaped
  rw [h1, decide_eq_true (Nat.le_trans h2 (by decide))]
  rfl
section
variable {K : PySem.W.Frag} {S : Addr → Prop} {H : Hp}
mutual
theorem Rp.dp : ∀ {l : Lv} {v : V} {d : D} {F : List Addr} {n : Nat}, Rp K S H l v d F → shp n d = true → Dp K H v (pd d)
  | _, _, _, _, _, .non, _ => by simp only [pd]; exact .non
  | _, _, _, _, _, .bl, _ => by simp only [pd]; exact .bl _
  | _, _, _, _, _, .int, _ => by simp only [pd]; exact .int _
  | _, _, _, _, _, .str, _ => by simp only [pd]; exact .str _
  | _, _, _, _, 0, .tup h1 h2, h => by simp only [shp] at h; cases h
  | _, _, _, _, n + 1, .tup h1 h2, h => by simp only [shp] at h; simp only [pd]; exact .tup (SqT.of h1) (Rps.dp h2 h)
  | _, _, _, _, 0, .fl h1 h2, h => by simp only [shp] at h; cases h
  | _, _, _, _, n + 1, .fl h1 h2, h => by simp only [shp] at h; simp only [pd]; exact .lst h1.sq (Rps.dp h2 h)
  | _, _, _, _, 0, .nd0 hn _ _ _, h => by cases hn <;> (simp only [shp] at h; cases h)
  | _, _, _, _, n + 1, .nd0 hn h1 _ h3, h => by
    cases hn with
    | lst => simp only [shp] at h; simp only [pd]; exact .lst (SqL.of h1.lst) (Rps.dp h3 h)
    | _ => simp only [shp] at h; cases h
  | _, _, _, _, 0, .nd1 _ hn _ _, h => by cases hn <;> (simp only [shp] at h; cases h)
  | _, _, _, _, n + 1, .nd1 _ hn h1 h3, h => by
    cases hn with
    | lst => simp only [shp] at h; simp only [pd]; exact .lst (SqL.of h1) (Rps.dp h3 h)
    | _ => simp only [shp] at h; cases h
theorem Rps.dp : ∀ {l : Lv} {vs : List V} {ds : List D} {F : List Addr} {n : Nat}, Rps K S H l vs ds F → shps n ds = true → DpAll K H vs (pds ds)
  | _, _, _, _, _, .nil, _ => by simp only [pds]; exact .nil
  | _, _, _, _, n, .cons h1 h2, h => by
    simp only [shps, Bool.and_eq_true] at h
    simp only [pds]
    exact .cons (Rp.dp h1 h.1) (Rps.dp h2 h.2)
end
theorem Rps.ints : ∀ {l : Lv} {vs : List V} {ns : List Int} {F : List Addr}, Rps K S H l vs (ns.map .int) F → vs = ns.map V.int ∧ F = []
  | _, _, [], _, .nil => ⟨rfl, rfl⟩
  | _, _, n :: ns, _, .cons h1 h2 => by
    obtain ⟨rfl, e1⟩ := Rp.int_inv h1
    obtain ⟨e2, e3⟩ := Rps.ints h2
    rw [e1, e2, e3]
    exact ⟨rfl, rfl⟩
end
def intOf : D → Option Int
  | .int i => some i
  | _ => none
def intsOf : List D → Option (List Int)
  | [] => some []
  | d :: ds => (intOf d).bind fun i => (intsOf ds).map (i :: ·)
theorem intsOf_some : ∀ {ds : List D} {ns : List Int}, intsOf ds = some ns → ds = ns.map .int
  | [], _, h => by cases h; rfl
  | d :: ds, ns, h => by
    unfold intsOf at h
    obtain ⟨i, e1, h⟩ := bind_some h
    obtain ⟨m, e2, h⟩ := Option.map_eq_some_iff.mp h
    subst h
    rw [intsOf_some e2]
    cases d <;> first | (cases e1; rfl) | cases e1
theorem intsOf_map : ∀ ns : List Int, intsOf (ns.map .int) = some ns
  | [] => rfl
  | n :: ns => by
    show (some n).bind (fun i => (intsOf (ns.map .int)).map (i :: ·)) = _
    rw [intsOf_map ns]
    rfl
def gT (p : List Int → List Int → Bool) : D → D → Option Bool
  | .tup xs, .tup ys => (intsOf xs).bind fun ns => (intsOf ys).map fun ms => p ns ms
  | _, _ => none
theorem gT_some {p : List Int → List Int → Bool} {d e : D} {b : Bool} (h : gT p d e = some b) : ∃ ns ms : List Int, d = .tup (ns.map .int) ∧ e = .tup (ms.map .int) ∧ b = p ns ms := by
  unfold gT at h
  split at h
  · obtain ⟨ns, e1, h⟩ := bind_some h
    obtain ⟨ms, e2, h⟩ := Option.map_eq_some_iff.mp h
    rw [intsOf_some e1, intsOf_some e2]
    exact ⟨ns, ms, rfl, rfl, h.symm⟩
  · cases h
def geT (ns ms : List Int) : Bool := Ob.lexAt (fun j => decide (ns.getD j 0 = ms.getD j 0)) (fun j => decide (ms.getD j 0 ≤ ns.getD j 0)) (decide (ns.length ≥ ms.length)) 0 (min ns.length ms.length)
def rGeT (K : PySem.W.Frag) : R2 := fun x y H Q => ∃ (a b : Addr) (ns ms : List Int), x = .ref a ∧ y = .ref b ∧ SqT K H a (ns.map V.int) ∧ SqT K H b (ms.map V.int) ∧ Q (.bl (geT ns ms)) H
section
variable {X : Cx}
theorem op_geT (hu : X.A.units < cLine) : OpR X (compareOp .GtE) (rGeT X.K) := by
  intro pins s σ H x y v u Q I rx ry h
  obtain ⟨a, b, ns, ms, rfl, rfl, ha, hb, q⟩ := h
  cases rx
  cases ry
  obtain ⟨its, r1, p1, _⟩ := I.tuple ha
  obtain ⟨its2, r2, p2, _⟩ := I.tuple hb
  have i1 : IntsAre its ns := Vals.ints r1
  have i2 : IntsAre its2 ms := Vals.ints r2
  have e1 : its.toArray.size = ns.length := by rw [List.size_toArray]; exact i1.length
  have e2 : its2.toArray.size = ms.length := by rw [List.size_toArray]; exact i2.length
  have at1 : ∀ j (h1 : j < its.toArray.size), ∃ t, its.toArray[j] = .int (ns.getD j 0) t := fun j h1 => PyProof.Rows.IntsAre.int_at i1 _ _ (by simp at h1; simp [h1])
  have at2 : ∀ j (h1 : j < its2.toArray.size), ∃ t, its2.toArray[j] = .int (ms.getD j 0) t := fun j h1 => PyProof.Rows.IntsAre.int_at i2 _ _ (by simp at h1; simp [h1])
  have R := Ob.RcOp.tuples_ge (A := X.A) (s := s) (e := fun j => decide (ns.getD j 0 = ms.getD j 0)) (r := fun j => decide (ms.getD j 0 ≤ ns.getD j 0)) p1 p2 hu (fun j h1 h2 => by
    obtain ⟨t, et⟩ := at1 j h1
    obtain ⟨t', et'⟩ := at2 j h2
    rw [et, et']
    have z : (ns.getD j 0 == ms.getD j 0) = decide (ns.getD j 0 = ms.getD j 0) := by
      by_cases q : ns.getD j 0 = ms.getD j 0
      · rw [decide_eq_true q]; exact beq_iff_eq.mpr q
      · rw [decide_eq_false q]; exact beq_eq_false_iff_ne.mpr q
    rw [← z]
    exact SeqAt.EqAt.int_int _ _ _ _) (fun j h1 h2 _ => by
    obtain ⟨t, et⟩ := at1 j h1
    obtain ⟨t', et'⟩ := at2 j h2
    rw [et, et']
    exact Ob.RcOp.ge_int _ _ _ _)
  rw [e1, e2] at R
  have z : wpAny (model X.prog X.w) X.A (compareOp .GtE (.ref a) (.ref b)) (EP X pins σ Q) X.xe s := R X.prog X.w X.xe (EP X pins σ Q) ⟨.bl _, H, I, rfl, q⟩
  exact z
theorem cmpT {op : CmpOp} {p : List Int → List Int → Bool} (ho : OpR X (compareOp op) (fun x y H Q => ∃ (a b : Addr) (ns ms : List Int), x = .ref a ∧ y = .ref b ∧ SqT X.K H a (ns.map V.int) ∧ SqT X.K H b (ms.map V.int) ∧ Q (.bl (p ns ms)) H)) : CmpOk X op (gT p) :=
  ⟨_, ho, fun S S' H l l' v w d e F G b Q p1 p2 h q => by
    obtain ⟨ns, ms, rfl, rfl, rfl⟩ := gT_some h
    obtain ⟨a, vs, rfl, h1, r1⟩ := p1.tup_inv
    obtain ⟨a', vs', rfl, h1', r1'⟩ := p2.tup_inv
    obtain ⟨rfl, _⟩ := r1.ints
    obtain ⟨rfl, _⟩ := r1'.ints
    exact ⟨a, a', ns, ms, rfl, rfl, SqT.of h1, SqT.of h1', q⟩⟩
abbrev gLt : D → D → Option Bool := fun d e => (gI (fun i j => decide (i < j)) d e).or (gT HT.lexLt d e)
abbrev gGe : D → D → Option Bool := fun d e => (gI (fun i j => decide (j ≤ i)) d e).or (gT geT d e)
abbrev gGt : D → D → Option Bool := gI (fun i j => decide (j < i))
theorem c_lt (hu : X.A.units < cLine) : CmpOk X .Lt gLt := (cmpI op_lt).or (cmpT (op_ltT hu))
theorem c_ge (hu : X.A.units < cLine) : CmpOk X .GtE gGe := (cmpI op_ge).or (cmpT (op_geT hu))
theorem c_gt : CmpOk X .Gt gGt := cmpI op_gt
def deq (d e : D) : Bool := PyData.eqv (pd d) (pd e)
def gEq (d e : D) : Option Bool := if (shp 8 d && shp 8 e) = true then some (deq d e) else none
def gNe (d e : D) : Option Bool := if (shp 8 d && shp 8 e) = true then some (!deq d e) else none
theorem c_eq (hu : X.A.units + 64 < cLine) : CmpOk X .Eq gEq :=
  ⟨_, op_eqD hu, fun S S' H l l' v w d e F G b Q p1 p2 h q => by
    unfold gEq at h
    split at h
    · rename_i z
      rw [Bool.and_eq_true] at z
      cases h
      exact ⟨_, _, p1.dp z.1, p2.dp z.2, shaped_of z.1, shaped_of z.2, q⟩
    · cases h⟩
theorem c_ne (hu : X.A.units + 64 < cLine) : CmpOk X .NotEq gNe :=
  ⟨_, op_neD hu, fun S S' H l l' v w d e F G b Q p1 p2 h q => by
    unfold gNe at h
    split at h
    · rename_i z
      rw [Bool.and_eq_true] at z
      cases h
      exact ⟨_, _, p1.dp z.1, p2.dp z.2, shaped_of z.1, shaped_of z.2, q⟩
    · cases h⟩
def isN : D → Bool
  | .non => true
  | .any => true
  | .sh _ => true
  | _ => false
theorem isN_v {K : PySem.W.Frag} {S : Addr → Prop} {H : Hp} {l : Lv} {v : V} {d : D} {F : List Addr} (p : Rp K S H l v d F) (ha : d ≠ .any) (hb : ∀ e, d ≠ .sh e) : decide (v = .non) = isN d := by
  cases p with
  | any => exact absurd rfl ha
  | sh => exact absurd rfl (hb _)
  | non => rfl
  | nd0 h => cases h <;> rfl
  | nd1 _ h => cases h <;> rfl
  | _ => rfl
def gIs : D → D → Option Bool
  | .any, _ => none
  | .sh _, _ => none
  | d, .non => some (isN d)
  | _, _ => none
def gIsNot : D → D → Option Bool
  | .any, _ => none
  | .sh _, _ => none
  | d, .non => some (!isN d)
  | _, _ => none
theorem c_is : CmpOk X .Is gIs :=
  ⟨_, op_isN, fun S S' H l l' v w d e F G b Q p1 p2 h q => by
    unfold gIs at h
    split at h
    · cases h
    · cases h
    · rename_i hna hnb
      cases h
      obtain ⟨rfl, _⟩ := p2.non_inv
      refine ⟨rfl, ?_⟩
      rw [isN_v p1 (fun z => hna z) (fun e z => hnb e z)]
      exact q
    · cases h⟩
theorem c_isnot : CmpOk X .IsNot gIsNot :=
  ⟨_, op_notN, fun S S' H l l' v w d e F G b Q p1 p2 h q => by
    unfold gIsNot at h
    split at h
    · cases h
    · cases h
    · rename_i hna hnb
      cases h
      obtain ⟨rfl, _⟩ := p2.non_inv
      refine ⟨rfl, ?_⟩
      rw [isN_v p1 (fun z => hna z) (fun e z => hnb e z)]
      exact q
    · cases h⟩
section
variable {κ : Type} [DecidableEq κ]
def dlook (kd : List (κ × D)) (k : κ) : Option D := (kd.find? fun p => decide (p.1 = k)).map (·.2)
def dhas (kd : List (κ × D)) (k : κ) : Bool := kd.any fun p => decide (p.1 = k)
def dput (kd : List (κ × D)) (k : κ) (d : D) : List (κ × D) := if dhas kd k = true then kd.map (fun p => if p.1 = k then (p.1, d) else p) else kd ++ [(k, d)]
theorem has_keys {kv : List (κ × V)} {kd : List (κ × D)} (h : kv.map (·.1) = kd.map (·.1)) (k : κ) : (valV kv k).isSome = dhas kd k := by
  rw [← valV_any]
  show (kv.any ((fun x => decide (x = k)) ∘ fun p => p.1)) = kd.any ((fun x => decide (x = k)) ∘ fun p => p.1)
  rw [← List.any_map, ← List.any_map, h]
end
def keyOf : D → Option Key
  | .int i => some (.inl i)
  | .str x => some (.inr x)
  | _ => none
def keysOf : List D → Option (List Key)
  | [] => some []
  | d :: ds => (keyOf d).bind fun i => (keysOf ds).map (i :: ·)
section
variable {K : PySem.W.Frag} {S : Addr → Prop} {H : Hp} {l : Lv}
theorem Rp.key {v : V} {d : D} {F : List Addr} {k : Key} (p : Rp K S H l v d F) (h : keyOf d = some k) : v = kV k := by
  cases d <;> first | (cases h; first | exact p.int_inv.1 | exact p.str_inv.1) | cases h
theorem Rps.keys : ∀ {vs : List V} {ds : List D} {F : List Addr} {ks : List Key}, Rps K S H l vs ds F → keysOf ds = some ks → vs = ks.map kV
  | _, _, _, _, .nil, h => by cases h; rfl
  | _, _, _, ks, .cons h1 h2, h => by
    unfold keysOf at h
    obtain ⟨i, e1, h⟩ := bind_some h
    obtain ⟨m, e2, h⟩ := Option.map_eq_some_iff.mp h
    subst h
    rw [h1.key e1, Rps.keys h2 e2]
    rfl
theorem Rp.dk_inv {v : V} {kd : List (Key × D)} {F : List Addr} (p : Rp K S H l v (.dk kd) F) : ∃ a kv G, v = .ref a ∧ Rd H a (.dK kv) ∧ kv.map (·.1) = kd.map (·.1) ∧ Rps K S H (ch l) (kv.map (·.2)) (kd.map (·.2)) G ∧ ∀ b ∈ G, b ∈ F := by
  cases p with
  | nd0 h h1 h2 h3 => cases h with | dk e => exact ⟨_, _, _, rfl, h1.rd, e, h3, fun _ z => z⟩
  | nd1 h0 h h1 h2 => cases h with | dk e => exact ⟨_, _, _, rfl, .inl h1, e, h2, fun _ z => List.mem_cons_of_mem _ z⟩
theorem Rp.dt_inv {v : V} {kd : List (List Key × D)} {F : List Addr} (p : Rp K S H l v (.dt kd) F) : ∃ a kv G, v = .ref a ∧ Rd H a (.dT kv) ∧ kv.map (·.1) = kd.map (·.1) ∧ Rps K S H (ch l) (kv.map (·.2)) (kd.map (·.2)) G ∧ ∀ b ∈ G, b ∈ F := by
  cases p with
  | nd0 h h1 h2 h3 => cases h with | dt e => exact ⟨_, _, _, rfl, h1.rd, e, h3, fun _ z => z⟩
  | nd1 h0 h h1 h2 => cases h with | dt e => exact ⟨_, _, _, rfl, .inl h1, e, h2, fun _ z => List.mem_cons_of_mem _ z⟩
end
theorem DGet.rk {H : Hp} {a : Addr} {kvs : List (Key × V)} {k : Key} (e : Rd H a (.dK kvs)) : DGet H a (kV k) (valV kvs k) := .inl ⟨kvs, k, e, rfl, rfl⟩
theorem DGet.rt {H : Hp} {a b : Addr} {kvs : List (List Key × V)} {k : List Key} (e : Rd H a (.dT kvs)) (eb : H b = some (.tup (k.map kV))) : DGet H a (.ref b) (valV kvs k) := .inr ⟨kvs, k, b, e, rfl, eb, rfl⟩
theorem rd_same {H H' : Hp} {a : Addr} {o : HO} (h : Rd H a o) (n : NT o) (s : Same H H') : Rd H' a o := h.imp (fun e => s.k _ _ e n) fun ⟨o', e⟩ => ⟨o', s.k _ _ e trivial⟩
def gInL (n : Bool) : D → D → Option Bool
  | d, .lst ds => if (shp 8 d && shps 7 ds) = true then some (n != (ds.any fun z => deq z d)) else none
  | d, .fl ds => if (shp 8 d && shps 7 ds) = true then some (n != (ds.any fun z => deq z d)) else none
  | _, _ => none
def gInD (n : Bool) : D → D → Option Bool
  | d, .dk kd => (keyOf d).map fun k => n != dhas kd k
  | .tup ds, .dt kd => (keysOf ds).map fun k => n != dhas kd k
  | _, _ => none
def gInT (n : Bool) : D → D → Option Bool
  | .int i, .tup ds => (intsOf ds).map fun ns => n != (ns.any fun z => z == i)
  | _, _ => none
theorem any_pds (ds : List D) (d : D) : ((pds ds).any fun z => PyData.eqv z (pd d)) = ds.any fun z => deq z d := by
  rw [pds_map, List.any_map]
  rfl
theorem shp_lst {ds : List D} (h : shps 7 ds = true) : shp 8 (.lst ds) = true := by simpa only [shp] using h
theorem shp_fl {ds : List D} (h : shps 7 ds = true) : shp 8 (.fl ds) = true := by simpa only [shp] using h
theorem c_inL (hu : X.A.units + 65 < cLine) : CmpOk X .In (gInL false) :=
  ⟨_, op_inD hu, fun S S' H l l' v w d e F G b Q p1 p2 h q => by
    unfold gInL at h
    split at h
    · split at h
      · rename_i z
        rw [Bool.and_eq_true] at z
        cases h
        have p3 := p2.dp (shp_lst z.2)
        have s3 := shaped_of (shp_lst z.2)
        simp only [pd] at p3 s3
        refine ⟨_, _, p1.dp z.1, p3, shaped_of z.1, s3, ?_⟩
        rw [any_pds]
        simpa using q
      · cases h
    · split at h
      · rename_i z
        rw [Bool.and_eq_true] at z
        cases h
        have p3 := p2.dp (shp_fl z.2)
        have s3 := shaped_of (shp_fl z.2)
        simp only [pd] at p3 s3
        refine ⟨_, _, p1.dp z.1, p3, shaped_of z.1, s3, ?_⟩
        rw [any_pds]
        simpa using q
      · cases h
    · cases h⟩
theorem c_ninL (hu : X.A.units + 65 < cLine) : CmpOk X .NotIn (gInL true) :=
  ⟨_, op_notInD hu, fun S S' H l l' v w d e F G b Q p1 p2 h q => by
    unfold gInL at h
    split at h
    · split at h
      · rename_i z
        rw [Bool.and_eq_true] at z
        cases h
        have p3 := p2.dp (shp_lst z.2)
        have s3 := shaped_of (shp_lst z.2)
        simp only [pd] at p3 s3
        refine ⟨_, _, p1.dp z.1, p3, shaped_of z.1, s3, ?_⟩
        rw [any_pds]
        simpa using q
      · cases h
    · split at h
      · rename_i z
        rw [Bool.and_eq_true] at z
        cases h
        have p3 := p2.dp (shp_fl z.2)
        have s3 := shaped_of (shp_fl z.2)
        simp only [pd] at p3 s3
        refine ⟨_, _, p1.dp z.1, p3, shaped_of z.1, s3, ?_⟩
        rw [any_pds]
        simpa using q
      · cases h
    · cases h⟩
def rInDict (n : Bool) : R2 := fun y x H Q => ∃ a o, x = .ref a ∧ DGet H a y o ∧ Q (.bl (n != o.isSome)) H
theorem op_inDict (hu : X.A.units + 1 < cLine) : OpR X (compareOp .In) (rInDict false) := by
  intro pins s σ H y x v u Q I ry rx ⟨a, o, e, g, q⟩
  subst e
  cases rx
  exact d_in hu I g ry fun s' I' => ⟨.bl _, H, I', rfl, by simpa using q⟩
theorem op_ninDict (hu : X.A.units + 1 < cLine) : OpR X (compareOp .NotIn) (rInDict true) := by
  intro pins s σ H y x v u Q I ry rx ⟨a, o, e, g, q⟩
  subst e
  cases rx
  exact d_notIn hu I g ry fun s' I' => ⟨.bl _, H, I', rfl, by simpa using q⟩
theorem in_dict {n : Bool} {S S' : Addr → Prop} {H : Hp} {l l' : Lv} {v w : V} {d e : D} {F G : List Addr} {b : Bool} {Q : VK} (p1 : Rp X.K S H l v d F) (p2 : Rp X.K S' H l' w e G) (h : gInD n d e = some b) (q : Q (.bl b) H) : rInDict n v w H Q := by
  unfold gInD at h
  split at h
  · obtain ⟨k, e1, h⟩ := Option.map_eq_some_iff.mp h
    obtain ⟨a, kv, _, rfl, h1, h2, _⟩ := p2.dk_inv
    refine ⟨a, _, rfl, by rw [p1.key e1]; exact DGet.rk h1, ?_⟩
    rw [has_keys h2, h]
    exact q
  · obtain ⟨k, e1, h⟩ := Option.map_eq_some_iff.mp h
    obtain ⟨a, kv, _, rfl, h1, h2, _⟩ := p2.dt_inv
    obtain ⟨c, vs, rfl, h3, h4⟩ := p1.tup_inv
    refine ⟨a, _, rfl, DGet.rt h1 (by rw [h3, h4.keys e1]), ?_⟩
    rw [has_keys h2, h]
    exact q
  · cases h
theorem flat_ints : ∀ ns : List Int, (ns.map V.int).all flatV = true
  | [] => rfl
  | n :: ns => flat_ints ns
theorem inV_ints (i : Int) : ∀ ns : List Int, inV (.int i) (ns.map V.int) = ns.any fun z => z == i
  | [] => rfl
  | n :: ns => by
    have ih := inV_ints i ns
    unfold inV at ih ⊢
    rw [List.map_cons, List.any_cons, List.any_cons, ih]
    rfl
theorem in_tup {n : Bool} {S S' : Addr → Prop} {H : Hp} {l l' : Lv} {v w : V} {d e : D} {F G : List Addr} {b : Bool} {Q : VK} (p1 : Rp X.K S H l v d F) (p2 : Rp X.K S' H l' w e G) (h : gInT n d e = some b) (q : Q (.bl b) H) : rIn X.K n v w H Q := by
  unfold gInT at h
  split at h
  · rename_i i ds
    obtain ⟨ns, e1, h⟩ := Option.map_eq_some_iff.mp h
    obtain ⟨a, vs, rfl, h1, h2⟩ := p2.tup_inv
    rw [intsOf_some e1] at h2
    obtain ⟨rfl, _⟩ := h2.ints
    obtain ⟨rfl, _⟩ := p1.int_inv
    refine ⟨a, _, rfl, .inr (SqT.of h1), rfl, flat_ints ns, ?_⟩
    rw [inV_ints]
    subst h
    cases n <;> simpa using q
  · cases h
abbrev gIn : D → D → Option Bool := fun d e => (gInL false d e).or ((gInD false d e).or (gInT false d e))
abbrev gNin : D → D → Option Bool := fun d e => (gInL true d e).or ((gInD true d e).or (gInT true d e))
theorem c_in (hu : X.A.units + 65 < cLine) : CmpOk X .In gIn := (c_inL hu).or (CmpOk.or ⟨_, op_inDict (by omega), fun S S' H l l' v w d e F G b Q p1 p2 h q => in_dict p1 p2 h q⟩ ⟨_, op_in_seq, fun S S' H l l' v w d e F G b Q p1 p2 h q => in_tup p1 p2 h q⟩)
theorem c_nin (hu : X.A.units + 65 < cLine) : CmpOk X .NotIn gNin := (c_ninL hu).or (CmpOk.or ⟨_, op_ninDict (by omega), fun S S' H l l' v w d e F G b Q p1 p2 h q => in_dict p1 p2 h q⟩ ⟨_, op_notIn_seq, fun S S' H l l' v w d e F G b Q p1 p2 h q => in_tup p1 p2 h q⟩)
end
end Ev
set_option Elab.async false
set_option linter.all false
set_option maxRecDepth 100000
namespace Ev
open PySem PySem.Spec L2
open PyProof.Rows hiding St
section
variable {X : Cx} {a b c e : Expr} {fa fb fc fe : EvE} {ga gb gc : EvT} {pos : Pos} {rest es : List Expr}
def tVal (fa : EvE) : EvT := fun ρ => (fa ρ).bind fun x => match x.d with
  | .bl k => some k
  | _ => none
theorem t_val (h : PEv X e fe) (he : ∀ whole, isTrue e X.env whole = (do let v ← whole; standAt e.pos; holding [v] (truthy v)) := by intro _; rfl) : PTv X e (tVal fe) := by
  refine imp_t (pt_val h he) fun σ H Q ⟨N, H0, ρ, L, W, k, sim, z, q⟩ => ?_
  unfold tVal at z
  obtain ⟨x, e1, z⟩ := bind_some z
  split at z
  · rename_i k' d1
    cases z
    refine one sim e1 fun v H1 F s _ _ p => ?_
    rw [d1] at p
    obtain ⟨rfl, _⟩ := p.bl_inv
    exact ⟨_, rfl, q _ s⟩
  · cases z
def tAnd (f g : EvT) : EvT := fun ρ => (f ρ).bind fun k => if k = true then g ρ else some false
def tOr (f g : EvT) : EvT := fun ρ => (f ρ).bind fun k => if k = true then some true else g ρ
def tNot (f : EvT) : EvT := fun ρ => (f ρ).map fun k => !k
theorem t_and1 (ha : PTv X a ga) : PWv X (.BoolOp .And [a] pos) ga := pw_and1 ha
theorem t_or1 (ha : PTv X a ga) : PWv X (.BoolOp .Or [a] pos) ga := pw_or1 ha
theorem t_and (ha : PTv X a ga) (hb : PWv X (.BoolOp .And (b :: rest) pos) gb) : PWv X (.BoolOp .And (a :: b :: rest) pos) (tAnd ga gb) := by
  refine imp_w (pw_and ha hb) fun σ H Q ⟨N, H0, ρ, L, W, k, sim, z, q⟩ => ?_
  unfold Ev.tAnd at z
  obtain ⟨k1, e1, z⟩ := bind_some z
  refine ⟨N, H0, ρ, L, W, k1, sim, e1, fun H1 s1 => ?_⟩
  cases k1 with
  | true => exact ⟨N, H0, ρ, L, W, k, sim.same s1, z, fun H2 s2 => q _ (s1.trans s2)⟩
  | false => cases z; exact q _ s1
theorem t_or (ha : PTv X a ga) (hb : PWv X (.BoolOp .Or (b :: rest) pos) gb) : PWv X (.BoolOp .Or (a :: b :: rest) pos) (tOr ga gb) := by
  refine imp_w (pw_or ha hb) fun σ H Q ⟨N, H0, ρ, L, W, k, sim, z, q⟩ => ?_
  unfold Ev.tOr at z
  obtain ⟨k1, e1, z⟩ := bind_some z
  refine ⟨N, H0, ρ, L, W, k1, sim, e1, fun H1 s1 => ?_⟩
  cases k1 with
  | false => exact ⟨N, H0, ρ, L, W, k, sim.same s1, z, fun H2 s2 => q _ (s1.trans s2)⟩
  | true => cases z; exact q _ s1
theorem t_bool (h : PWv X e ga) : PTv X e ga := h.pt
theorem t_not (ha : PTv X a ga) : PTv X (.UnaryOp .Not a pos) (tNot ga) := by
  refine imp_t (pt_not ha) fun σ H Q ⟨N, H0, ρ, L, W, k, sim, z, q⟩ => ?_
  unfold Ev.tNot at z
  obtain ⟨k1, e1, z⟩ := Option.map_eq_some_iff.mp z
  subst z
  exact ⟨N, H0, ρ, L, W, k1, sim, e1, fun H1 s1 => q _ s1⟩
def eAnd (f g : EvE) : EvE := fun ρ => (f ρ).bind fun x => match x.d with
  | .bl true => g ρ
  | .bl false => some (rB false)
  | _ => none
def eNot (f : EvE) : EvE := fun ρ => (f ρ).bind fun x => match x.d with
  | .bl k => some (rB !k)
  | _ => none
theorem e_not (ha : PEv X a fa) : PEv X (.UnaryOp .Not a pos) (eNot fa) := by
  refine imp_e (pe_not ha) fun σ H Q ⟨N, H0, ρ, L, W, r, sim, z, q⟩ => ?_
  unfold eNot at z
  obtain ⟨x, e1, z⟩ := bind_some z
  split at z
  · rename_i k d1
    cases z
    refine one sim e1 fun v H1 F s _ _ p => ?_
    rw [d1] at p
    obtain ⟨rfl, _⟩ := p.bl_inv
    exact ⟨_, rfl, q.bl s⟩
  · cases z
theorem e_one (op : BoolOp) (ha : PEv X a fa) : PEv X (.BoolOp op [a] pos) fa := by
  cases op <;> exact pe_one ha
theorem e_and (ha : PEv X a fa) (hb : PEv X (.BoolOp .And (b :: rest) pos) fb) : PEv X (.BoolOp .And (a :: b :: rest) pos) (eAnd fa fb) := by
  refine imp_e (pe_and ha hb) fun σ H Q ⟨N, H0, ρ, L, W, r, sim, z, q⟩ => ?_
  unfold eAnd at z
  obtain ⟨x, e1, z⟩ := bind_some z
  split at z
  · rename_i d1
    refine one sim e1 fun v H1 F s n nd p => ?_
    rw [d1] at p
    obtain ⟨rfl, hF⟩ := p.bl_inv
    subst hF
    exact ⟨true, rfl, iteT ⟨N, H0, ρ, L, W, r, sim.same s, z, fun v2 H2 F2 s2 n2 nd2 p2 => q v2 H2 F2 (s.trans s2) (fun a z => s.free (n2 a z)) nd2 p2⟩⟩
  · rename_i d1
    cases z
    refine one sim e1 fun v H1 F s n nd p => ?_
    rw [d1] at p
    obtain ⟨rfl, hF⟩ := p.bl_inv
    exact ⟨false, rfl, iteF (q.bl s)⟩
  · cases z
inductive RpL (K : PySem.W.Frag) (N : Nw) (W T : List Addr) (H : Hp) : List V → List Rv → List Addr → Prop
  | nil : RpL K N W T H [] [] []
  | cons {v : V} {r : Rv} {vs : List V} {rs : List Rv} {F G : List Addr} : Rp K (fun a => SR N W r.al r.vw a ∧ (r.vw = false → a ∉ T)) H r.l v r.d F → RpL K N W T H vs rs G → RpL K N W T H (v :: vs) (r :: rs) (F ++ G)
end
section
variable {K : PySem.W.Frag} {N : Nw} {W W' T T' : List Addr} {H H' : Hp}
theorem RpL.mono (h : ∀ al vw a, SR N W al vw a ∧ (vw = false → a ∉ T) → SR N W' al vw a ∧ (vw = false → a ∉ T')) : ∀ {vs : List V} {rs : List Rv} {F : List Addr}, RpL K N W T H vs rs F → RpL K N W' T' H vs rs F
  | _, _, _, .nil => .nil
  | _, _, _, .cons h1 h2 => .cons (h1.mono fun a z => h _ _ a z) (RpL.mono h h2)
theorem RpL.own_trk : ∀ {vs : List V} {rs : List Rv} {F : List Addr}, RpL K N W T H vs rs F → ∀ a ∈ F, H a ≠ none
  | _, _, _, .nil => fun _ z => nomatch z
  | _, _, _, .cons h1 h2 => fun a z => (List.mem_append.mp z).elim (h1.own_trk a) (RpL.own_trk h2 a)
theorem RpL.len : ∀ {vs : List V} {rs : List Rv} {F : List Addr}, RpL K N W T H vs rs F → vs.length = rs.length
  | _, _, _, .nil => rfl
  | _, _, _, .cons _ h => by rw [List.length_cons, List.length_cons, RpL.len h]
theorem RpL.full {al : Bool} : ∀ {vs : List V} {rs : List Rv} {F : List Addr}, RpL K N W T H vs rs F → rs.all (fun r => !r.vw && decide (r.l = .full)) = true → (∀ r ∈ rs, r.al = true → al = true) → Rps K (fun a => SR N W al false a ∧ a ∉ T) H .full vs (rs.map (·.d)) F
  | _, _, _, .nil, _, _ => .nil
  | _, _, _, .cons (r := r) h1 h2, e, ha => by
    rw [List.all_cons, Bool.and_eq_true, Bool.and_eq_true] at e
    obtain ⟨⟨e1, e2⟩, e3⟩ := e
    have e1 : r.vw = false := by simpa using e1
    have e2 : r.l = .full := by simpa using e2
    rw [e2] at h1
    refine .cons (h1.mono fun a z => ⟨⟨z.1.1.up (ha r List.mem_cons_self), fun _ => z.1.2 e1⟩, z.2 e1⟩) (RpL.full h2 e3 fun r hr => ha r (List.mem_cons_of_mem _ hr))
theorem RpL.give {al : Bool} (hT : ∀ a ∈ T, N a ∧ a ∉ W) : ∀ {vs : List V} {rs : List Rv} {F : List Addr}, RpL K N W T H vs rs F → (∀ a ∈ F, a ∈ T) → rs.all (fun r => !r.vw) = true → (∀ r ∈ rs, r.al = true → al = true) → Rps K (fun a => SR N W al false a) H .shr vs (rs.map (·.d)) []
  | _, _, _, .nil, _, _, _ => .nil
  | _, _, _, .cons (r := r) (F := F) h1 h2, hs, e, ha => by
    rw [List.all_cons, Bool.and_eq_true] at e
    obtain ⟨e1, e3⟩ := e
    have e1 : r.vw = false := by simpa using e1
    refine Rps.cons (F := []) (G := []) (h1.give (fun a z => ⟨z.1.1.up (ha r List.mem_cons_self), fun _ => z.1.2 e1⟩) fun a z => ⟨.new (hT a (hs a (List.mem_append_left _ z))).1, fun _ => (hT a (hs a (List.mem_append_left _ z))).2⟩)
      (RpL.give hT h2 (fun a z => hs a (List.mem_append_right _ z)) e3 fun r hr => ha r (List.mem_cons_of_mem _ hr))
theorem RpL.look : ∀ {vs : List V} {rs : List Rv} {F : List Addr}, RpL K N W T H vs rs F → Rps K (fun _ => True) H .shr vs (rs.map (·.d)) []
  | _, _, _, .nil => .nil
  | _, _, _, .cons h1 h2 => Rps.cons (F := []) (G := []) (h1.give (fun _ _ => trivial) fun _ _ => trivial) (RpL.look h2)
end
def tA (K : PySem.W.Frag) (f : EvA) : TA := fun σ H Q => ∃ N H0 ρ L W rs, SimH K N H0 ρ σ H L W ∧ f ρ = some rs ∧ ∀ vs H' T, Same H H' → (∀ a ∈ T, H a = none) → T.Nodup → RpL K N W T H' vs rs T → Q vs H'
abbrev PAv (X : Cx) (es : List Expr) (f : EvA) : Prop := PA X es (tA X.K f)
theorem imp_a {X : Cx} {e : List Expr} {t t' : TA} (h : PA X e t) (i : ∀ σ H Q, t' σ H Q → t σ H Q) : PA X e t' := ⟨fun p ps s σ H Q I w => h.run p ps s σ H Q I (i σ H Q w)⟩
def aNil : EvA := fun _ => some []
def aCons (f : EvE) (g : EvA) : EvA := fun ρ => (f ρ).bind fun r => (g ρ).bind fun rs => some (r :: rs)
section
variable {X : Cx} {a b c e : Expr} {fa fb fc fe : EvE} {ga : EvA} {pos : Pos} {rest es : List Expr}
theorem a_nil : PAv X [] aNil := imp_a pa_nil fun σ H Q ⟨N, H0, ρ, L, W, rs, sim, z, q⟩ => by
  cases z
  exact q [] H [] (Same.refl H) (fun _ z => nomatch z) .nil .nil
theorem a_cons (ha : PEv X e fe) (hr : PAv X es ga) (hs : starEach (e :: es) X.env = (false, eval e X.env) :: starEach es X.env := by rfl) : PAv X (e :: es) (aCons fe ga) := by
  refine imp_a (pa_cons ha hr hs) fun σ H Q ⟨N, H0, ρ, L, W, rs, sim, z, q⟩ => ?_
  unfold aCons at z
  obtain ⟨r, e1, z⟩ := bind_some z
  obtain ⟨rs, e2, z⟩ := bind_some z
  cases z
  refine one sim e1 fun v H1 F s1 n1 d1 p1 => ?_
  refine ⟨N, H0, ρ, L, W ++ F, rs, sim.hold s1 n1 d1 p1.own_mut, e2, fun vs H2 T s2 n2 d2 p2 => ?_⟩
  refine q (v :: vs) H2 (F ++ T) (s1.trans s2) (fun a z => (List.mem_append.mp z).elim (n1 a) fun z => s1.free (n2 a z)) ?_ (.cons ?_ (p2.mono fun al vw a z => ⟨⟨z.1.1, fun e => fun m => z.1.2 e (List.mem_append_left _ m)⟩, fun e m => (List.mem_append.mp m).elim (fun m => z.1.2 e (List.mem_append_right _ m)) (z.2 e)⟩))
  · rw [List.nodup_append]
    exact ⟨d1, d2, fun a ha b hb e => p1.own_trk a ha (e ▸ n2 b hb)⟩
  · exact (p1.trk.same s2).mono fun a z => ⟨z.1.1, fun _ m => (List.mem_append.mp m).elim z.1.2 fun m => z.2 (n2 a m)⟩
def mkTup (rs : List Rv) : Option Rv :=
  if (rs.all (fun r => !r.vw) && decide (rs.length ≤ 1000)) = true then
    some (if rs.all (fun r => !r.vw && decide (r.l = .full)) = true then ⟨.tup (rs.map (·.d)), .full, rs.any (·.al), false⟩ else ⟨.tup (rs.map (·.d)), .shr, rs.any (·.al), false⟩)
  else none
def mkLst (rs : List Rv) : Option Rv :=
  if (rs.all (fun r => !r.vw) && decide (rs.length ≤ 1000)) = true then
    some (if rs.all (fun r => !r.vw && decide (r.l = .full)) = true then ⟨.lst (rs.map (·.d)), .full, rs.any (·.al), false⟩ else ⟨.lst (rs.map (·.d)), .top, rs.any (·.al), false⟩)
  else none
def eTup (g : EvA) : EvE := fun ρ => (g ρ).bind mkTup
def eLst (g : EvA) : EvE := fun ρ => (g ρ).bind mkLst
theorem nodup1 {p : Addr} : [p].Nodup := by simp
theorem al_any {rs : List Rv} : ∀ r ∈ rs, r.al = true → rs.any (·.al) = true := fun r h e => List.any_eq_true.mpr ⟨r, h, e⟩
theorem le1000 {n : Nat} (h : n ≤ 1000) : n ≤ sizeLine := Nat.le_trans h (by rw [sizeLine_eq]; decide)
theorem e_tup {x1} (h : PAv X es ga) : PEv X (.Tuple es x1 pos) (eTup ga) := by
  refine imp_e (pe_tup h) fun σ H Q ⟨N, H0, ρ, L, W, r, sim, z, q⟩ => ?_
  unfold eTup at z
  obtain ⟨rs, e1, z⟩ := bind_some z
  unfold mkTup at z
  split at z
  · rename_i hc
    rw [Bool.and_eq_true, decide_eq_true_eq] at hc
    refine ⟨N, H0, ρ, L, W, rs, sim, e1, fun vs H1 T s1 n1 d1 p1 => ⟨le1000 (by rw [p1.len]; exact hc.2), fun p np => ?_⟩⟩
    have hT : ∀ a ∈ T, N a ∧ a ∉ W := fun a m => ⟨sim.nw a (n1 a m), fun w => sim.th a w (n1 a m)⟩
    split at z
    · rename_i hf
      cases z
      exact q _ _ T (s1.trans (same_upd np)) n1 d1 (.tup upd_same ((p1.full hf al_any).same (same_upd np)))
    · cases z
      exact q _ _ [] (s1.trans (same_upd np)) (fun _ z => nomatch z) .nil (.tup upd_same (((p1.give hT (fun _ m => m) hc.1 al_any).same (same_upd np)).mono fun a z => ⟨z, fun m => nomatch m⟩))
  · cases z
theorem e_lst (h : PAv X es ga) : PEv X (.List es pos) (eLst ga) := by
  refine imp_e (pe_lst h) fun σ H Q ⟨N, H0, ρ, L, W, r, sim, z, q⟩ => ?_
  unfold eLst at z
  obtain ⟨rs, e1, z⟩ := bind_some z
  unfold mkLst at z
  split at z
  · rename_i hc
    rw [Bool.and_eq_true, decide_eq_true_eq] at hc
    refine ⟨N, H0, ρ, L, W, rs, sim, e1, fun vs H1 T s1 n1 d1 p1 => ⟨le1000 (by rw [p1.len]; exact hc.2), fun p np => ?_⟩⟩
    have hT : ∀ a ∈ T, N a ∧ a ∉ W := fun a m => ⟨sim.nw a (n1 a m), fun w => sim.th a w (n1 a m)⟩
    have nW : p ∉ W := fun w => sim.th p w (s1.free np)
    split at z
    · rename_i hf
      cases z
      refine q _ _ (p :: T) (s1.trans (same_upd np)) (fun a m => (List.mem_cons.mp m).elim (fun e => e ▸ s1.free np) (n1 a)) (List.nodup_cons.mpr ⟨fun m => p1.own_trk p m np, d1⟩) (.nd1 (fun z => nomatch z) .lst upd_same ?_)
      exact (((p1.full hf al_any).trk).same (same_upd np)).mono fun a z => ⟨z.1.1, fun m => (List.mem_cons.mp m).elim (fun e => z.2 (e ▸ np)) z.1.2⟩
    · cases z
      refine q _ _ [p] (s1.trans (same_upd np)) (fun a m => (List.mem_cons.mp m).elim (fun e => e ▸ s1.free np) fun m => nomatch m) nodup1 (.nd1 (fun z => nomatch z) .lst upd_same ?_)
      exact (((p1.give hT (fun _ m => m) hc.1 al_any).trk).same (same_upd np)).mono fun a z => ⟨z.1, fun m => (List.mem_cons.mp m).elim (fun e => z.2 (e ▸ np)) fun m => nomatch m⟩
  · cases z
theorem e_dict {pos : Pos} : PEv X (.Dict [] [] pos) (fun _ => some ⟨.dk [], .full, false, false⟩) := by
  refine imp_e pe_dnewK fun σ H Q ⟨N, H0, ρ, L, W, r, sim, z, q⟩ p np => ?_
  cases z
  exact q _ _ [p] (same_upd np) (fun a m => (List.mem_cons.mp m).elim (fun e => e ▸ np) fun m => nomatch m) nodup1 (.nd1 (fun z => nomatch z) (.dk (kv := []) (kd := []) rfl) upd_same .nil)
theorem e_dictT {pos : Pos} : PEv X (.Dict [] [] pos) (fun _ => some ⟨.dt [], .full, false, false⟩) := by
  refine imp_e pe_dnewT fun σ H Q ⟨N, H0, ρ, L, W, r, sim, z, q⟩ p np => ?_
  cases z
  exact q _ _ [p] (same_upd np) (fun a m => (List.mem_cons.mp m).elim (fun e => e ▸ np) fun m => nomatch m) nodup1 (.nd1 (fun z => nomatch z) (.dt (kv := []) (kd := []) rfl) upd_same .nil)
theorem ix_dict (hu : X.A.units + 1 < cLine) : IxR X (fun x y H Q => ∃ a v, x = .ref a ∧ DGet H a y (some v) ∧ Q v H) := by
  intro value slice pins s σ H x y v u Q I rx ry ⟨a, z, e, g, q⟩ hs
  subst e
  obtain rfl : v = Value.ref a := rx
  unfold subscriptTail
  refine wpAny_bind ?_
  rw [getitemInPython_of_ne (dict_typeIs I g).not_modules]
  refine wpAny_bind (wpAny_specialOf (dict_typeIs I g) PySem.F.slot_dict_getitem.lookup ?_)
  have fin : wpAny (model X.prog X.w) X.A (subscripted slice false (.ref a) u) (fun r s₃ => wpAny (model X.prog X.w) X.A (letTemporaryGo value (.ref a) r >>= fun _ => pure r) (EP X pins σ Q) X.xe s₃) X.xe s := by
    rw [hs]
    exact wpAny_operating (d_getItem hu I g ry fun w' s3 I3 rw' => wpAny_bind (wpAny_letTemporaryGo (wpAny_pure ⟨z, H, I3, rw', q⟩)))
  first
    | exact wpAny_pure (wpAny_bind fin)
    | exact wpAny_bind (wpAny_pure (wpAny_bind fin))
    | exact wpAny_bind fin
def part (x : Rv) (d : D) : Rv := if imm d = true then rA d else ⟨d, .shr, x.al, x.vw⟩
def gIx : D → D → Option D
  | .lst ds, .int i => atI ds i
  | .fl ds, .int i => atI ds i
  | .tup ds, .int i => atI ds i
  | .dk kd, d => (keyOf d).bind (dlook kd)
  | .dt kd, .tup ds => (keysOf ds).bind (dlook kd)
  | _, _ => none
def eIx (fa fb : EvE) : EvE := fun ρ => (fa ρ).bind fun x => (fb ρ).bind fun y => (gIx x.d y.d).map (part x)
def rIxA (K : PySem.W.Frag) : R2 := fun x y H Q => rIx K x y H Q ∨ ∃ a v, x = .ref a ∧ DGet H a y (some v) ∧ Q v H
end
section
variable {K : PySem.W.Frag} {S S' : Addr → Prop} {H : Hp} {l l' : Lv} {v w : V} {F G : List Addr} {Q : VK}
theorem Rps.atI {vs : List V} {ds : List D} {i : Int} {d : D} (r : Rps K S H l vs ds F) (h : atI ds i = some d) : ∃ v G, atI vs i = some v ∧ Rp K S H l v d G ∧ ∀ b ∈ G, b ∈ F := by
  unfold L2.atI at h ⊢
  rw [r.len]
  obtain ⟨j, e1, e2⟩ := bind_some h
  obtain ⟨v, G, e3, q⟩ := r.get e2
  exact ⟨v, G, by rw [e1]; exact e3, q⟩
theorem look_rp {κ : Type} [DecidableEq κ] : ∀ {kv : List (κ × V)} {kd : List (κ × D)} {F : List Addr} {k : κ} {d : D}, kv.map (·.1) = kd.map (·.1) → Rps K S H l (kv.map (·.2)) (kd.map (·.2)) F → dlook kd k = some d →
    ∃ v G, valV kv k = some v ∧ Rp K S H l v d G ∧ ∀ b ∈ G, b ∈ F
  | [], [], _, k, d, _, _, h => by cases h
  | [], _ :: _, _, k, d, e, _, _ => by cases e
  | _ :: _, [], _, k, d, e, _, _ => by cases e
  | p :: kv, p' :: kd, F, k, d, e, r, h => by
    have e1 : p.1 = p'.1 := by have := congrArg List.head? e; simpa using this
    have e2 : kv.map (·.1) = kd.map (·.1) := by have := congrArg List.tail e; simpa using this
    have r : Rps K S H l (p.2 :: kv.map (·.2)) (p'.2 :: kd.map (·.2)) F := r
    cases r with
    | cons h1 h2 =>
      by_cases hk : p'.1 = k
      · have : dlook (p' :: kd) k = some p'.2 := by simp [dlook, List.find?_cons, hk]
        rw [this] at h
        cases h
        exact ⟨p.2, _, valV_pos (e1.trans hk), h1, fun _ z => List.mem_append_left _ z⟩
      · have : dlook (p' :: kd) k = dlook kd k := by simp [dlook, List.find?_cons, hk]
        rw [this] at h
        obtain ⟨v, G, q1, q2, q3⟩ := look_rp e2 h2 h
        exact ⟨v, G, by rw [valV_neg (by rw [e1]; exact hk)]; exact q1, q2, fun b z => List.mem_append_right _ (q3 b z)⟩
theorem ix_rp {d e z : D} (p1 : Rp K S H l v d F) (p2 : Rp K S' H l' w e G) (h : gIx d e = some z) (q : ∀ u l2 F2, Rp K S H l2 u z F2 → (∀ b ∈ F2, b ∈ F) → Q u H) : rIxA K v w H Q := by
  unfold gIx at h
  split at h
  · obtain ⟨a, vs, G1, rfl, h1, h2, h3, _⟩ := p1.lst_inv
    obtain ⟨rfl, _⟩ := p2.int_inv
    obtain ⟨u, G2, e1, r, sub⟩ := h2.atI h
    exact .inl (.inl ⟨a, vs, _, u, rfl, rfl, SqL.of h1, e1, q u _ _ r fun b z => h3 b (sub b z)⟩)
  · obtain ⟨a, vs, rfl, h1, h2, rfl⟩ := p1.fl_inv
    obtain ⟨rfl, _⟩ := p2.int_inv
    obtain ⟨u, G2, e1, r, sub⟩ := h2.atI h
    exact .inl (.inl ⟨a, vs, _, u, rfl, rfl, h1.sq, e1, q u _ _ r sub⟩)
  · obtain ⟨a, vs, rfl, h1, h2⟩ := p1.tup_inv
    obtain ⟨rfl, _⟩ := p2.int_inv
    obtain ⟨u, G2, e1, r, sub⟩ := h2.atI h
    exact .inl (.inr (.inl ⟨a, vs, _, u, rfl, rfl, SqT.of h1, e1, q u _ _ r sub⟩))
  · obtain ⟨k, ek, h⟩ := bind_some h
    obtain ⟨a, kv, G1, rfl, h1, h2, h3, h4⟩ := p1.dk_inv
    obtain ⟨u, G2, e1, r, sub⟩ := look_rp h2 h3 h
    refine .inr ⟨a, u, rfl, ?_, q u _ _ r fun b z => h4 b (sub b z)⟩
    rw [p2.key ek, ← e1]
    exact DGet.rk h1
  · obtain ⟨k, ek, h⟩ := bind_some h
    obtain ⟨a, kv, G1, rfl, h1, h2, h3, h4⟩ := p1.dt_inv
    obtain ⟨c, ws, rfl, h5, h6⟩ := p2.tup_inv
    obtain ⟨u, G2, e1, r, sub⟩ := look_rp h2 h3 h
    refine .inr ⟨a, u, rfl, ?_, q u _ _ r fun b z => h4 b (sub b z)⟩
    rw [← e1]
    exact DGet.rt h1 (by rw [h5, h6.keys ek])
  · cases h
theorem part_out {N : Nw} {W : List Addr} {H H1 : Hp} {x : Rv} {u : V} {d : D} {l2 : Lv} {F F2 : List Addr} {S : Addr → Prop} {Q : VK} (q : Post K N W H (part x d) Q) (s : Same H H1) (new : ∀ a ∈ F, N a ∧ a ∉ W) (hS : ∀ a, S a → SR N W x.al x.vw a)
    (r : Rp K S H1 l2 u d F2) (sub : ∀ b ∈ F2, b ∈ F) : Q u H1 := by
  unfold part at q
  cases hi : imm d with
  | true =>
    rw [hi, if_pos rfl] at q
    exact q.atom s fun S => (r.of_imm hi).2
  | false =>
    rw [hi, if_neg Bool.false_ne_true] at q
    exact q u H1 [] s (fun _ z => nomatch z) .nil (r.give (fun a z => ⟨hS a z, fun m => nomatch m⟩) fun a z => ⟨⟨.new (new a (sub a z)).1, fun _ => (new a (sub a z)).2⟩, fun m => nomatch m⟩)
end
section
variable {X : Cx} {a b c e : Expr} {fa fb fc fe : EvE} {ga : EvA} {pos : Pos} {rest es : List Expr}
theorem ix_any (hu : X.A.units + 1 < cLine) : IxR X (rIxA X.K) := ix_seq.or (ix_dict hu)
theorem e_ix (hu : X.A.units + 1 < cLine) (ha : PEv X a fa) (hb : PEv X b fb) (hs : PlainIx b := by exact fun _ _ => rfl) : PEv X (.Subscript a b pos) (eIx fa fb) := by
  refine imp_e (pe_ix (ix_any hu) ha hb hs) fun σ H Q ⟨N, H0, ρ, L, W, r, sim, z, q⟩ => ?_
  unfold eIx at z
  obtain ⟨x, e1, z⟩ := bind_some z
  obtain ⟨y, e2, z⟩ := bind_some z
  obtain ⟨d, e3, z⟩ := Option.map_eq_some_iff.mp z
  subst z
  refine two sim e1 e2 fun v w H2 F G s n1 n2 _ _ _ p1 p2 => ?_
  exact ix_rp p1 p2 e3 fun u l2 F2 r sub => part_out q s (F := F) (fun a m => ⟨sim.nw a (n1 a m), fun w => sim.th a w (n1 a m)⟩) (fun a z => z.1) r sub
def lenOf : D → Option Nat
  | .lst ds => some ds.length
  | .fl ds => some ds.length
  | .tup ds => some ds.length
  | .str x => if x.length ≤ 1000000 then some x.length else none
  | .dk kd => some kd.length
  | _ => none
def eLen (ga : EvA) : EvE := fun ρ => (ga ρ).bind fun rs => match rs with
  | [x] => (lenOf x.d).map fun n => rI n
  | _ => none
theorem arg1 {K : PySem.W.Frag} {N : Nw} {H0 H : Hp} {ρ : Env} {σ : St} {L W : List Addr} {ga : EvA} {x : Rv} {R : List V → Hp → Prop} (sim : SimH K N H0 ρ σ H L W) (e1 : ga ρ = some [x])
    (k : ∀ v H1 F, Same H H1 → (∀ a ∈ F, H a = none) → F.Nodup → Rp K (fun a => SR N W x.al x.vw a ∧ (x.vw = false → a ∉ F)) H1 x.l v x.d F → R [v] H1) : tA K ga σ H R :=
  ⟨N, H0, ρ, L, W, [x], sim, e1, fun vs H1 T s n nd p => by
    generalize hT : T = T0 at p
    cases p with
    | cons h1 h2 =>
      cases h2
      rw [List.append_nil] at hT
      subst hT
      exact k _ H1 _ s n nd (h1.mono fun a z => ⟨z.1, fun e m => z.2 e (by simpa using m)⟩)⟩
theorem call_len_d : CallR X (.builtin "len") (fun xs H Q => ∃ a kvs, xs = [.ref a] ∧ Rd H a (.dK kvs) ∧ Q (.int kvs.length) H) := by
  intro pins s σ H xs us Q I r ⟨a, kvs, e, h, q⟩
  subst e
  obtain ⟨u, rfl, rx⟩ := vals1 r
  cases rx
  exact d_len I h fun t s' I' => ⟨.int kvs.length, H, I', ⟨t, rfl⟩, q⟩
theorem e_len {p : Pos} (hm : X.mg "len" = none) (ha : PAv X (e :: es) ga) (hg : Gl X "len" := by rfl)
    (he : starEach (e :: es) X.env = (false, eval e X.env) :: starEach es X.env := by rfl) (hpl : (backTo pos (starEach es X.env)).any (·.1) = false := by rfl) : PEv X (.Call (.Name "len" p) (e :: es) [] pos) (eLen ga) := by
  refine imp_e (pe_callB (call_len_seq.or (call_len_str.or call_len_d)) hg hm PySem.boot_len ha (by decide) (by decide) he hpl) fun σ H Q ⟨N, H0, ρ, L, W, r, sim, z, q⟩ => ?_
  unfold eLen at z
  obtain ⟨rs, e1, z⟩ := bind_some z
  split at z
  · rename_i x
    obtain ⟨n, e2, z⟩ := Option.map_eq_some_iff.mp z
    subst z
    refine arg1 sim e1 fun v H1 F s _ _ p => ?_
    unfold lenOf at e2
    split at e2
    · rename_i ds hd
      rw [hd] at p
      obtain ⟨a, vs, G, rfl, h1, h2, _⟩ := p.lst_inv
      cases e2
      refine .inl ⟨a, vs, rfl, .inl (SqL.of h1), ?_⟩
      rw [h2.len]
      exact q.int s
    · rename_i ds hd
      rw [hd] at p
      obtain ⟨a, vs, rfl, h1, h2, _⟩ := p.fl_inv
      cases e2
      refine .inl ⟨a, vs, rfl, .inl h1.sq, ?_⟩
      rw [h2.len]
      exact q.int s
    · rename_i ds hd
      rw [hd] at p
      obtain ⟨a, vs, rfl, h1, h2⟩ := p.tup_inv
      cases e2
      refine .inl ⟨a, vs, rfl, .inr (SqT.of h1), ?_⟩
      rw [h2.len]
      exact q.int s
    · rename_i x hd
      rw [hd] at p
      obtain ⟨rfl, _⟩ := p.str_inv
      split at e2
      · rename_i hl
        cases e2
        exact .inr (.inl ⟨x, rfl, Nat.le_trans hl (by rw [sizeLine_eq]; decide), q.int s⟩)
      · cases e2
    · rename_i kd hd
      rw [hd] at p
      obtain ⟨a, kv, G, rfl, h1, h2, _⟩ := p.dk_inv
      cases e2
      refine .inr (.inr ⟨a, kv, rfl, h1, ?_⟩)
      have := congrArg List.length h2
      rw [List.length_map, List.length_map] at this
      rw [this]
      exact q.int s
    · cases e2
  · cases z
end
end Ev
set_option Elab.async false
set_option linter.all false
set_option maxRecDepth 100000
namespace Ev
open PySem PySem.Spec L2
open PyProof.Rows hiding St
abbrev Ret := D × Lv
abbrev RetD := D × Lv × Bool
def spD (K : PySem.W.Frag) (n : Nat) (φ : List D → Option RetD) : Sp := fun vs H Q _ => vs.length = n ∧ ∃ S ds r, Rps K S H .shr vs ds [] ∧ φ ds = some r ∧ TBs K H ∧
  ∀ v H' F, Same H H' → (∀ a ∈ F, H a = none) → F.Nodup → Rp K (fun a => (H a = none ∨ r.2.2 = true ∧ S a) ∧ a ∉ F) H' r.2.1 v r.1 F → Q v H'
structure FnD (P : Program) (w : World) (K : PySem.W.Frag) (mg : Str → Option Value) (base : Heap) (k : Nat) (x : Str) (n : Nat) (φ : List D → Option RetD) : Prop where
  ok : ∃ f fd ps, FnOk P w K mg base CX0 k f fd ps (spD K n φ) ∧ mg x = some (.ref f) ∧ PySem.W.keepIn K (.ref f) = true ∧ Binds K fd ps []
def mkR (al vw : Bool) (r : RetD) : Rv := if imm r.1 = true then rA r.1 else if r.2.2 = true then ⟨r.1, r.2.1, al, vw⟩ else ⟨r.1, r.2.1, false, false⟩
def eCall (φ : List D → Option RetD) (ga : EvA) : EvE := fun ρ => (ga ρ).bind fun rs => (φ (rs.map (·.d))).map (mkR (rs.any (·.al)) (rs.any (·.vw)))
theorem Post.ret {K : PySem.W.Frag} {N : Nw} {W : List Addr} {H H1 : Hp} {r : RetD} {al vw : Bool} {v : V} {F : List Addr} {Q : VK} {S : Addr → Prop} (q : Post K N W H (mkR al vw r) Q) (s : Same H H1) (new : ∀ a ∈ F, H a = none) (nd : F.Nodup) (hS : ∀ a, S a → (N a ∧ a ∉ W ∨ r.2.2 = true ∧ SR N W al vw a) ∧ a ∉ F) (rp : Rp K S H1 r.2.1 v r.1 F) : Q v H1 := by
  unfold mkR at q
  cases hi : imm r.1 with
  | true =>
    rw [hi, if_pos rfl] at q
    exact q.atom s fun S => (rp.of_imm hi).2
  | false =>
    rw [hi, if_neg Bool.false_ne_true] at q
    cases hr : r.2.2 with
    | false =>
      rw [hr, if_neg Bool.false_ne_true] at q
      refine q v H1 F s new nd (rp.mono fun a z => ⟨?_, (hS a z).2⟩)
      rcases (hS a z).1 with h | h
      · exact ⟨.new h.1, fun _ => h.2⟩
      · rw [hr] at h; cases h.1
    | true =>
      rw [hr, if_pos rfl] at q
      refine q v H1 F s new nd (rp.mono fun a z => ⟨?_, (hS a z).2⟩)
      rcases (hS a z).1 with h | h
      · exact ⟨.new h.1, fun _ => h.2⟩
      · exact h.2
theorem RpL.give' {K : PySem.W.Frag} {N : Nw} {W : List Addr} {H : Hp} {T : List Addr} {al vw : Bool} (hT : ∀ a ∈ T, N a ∧ a ∉ W) : ∀ {vs : List V} {rs : List Rv} {F : List Addr}, RpL K N W T H vs rs F → (∀ a ∈ F, a ∈ T) → (∀ r ∈ rs, r.al = true → al = true) → (∀ r ∈ rs, r.vw = true → vw = true) → Rps K (SR N W al vw) H .shr vs (rs.map (·.d)) []
  | _, _, _, .nil, _, _, _ => .nil
  | _, _, _, .cons (r := r) (F := F) h1 h2, hs, ha, hv => by
    refine Rps.cons (F := []) (G := []) (h1.give (fun a z => ⟨z.1.1.up (ha r List.mem_cons_self), fun e => z.1.2 ?_⟩) fun a z => ⟨.new (hT a (hs a (List.mem_append_left _ z))).1, fun _ => (hT a (hs a (List.mem_append_left _ z))).2⟩)
      (RpL.give' hT h2 (fun a z => hs a (List.mem_append_right _ z)) (fun r hr => ha r (List.mem_cons_of_mem _ hr)) fun r hr => hv r (List.mem_cons_of_mem _ hr))
    cases q : r.vw with
    | false => rfl
    | true => rw [hv r List.mem_cons_self q] at e; cases e
theorem any_of {α : Type} {p : α → Bool} {l : List α} : ∀ r ∈ l, p r = true → l.any p = true := fun r h e => List.any_eq_true.mpr ⟨r, h, e⟩
section
variable {X : Cx} {k n : Nat} {x : Str} {φ : List D → Option RetD} {p pos : Pos} {e : Expr} {es : List Expr} {ga : EvA} {fe fa fb : EvE}
theorem e_call (F : FnD X.prog X.w X.K X.mg X.base k x n φ) (hr : Room k X.A) (ha : PAv X (e :: es) ga) (hg : Gl X x := by rfl) (hdb : (x == ("__debug__" : Str)) = false := by decide)
    (he : starEach (e :: es) X.env = (false, eval e X.env) :: starEach es X.env := by rfl) (hpl : (backTo pos (starEach es X.env)).any (·.1) = false := by rfl) (hn : (e :: es).length = n := by rfl) (hl : ∀ ρ rs, ga ρ = some rs → rs.length = n) :
    PEv X (.Call (.Name x p) (e :: es) [] pos) (eCall φ ga) := by
  obtain ⟨f, fd, ps, G, hm, hk, hb⟩ := F.ok
  refine imp_e (pe_call G hr hg hm hk hb .nil pass0 ha hdb he hpl) fun σ H Q ⟨N, H0, ρ, L, W, r, sim, z, q⟩ => ?_
  unfold eCall at z
  obtain ⟨rs, e1, z⟩ := bind_some z
  obtain ⟨r', e2, z⟩ := Option.map_eq_some_iff.mp z
  subst z
  refine ⟨N, H0, ρ, L, W, rs, sim, e1, fun vs H1 T s1 n1 d1 p1 => ?_⟩
  have hT : ∀ a ∈ T, N a ∧ a ∉ W := fun a m => ⟨sim.nw a (n1 a m), fun w => sim.th a w (n1 a m)⟩
  refine ⟨by rw [List.append_nil, p1.len, hl ρ rs e1], SR N W (rs.any (·.al)) (rs.any (·.vw)), rs.map (·.d), r', by rw [List.append_nil]; exact p1.give' hT (fun _ m => m) (fun r h => any_of (p := fun r : Rv => r.al) r h) (fun r h => any_of (p := fun r : Rv => r.vw) r h), e2, sim.kp.tb.same s1, fun v H2 F s2 n2 d2 p2 => ?_⟩
  exact q.ret (s1.trans s2) (fun a z => s1.free (n2 a z)) d2 (fun a z => ⟨z.1.imp (fun y => ⟨sim.nw a (s1.free y), fun w => sim.th a w (s1.free y)⟩) id, z.2⟩) p2
end
theorem aNil_len {ρ : Env} {rs : List Rv} (h : aNil ρ = some rs) : rs.length = 0 := by cases h; rfl
theorem aCons_len {f : EvE} {g : EvA} {n : Nat} (hg : ∀ ρ rs, g ρ = some rs → rs.length = n) : ∀ ρ rs, aCons f g ρ = some rs → rs.length = n + 1 := fun ρ rs h => by
  unfold aCons at h
  obtain ⟨r, _, h⟩ := bind_some h
  obtain ⟨rs', e, h⟩ := bind_some h
  cases h
  rw [List.length_cons, hg ρ rs' e]
inductive Out where
  | nx (ρ : Env) | bk (ρ : Env) | ct (ρ : Env) | rt (ρ : Env) (d : D) (l : Lv) (al : Bool)
abbrev EvS := Env → Option Out
def Frm (H : Hp) (L : List Addr) (H' : Hp) (L' : List Addr) : Prop := (∀ b o, H b = some o → b ∉ L → NT o → H' b = some o) ∧ (∀ b, H' b = none → H b = none ∨ b ∈ L) ∧ ∀ b ∈ L', b ∈ L ∨ H b = none
theorem Frm.refl (H : Hp) (L : List Addr) : Frm H L H L := ⟨fun _ _ e _ _ => e, fun _ e => .inl e, fun _ z => .inl z⟩
theorem Frm.trans {H H1 H2 : Hp} {L L1 L2 : List Addr} (a : Frm H L H1 L1) (b : Frm H1 L1 H2 L2) : Frm H L H2 L2 :=
  ⟨fun c o e n m => b.1 c o (a.1 c o e n m) (fun z => (a.2.2 c z).elim n fun q => (by rw [e] at q; cases q)) m, fun c e => (b.2.1 c e).elim (a.2.1 c) fun z => (a.2.2 c z).symm, fun c z => (b.2.2 c z).elim (a.2.2 c) fun q => (a.2.1 c q).symm⟩
theorem Frm.same {H H' : Hp} {L L' : List Addr} (s : Same H H') (h : ∀ b ∈ L', b ∈ L ∨ H b = none) : Frm H L H' L' := ⟨fun b o e _ m => s.k b o e m, fun b e => .inl (s.free e), h⟩
def PostS (K : PySem.W.Frag) (N : Nw) (H0 H : Hp) (L : List Addr) : Out → Ends → Prop
  | .nx ρ, D => ∀ σ H' L', Sim K N H0 ρ σ H' L' → Frm H L H' L' → D.nx σ H'
  | .bk ρ, D => ∀ σ H' L', Sim K N H0 ρ σ H' L' → Frm H L H' L' → D.bk σ H'
  | .ct ρ, D => ∀ σ H' L', Sim K N H0 ρ σ H' L' → Frm H L H' L' → D.ct σ H'
  | .rt ρ d l al, D => ∀ v σ H' L' F, SimH K N H0 ρ σ H' L' (L' ++ F) → (∀ b o, H b = some o → b ∉ L → NT o → H' b = some o) → Rp K (fun a => AlN N al a ∧ a ∉ F ∧ a ∉ L') H' l v d F → D.rt v H'
def tS (K : PySem.W.Frag) (f : EvS) : TS := fun D σ H => ∃ N H0 ρ L o, Sim K N H0 ρ σ H L ∧ f ρ = some o ∧ PostS K N H0 H L o D
abbrev PSv (X : Cx) (st : Stmt) (f : EvS) : Prop := PS X st (tS X.K f)
abbrev PSsv (X : Cx) (st : List Stmt) (f : EvS) : Prop := PSs X st (tS X.K f)
theorem imp_s {X : Cx} {e : Stmt} {t t' : TS} (h : PS X e t) (i : ∀ D σ H, t' D σ H → t D σ H) : PS X e t' := ⟨fun p s σ H D I w => h.run p s σ H D I (i D σ H w)⟩
theorem imp_ss {X : Cx} {e : List Stmt} {t t' : TS} (h : PSs X e t) (i : ∀ D σ H, t' D σ H → t D σ H) : PSs X e t' := ⟨fun p s σ H D I w => h.run p s σ H D I (i D σ H w)⟩
theorem PostS.at_ {K : PySem.W.Frag} {N : Nw} {H0 H H1 : Hp} {L L1 : List Addr} {o : Out} {D : Ends} (p : PostS K N H0 H L o D) (f : Frm H L H1 L1) : PostS K N H0 H1 L1 o D := by
  cases o with
  | nx ρ => exact fun σ H' L' s f' => p σ H' L' s (f.trans f')
  | bk ρ => exact fun σ H' L' s f' => p σ H' L' s (f.trans f')
  | ct ρ => exact fun σ H' L' s f' => p σ H' L' s (f.trans f')
  | rt ρ d l al => exact fun v σ H' L' F s k r => p v σ H' L' F s (fun b o e n m => k b o (f.1 b o e n m) (fun m' => (f.2.2 b m').elim n fun z => by rw [e] at z; cases z) m) r
def sSeq (f g : EvS) : EvS := fun ρ => (f ρ).bind fun o => match o with
  | .nx ρ' => g ρ'
  | o => some o
def sNil : EvS := fun ρ => some (.nx ρ)
section
variable {X : Cx} {st : Stmt} {rest body orelse : List Stmt} {f g : EvS} {e c : Expr} {fe : EvE} {gc : EvT} {pos pos' : Pos}
theorem s_nil : PSsv X [] sNil := imp_ss pss_nil fun D σ H ⟨N, H0, ρ, L, o, sim, z, q⟩ => by
  cases z
  exact q σ H L sim (Frm.refl H L)
theorem s_cons (h1 : PSv X st f) (h2 : PSsv X rest g) : PSsv X (st :: rest) (sSeq f g) := by
  refine imp_ss (pss_cons h1 h2) fun D σ H ⟨N, H0, ρ, L, o, sim, z, q⟩ => ?_
  unfold sSeq at z
  obtain ⟨o1, e1, z⟩ := bind_some z
  refine ⟨N, H0, ρ, L, o1, sim, e1, ?_⟩
  cases o1 with
  | nx ρ' => exact fun σ' H' L' s' f' => ⟨N, H0, ρ', L', o, s', z, q.at_ f'⟩
  | bk ρ' => cases z; exact q
  | ct ρ' => cases z; exact q
  | rt ρ d l al => cases z; exact q
theorem s_one (h1 : PSv X st f) : PSsv X [st] f := pss_one h1
def sIf (c : EvT) (f g : EvS) : EvS := fun ρ => (c ρ).bind fun k => if k = true then f ρ else g ρ
theorem s_if (hc : PTv X c gc) (ha : PSsv X body f) (hb : PSsv X orelse g) : PSv X (.If c body orelse pos) (sIf gc f g) := by
  refine imp_s (ps_if hc ha hb) fun D σ H ⟨N, H0, ρ, L, o, sim, z, q⟩ => ?_
  unfold sIf at z
  obtain ⟨k, e1, z⟩ := bind_some z
  refine ⟨N, H0, ρ, L, L, k, sim.h, e1, fun H1 s1 => ?_⟩
  have fr : Frm H L H1 L := Frm.same s1 fun b z => .inl z
  cases k with
  | true => exact iteT ⟨N, H0, ρ, L, o, sim.same s1, z, q.at_ fr⟩
  | false => exact iteF ⟨N, H0, ρ, L, o, sim.same s1, z, q.at_ fr⟩
def sSet (fz : List Nat) (i : Nat) (fe : EvE) : EvS := fun ρ => (fe (frzs fz ρ)).bind fun r => if (!r.vw && decide (i < (frzs fz ρ).length)) = true then some (.nx ((frzs fz ρ).set i (some ⟨r.d, r.l, r.al, none⟩))) else none
theorem s_set (fz : List Nat) (i : Nat) {x : Str} (he : PEv X e fe) (hN : X.N.Nodup) (hi : X.N[i]? = some x := by rfl) (hx : Loc X.env.scope x := by first | exact Or.inl rfl | exact Or.inr rfl) (hs : swapsWith e (some (.Name x pos')) pos.line X.env = pure false := by rfl) (hf : X.fn x = true ∨ X.env.scope.names.lookup x = some .local := by first | exact .inl rfl | exact .inr rfl | assumption) :
    PSv X (.Assign [.Name x pos'] e pos) (sSet fz i fe) := by
  refine imp_s (ps_set hN hi hx he hs hf) fun D σ H ⟨N, H0, ρ, L, o, sim, z, q⟩ => ?_
  unfold sSet at z
  obtain ⟨L1, sim1, sub⟩ := sim.frzs fz
  obtain ⟨r, e1, z⟩ := bind_some z
  split at z
  · rename_i hc
    rw [Bool.and_eq_true, decide_eq_true_eq] at hc
    cases z
    refine one sim1.h e1 fun v H1 F s1 n1 d1 p1 => ?_
    have hv : r.vw = false := by simpa using hc.1
    obtain ⟨L2, sim2, sub2⟩ := sim1.set (r := ⟨r.d, r.l, r.al, none⟩) (fun _ z => nomatch z) s1 n1 d1 (p1.mono fun a z => ⟨⟨z.1.1, fun _ => z.1.2 hv⟩, z.2⟩) hc.2
    exact q _ H1 L2 sim2 (Frm.same s1 fun b z => (sub2 b z).imp (sub b) (n1 b))
  · cases z
end
def wipeA (ρ : Env) : Env := ρ.map fun _ => none
section
variable {K : PySem.W.Frag} {N : Nw} {H0 H H' : Hp} {ρ : Env} {σ : St} {L : List Addr}
theorem Slots.none_ {L0 L1 : List Addr} : ∀ {σ : St} {ρ : Env} {F : List Addr}, Slots K N L0 H σ ρ F → Slots K N L1 H σ (wipeA ρ) []
  | _, _, _, .nil => .nil
  | _, _, _, .no h => .no h.none_
  | _, _, _, .so _ _ h => .no h.none_
theorem Sim.none_ (s : Sim K N H0 ρ σ H L) : Sim K N H0 (wipeA ρ) σ H [] := ⟨s.kp, s.nw, List.nodup_nil, (fun _ z => nomatch z), (fun _ z => nomatch z), s.sl.none_⟩
theorem Slots.none_' {L0 L1 : List Addr} {F : List Addr} (h : Slots K N L0 H σ (wipeA ρ) F) : Slots K N L1 H σ (wipeA ρ) [] := by
  have e : ∀ ρ : Env, wipeA (wipeA ρ) = wipeA ρ := fun ρ => by unfold wipeA; rw [List.map_map]; rfl
  have := h.none_ (L1 := L1)
  rw [e] at this
  exact this
theorem Sim.h0 (s : Sim K N H0 ρ σ H L) : SimH K N H0 ρ σ H L (L ++ []) := by
  rw [List.append_nil]
  exact s.h
theorem Slots.hide {L0 : List Addr} : ∀ {σ : St} {ρ : Env} {F : List Addr} {i : Nat} {s : Sv}, Slots K N L0 H σ ρ F → ρ[i]? = some (some s) → ∃ F1 G F2 v, F = F1 ++ (G ++ F2) ∧ σ[i]? = some (some v) ∧ Rp K (SR N L0 s.al false) H s.l v s.d G ∧ Slots K N L0 H σ (ρ.set i none) (F1 ++ F2)
  | _, _, _, _, _, .nil, e => by simp at e
  | _, _, _, 0, _, .no _, e => by simp at e
  | _, _, _, i + 1, s, .no h, e => by
    obtain ⟨F1, G, F2, v, e1, e2, r, q⟩ := Slots.hide (i := i) (s := s) h (by simpa using e)
    exact ⟨F1, G, F2, v, e1, by simpa using e2, r, .no q⟩
  | _, _, _, 0, _, .so (F := F) (G := G) _ h1 h, e => by
    simp at e; subst e
    exact ⟨[], F, G, _, rfl, rfl, h1, .no h⟩
  | _, _, _, i + 1, s, .so (F := F) h0 h1 h, e => by
    obtain ⟨F1, G, F2, v, e1, e2, r, q⟩ := Slots.hide (i := i) (s := s) h (by simpa using e)
    refine ⟨F ++ F1, G, F2, v, by rw [e1, List.append_assoc], by simpa using e2, r, ?_⟩
    rw [List.append_assoc]
    exact .so h0 h1 q
end
section
variable {X : Cx} {st : Stmt} {rest body orelse : List Stmt} {f g : EvS} {e c : Expr} {fe : EvE} {gc : EvT} {pos pos' : Pos}
def sRet (fe : EvE) : EvS := fun ρ => (fe ρ).bind fun r => some (.rt (if r.vw = true then wipeA ρ else ρ) r.d r.l r.al)
theorem s_ret (he : PEv X e fe) : PSv X (.Return (some e) pos) (sRet fe) := by
  refine imp_s (ps_ret he) fun D σ H ⟨N, H0, ρ, L, o, sim, z, q⟩ => ?_
  unfold sRet at z
  obtain ⟨r, e1, z⟩ := bind_some z
  cases z
  refine one sim.h e1 fun v H1 F s1 n1 d1 p1 => ?_
  have sm := sim.same s1
  have nw : ∀ a ∈ F, N a := fun a z => sim.nw a (n1 a z)
  cases hv : r.vw with
  | true =>
    rw [hv, if_pos rfl] at q
    have n := sm.none_
    exact q v σ H1 [] F ⟨n.kp, n.nw, d1, nw, p1.own_mut, n.sl.none_', (fun _ z => nomatch z), .nil⟩ (fun b o e _ m => s1.k b o e m) (p1.mono fun a z => ⟨z.1.1, z.2, fun z => nomatch z⟩)
  | false =>
    rw [hv, if_neg Bool.false_ne_true] at q
    exact q v σ H1 L F (sim.h.hold s1 n1 d1 p1.own_mut) (fun b o e _ m => s1.k b o e m) (p1.mono fun a z => ⟨z.1.1, z.2, z.1.2 hv⟩)
def sRetV (i : Nat) : EvS := fun ρ => match ρ[i]? with
  | some (some s) => if imm s.d = true then some (.rt ρ s.d .full false) else some (.rt (ρ.set i none) s.d s.l s.al)
  | _ => none
theorem s_retv (i : Nat) {x : Str} (hN : X.N[i]? = some x := by rfl) (hv : Vis X.env.scope x := by first | exact Or.inl rfl | exact Or.inr (Or.inl rfl) | exact Or.inr (Or.inr rfl)) (hd : (x == ("__debug__" : Str)) = false := by decide)
    (hcd : (x == ("__classdict__" : Str)) = false := by decide) : PSv X (.Return (some (.Name x pos')) pos) (sRetV i) := by
  refine imp_s (ps_ret (pe_var hN hv hd hcd)) fun D σ H ⟨N, H0, ρ, L, o, sim, z, q⟩ => ?_
  unfold sRetV at z
  split at z
  · rename_i s es
    obtain ⟨F1, G, F2, v, eL, ev, rp, sl⟩ := sim.sl.hide es
    refine ⟨v, ev, ?_⟩
    split at z
    · rename_i hi
      cases z
      exact q v σ H L [] sim.h0 (fun _ _ e _ _ => e) ((rp.of_imm hi).2)
    · cases z
      have hnd := sim.nd
      rw [eL, List.nodup_append, List.nodup_append] at hnd
      have sub : ∀ a, a ∈ F1 ++ F2 → a ∈ L := fun a z => by
        rw [eL]
        rcases List.mem_append.mp z with z | z <;> simp [z]
      have subG : ∀ a, a ∈ (F1 ++ F2) ++ G → a ∈ L := fun a z => by
        rcases List.mem_append.mp z with z | z
        · exact sub a z
        · rw [eL]; simp [z]
      have nd12 : (F1 ++ F2).Nodup := by
        rw [List.nodup_append]
        exact ⟨hnd.1, hnd.2.1.2.1, fun a ha b hb => hnd.2.2 a ha b (by simp [hb])⟩
      refine q v σ H (F1 ++ F2) G ⟨sim.kp, sim.nw, ?_, fun a z => sim.ln a (subG a z), fun a z => sim.mu a (subG a z), sl.mono fun a z m => z (subG a m), fun a z => List.mem_append_left _ z, nd12⟩ (fun _ _ e _ _ => e) (rp.mono fun a z => ⟨z.1, fun m => z.2 rfl (by rw [eL]; simp [m]), fun m => z.2 rfl (sub a m)⟩)
      rw [List.nodup_append]
      refine ⟨nd12, hnd.2.1.1, fun a m b z e => ?_⟩
      subst e
      rcases List.mem_append.mp m with m | m
      · exact hnd.2.2 a m a (by simp [z]) rfl
      · exact hnd.2.1.2.2 a z a m rfl
  · cases z
end
inductive Tg where
  | nm (i : Nat) | tp (ts : List Tg)
mutual
def tgSet : Tg → D → Bool → Env → Option Env
  | .nm i, d, al, ρ => if i < ρ.length then some (ρ.set i (some ⟨d, if imm d = true then .full else .shr, al, none⟩)) else none
  | .tp ts, .tup ds, al, ρ => if ts.length = ds.length then tgsSet ts ds al ρ else none
  | _, _, _, _ => none
def tgsSet : List Tg → List D → Bool → Env → Option Env
  | [], [], _, ρ => some ρ
  | t :: ts, d :: ds, al, ρ => (tgSet t d al ρ).bind (tgsSet ts ds al)
  | _, _, _, _ => none
end
mutual
def tgSlots : Tg → List Nat
  | .nm i => [i]
  | .tp ts => tgsSlots ts
def tgsSlots : List Tg → List Nat
  | [] => []
  | t :: ts => tgSlots t ++ tgsSlots ts
end
def Touch (js : List Nat) (σ σ' : St) : Prop := σ'.length = σ.length ∧ ∀ j, j ∉ js → σ'[j]? = σ[j]?
theorem Touch.refl (js : List Nat) (σ : St) : Touch js σ σ := ⟨rfl, fun _ _ => rfl⟩
def tG (K : PySem.W.Frag) (t : Tg) : TG := fun v σ H Q => ∃ N H0 ρ L W d al ρ', SimH K N H0 ρ σ H L W ∧ Rp K (SR N W al false) H .shr v d [] ∧ tgSet t d al ρ = some ρ' ∧ ∀ σ' L', SimH K N H0 ρ' σ' H L' W → (∀ a ∈ L', a ∈ L) → Touch (tgSlots t) σ σ' → Q σ' H
def tGs (K : PySem.W.Frag) (ts : List Tg) : TGs := fun vs σ H Q => ∃ N H0 ρ L W ds al ρ', SimH K N H0 ρ σ H L W ∧ Rps K (SR N W al false) H .shr vs ds [] ∧ tgsSet ts ds al ρ = some ρ' ∧ ∀ σ' L', SimH K N H0 ρ' σ' H L' W → (∀ a ∈ L', a ∈ L) → Touch (tgsSlots ts) σ σ' → Q σ' H
abbrev PGv (X : Cx) (e : Expr) (t : Tg) : Prop := PG X e (tG X.K t)
abbrev PGsv (X : Cx) (es : List Expr) (ts : List Tg) : Prop := PGs X es (tGs X.K ts)
theorem imp_g {X : Cx} {e : Expr} {t t' : TG} (h : PG X e t) (i : ∀ v σ H Q, t' v σ H Q → t v σ H Q) : PG X e t' := ⟨fun p s σ H v u Q I r w => h.run p s σ H v u Q I r (i v σ H Q w)⟩
theorem imp_gs {X : Cx} {e : List Expr} {t t' : TGs} (h : PGs X e t) (i : ∀ v σ H Q, t' v σ H Q → t v σ H Q) : PGs X e t' := ⟨fun p s σ H v u Q I r w => h.run p s σ H v u Q I r (i v σ H Q w)⟩
section
variable {X : Cx} {pos pos' : Pos} {es : List Expr} {e : Expr} {t : Tg} {ts : List Tg} {fe : EvE}
theorem g_name (i : Nat) {x : Str} (hN : X.N.Nodup) (hi : X.N[i]? = some x := by rfl) (hx : Loc X.env.scope x := by first | exact Or.inl rfl | exact Or.inr rfl) (hf : X.fn x = true ∨ X.env.scope.names.lookup x = some .local := by first | exact .inl rfl | exact .inr rfl | assumption) : PGv X (.Name x pos) (.nm i) := by
  refine imp_g (pg_name hN hi hx hf) fun v σ H Q ⟨N, H0, ρ, L, W, d, al, ρ', sim, rp, z, q⟩ => ?_
  simp only [tgSet] at z
  split at z
  · rename_i hc
    cases z
    obtain ⟨L', sim', sub⟩ := sim.set0 (r := ⟨d, if imm d = true then .full else .shr, al, none⟩) (v := v) (fun _ z => nomatch z) (by
      cases hi : imm d with
      | true => exact (rp.of_imm hi).2
      | false => exact rp) hc
    refine q _ L' sim' sub ⟨List.length_set, fun j hj => ?_⟩
    rw [List.getElem?_set_ne]
    intro e
    exact hj (by simp [tgSlots, e])
  · cases z
theorem gs_nil : PGsv X [] [] := imp_gs pgs_nil fun vs σ H Q ⟨N, H0, ρ, L, W, ds, al, ρ', sim, rp, z, q⟩ => by
  generalize hF : ([] : List Addr) = F0 at rp
  cases rp with
  | nil =>
    simp only [tgsSet] at z
    cases z
    exact ⟨rfl, q σ L sim (fun _ z => z) (Touch.refl _ _)⟩
  | cons _ _ => simp only [tgsSet] at z; cases z
theorem gs_cons (h1 : PGv X e t) (h2 : PGsv X es ts) (hs : (assignEach (e :: es) X.env).map (·.2) = assign e X.env :: (assignEach es X.env).map (·.2) := by rfl) : PGsv X (e :: es) (t :: ts) := by
  refine imp_gs (pgs_cons h1 h2 hs) fun vs σ H Q ⟨N, H0, ρ, L, W, ds, al, ρ', sim, rp, z, q⟩ => ?_
  generalize hF : ([] : List Addr) = F0 at rp
  cases rp with
  | nil => simp only [tgsSet] at z; cases z
  | cons r1 r2 =>
    have e1 := r1.shr0
    have e2 := r2.shr0
    subst e1 e2
    simp only [tgsSet] at z
    obtain ⟨ρ1, z1, z2⟩ := bind_some z
    refine ⟨_, _, rfl, N, H0, ρ, L, W, _, al, ρ1, sim, r1, z1, fun σ1 L1 sim1 sub1 t1 => ⟨N, H0, ρ1, L1, W, _, al, ρ', sim1, r2, z2, fun σ2 L2 sim2 sub2 t2 => q σ2 L2 sim2 (fun a m => sub1 a (sub2 a m)) ⟨t2.1.trans t1.1, fun j hj => ?_⟩⟩⟩
    rw [tgsSlots, List.mem_append, not_or] at hj
    rw [t2.2 j hj.2, t1.2 j hj.1]
theorem g_tup {k : Nat} (hc : X.calm = true) (h : PGsv X es ts) (hn : (assignEach es X.env).length = ts.length := by rfl) (hst : (assignEach es X.env).findIdx? (·.1) = none := by rfl) : PGv X (.Tuple es k pos) (.tp ts) := by
  refine imp_g (pg_tup hc h hn hst) fun v σ H Q ⟨N, H0, ρ, L, W, d, al, ρ', sim, rp, z, q⟩ => ?_
  cases d with
  | tup ds =>
    simp only [tgSet] at z
    split at z
    · rename_i hl
      obtain ⟨a, vs, rfl, h1, h2⟩ := rp.tup_inv
      exact ⟨a, vs, rfl, SqT.of h1, by rw [h2.len, hl], N, H0, ρ, L, W, ds, al, ρ', sim, h2, z, fun σ' L' s' u t => q σ' L' s' u (by simpa only [tgSlots] using t)⟩
    · cases z
  | _ => simp only [tgSet] at z; cases z
end
end Ev
set_option Elab.async false
set_option linter.all false
set_option maxRecDepth 100000
namespace Ev
open PySem PySem.Spec L2
open PyProof.Rows hiding St
abbrev EvI := Env → Option (List (D × Bool))
def Kept (H : Hp) (W : List Addr) (H' : Hp) : Prop := ∀ b o, H b = some o → b ∉ W → NT o → H' b = some o
structure Yld (K : PySem.W.Frag) (N : Nw) (W : List Addr) (H1 : Hp) (J : It) (items : List (D × Bool)) : Prop where
  go : ∀ i d al H2, items[i]? = some (d, al) → Kept H1 W H2 → J.go i H2
  yld : ∀ i d al H2 x H3, items[i]? = some (d, al) → Kept H1 W H2 → J.yld i H2 x H3 → Same H2 H3 ∧ Rp K (fun a => SR N W al false a ∧ H1 a ≠ none) H3 .shr x d []
  stop : ∀ H2, Kept H1 W H2 → J.stop items.length H2
def tI (K : PySem.W.Frag) (f : EvI) : TI := fun σ H R => ∃ N H0 ρ L W items, SimH K N H0 ρ σ H L W ∧ f ρ = some items ∧ ∀ J H1, Same H H1 → Yld K N W H1 J items → R J H1
abbrev PIv (X : Cx) (tg iter : Expr) (f : EvI) : Prop := PI X tg iter (tI X.K f)
theorem imp_i {X : Cx} {tg e : Expr} {t t' : TI} (h : PI X tg e t) (i : ∀ σ H R, t' σ H R → t σ H R) : PI X tg e t' := ⟨fun p s σ H R I w => h.run p s σ H R I (i σ H R w)⟩
structure YldS (K : PySem.W.Frag) (N : Nw) (W : List Addr) (H1 : Hp) (J : It) (items : List (D × Bool)) : Prop where
  go : ∀ i d al H2, items[i]? = some (d, al) → Same H1 H2 → J.go i H2
  yld : ∀ i d al H2 x H3, items[i]? = some (d, al) → Same H1 H2 → J.yld i H2 x H3 → Same H2 H3 ∧ Rp K (fun a => SR N W al false a ∧ H1 a ≠ none) H3 .shr x d []
  stop : ∀ H2, Same H1 H2 → J.stop items.length H2
theorem Yld.s {K : PySem.W.Frag} {N : Nw} {W : List Addr} {H1 : Hp} {J : It} {items : List (D × Bool)} (Y : Yld K N W H1 J items) : YldS K N W H1 J items where
  go := fun i d al H2 e s => Y.go i d al H2 e fun b o e _ m => s.k b o e m
  yld := fun i d al H2 x H3 e s y => Y.yld i d al H2 x H3 e (fun b o e _ m => s.k b o e m) y
  stop := fun H2 s => Y.stop H2 fun b o e _ m => s.k b o e m
def tIs (K : PySem.W.Frag) (f : EvI) : TI := fun σ H R => ∃ N H0 ρ L W items, SimH K N H0 ρ σ H L W ∧ f ρ = some items ∧ ∀ J H1, Same H H1 → YldS K N W H1 J items → R J H1
abbrev PIvs (X : Cx) (tg iter : Expr) (f : EvI) : Prop := PI X tg iter (tIs X.K f)
theorem pis {X : Cx} {tg e : Expr} {f : EvI} (h : PIv X tg e f) : PIvs X tg e f := imp_i h fun σ H R ⟨N, H0, ρ, L, W, items, sim, z, q⟩ => ⟨N, H0, ρ, L, W, items, sim, z, fun J H1 s Y => q J H1 s Y.s⟩
section
variable {K : PySem.W.Frag} {N : Nw} {H0 H H' : Hp} {ρ : Env} {σ : St} {L W : List Addr}
theorem Rp.kept {S : Addr → Prop} {v : V} {d : D} (r : Rp K (fun a => S a ∧ a ∉ W) H .shr v d []) (m : ∀ a ∈ W, Mut (H a)) (k : Kept H W H') : Rp K (fun a => S a ∧ a ∉ W) H' .shr v d [] :=
  r.keep fun b o e n q => k b o e (by
    rcases q with q | q | ⟨xs, rfl⟩ | ⟨o', u, rfl⟩
    · exact q.2
    · exact nomatch q
    · intro z; have := m b z; rw [e] at this; exact this
    · intro z; have := m b z; rw [e] at this; exact this) n
end
section
variable {X : Cx} {tg e : Expr} {fe : EvE} {pos : Pos} {body : List Stmt} {t : Tg} {b : EvS} {it : EvI}
def iLst (fe : EvE) : EvI := fun ρ => (fe ρ).bind fun x => if x.vw = true then none else match x.d with
  | .lst ds => some (ds.map fun d => (d, x.al))
  | .fl ds => some (ds.map fun d => (d, x.al))
  | _ => none
theorem yld_list {K : PySem.W.Frag} {N : Nw} {W : List Addr} {H1 : Hp} {a : Addr} {vs : List V} {ds : List D} {al : Bool} (hl : ∀ H2, Kept H1 W H2 → SqL K H2 a vs) (hm : ∀ b ∈ W, Mut (H1 b)) (r : Rps K (SR N W al false) H1 .shr vs ds []) : Yld K N W H1 (Itl K a) (ds.map fun d => (d, al)) where
  go := fun i d al' H2 e k => by
    rw [List.getElem?_map] at e
    obtain ⟨d', e1, e2⟩ := Option.map_eq_some_iff.mp e
    obtain ⟨v, G, e3, _⟩ := r.get e1
    exact ⟨vs, v, hl H2 k, e3⟩
  yld := fun i d al' H2 x H3 e k y => by
    rw [List.getElem?_map] at e
    obtain ⟨d', e1, e2⟩ := Option.map_eq_some_iff.mp e
    cases e2
    obtain ⟨v, G, e3, rp, sub⟩ := r.get e1
    obtain ⟨e4, y⟩ := y
    subst e4
    have := y vs (hl _ k)
    rw [e3] at this
    cases this
    have hG : G = [] := rp.shr0
    subst hG
    refine ⟨Same.refl _, ?_⟩
    have z := (rp.trk.mono (S' := fun a => (AlN N al a ∧ H1 a ≠ none) ∧ a ∉ W) fun a z => ⟨⟨z.1.1, z.2⟩, z.1.2 rfl⟩).kept hm k
    exact z.mono fun a z => ⟨⟨z.1.1, fun _ => z.2⟩, z.1.2⟩
  stop := fun H2 k => ⟨vs, hl H2 k, by rw [List.length_map, r.len]; exact Nat.le_refl _⟩
theorem Kept.same {H1 H2 : Hp} {W W' : List Addr} (k : Kept H1 W H2) (h : ∀ a ∈ W, a ∈ W') : Kept H1 W' H2 := fun b o e n => k b o e fun z => n (h b z)
theorem i_lst (he : PEv X e fe) : PIv X tg e (iLst fe) := by
  refine imp_i (pi_list he) fun σ H R ⟨N, H0, ρ, L, W, items, sim, z, q⟩ => ?_
  unfold iLst at z
  obtain ⟨x, e1, z⟩ := bind_some z
  split at z
  · cases z
  · rename_i hv
    have hv : x.vw = false := by simpa using hv
    refine one sim e1 fun v H1 F s1 n1 d1 p1 => ?_
    have new : ∀ a ∈ F, N a ∧ a ∉ W := fun a m => ⟨sim.nw a (n1 a m), fun w => sim.th a w (n1 a m)⟩
    have muW : ∀ b ∈ W, Mut (H1 b) := fun b z => mut_same (sim.mu b z) s1
    split at z
    · rename_i ds hd
      cases z
      rw [hd] at p1
      have p2 := p1.give (S' := SR N W x.al false) (fun a z => ⟨z.1.1, fun _ => z.1.2 hv⟩) fun a m => ⟨.new (new a m).1, fun _ => (new a m).2⟩
      cases p2 with
      | nd0 hn h1 h2 h3 =>
        cases hn
        refine ⟨_, rfl, ⟨_, SqL.of h1.lst⟩, q _ H1 s1 (yld_list (fun H2 k => SqL.of (k _ _ h1.lst (h2.2 rfl) trivial)) muW h3)⟩
    · rename_i ds hd
      cases z
      rw [hd] at p1
      have p2 := p1.give (S' := SR N W x.al false) (fun a z => ⟨z.1.1, fun _ => z.1.2 hv⟩) fun a m => ⟨.new (new a m).1, fun _ => (new a m).2⟩
      obtain ⟨a, vs, rfl, h1, h2, _⟩ := p2.fl_inv
      refine ⟨a, rfl, ⟨_, h1.sq⟩, q _ H1 s1 (yld_list (fun H2 k => ?_) muW h2)⟩
      rcases h1 with ⟨o, h1⟩ | h1
      · refine .inl (.inr ⟨o, k _ _ h1 (fun w => ?_) trivial⟩)
        have := muW a w
        rw [h1] at this
        exact this
      · exact .inr h1
    · cases z
def iLstV (fe : EvE) : EvI := fun ρ => (fe ρ).bind fun x => match x.d with
  | .lst ds => if immAll ds = true then some (ds.map fun d => (d, false)) else if x.vw = true then none else some (ds.map fun d => (d, x.al))
  | .fl ds => if immAll ds = true then some (ds.map fun d => (d, false)) else if x.vw = true then none else some (ds.map fun d => (d, x.al))
  | _ => none
theorem yldS_imm {K : PySem.W.Frag} {N : Nw} {W : List Addr} {H1 : Hp} {a : Addr} {vs : List V} {ds : List D} {S : Addr → Prop} {l : Lv} {F : List Addr} (hl : ∀ H2, Same H1 H2 → SqL K H2 a vs) (r : Rps K S H1 l vs ds F) (hi : immAll ds = true) : YldS K N W H1 (Itl K a) (ds.map fun d => (d, false)) where
  go := fun i d al' H2 e k => by
    rw [List.getElem?_map] at e
    obtain ⟨d', e1, e2⟩ := Option.map_eq_some_iff.mp e
    obtain ⟨v, G, e3, _⟩ := r.get e1
    exact ⟨vs, v, hl H2 k, e3⟩
  yld := fun i d al' H2 x H3 e k y => by
    rw [List.getElem?_map] at e
    obtain ⟨d', e1, e2⟩ := Option.map_eq_some_iff.mp e
    obtain ⟨e5, e6⟩ := Prod.mk.inj e2
    obtain ⟨v, G, e3, rp, sub⟩ := r.get e1
    obtain ⟨e4, y⟩ := y
    subst e4
    have := y vs (hl _ k)
    rw [e3] at this
    cases this
    subst e5
    have hd : imm d' = true := by
      rw [immAll_all] at hi
      exact List.all_eq_true.mp hi d' (List.mem_of_getElem? e1)
    subst e6
    exact ⟨Same.refl _, ((rp.same k).of_imm hd).2⟩
  stop := fun H2 k => ⟨vs, hl H2 k, by rw [List.length_map, r.len]; exact Nat.le_refl _⟩
theorem i_lstV (he : PEv X e fe) : PIvs X tg e (iLstV fe) := by
  refine imp_i (pi_list he) fun σ H R ⟨N, H0, ρ, L, W, items, sim, z, q⟩ => ?_
  unfold iLstV at z
  obtain ⟨x, e1, z⟩ := bind_some z
  refine one sim e1 fun v H1 F s1 n1 d1 p1 => ?_
  have new : ∀ a ∈ F, N a ∧ a ∉ W := fun a m => ⟨sim.nw a (n1 a m), fun w => sim.th a w (n1 a m)⟩
  have muW : ∀ b ∈ W, Mut (H1 b) := fun b z => mut_same (sim.mu b z) s1
  split at z
  · rename_i ds hd
    rw [hd] at p1
    split at z
    · rename_i hi
      cases z
      obtain ⟨a, vs, G, rfl, h1, h2, _⟩ := p1.lst_inv
      exact ⟨a, rfl, ⟨_, SqL.of h1⟩, q _ H1 s1 (yldS_imm (fun H2 k => SqL.of (k.k _ _ h1 trivial)) h2 hi)⟩
    · split at z
      · cases z
      · rename_i hv
        have hv : x.vw = false := by simpa using hv
        cases z
        have p2 := p1.give (S' := SR N W x.al false) (fun a z => ⟨z.1.1, fun _ => z.1.2 hv⟩) fun a m => ⟨.new (new a m).1, fun _ => (new a m).2⟩
        cases p2 with
        | nd0 hn h1 h2 h3 =>
          cases hn
          refine ⟨_, rfl, ⟨_, SqL.of h1.lst⟩, q _ H1 s1 (yld_list (fun H2 k => SqL.of (k _ _ h1.lst (h2.2 rfl) trivial)) muW h3).s⟩
  · rename_i ds hd
    rw [hd] at p1
    split at z
    · rename_i hi
      cases z
      obtain ⟨a, vs, rfl, h1, h2, _⟩ := p1.fl_inv
      refine ⟨a, rfl, ⟨_, h1.sq⟩, q _ H1 s1 (yldS_imm (fun H2 k => ?_) h2 hi)⟩
      rcases h1 with ⟨o, h1⟩ | h1
      · exact .inl (.inr ⟨o, k.k _ _ h1 trivial⟩)
      · exact .inr h1
    · split at z
      · cases z
      · rename_i hv
        have hv : x.vw = false := by simpa using hv
        cases z
        have p2 := p1.give (S' := SR N W x.al false) (fun a z => ⟨z.1.1, fun _ => z.1.2 hv⟩) fun a m => ⟨.new (new a m).1, fun _ => (new a m).2⟩
        obtain ⟨a, vs, rfl, h1, h2, _⟩ := p2.fl_inv
        refine ⟨a, rfl, ⟨_, h1.sq⟩, q _ H1 s1 (yld_list (fun H2 k => ?_) muW h2).s⟩
        rcases h1 with ⟨o, h1⟩ | h1
        · refine .inl (.inr ⟨o, k _ _ h1 (fun w => ?_) trivial⟩)
          have := muW a w
          rw [h1] at this
          exact this
        · exact .inr h1
  · cases z
def iRng (lo : Int) (n : Nat) : List (D × Bool) := (List.range n).map fun (i : Nat) => (D.int (lo + (i : Int)), false)
theorem iRng_get {lo : Int} {n i : Nat} {d : D} {al : Bool} (h : (iRng lo n)[i]? = some (d, al)) : i < n ∧ d = .int (lo + (i : Int)) ∧ al = false := by
  unfold iRng at h
  rw [List.getElem?_map] at h
  obtain ⟨j, e1, e2⟩ := Option.map_eq_some_iff.mp h
  obtain ⟨h1, h2⟩ := List.getElem?_eq_some_iff.mp e1
  rw [List.getElem_range] at h2
  subst h2
  cases e2
  exact ⟨by simpa using h1, rfl, rfl⟩
theorem yld_rng {K : PySem.W.Frag} {N : Nw} {W : List Addr} {H1 : Hp} {lo : Int} {n : Nat} : Yld K N W H1 (Itr lo n) (iRng lo n) where
  go := fun i d al H2 e k => (iRng_get e).1
  yld := fun i d al H2 x H3 e k y => by
    obtain ⟨h1, rfl, rfl⟩ := iRng_get e
    obtain ⟨e1, e2⟩ := y
    subst e1 e2
    exact ⟨Same.refl _, .int⟩
  stop := fun H2 k => by
    show n ≤ (iRng lo n).length
    unfold iRng
    rw [List.length_map, List.length_range]
    exact Nat.le_refl _
def iRange (ga : EvA) : EvI := fun ρ => (ga ρ).bind fun (rs : List Rv) => match (rs.map Rv.d : List D) with
  | [.int j] => if -(2 ^ 62) ≤ j ∧ j < 2 ^ 62 then some (iRng 0 j.toNat) else none
  | [.int i, .int j] => if -(2 ^ 62) ≤ i ∧ i < 2 ^ 62 ∧ -(2 ^ 62) ≤ j ∧ j < 2 ^ 62 then some (iRng i (j - i).toNat) else none
  | _ => none
theorem RpL.ints {K : PySem.W.Frag} {N : Nw} {W T : List Addr} {H : Hp} : ∀ {vs : List V} {rs : List Rv} {F : List Addr} {ns : List Int}, RpL K N W T H vs rs F → rs.map (·.d) = ns.map .int → vs = ns.map V.int
  | _, _, _, [], .nil, _ => rfl
  | _, _, _, _ :: _, .nil, e => by cases e
  | _, _, _, [], .cons _ _, e => by cases e
  | _, _, _, n :: ns, .cons h1 h2, e => by
    have e := List.cons.inj e
    have e1 : _ = D.int n := e.1
    rw [show Rv.d _ = D.int n from e1] at h1
    rw [h1.int_inv.1, RpL.ints h2 e.2]
    rfl
theorem i_range1 {a : Expr} {ga : EvA} {p : Pos} (hm : X.mg "range" = none) (ha : PAv X [a] ga) (hl : ∀ ρ rs, ga ρ = some rs → rs.length = 1) (hg : Gl X "range" := by rfl) (hs : starEach [a] X.env = [(false, eval a X.env)] := by rfl) : PIv X tg (.Call (.Name "range" p) [a] [] pos) (iRange ga) := by
  refine imp_i (pi_range1 hg hm ha hs) fun σ H R ⟨N, H0, ρ, L, W, items, sim, z, q⟩ => ?_
  unfold iRange at z
  obtain ⟨rs, e1, z⟩ := bind_some z
  refine ⟨N, H0, ρ, L, W, rs, sim, e1, fun vs H1 T s1 n1 d1 p1 => ?_⟩
  split at z
  · rename_i j hd
    split at z
    · rename_i hc
      cases z
      have := p1.ints (ns := [j]) hd
      subst this
      exact ⟨j, rfl, hc.1, hc.2, q _ H1 s1 yld_rng⟩
    · cases z
  · rename_i i j hd
    have h1 := congrArg List.length hd
    rw [List.length_map, hl ρ rs e1] at h1
    cases h1
  · cases z
def forL (t : Tg) (b : EvS) : List (D × Bool) → Env → Option Out
  | [], ρ => some (.nx ρ)
  | (d, al) :: r, ρ => (tgSet t d al ρ).bind fun ρ1 => (b ρ1).bind fun o => match o with
    | .nx ρ2 => forL t b r ρ2
    | .ct ρ2 => forL t b r ρ2
    | .bk ρ2 => some (.nx ρ2)
    | .rt ρ2 d l al => some (.rt ρ2 d l al)
def sFor (fz : List Nat) (it : EvI) (t : Tg) (b : EvS) : EvS := fun ρ => (it (frzs fz ρ)).bind fun items => forL t b items (frzs fz ρ)
theorem s_for (fz : List Nat) (hc : X.calm = true) (hi : PIv X tg e it) (hg : PGv X tg t) (hb : PSsv X body b) (hp : PassesOwn (model X.prog X.w) X.A X.env X.xe := by exact PassesOwn.never) (hs : ∀ x, foldedSetIterable e X.env x = pure x := by intro _; rfl) : PSv X (.For tg e body [] pos) (sFor fz it t b) := by
  refine imp_s (ps_for hp hc hi hg hb hs) fun D σ H ⟨N, H0, ρ, L0, o, sim0, z, q0⟩ => ?_
  unfold sFor at z
  obtain ⟨L, sim, subL⟩ := sim0.frzs fz
  have q := q0.at_ (H1 := H) (L1 := L) ⟨fun _ _ e _ _ => e, fun _ e => .inl e, fun b z => .inl (subL b z)⟩
  obtain ⟨items, e1, z⟩ := bind_some z
  refine ⟨N, H0, _, L, L, items, sim.h, e1, fun J H1 s1 Y => ?_⟩
  refine ⟨fun i m σ' H' => m = items.length - i ∧ i ≤ items.length ∧ ∃ ρ' L', Sim X.K N H0 ρ' σ' H' L' ∧ Frm H1 L H' L' ∧ forL t b (items.drop i) ρ' = some o ∧ PostS X.K N H0 H' L' o D,
    ⟨items.length, by simp, Nat.zero_le _, _, L, sim.same s1, Frm.refl _ _, by simpa using z, q.at_ (Frm.same s1 fun b z => .inl z)⟩, ?_⟩
  rintro i m σ' H' ⟨rfl, hi, ρ', L', sim', fr, zi, qi⟩
  have kept : Kept H1 L H' := fr.1
  by_cases hlt : i < items.length
  · obtain ⟨⟨d, al⟩, ei⟩ : ∃ x, items[i]? = some x := ⟨items[i], List.getElem?_eq_getElem hlt⟩
    have ed : items.drop i = (d, al) :: items.drop (i + 1) := by
      rw [List.drop_eq_getElem_cons hlt]
      have := List.getElem?_eq_getElem hlt
      rw [ei] at this
      rw [← Option.some.inj this]
    rw [ed] at zi
    unfold forL at zi
    obtain ⟨ρ1, et, zi⟩ := bind_some zi
    obtain ⟨ob, eb, zi⟩ := bind_some zi
    refine .inr ⟨Y.go i d al H' ei kept, fun σ'' H'' => ∃ m', m' < items.length - i ∧ (m' = items.length - (i + 1) ∧ i + 1 ≤ items.length ∧ ∃ ρ' L', Sim X.K N H0 ρ' σ'' H'' L' ∧ Frm H1 L H'' L' ∧ forL t b (items.drop (i + 1)) ρ' = some o ∧ PostS X.K N H0 H'' L' o D), fun _ _ h => h, fun x H3 y => ?_⟩
    obtain ⟨s3, r3⟩ := Y.yld i d al H' x H3 ei kept y
    have fr3 : Frm H' L' H3 L' := Frm.same s3 fun b z => .inl z
    refine ⟨N, H0, ρ', L', L', d, al, ρ1, (sim'.same s3).h, r3.mono fun a z => ⟨z.1.1, fun _ w => (fr.2.2 a w).elim (z.1.2 rfl) z.2⟩, et, fun σ2 L2 sim2 sub2 _ => ?_⟩
    have fr2 : Frm H' L' H3 L2 := Frm.same s3 fun b z => .inl (sub2 b z)
    refine ⟨N, H0, ρ1, L2, ob, sim2.sim, eb, ?_⟩
    have again : ∀ {ρ2 : Env}, forL t b (items.drop (i + 1)) ρ2 = some o → ∀ σ4 H4 L4, Sim X.K N H0 ρ2 σ4 H4 L4 → Frm H3 L2 H4 L4 → ∃ m', m' < items.length - i ∧ (m' = items.length - (i + 1) ∧ i + 1 ≤ items.length ∧ ∃ ρ' L', Sim X.K N H0 ρ' σ4 H4 L' ∧ Frm H1 L H4 L' ∧ forL t b (items.drop (i + 1)) ρ' = some o ∧ PostS X.K N H0 H4 L' o D) :=
      fun z4 σ4 H4 L4 sim4 fr4 => ⟨_, by omega, rfl, hlt, _, L4, sim4, fr.trans (fr2.trans fr4), z4, qi.at_ (fr2.trans fr4)⟩
    cases ob with
    | nx ρ2 => exact again zi
    | ct ρ2 => exact again zi
    | bk ρ2 => cases zi; exact fun σ4 H4 L4 sim4 fr4 => qi σ4 H4 L4 sim4 (fr2.trans fr4)
    | rt ρ2 d l al => cases zi; exact qi.at_ fr2
  · have ei : i = items.length := by omega
    subst ei
    rw [List.drop_length] at zi
    unfold forL at zi
    cases zi
    exact .inl ⟨Y.stop H' kept, qi σ' H' L' sim' (Frm.refl _ _)⟩
def whL (c : EvT) (b : EvS) : Nat → Env → Option Out
  | 0, _ => none
  | n + 1, ρ => (c ρ).bind fun k => if k = true then (b ρ).bind fun o => match o with
      | .nx ρ2 => whL c b n ρ2
      | .ct ρ2 => whL c b n ρ2
      | .bk ρ2 => some (.nx ρ2)
      | .rt ρ2 d l al => some (.rt ρ2 d l al)
    else some (.nx ρ)
def fuel : Nat := 10 ^ 9
def sWhile (c : EvT) (b : EvS) : EvS := whL c b fuel
theorem s_while {c : Expr} {gc : EvT} (ht : PTv X c gc) (hb : PSsv X body b) (hp : PassesOwn (model X.prog X.w) X.A X.env X.xe := by exact PassesOwn.never) : PSv X (.While c body [] pos) (sWhile gc b) := by
  refine imp_s (ps_while hp ht hb) fun D σ H ⟨N, H0, ρ, L, o, sim, z, q⟩ => ?_
  unfold sWhile at z
  refine ⟨fun m σ' H' => ∃ ρ' L', Sim X.K N H0 ρ' σ' H' L' ∧ whL gc b m ρ' = some o ∧ PostS X.K N H0 H' L' o D, ⟨fuel, ρ, L, sim, z, q⟩, ?_⟩
  rintro m σ' H' ⟨ρ', L', sim', zi, qi⟩
  cases m with
  | zero => cases zi
  | succ m =>
    unfold whL at zi
    obtain ⟨k, ek, zi⟩ := bind_some zi
    refine ⟨N, H0, ρ', L', L', k, sim'.h, ek, fun H1 s1 => ?_⟩
    have fr1 : Frm H' L' H1 L' := Frm.same s1 fun b z => .inl z
    cases k with
    | false => cases zi; exact iteF (qi σ' H1 L' (sim'.same s1) fr1)
    | true =>
      rw [if_pos rfl] at zi
      obtain ⟨ob, eb, zi⟩ := bind_some zi
      refine iteT ⟨fun σ'' H'' => ∃ m', m' < m + 1 ∧ ∃ ρ' L', Sim X.K N H0 ρ' σ'' H'' L' ∧ whL gc b m' ρ' = some o ∧ PostS X.K N H0 H'' L' o D, fun _ _ h => h, N, H0, ρ', L', ob, sim'.same s1, eb, ?_⟩
      cases ob with
      | nx ρ2 => exact fun σ4 H4 L4 sim4 fr4 => ⟨m, Nat.lt_succ_self m, ρ2, L4, sim4, zi, qi.at_ (fr1.trans fr4)⟩
      | ct ρ2 => exact fun σ4 H4 L4 sim4 fr4 => ⟨m, Nat.lt_succ_self m, ρ2, L4, sim4, zi, qi.at_ (fr1.trans fr4)⟩
      | bk ρ2 => cases zi; exact fun σ4 H4 L4 sim4 fr4 => qi σ4 H4 L4 sim4 (fr1.trans fr4)
      | rt ρ2 d l al => cases zi; exact qi.at_ fr1
end
def entry (m : Nat) (ds : List D) : Env := ds.map (fun d => some ⟨d, .shr, true, none⟩) ++ List.replicate (m - ds.length) none
def run (body : EvS) (m : Nat) (ds : List D) : Option RetD := (body (entry m ds)).bind fun o => match o with
  | .rt _ d l al => some (d, l, al)
  | .nx _ => some (.non, .full, false)
  | _ => none
theorem slots_none {K : PySem.W.Frag} {N : Nw} {L : List Addr} {H : Hp} : ∀ n : Nat, Slots K N L H (List.replicate n none) (List.replicate n none) []
  | 0 => .nil
  | n + 1 => .no (slots_none n)
theorem slots_args {K : PySem.W.Frag} {N : Nw} {L : List Addr} {H : Hp} {n : Nat} (hL : ∀ a, N.s a → a ∉ L) : ∀ {vs : List V} {ds : List D}, Rps K N.s H .shr vs ds [] → Slots K N L H (vs.map some ++ List.replicate n none) (ds.map (fun d => some ⟨d, .shr, true, none⟩) ++ List.replicate n none) []
  | vs, ds, h => by
    generalize hF : ([] : List Addr) = F at h
    cases h with
    | nil => exact slots_none n
    | cons h1 h2 =>
      have e1 := h1.shr0
      have e2 := h2.shr0
      subst e1 e2
      exact Slots.so (s := ⟨_, .shr, true, none⟩) (F := []) (G := []) (fun _ z => nomatch z) (h1.mono fun a z => ⟨⟨.inr z, (fun e => (nomatch e))⟩, fun _ => hL a z⟩) (slots_args hL h2)
theorem Sim.same0 {K : PySem.W.Frag} {S : Addr → Prop} {p : Nat → Addr} {H H' : Hp} {ρ : Env} {σ : St} {L : List Addr} (s : Sim K ⟨fun a => H a = none, S, p⟩ H ρ σ H' L) : Same H H' :=
  ⟨fun b o e n => s.kp.k b o e (fun z => by have z : H b = none := z; rw [e] at z; cases z) n, fun b e => s.nw b e, s.kp.t⟩
theorem SimH.same0 {K : PySem.W.Frag} {S : Addr → Prop} {p : Nat → Addr} {H H' : Hp} {ρ : Env} {σ : St} {L W : List Addr} (s : SimH K ⟨fun a => H a = none, S, p⟩ H ρ σ H' L W) : Same H H' := s.sim.same0
theorem def_ok {P : Program} {w : World} {K : PySem.W.Frag} {mg : Str → Option Value} {base : Heap} {x qual : Str} {st : Stmt} {f : Addr} {fd : FuncData} {N ps : List Str} {k : Nat} {body : EvS} (F : Fun K x qual st f fd) (S : FnScope N ps (defScope st))
    (hb : ∀ (cdv : Value) (A : Around) (outer : List PySem.Env) (s : Shared) (H : Hp) (E : XK), Room k (A.deeper (envOfC qual (defScope st) s.heap.objs.size f cdv)) → PSsv (cxOf CX0 P w K mg base N qual (defScope st) f cdv A outer s H E).nox (defBody st) body) :
    FnOk P w K mg base CX0 (k + 1) f fd ps (spD K ps.length (run body N.length)) := by
  refine F.ok S (fun vs H Q E h => h.1) (fun cdv A outer s H vs Q E hr h => ?_)
  obtain ⟨hl, Sx, ds, r, rp, hrun, htb, q⟩ := h
  refine ⟨_, hb cdv A outer s H E hr, ?_⟩
  unfold run at hrun
  obtain ⟨o, e1, hrun⟩ := bind_some hrun
  refine ⟨⟨fun a => H a = none, Sx, fun _ => 0⟩, H, entry N.length ds, [], o, ⟨⟨fun b o e _ _ => e, fun _ _ t => t, htb⟩, fun b e => e, List.nodup_nil, (fun _ z => nomatch z), (fun _ z => nomatch z), ?_⟩, e1, ?_⟩
  · unfold entry L2.start
    rw [rp.len]
    exact slots_args (N := ⟨fun a => H a = none, Sx, fun _ => 0⟩) (L := []) (fun _ _ z => nomatch z) rp
  · cases o with
    | nx ρ =>
      cases hrun
      exact fun σ' H' L' sim fr => q .non H' [] sim.same0 (fun _ z => nomatch z) .nil .non
    | rt ρ d l al =>
      cases hrun
      refine fun v σ' H' L' F sim _ rp => q v H' F sim.same0 (fun a z => sim.ln a (List.mem_append_right _ z)) (List.nodup_append.mp sim.nd).2.1 (rp.mono fun a z => ⟨?_, z.2.1⟩)
      cases al with
      | false => exact .inl (z.1.2 rfl)
      | true => exact z.1.1.imp id fun y => ⟨rfl, y⟩
    | bk ρ => cases hrun
    | ct ρ => cases hrun
end Ev
set_option Elab.async false
set_option linter.all false
set_option maxRecDepth 100000
namespace Ev
open PySem PySem.Spec L2
open PyProof.Rows hiding St
def lcL (t : Tg) (c : EvT) (e : EvE) (ρ : Env) : List (D × Bool) → Option (List Rv)
  | [] => some []
  | (d, al) :: r => (tgSet t d al ρ).bind fun ρ1 => (c ρ1).bind fun k => if k = true then (e ρ1).bind fun x => if x.vw = true then none else (lcL t c e ρ r).map (x :: ·) else lcL t c e ρ r
def mkBig (rs : List Rv) : Option Rv :=
  if rs.length ≤ 1000000 then some (if rs.all (fun r => !r.vw && decide (r.l = .full)) = true then ⟨.lst (rs.map (·.d)), .full, rs.any (·.al), false⟩ else ⟨.lst (rs.map (·.d)), .top, rs.any (·.al), false⟩) else none
def eLc (it : EvI) (vs : List Nat) (t : Tg) (c : EvT) (e : EvE) : EvE := fun ρ => (it ρ).bind fun items => (lcL t c e (wipeE vs ρ) items).bind mkBig
def tYes : EvT := fun _ => some true
section
variable {K : PySem.W.Frag} {N : Nw} {H0 H H' : Hp} {ρ : Env} {σ : St} {L W T : List Addr}
theorem SimH.wipe : ∀ (vs : List Nat), SimH K N H0 ρ σ H L W → ∃ L', SimH K N H0 (wipeE vs ρ) (L2.wipe σ vs) H L' W ∧ ∀ a ∈ L', a ∈ L
  | [], s => ⟨L, s, fun _ z => z⟩
  | i :: is, s => by
    obtain ⟨L1, s1, h1⟩ := SimH.wipe is s
    obtain ⟨L2, s2, h2⟩ := s1.drop1 i
    exact ⟨L2, s2, fun a z => h1 a (h2 a z)⟩
theorem SimH.put {a : Addr} {o0 o : HO} (s : SimH K N H0 ρ σ H L W) (ha : a ∈ W) (hl : a ∉ L) (m : Mut (some o)) (e0 : H a = some o0) (ne : NE o0) : SimH K N H0 ρ σ (upd H a o) L W where
  kp := s.kp.upd (s.ln a ha) e0 ne
  nw := fun b e => by
    by_cases z : b = a
    · rw [z]; exact s.ln a ha
    · rw [upd_ne z] at e; exact s.nw b e
  nd := s.nd
  ln := s.ln
  mu := fun b hb => by
    by_cases z : b = a
    · rw [z, upd_same]; exact m
    · rw [upd_ne z]; exact s.mu b hb
  sl := s.sl.keep fun al => fun b u e _ q => by
    have : b ≠ a := fun z => by
      subst z
      rcases q with q | q | ⟨xs, rfl⟩ | ⟨o', u', rfl⟩
      · exact q.2 rfl ha
      · exact hl q
      · have := s.mu b ha; rw [e] at this; exact this
      · have := s.mu b ha; rw [e] at this; exact this
    rw [upd_ne this]
    exact e
  sub := s.sub
  ndl := s.ndl
theorem RpL.same (s : Same H H') : ∀ {vs : List V} {rs : List Rv} {F : List Addr}, RpL K N W T H vs rs F → RpL K N W T H' vs rs F
  | _, _, _, .nil => .nil
  | _, _, _, .cons h1 h2 => .cons (h1.same s) (RpL.same s h2)
theorem RpL.grow {W' T' : List Addr} (h : ∀ a, H a ≠ none → (a ∉ W → a ∉ W') ∧ (a ∉ T → a ∉ T')) : ∀ {vs : List V} {rs : List Rv} {F : List Addr}, RpL K N W T H vs rs F → RpL K N W' T' H vs rs F
  | _, _, _, .nil => .nil
  | _, _, _, .cons h1 h2 => .cons (h1.trk.mono fun a z => ⟨⟨z.1.1.1, fun e => (h a z.2).1 (z.1.1.2 e)⟩, fun e => (h a z.2).2 (z.1.2 e)⟩) (RpL.grow h h2)
theorem RpL.snoc {r : Rv} {v : V} {G : List Addr} (p : Rp K (fun a => SR N W r.al r.vw a ∧ (r.vw = false → a ∉ T)) H r.l v r.d G) : ∀ {vs : List V} {rs : List Rv} {F : List Addr}, RpL K N W T H vs rs F → RpL K N W T H (vs ++ [v]) (rs ++ [r]) (F ++ G)
  | _, _, _, .nil => by have := RpL.cons p .nil; rw [List.append_nil] at this; exact this
  | _, _, _, .cons h1 h2 => by rw [List.append_assoc]; exact .cons h1 (RpL.snoc p h2)
theorem RpL.put {a : Addr} {o : HO} (ha : a ∈ W) (m : Mut (H a)) : ∀ {vs : List V} {rs : List Rv} {F : List Addr}, RpL K N W T H vs rs F → (∀ r ∈ rs, r.vw = false) → a ∉ F → RpL K N W T (upd H a o) vs rs F
  | _, _, _, .nil, _, _ => .nil
  | _, _, _, .cons h1 h2, hv, hF => .cons (h1.keep fun b u e _ q => by
      have : b ≠ a := fun z => by
        subst z
        rcases q with q | q | ⟨xs, rfl⟩ | ⟨o', u', rfl⟩
        · exact q.1.2 (hv _ List.mem_cons_self) ha
        · exact hF (List.mem_append_left _ q)
        · rw [e] at m; exact m
        · rw [e] at m; exact m
      rw [upd_ne this]
      exact e) (RpL.put ha m h2 (fun r z => hv r (List.mem_cons_of_mem _ z)) fun z => hF (List.mem_append_right _ z))
end
theorem wipe_get {σ : St} : ∀ {vs : List Nat} {j : Nat}, j ∈ vs → j < σ.length → (L2.wipe σ vs)[j]? = some none
  | v :: vs, j, h, hl => by
    unfold L2.wipe
    by_cases e : v = j
    · subst e
      rw [List.getElem?_set_self (by rw [wipe_length]; exact hl)]
    · rw [List.getElem?_set_ne e]
      exact wipe_get ((List.mem_cons.mp h).elim (fun z => absurd z.symm e) id) hl
theorem wipe_eq {σ σ' : St} {vs js : List Nat} (t : Touch js (L2.wipe σ vs) σ') (h : ∀ j ∈ js, j ∈ vs) : L2.wipe σ' vs = L2.wipe σ vs := by
  apply List.ext_getElem?
  intro j
  have hlen : σ'.length = σ.length := t.1.trans (wipe_length σ vs)
  by_cases hj : j ∈ vs
  · by_cases hl : j < σ.length
    · rw [wipe_get hj hl, wipe_get hj (by rw [hlen]; exact hl)]
    · rw [List.getElem?_eq_none (by rw [wipe_length, hlen]; omega), List.getElem?_eq_none (by rw [wipe_length]; omega)]
  · rw [wipe_out hj, t.2 j (fun z => hj (h j z))]
section
variable {X : Cx}
theorem imp_ts {X : Cx} {e : List Expr} {t t' : TT} (h : PTs X e t) (i : ∀ σ H Q, t' σ H Q → t σ H Q) : PTs X e t' := ⟨fun p s σ H Q I w => h.run p s σ H Q I (i σ H Q w)⟩
abbrev PTsv (X : Cx) (ifs : List Expr) (c : EvT) : Prop := PTs X ifs (tT X.K c)
theorem ts_nil : PTsv X [] tYes := imp_ts pts_nil fun σ H Q ⟨N, H0, ρ, L, W, k, sim, z, q⟩ => by cases z; exact q H (Same.refl H)
theorem ts_one {c : Expr} {gc : EvT} (h : PTv X c gc) : PTsv X [c] gc := pts_one h
theorem lc_core {vs : List Nat} {t : Tg} {c : EvT} {e : EvE} (hv : (tgSlots t).all (fun j => decide (j ∈ vs)) = true) {N : Nw} {H0 : Hp} {ρ : Env} {L W : List Addr} {items : List (D × Bool)} {rs : List Rv} {r : Rv} {σ : St} {H H1 : Hp} {J : It} {Q : VK} (sim : SimH X.K N H0 ρ σ H L W) (e2 : lcL t c e (wipeE vs ρ) items = some rs) (z : mkBig rs = some r) (q : Post X.K N W H r Q) (s1 : Same H H1) (Y : YldS X.K N W H1 J items) : tLc (fun _ _ R => R J H1) (tG X.K t) (tT X.K c) (tE X.K e) vs σ H Q := by
  have hv : ∀ j ∈ tgSlots t, j ∈ vs := fun j z => of_decide_eq_true (List.all_eq_true.mp hv j z)
  unfold mkBig at z
  split at z
  · rename_i hlen
    refine fun A nA => ?_
    obtain ⟨Lw, simw, subw⟩ := (sim.same s1).wipe vs
    have nAW : A ∉ W := fun w => sim.th A w (s1.free nA)
    refine ⟨fun i m Hc => m = items.length - i ∧ i ≤ items.length ∧ ∃ (r1 r2 : List Rv) (acc : List V) (T : List Addr), Hc A = some (.lst acc) ∧ RpL X.K N (W ++ [A]) T Hc acc r1 T ∧ SimH X.K N H0 (wipeE vs ρ) (L2.wipe σ vs) Hc Lw ((W ++ [A]) ++ T) ∧
      lcL t c e (wipeE vs ρ) (items.drop i) = some r2 ∧ rs = r1 ++ r2 ∧ (∀ r ∈ r1, r.vw = false) ∧ Same H1 Hc ∧ (∀ a ∈ T, H1 a = none), ⟨items.length, by simp, Nat.zero_le _, [], rs, [], [], upd_same, .nil, ?_, by simpa using e2, rfl, (fun _ z => nomatch z), same_upd nA, fun _ z => nomatch z⟩, ?_⟩
    · rw [List.append_nil]
      exact simw.hold (same_upd nA) (fun a z => (List.mem_singleton.mp z) ▸ nA) nodup1 fun a z => by rw [List.mem_singleton.mp z, upd_same]; trivial
    · rintro i m Hc ⟨rfl, hi, r1, r2, acc, T, hA, rl, simc, el, er, hvw, sc, nT⟩
      have kept : Same H1 Hc := sc
      by_cases hlt : i < items.length
      · obtain ⟨⟨d, al⟩, ei⟩ : ∃ x, items[i]? = some x := ⟨items[i], List.getElem?_eq_getElem hlt⟩
        have ed : items.drop i = (d, al) :: items.drop (i + 1) := by
          rw [List.drop_eq_getElem_cons hlt]
          have := List.getElem?_eq_getElem hlt
          rw [ei] at this
          rw [← Option.some.inj this]
        rw [ed] at el
        unfold lcL at el
        obtain ⟨ρ1, et, el⟩ := bind_some el
        obtain ⟨k, ek, el⟩ := bind_some el
        refine .inr ⟨Y.go i d al Hc ei kept, fun Hn => ∃ m', m' < items.length - i ∧ (m' = items.length - (i + 1) ∧ i + 1 ≤ items.length ∧ ∃ (r1 r2 : List Rv) (acc : List V) (T : List Addr), Hn A = some (.lst acc) ∧ RpL X.K N (W ++ [A]) T Hn acc r1 T ∧ SimH X.K N H0 (wipeE vs ρ) (L2.wipe σ vs) Hn Lw ((W ++ [A]) ++ T) ∧
          lcL t c e (wipeE vs ρ) (items.drop (i + 1)) = some r2 ∧ rs = r1 ++ r2 ∧ (∀ r ∈ r1, r.vw = false) ∧ Same H1 Hn ∧ (∀ a ∈ T, H1 a = none)), fun _ h => h, fun x H3 y => ?_⟩
        obtain ⟨s3, r3⟩ := Y.yld i d al Hc x H3 ei kept y
        have r4 : Rp X.K (SR N ((W ++ [A]) ++ T) al false) H3 .shr x d [] := by
          refine r3.mono fun a z => ⟨z.1.1, fun _ w => ?_⟩
          rcases List.mem_append.mp w with w | w
          · rcases List.mem_append.mp w with w | w
            · exact z.1.2 rfl w
            · exact z.2 (List.mem_singleton.mp w ▸ nA)
          · exact z.2 (nT a w)
        refine ⟨N, H0, wipeE vs ρ, Lw, (W ++ [A]) ++ T, d, al, ρ1, simc.same s3, r4, et, fun σ2 L2 sim2 sub2 tch => ?_⟩
        refine ⟨wipe_eq tch hv, N, H0, ρ1, L2, _, k, sim2, ek, fun H4 s4 => ?_⟩
        have s34 := s3.trans s4
        cases k with
        | false =>
          refine iteF ⟨_, by omega, rfl, hlt, r1, r2, acc, T, s34.k A _ hA trivial, rl.same s34, simc.same s34, by simpa using el, er, hvw, sc.trans s34, nT⟩
        | true =>
          rw [if_pos rfl] at el
          obtain ⟨x', ee, el⟩ := bind_some el
          split at el
          · cases el
          · rename_i hx
            have hx : x'.vw = false := by simpa using hx
            obtain ⟨r2', el2, e2'⟩ := Option.map_eq_some_iff.mp el
            subst e2'
            refine iteT ⟨N, H0, ρ1, L2, _, x', sim2.same s4, ee, fun v H5 F s5 n5 d5 p5 => ?_⟩
            have s35 := s34.trans s5
            have hA5 := s35.k A _ hA trivial
            have nF : ∀ a ∈ F, Hc a = none := fun a z => s34.free (n5 a z)
            have AF : A ∉ F := fun z => by have := nF A z; rw [hA] at this; cases this
            refine ⟨acc, hA5, ?_, _, by omega, rfl, hlt, r1 ++ [x'], r2', acc ++ [v], T ++ F, upd_same, ?_, ?_, el2, by rw [er, List.append_assoc]; rfl, fun r z => (List.mem_append.mp z).elim (hvw r) fun z => List.mem_singleton.mp z ▸ hx, (sc.trans s35).upd_new nA hA5 trivial, fun a z => (List.mem_append.mp z).elim (nT a) fun z => sc.free (nF a z)⟩
            · have h1 := rl.len
              have h2 : r1.length ≤ rs.length := by rw [er, List.length_append]; omega
              have := sizeLine_eq
              omega
            · refine RpL.put (by simp) (by rw [hA5]; trivial) (RpL.snoc ?_ ((rl.grow (fun a t => ⟨id, fun z w => (List.mem_append.mp w).elim z fun w => t (nF a w)⟩)).same s35)) (fun r z => (List.mem_append.mp z).elim (hvw r) fun z => List.mem_singleton.mp z ▸ hx) fun z => (List.mem_append.mp z).elim (fun z => by have := nT A z; have := sc.free (H' := Hc) (l := A); exact absurd (rl.own_trk A z) (fun t => by
                  have hnd := simc.nd
                  rw [List.nodup_append] at hnd
                  exact hnd.2.2 A (by simp) A z rfl)) AF
              exact p5.mono fun a z => ⟨⟨z.1.1, fun e w => z.1.2 e (List.mem_append_left _ w)⟩, fun e w => (List.mem_append.mp w).elim (fun w => z.1.2 e (List.mem_append_right _ w)) z.2⟩
            · have := (simc.hold s35 nF d5 p5.own_mut)
              rw [List.append_assoc] at this
              exact this.put (by simp) (fun z => nAW (sim.sub A (subw A z))) trivial hA5 trivial
      · have ei : i = items.length := by omega
        subst ei
        rw [List.drop_length] at el
        unfold lcL at el
        cases el
        rw [List.append_nil] at er
        subst er
        refine .inl ⟨Y.stop Hc kept, ?_⟩
        have hnd := simc.nd
        rw [List.nodup_append] at hnd
        have AT : A ∉ T := fun z => hnd.2.2 A (by simp) A z rfl
        have newT : ∀ a ∈ T, H a = none := fun a z => s1.free (nT a z)
        split at z
        · rename_i hf
          cases z
          refine q _ Hc (A :: T) (s1.trans sc) (fun a z => (List.mem_cons.mp z).elim (fun e => e ▸ s1.free nA) (newT a)) (List.nodup_cons.mpr ⟨AT, hnd.2.1⟩) (.nd1 (fun z => nomatch z) .lst hA ?_)
          exact (rl.full hf al_any).mono fun a z => ⟨⟨z.1.1, fun e w => z.1.2 e (List.mem_append_left _ w)⟩, fun w => (List.mem_cons.mp w).elim (fun e => z.1.2 rfl (by rw [e]; simp)) z.2⟩
        · cases z
          refine q _ Hc [A] (s1.trans sc) (fun a z => List.mem_singleton.mp z ▸ s1.free nA) nodup1 (.nd1 (fun z => nomatch z) .lst hA ?_)
          exact (rl.give (fun a z => ⟨sim.nw a (newT a z), fun w => hnd.2.2 a w a z rfl⟩) (fun _ z => z) (List.all_eq_true.mpr fun r z => by rw [hvw r z]; rfl) al_any).mono fun a z => ⟨⟨z.1, fun e w => z.2 e (List.mem_append_left _ w)⟩, fun w => z.2 rfl (List.mem_append_right _ w)⟩
  · cases z
theorem lc_read {it : EvI} {vs : List Nat} {t : Tg} {c : EvT} {e : EvE} (hv : (tgSlots t).all (fun j => decide (j ∈ vs)) = true) {σ : St} {H : Hp} {Q : VK} (h : tE X.K (eLc it vs t c e) σ H Q) : tLc (tIs X.K it) (tG X.K t) (tT X.K c) (tE X.K e) vs σ H Q := by
  obtain ⟨N, H0, ρ, L, W, r, sim, z, q⟩ := h
  unfold eLc at z
  obtain ⟨items, e1, z⟩ := bind_some z
  obtain ⟨rs, e2, z⟩ := bind_some z
  exact ⟨N, H0, ρ, L, W, items, sim, e1, fun J H1 s1 Y => lc_core hv sim e2 z q s1 Y⟩
variable {elt tg iter : Expr} {ifs : List Expr} {scope : Scope} {own : List (Str × Nat)} {pos pos' spos py : Pos} {it : EvI} {t : Tg} {c : EvT} {fe : EvE}
theorem e_lc (own : List (Str × Nat)) (hc : X.calm = true) (hN : X.N.Nodup) (hi : PIvs X tg iter it) (ok : BlkOk X.N X.env.scope scope own)
    (hg : ∀ (s : Shared) (H : Hp) (C : Addr) (cl : List (Str × Addr)) (fp : List Addr), PGv (X.blk s H scope (compEnvC scope cl C X.env) fp) tg t) (ht : ∀ (s : Shared) (H : Hp) (C : Addr) (cl : List (Str × Addr)) (fp : List Addr), PTsv (X.blk s H scope (compEnvC scope cl C X.env) fp) ifs c)
    (he : ∀ (s : Shared) (H : Hp) (C : Addr) (cl : List (Str × Addr)) (fp : List Addr), PEv (X.blk s H scope (compEnvC scope cl C X.env) fp) elt fe) (hv : (tgSlots t).all (fun j => decide (j ∈ own.map (·.2))) = true := by rfl) (hs : ∀ x, foldedSetIterable iter X.env x = pure x := by intro _; rfl) :
    PEv X (.ListComp elt [⟨tg, iter, ifs, 0⟩] scope pos) (eLc it (own.map (·.2)) t c fe) :=
  imp_e (pe_lc hc hN hi ok hg ht he hs) fun σ H Q h => lc_read hv h
theorem s_setLc (i : Nat) (own : List (Str × Nat)) {y : Str} (hc : X.calm = true) (hN : X.N.Nodup) (hi : PIvs X tg iter it) (ok : BlkOk X.N X.env.scope scope own)
    (hg : ∀ (s : Shared) (H : Hp) (C : Addr) (cl : List (Str × Addr)) (fp : List Addr), PGv (X.blk s H scope (compEnvC scope cl C X.env) fp) tg t) (ht : ∀ (s : Shared) (H : Hp) (C : Addr) (cl : List (Str × Addr)) (fp : List Addr), PTsv (X.blk s H scope (compEnvC scope cl C X.env) fp) ifs c)
    (he : ∀ (s : Shared) (H : Hp) (C : Addr) (cl : List (Str × Addr)) (fp : List Addr), PEv (X.blk s H scope (compEnvC scope cl C X.env) fp) elt fe)
    (hsw : swapsWith (.ListComp elt [⟨tg, iter, ifs, 0⟩] scope pos) (some (.Name y py)) spos.line X.env = pure true) (hy : X.N[i]? = some y := by rfl) (hyl : X.env.scope.names.lookup y = some .local := by rfl)
    (hv : (tgSlots t).all (fun j => decide (j ∈ own.map (·.2))) = true := by rfl) (hs : ∀ x, foldedSetIterable iter X.env x = pure x := by intro _; rfl) :
    PSv X (.Assign [.Name y py] (.ListComp elt [⟨tg, iter, ifs, 0⟩] scope pos) spos) (sSet [] i (eLc it (own.map (·.2)) t c fe)) := by
  refine imp_s (ps_setLc (wi := tIs X.K it) (g := tG X.K t) (tt := tT X.K c) (te := tE X.K fe) hc hN hy hyl hsw hi ok hg ht he hs) fun D σ H ⟨N, H0, ρ, L, o, sim, z, q⟩ => ?_
  unfold sSet at z
  obtain ⟨r, e1, z⟩ := bind_some z
  split at z
  · rename_i hc
    rw [Bool.and_eq_true, decide_eq_true_eq] at hc
    cases z
    refine lc_read (X := X) hv ?_
    refine one sim.h e1 fun v H1 F s1 n1 d1 p1 => ?_
    have hv : r.vw = false := by simpa using hc.1
    obtain ⟨L2, sim2, sub2⟩ := sim.set (r := ⟨r.d, r.l, r.al, none⟩) (fun _ z => nomatch z) s1 n1 d1 (p1.mono fun a z => ⟨⟨z.1.1, fun _ => z.1.2 hv⟩, z.2⟩) hc.2
    exact q _ H1 L2 sim2 (Frm.same s1 fun b z => (sub2 b z).imp id (n1 b))
  · cases z
end
end Ev
set_option Elab.async false
set_option linter.all false
set_option maxRecDepth 100000
set_option maxHeartbeats 4000000
namespace EvS
open PySem PySem.Spec L2
open PyProof.Rows hiding St
open SrtO (Srtd Stb Swo)
theorem lt_asym : ∀ (a b : List Int), HT.lexLt a b = true → HT.lexLt b a = false
  | [], [], h => by cases h
  | [], _ :: _, _ => rfl
  | _ :: _, [], h => by cases h
  | x :: a, y :: b, h => by
    rw [HT.lexLt_cons] at h ⊢
    by_cases e : x = y
    · rw [if_pos e] at h
      rw [if_pos e.symm]
      exact lt_asym a b h
    · rw [if_neg e] at h
      rw [if_neg (fun z => e z.symm)]
      have := of_decide_eq_true h
      exact decide_eq_false (by omega)
theorem lt_neg_trans : ∀ (a b c : List Int), HT.lexLt a b = false → HT.lexLt b c = false → HT.lexLt a c = false
  | [], [], _, _, h => h
  | [], _ :: _, _, h, _ => by cases h
  | _ :: _, [], [], _, _ => rfl
  | _ :: _, [], _ :: _, _, h => by cases h
  | _ :: _, _ :: _, [], _, _ => rfl
  | x :: a, y :: b, z :: c, h1, h2 => by
    rw [HT.lexLt_cons] at h1 h2 ⊢
    by_cases e : x = y
    · rw [if_pos e] at h1
      by_cases e2 : y = z
      · rw [if_pos e2] at h2
        rw [if_pos (e.trans e2)]
        exact lt_neg_trans a b c h1 h2
      · rw [if_neg e2] at h2
        rw [if_neg (by rw [e]; exact e2), e]
        exact h2
    · rw [if_neg e] at h1
      have g1 := of_decide_eq_false h1
      by_cases e2 : y = z
      · rw [← e2, if_neg e]
        exact h1
      · rw [if_neg e2] at h2
        have g2 := of_decide_eq_false h2
        rw [if_neg (by omega)]
        exact decide_eq_false (by omega)
theorem swo_lex {α : Type} (k : α → List Int) : Swo fun v u => HT.lexLt (k v) (k u) :=
  ⟨fun x y h => lt_asym _ _ h, fun x y z h1 h2 => lt_neg_trans _ _ _ h2 h1⟩
section
variable {prog : Program} {w : World} {A : Around} {E : Value → Shared → Prop} {s : Shared} {Q : Bool → Shared → Prop}
theorem oneLt_i (c : Bool) {p q : Int} {t u : Tok} (h : Q (decide (p < q)) s) : wpAny (model prog w) A (oneLt' c (.int p t) (.int q u)) Q E s := by
  cases c with
  | true => exact oneLt_int h
  | false => exact PySem.W.kat_one _ _ (PyProof.Rows.lt_int (Q := PySem.W.BoolBack Q) h)
theorem lexL_ints {b : Bool} {xs ys : List Value} {ns ms : List Int} (i : Nat) (hx : IntsAre xs ns) (hy : IntsAre ys ms) (hl : ns.length = ms.length)
    (h : Q (HT.lexLt ns ms) s) : PySem.W.KatLex prog w A b false Q (xs.zip ys) i s := by
  induction hx generalizing ys ms i with
  | nil =>
    cases hy with
    | nil => exact PySem.W.kat_nil h
    | cons q u hy => simp at hl
  | @cons p t xs ns hx ih =>
    cases hy with
    | nil => simp at hl
    | @cons q u ys ms hy =>
      have hl' : ns.length = ms.length := by simpa using hl
      show PySem.W.KatLex prog w A b false Q ((Value.int p t, Value.int q u) :: xs.zip ys) i s
      refine PySem.W.kat_cons (wpAny_eqBool_int ?_)
      rw [HT.lexLt_cons] at h
      by_cases e : p = q
      · subst e
        rw [if_pos rfl] at h
        rw [beq_self_eq_true]
        refine PySem.W.kat_yes ?_
        first
          | exact ih (i + 1) hy hl' h
          | exact ih _ _ (i + 1) hy hl' h
      · rw [if_neg e] at h
        rw [show (p == q) = false from beq_eq_false_iff_ne.mpr e]
        exact PySem.W.kat_no (oneLt_i _ h)
def Tups (h : Heap) (d : Nat) (vs : List Value) (k : Value → List Int) : Prop := ∀ v ∈ vs, TS.TupInts h v (k v) ∧ (k v).length = d
theorem Tups.keeps {h h' : Heap} {d : Nat} {vs : List Value} {k : Value → List Int} (x : Tups h d vs k) (kp : ∀ b o, h.get? b = some o → o.cls = .type "tuple" → h'.get? b = some o) : Tups h' d vs k := fun v hv =>
  ⟨(x v hv).1.keeps kp, (x v hv).2⟩
theorem firsts {h : Heap} {d : Nat} {k : Value → List Int} (hd : 1 ≤ d) : ∀ vs : List Value, Tups h d vs k → ∃ fs, PySem.W.KatTups h vs fs ∧ fs.length = vs.length ∧ ∀ f, f ∈ fs → ∃ n t, f = Value.int n t
  | [], _ => ⟨[], PySem.W.KatTups.nil, rfl, fun f hf => by simp at hf⟩
  | v :: vs, x => by
    obtain ⟨fs, kt, hl, hi⟩ := firsts hd vs fun u hu => x u (List.mem_cons_of_mem _ hu)
    obtain ⟨⟨a, xs, e1, ⟨o, ho, hc, n, hdt⟩, i⟩, hn⟩ := x v (List.mem_cons_self ..)
    subst e1
    obtain ⟨y, ys, e⟩ : ∃ y ys, xs.toList = y :: ys := by
      cases q : xs.toList with
      | nil =>
        rw [q] at i
        have l := i.length
        rw [List.length_nil, hn] at l
        omega
      | cons y ys => exact ⟨y, ys, rfl⟩
    obtain ⟨m, t, hy⟩ := i.all y (by rw [e]; exact List.mem_cons_self ..)
    refine ⟨y :: fs, PySem.W.KatTups.cons ho hc hdt ?_ kt, by simp [hl], ?_⟩
    · have z := congrArg (fun l : List Value => l[0]?) e
      simpa using z
    · intro f hf
      rcases List.mem_cons.mp hf with rfl | hf
      · exact ⟨m, t, hy⟩
      · exact hi f hf
theorem tup_cmp {d : Nat} {vs : List Value} {k : Value → List Int} (hp : Tups s.heap d vs k) : SrtO.Cmp prog w A s (tuples' true) (fun p => p.1 ∈ vs) (SrtO.lt2 fun v u => HT.lexLt (k v) (k u)) := by
  intro p q hm hm'
  obtain ⟨⟨a, xs, e1, ⟨o, ho, hc, n, hdt⟩, i⟩, l1⟩ := hp _ hm
  obtain ⟨⟨a', ys, e2, ⟨o', ho', hc', n', hdt'⟩, i'⟩, l2⟩ := hp _ hm'
  show wpAny (model prog w) A (keyLt' (tuples' true) p.1 q.1) (fun r s' => s' = s ∧ r = HT.lexLt (k p.1) (k q.1)) (fun _ _ => False) s
  rw [e1] at i l1 ⊢
  rw [e2] at i' l2 ⊢
  refine PySem.W.kat_lt ho hdt ho' hdt' ?_
  have ez : decide (xs.size < ys.size) = false := by
    have z1 := i.length
    have z2 := i'.length
    rw [Array.length_toList] at z1 z2
    exact decide_eq_false (by omega)
  rw [ez]
  exact lexL_ints 0 i i' (by omega) ⟨rfl, rfl⟩
theorem tups_sortableO {d : Nat} (hd : 1 ≤ d) {a : Addr} {vs : List Value} {k : Value → List Int} (h0 : 0 < vs.length) (hp : Tups s.heap d vs k) (ha : ∀ o, s.heap.get? a = some o → o.cls ≠ .type "tuple") : SrtO.SortableO prog w A s a vs fun v u => HT.lexLt (k v) (k u) := by
  intro h' keep
  have hp' : Tups h' d vs k := hp.keeps fun b o e c => keep b o (fun z => by subst z; exact ha o e c) e
  obtain ⟨fs, h1, h2, h3⟩ := firsts hd vs hp'
  refine ⟨tuples' true, fun Q E hq => ?_, tup_cmp (s := { s with heap := h' }) hp'⟩
  refine PySem.W.kat_kind (T := .type "int") h1 (by omega) (fun f hm => ?_) (by rfl) ?_
  · obtain ⟨x, t, rfl⟩ := h3 f hm
    exact PySem.W.Looks.now
  · have e : (Value.type "int" != Value.type "tuple") = true := by first | decide +kernel | rfl | decide
    rw [e]
    exact hq
theorem sorted_tupsO {d : Nat} (hd : 1 ≤ d) {l : Addr} {vs : List Value} {k : Value → List Int} {Q : Value → Shared → Prop} (hl : s.heap.IsList l vs.toArray) (hz : vs.length ≤ sizeLine) (hp : Tups s.heap d vs k)
    (h : ∀ (h' : Heap) (d : Addr) (out : List Value), Srtd (fun v u => HT.lexLt (k v) (k u)) out → Stb (fun v u => HT.lexLt (k v) (k u)) out vs → (∀ b o, s.heap.get? b = some o → h'.get? b = some o) → s.heap.objs.size ≤ d → (∃ n, h'.get? d = some (seqObj "list" out.toArray n)) → Q (.ref d) { s with heap := h' }) :
    wpAny (model prog w) A (call (.builtin "sorted") [.ref l]) Q E s := by
  refine SrtO.sorted_ord (swo_lex k) hl hz (fun h2 h₁ a ha kk => ?_) fun out hs hb => ?_
  · refine tups_sortableO (s := { s with heap := h₁ }) hd (by omega) (hp.keeps fun b o e _ => (kk b o e).2) fun o e => ?_
    have e' : some o = some (seqObj "list" vs.toArray 0) := e.symm.trans ha
    cases e'
    intro c
    exact absurd (Value.type.inj c) (by decide)
  · exact h _ _ out hs hb (fun b o e => PyProof.Rows.sortedAll_old e) (Nat.le_succ _) (PyProof.Rows.sortedAll_at s.heap vs out.toArray)
end
def rSortedL (K : PySem.W.Frag) : List V → Hp → VK → Prop := fun vs H Q => ∃ (a : Addr) (xs : List V) (k : V → List Int) (d : Nat), 1 ≤ d ∧ vs = [V.ref a] ∧ SqL K H a xs ∧ (∀ x ∈ xs, ∃ t, x = V.ref t ∧ H t = some (.tup ((k x).map V.int)) ∧ (k x).length = d) ∧
  ∀ ys p, Srtd (fun x y => HT.lexLt (k x) (k y)) ys → Stb (fun x y => HT.lexLt (k x) (k y)) ys xs → H p = none → Q (.ref p) (upd H p (.lst ys))
theorem cr_sortedL {X : Cx} : CallR X (.builtin "sorted") (rSortedL X.K) := by
  intro pins s σ H vs us Q I r h
  obtain ⟨a, xs, k, d, hd, rfl, hs, hx, q⟩ := h
  obtain ⟨its, rv, hl, hz⟩ := I.list hs
  obtain ⟨u, rfl, ru⟩ := vals1 r
  obtain rfl : u = Value.ref a := ru
  obtain ⟨e1, e2⟩ := refs_back rv fun x m => by
    obtain ⟨t, e, _⟩ := hx x m
    exact ⟨t, e⟩
  refine sorted_tupsO (k := fun u => k (backV u)) hd hl.isList (by rw [← rv.length]; exact hz) (fun v hv => ?_) fun h' d out h1 h2 kp hd hn => ?_
  · obtain ⟨t, rfl⟩ := e2 v hv
    have hm : V.ref t ∈ xs := by rw [e1]; exact List.mem_map.mpr ⟨_, hv, rfl⟩
    obtain ⟨t', e, ht, hlen⟩ := hx _ hm
    cases e
    obtain ⟨_, its2, r2, o, ho, hc, n, hdt⟩ := I.hok _ _ ht
    exact ⟨⟨t, its2.toArray, rfl, ⟨o, ho, hc, n, hdt⟩, Vals.ints r2⟩, hlen⟩
  · have h3 : ∀ u ∈ out, ∃ a, u = Value.ref a := fun u hu => e2 u (h2.perm.mem_iff.mp hu)
    obtain ⟨n, hn⟩ := hn
    have hb : Stb (fun x y => HT.lexLt (k x) (k y)) (out.map backV) xs := by
      rw [e1]
      exact SrtO.Stb.map (swo_lex k) backV h2
    refine ⟨.ref d, upd H d (.lst (out.map backV)), I.laid (t' := s.toks) kp hd ⟨?_, out, n, vals_back h3, hn⟩, rfl, q _ d (SrtO.srtd_map h1) hb (I.hok.fresh hd)⟩
    rw [hb.len]
    exact hz
end EvS
set_option Elab.async false
set_option linter.all false
set_option maxRecDepth 100000
namespace Ev
open PySem PySem.Spec L2
open PyProof.Rows hiding St
def whole : D → Bool
  | .lst ds => immAll ds
  | _ => false
def res (al vw : Bool) (z : Ret) : Rv := if imm z.1 = true then rA z.1 else if (whole z.1 && decide (z.2 = .top)) = true then ⟨z.1, .full, false, false⟩ else ⟨z.1, z.2, al, vw⟩
section
variable {K : PySem.W.Frag} {S : Addr → Prop} {N : Nw} {W : List Addr} {H H1 : Hp} {F : List Addr} {v : V} {Q : VK}
theorem Rp.whole {d : D} (r : Rp K S H .top v d F) (h : whole d = true) : ∀ S', Rp K S' H .full v d F := fun S' => by
  cases r with
  | nd1 h0 hn h1 h2 =>
    cases hn with
    | lst =>
      have e := h2.shr0
      subst e
      exact .nd1 (fun z => nomatch z) .lst h1 (h2.of_imm (by simpa only [Ev.whole] using h)).2
    | _ => cases h
  | fl => cases h
  | _ => cases h
theorem Post.res {z : Ret} {al vw : Bool} (q : Post K N W H (res al vw z) Q) (s : Same H H1) (new : ∀ a ∈ F, H a = none) (nd : F.Nodup) (hS : ∀ a, S a → SR N W al vw a) (rp : Rp K (fun a => S a ∧ a ∉ F) H1 z.2 v z.1 F) : Q v H1 := by
  unfold Ev.res at q
  split at q
  · rename_i hi
    exact q.atom s fun S => (rp.of_imm hi).2
  · split at q
    · rename_i hw
      rw [Bool.and_eq_true, decide_eq_true_eq] at hw
      rw [hw.2] at rp
      exact q v H1 F s new nd (rp.whole hw.1 _)
    · exact q v H1 F s new nd (rp.mono fun a z => ⟨hS a z.1, z.2⟩)
end
def Made (K : PySem.W.Frag) (S : Addr → Prop) (H : Hp) (z : Ret) (Q : VK) : Prop := ∀ v H' F, Same H H' → (∀ a ∈ F, H a = none) → F.Nodup → Rp K (fun a => S a ∧ a ∉ F) H' z.2 v z.1 F → Q v H'
def CallOk (X : Cx) (f : Value) (g : List D → Option Ret) : Prop :=
  ∃ r : List V → Hp → VK → Prop, CallR X f r ∧ ∀ (S : Addr → Prop) (H : Hp) (vs : List V) (ds : List D) (z : Ret) (Q : VK), Rps X.K S H .shr vs ds [] → g ds = some z → Made X.K S H z Q → r vs H Q
theorem CallOk.or {X : Cx} {f : Value} {g g' : List D → Option Ret} (h : CallOk X f g) (h' : CallOk X f g') : CallOk X f (fun ds => (g ds).or (g' ds)) := by
  obtain ⟨r, ho, hr⟩ := h
  obtain ⟨r', ho', hr'⟩ := h'
  refine ⟨_, ho.or ho', fun S H vs ds z Q p e q => ?_⟩
  have e : (g ds).or (g' ds) = some z := e
  cases hg : g ds with
  | some k =>
    rw [hg] at e
    cases e
    exact .inl (hr S H vs ds _ Q p hg q)
  | none =>
    rw [hg] at e
    exact .inr (hr' S H vs ds _ Q p e q)
def eBi (g : List D → Option Ret) (ga : EvA) : EvE := fun ρ => (ga ρ).bind fun rs => (g (rs.map (·.d))).map (res (rs.any (·.al)) (rs.any (·.vw)))
section
variable {X : Cx} {e : Expr} {es : List Expr} {ga : EvA} {fe fa fb : EvE} {p pos : Pos} {x : Str} {id T : String} {g : List D → Option Ret}
theorem bi_read {r : List V → Hp → VK → Prop} (hr : ∀ (S : Addr → Prop) (H : Hp) (vs : List V) (ds : List D) (z : Ret) (Q : VK), Rps X.K S H .shr vs ds [] → g ds = some z → Made X.K S H z Q → r vs H Q) {σ : St} {H : Hp} {Q : VK} (h : tE X.K (eBi g ga) σ H Q) : tA X.K ga σ H fun vs H1 => r vs H1 Q := by
  obtain ⟨N, H0, ρ, L, W, rr, sim, z, q⟩ := h
  unfold eBi at z
  obtain ⟨rs, e1, z⟩ := bind_some z
  obtain ⟨z', e2, z⟩ := Option.map_eq_some_iff.mp z
  subst z
  refine ⟨N, H0, ρ, L, W, rs, sim, e1, fun vs H1 T' s1 n1 d1 p1 => ?_⟩
  have hT : ∀ a ∈ T', N a ∧ a ∉ W := fun a m => ⟨sim.nw a (n1 a m), fun w => sim.th a w (n1 a m)⟩
  exact hr _ H1 vs _ z' Q (p1.give' hT (fun _ m => m) (fun r h => any_of (p := fun r : Rv => r.al) r h) (fun r h => any_of (p := fun r : Rv => r.vw) r h)) e2 fun v H2 F s2 n2 d2 p2 => q.res (s1.trans s2) (fun a m => s1.free (n2 a m)) d2 (fun a z => z) p2
theorem e_bi (ho : CallOk X (.builtin id) g) (hm : X.mg x = none) (hv : bootBuiltins x = some (.builtin id)) (ha : PAv X (e :: es) ga) (hg : Gl X x := by rfl) (hn : x ≠ "__name__" := by decide) (hdb : (x == ("__debug__" : Str)) = false := by decide)
    (he : starEach (e :: es) X.env = (false, eval e X.env) :: starEach es X.env := by rfl) (hpl : (backTo pos (starEach es X.env)).any (·.1) = false := by rfl) : PEv X (.Call (.Name x p) (e :: es) [] pos) (eBi g ga) := by
  obtain ⟨r, ho, hr⟩ := ho
  exact imp_e (pe_callB ho hg hm hv ha hn hdb he hpl) fun σ H Q h => bi_read hr h
end
theorem Made.atom {K : PySem.W.Frag} {S : Addr → Prop} {H : Hp} {d : D} {l : Lv} {v : V} {Q : VK} (q : Made K S H (d, l) Q) (r : ∀ S, Rp K S H l v d []) : Q v H := q v H [] (Same.refl H) (fun _ z => nomatch z) .nil (r _)
theorem Made.lst {K : PySem.W.Frag} {S : Addr → Prop} {H : Hp} {ds : List D} {vs : List V} {Q : VK} (q : Made K S H (.lst ds, .top) Q) (r : Rps K S H .shr vs ds []) : ∀ p, H p = none → Q (.ref p) (upd H p (.lst vs)) := fun p np =>
  q _ _ [p] (same_upd np) (fun a m => List.mem_singleton.mp m ▸ np) nodup1 (.nd1 (fun z => nomatch z) .lst upd_same ((r.trk.same (same_upd np)).mono fun a z => ⟨z.1, fun m => z.2 (List.mem_singleton.mp m ▸ np)⟩))
theorem Rps.inv1 {K : PySem.W.Frag} {S : Addr → Prop} {H : Hp} {vs : List V} {d : D} (r : Rps K S H .shr vs [d] []) : ∃ v, vs = [v] ∧ Rp K S H .shr v d [] := by
  generalize hF : ([] : List Addr) = F at r
  cases r with
  | cons h1 h2 =>
    have e1 := h1.shr0
    subst e1
    cases h2
    exact ⟨_, rfl, h1⟩
theorem Rps.inv2 {K : PySem.W.Frag} {S : Addr → Prop} {H : Hp} {vs : List V} {d e : D} (r : Rps K S H .shr vs [d, e] []) : ∃ v w, vs = [v, w] ∧ Rp K S H .shr v d [] ∧ Rp K S H .shr w e [] := by
  generalize hF : ([] : List Addr) = F at r
  cases r with
  | cons h1 h2 =>
    have e1 := h1.shr0
    have e2 := h2.shr0
    subst e1 e2
    obtain ⟨w, rfl, h3⟩ := h2.inv1
    exact ⟨_, w, rfl, h1, h3⟩
theorem Rp.lst_shr {K : PySem.W.Frag} {S : Addr → Prop} {H : Hp} {v : V} {ds : List D} (r : Rp K S H .shr v (.lst ds) []) : ∃ a vs, v = .ref a ∧ H a = some (.lst vs) ∧ S a ∧ Rps K S H .shr vs ds [] := by
  cases r with
  | nd0 h h1 h2 h3 => cases h; exact ⟨_, _, rfl, h1.lst, h2, h3⟩
def seqOf : D → Option (List D)
  | .lst ds => some ds
  | .fl ds => some ds
  | _ => none
theorem seq_rp {K : PySem.W.Frag} {S : Addr → Prop} {H : Hp} {v : V} {d : D} {ds : List D} (r : Rp K S H .shr v d []) (h : seqOf d = some ds) : ∃ a vs, v = .ref a ∧ SqL K H a vs ∧ Rps K S H .shr vs ds [] := by
  cases d with
  | lst xs => cases h; obtain ⟨a, vs, rfl, h1, _, h3⟩ := r.lst_shr; exact ⟨a, vs, rfl, SqL.of h1, h3⟩
  | fl xs => cases h; obtain ⟨a, vs, rfl, h1, h3, _⟩ := r.fl_inv; exact ⟨a, vs, rfl, h1.sq, h3⟩
  | _ => cases h
def bAbs : List D → Option Ret
  | [.int i] => some (.int (if i < 0 then -i else i), .full)
  | _ => none
def bMax2 : List D → Option Ret
  | [.int i, .int j] => some (.int (if j > i then j else i), .full)
  | _ => none
def bMin2 : List D → Option Ret
  | [.int i, .int j] => some (.int (if j < i then j else i), .full)
  | _ => none
def blOf : D → Option Bool
  | .bl b => some b
  | _ => none
def blsOf : List D → Option (List Bool)
  | [] => some []
  | d :: ds => (blOf d).bind fun i => (blsOf ds).map (i :: ·)
theorem blsOf_some : ∀ {ds : List D} {ns : List Bool}, blsOf ds = some ns → ds = ns.map .bl
  | [], _, h => by cases h; rfl
  | d :: ds, ns, h => by
    unfold blsOf at h
    obtain ⟨i, e1, h⟩ := bind_some h
    obtain ⟨m, e2, h⟩ := Option.map_eq_some_iff.mp h
    subst h
    rw [blsOf_some e2]
    cases d <;> first | (cases e1; rfl) | cases e1
def bAll : List D → Option Ret
  | [.lst ds] => (blsOf ds).map fun bs => (.bl (bs.all id), .full)
  | _ => none
def isort {α : Type} (lt : α → α → Bool) : List α → List α
  | [] => []
  | x :: xs => insF lt x (isort lt xs)
where insF {α : Type} (lt : α → α → Bool) (x : α) : List α → List α
  | [] => [x]
  | y :: ys => if lt y x = true then y :: insF lt x ys else x :: y :: ys
def rowOfD : D → Option (List Int)
  | .tup ds => intsOf ds
  | _ => none
def rowsOfL : List D → Option (List (List Int))
  | [] => some []
  | d :: ds => (rowOfD d).bind fun i => (rowsOfL ds).map (i :: ·)
def dRow (r : List Int) : D := .tup (r.map .int)
theorem rowsOfL_some : ∀ {ds : List D} {ns : List (List Int)}, rowsOfL ds = some ns → ds = ns.map dRow
  | [], _, h => by cases h; rfl
  | d :: ds, ns, h => by
    unfold rowsOfL at h
    obtain ⟨i, e1, h⟩ := bind_some h
    obtain ⟨m, e2, h⟩ := Option.map_eq_some_iff.mp h
    subst h
    rw [rowsOfL_some e2]
    cases d with
    | tup xs => rw [show xs = i.map .int from intsOf_some e1]; rfl
    | _ => cases e1
abbrev sortI (ns : List Int) : List Int := isort (fun a b => decide (a < b)) ns
abbrev sortR (rs : List (List Int)) : List (List Int) := isort HT.lexLt rs
def bSortedI : List D → Option Ret
  | [d] => ((seqOf d).bind intsOf).map fun ns => (.lst ((sortI ns).map .int), .top)
  | _ => none
def sameLen : List (List Int) → Bool
  | [] => true
  | r :: rs => decide (1 ≤ r.length) && rs.all fun q => decide (q.length = r.length)
def bSortedR : List D → Option Ret
  | [d] => (seqOf d).bind fun ds => (rowsOfL ds).bind fun rs => if sameLen rs = true then some (.lst ((sortR rs).map dRow), .top) else none
  | _ => none
section
open SrtO (Srtd Stb Swo)
theorem insF_perm {α : Type} {lt : α → α → Bool} (x : α) : ∀ l : List α, (isort.insF lt x l).Perm (x :: l)
  | [] => List.Perm.refl _
  | y :: ys => by
    unfold isort.insF
    split
    · exact ((insF_perm x ys).cons y).trans (List.Perm.swap x y ys)
    · exact List.Perm.refl _
theorem isort_perm {α : Type} {lt : α → α → Bool} : ∀ l : List α, (isort lt l).Perm l
  | [] => List.Perm.refl _
  | x :: xs => (insF_perm x _).trans ((isort_perm xs).cons x)
theorem insF_srtd {α : Type} {lt : α → α → Bool} (O : Swo lt) (x : α) : ∀ {l : List α}, Srtd lt l → Srtd lt (isort.insF lt x l)
  | [], _ => List.pairwise_singleton _ _
  | y :: ys, h => by
    unfold isort.insF
    have hh := List.pairwise_cons.mp h
    split
    · rename_i hy
      refine List.pairwise_cons.mpr ⟨fun z hz => ?_, insF_srtd O x hh.2⟩
      rcases List.mem_cons.mp ((insF_perm x ys).mem_iff.mp hz) with e | hz
      · rw [e]; exact O.asym _ _ hy
      · exact hh.1 z hz
    · rename_i hy
      have hy : lt y x = false := by simpa using hy
      refine List.pairwise_cons.mpr ⟨fun z hz => ?_, h⟩
      rcases List.mem_cons.mp hz with e | hz
      · rw [e]; exact hy
      · exact O.tr x y z hy (hh.1 z hz)
theorem isort_srtd {α : Type} {lt : α → α → Bool} (O : Swo lt) : ∀ l : List α, Srtd lt (isort lt l)
  | [] => List.Pairwise.nil
  | x :: xs => insF_srtd O x (isort_srtd O xs)
theorem insF_cls {α : Type} {lt : α → α → Bool} (O : Swo lt) (x z : α) : ∀ {l : List α}, Srtd lt l → (isort.insF lt x l).filter (SrtO.eqv lt z) = (x :: l).filter (SrtO.eqv lt z)
  | [], _ => rfl
  | y :: ys, h => by
    unfold isort.insF
    have hh := List.pairwise_cons.mp h
    split
    · rename_i hy
      have ih := insF_cls O x z hh.2
      have hxy : ¬ (SrtO.eqv lt z x = true ∧ SrtO.eqv lt z y = true) := fun ⟨a, b⟩ => by
        obtain ⟨a1, a2⟩ := SrtO.eqv_iff.mp a
        obtain ⟨b1, b2⟩ := SrtO.eqv_iff.mp b
        have := O.tr x z y a1 b2
        rw [hy] at this
        cases this
      rcases SrtO.bcase (SrtO.eqv lt z x) with q | q
      · have q' : SrtO.eqv lt z y = false := by
          rcases SrtO.bcase (SrtO.eqv lt z y) with p | p
          · exact absurd ⟨q, p⟩ hxy
          · exact p
        rw [List.filter_cons_of_neg (by rw [q']; decide), ih, List.filter_cons_of_pos q, List.filter_cons_of_pos q, List.filter_cons_of_neg (by rw [q']; decide)]
      · rw [List.filter_cons_of_neg (a := x) (by rw [q]; decide)] at ih
        rw [List.filter_cons_of_neg (a := x) (by rw [q]; decide)]
        rcases SrtO.bcase (SrtO.eqv lt z y) with p | p
        · rw [List.filter_cons_of_pos p, List.filter_cons_of_pos p, ih]
        · rw [List.filter_cons_of_neg (a := y) (by rw [p]; decide), List.filter_cons_of_neg (a := y) (by rw [p]; decide), ih]
    · rfl
theorem isort_stb {α : Type} {lt : α → α → Bool} (O : Swo lt) : ∀ l : List α, Stb lt (isort lt l) l
  | [] => Stb.refl []
  | x :: xs => by
    have ih := isort_stb O xs
    refine ⟨isort_perm _, fun z => ?_⟩
    show (isort.insF lt x (isort lt xs)).filter _ = _
    rw [insF_cls O x z (isort_srtd O xs)]
    rcases SrtO.bcase (SrtO.eqv lt z x) with q | q
    · rw [List.filter_cons_of_pos q, List.filter_cons_of_pos q, ih.cls z]
    · rw [List.filter_cons_of_neg (by rw [q]; decide), List.filter_cons_of_neg (by rw [q]; decide), ih.cls z]
theorem swo_int : Swo (fun a b : Int => decide (a < b)) := ⟨fun x y h => by
    have := of_decide_eq_true h
    exact decide_eq_false (by omega), fun x y z h1 h2 => by
    have h1 := of_decide_eq_false h1
    have h2 := of_decide_eq_false h2
    exact decide_eq_false (by omega)⟩
theorem stb_int {a b : List Int} (h : a.Perm b) : Stb (fun a b : Int => decide (a < b)) a b := by
  refine ⟨h, fun z => ?_⟩
  have e : ∀ l : List Int, l.filter (SrtO.eqv (fun a b : Int => decide (a < b)) z) = l.filter fun x => decide (x = z) := fun l => by
    congr 1
    funext x
    unfold SrtO.eqv
    by_cases q : x = z
    · subst q; simp
    · rw [decide_eq_false q]
      have : z < x ∨ x < z := by omega
      rcases this with t | t <;> simp [t]
  rw [e, e]
  have f : ∀ l : List Int, l.filter (fun x => decide (x = z)) = List.replicate (l.count z) z := fun l => by
    induction l with
    | nil => rfl
    | cons x l ih =>
      by_cases q : x = z
      · subst q; simp [ih, List.replicate_succ]
      · simp [q, ih, List.count_cons]
  rw [f, f, h.count_eq]
theorem sortI_uniq {a b : List Int} (h : a.Perm b) (hs : a.Pairwise (· ≤ ·)) : a = sortI b := by
  have s1 : Srtd (fun a b : Int => decide (a < b)) a := hs.imp fun {x y} h => decide_eq_false (by omega)
  exact SrtO.stb_uniq swo_int s1 (isort_srtd swo_int b) ⟨h.trans (isort_perm b).symm, fun z => ((stb_int h).cls z).trans ((isort_stb swo_int b).cls z).symm⟩
end
theorem Rps.mem {K : PySem.W.Frag} {S : Addr → Prop} {H : Hp} {rs : List (List Int)} : ∀ {vs : List V} {F : List Addr}, Rps K S H .shr vs (rs.map dRow) F → Paired (fun v r => ∃ a, v = V.ref a ∧ H a = some (.tup (r.map V.int))) vs rs := by
  induction rs with
  | nil => intro vs F h; cases h; exact .nil
  | cons r rs ih =>
    intro vs F h
    cases h with
    | cons h1 h2 =>
      obtain ⟨a, us, rfl, e, r1⟩ := Rp.tup_inv h1
      obtain ⟨rfl, _⟩ := r1.ints
      exact .cons ⟨a, rfl, e⟩ (ih h2)
def keyV (H : Hp) : V → List Int
  | .ref a => match H a with
    | some (.tup vs) => vs.filterMap fun v => match v with | .int i => some i | _ => none
    | _ => []
  | _ => []
theorem keyV_at {H : Hp} {a : Addr} {r : List Int} (h : H a = some (.tup (r.map V.int))) : keyV H (.ref a) = r := by
  unfold keyV
  simp only [h]
  rw [List.filterMap_map]
  exact List.filterMap_some
theorem paired_key {H : Hp} : ∀ {vs : List V} {rs : List (List Int)}, Paired (fun v r => ∃ a, v = V.ref a ∧ H a = some (.tup (r.map V.int))) vs rs → vs.map (keyV H) = rs ∧ ∀ v ∈ vs, ∃ a, v = V.ref a ∧ H a = some (.tup ((keyV H v).map V.int))
  | _, _, .nil => ⟨rfl, fun _ z => nomatch z⟩
  | _, _, .cons ⟨a, e, h⟩ t => by
    obtain ⟨i1, i2⟩ := paired_key t
    subst e
    refine ⟨by rw [List.map_cons, keyV_at h, i1], fun v hv => ?_⟩
    rcases List.mem_cons.mp hv with e | hv
    · rw [e, keyV_at h]; exact ⟨a, rfl, h⟩
    · exact i2 v hv
theorem sameLen_all {rs : List (List Int)} (h : sameLen rs = true) : ∃ d, 1 ≤ d ∧ ∀ r ∈ rs, r.length = d := by
  cases rs with
  | nil => exact ⟨1, Nat.le_refl _, fun _ z => nomatch z⟩
  | cons r rs =>
    unfold sameLen at h
    rw [Bool.and_eq_true, decide_eq_true_eq] at h
    refine ⟨r.length, h.1, fun q hq => ?_⟩
    rcases List.mem_cons.mp hq with e | hq
    · rw [e]
    · exact of_decide_eq_true (List.all_eq_true.mp h.2 q hq)
theorem rps_rows {K : PySem.W.Frag} {S : Addr → Prop} {H : Hp} : ∀ {vs : List V}, (∀ v ∈ vs, ∃ a, v = V.ref a ∧ H a = some (.tup ((keyV H v).map V.int))) → Rps K S H .shr vs ((vs.map (keyV H)).map dRow) []
  | [], _ => .nil
  | v :: vs, h => by
    obtain ⟨a, e, ha⟩ := h v List.mem_cons_self
    have r := rps_rows (K := K) (S := S) (vs := vs) fun u hu => h u (List.mem_cons_of_mem _ hu)
    refine Rps.cons (F := []) (G := []) ?_ r
    subst e
    refine .tup ha ?_
    generalize keyV H (V.ref a) = ns
    induction ns with
    | nil => exact .nil
    | cons n ns ih => exact Rps.cons (F := []) (G := []) .int ih
theorem rps_ints {K : PySem.W.Frag} {S : Addr → Prop} {H : Hp} {l : Lv} : ∀ ns : List Int, Rps K S H l (ns.map V.int) (ns.map .int) []
  | [] => .nil
  | n :: ns => Rps.cons (F := []) (G := []) .int (rps_ints ns)
section
variable {X : Cx}
theorem k_sortedI : CallOk X (.builtin "sorted") bSortedI := ⟨_, cr_sortedI, fun S H vs ds z Q r e q => by
  unfold bSortedI at e
  split at e
  · rename_i d
    obtain ⟨ns, e1, e⟩ := Option.map_eq_some_iff.mp e
    subst e
    obtain ⟨xs, e2, e3⟩ := bind_some e1
    obtain ⟨v, rfl, r1⟩ := r.inv1
    obtain ⟨a, us, rfl, h1, h2⟩ := seq_rp r1 e2
    rw [intsOf_some e3] at h2
    obtain ⟨rfl, _⟩ := h2.ints
    refine ⟨a, ns, rfl, h1, fun ns' p pm pw np => ?_⟩
    rw [sortI_uniq pm pw]
    exact q.lst (rps_ints _) p np
  · cases e⟩
theorem k_sortedR : CallOk X (.builtin "sorted") bSortedR := ⟨_, EvS.cr_sortedL, fun S H vs ds z Q r e q => by
  unfold bSortedR at e
  split at e
  · rename_i d
    obtain ⟨xs, e2, e⟩ := bind_some e
    obtain ⟨rs, e3, e⟩ := bind_some e
    split at e
    · rename_i hl
      cases e
      obtain ⟨v, rfl, r1⟩ := r.inv1
      obtain ⟨a, us, rfl, h1, h2⟩ := seq_rp r1 e2
      rw [rowsOfL_some e3] at h2
      obtain ⟨k1, k2⟩ := paired_key (Rps.mem h2)
      obtain ⟨d, hd, hlen⟩ := sameLen_all hl
      refine ⟨a, us, keyV H, d, hd, rfl, h1, fun x hx => ?_, fun ys p hs hb np => ?_⟩
      · obtain ⟨t, e, ht⟩ := k2 x hx
        exact ⟨t, e, ht, hlen _ (by rw [← k1]; exact List.mem_map_of_mem hx)⟩
      · have eo : ys.map (keyV H) = sortR rs := by
          refine SrtO.stb_uniq (EvS.swo_lex id) (SrtO.srtd_map hs) (isort_srtd (EvS.swo_lex id) rs) ?_
          have z1 := SrtO.Stb.map (EvS.swo_lex id) (keyV H) hb
          rw [k1] at z1
          have z2 := isort_stb (EvS.swo_lex (α := List Int) id) rs
          exact ⟨z1.perm.trans z2.perm.symm, fun x => (z1.cls x).trans (z2.cls x).symm⟩
        have hy : ∀ v ∈ ys, ∃ a, v = V.ref a ∧ H a = some (.tup ((keyV H v).map V.int)) := fun v hv => k2 v (hb.perm.mem_iff.mp hv)
        have z := rps_rows (K := X.K) (S := S) hy
        rw [eo] at z
        exact q.lst z p np
    · cases e
  · cases e⟩
def keysI : List (Key × D) → Option (List Int)
  | [] => some []
  | (.inl i, _) :: kd => (keysI kd).map (i :: ·)
  | (.inr _, _) :: _ => none
theorem keysI_some : ∀ {kd : List (Key × D)} {ks : List Int}, keysI kd = some ks → kd.map (·.1) = ks.map Sum.inl
  | [], _, h => by cases h; rfl
  | (.inl i, d) :: kd, ks, h => by
    unfold keysI at h
    obtain ⟨m, e, h⟩ := Option.map_eq_some_iff.mp h
    subst h
    rw [List.map_cons, keysI_some e]
    rfl
  | (.inr _, _) :: _, _, h => by cases h
def bSortedD : List D → Option Ret
  | [.dk kd] => (keysI kd).bind fun ks => if ks.length < 64 then some (.lst ((sortI ks).map .int), .top) else none
  | _ => none
theorem k_sortedD (hc : X.calm = true) : CallOk X (.builtin "sorted") bSortedD := ⟨_, call_sortedDI hc, fun S H vs ds z Q r e q => by
  unfold bSortedD at e
  split at e
  · rename_i kd
    obtain ⟨ks, e1, e⟩ := bind_some e
    split at e
    · rename_i hl
      cases e
      obtain ⟨v, rfl, r1⟩ := r.inv1
      obtain ⟨a, kv, G, rfl, h1, h2, _⟩ := r1.dk_inv
      refine ⟨a, kv, ks, rfl, h1, h2.trans (keysI_some e1), hl, fun ys p pm pw np => ?_⟩
      rw [sortI_uniq pm pw]
      exact q.lst (rps_ints _) p np
    · cases e
  · cases e⟩
abbrev bSorted : List D → Option Ret := fun ds => (bSortedD ds).or ((bSortedI ds).or (bSortedR ds))
theorem k_sorted (hc : X.calm = true) : CallOk X (.builtin "sorted") bSorted := (k_sortedD hc).or (k_sortedI.or k_sortedR)
theorem k_abs : CallOk X (.builtin "abs") bAbs := ⟨_, call_abs, fun S H vs ds z Q r e q => by
  unfold bAbs at e
  split at e
  · cases e
    obtain ⟨v, rfl, r1⟩ := r.inv1
    obtain ⟨rfl, _⟩ := r1.int_inv
    exact ⟨_, rfl, q.atom fun _ => .int⟩
  · cases e⟩
theorem k_max2 (hc : X.calm = true) : CallOk X (.builtin "max") bMax2 := ⟨_, call_max2 hc, fun S H vs ds z Q r e q => by
  unfold bMax2 at e
  split at e
  · cases e
    obtain ⟨v, w, rfl, r1, r2⟩ := r.inv2
    obtain ⟨rfl, _⟩ := r1.int_inv
    obtain ⟨rfl, _⟩ := r2.int_inv
    exact ⟨_, _, rfl, q.atom fun _ => .int⟩
  · cases e⟩
theorem k_min2 (hc : X.calm = true) : CallOk X (.builtin "min") bMin2 := ⟨_, call_min2 hc, fun S H vs ds z Q r e q => by
  unfold bMin2 at e
  split at e
  · cases e
    obtain ⟨v, w, rfl, r1, r2⟩ := r.inv2
    obtain ⟨rfl, _⟩ := r1.int_inv
    obtain ⟨rfl, _⟩ := r2.int_inv
    exact ⟨_, _, rfl, q.atom fun _ => .int⟩
  · cases e⟩
theorem Rps.bls {K : PySem.W.Frag} {S : Addr → Prop} {H : Hp} {l : Lv} : ∀ {vs : List V} {ns : List Bool} {F : List Addr}, Rps K S H l vs (ns.map .bl) F → vs = ns.map V.bl
  | _, [], _, .nil => rfl
  | _, n :: ns, _, .cons h1 h2 => by
    obtain ⟨rfl, e1⟩ := Rp.bl_inv h1
    rw [Rps.bls h2]
    rfl
theorem k_all (hc : X.calm = true) : CallOk X (.builtin "all") bAll := ⟨_, cr_all hc, fun S H vs ds z Q r e q => by
  unfold bAll at e
  split at e
  · rename_i d
    obtain ⟨ns, e1, e⟩ := Option.map_eq_some_iff.mp e
    subst e
    obtain ⟨v, rfl, r1⟩ := r.inv1
    obtain ⟨a, us, rfl, h1, _, h2⟩ := r1.lst_shr
    rw [blsOf_some e1] at h2
    have := h2.bls
    subst this
    exact ⟨a, ns, rfl, SqL.of h1, q.atom fun _ => .bl⟩
  · cases e⟩
end
end Ev
set_option Elab.async false
set_option linter.all false
set_option maxRecDepth 100000
namespace Ev
open PySem PySem.Spec L2
open PyProof.Rows hiding St
section
variable {X : Cx} {e e2 o : Expr} {es : List Expr} {ga : EvA} {fe fa fb : EvE} {p pos apos cpos : Pos} {x : Str} {id T : String}
def tyN : D → Option String
  | .non => some "NoneType" | .bl _ => some "bool" | .int _ => some "int" | .str _ => some "str"
  | .tup _ => some "tuple" | .lst _ => some "list" | .fl _ => some "list" | .dk _ => some "dict"
  | _ => none
def eIsi (T : String) (fe : EvE) : EvE := fun ρ => (fe ρ).bind fun x => (tyN x.d).bind fun tn => (kitB tn T).map rB
theorem ty_rp {K : PySem.W.Frag} {S : Addr → Prop} {H : Hp} {l : Lv} {v : V} {d : D} {F : List Addr} {tn : String} (r : Rp K S H l v d F) (h : tyN d = some tn) : TyX K H v (.type tn) := by
  cases d with
  | non => cases h; obtain ⟨rfl, _⟩ := r.non_inv; exact .base .non
  | bl b => cases h; obtain ⟨rfl, _⟩ := r.bl_inv; exact .base (.bl _)
  | int i => cases h; obtain ⟨rfl, _⟩ := r.int_inv; exact .base (.int _)
  | str x => cases h; obtain ⟨rfl, _⟩ := r.str_inv; exact .base (.str _)
  | tup ds => cases h; obtain ⟨a, vs, rfl, h1, _⟩ := r.tup_inv; exact .base (.tup h1)
  | lst ds => cases h; obtain ⟨a, vs, G, rfl, h1, _⟩ := r.lst_inv; exact .base (.lst h1)
  | fl ds =>
    cases h
    obtain ⟨a, vs, rfl, h1, _⟩ := r.fl_inv
    rcases h1 with ⟨o, h1⟩ | ⟨o, its, n, h1, h2, _⟩
    · exact .base (.frz h1)
    · exact .kList h1 h2
  | dk kd =>
    cases h
    obtain ⟨a, kv, G, rfl, h1, _⟩ := r.dk_inv
    rcases h1 with h1 | ⟨o, h1⟩
    · exact .base (.dK h1)
    · exact .fDict h1
  | _ => cases h
theorem e_isi {t : Str} {p1 p2 : Pos} (T : String) (hm : X.mg "isinstance" = none) (hmT : X.mg t = none) (hvT : bootBuiltins t = some (.type T)) (he : PEv X e fe) (hg : Gl X "isinstance" := by rfl) (hgT : Gl X t := by rfl) (hnT : t ≠ "__name__" := by decide) (hdT : (t == ("__debug__" : Str)) = false := by decide)
    (hs1 : starEach [e, .Name t p2] X.env = (false, eval e X.env) :: starEach [.Name t p2] X.env := by rfl) (hs2 : starEach [.Name t p2] X.env = (false, eval (.Name t p2) X.env) :: starEach [] X.env := by rfl)
    (hpl : (backTo pos (starEach [.Name t p2] X.env)).any (·.1) = false := by rfl) : PEv X (.Call (.Name "isinstance" p1) [e, .Name t p2] [] pos) (eIsi T fe) := by
  have hv : bootBuiltins "isinstance" = some (.builtin "isinstance") := PyProof.Rows.boot_isinstance
  refine imp_e (pe_callB call_isi hg hm hv (pa_cons he (pa_cons (pe_bltn (v := .ty T) hgT hmT hvT rfl hnT hdT) pa_nil hs2) hs1) (by decide) (by decide) hs1 hpl) fun σ H Q ⟨N, H0, ρ, L, W, rr, sim, z, q⟩ => ?_
  unfold eIsi at z
  obtain ⟨x, e1, z⟩ := bind_some z
  obtain ⟨tn, e2, z⟩ := bind_some z
  obtain ⟨b, e3, z⟩ := Option.map_eq_some_iff.mp z
  subst z
  refine one sim e1 fun v H1 F s1 n1 d1 p1 => ?_
  exact ⟨v, .ty T, .type tn, .type T, b, rfl, .ty T, ty_rp p1 e2, kit_ty e3, q.bl s1⟩
def cutL {α : Type} (xs : List α) (lo hi : Option Int) : List α := (xs.drop (HT.sIx xs.length 0 lo)).take (HT.sIx xs.length xs.length hi - HT.sIx xs.length 0 lo)
abbrev EvO := Env → Option (Option Int)
def oSome (fe : EvE) : EvO := fun ρ => (fe ρ).bind fun x => (intOf x.d).map some
def tO (K : PySem.W.Frag) (f : EvO) : TO := fun σ H Q => ∃ N H0 ρ L W o, SimH K N H0 ρ σ H L W ∧ f ρ = some o ∧ ∀ H', Same H H' → Q o H'
abbrev POv (X : Cx) (e : Option Expr) (f : EvO) : Prop := PO X e (tO X.K f)
theorem imp_o {e : Option Expr} {t t' : TO} (h : PO X e t) (i : ∀ σ H Q, t' σ H Q → t σ H Q) : PO X e t' := ⟨fun p s σ H Q I w => h.run p s σ H Q I (i σ H Q w)⟩
theorem o_some (he : PEv X e fe) : POv X (some e) (oSome fe) := imp_o (po_some he) fun σ H Q ⟨N, H0, ρ, L, W, k, sim, z, q⟩ => by
  unfold oSome at z
  obtain ⟨x, e1, z⟩ := bind_some z
  obtain ⟨i, e2, z⟩ := Option.map_eq_some_iff.mp z
  subst z
  refine one sim e1 fun v H1 F s1 n1 d1 p1 => ?_
  have : x.d = .int i := by
    cases q : x.d <;> rw [q] at e2 <;> first | (cases e2; rfl) | cases e2
  rw [this] at p1
  obtain ⟨rfl, _⟩ := p1.int_inv
  exact ⟨i, rfl, q H1 s1⟩
def cutD (d : D) (lo hi : Option Int) : Option Ret := match d with
  | .lst ds => some (.lst (cutL ds lo hi), .top)
  | .fl ds => some (.lst (cutL ds lo hi), .top)
  | .tup ds => if HT.sIx ds.length 0 lo = 0 ∧ HT.sIx ds.length ds.length hi = ds.length then none else some (.tup (cutL ds lo hi), .shr)
  | _ => none
def eSl (fe : EvE) (fl fh : EvO) : EvE := fun ρ => (fe ρ).bind fun x => (fl ρ).bind fun lo => (fh ρ).bind fun hi => (cutD x.d lo hi).map (res x.al x.vw)
theorem Rps.cut {K : PySem.W.Frag} {S : Addr → Prop} {H : Hp} {vs : List V} {ds : List D} (r : Rps K S H .shr vs ds []) (lo hi : Option Int) : Rps K S H .shr (cutV vs lo hi) (cutL ds lo hi) [] := by
  unfold cutV cutL
  rw [r.len]
  exact (r.drop _).take _
theorem e_sl {lo hi : Option Expr} {fl fh : EvO} {p2 : Pos} (he : PEv X e fe) (hl : POv X lo fl) (hh : POv X hi fh) : PEv X (.Subscript e (.Slice lo hi none p2) pos) (eSl fe fl fh) := by
  refine imp_e (pe_slice (sl_list.or sl_tup) he hl hh) fun σ H Q ⟨N, H0, ρ, L, W, rr, sim, z, q⟩ => ?_
  unfold eSl at z
  obtain ⟨x, e1, z⟩ := bind_some z
  obtain ⟨l, e2, z⟩ := bind_some z
  obtain ⟨h, e3, z⟩ := bind_some z
  obtain ⟨z', e4, z⟩ := Option.map_eq_some_iff.mp z
  subst z
  refine one sim e1 fun v H1 F s1 n1 d1 p1 => ⟨N, H0, ρ, L, W, l, sim.same s1, e2, fun H2 s2 => ⟨N, H0, ρ, L, W, h, (sim.same s1).same s2, e3, fun H3 s3 => ?_⟩⟩
  have hF : ∀ a ∈ F, N a ∧ a ∉ W := fun a m => ⟨sim.nw a (n1 a m), fun w => sim.th a w (n1 a m)⟩
  have s23 := s2.trans s3
  have s13 := s1.trans s23
  have r := (p1.same s23).give (S' := SR N W x.al x.vw) (fun a z => z.1) fun a m => ⟨.new (hF a m).1, fun _ => (hF a m).2⟩
  have fin : Made X.K (SR N W x.al x.vw) H3 z' Q := fun u H4 G s4 n4 d4 p4 => q.res (s13.trans s4) (fun a m => s13.free (n4 a m)) d4 (fun a z => z) p4
  unfold cutD at e4
  split at e4
  · rename_i ds hd
    cases e4
    rw [hd] at r
    obtain ⟨a, vs, rfl, h1, _, h3⟩ := r.lst_shr
    exact .inl ⟨a, vs, rfl, SqL.of h1, fun p np => fin.lst (h3.cut l h) p np⟩
  · rename_i ds hd
    cases e4
    rw [hd] at r
    obtain ⟨a, vs, rfl, h1, h3, _⟩ := r.fl_inv
    exact .inl ⟨a, vs, rfl, h1.sq, fun p np => fin.lst (h3.cut l h) p np⟩
  · rename_i ds hd
    split at e4
    · cases e4
    · rename_i hno
      cases e4
      rw [hd] at r
      obtain ⟨a, vs, rfl, h1, h3⟩ := r.tup_inv
      refine .inr ⟨a, vs, rfl, SqT.of h1, by rw [h3.len]; exact hno, fun p np => fin _ _ [] (same_upd np) (fun _ z => nomatch z) .nil (.tup upd_same (((h3.cut l h).same (same_upd np)).mono fun a z => ⟨z, fun m => nomatch m⟩))⟩
  · cases e4
def eRev (fe : EvE) : EvE := fun ρ => (fe ρ).bind fun x => (seqOf x.d).map fun ds => res x.al x.vw (.lst ds.reverse, .top)
theorem Rps.rev {K : PySem.W.Frag} {S : Addr → Prop} {H : Hp} : ∀ {vs : List V} {ds : List D} {F : List Addr}, Rps K S H .shr vs ds F → Rps K S H .shr vs.reverse ds.reverse []
  | _, _, _, .nil => .nil
  | _, _, _, .cons h1 h2 => by
    have e1 := h1.shr0
    subst e1
    rw [List.reverse_cons, List.reverse_cons]
    exact Rps.app (F := []) (G := []) (Rps.rev h2) (Rps.cons (F := []) (G := []) h1 .nil)
theorem e_rev {k : Nat} {p1 p2 p3 : Pos} (he : PEv X e fe) : PEv X (.Subscript e (.Slice none none (some (.UnaryOp .USub (.Constant (.int 1) k p1) p2)) p3) pos) (eRev fe) := by
  refine imp_e (pe_revL he) fun σ H Q ⟨N, H0, ρ, L, W, rr, sim, z, q⟩ => ?_
  unfold eRev at z
  obtain ⟨x, e1, z⟩ := bind_some z
  obtain ⟨ds, e2, z⟩ := Option.map_eq_some_iff.mp z
  subst z
  refine one sim e1 fun v H1 F s1 n1 d1 p1 => ?_
  have hF : ∀ a ∈ F, N a ∧ a ∉ W := fun a m => ⟨sim.nw a (n1 a m), fun w => sim.th a w (n1 a m)⟩
  have r := p1.give (S' := SR N W x.al x.vw) (fun a z => z.1) fun a m => ⟨.new (hF a m).1, fun _ => (hF a m).2⟩
  obtain ⟨a, vs, rfl, h1, h2⟩ := seq_rp r e2
  have fin : Made X.K (SR N W x.al x.vw) H1 (.lst ds.reverse, .top) Q := fun u H4 G s4 n4 d4 p4 => q.res (s1.trans s4) (fun a m => s1.free (n4 a m)) d4 (fun a z => z) p4
  exact ⟨a, vs, rfl, h1, fun p np => fin.lst h2.rev p np⟩
def eCat (fa fb : EvE) : EvE := fun ρ => (fa ρ).bind fun x => (fb ρ).bind fun y => match x.d, y.d with
  | .lst xs, .lst ys => if xs.length + ys.length ≤ 1000000 then some (res (x.al || y.al) (x.vw || y.vw) (.lst (xs ++ ys), .top)) else none
  | _, _ => none
def ePlus (fa fb : EvE) : EvE := fun ρ => (eAdd fa fb ρ).or (eCat fa fb ρ)
theorem mil {n : Nat} (h : n ≤ 1000000) : n ≤ sizeLine := Nat.le_trans h (by rw [sizeLine_eq]; decide)
theorem e_plus (ha : PEv X e fa) (hb : PEv X e2 fb) : PEv X (.BinOp e .Add e2 pos) (ePlus fa fb) := by
  refine imp_e (pe_op (op_add.or op_cat) ha hb) fun σ H Q ⟨N, H0, ρ, L, W, rr, sim, z, q⟩ => ?_
  unfold ePlus at z
  cases h1 : eAdd fa fb ρ with
  | some k =>
    rw [h1] at z
    cases z
    obtain ⟨x, y, i, j, e1, e2, d1, d2, hc, rfl⟩ := eOp_some h1
    refine two sim e1 e2 fun v w H2 F G s _ _ _ _ _ p1 p2 => ?_
    rw [d1] at p1
    rw [d2] at p2
    obtain ⟨rfl, _⟩ := p1.int_inv
    obtain ⟨rfl, _⟩ := p2.int_inv
    exact .inl ⟨i, j, rfl, rfl, q.int s⟩
  | none =>
    rw [h1] at z
    have z : eCat fa fb ρ = some rr := z
    unfold eCat at z
    obtain ⟨x, e1, z⟩ := bind_some z
    obtain ⟨y, e2, z⟩ := bind_some z
    split at z
    · rename_i xs ys hx hy
      split at z
      · rename_i hl
        cases z
        refine two sim e1 e2 fun v w H2 F G s n1 n2 _ _ _ p1 p2 => ?_
        have hF : ∀ a ∈ F, N a ∧ a ∉ W := fun a m => ⟨sim.nw a (n1 a m), fun w => sim.th a w (n1 a m)⟩
        have hG : ∀ a ∈ G, N a ∧ a ∉ W := fun a m => ⟨sim.nw a (n2 a m), fun w => sim.th a w (n2 a m)⟩
        have r1 := p1.give (S' := SR N W (x.al || y.al) (x.vw || y.vw)) (fun a z => ⟨z.1.1.up (fun e => by simp [e]), fun e => z.1.2 (by simp at e; exact e.1)⟩) fun a m => ⟨.new (hF a m).1, fun _ => (hF a m).2⟩
        have r2 := p2.give (S' := SR N W (x.al || y.al) (x.vw || y.vw)) (fun a z => ⟨z.1.1.up (fun e => by simp [e]), fun e m => z.1.2 (by simp at e; exact e.2) (List.mem_append_left _ m)⟩) fun a m => ⟨.new (hG a m).1, fun _ => (hG a m).2⟩
        rw [hx] at r1
        rw [hy] at r2
        obtain ⟨a, vs, rfl, h1, _, h3⟩ := r1.lst_shr
        obtain ⟨b, us, rfl, h4, _, h6⟩ := r2.lst_shr
        have fin : Made X.K (SR N W (x.al || y.al) (x.vw || y.vw)) H2 (.lst (xs ++ ys), .top) Q := fun u H4 G s4 n4 d4 p4 => q.res (s.trans s4) (fun a m => s.free (n4 a m)) d4 (fun a z => z) p4
        exact .inr ⟨a, b, vs, us, rfl, rfl, h1, h4, mil (by rw [h3.len, h6.len]; exact hl), fun p np => fin.lst (h3.app h6) p np⟩
      · cases z
    · cases z
theorem Rps.at_ {K : PySem.W.Frag} {S : Addr → Prop} {H : Hp} {vs : List V} {ds : List D} {i : Nat} {d : D} (r : Rps K S H .shr vs ds []) (h : ds[i]? = some d) : ∃ v, vs[i]? = some v ∧ Rp K S H .shr v d [] := by
  obtain ⟨v, G, e, rp, sub⟩ := r.get h
  have hG : G = [] := rp.shr0
  subst hG
  exact ⟨v, e, rp⟩
end
section
variable {K : PySem.W.Frag} {N : Nw} {H0 H H1 : Hp} {ρ : Env} {σ : St} {L : List Addr}
theorem Sim.mut {i : Nat} {s : Sv} (sim : Sim K N H0 ρ σ H L) (e : ρ[i]? = some (some s)) :
    ∃ v G, σ[i]? = some (some v) ∧ Rp K (SR N L s.al false) H s.l v s.d G ∧ G.Nodup ∧ (∀ b ∈ G, b ∈ L) ∧
      ∀ {H1 : Hp} {a : Addr} {o : HO} {s' : Sv} {G' T : List Addr}, Same H H1 → a ∈ G → Mut (some o) → (∀ b ∈ T, H b = none ∧ Mut (upd H1 a o b)) → (∀ b ∈ G', b ∈ G ∨ b ∈ T) → G'.Nodup → (s'.pn = s.pn ∨ s'.pn = none) →
        Rp K (fun b => AlN N s'.al b ∧ (b ∉ L ∨ b ∈ G) ∧ b ∉ T ∧ b ∉ G' ) (upd H1 a o) s'.l v s'.d G' →
        ∃ L', Sim K N H0 (ρ.set i (some s')) σ (upd H1 a o) L' ∧ Frm H L (upd H1 a o) L' := by
  obtain ⟨F1, G, F2, eL, get, p⟩ := sim.sl.at_ (List.getElem?_eq_some_iff.mp e).1
  obtain ⟨v, ev, hpn, rp⟩ := get s e
  have hnd := sim.nd
  rw [eL] at hnd
  have hG : ∀ b ∈ G, b ∈ L := fun b z => by rw [eL]; simp [z]
  have hnd' := hnd
  rw [List.nodup_append, List.nodup_append] at hnd
  obtain ⟨n1, ⟨n2, n3, n4⟩, n5⟩ := hnd
  have out : ∀ b ∈ G, b ∉ F1 ++ F2 := fun b hb z => by
    rcases List.mem_append.mp z with z | z
    · exact n5 b z b (by simp [hb]) rfl
    · exact n4 b hb b z rfl
  refine ⟨v, G, ev, rp, n2, hG, fun {H1 a o s' G' T} sm ha m hT hG' nG' hp' rp' => ?_⟩
  have hp2 : ∀ k, s'.pn = some k → v = .ref (N.p k) := fun k z => hp'.elim (fun y => hpn k (y ▸ z)) fun y => by rw [y] at z; cases z
  have haL := hG a ha
  have tr : H a ≠ none := sim.th a haL
  have sub : ∀ b, b ∈ F1 ++ (G' ++ F2) → b ∈ L ∨ H b = none := fun b z => by
    rw [eL]
    rcases List.mem_append.mp z with z | z
    · simp [z]
    · rcases List.mem_append.mp z with z | z
      · exact (hG' b z).elim (fun y => by simp [y]) fun y => .inr (hT b y).1
      · simp [z]
  have neq : ∀ b, b ∉ L → b ≠ a := fun b z y => z (y ▸ haL)
  have kp : ∀ al, Keeps (SR N L al false) (F1 ++ F2) H (upd H1 a o) := fun al b u eb nt q => by
    have : b ≠ a := fun y => by
      subst y
      rcases q with q | q | ⟨xs, rfl⟩ | ⟨o', u', rfl⟩
      · exact q.2 rfl haL
      · exact out b ha q
      · have := sim.mu b haL; rw [eb] at this; exact this
      · have := sim.mu b haL; rw [eb] at this; exact this
    rw [upd_ne this]
    exact sm.k b u eb nt
  have z := p (L1 := F1 ++ (G' ++ F2)) (H1 := upd H1 a o) (v := v) (s := s') (G' := G') kp (fun b z t w => (sub b w).elim z t) hp2 (rp'.mono fun b z => ⟨z.1, fun _ w => by
    rcases List.mem_append.mp w with w | w
    · rcases z.2.1 with y | y
      · exact y (by rw [eL]; simp [w])
      · exact out b y (by simp [w])
    · rcases List.mem_append.mp w with w | w
      · exact z.2.2.2 w
      · rcases z.2.1 with y | y
        · exact y (by rw [eL]; simp [w])
        · exact out b y (by simp [w])⟩)
  have eσ : σ.set i (some v) = σ := by
    obtain ⟨h1, h2⟩ := List.getElem?_eq_some_iff.mp ev
    rw [← h2, List.set_getElem_self]
  rw [eσ] at z
  refine ⟨F1 ++ (G' ++ F2), ⟨?_, fun b eb => ?_, ?_, fun b w => ?_, fun b w => ?_, z⟩, ⟨fun b u eb n nt => ?_, fun b eb => ?_, sub⟩⟩
  · obtain ⟨o0, e0, ne⟩ := rp.own_ne a ha
    exact (sim.kp.same sm).upd (sim.ln a haL) (sm.k a o0 e0 (ne_nt ne)) ne
  · by_cases y : b = a
    · rw [y]; exact sim.ln a haL
    · rw [upd_ne y] at eb; exact sim.nw b (sm.free eb)
  · rw [List.nodup_append, List.nodup_append]
    have inL : ∀ b, b ∈ F1 ∨ b ∈ F2 → H b ≠ none := fun b z => sim.th b (by rw [eL]; rcases z with z | z <;> simp [z])
    refine ⟨n1, ⟨nG', n3, fun b hb c hc y => ?_⟩, fun b hb c hc y => ?_⟩
    · subst y
      exact (hG' b hb).elim (fun y => out b y (by simp [hc])) fun y => inL b (.inr hc) (hT b y).1
    · subst y
      rcases List.mem_append.mp hc with hc | hc
      · exact (hG' b hc).elim (fun y => out b y (by simp [hb])) fun y => inL b (.inl hb) (hT b y).1
      · exact n5 b hb b (by simp [hc]) rfl
  · exact (sub b w).elim (sim.ln b) (sim.nw b)
  · by_cases y : b = a
    · rw [y, upd_same]; exact m
    · rw [upd_ne y]
      rcases List.mem_append.mp w with w | w
      · exact mut_same (sim.mu b (by rw [eL]; simp [w])) sm
      · rcases List.mem_append.mp w with w | w
        · rcases hG' b w with w | w
          · exact mut_same (sim.mu b (hG b w)) sm
          · have := (hT b w).2
            rw [upd_ne y] at this
            exact this
        · exact mut_same (sim.mu b (by rw [eL]; simp [w])) sm
  · rw [upd_ne (neq b n)]; exact sm.k b u eb nt
  · by_cases y : b = a
    · rw [y, upd_same] at eb; cases eb
    · rw [upd_ne y] at eb; exact .inl (sm.free eb)
end
end Ev
set_option Elab.async false
set_option linter.all false
set_option maxRecDepth 100000
namespace Ev
open PySem PySem.Spec L2
open PyProof.Rows hiding St
def keepLv (l l' : Lv) : Lv := if l = .full ∧ l' = .full then .full else .top
section
variable {K : PySem.W.Frag} {N : Nw} {H0 H H1 : Hp} {ρ : Env} {σ : St} {L : List Addr}
theorem Sim.relist {i : Nat} {sl : Lv} {sa : Bool} {sp : Option Nat} {ds : List D} (sim : Sim K N H0 ρ σ H L) (e : ρ[i]? = some (some ⟨.lst ds, sl, sa, sp⟩)) (hl : sl ≠ .shr) :
    ∃ a vs, σ[i]? = some (some (.ref a)) ∧ H a = some (.lst vs) ∧ vs.length = ds.length ∧
      ∀ {H1 : Hp} {us : List V} {rs : List Rv} {T : List Addr} {ws : List V} {es : List D} (pick : ∀ {S : Addr → Prop} {l : Lv} {F G : List Addr}, Rps K S H1 l vs ds F → Rps K S H1 l us (rs.map (·.d)) G → (F ++ G).Nodup → ∃ F', Rps K S H1 l ws es F' ∧ (∀ b ∈ F', b ∈ F ++ G) ∧ F'.Nodup),
        Same H H1 → (∀ b ∈ T, H b = none) → T.Nodup → RpL K N L T H1 us rs T → rs.all (fun r => !r.vw) = true →
        ∃ L', Sim K N H0 (ρ.set i (some ⟨.lst es, keepLv sl (if rs.all (fun r => !r.vw && decide (r.l = .full)) = true then .full else .top), sa || rs.any (·.al), sp⟩)) σ (upd H1 a (.lst ws)) L' ∧ Frm H L (upd H1 a (.lst ws)) L' := by
  obtain ⟨v, G, ev, rp, nG, hG, go⟩ := sim.mut e
  cases rp with
  | nd1 h0 hn ha r =>
    rename_i a o vs ds' F
    cases hn
    refine ⟨a, _, ev, ha, r.len, fun {H1 us rs T ws es} pick sm nT dT rl hvw => ?_⟩
    have hN : ∀ b ∈ a :: F, N b := fun b z => sim.ln b (hG b z)
    have aT : a ∉ T := fun z => by have := nT a z; rw [ha] at this; cases this
    have nFd := List.nodup_cons.mp nG
    have Tout : ∀ b ∈ T, b ∉ L := fun b z w => sim.th b w (nT b z)
    have trT : ∀ b ∈ T, Mut (H1 b) := by
      have : ∀ {vs : List V} {rs : List Rv} {F : List Addr}, RpL K N L T H1 vs rs F → ∀ a ∈ F, Mut (H1 a) := by
        intro vs rs F h
        induction h with
        | nil => exact fun _ z => nomatch z
        | cons h1 h2 ih => exact fun a z => (List.mem_append.mp z).elim (h1.own_mut a) (ih a)
      exact this rl
    have updH : ∀ {S : Addr → Prop} {l : Lv} {ws : List V} {es : List D} {F' : List Addr}, Rps K S H1 l ws es F' → (∀ b, S b → b ≠ a) → a ∉ F' → Rps K S (upd H1 a (.lst ws)) l ws es F' := fun r hS hF => r.keep fun b u eb _ q => by
      have : b ≠ a := fun y => by
        subst y
        have e1 := sm.k _ _ ha trivial
        rcases q with q | q | ⟨xs, rfl⟩ | ⟨o', u', rfl⟩
        · exact hS _ q rfl
        · exact hF q
        · rw [e1] at eb; cases eb
        · rw [e1] at eb; cases eb
      rw [upd_ne this]
      exact eb
    by_cases hk : sl = .full ∧ rs.all (fun r => !r.vw && decide (r.l = .full)) = true
    · have hk2 : keepLv sl (if rs.all (fun r => !r.vw && decide (r.l = .full)) = true then .full else .top) = .full := by
        unfold keepLv
        rw [if_pos ⟨hk.1, if_pos hk.2⟩]
      rw [hk2]
      rw [hk.1] at r
      have r1 : Rps K (fun b => AlN N (sa || rs.any (·.al)) b ∧ (b ∉ L ∨ b ∈ a :: F) ∧ b ∉ T ∧ b ∉ a :: F) H1 .full _ ds F := ((r.trk.same sm).mono fun b z => ⟨z.1.1.up (fun e => by have e : sa = true := e; rw [e]; rfl), .inl (z.1.2 rfl), fun w => z.2 (nT b w), fun w => z.1.2 rfl (hG b w)⟩)
      have r2 : Rps K (fun b => AlN N (sa || rs.any (·.al)) b ∧ (b ∉ L ∨ b ∈ a :: F) ∧ b ∉ T ∧ b ∉ a :: F) H1 .full us (rs.map (·.d)) T := (rl.full (al := rs.any (·.al)) hk.2 al_any).mono fun b z => ⟨z.1.1.up (fun e => by rw [e]; cases sa <;> rfl), .inl (z.1.2 rfl), z.2, fun w => z.1.2 rfl (hG b w)⟩
      have dFT : (F ++ T).Nodup := by
        rw [List.nodup_append]
        exact ⟨nFd.2, dT, fun b hb c hc y => Tout c hc (y ▸ hG b (List.mem_cons_of_mem _ hb))⟩
      obtain ⟨F', r3, sub, nF'⟩ := pick r1 r2 dFT
      have aF' : a ∉ F' := fun z => (List.mem_append.mp (sub a z)).elim nFd.1 aT
      exact go (s' := ⟨_, _, _, sp⟩) (G' := a :: F') (T := T) sm List.mem_cons_self trivial (fun b z => ⟨nT b z, by rw [upd_ne (fun y => aT (by rw [← y]; exact z))]; exact trT b z⟩) (fun b z => (List.mem_cons.mp z).elim (fun y => .inl (by rw [y]; exact List.mem_cons_self)) fun z => (List.mem_append.mp (sub b z)).imp (List.mem_cons_of_mem _) id) (List.nodup_cons.mpr ⟨aF', nF'⟩) (.inl rfl)
        (.nd1 (fun z => nomatch z) .lst upd_same ((updH r3 (fun b z y => z.2.2.2 (by rw [y]; exact List.mem_cons_self)) aF').mono fun b z => ⟨z.1, z.2.1, z.2.2.1, fun w => (List.mem_cons.mp w).elim (fun y => z.2.2.2 (by rw [y]; exact List.mem_cons_self)) fun w => (List.mem_append.mp (sub b w)).elim (fun w => z.2.2.2 (List.mem_cons_of_mem _ w)) z.2.2.1⟩))
    · have hk2 : keepLv sl (if rs.all (fun r => !r.vw && decide (r.l = .full)) = true then .full else .top) = .top := by
        unfold keepLv
        refine if_neg fun z => hk ⟨z.1, ?_⟩
        by_cases q : rs.all (fun r => !r.vw && decide (r.l = .full)) = true
        · exact q
        · rw [if_neg q] at z; exact absurd z.2 (fun z => nomatch z)
      rw [hk2]
      have r1 : Rps K (fun b => AlN N (sa || rs.any (·.al)) b ∧ (b ∉ L ∨ b ∈ a :: F) ∧ b ≠ a) H1 .shr _ ds [] := (r.trk.same sm).give (fun b z => ⟨z.1.1.up (fun e => by have e : sa = true := e; rw [e]; rfl), .inl (z.1.2 rfl), fun y => z.1.2 rfl (by rw [y]; exact hG a List.mem_cons_self)⟩) fun b z => ⟨.new (hN b (List.mem_cons_of_mem _ z)), .inr (List.mem_cons_of_mem _ z), fun y => nFd.1 (y ▸ z)⟩
      have r2 : Rps K (fun b => AlN N (sa || rs.any (·.al)) b ∧ (b ∉ L ∨ b ∈ a :: F) ∧ b ≠ a) H1 .shr us (rs.map (·.d)) [] := (rl.give (al := rs.any (·.al)) (fun b z => ⟨sim.nw b (nT b z), Tout b z⟩) (fun _ z => z) hvw al_any).mono fun b z => ⟨z.1.up (fun e => by rw [e]; cases sa <;> rfl), .inl (z.2 rfl), fun y => z.2 rfl (by rw [y]; exact hG a List.mem_cons_self)⟩
      obtain ⟨F', r3, sub, nF'⟩ := pick r1 r2 .nil
      have e3 := r3.shr0
      subst e3
      exact go (s' := ⟨_, _, _, sp⟩) (G' := [a]) (T := []) sm List.mem_cons_self trivial (fun _ z => nomatch z) (fun b z => .inl (by rw [List.mem_singleton.mp z]; exact List.mem_cons_self)) nodup1 (.inl rfl)
        (.nd1 (fun z => nomatch z) .lst upd_same ((updH r3 (fun b z y => z.2.2 y) (fun z => nomatch z)).mono fun b z => ⟨z.1, z.2.1, (fun w => nomatch w), fun w => z.2.2 (List.mem_singleton.mp w)⟩))
  | nd0 hn h1 h2 h3 => exact absurd rfl hl
end
abbrev LOp := ∀ {α : Type}, (α → Option Int) → List α → List α → Option (List α)
def sLop (f : LOp) (fz : List Nat) (i : Nat) (ga : EvA) : EvS := fun ρ => match (frzs fz ρ)[i]? with
  | some (some s) => match s.d with
    | .lst ds => if decide (s.l = .shr) || decide (1000000 < ds.length) then none else (ga (frzs fz ρ)).bind fun rs => if rs.all (fun r => !r.vw) = true then (f intOf ds (rs.map (·.d))).map fun es => .nx ((frzs fz ρ).set i (some ⟨.lst es, keepLv s.l (if rs.all (fun r => !r.vw && decide (r.l = .full)) = true then .full else .top), s.al || rs.any (·.al), s.pn⟩)) else none
    | _ => none
  | _ => none
def intV : V → Option Int
  | .int i => some i
  | _ => none
structure LopOk (X : Cx) (id : String) (f : LOp) : Prop where
  ok : ∃ r : V → List V → Hp → VK → Prop, MtR X id r ∧ ∀ (H : Hp) (a : Addr) (vs us ws : List V) (Q : VK), H a = some (.lst vs) → vs.length ≤ 1000000 → f intV vs us = some ws → Q .non (upd H a (.lst ws)) → r (.ref a) us H Q
  pick : ∀ {K : PySem.W.Frag} {S : Addr → Prop} {H : Hp} {l : Lv} {vs us : List V} {ds es zs : List D} {F G : List Addr}, Rps K S H l vs ds F → Rps K S H l us es G → (F ++ G).Nodup → f intOf ds es = some zs → ∃ ws F', f intV vs us = some ws ∧ Rps K S H l ws zs F' ∧ (∀ b ∈ F', b ∈ F ++ G) ∧ F'.Nodup
section
variable {X : Cx} {e o : Expr} {es : List Expr} {ga : EvA} {fe fa fb : EvE} {pos apos cpos npos : Pos} {x m : Str} {id : String} {f : LOp}
theorem s_lop (fz : List Nat) (i : Nat) (hf : LopOk X id f) (slot : Slot "list" m id) (hty : typeOf (.builtin id) = pure (.type "method_descriptor")) (ha : PAv X (e :: es) ga)
    (hN : X.N[i]? = some x := by rfl) (hv : Vis X.env.scope x := by first | exact Or.inl rfl | exact Or.inr (Or.inl rfl) | exact Or.inr (Or.inr rfl)) (hd : (x == ("__debug__" : Str)) = false := by decide) (hcd : (x == ("__classdict__" : Str)) = false := by decide)
    (hsw : swapsWith (.Call (.Attribute (.Name x npos) m apos) (e :: es) [] cpos) none pos.line X.env = pure false := by rfl)
    (hbase : attributeBase (.Name x npos) m X.env (eval (.Name x npos) X.env) = eval (.Name x npos) X.env := by rfl)
    (hfew : ((backTo cpos (starEach (e :: es) X.env)).all (fun x => !x.1) && (backToKw cpos (keywordEach [] X.env)).all (fun x => x.1.isSome)
      && decide ((e :: es).length + ([] : List Keyword).length + (if ([] : List Keyword).isEmpty then 0 else 1) < 30)) = true := by rfl)
    (hline : (apos.endLine == cpos.line) = true := by rfl) (hs : starEach (e :: es) X.env = (false, eval e X.env) :: starEach es X.env := by rfl) (hplain : (backTo cpos (starEach es X.env)).any (·.1) = false := by rfl) :
    PSv X (.Expr (.Call (.Attribute (.Name x npos) m apos) (e :: es) [] cpos) pos) (sLop f fz i ga) := by
  obtain ⟨r, hm, hr⟩ := hf.ok
  refine imp_s (ps_expr (pe_bm PySem.F.plainAttrs_list slot hty hm (pe_var hN hv hd hcd) ha hbase hfew hline hs hplain) hsw) fun D σ H ⟨N, H0, ρ, L0, o, sim0, z, q0⟩ => ?_
  unfold sLop at z
  obtain ⟨L, sim, subL⟩ := sim0.frzs fz
  have q := q0.at_ (H1 := H) (L1 := L) ⟨fun _ _ e _ _ => e, fun _ e => .inl e, fun b z => .inl (subL b z)⟩
  split at z
  · rename_i s es
    split at z
    · rename_i ds hd
      split at z
      · cases z
      · rename_i hc
        obtain ⟨sd, sl, sa, sp⟩ := s
        cases hd
        simp only [Bool.or_eq_true, decide_eq_true_eq, not_or, Nat.not_lt] at hc
        obtain ⟨rs, e1, z⟩ := bind_some z
        split at z
        · rename_i hvw
          obtain ⟨zs, e2, z⟩ := Option.map_eq_some_iff.mp z
          subst z
          obtain ⟨a, vs, ev, ha', hlen, go⟩ := sim.relist es hc.1
          refine ⟨.ref a, ev, .inl ⟨rfl, vs, SqL.of ha'⟩, N, H0, _, L, L, rs, sim.h, e1, fun us H1 T s1 n1 d1 p1 => ?_⟩
          obtain ⟨v, G, ev', rp, _⟩ := sim.sl.get es
          rw [ev] at ev'
          cases ev'
          obtain ⟨a', vs', G1, e3, h1, r1, _⟩ := rp.lst_inv
          cases e3
          rw [ha'] at h1
          cases h1
          have look1 := (r1.same s1).give (S' := fun _ => True) (fun _ _ => trivial) fun _ _ => trivial
          obtain ⟨ws, _, ew, _⟩ := hf.pick look1 p1.look .nil e2
          refine hr H1 a _ us ws _ (s1.k a _ ha' trivial) (by rw [hlen]; exact hc.2) ew ?_
          obtain ⟨L', sim', fr⟩ := go (ws := ws) (es := zs) (fun q1 q2 q3 => by
            obtain ⟨ws', F', e4, r4, sub, nd⟩ := hf.pick q1 q2 q3 e2
            rw [ew] at e4
            cases e4
            exact ⟨F', r4, sub, nd⟩) s1 n1 d1 p1 hvw
          exact q _ _ L' sim' fr
        · cases z
    · cases z
  · cases z
def oApp : LOp := fun _ xs ys => match ys with
  | [y] => some (xs ++ [y])
  | _ => none
theorem l_app : LopOk X "list.append" oApp where
  ok := ⟨_, mt_append, fun H a vs us ws Q h1 h2 h3 q => by
    unfold oApp at h3
    split at h3
    · cases h3
      exact ⟨a, vs, _, rfl, rfl, h1, Nat.lt_of_le_of_lt h2 (by rw [sizeLine_eq]; decide), q⟩
    · cases h3⟩
  pick := fun {K S H l vs us ds es zs F G} r1 r2 nd e => by
    unfold oApp at e
    split at e
    · rename_i y
      cases e
      cases r2 with
      | cons h1 h2 =>
        cases h2
        exact ⟨_, _, rfl, r1.app (.cons h1 .nil), fun _ z => z, nd⟩
    · cases e
end
end Ev
set_option Elab.async false
set_option linter.all false
set_option maxRecDepth 100000
namespace Ev
open PySem PySem.Spec L2
open PyProof.Rows hiding St
structure Blts (mg : Str → Option Value) : Prop where
  len : mg "len" = none
  min : mg "min" = none
  max : mg "max" = none
  sum : mg "sum" = none
  sorted : mg "sorted" = none
  list : mg "list" = none
  range : mg "range" = none
  zip : mg "zip" = none
  enumerate : mg "enumerate" = none
  abs : mg "abs" = none
  int : mg "int" = none
  isinstance : mg "isinstance" = none
  bool : mg "bool" = none
  tuple : mg "tuple" = none
  str : mg "str" = none
  set : mg "set" = none
  all : mg "all" = none
  any : mg "any" = none
  reversed : mg "reversed" = none
  dict : mg "dict" = none
theorem bt_bool : bootBuiltins "bool" = some (.type "bool") := by decide +kernel
section
variable {X : Cx} {e e2 : Expr} {fe fa fb : EvE} {pos pos' : Pos} {x : Str}
theorem x_eq (hu : X.A.units + 65 < cLine) : CmpOk X .Eq gEq := c_eq (by omega)
theorem x_ne (hu : X.A.units + 65 < cLine) : CmpOk X .NotEq gNe := c_ne (by omega)
theorem x_lt (hu : X.A.units + 65 < cLine) : CmpOk X .Lt gLt := c_lt (by omega)
theorem x_ge (hu : X.A.units + 65 < cLine) : CmpOk X .GtE gGe := c_ge (by omega)
theorem x_gt (hu : X.A.units + 65 < cLine) : CmpOk X .Gt gGt := c_gt
theorem x_is (hu : X.A.units + 65 < cLine) : CmpOk X .Is gIs := c_is
theorem x_isnot (hu : X.A.units + 65 < cLine) : CmpOk X .IsNot gIsNot := c_isnot
theorem x_in (hu : X.A.units + 65 < cLine) : CmpOk X .In gIn := c_in hu
theorem x_nin (hu : X.A.units + 65 < cLine) : CmpOk X .NotIn gNin := c_nin hu
theorem x_ix (hu : X.A.units + 65 < cLine) (ha : PEv X e fa) (hb : PEv X e2 fb) (hs : PlainIx e2 := by exact fun _ _ => rfl) : PEv X (.Subscript e e2 pos) (eIx fa fb) := e_ix (by omega) ha hb hs
end
def eDk : EvE := fun _ => some ⟨.dk [], .full, false, false⟩
def eDt : EvE := fun _ => some ⟨.dt [], .full, false, false⟩
theorem len1 {f : EvE} : ∀ ρ rs, aCons f aNil ρ = some rs → rs.length = 1 := aCons_len fun _ _ h => aNil_len h
theorem len2 {f g : EvE} : ∀ ρ rs, aCons f (aCons g aNil) ρ = some rs → rs.length = 2 := aCons_len len1
theorem len3 {f g h : EvE} : ∀ ρ rs, aCons f (aCons g (aCons h aNil)) ρ = some rs → rs.length = 3 := aCons_len len2
theorem len4 {f g h i : EvE} : ∀ ρ rs, aCons f (aCons g (aCons h (aCons i aNil))) ρ = some rs → rs.length = 4 := aCons_len len3
theorem hu_room {k : Nat} {A : Around} (hr : Room k A) : A.units + 65 < cLine := by have := hr.un; omega
theorem fnD_of {P : Program} {w : World} {K : PySem.W.Frag} {mg : Str → Option Value} {base : Heap} {k n : Nat} {x : Str} {φ : List D → Option RetD} {f : Addr} {fd : FuncData} {ps : List Str} (F : FnOk P w K mg base CX0 k f fd ps (spD K n φ)) (hm : mg x = some (.ref f)) (hk : PySem.W.keepIn K (.ref f) = true) (hb : Binds K fd ps []) : FnD P w K mg base k x n φ := ⟨f, fd, ps, F, hm, hk, hb⟩
end Ev
set_option Elab.async false
set_option linter.all false
set_option maxRecDepth 100000
namespace Ev
open PySem PySem.Spec L2
open PyProof.Rows hiding St
end Ev
set_option Elab.async false
set_option linter.all false
set_option maxRecDepth 100000
namespace Ev
open PySem PySem.Spec L2
open PyProof.Rows hiding St
section
variable {X : Cx} {st : Stmt} {f : EvS}
def sFz (z : List Nat) (f : EvS) : EvS := fun ρ => f (frzs z ρ)
theorem s_fz (z : List Nat) (h : PSv X st f) : PSv X st (sFz z f) := imp_s h fun D σ H ⟨N, H0, ρ, L, o, sim, e, q⟩ => by
  obtain ⟨L1, sim1, sub⟩ := sim.frzs z
  exact ⟨N, H0, frzs z ρ, L1, o, sim1, e, q.at_ (Frm.same (Same.refl H) fun b w => .inl (sub b w))⟩
end
end Ev
set_option Elab.async false
set_option linter.all false
set_option maxRecDepth 100000
namespace Ev
open PySem PySem.Spec L2
open PyProof.Rows hiding St
def dInts (ns : List Int) : List D := ns.map .int
@[simp] theorem map_int (ns : List Int) : ns.map D.int = dInts ns := rfl
def dPair (p : Int × Int) : D := .tup [.int p.1, .int p.2]
@[simp] theorem dInts_nil : dInts [] = [] := rfl
@[simp] theorem dInts_cons (n : Int) (ns : List Int) : dInts (n :: ns) = .int n :: dInts ns := rfl
@[simp] theorem dInts_len (ns : List Int) : (dInts ns).length = ns.length := List.length_map _
@[simp] theorem intsOf_d (ns : List Int) : intsOf (dInts ns) = some ns := intsOf_map ns
@[simp] theorem immAll_ints (ns : List Int) : immAll (dInts ns) = true := by
  induction ns with
  | nil => rfl
  | cons n ns ih => rw [dInts_cons, immAll, ih]; rfl
@[simp] theorem shps_ints (k : Nat) (ns : List Int) : shps k (dInts ns) = true := by
  induction ns with
  | nil => rfl
  | cons n ns ih => rw [dInts_cons, shps, ih]; simp [shp]
@[simp] theorem imm_pair (p : Int × Int) : imm (dPair p) = true := rfl
@[simp] theorem immAll_pairs (ps : List (Int × Int)) : immAll (ps.map dPair) = true := by
  induction ps with
  | nil => rfl
  | cons n ns ih => rw [List.map_cons, immAll, ih]; rfl
@[simp] theorem shp_pair (k : Nat) (p : Int × Int) : shp (k + 1) (dPair p) = true := by simp [dPair, shp, shps]
@[simp] theorem shps_pairs (k : Nat) (ps : List (Int × Int)) : shps (k + 1) (ps.map dPair) = true := by
  induction ps with
  | nil => rfl
  | cons n ns ih => rw [List.map_cons, shps, ih, shp_pair]; rfl
@[simp] theorem shps_pairs7 (ps : List (Int × Int)) : shps 7 (ps.map dPair) = true := shps_pairs 6 ps
theorem eqv_ints : ∀ a b : List Int, PyData.eqvAll (pds (dInts a)) (pds (dInts b)) = decide (a = b)
  | [], [] => by simp [pds, PyData.eqvAll]
  | [], _ :: _ => by simp [pds, PyData.eqvAll]
  | _ :: _, [] => by simp [pds, PyData.eqvAll]
  | x :: a, y :: b => by
    simp only [dInts_cons, pds, pd, PyData.eqvAll, PyData.eqv, eqv_ints a b]
    by_cases h : x = y <;> simp [h]
@[simp] theorem deq_int (a b : Int) : deq (.int a) (.int b) = decide (a = b) := by
  unfold deq
  simp only [pd, PyData.eqv]
  by_cases h : a = b <;> simp [h]
@[simp] theorem deq_ints (a b : List Int) : deq (.lst (dInts a)) (.lst (dInts b)) = decide (a = b) := by
  unfold deq
  simp only [pd, PyData.eqv]
  exact eqv_ints a b
@[simp] theorem deq_pair (p q : Int × Int) : deq (dPair p) (dPair q) = decide (p = q) := by
  unfold deq dPair
  simp only [pd, pds, PyData.eqv, PyData.eqvAll]
  obtain ⟨a, b⟩ := p
  obtain ⟨c, d⟩ := q
  by_cases h : a = c <;> by_cases h2 : b = d <;> simp [h, h2]
theorem eqv_pairs : ∀ a b : List (Int × Int), PyData.eqvAll (pds (a.map dPair)) (pds (b.map dPair)) = decide (a = b)
  | [], [] => by simp [pds, PyData.eqvAll]
  | [], _ :: _ => by simp [pds, PyData.eqvAll]
  | _ :: _, [] => by simp [pds, PyData.eqvAll]
  | x :: a, y :: b => by
    have h := deq_pair x y
    unfold deq at h
    simp only [List.map_cons, pds, PyData.eqvAll, eqv_pairs a b, h]
    by_cases h : x = y <;> simp [h]
@[simp] theorem deq_pairs (a b : List (Int × Int)) : deq (.lst (a.map dPair)) (.lst (b.map dPair)) = decide (a = b) := by
  unfold deq
  simp only [pd, PyData.eqv]
  exact eqv_pairs a b
theorem ins_map {α β : Type} (f : α → β) (lt : β → β → Bool) (x : α) : ∀ l : List α, isort.insF lt (f x) (l.map f) = (isort.insF (fun a b => lt (f a) (f b)) x l).map f
  | [] => rfl
  | y :: ys => by
    rw [List.map_cons]
    unfold isort.insF
    by_cases h : lt (f y) (f x) = true
    · rw [if_pos h, if_pos h, ins_map f lt x ys, List.map_cons]
    · rw [if_neg h, if_neg h, List.map_cons, List.map_cons]
theorem isort_map {α β : Type} (f : α → β) (lt : β → β → Bool) : ∀ l : List α, isort lt (l.map f) = (isort (fun a b => lt (f a) (f b)) l).map f
  | [] => rfl
  | x :: l => by
    rw [List.map_cons]
    show isort.insF lt (f x) (isort lt (l.map f)) = _
    rw [isort_map f lt l, ins_map]
    rfl
theorem bSorted_ints (ns : List Int) : bSorted [.lst (dInts ns)] = some (.lst (dInts (sortI ns)), .top) := by
  show (bSortedI [.lst (dInts ns)]).or _ = _
  have : bSortedI [.lst (dInts ns)] = some (.lst (dInts (sortI ns)), .top) := by
    unfold bSortedI
    simp only [seqOf, Option.bind_some, intsOf_d, Option.map_some]
    rfl
  rw [this]
  rfl
@[simp] theorem any_ints (ns : List Int) (a : Int) : ((dInts ns).any fun z => deq z (.int a)) = decide (a ∈ ns) := by
  induction ns with
  | nil => simp
  | cons n ns ih =>
    rw [dInts_cons, List.any_cons, ih, deq_int]
    by_cases h : n = a
    · simp [h]
    · simp [h]; exact fun z => absurd z.symm h
@[simp] theorem any_pairs (ns : List (Int × Int)) (a : Int × Int) : ((ns.map dPair).any fun z => deq z (dPair a)) = decide (a ∈ ns) := by
  induction ns with
  | nil => simp
  | cons n ns ih =>
    rw [List.map_cons, List.any_cons, ih, deq_pair]
    by_cases h : n = a
    · simp [h]
    · simp [h]; exact fun z => absurd z.symm h
end Ev
set_option Elab.async false
set_option linter.all false
set_option maxRecDepth 100000
namespace Ev
open PySem PySem.Spec L2
open PyProof.Rows hiding St
section
variable {K : PySem.W.Frag} {S S' : Addr → Prop} {H : Hp} {l : Lv} {v : V} {F : List Addr}
theorem Rp.ins_inv {C : Addr} {fd : List (Str × D)} (p : Rp K S H l v (.ins C fd) F) : ∃ a dx fv G, v = .ref a ∧ H a = some (.ins C dx fv) ∧ fv.map (·.1) = fd.map (·.1) ∧ Rps K S H (ch l) (fv.map (·.2)) (fd.map (·.2)) G ∧ ∀ b ∈ G, b ∈ F := by
  cases p with
  | nd0 h h1 h2 h3 => cases h with | ins e => exact ⟨_, _, _, _, rfl, h1.ins, e, h3, fun _ z => z⟩
  | nd1 h0 h h1 h2 => cases h with | ins e => exact ⟨_, _, _, _, rfl, h1, e, h2, fun _ z => List.mem_cons_of_mem _ z⟩
theorem fld_rp : ∀ {kv : List (Str × V)} {kd : List (Str × D)} {F : List Addr} {f : Str} {d : D}, kv.map (·.1) = kd.map (·.1) → Rps K S H l (kv.map (·.2)) (kd.map (·.2)) F → kd.lookup f = some d →
    ∃ v G, kv.lookup f = some v ∧ Rp K S H l v d G ∧ ∀ b ∈ G, b ∈ F
  | [], [], _, f, d, _, _, h => by cases h
  | [], _ :: _, _, f, d, e, _, _ => by cases e
  | _ :: _, [], _, f, d, e, _, _ => by cases e
  | p :: kv, p' :: kd, F, f, d, e, r, h => by
    have e1 : p.1 = p'.1 := by have := congrArg List.head? e; simpa using this
    have e2 : kv.map (·.1) = kd.map (·.1) := by have := congrArg List.tail e; simpa using this
    have r : Rps K S H l (p.2 :: kv.map (·.2)) (p'.2 :: kd.map (·.2)) F := r
    obtain ⟨k1, v1⟩ := p
    obtain ⟨k2, d2⟩ := p'
    dsimp only at e1
    subst e1
    cases r with
    | cons h1 h2 =>
      rw [List.lookup_cons] at h ⊢
      cases hk : f == k1 with
      | true =>
        rw [hk] at h
        cases h
        exact ⟨v1, _, rfl, h1, fun _ z => List.mem_append_left _ z⟩
      | false =>
        rw [hk] at h
        obtain ⟨w, G, q1, q2, q3⟩ := fld_rp e2 h2 h
        exact ⟨w, G, q1, q2, fun b z => List.mem_append_right _ (q3 b z)⟩
theorem fld_none : ∀ {kv : List (Str × V)} {kd : List (Str × D)} {f : Str}, kv.map (·.1) = kd.map (·.1) → kd.lookup f = none → kv.lookup f = none
  | [], [], f, _, _ => rfl
  | [], _ :: _, f, e, _ => by cases e
  | _ :: _, [], f, e, _ => by cases e
  | p :: kv, p' :: kd, f, e, h => by
    have e1 : p.1 = p'.1 := by have := congrArg List.head? e; simpa using this
    have e2 : kv.map (·.1) = kd.map (·.1) := by have := congrArg List.tail e; simpa using this
    obtain ⟨k1, v1⟩ := p
    obtain ⟨k2, d2⟩ := p'
    dsimp only at e1
    subst e1
    rw [List.lookup_cons] at h ⊢
    cases hk : f == k1 with
    | true => rw [hk] at h; cases h
    | false =>
      rw [hk] at h
      exact fld_none e2 h
end
def eAt (C : Addr) (f : Str) (fe : EvE) : EvE := fun ρ => (fe ρ).bind fun x => match x.d with
  | .ins C' fd => if C' = C then (fd.lookup f).map (part x) else none
  | _ => none
def eMeth (C : Addr) (m : Str) (φ : List D → Option RetD) (fo : EvE) (ga : EvA) : EvE := fun ρ => (fo ρ).bind fun x => match x.d with
  | .ins C' fd => if C' = C ∧ (fd.lookup m).isNone = true then (ga ρ).bind fun rs => (φ (x.d :: rs.map (·.d))).map (mkR (x.al || rs.any (·.al)) (x.vw || rs.any (·.vw))) else none
  | _ => none
section
variable {X : Cx} {k n : Nat} {C fa : Addr} {f m : Str} {e o : Expr} {es : List Expr} {fe fo : EvE} {ga : EvA} {pos apos : Pos} {fd : FuncData} {ps : List Str} {φ : List D → Option RetD}
theorem e_at (c : Cls X.K C) (n : NoAttr X.K C f) (he : PEv X e fe) (hb : attributeBase e f X.env (eval e X.env) = eval e X.env := by rfl) : PEv X (.Attribute e f pos) (eAt C f fe) := by
  refine imp_e (pe_fld he hb) fun σ H Q ⟨N, H0, ρ, L, W, r, sim, z, q⟩ => ?_
  unfold eAt at z
  obtain ⟨x, e1, z2⟩ := bind_some z
  clear z
  have z := z2
  clear z2
  split at z
  · rename_i C' fd hd
    split at z
    · rename_i hC
      subst hC
      obtain ⟨d, e2, z⟩ := Option.map_eq_some_iff.mp z
      subst z
      refine one sim e1 fun v H1 F s1 n1 d1 p1 => ?_
      have new : ∀ a ∈ F, N a ∧ a ∉ W := fun a m => ⟨sim.nw a (n1 a m), fun w => sim.th a w (n1 a m)⟩
      have p2 := p1
      rw [hd] at p2
      obtain ⟨a, dx, fv, G, rfl, h1, h2, h3, h4⟩ := p2.ins_inv
      obtain ⟨u, G2, e3, rp, sub⟩ := fld_rp h2 h3 e2
      exact ⟨a, C', dx, fv, u, rfl, h1, c, n, e3, part_out q s1 new (fun a z => z.1) rp fun b z => h4 b (sub b z)⟩
    · cases z
  · cases z
theorem e_meth {pl : Sem Bool} (c : Cls X.K C) (hm : Meth X.K C m fa) (F : FnOk X.prog X.w X.K X.mg X.base CX0 k fa fd ps (spD X.K n φ)) (hb : Binds X.K fd ps []) (hr : Room k X.A) (ho : PEv X o fo) (ha : PAv X (e :: es) ga) (hl : ∀ ρ rs, ga ρ = some rs → rs.length + 1 = n)
    (hst : starEach (e :: es) X.env = (false, eval e X.env) :: starEach es X.env := by rfl) (hpl : (backTo pos (starEach es X.env)).any (·.1) = false := by rfl)
    (ht : eval (.Call (.Attribute o m apos) (e :: es) [] pos) X.env = (do
      let ov ← eval o X.env
      standAt apos.atName
      let (f, first) ← holding [ov] (getMethod ov m pl)
      callWith pos f first (backTo pos (starEach (e :: es) X.env)) (backToKw pos (keywordEach [] X.env))) := by rfl) :
    PEv X (.Call (.Attribute o m apos) (e :: es) [] pos) (eMeth C m φ fo ga) := by
  refine imp_e (pe_meth ho c hm F hr hb .nil pass0 ha hst hpl ht) fun σ H Q ⟨N, H0, ρ, L, W, r, sim, z, q⟩ => ?_
  unfold eMeth at z
  obtain ⟨x, e0, z2⟩ := bind_some z
  clear z
  have z := z2
  clear z2
  split at z
  · rename_i C' fds hd
    split at z
    · rename_i hC
      obtain ⟨hC, hno⟩ := hC
      subst hC
      obtain ⟨rs, e1, z2⟩ := bind_some z
      clear z
      obtain ⟨r', e2, z⟩ := Option.map_eq_some_iff.mp z2
      subst z
      refine one sim e0 fun v H1 F s1 n1 d1 p1 => ?_
      have p0 := p1
      rw [hd] at p0
      obtain ⟨a, dx, fv, G, rfl, h1, h2, h3, h4⟩ := p0.ins_inv
      refine ⟨a, dx, fv, rfl, h1, fld_none h2 (Option.isNone_iff_eq_none.mp hno), ?_⟩
      refine ⟨N, H0, ρ, L, W ++ F, rs, sim.hold s1 n1 d1 p1.own_mut, e1, fun vs H2 T s2 n2 d2 p2 => ?_⟩
      show spD X.K n φ (V.ref a :: (vs ++ [])) H2 Q _
      rw [List.append_nil]
      have hF : ∀ a ∈ F, N a ∧ a ∉ W := fun a m => ⟨sim.nw a (n1 a m), fun w => sim.th a w (n1 a m)⟩
      have hT : ∀ a ∈ T, N a ∧ a ∉ W := fun a m => ⟨sim.nw a (s1.free (n2 a m)), fun w => sim.th a w (s1.free (n2 a m))⟩
      have hT2 : ∀ a ∈ T, N a ∧ a ∉ W ++ F := fun a m => ⟨(hT a m).1, fun w => (List.mem_append.mp w).elim (hT a m).2 fun w => by have := p1.own_trk a w; exact this (n2 a m)⟩
      have q1 := p2.give' (al := x.al || rs.any (·.al)) (vw := x.vw || rs.any (·.vw)) hT2 (fun _ m => m) (fun r h e => by rw [any_of (p := fun r : Rv => r.al) r h e, Bool.or_true]) (fun r h e => by rw [any_of (p := fun r : Rv => r.vw) r h e, Bool.or_true])
      refine ⟨by rw [List.length_cons, p2.len]; exact hl ρ rs e1, SR N W (x.al || rs.any (·.al)) (x.vw || rs.any (·.vw)), x.d :: rs.map (·.d), r', Rps.cons (F := []) (G := []) ((p1.same s2).give (fun a z => ⟨z.1.1.up (fun e => by rw [e]; rfl), fun e => z.1.2 (by simp only [Bool.or_eq_false_iff] at e; exact e.1)⟩) fun a m => ⟨.new (hF a m).1, fun _ => (hF a m).2⟩) (q1.mono fun a z => ⟨z.1, fun e w => z.2 e (List.mem_append_left _ w)⟩), e2, ((sim.kp.tb.same s1).same s2), fun u H3 G3 s3 n3 d3 p3 => ?_⟩
      exact q.ret (s1.trans (s2.trans s3)) (fun a z => s1.free (s2.free (n3 a z))) d3 (fun a z => ⟨z.1.imp (fun y => ⟨sim.nw a (s1.free (s2.free y)), fun w => sim.th a w (s1.free (s2.free y))⟩) id, z.2⟩) p3
    · cases z
  · cases z
theorem e_meth0 {pl : Sem Bool} (c : Cls X.K C) (hm : Meth X.K C m fa) (F : FnOk X.prog X.w X.K X.mg X.base CX0 k fa fd ps (spD X.K 1 φ)) (hb : Binds X.K fd ps []) (hr : Room k X.A) (ho : PEv X o fo)
    (ht : eval (.Call (.Attribute o m apos) [] [] pos) X.env = (do
      let ov ← eval o X.env
      standAt apos.atName
      let (f, first) ← holding [ov] (getMethod ov m pl)
      callWith pos f first (backTo pos (starEach [] X.env)) (backToKw pos (keywordEach [] X.env))) := by rfl) :
    PEv X (.Call (.Attribute o m apos) [] [] pos) (eMeth C m φ fo aNil) := by
  refine imp_e (pe_meth0 ho c hm F hr hb .nil pass0 ht) fun σ H Q ⟨N, H0, ρ, L, W, r, sim, z, q⟩ => ?_
  unfold eMeth at z
  obtain ⟨x, e0, z2⟩ := bind_some z
  clear z
  have z := z2
  clear z2
  split at z
  · rename_i C' fds hd
    split at z
    · rename_i hC
      obtain ⟨hC, hno⟩ := hC
      subst hC
      obtain ⟨rs, e1, z2⟩ := bind_some z
      clear z
      obtain ⟨r', e2, z⟩ := Option.map_eq_some_iff.mp z2
      subst z
      cases e1
      refine one sim e0 fun v H1 F s1 n1 d1 p1 => ?_
      have p0 := p1
      rw [hd] at p0
      obtain ⟨a, dx, fv, G, rfl, h1, h2, h3, h4⟩ := p0.ins_inv
      refine ⟨a, dx, fv, rfl, h1, fld_none h2 (Option.isNone_iff_eq_none.mp hno), ?_⟩
      have hF : ∀ a ∈ F, N a ∧ a ∉ W := fun a m => ⟨sim.nw a (n1 a m), fun w => sim.th a w (n1 a m)⟩
      refine ⟨rfl, SR N W (x.al || false) (x.vw || false), [x.d], r', Rps.cons (F := []) (G := []) (p1.give (fun a z => ⟨z.1.1.up (fun e => by rw [e]; rfl), fun e => z.1.2 (by simpa using e)⟩) fun a m => ⟨.new (hF a m).1, fun _ => (hF a m).2⟩) .nil, e2, (sim.kp.tb.same s1), fun u H3 G3 s3 n3 d3 p3 => ?_⟩
      exact q.ret (s1.trans s3) (fun a z => s1.free (n3 a z)) d3 (fun a z => ⟨z.1.imp (fun y => ⟨sim.nw a (s1.free y), fun w => sim.th a w (s1.free y)⟩) id, z.2⟩) p3
    · cases z
  · cases z
end
end Ev
set_option Elab.async false
set_option linter.all false
set_option maxRecDepth 100000
namespace Ev
open PySem PySem.Spec L2
open PyProof.Rows hiding St
def kids : D → List D
  | .lst ds => ds
  | .dk kd => kd.map (·.2)
  | .dt kd => kd.map (·.2)
  | .ins _ fd => fd.map (·.2)
  | .obj _ _ fd => fd.map (·.2)
  | .tup ds => ds
  | _ => []
def setSnd {κ α : Type} : List (κ × α) → Nat → α → List (κ × α)
  | [], _, _ => []
  | p :: r, 0, d => (p.1, d) :: r
  | p :: r, j + 1, d => p :: setSnd r j d
theorem setSnd_keys {κ α : Type} : ∀ (r : List (κ × α)) (j : Nat) (d : α), (setSnd r j d).map (·.1) = r.map (·.1)
  | [], _, _ => rfl
  | p :: r, 0, d => rfl
  | p :: r, j + 1, d => by
    show p.1 :: (setSnd r j d).map (·.1) = _
    rw [setSnd_keys r j d]
    rfl
theorem setSnd_vals {κ α : Type} : ∀ (r : List (κ × α)) (j : Nat) (d : α), (setSnd r j d).map (·.2) = (r.map (·.2)).set j d
  | [], _, _ => rfl
  | p :: r, 0, d => rfl
  | p :: r, j + 1, d => by
    show p.2 :: (setSnd r j d).map (·.2) = _
    rw [setSnd_vals r j d]
    rfl
def setKid : D → Nat → D → D
  | .lst ds, j, d => .lst (ds.set j d)
  | .dk kd, j, d => .dk (setSnd kd j d)
  | .dt kd, j, d => .dt (setSnd kd j d)
  | .ins C fd, j, d => .ins C (setSnd fd j d)
  | .obj C dx fd, j, d => .obj C dx (setSnd fd j d)
  | .tup ds, j, d => .tup (ds.set j d)
  | x, _, _ => x
def dAt : D → List Nat → Option D
  | d, [] => some d
  | d, j :: p => (kids d)[j]?.bind fun e => dAt e p
def dSet (d : D) : List Nat → D → D
  | [], d' => d'
  | j :: p, d' => match (kids d)[j]? with
    | some e => setKid d j (dSet e p d')
    | none => d
section
variable {K : PySem.W.Frag} {S S' : Addr → Prop} {H H' : Hp}
theorem node_kids {d : D} {o : HO} {vs : List V} {ds : List D} (n : Node d o vs ds) : ds = kids d := by
  cases n <;> rfl
theorem node_set {d : D} {o : HO} {vs : List V} {ds : List D} (n : Node d o vs ds) (j : Nat) (d' : D) : Node (setKid d j d') o vs (ds.set j d') := by
  cases n with
  | lst => exact .lst
  | dk e =>
    have := Node.dk (kv := _) (kd := setSnd _ j d') (e.trans (setSnd_keys _ j d').symm)
    rw [setSnd_vals] at this
    exact this
  | dt e =>
    have := Node.dt (kv := _) (kd := setSnd _ j d') (e.trans (setSnd_keys _ j d').symm)
    rw [setSnd_vals] at this
    exact this
  | ins e =>
    rename_i C dx fv fd
    have := Node.ins (C := C) (dx := dx) (fv := fv) (fd := setSnd fd j d') (e.trans (setSnd_keys _ j d').symm)
    rw [setSnd_vals] at this
    exact this
  | obj e =>
    rename_i C dx fv fd
    have := Node.obj (C := C) (dx := dx) (fv := fv) (fd := setSnd fd j d') (e.trans (setSnd_keys _ j d').symm)
    rw [setSnd_vals] at this
    exact this
theorem Rps.hole {l : Lv} : ∀ {vs : List V} {ds : List D} {F : List Addr} {j : Nat} {e : D}, Rps K S H l vs ds F → ds[j]? = some e →
    ∃ u A G B, F = A ++ (G ++ B) ∧ vs[j]? = some u ∧ Rp K S H l u e G ∧
      ∀ {S' : Addr → Prop} {H' : Hp} {e' : D} {G' : List Addr}, (∀ a, S a → S' a) → Keeps S (A ++ B) H H' → Rp K S' H' l u e' G' → Rps K S' H' l vs (ds.set j e') (A ++ (G' ++ B))
  | _, _, _, _, _, .nil, h => by simp at h
  | _, _, _, 0, _, .cons (F := F) (G := G) h1 h2, h => by
    simp at h
    subst h
    refine ⟨_, [], F, G, rfl, rfl, h1, fun {S' H' e' G'} hS k r => ?_⟩
    exact Rps.cons (F := G') (G := G) r ((h2.keep k).mono hS)
  | _, _, _, j + 1, _, .cons (F := F) (G := G) h1 h2, h => by
    obtain ⟨u, A, G1, B, e1, e2, r, q⟩ := Rps.hole (j := j) h2 (by simpa using h)
    subst e1
    refine ⟨u, F ++ A, G1, B, by simp, by simpa using e2, r, fun {S' H' e' G'} hS k r' => ?_⟩
    have h3 := q hS (k.sub fun b z => by simp at z ⊢; exact z.elim (fun z => .inr (.inl z)) fun z => .inr (.inr z)) r'
    have h4 := (h1.keep (k.sub fun b z => by simp [z])).mono hS
    have := Rps.cons h4 h3
    rw [List.append_assoc]
    exact this
theorem Rp.hole : ∀ {p : List Nat} {v : V} {d : D} {F : List Addr} {e : D}, Rp K S H .full v d F → dAt d p = some e → F.Nodup →
    ∃ u A G B, F = A ++ (G ++ B) ∧ Rp K S H .full u e G ∧
      ∀ {S' : Addr → Prop} {H' : Hp} {e' : D} {G' : List Addr}, (∀ a, S a → S' a) → Keeps S (A ++ B) H H' → Rp K S' H' .full u e' G' → Rp K S' H' .full v (dSet d p e') (A ++ (G' ++ B))
  | [], v, d, F, e, r, h, _ => by
    cases h
    exact ⟨v, [], F, [], by simp, r, fun {S' H' e' G'} _ _ r' => by simpa [dSet] using r'⟩
  | j :: p, v, d, F, e, r, h, nd => by
    unfold dAt at h
    obtain ⟨dj, e1, h⟩ := bind_some h
    have h9 := h
    cases r with
    | nd1 h0 hn ha hr =>
      rename_i a o vs ds F1
      have hk := node_kids hn
      rw [← hk] at e1
      obtain ⟨u, A, G, B, eF, eu, ru, q⟩ := hr.hole e1
      have nG : G.Nodup := by
        have := (List.nodup_cons.mp nd).2
        rw [eF, List.nodup_append, List.nodup_append] at this
        exact this.2.1.1
      obtain ⟨u2, A2, G2, B2, eG, r2, q2⟩ := Rp.hole (p := p) ru h nG
      refine ⟨u2, a :: (A ++ A2), G2, B2 ++ B, by rw [eF, eG]; simp, r2, fun {S' H' e' G'} hS k r' => ?_⟩
      have r3 := q2 hS (k.sub fun b z => by simp at z ⊢; rcases z with z | z <;> simp [z]) r'
      have r4 := q hS (k.sub fun b z => by simp at z ⊢; rcases z with z | z <;> simp [z]) r3
      have hs : dSet d (j :: p) e' = setKid d j (dSet dj p e') := by
        rw [dSet, ← hk, e1]
      rw [hs]
      have r5 := Rp.nd1 (K := K) (S := S') h0 (node_set hn j (dSet dj p e')) (k a o ha (ne_nt (node_ne hn)) (.inr (.inl (by simp)))) r4
      have : a :: (A ++ A2) ++ (G' ++ (B2 ++ B)) = a :: (A ++ ((A2 ++ (G' ++ B2)) ++ B)) := by simp
      rw [this]
      exact r5
    | tup h1 h2 =>
      rename_i a vs ds
      obtain ⟨u, A, G, B, eF, eu, ru, q⟩ := h2.hole (show ds[j]? = some dj from e1)
      have nG : G.Nodup := by
        have := nd
        rw [eF, List.nodup_append, List.nodup_append] at this
        exact this.2.1.1
      obtain ⟨u2, A2, G2, B2, eG, r2, q2⟩ := Rp.hole (p := p) ru h9 nG
      refine ⟨u2, A ++ A2, G2, B2 ++ B, by rw [eF, eG]; simp, r2, fun {S' H' e' G'} hS k r' => ?_⟩
      have r3 := q2 hS (k.sub fun b z => by simp at z ⊢; rcases z with z | z <;> simp [z]) r'
      have r4 := q hS (k.sub fun b z => by simp at z ⊢; rcases z with z | z <;> simp [z]) r3
      have hs : dSet (.tup ds) (j :: p) e' = setKid (.tup ds) j (dSet dj p e') := by
        rw [dSet, e1]
      rw [hs]
      have r5 := Rp.tup (K := K) (S := S') (k a _ h1 trivial (.inr (.inr (.inl ⟨_, rfl⟩)))) r4
      have : A ++ A2 ++ (G' ++ (B2 ++ B)) = A ++ ((A2 ++ (G' ++ B2)) ++ B) := by simp
      rw [this]
      exact r5
    | fl h1 h2 => simp [kids] at e1
    | _ => simp [kids] at e1
end
end Ev
set_option Elab.async false
set_option linter.all false
set_option maxRecDepth 100000
namespace Ev
open PySem PySem.Spec L2
open PyProof.Rows hiding St
theorem tabS_rem {H H3 : Hp} {G : List Addr} {P : Addr} {q : Str} (h : ∀ b ∈ G, ∃ o, H b = some o ∧ NE o) (out : ∀ b, b ∉ G → H3 b = H b) (t : TbQ H P q) : TbQ H3 P q := by
  obtain ⟨hq, ps, h1, h2, h3⟩ := t
  refine ⟨hq, ps, ?_, h2, fun pos cv hc => ?_⟩
  · rw [out P fun z => ?_]
    · exact h1
    · obtain ⟨o, e, ne⟩ := h P z
      rw [h1] at e; cases e; exact ne
  · obtain ⟨c, e1, e2⟩ := h3 pos cv hc
    refine ⟨c, e1, ?_⟩
    rw [out c fun z => ?_]
    · exact e2
    · obtain ⟨o, e, ne⟩ := h c z
      rw [e2] at e
      unfold LamX.CodeO at e
      cases e
      exact ne
theorem KpT.refl {K : PySem.W.Frag} {N : Nw} {H : Hp} (t : TBs K H) : KpT K N H H := ⟨fun _ _ e _ _ => e, fun _ _ t => t, t⟩
theorem TBs.upd {K : PySem.W.Frag} {H : Hp} {a : Addr} {o0 o : HO} (t : TBs K H) (e0 : H a = some o0) (ne : NE o0) : TBs K (upd H a o) := fun P q w => tabS_upd e0 ne (t P q w)
def kidsO : HO → List V
  | .lst vs => vs
  | .dK kv => kv.map (·.2)
  | .dT kv => kv.map (·.2)
  | .ins _ _ fv => fv.map (·.2)
  | .tup vs => vs
  | _ => []
theorem kids_nt {o : HO} {j : Nat} {u : V} (h : (kidsO o)[j]? = some u) : NT o := by cases o <;> first | trivial | exact absurd h (by simp [kidsO])
inductive AtV (H : Hp) : V → List Nat → V → Prop
  | nil {v : V} : AtV H v [] v
  | cons {a : Addr} {o : HO} {j : Nat} {p : List Nat} {u w : V} : H a = some o → (kidsO o)[j]? = some u → AtV H u p w → AtV H (.ref a) (j :: p) w
theorem AtV.fn {H : Hp} : ∀ {v : V} {p : List Nat} {u w : V}, AtV H v p u → AtV H v p w → u = w
  | _, _, _, _, .nil, .nil => rfl
  | _, _, _, _, .cons h1 h2 h3, .cons g1 g2 g3 => by
    rw [h1] at g1
    cases g1
    rw [h2] at g2
    cases g2
    exact h3.fn g3
theorem AtV.snoc {H : Hp} {a : Addr} {o : HO} {j : Nat} {w : V} (ha : H a = some o) (hj : (kidsO o)[j]? = some w) : ∀ {v : V} {p : List Nat}, AtV H v p (.ref a) → AtV H v (p ++ [j]) w
  | _, _, .nil => .cons ha hj .nil
  | _, _, .cons h1 h2 h3 => .cons h1 h2 (AtV.snoc ha hj h3)
theorem AtV.same {H H' : Hp} (s : Same H H') : ∀ {v : V} {p : List Nat} {u : V}, AtV H v p u → AtV H' v p u
  | _, _, _, .nil => .nil
  | _, _, _,   .cons h1 h2 h3 => .cons (s.k _ _ h1 (kids_nt h2)) h2 (AtV.same s h3)
section
variable {K : PySem.W.Frag} {S S' : Addr → Prop} {H H' : Hp}
theorem node_kidsO {d : D} {o : HO} {vs : List V} {ds : List D} (n : Node d o vs ds) : vs = kidsO o := by
  cases n <;> rfl
theorem Rp.way : ∀ {p : List Nat} {v : V} {d : D} {F : List Addr} {e : D}, Rp K S H .full v d F → dAt d p = some e → F.Nodup →
    ∃ u A G B, F = A ++ (G ++ B) ∧ Rp K S H .full u e G ∧ AtV H v p u ∧
      ∀ {S' : Addr → Prop} {H' : Hp} {e' : D} {G' : List Addr}, (∀ a, S a → S' a) → Keeps S (A ++ B) H H' → Rp K S' H' .full u e' G' → Rp K S' H' .full v (dSet d p e') (A ++ (G' ++ B))
  | [], v, d, F, e, r, h, _ => by
    cases h
    exact ⟨v, [], F, [], by simp, r, .nil, fun {S' H' e' G'} _ _ r' => by simpa [dSet] using r'⟩
  | j :: p, v, d, F, e, r, h, nd => by
    unfold dAt at h
    obtain ⟨dj, e1, h⟩ := bind_some h
    have h9 := h
    cases r with
    | nd1 h0 hn ha hr =>
      rename_i a o vs ds F1
      have hk := node_kids hn
      have hkO := node_kidsO hn
      rw [← hk] at e1
      obtain ⟨u, A, G, B, eF, eu, ru, q⟩ := hr.hole e1
      have nG : G.Nodup := by
        have := (List.nodup_cons.mp nd).2
        rw [eF, List.nodup_append, List.nodup_append] at this
        exact this.2.1.1
      obtain ⟨u2, A2, G2, B2, eG, r2, w2, q2⟩ := Rp.way (p := p) ru h nG
      refine ⟨u2, a :: (A ++ A2), G2, B2 ++ B, by rw [eF, eG]; simp, r2, .cons ha (by rw [← hkO]; exact eu) w2, fun {S' H' e' G'} hS k r' => ?_⟩
      have r3 := q2 hS (k.sub fun b z => by simp at z ⊢; rcases z with z | z <;> simp [z]) r'
      have r4 := q hS (k.sub fun b z => by simp at z ⊢; rcases z with z | z <;> simp [z]) r3
      have hs : dSet d (j :: p) e' = setKid d j (dSet dj p e') := by
        rw [dSet, ← hk, e1]
      rw [hs]
      have r5 := Rp.nd1 (K := K) (S := S') h0 (node_set hn j (dSet dj p e')) (k a o ha (node_nt hn) (.inr (.inl (by simp)))) r4
      have : a :: (A ++ A2) ++ (G' ++ (B2 ++ B)) = a :: (A ++ ((A2 ++ (G' ++ B2)) ++ B)) := by simp
      rw [this]
      exact r5
    | tup h1 h2 =>
      rename_i a vs ds
      obtain ⟨u, A, G, B, eF, eu, ru, q⟩ := h2.hole (show ds[j]? = some dj from e1)
      have nG : G.Nodup := by
        have := nd
        rw [eF, List.nodup_append, List.nodup_append] at this
        exact this.2.1.1
      obtain ⟨u2, A2, G2, B2, eG, r2, w2, q2⟩ := Rp.way (p := p) ru h9 nG
      refine ⟨u2, A ++ A2, G2, B2 ++ B, by rw [eF, eG]; simp, r2, .cons h1 eu w2, fun {S' H' e' G'} hS k r' => ?_⟩
      have r3 := q2 hS (k.sub fun b z => by simp at z ⊢; rcases z with z | z <;> simp [z]) r'
      have r4 := q hS (k.sub fun b z => by simp at z ⊢; rcases z with z | z <;> simp [z]) r3
      have hs : dSet (.tup ds) (j :: p) e' = setKid (.tup ds) j (dSet dj p e') := by
        rw [dSet, e1]
      rw [hs]
      have r5 := Rp.tup (K := K) (S := S') (k a _ h1 trivial (.inr (.inr (.inl ⟨_, rfl⟩)))) r4
      have : A ++ A2 ++ (G' ++ (B2 ++ B)) = A ++ ((A2 ++ (G' ++ B2)) ++ B) := by simp
      rw [this]
      exact r5
    | fl h1 h2 => simp [kids] at e1
    | _ => simp [kids] at e1
end
abbrev EvP := Env → Option (Nat × List Nat × D)
def PathOk (f : EvP) : Prop := ∀ ρ i p d, f ρ = some (i, p, d) → ∃ s : Sv, ρ[i]? = some (some s) ∧ s.l = .full ∧ dAt s.d p = some d
def tP (K : PySem.W.Frag) (f : EvP) : TE := fun σ H Q => ∃ N H0 ρ L W i p d, SimH K N H0 ρ σ H L W ∧ f ρ = some (i, p, d) ∧ ∀ u H1, Same H H1 → (∀ v0, σ[i]? = some (some v0) → AtV H1 v0 p u) → Q u H1
structure PPv (X : Cx) (e : Expr) (f : EvP) : Prop where
  run : PE X e (tP X.K f)
  ok : PathOk f
def pName (i : Nat) : EvP := fun ρ => match ρ[i]? with
  | some (some s) => if s.l = .full then some (i, [], s.d) else none
  | _ => none
section
variable {X : Cx} {e e2 : Expr} {fp : EvP} {fe : EvE} {pos : Pos}
theorem p_name (i : Nat) {x : Str} (hN : X.N[i]? = some x := by rfl) (hv : Vis X.env.scope x := by first | exact Or.inl rfl | exact Or.inr (Or.inl rfl) | exact Or.inr (Or.inr rfl)) (hd : (x == ("__debug__" : Str)) = false := by decide)
    (hcd : (x == ("__classdict__" : Str)) = false := by decide) : PPv X (.Name x pos) (pName i) where
  run := imp_e (pe_var hN hv hd hcd) fun σ H Q ⟨N, H0, ρ, L, W, j, p, d, sim, z, q⟩ => by
    unfold pName at z
    split at z
    · rename_i s es
      split at z
      · cases z
        obtain ⟨v, G, ev, rp, _⟩ := sim.sl.get es
        refine ⟨v, ev, q v H (Same.refl H) fun v0 e0 => ?_⟩
        rw [ev] at e0
        cases e0
        exact .nil
      · cases z
    · cases z
  ok := fun ρ j p d z => by
    unfold pName at z
    split at z
    · rename_i s es
      split at z
      · rename_i hl
        cases z
        exact ⟨s, es, hl, rfl⟩
      · cases z
    · cases z
theorem SimH.way {K : PySem.W.Frag} {N : Nw} {H0 H : Hp} {ρ : Env} {σ : St} {L W : List Addr} {i : Nat} {p : List Nat} {s : Sv} {e : D} (sim : SimH K N H0 ρ σ H L W) (es : ρ[i]? = some (some s)) (hl : s.l = .full) (hd : dAt s.d p = some e) :
    ∃ v0 u S G, σ[i]? = some (some v0) ∧ AtV H v0 p u ∧ Rp K S H .full u e G := by
  obtain ⟨F1, G, F2, eL, get, _⟩ := sim.sl.at_ (List.getElem?_eq_some_iff.mp es).1
  obtain ⟨v, ev, _, rp⟩ := get s es
  have nG : G.Nodup := by
    have := sim.ndl
    rw [eL, List.nodup_append, List.nodup_append] at this
    exact this.2.1.1
  rw [hl] at rp
  obtain ⟨u, A, G2, B, eG, r2, w, _⟩ := rp.way hd nG
  exact ⟨v, u, _, G2, ev, w, r2⟩
theorem dAt_snoc : ∀ {p : List Nat} {d e e' : D} {j : Nat}, dAt d p = some e → (kids e)[j]? = some e' → dAt d (p ++ [j]) = some e'
  | [], d, e, e', j, h, hj => by
    cases h
    show ((kids d)[j]?.bind fun e => dAt e []) = _
    rw [hj]
    rfl
  | i :: p, d, e, e', j, h, hj => by
    unfold dAt at h
    obtain ⟨d1, e1, h⟩ := bind_some h
    show ((kids d)[i]?.bind fun e => dAt e (p ++ [j])) = _
    rw [e1]
    exact dAt_snoc h hj
theorem fld_at : ∀ {fv : List (Str × V)} {fd : List (Str × D)} {f : Str} {j : Nat}, fv.map (·.1) = fd.map (·.1) → (fd.findIdx? fun q => q.1 == f) = some j → ∃ v, fv.lookup f = some v ∧ (fv.map (·.2))[j]? = some v
  | [], [], f, j, _, h => by simp at h
  | [], _ :: _, f, j, e, _ => by cases e
  | _ :: _, [], f, j, e, _ => by cases e
  | p :: fv, p' :: fd, f, j, e, h => by
    have e1 : p.1 = p'.1 := by have := congrArg List.head? e; simpa using this
    have e2 : fv.map (·.1) = fd.map (·.1) := by have := congrArg List.tail e; simpa using this
    obtain ⟨k1, v1⟩ := p
    obtain ⟨k2, d2⟩ := p'
    dsimp only at e1
    subst e1
    rw [List.findIdx?_cons] at h
    rw [List.lookup_cons]
    by_cases hk : k1 = f
    · subst hk
      simp at h
      subst h
      exact ⟨v1, by simp, rfl⟩
    · have h1 : (k1 == f) = false := by simpa using hk
      have h2 : (f == k1) = false := by simpa using fun z => hk z.symm
      rw [h1] at h
      rw [h2]
      simp at h
      obtain ⟨j', hj, rfl⟩ := h
      obtain ⟨v, q1, q2⟩ := fld_at e2 (by simpa using hj)
      exact ⟨v, q1, by simpa using q2⟩
end
end Ev
set_option Elab.async false
set_option linter.all false
set_option maxRecDepth 100000
namespace Ev
open PySem PySem.Spec L2
open PyProof.Rows hiding St
def isNd : D → Bool
  | .lst _ => true | .dk _ => true | .dt _ => true | .ins _ _ => true | .obj _ _ _ => true
  | _ => false
theorem Rp.node {K : PySem.W.Frag} {S : Addr → Prop} {H : Hp} {u : V} {e : D} {G : List Addr} (r : Rp K S H .full u e G) (h : isNd e = true) : ∃ a o vs ds F, u = .ref a ∧ G = a :: F ∧ H a = some o ∧ Node e o vs ds ∧ Rps K S H .full vs ds F := by
  cases r with
  | nd1 h0 hn h1 h2 => exact ⟨_, _, _, _, _, rfl, rfl, h1, hn, h2⟩
  | _ => simp [isNd] at h
theorem Sim.store {K : PySem.W.Frag} {N : Nw} {H0 H : Hp} {ρ : Env} {σ : St} {L : List Addr} {i : Nat} {p : List Nat} {s : Sv} {e : D} (sim : Sim K N H0 ρ σ H L) (es : ρ[i]? = some (some s)) (hl : s.l = .full) (hd : dAt s.d p = some e) (hn : isNd e = true) :
    ∃ v0 a o vs ds F, σ[i]? = some (some v0) ∧ AtV H v0 p (.ref a) ∧ H a = some o ∧ Node e o vs ds ∧ (∃ S, Rps K S H .full vs ds F) ∧
      ∀ {H1 : Hp} {w : V} {dw : D} {al : Bool} {T : List Addr} {o' : HO} {e' : D}, Same H H1 → (∀ b ∈ T, H b = none) → T.Nodup → Rp K (fun b => SR N L al false b ∧ b ∉ T) H1 .full w dw T → Mut (some o') →
        (∀ {S : Addr → Prop} {H' : Hp}, Rps K S H' .full vs ds F → Rp K S H' .full w dw T → (F ++ T).Nodup → ∃ vs' ds' F', Node e' o' vs' ds' ∧ Rps K S H' .full vs' ds' F' ∧ (∀ b ∈ F', b ∈ F ++ T) ∧ F'.Nodup) →
        ∃ L', Sim K N H0 (ρ.set i (some ⟨dSet s.d p e', .full, s.al || al, s.pn⟩)) σ (upd H1 a o') L' ∧ Frm H L (upd H1 a o') L' := by
  obtain ⟨v, G, ev, rp, nG, hG, go⟩ := sim.mut es
  rw [hl] at rp
  obtain ⟨u, A, G2, B, eG, r2, w2, q2⟩ := rp.trk.way hd nG
  obtain ⟨a, o, vs, ds, F, rfl, rfl, ha, hnd, hr⟩ := r2.node hn
  refine ⟨v, a, o, vs, ds, F, ev, w2, ha, hnd, ⟨_, hr⟩, fun {H1 w dw al T o' e'} sm hT nT rw mo pick => ?_⟩
  have nG' := nG
  rw [eG, List.nodup_append, List.nodup_append] at nG'
  obtain ⟨nA, ⟨naF, nB, dFB⟩, dA⟩ := nG'
  have naF' := List.nodup_cons.mp naF
  have inG : ∀ b, b ∈ A ++ (a :: F ++ B) → b ∈ G := fun b z => by rw [eG]; exact z
  have aG : a ∈ G := inG a (by simp)
  have aL := hG a aG
  have TL : ∀ b ∈ T, b ∉ L := fun b z y => sim.th b y (hT b z)
  have aT : a ∉ T := fun z => TL a z aL
  have up : ∀ b x, b ≠ a → H1 b = some x → upd H1 a o' b = some x := fun b x n h => by rw [upd_ne n]; exact h
  -- what holds of the shared ones
  have hS1 : ∀ b, (SR N L s.al false b ∧ H b ≠ none) → b ≠ a := fun b z y => z.1.2 rfl (y ▸ aL)
  have k1 : Keeps (fun b => SR N L s.al false b ∧ H b ≠ none) (A ++ B) H (upd H1 a o') := fun b x hb nt q => by
    have : b ≠ a := fun y => by
      subst y
      rw [ha] at hb
      cases hb
      rcases q with q | q | ⟨xs, rfl⟩ | ⟨o2, u2, rfl⟩
      · exact hS1 b q rfl
      · rcases List.mem_append.mp q with q | q
        · exact dA b q b (by simp) rfl
        · exact dFB b (by simp) b q rfl
      · cases hnd
      · cases hnd
    exact up b x this (sm.k _ _ hb (by trivial))
  have k2 : Keeps (fun b => SR N L s.al false b ∧ H b ≠ none) F H (upd H1 a o') := fun b x hb nt q => by
    have : b ≠ a := fun y => by
      subst y
      rw [ha] at hb
      cases hb
      rcases q with q | q | ⟨xs, rfl⟩ | ⟨o2, u2, rfl⟩
      · exact hS1 b q rfl
      · exact naF'.1 q
      · cases hnd
      · cases hnd
    exact up b x this (sm.k _ _ hb (by trivial))
  have k3 : Keeps (fun b => SR N L al false b ∧ b ∉ T) T H1 (upd H1 a o') := fun b x hb nt q => by
    have : b ≠ a := fun y => by
      subst y
      rw [sm.k _ _ ha (node_nt hnd)] at hb
      cases hb
      rcases q with q | q | ⟨xs, rfl⟩ | ⟨o2, u2, rfl⟩
      · exact q.1.2 rfl aL
      · exact aT q
      · cases hnd
      · cases hnd
    exact up b x this hb
  have nFT : (F ++ T).Nodup := by
    rw [List.nodup_append]
    exact ⟨naF'.2, nT, fun b hb c hc y => TL c hc (y ▸ hG b (inG b (by simp [hb])))⟩
  let S' : Addr → Prop := fun b => AlN N (s.al || al) b ∧ (b ∉ L ∨ b ∈ G) ∧ b ∉ T ∧ b ∉ G
  have h1 : ∀ b, (SR N L s.al false b ∧ H b ≠ none) → S' b := fun b z => ⟨z.1.1.up (fun e => by simp [e]), .inl (z.1.2 rfl), fun y => z.2 (hT b y), fun y => z.1.2 rfl (hG b y)⟩
  have h2 : ∀ b, (SR N L al false b ∧ b ∉ T) → S' b := fun b z => ⟨z.1.1.up (fun e => by simp [e]), .inl (z.1.2 rfl), z.2, fun y => z.1.2 rfl (hG b y)⟩
  obtain ⟨vs', ds', F', hn', r5, sub, nF'⟩ := pick ((hr.keep k2).mono h1) ((rw.keep k3).mono h2) nFT
  have aF' : a ∉ F' := fun z => (List.mem_append.mp (sub a z)).elim naF'.1 aT
  have r6 : Rp K S' (upd H1 a o') .full (.ref a) e' (a :: F') := .nd1 (fun z => nomatch z) hn' upd_same r5
  have r7 := q2 (e' := e') h1 k1 r6
  have subG : ∀ b ∈ A ++ (a :: F' ++ B), b ∈ G ∨ b ∈ T := fun b z => by
    rcases List.mem_append.mp z with z | z
    · exact .inl (inG b (by simp [z]))
    · rcases List.mem_append.mp z with z | z
      · rcases List.mem_cons.mp z with z | z
        · exact .inl (z ▸ aG)
        · rcases List.mem_append.mp (sub b z) with z | z
          · exact .inl (inG b (by simp [z]))
          · exact .inr z
      · exact .inl (inG b (by simp [z]))
  have ndG : (A ++ (a :: F' ++ B)).Nodup := by
    have offT : ∀ b, b ∈ G → b ∉ T := fun b z y => TL b y (hG b z)
    have hx : ∀ b ∈ a :: F', b ∈ a :: F ∨ b ∈ T := fun b z => by
      rcases List.mem_cons.mp z with z | z
      · exact .inl (z ▸ List.mem_cons_self)
      · exact (List.mem_append.mp (sub b z)).imp (List.mem_cons_of_mem _) id
    rw [List.nodup_append, List.nodup_append]
    refine ⟨nA, ⟨List.nodup_cons.mpr ⟨aF', nF'⟩, nB, fun b hb c hc y => ?_⟩, fun b hb c hc y => ?_⟩
    · rcases hx b hb with z | z
      · exact dFB b z c hc y
      · exact offT c (inG c (by simp [hc])) (y ▸ z)
    · rcases List.mem_append.mp hc with hc | hc
      · rcases hx c hc with z | z
        · exact dA b hb c (List.mem_append_left _ z) y
        · exact offT b (inG b (by simp [hb])) (y ▸ z)
      · exact dA b hb c (List.mem_append_right _ hc) y
  have trT : ∀ b ∈ T, H b = none ∧ Mut (upd H1 a o' b) := fun b z => ⟨hT b z, by
    rw [upd_ne (fun y => aT (by rw [← y]; exact z))]
    exact rw.own_mut b z⟩
  exact go (s' := ⟨dSet s.d p e', .full, s.al || al, s.pn⟩) (G' := A ++ (a :: F' ++ B)) (T := T) sm aG mo trT subG ndG (.inl rfl) (r7.mono fun b z => ⟨z.1, z.2.1, z.2.2.1, fun y => (subG b y).elim z.2.2.2 z.2.2.1⟩)
end Ev
set_option Elab.async false
set_option linter.all false
set_option maxRecDepth 100000
namespace Ev
open PySem PySem.Spec L2
open PyProof.Rows hiding St
def putD (f : Str) (d : D) : List (Str × D) → List (Str × D)
  | [] => [(f, d)]
  | (g, x) :: r => if g = f then (g, d) :: r else (g, x) :: putD f d r
theorem put_rps {K : PySem.W.Frag} {S : Addr → Prop} {H : Hp} {l : Lv} {f : Str} {w : V} {d : D} {T : List Addr} (rw : Rp K S H l w d T) : ∀ {fv : List (Str × V)} {fd : List (Str × D)} {F : List Addr}, fv.map (·.1) = fd.map (·.1) → Rps K S H l (fv.map (·.2)) (fd.map (·.2)) F → (F ++ T).Nodup →
    (putF f w fv).map (·.1) = (putD f d fd).map (·.1) ∧ ∃ F', Rps K S H l ((putF f w fv).map (·.2)) ((putD f d fd).map (·.2)) F' ∧ (∀ b ∈ F', b ∈ F ++ T) ∧ F'.Nodup
  | [], [], F, e, r, nd => by
    cases r
    refine ⟨rfl, T, ?_, fun b z => by simpa using z, by simpa using nd⟩
    have := Rps.cons (G := []) rw .nil
    rw [List.append_nil] at this
    exact this
  | [], _ :: _, _, e, _, _ => by cases e
  | _ :: _, [], _, e, _, _ => by cases e
  | q :: fv, q' :: fd, F, e, r, nd => by
    have e1 : q.1 = q'.1 := by have := congrArg List.head? e; simpa using this
    have e2 : fv.map (·.1) = fd.map (·.1) := by have := congrArg List.tail e; simpa using this
    obtain ⟨k1, v1⟩ := q
    obtain ⟨k2, d2⟩ := q'
    dsimp only at e1
    subst e1
    have r : Rps K S H l (v1 :: fv.map (·.2)) (d2 :: fd.map (·.2)) F := r
    cases r with
    | cons h1 h2 =>
      rename_i F1 G1
      by_cases hk : k1 = f
      · have a1 : putF f w ((k1, v1) :: fv) = (k1, w) :: fv := if_pos hk
        have a2 : putD f d ((k1, d2) :: fd) = (k1, d) :: fd := if_pos hk
        rw [a1, a2]
        refine ⟨by simp [e2], T ++ G1, Rps.cons rw h2, fun b z => ?_, ?_⟩
        · simp at z ⊢
          rcases z with z | z <;> simp [z]
        · rw [List.nodup_append] at nd ⊢
          obtain ⟨n1, n2, n3⟩ := nd
          rw [List.nodup_append] at n1
          exact ⟨n2, n1.2.1, fun b hb c hc y => n3 c (by simp [hc]) b hb y.symm⟩
      · have a1 : putF f w ((k1, v1) :: fv) = (k1, v1) :: putF f w fv := if_neg hk
        have a2 : putD f d ((k1, d2) :: fd) = (k1, d2) :: putD f d fd := if_neg hk
        rw [a1, a2]
        have nd1 : (G1 ++ T).Nodup := by
          rw [List.append_assoc, List.nodup_append] at nd
          exact nd.2.1
        obtain ⟨i1, F', i2, i3, i4⟩ := put_rps rw e2 h2 nd1
        refine ⟨by simp [i1], F1 ++ F', Rps.cons h1 i2, fun b z => ?_, ?_⟩
        · rcases List.mem_append.mp z with z | z
          · simp [z]
          · have := i3 b z
            simp at this ⊢
            exact .inr this
        · rw [List.append_assoc, List.nodup_append] at nd
          rw [List.nodup_append]
          exact ⟨nd.1, i4, fun b hb c hc y => nd.2.2 b hb c (i3 c hc) y⟩
end Ev
set_option Elab.async false
set_option linter.all false
set_option maxRecDepth 100000
namespace Ev
open PySem PySem.Spec L2
open PyProof.Rows hiding St
section
variable {κ : Type} [DecidableEq κ] {K : PySem.W.Frag} {S : Addr → Prop} {H : Hp} {l : Lv}
theorem dmap_rps {k : κ} {w : V} {d : D} (rw : Rp K S H l w d []) : ∀ {kv : List (κ × V)} {kd : List (κ × D)} {F : List Addr}, kv.map (·.1) = kd.map (·.1) → Rps K S H l (kv.map (·.2)) (kd.map (·.2)) F → F.Nodup →
    (kv.map fun q => if q.1 = k then (q.1, w) else q).map (·.1) = (kd.map fun q => if q.1 = k then (q.1, d) else q).map (·.1) ∧ ∃ F', Rps K S H l ((kv.map fun q => if q.1 = k then (q.1, w) else q).map (·.2)) ((kd.map fun q => if q.1 = k then (q.1, d) else q).map (·.2)) F' ∧ (∀ b ∈ F', b ∈ F) ∧ F'.Nodup
  | [], [], F, e, r, nd => ⟨rfl, F, r, fun _ z => z, nd⟩
  | [], _ :: _, _, e, _, _ => by cases e
  | _ :: _, [], _, e, _, _ => by cases e
  | q :: kv, q' :: kd, F, e, r, nd => by
    have e1 : q.1 = q'.1 := by have := congrArg List.head? e; simpa using this
    have e2 : kv.map (·.1) = kd.map (·.1) := by have := congrArg List.tail e; simpa using this
    obtain ⟨k1, v1⟩ := q
    obtain ⟨k2, d2⟩ := q'
    dsimp only at e1
    subst e1
    have r : Rps K S H l (v1 :: kv.map (·.2)) (d2 :: kd.map (·.2)) F := r
    cases r with
    | cons h1 h2 =>
      rename_i F1 G1
      rw [List.nodup_append] at nd
      obtain ⟨i1, F', i2, i3, i4⟩ := dmap_rps rw e2 h2 nd.2.1
      by_cases hk : k1 = k
      · refine ⟨by simp [hk]; simpa using i1, F', ?_, fun b z => List.mem_append_right _ (i3 b z), i4⟩
        simp only [List.map_cons, if_pos hk]
        exact Rps.cons (F := []) rw i2
      · refine ⟨by simp [hk]; simpa using i1, F1 ++ F', ?_, fun b z => ?_, ?_⟩
        · simp only [List.map_cons, if_neg hk]
          exact Rps.cons h1 i2
        · rcases List.mem_append.mp z with z | z
          · exact List.mem_append_left _ z
          · exact List.mem_append_right _ (i3 b z)
        · rw [List.nodup_append]
          exact ⟨nd.1, i4, fun b hb c hc y => nd.2.2 b hb c (i3 c hc) y⟩
theorem dput_rps {k : κ} {w : V} {d : D} (rw : Rp K S H l w d []) {kv : List (κ × V)} {kd : List (κ × D)} {F : List Addr} (e : kv.map (·.1) = kd.map (·.1)) (r : Rps K S H l (kv.map (·.2)) (kd.map (·.2)) F) (nd : F.Nodup) :
    (putK kv k w).map (·.1) = (dput kd k d).map (·.1) ∧ ∃ F', Rps K S H l ((putK kv k w).map (·.2)) ((dput kd k d).map (·.2)) F' ∧ (∀ b ∈ F', b ∈ F) ∧ F'.Nodup := by
  have hh : (kv.any fun p => decide (p.1 = k)) = dhas kd k := by rw [← has_keys e k, valV_any]
  unfold putK dput
  rw [hh]
  by_cases h : dhas kd k = true
  · rw [if_pos h, if_pos h]
    exact dmap_rps rw e r nd
  · rw [if_neg h, if_neg h]
    refine ⟨by simp [e], F, ?_, fun _ z => z, nd⟩
    rw [List.map_append, List.map_append]
    have := Rps.app r (Rps.cons (F := []) (G := []) rw .nil)
    rw [List.append_nil, List.append_nil] at this
    exact this
end
def putAt (d : D) (y : D) (w : D) : Option D := match d with
  | .dk kd => if kd.length < 1000000 then (keyOf y).map fun k => .dk (dput kd k w) else none
  | .dt kd => if kd.length < 1000000 then (match y with | .tup ks => (keysOf ks).map fun k => .dt (dput kd k w) | _ => none) else none
  | _ => none
def sPutP (fz : List Nat) (fp : EvP) (fk fv : EvE) : EvS := fun ρ0 => (fv (frzs fz ρ0)).bind fun r => (fp (frzs fz ρ0)).bind fun z => (fk (frzs fz ρ0)).bind fun y => (putAt z.2.2 y.d r.d).bind fun e' => match (frzs fz ρ0)[z.1]? with
  | some (some s) => if imm r.d = true then some (.nx ((frzs fz ρ0).set z.1 (some ⟨dSet s.d z.2.1 e', .full, s.al || false, s.pn⟩))) else none
  | _ => none
section
variable {X : Cx} {e ix value : Expr} {fp : EvP} {fk fv : EvE} {pos pos' : Pos}
theorem s_putp (fz : List Nat) (hu : X.A.units + 65 < cLine) (h : PPv X e fp) (hk : PEv X ix fk) (hv : PEv X value fv) (hs : swapsWith value (some (.Subscript e ix pos')) pos.line X.env = pure false := by rfl) :
    PSv X (.Assign [.Subscript e ix pos'] value pos) (sPutP fz fp fk fv) := by
  refine imp_s (ps_dput (by omega) h.run hk hv hs) fun D σ H ⟨N, H0, ρ0, L0, o, sim0, z, q0⟩ => ?_
  obtain ⟨L, sim, subL⟩ := sim0.frzs fz
  have q := q0.at_ (H1 := H) (L1 := L) ⟨fun _ _ e _ _ => e, fun _ e => .inl e, fun b z => .inl (subL b z)⟩
  unfold sPutP at z
  generalize frzs fz ρ0 = ρ at sim z
  obtain ⟨r, e1, z1⟩ := bind_some z
  obtain ⟨⟨i, p, d⟩, e2, z2⟩ := bind_some z1
  obtain ⟨y, e3, z3⟩ := bind_some z2
  obtain ⟨e', e4, z4⟩ := bind_some z3
  clear z z1 z2 z3
  dsimp only at z4 e4
  split at z4
  · rename_i s es
    split at z4
    · rename_i hi
      cases z4
      refine one sim.h e1 fun w H1 T s1 n1 d1 p1 => ?_
      obtain ⟨s', es', hl, hd⟩ := h.ok ρ i p d e2
      rw [es] at es'
      cases es'
      have hold := sim.h.hold s1 n1 d1 p1.own_mut
      refine ⟨N, H0, ρ, L, L ++ T, i, p, d, hold, e2, fun u H2 s2 at2 => ?_⟩
      refine one (hold.same s2) e3 fun ky H3 T3 s3 n3 d3 p3 => ?_
      have sall : Same H H3 := s1.trans (s2.trans s3)
      have rw0 : ∀ {S : Addr → Prop} {H' : Hp} {l' : Lv}, Same H1 H' → Rp X.K S H' l' w r.d [] := fun sm => ((p1.same sm).of_imm hi).2
      cases d with
      | dk kd =>
        obtain ⟨v0, a, o, vs, ds, F, ev, w2, ha, hnd, hx, go⟩ := sim.store es hl hd rfl
        clear hx
        have := (at2 v0 ev).fn ((w2.same s1).same s2)
        subst this
        unfold putAt at e4
        dsimp only at e4
        split at e4
        · rename_i hlen
          obtain ⟨k, e5, rfl⟩ := Option.map_eq_some_iff.mp e4
          cases hnd with
          | dk ek =>
            rename_i kv
            have hlen' : kv.length < sizeLine := by
              have := congrArg List.length ek
              rw [List.length_map, List.length_map] at this
              rw [this, sizeLine_eq]
              omega
            obtain ⟨L', sim', fr⟩ := go (H1 := H3) (w := w) (dw := r.d) (al := false) (T := []) (e' := .dk (dput kd k r.d)) (o' := .dK (putK kv k w)) sall (fun _ z => nomatch z) .nil (rw0 (s2.trans s3)) trivial (fun r1 r2 nd => by
              rw [List.append_nil] at nd
              obtain ⟨i1, F', i2, i3, i4⟩ := dput_rps (k := k) r2 ek r1 nd
              exact ⟨_, _, F', .dk i1, i2, fun b z => by simpa using i3 b z, i4⟩)
            refine ⟨a, _, rfl, ?_, q _ _ L' sim' fr⟩
            rw [p3.key e5]
            exact DPut.k (sall.k _ _ ha (by first | trivial | exact node_nt (by assumption))) hlen'
        · cases e4
      | dt kd =>
        obtain ⟨v0, a, o, vs, ds, F, ev, w2, ha, hnd, hx, go⟩ := sim.store es hl hd rfl
        clear hx
        have := (at2 v0 ev).fn ((w2.same s1).same s2)
        subst this
        unfold putAt at e4
        dsimp only at e4
        split at e4
        · rename_i hlen
          split at e4
          · rename_i ks hy
            obtain ⟨k, e5, rfl⟩ := Option.map_eq_some_iff.mp e4
            rw [hy] at p3
            obtain ⟨c, ws, rfl, h5, h6⟩ := p3.tup_inv
            cases hnd with
            | dt ek =>
              rename_i kv
              have hlen' : kv.length < sizeLine := by
                have := congrArg List.length ek
                rw [List.length_map, List.length_map] at this
                rw [this, sizeLine_eq]
                omega
              obtain ⟨L', sim', fr⟩ := go (H1 := H3) (w := w) (dw := r.d) (al := false) (T := []) (e' := .dt (dput kd k r.d)) (o' := .dT (putK kv k w)) sall (fun _ z => nomatch z) .nil (rw0 (s2.trans s3)) trivial (fun r1 r2 nd => by
                rw [List.append_nil] at nd
                obtain ⟨i1, F', i2, i3, i4⟩ := dput_rps (k := k) r2 ek r1 nd
                exact ⟨_, _, F', .dt i1, i2, fun b z => by simpa using i3 b z, i4⟩)
              refine ⟨a, _, rfl, ?_, q _ _ L' sim' fr⟩
              exact DPut.t (sall.k _ _ ha (by first | trivial | exact node_nt (by assumption))) (by rw [h5, h6.keys e5]) hlen'
          · cases e4
        · cases e4
      | _ => simp [putAt] at e4
    · cases z4
  · cases z4
end
end Ev
set_option Elab.async false
set_option linter.all false
set_option maxRecDepth 100000
namespace Ev
open PySem PySem.Spec L2
open PyProof.Rows hiding St
section
variable {X : Cx} {e ix : Expr} {es : List Expr} {fp : EvP} {fk fe : EvE} {pos apos cpos : Pos}
def pIx (fp : EvP) (fk : EvE) : EvP := fun ρ => (fp ρ).bind fun z => (fk ρ).bind fun y => match z.2.2, y.d with
  | .lst ds, .int k => (L2.ixN ds.length k).bind fun j => ds[j]?.map fun e => (z.1, z.2.1 ++ [j], e)
  | _, _ => none
theorem pIx_some {ρ : Env} {i : Nat} {p : List Nat} {d : D} (z : pIx fp fk ρ = some (i, p, d)) : ∃ p0 ds y k j, fp ρ = some (i, p0, .lst ds) ∧ fk ρ = some y ∧ y.d = .int k ∧ L2.ixN ds.length k = some j ∧ ds[j]? = some d ∧ p = p0 ++ [j] := by
  unfold pIx at z
  obtain ⟨⟨i0, p0, d0⟩, e1, z1⟩ := bind_some z
  obtain ⟨y, e2, z2⟩ := bind_some z1
  clear z z1
  dsimp only at z2
  split at z2
  · rename_i ds k hy
    obtain ⟨j, e3, z3⟩ := bind_some z2
    obtain ⟨e, e4, e5⟩ := Option.map_eq_some_iff.mp z3
    cases e5
    exact ⟨p0, ds, y, k, j, e1, e2, hy, e3, e4, rfl⟩
  · cases z2
theorem p_ix (hu : X.A.units + 65 < cLine) (h : PPv X e fp) (hk : PEv X ix fk) (hs : PlainIx ix := by exact fun _ _ => rfl) : PPv X (.Subscript e ix pos) (pIx fp fk) where
  run := imp_e (pe_ix (ix_any (by omega)) h.run hk hs) fun σ H Q ⟨N, H0, ρ, L, W, i, p, d, sim, z, q⟩ => by
    obtain ⟨p0, ds, y, k, j, e1, e2, hy, e3, e4, rfl⟩ := pIx_some z
    obtain ⟨s, es, hl, hd⟩ := h.ok ρ i p0 _ e1
    obtain ⟨v0, u', S, G, ev, w, r⟩ := sim.way es hl hd
    refine ⟨N, H0, ρ, L, W, i, p0, _, sim, e1, fun u H1 s1 at1 => ?_⟩
    refine one (sim.same s1) e2 fun ky H2 T s2 n2 d2 p2 => ?_
    have w1 := at1 v0 ev
    have := w1.fn (w.same s1)
    subst this
    rw [hy] at p2
    obtain ⟨rfl, _⟩ := p2.int_inv
    obtain ⟨a, vs, G1, rfl, h1, h2, _, _⟩ := r.lst_inv
    obtain ⟨v, G2, e5, _, _⟩ := h2.get e4
    have sall := s1.trans s2
    refine .inl (.inl ⟨a, vs, k, v, rfl, rfl, SqL.of (sall.k a _ h1 (by first | trivial | exact node_nt (by assumption))), ?_, q v H2 sall fun v1 e0 => ?_⟩)
    · unfold L2.atI
      rw [h2.len, e3]
      exact e5
    · rw [ev] at e0
      cases e0
      exact (w1.same s2).snoc (sall.k a _ h1 (by first | trivial | exact node_nt (by assumption))) e5
  ok := fun ρ i p d z => by
    obtain ⟨p0, ds, y, k, j, e1, e2, hy, e3, e4, rfl⟩ := pIx_some z
    obtain ⟨s, es, hl, hd⟩ := h.ok ρ i p0 _ e1
    exact ⟨s, es, hl, dAt_snoc hd e4⟩
def sAppP (fz : List Nat) (fp : EvP) (fe : EvE) : EvS := fun ρ0 => (fp (frzs fz ρ0)).bind fun z => (fe (frzs fz ρ0)).bind fun r => match z.2.2, (frzs fz ρ0)[z.1]? with
  | .lst ds, some (some s) => if r.vw = false ∧ r.l = .full ∧ ds.length ≤ 1000000 then some (.nx ((frzs fz ρ0).set z.1 (some ⟨dSet s.d z.2.1 (.lst (ds ++ [r.d])), .full, s.al || r.al, s.pn⟩))) else none
  | _, _ => none
theorem s_appp {x : Expr} (fz : List Nat) (h : PPv X e fp) (ha : PAv X [x] (aCons fe aNil))
    (hsw : swapsWith (.Call (.Attribute e "append" apos) [x] [] cpos) none pos.line X.env = pure false := by rfl)
    (hbase : attributeBase e "append" X.env (eval e X.env) = eval e X.env := by rfl)
    (hfew : ((backTo cpos (starEach [x] X.env)).all (fun x => !x.1) && (backToKw cpos (keywordEach [] X.env)).all (fun x => x.1.isSome)
      && decide ([x].length + ([] : List Keyword).length + (if ([] : List Keyword).isEmpty then 0 else 1) < 30)) = true := by rfl)
    (hline : (apos.endLine == cpos.line) = true := by rfl) (hs : starEach [x] X.env = (false, eval x X.env) :: starEach [] X.env := by rfl) (hplain : (backTo cpos (starEach [] X.env)).any (·.1) = false := by rfl) :
    PSv X (.Expr (.Call (.Attribute e "append" apos) [x] [] cpos) pos) (sAppP fz fp fe) := by
  obtain ⟨r0, hm, hr⟩ := (l_app (X := X)).ok
  refine imp_s (ps_expr (pe_bm PySem.F.plainAttrs_list PySem.F.slot_list_append PySem.F.type_list_append hm h.run ha hbase hfew hline hs hplain) hsw) fun D σ H ⟨N, H0, ρ0, L0, o, sim0, z, q0⟩ => ?_
  obtain ⟨L, sim, subL⟩ := sim0.frzs fz
  have q := q0.at_ (H1 := H) (L1 := L) ⟨fun _ _ e _ _ => e, fun _ e => .inl e, fun b z => .inl (subL b z)⟩
  unfold sAppP at z
  generalize frzs fz ρ0 = ρ at sim z
  obtain ⟨⟨i, p, d⟩, e1, z1⟩ := bind_some z
  obtain ⟨r, e2, z2⟩ := bind_some z1
  clear z z1
  dsimp only at z2
  split at z2
  · rename_i ds s es
    split at z2
    · rename_i hc
      obtain ⟨hvw, hfull, hlen⟩ := hc
      cases z2
      obtain ⟨s', es', hl, hd⟩ := h.ok ρ i p _ e1
      rw [es] at es'
      cases es'
      obtain ⟨v0, a, o, vs, ds', F, ev, w2, ha', hnd, ⟨S0, hx⟩, go⟩ := sim.store es hl hd rfl
      cases hnd
      have hlv := hx.len
      refine ⟨N, H0, ρ, L, L, i, p, _, sim.h, e1, fun u H1 s1 at1 => ?_⟩
      have := (at1 v0 ev).fn (w2.same s1)
      subst this
      refine ⟨.inl ⟨rfl, vs, SqL.of (s1.k _ _ ha' (by first | trivial | exact node_nt (by assumption)))⟩, N, H0, ρ, L, L, [r], sim.h.same s1, ?_, fun us H2 T s2 n2 d2 p2 => ?_⟩
      · unfold aCons aNil
        rw [e2]
        rfl
      have hall : [r].all (fun r => !r.vw && decide (r.l = .full)) = true := by simp [hvw, hfull]
      have p3 := p2.full (al := r.al) hall (fun r' m e => by rw [List.mem_singleton.mp m] at e; exact e)
      have sall := s1.trans s2
      generalize hds : [r].map (·.d) = rd at p3
      cases p3 with
      | nil => cases hds
      | cons hw hrest =>
        rename_i w dw us' ds'' F1 G1
        have hds : r.d = dw ∧ [] = ds'' := by simpa using hds
        obtain ⟨rfl, rfl⟩ := hds
        cases hrest
        have nF : (∀ b ∈ F1, H b = none) := fun b m => s1.free (n2 b (by simpa using m))
        have dF : F1.Nodup := by simpa using d2
        obtain ⟨L', sim', fr⟩ := go (H1 := H2) (w := w) (dw := r.d) (al := r.al) (T := F1) (e' := .lst (ds ++ [r.d])) (o' := .lst (vs ++ [w])) sall nF dF (hw.mono fun b z => by simpa [SR] using z) trivial (fun r1 r2 nd => by
          refine ⟨_, _, F ++ F1, .lst, ?_, fun b z => z, nd⟩
          have := Rps.app r1 (Rps.cons (G := []) r2 .nil)
          rw [List.append_nil] at this
          exact this)
        exact hr H2 a vs [w] (vs ++ [w]) _ (sall.k _ _ ha' (by first | trivial | exact node_nt (by assumption))) (by rw [hlv]; exact hlen) rfl (q _ _ L' sim' fr)
    · cases z2
  · cases z2
end
end Ev
set_option Elab.async false
set_option linter.all false
set_option maxRecDepth 100000
namespace Ev
open PySem PySem.Spec L2
open PyProof.Rows hiding St
def pinned (C : Addr) (Q : VK) : VK := fun v H => ∃ x a dx fv, v = .ref x ∧ H a = some (.ins C dx fv) ∧ H dx = some (.own x) ∧ (a = x → Q v H)
theorem pe_pin {X : Cx} {e : Expr} {t : TE} (C : Addr) (h : PE X e t) : PE X e (fun σ H Q => t σ H (pinned C Q)) :=
  ⟨fun pins s σ H Q I z => thn (h.run pins s σ H _ I z) fun u s1 ⟨v, H1, I1, rv, x, a, dx, fv, ev, ha, hx, q⟩ => by
    obtain ⟨mA, O, r, wi, _, ho⟩ := ins_get I1.hok ha
    rw [hx] at ho
    have : x = a := by cases ho; rfl
    exact ⟨v, H1, I1, rv, q this.symm⟩⟩
def spI (K : PySem.W.Frag) (n : Nat) (C : Addr) (φ : List D → Option (List (Str × D))) : Sp := fun vs H Q _ => ∃ x dx us ds fs, vs = .ref x :: us ∧ vs.length = n ∧ H x = some (.ins C dx []) ∧ H dx = some (.own x) ∧ dx ≠ x ∧ Rps K (fun a => a ≠ x) H .shr us ds [] ∧ φ ds = some fs ∧ TBs K H ∧
  ∀ a H' F, (∀ b o, H b = some o → b ≠ x → NT o → H' b = some o) → (∀ b, H' b = none → H b = none ∨ b = x) → (∀ P q, TbQ H P q → TbQ H' P q) → (∀ b ∈ F, H b = none ∨ b = x) → F.Nodup → Rp K (fun b => (H b = none ∨ b = x) ∧ b ∉ F) H' .full (.ref a) (.obj C dx fs) F → Q .non H'
def runNew (body : EvS) (m : Nat) (C dx : Addr) (ds : List D) : Option (List (Str × D)) := (body (some ⟨.obj C dx [], .full, false, none⟩ :: entry (m - 1) ds)).bind fun o => match o with
  | .nx (some s :: _) => (match s.d, s.l, s.al with
    | .obj C' dx' fs, .full, false => if C' = C ∧ dx' = dx then some fs else none
    | _, _, _ => none)
  | _ => none
theorem slots_own {K : PySem.W.Frag} {N : Nw} {x : Addr} {H : Hp} (n : Nat) (hN : ∀ a, a ≠ x → N.s a) : ∀ {vs : List V} {ds : List D}, Rps K (fun a => a ≠ x) H .shr vs ds [] → Slots K N [x] H (vs.map some ++ List.replicate n none) (ds.map (fun d => some ⟨d, .shr, true, none⟩) ++ List.replicate n none) []
  | [], [], .nil => slots_none n
  | v :: vs, d :: ds, h => by
    generalize hF : ([] : List Addr) = F at h
    cases h with
    | cons h1 h2 =>
      have e1 := h1.shr0
      have e2 := h2.shr0
      subst e1 e2
      exact Slots.so (s := ⟨d, .shr, true, none⟩) (F := []) (G := []) (fun _ z => nomatch z) (h1.mono fun a z => ⟨⟨.inr (hN a z), (fun e => nomatch e)⟩, fun _ m => z (List.mem_singleton.mp m)⟩) (slots_own n hN h2)
theorem init_ok {P : Program} {w : World} {K : PySem.W.Frag} {mg : Str → Option Value} {base : Heap} {x qual : Str} {st : Stmt} {f : Addr} {fd : FuncData} {N ps : List Str} {k : Nat} {body : EvS} {C : Addr} {φ : List D → Option (List (Str × D))} (F : Fun K x qual st f fd) (S : FnScope N ps (defScope st))
    (hb : ∀ (cdv : Value) (A : Around) (outer : List PySem.Env) (s : Shared) (H : Hp) (E : XK), Room k (A.deeper (envOfC qual (defScope st) s.heap.objs.size f cdv)) → PSsv (cxOf CX0 P w K mg base N qual (defScope st) f cdv A outer s H E).nox (defBody st) body)
    (hN : N.length - 1 + 1 = N.length) (hφ : ∀ dx ds fs, φ ds = some fs → runNew body N.length C dx ds = some fs) :
    FnOk P w K mg base CX0 (k + 1) f fd ps (spI K ps.length C φ) := by
  refine F.ok S (fun vs H Q E ⟨_, _, _, _, _, _, h, _⟩ => h) (fun cdv A outer s H vs Q E hr h => ?_)
  obtain ⟨x0, dx, us, ds, fs, rfl, hl, hx, hdx, ne, rp, hrun, htb, q⟩ := h
  refine ⟨_, hb cdv A outer s H E hr, ?_⟩
  have h4 := hφ dx ds fs hrun
  clear hrun
  unfold runNew at h4
  obtain ⟨o, e1, hrun⟩ := bind_some h4
  clear h4
  refine ⟨⟨fun a => H a = none ∨ a = x0, fun a => a ≠ x0, fun _ => 0⟩, H, _, [x0], o, ⟨⟨fun b o e _ _ => e, fun _ _ t => t, htb⟩, fun b e => .inl e, nodup1, fun a z => .inr (List.mem_singleton.mp z), fun a z => by rw [List.mem_singleton.mp z, hx]; trivial, ?_⟩, e1, ?_⟩
  · have hsl := slots_own (N := ⟨fun a => H a = none ∨ a = x0, fun a => a ≠ x0, fun _ => 0⟩) (N.length - (us.length + 1)) (fun _ z => z) rp
    have e2 : L2.start N (.ref x0 :: us) = some (.ref x0) :: (us.map some ++ List.replicate (N.length - (us.length + 1)) none) := rfl
    have e3 : entry (N.length - 1) ds = ds.map (fun d => some ⟨d, .shr, true, none⟩) ++ List.replicate (N.length - (us.length + 1)) none := by
      unfold entry
      rw [← rp.len]
      congr 2
      omega
    rw [e2, e3]
    refine Slots.so (s := ⟨.obj C dx [], .full, false, none⟩) (F := [x0]) (G := []) (fun _ z => nomatch z) ?_ hsl
    exact Rp.nd1 (F := []) (vs := []) (ds := []) (fun z => nomatch z) (.obj (fv := []) (fd := []) rfl) hx .nil
  · cases o with
    | nx ρ =>
      cases ρ with
      | nil => cases hrun
      | cons s0 ρ =>
        cases s0 with
        | none => cases hrun
        | some s0 =>
          obtain ⟨d0, l0, a0, p0⟩ := s0
          dsimp only at hrun
          split at hrun
          · rename_i C' dx' fs'
            split at hrun
            · rename_i hc
              obtain ⟨rfl, rfl⟩ := hc
              cases hrun
              exact fun σ' H' L' sim fr => by
                cases hs : sim.sl with
                | so h0 h1 h2 =>
                  rename_i v0 σ0 F0 G0
                  obtain ⟨a, o, vs, ds, F, rfl, rfl, ha, hnd, hr⟩ := h1.node rfl
                  refine q a H' (a :: F) (fun b o e nb nt => fr.1 b o e (fun z => nb (List.mem_singleton.mp z)) nt) sim.nw sim.kp.t (fun b z => ?_) ?_ (h1.mono fun b z => ?_)
                  · exact (fr.2.2 b (List.mem_append_left _ z)).elim (fun y => .inr (List.mem_singleton.mp y)) .inl
                  · have := sim.nd
                    rw [List.nodup_append] at this
                    exact this.1
                  · exact ⟨z.1.2 rfl, fun y => z.2 rfl (List.mem_append_left _ y)⟩
            · cases hrun
          · cases hrun
    | rt ρ d l al => cases hrun
    | bk ρ => cases hrun
    | ct ρ => cases hrun
def eNew (C : Addr) (φ : List D → Option (List (Str × D))) (ga : EvA) : EvE := fun ρ => (ga ρ).bind fun rs => (φ (rs.map (·.d))).map fun fs => ⟨.ins C fs, .full, false, false⟩
section
variable {X : Cx} {k n : Nat} {C f : Addr} {fd : FuncData} {ps : List Str} {φ : List D → Option (List (Str × D))} {x : Str} {p pos : Pos} {e : Expr} {es : List Expr} {ga : EvA}
theorem e_new (M : Mk X.K C f) (F : FnOk X.prog X.w X.K X.mg X.base CX0 k f fd ps (spI X.K n C φ)) (hr : Room (k + 1) X.A) (hg : Gl X x) (hm : X.mg x = some (.ref C)) (hb : Binds X.K fd ps []) (ha : PAv X (e :: es) ga) (hl : ∀ ρ rs, ga ρ = some rs → rs.length + 1 = n)
    (hdb : (x == ("__debug__" : Str)) = false := by decide) (he : starEach (e :: es) X.env = (false, eval e X.env) :: starEach es X.env := by rfl) (hpl : (backTo pos (starEach es X.env)).any (·.1) = false := by rfl) :
    PEv X (.Call (.Name x p) (e :: es) [] pos) (eNew C φ ga) := by
  refine imp_e (pe_pin C (pe_make M F hr hg hm hb .nil pass0 ha hdb he hpl)) fun σ H Q ⟨N, H0, ρ, L, W, r, sim, z, q⟩ => ?_
  unfold eNew at z
  obtain ⟨rs, e1, z1⟩ := bind_some z
  clear z
  obtain ⟨fs, e2, z2⟩ := Option.map_eq_some_iff.mp z1
  subst z2
  refine ⟨N, H0, ρ, L, W, rs, sim, e1, fun vs H1 T s1 n1 d1 p1 => fun x0 dx hx hdx ne => ?_⟩
  rw [List.append_nil]
  have sm : Same H1 (upd (upd H1 dx (.own x0)) x0 (.ins C dx [])) := (same_upd hdx).trans (same_upd (by rw [upd_ne fun y => ne y.symm]; exact hx))
  have hdx1 : (upd (upd H1 dx (.own x0)) x0 (.ins C dx [])) dx = some (.own x0) := by rw [upd_ne ne, upd_same]
  refine ⟨x0, dx, vs, rs.map (·.d), fs, rfl, by rw [List.length_cons, p1.len]; exact hl ρ rs e1, upd_same, hdx1, ne, ?_, e2, ((sim.kp.tb.same s1).same sm), fun a H' F0 kp kf kt nF ndF rp => ?_⟩
  · exact (p1.look.trk.same sm).mono fun a z y => z.2 (by rw [y]; exact hx)
  · have fr : ∀ b, ((upd (upd H1 dx (.own x0)) x0 (.ins C dx [])) b = none ∨ b = x0) → H b = none := fun b z => by
      rcases z with z | z
      · exact s1.free (sm.free z)
      · rw [z]; exact s1.free hx
    have sH : Same H H' := ⟨fun b o hb nt => kp b o (sm.k b o (s1.k b o hb nt) nt) (fun y => by
      rw [y] at hb
      have := s1.k _ _ hb nt
      rw [hx] at this
      cases this) nt, fun b eb => fr b (kf b eb), fun P q t => kt P q (sm.t P q (s1.t P q t))⟩
    cases rp with
    | nd1 h0 hn h1 h2 =>
      cases hn with
      | obj ek =>
        refine ⟨rfl, x0, a, dx, _, rfl, h1, kp dx _ hdx1 ne trivial, fun ea => ?_⟩
        subst ea
        refine q _ H' _ sH (fun b z => fr b (nF b z)) ndF (.nd1 h0 (.ins ek) h1 (h2.mono fun b z => ?_))
        exact ⟨⟨.new (sim.nw b (fr b z.1)), fun _ w => sim.th b w (fr b z.1)⟩, z.2⟩
end
end Ev
set_option Elab.async false
set_option linter.all false
set_option maxRecDepth 100000
namespace Ev
open PySem PySem.Spec L2
open PyProof.Rows hiding St
section
variable {K : PySem.W.Frag} {S S' : Addr → Prop} {H : Hp} {l : Lv} {v : V} {F : List Addr}
theorem Rp.obj_inv {C dx : Addr} {fd : List (Str × D)} (p : Rp K S H l v (.obj C dx fd) F) : ∃ a fv G, v = .ref a ∧ H a = some (.ins C dx fv) ∧ fv.map (·.1) = fd.map (·.1) ∧ Rps K S H (ch l) (fv.map (·.2)) (fd.map (·.2)) G ∧ ∀ b ∈ G, b ∈ F := by
  cases p with
  | nd0 h h1 h2 h3 => cases h with | obj e => exact ⟨_, _, _, rfl, h1.ins, e, h3, fun _ z => z⟩
  | nd1 h0 h h1 h2 => cases h with | obj e => exact ⟨_, _, _, rfl, h1, e, h2, fun _ z => List.mem_cons_of_mem _ z⟩
end
def eAtO (C : Addr) (f : Str) (fe : EvE) : EvE := fun ρ => (fe ρ).bind fun x => match x.d with
  | .obj C' _ fd => if C' = C then (fd.lookup f).map (part x) else none
  | _ => none
section
variable {X : Cx} {C : Addr} {f : Str} {e value : Expr} {fe : EvE} {fp : EvP} {pos pos' : Pos}
theorem e_atO (c : Cls X.K C) (n : NoAttr X.K C f) (he : PEv X e fe) (hb : attributeBase e f X.env (eval e X.env) = eval e X.env := by rfl) : PEv X (.Attribute e f pos) (eAtO C f fe) := by
  refine imp_e (pe_fld he hb) fun σ H Q ⟨N, H0, ρ, L, W, r, sim, z, q⟩ => ?_
  unfold eAtO at z
  obtain ⟨x, e1, z2⟩ := bind_some z
  clear z
  have z := z2
  clear z2
  split at z
  · rename_i C' dx0 fd hd
    split at z
    · rename_i hC
      subst hC
      obtain ⟨d, e2, z⟩ := Option.map_eq_some_iff.mp z
      subst z
      refine one sim e1 fun v H1 F s1 n1 d1 p1 => ?_
      have new : ∀ a ∈ F, N a ∧ a ∉ W := fun a m => ⟨sim.nw a (n1 a m), fun w => sim.th a w (n1 a m)⟩
      have p2 := p1
      rw [hd] at p2
      obtain ⟨a, fv, G, rfl, h1, h2, h3, h4⟩ := p2.obj_inv
      obtain ⟨u, G2, e3, rp, sub⟩ := fld_rp h2 h3 e2
      exact ⟨a, C', dx0, fv, u, rfl, h1, c, n, e3, part_out q s1 new (fun a z => z.1) rp fun b z => h4 b (sub b z)⟩
    · cases z
  · cases z
def pFldO (C : Addr) (f : Str) (fp : EvP) : EvP := fun ρ => (fp ρ).bind fun z => match z.2.2 with
  | .obj C' _ fd => if C' = C then (fd.findIdx? fun q => q.1 == f).bind fun j => (kids z.2.2)[j]?.map fun e => (z.1, z.2.1 ++ [j], e) else none
  | _ => none
theorem pFldO_some {C : Addr} {f : Str} {ρ : Env} {i : Nat} {p : List Nat} {d : D} (z : pFldO C f fp ρ = some (i, p, d)) : ∃ p0 dx fd j, fp ρ = some (i, p0, .obj C dx fd) ∧ (fd.findIdx? fun q => q.1 == f) = some j ∧ (kids (.obj C dx fd))[j]? = some d ∧ p = p0 ++ [j] := by
  unfold pFldO at z
  obtain ⟨⟨i0, p0, d0⟩, e1, z1⟩ := bind_some z
  clear z
  split at z1
  · rename_i C' dx0 fd hd
    dsimp only at hd
    subst hd
    split at z1
    · rename_i hC
      subst hC
      obtain ⟨j, e2, z2⟩ := bind_some z1
      obtain ⟨e, e3, e4⟩ := Option.map_eq_some_iff.mp z2
      cases e4
      exact ⟨p0, dx0, fd, j, e1, e2, e3, rfl⟩
    · cases z1
  · cases z1
theorem p_fldO {C : Addr} {f : Str} (c : Cls X.K C) (n : NoAttr X.K C f) (h : PPv X e fp) (hb : attributeBase e f X.env (eval e X.env) = eval e X.env := by rfl) : PPv X (.Attribute e f pos) (pFldO C f fp) where
  run := imp_e (pe_fld h.run hb) fun σ H Q ⟨N, H0, ρ, L, W, i, p, d, sim, z, q⟩ => by
    obtain ⟨p0, dx0, fd, j, e1, e2, e3, rfl⟩ := pFldO_some z
    obtain ⟨s, es, hl, hd⟩ := h.ok ρ i p0 _ e1
    obtain ⟨v0, u', S, G, ev, w, r⟩ := sim.way es hl hd
    refine ⟨N, H0, ρ, L, W, i, p0, _, sim, e1, fun u H1 s1 at1 => ?_⟩
    have w1 := at1 v0 ev
    have := w1.fn (w.same s1)
    subst this
    obtain ⟨a, fv, G1, rfl, h1, h2, _, _⟩ := r.obj_inv
    obtain ⟨v, q1, q2⟩ := fld_at h2 e2
    refine ⟨a, C, dx0, fv, v, rfl, s1.k a _ h1 (by first | trivial | exact node_nt (by assumption)), c, n, q1, q v H1 s1 fun v1 e0 => ?_⟩
    rw [ev] at e0
    cases e0
    exact w1.snoc (s1.k a _ h1 (by first | trivial | exact node_nt (by assumption))) q2
  ok := fun ρ i p d z => by
    obtain ⟨p0, dx0, fd, j, e1, e2, e3, rfl⟩ := pFldO_some z
    obtain ⟨s, es, hl, hd⟩ := h.ok ρ i p0 _ e1
    exact ⟨s, es, hl, dAt_snoc hd e3⟩
def sAtPO (C : Addr) (f : Str) (fz : List Nat) (fp : EvP) (fe : EvE) : EvS := fun ρ0 => (fe (frzs fz ρ0)).bind fun r => (fp (frzs fz ρ0)).bind fun z => match z.2.2, (frzs fz ρ0)[z.1]? with
  | .obj C' dx fd, some (some s) => if C' = C ∧ r.vw = false ∧ r.l = .full ∧ fd.length < 1000 then some (.nx ((frzs fz ρ0).set z.1 (some ⟨dSet s.d z.2.1 (.obj C dx (putD f r.d fd)), .full, s.al || r.al, s.pn⟩))) else none
  | _, _ => none
theorem s_atpO (fz : List Nat) (c : Cls X.K C) (n : NoAttr X.K C f) (h : PPv X e fp) (hv : PEv X value fe) (hs : swapsWith value (some (.Attribute e f pos')) pos.line X.env = pure false := by rfl) :
    PSv X (.Assign [.Attribute e f pos'] value pos) (sAtPO C f fz fp fe) := by
  refine imp_s (ps_fld h.run hv hs) fun D σ H ⟨N, H0, ρ0, L0, o, sim0, z, q0⟩ => ?_
  obtain ⟨L, sim, subL⟩ := sim0.frzs fz
  have q := q0.at_ (H1 := H) (L1 := L) ⟨fun _ _ e _ _ => e, fun _ e => .inl e, fun b z => .inl (subL b z)⟩
  unfold sAtPO at z
  generalize frzs fz ρ0 = ρ at sim z
  obtain ⟨r, e1, z1⟩ := bind_some z
  obtain ⟨⟨i, p, d⟩, e2, z2⟩ := bind_some z1
  clear z z1
  dsimp only at z2
  split at z2
  · rename_i C' dx0 fd s es
    split at z2
    · rename_i hc
      obtain ⟨rfl, hvw, hfull, hlen⟩ := hc
      cases z2
      refine one sim.h e1 fun w H1 T s1 n1 d1 p1 => ?_
      rw [hfull] at p1
      obtain ⟨s', es', hl, hd⟩ := h.ok ρ i p _ e2
      rw [es] at es'
      cases es'
      refine ⟨N, H0, ρ, L, L ++ T, i, p, _, sim.h.hold s1 n1 d1 p1.own_mut, e2, fun u H2 s2 at2 => ?_⟩
      obtain ⟨v0, a, o, vs, ds, F, ev, w2, ha, hnd, hx, go⟩ := sim.store es hl hd rfl
      have := (at2 v0 ev).fn ((w2.same s1).same s2)
      subst this
      cases hnd with
      | obj ek =>
        clear hx
        rename_i fv
        have hlen' : fv.length < 1000 := by
          have := congrArg List.length ek
          rw [List.length_map, List.length_map] at this
          omega
        have p2 := (p1.mono (S' := fun b => SR N L r.al false b ∧ b ∉ T) fun a z => ⟨⟨z.1.1, fun _ => z.1.2 hvw⟩, z.2⟩).same s2
        obtain ⟨L', sim', fr⟩ := go (H1 := H2) (e' := .obj C' dx0 (putD f r.d fd)) (o' := .ins C' dx0 (putF f w fv)) (s1.trans s2) n1 d1 p2 trivial (fun r1 r2 nd => by
          obtain ⟨i1, F', i2, i3, i4⟩ := put_rps (f := f) r2 ek r1 nd
          exact ⟨_, _, F', .obj i1, i2, i3, i4⟩)
        exact ⟨a, C', dx0, fv, rfl, s2.k _ _ (s1.k _ _ ha (by first | trivial | exact node_nt (by assumption))) (by first | trivial | exact node_nt (by assumption)), c, n, hlen', q _ _ L' sim' fr⟩
    · cases z2
  · cases z2
end
end Ev
set_option Elab.async false
set_option linter.all false
set_option maxRecDepth 100000
namespace Ev
open PySem PySem.Spec L2
open PyProof.Rows hiding St
def getAt (x : Rv) (y : D) : Option Rv := match x.d with
  | .dk kd => (keyOf y).map fun k => match dlook kd k with
    | some d => part x d
    | none => rA .non
  | .dt kd => (match y with
    | .tup ks => (keysOf ks).map fun k => match dlook kd k with
      | some d => part x d
      | none => rA .non
    | _ => none)
  | _ => none
def eDGet (fo fk : EvE) : EvE := fun ρ => (fo ρ).bind fun x => (fk ρ).bind fun y => getAt x y.d
theorem valV_none {κ : Type} [DecidableEq κ] {kv : List (κ × V)} {kd : List (κ × D)} (h : kv.map (·.1) = kd.map (·.1)) {k : κ} (e : dlook kd k = none) : valV kv k = none := by
  have h1 := has_keys h k
  have h2 : dhas kd k = false := by
    unfold dlook at e
    unfold dhas
    rw [Option.map_eq_none_iff] at e
    rw [List.find?_eq_none] at e
    simpa using e
  rw [h2] at h1
  cases hv : valV kv k with
  | none => rfl
  | some z => rw [hv] at h1; cases h1
section
variable {X : Cx} {o e : Expr} {fo fk : EvE} {apos cpos : Pos}
theorem e_dget (hu : X.A.units + 65 < cLine) (ho : PEv X o fo) (he : PEv X e fk) (m : M1 X o "get" apos e cpos := by exact ⟨rfl, rfl, rfl, rfl⟩) : PEv X (.Call (.Attribute o "get" apos) [e] [] cpos) (eDGet fo fk) := by
  refine imp_e (pe_dget1 (by omega) ho he m) fun σ H Q ⟨N, H0, ρ, L, W, r, sim, z, q⟩ => ?_
  unfold eDGet at z
  obtain ⟨x, e1, z1⟩ := bind_some z
  obtain ⟨y, e2, z2⟩ := bind_some z1
  clear z z1
  refine one sim e1 fun v H1 F s1 n1 d1 p1 => ?_
  have new : ∀ a ∈ F, N a ∧ a ∉ W := fun a m => ⟨sim.nw a (n1 a m), fun w => sim.th a w (n1 a m)⟩
  unfold getAt at z2
  split at z2
  · rename_i kd hd
    obtain ⟨k, e3, e4⟩ := Option.map_eq_some_iff.mp z2
    subst e4
    have p0 := p1
    rw [hd] at p0
    obtain ⟨a, kv, G1, rfl, h1, h2, h3, h4⟩ := p0.dk_inv
    refine ⟨a, rfl, .inl ⟨kv, h1⟩, one (sim.hold s1 n1 d1 p1.own_mut) e2 fun w H2 G s2 n2 d2 p2 => ?_⟩
    have hk := p2.key e3
    subst hk
    refine ⟨valV kv k, DGet.rk (rd_same h1 (by first | trivial | exact node_nt (by assumption)) s2), ?_⟩
    cases hl : dlook kd k with
    | none =>
      rw [hl] at q
      rw [valV_none h2 hl]
      exact q.atom (s1.trans s2) fun S => .non
    | some d =>
      rw [hl] at q
      obtain ⟨u, G2, e5, rp, sub⟩ := look_rp h2 h3 hl
      rw [e5]
      exact part_out q (s1.trans s2) new (fun a z => z.1) (rp.same s2) fun b z => h4 b (sub b z)
  · rename_i kd hd
    split at z2
    · rename_i ks hy
      obtain ⟨k, e3, e4⟩ := Option.map_eq_some_iff.mp z2
      subst e4
      have p0 := p1
      rw [hd] at p0
      obtain ⟨a, kv, G1, rfl, h1, h2, h3, h4⟩ := p0.dt_inv
      refine ⟨a, rfl, .inr ⟨kv, h1⟩, one (sim.hold s1 n1 d1 p1.own_mut) e2 fun w H2 G s2 n2 d2 p2 => ?_⟩
      rw [hy] at p2
      obtain ⟨c, ws, rfl, h5, h6⟩ := p2.tup_inv
      refine ⟨valV kv k, DGet.rt (rd_same h1 (by first | trivial | exact node_nt (by assumption)) s2) (by rw [h5, h6.keys e3]), ?_⟩
      cases hl : dlook kd k with
      | none =>
        rw [hl] at q
        rw [valV_none h2 hl]
        exact q.atom (s1.trans s2) fun S => .non
      | some d =>
        rw [hl] at q
        obtain ⟨u, G2, e5, rp, sub⟩ := look_rp h2 h3 hl
        rw [e5]
        exact part_out q (s1.trans s2) new (fun a z => z.1) (rp.same s2) fun b z => h4 b (sub b z)
    · cases z2
  · cases z2
end
end Ev
set_option Elab.async false
set_option linter.all false
set_option maxRecDepth 100000
namespace Ev
open PySem PySem.Spec L2
open PyProof.Rows hiding St
def sBad : EvS := fun _ => none
theorem s_bad {X : Cx} {st : Stmt} : PSv X st sBad := ⟨fun _ _ _ _ _ _ ⟨_, _, _, _, _, _, z, _⟩ => nomatch z⟩
structure MetD (P : Program) (w : World) (K : PySem.W.Frag) (mg : Str → Option Value) (base : Heap) (k : Nat) (C : Addr) (m : Str) (n : Nat) (φ : List D → Option RetD) : Prop where
  ok : ∃ f fd ps, Meth K C m f ∧ FnOk P w K mg base CX0 k f fd ps (spD K n φ) ∧ Binds K fd ps []
structure NewD (P : Program) (w : World) (K : PySem.W.Frag) (mg : Str → Option Value) (base : Heap) (k : Nat) (C : Addr) (x : Str) (n : Nat) (φ : List D → Option (List (Str × D))) : Prop where
  ok : ∃ f fd ps, Mk K C f ∧ mg x = some (.ref C) ∧ FnOk P w K mg base CX0 k f fd ps (spI K n C φ) ∧ Binds K fd ps []
section
variable {X : Cx} {k n : Nat} {C : Addr} {m x : Str} {e o : Expr} {es : List Expr} {fo : EvE} {ga : EvA} {p pos apos : Pos} {φ : List D → Option RetD} {ψ : List D → Option (List (Str × D))}
theorem x_meth {pl : Sem Bool} (c : Cls X.K C) (M : MetD X.prog X.w X.K X.mg X.base k C m n φ) (hr : Room k X.A) (ho : PEv X o fo) (ha : PAv X (e :: es) ga) (hl : ∀ ρ rs, ga ρ = some rs → rs.length + 1 = n)
    (hst : starEach (e :: es) X.env = (false, eval e X.env) :: starEach es X.env := by rfl) (hpl : (backTo pos (starEach es X.env)).any (·.1) = false := by rfl)
    (ht : eval (.Call (.Attribute o m apos) (e :: es) [] pos) X.env = (do
      let ov ← eval o X.env
      standAt apos.atName
      let (f, first) ← holding [ov] (getMethod ov m pl)
      callWith pos f first (backTo pos (starEach (e :: es) X.env)) (backToKw pos (keywordEach [] X.env))) := by rfl) :
    PEv X (.Call (.Attribute o m apos) (e :: es) [] pos) (eMeth C m φ fo ga) := by
  obtain ⟨f, fd, ps, hm, F, hb⟩ := M.ok
  exact e_meth c hm F hb hr ho ha hl hst hpl ht
theorem x_meth0 {pl : Sem Bool} (c : Cls X.K C) (M : MetD X.prog X.w X.K X.mg X.base k C m 1 φ) (hr : Room k X.A) (ho : PEv X o fo)
    (ht : eval (.Call (.Attribute o m apos) [] [] pos) X.env = (do
      let ov ← eval o X.env
      standAt apos.atName
      let (f, first) ← holding [ov] (getMethod ov m pl)
      callWith pos f first (backTo pos (starEach [] X.env)) (backToKw pos (keywordEach [] X.env))) := by rfl) :
    PEv X (.Call (.Attribute o m apos) [] [] pos) (eMeth C m φ fo aNil) := by
  obtain ⟨f, fd, ps, hm, F, hb⟩ := M.ok
  exact e_meth0 c hm F hb hr ho ht
theorem x_new (M : NewD X.prog X.w X.K X.mg X.base k C x n ψ) (hr : Room (k + 1) X.A) (ha : PAv X (e :: es) ga) (hl : ∀ ρ rs, ga ρ = some rs → rs.length + 1 = n) (hg : Gl X x := by rfl)
    (hdb : (x == ("__debug__" : Str)) = false := by decide) (he : starEach (e :: es) X.env = (false, eval e X.env) :: starEach es X.env := by rfl) (hpl : (backTo pos (starEach es X.env)).any (·.1) = false := by rfl) :
    PEv X (.Call (.Name x p) (e :: es) [] pos) (eNew C ψ ga) := by
  obtain ⟨f, fd, ps, hM, hm, F, hb⟩ := M.ok
  exact e_new hM F hr hg hm hb ha hl hdb he hpl
theorem e_gint {i : Int} (hm : ∃ t, X.mg x = some (.int i t)) (hg : Gl X x := by rfl) (hdb : (x == ("__debug__" : Str)) = false := by decide) : PEv X (.Name x pos) (eC (.int i)) := by
  obtain ⟨t, hm⟩ := hm
  exact ⟨fun pins s σ H Q I ⟨N, H0, ρ, L, W, r, sim, z, q⟩ => ld_glob I hg hm (by
    cases z
    exact ⟨.int i, H, I, ⟨t, rfl⟩, q.atom (Same.refl H) fun _ => .int⟩) hdb⟩
end
end Ev
set_option Elab.async false
set_option linter.all false
set_option maxRecDepth 100000
namespace Ev
open PySem PySem.Spec L2
open PyProof.Rows hiding St
def ItiT (d : Addr) (o : Obj) (kvs : List (List Key × V)) : It :=
  ⟨fun i H => H d = some (.frz o (.dT kvs)) ∧ i < kvs.length, fun i H x H' => ∃ T k v q, kvs[i]? = some (k, v) ∧ x = .ref T ∧ H T = none ∧ H q = some (.tup (k.map kV)) ∧ H' = upd H T (.tup [.ref q, v]), fun i H => H d = some (.frz o (.dT kvs)) ∧ kvs.length ≤ i⟩
theorem frzT2 {X : Cx} {pins : List (Addr × Obj)} {σ : St} {H : Hp} {s : Shared} {d : Addr} {o : Obj} {kvs : List (List Key × V)} (I : Inv X pins σ H s) (h : H d = some (.frz o (.dT kvs))) :
    (d == sysModules) = false ∧ s.heap.get? d = some o ∧ o.ExactDict ∧ ∃ (es : Array DictEntry) (ep : Nat), o.data = .dict es ep ∧ es.size = kvs.length ∧
      ∀ (i : Nat) (k : List Key) (v : V), kvs[i]? = some (k, v) → ∃ (en : DictEntry) (q : Addr), es[i]? = some en ∧ en.key = .ref q ∧ H q = some (.tup (k.map kV)) ∧ RelV v en.val := by
  obtain ⟨hd, z, hs, xs, pr, o', es, ep, ho, hx, hdt, he, _⟩ := I.hok d _ h
  rw [hd] at ho
  cases ho
  refine ⟨hs, hd, hx, es, ep, hdt, ?_, fun i k v e => ?_⟩
  · have l1 : es.size = xs.length := size_of_entries he
    have l2 : kvs.length = xs.length := Paired.length pr
    omega
  · obtain ⟨b, hb, e1, e2, e3⟩ := paired_get pr e
    have q := entry_at he i
    rw [hb] at q
    exact ⟨_, b.2.1, q, rfl, e2, e3⟩
section
variable {P : Program} {w : World} {K : PySem.W.Frag} {d : Addr} {o : Obj} {es : Array DictEntry} {ep : Nat}
theorem turn_itemsT {kvs : List (List Key × V)} {elts : List Expr} {kk : Nat} {tpos : Pos} (it : Addr) (hod : o.data = .dict es ep) :
    Turn P w K (.Tuple elts kk tpos) (ItiT d o kvs) [it] it (fun i h => ∃ ok ov, IsItemIter h it d i kvs.length ep ok ov) where
  mem := by simp
  obj := fun i h st b hb => by
    have e : b = it := by simpa using hb
    subst e
    obtain ⟨ok, ov, e⟩ := st
    exact ⟨_, e, fun v z => nomatch z⟩
  keep := fun i h h' st k => let ⟨ok, ov, e⟩ := st; ⟨ok, ov, k it (by simp) _ e⟩
  item := by
    intro X hP hw hK hc i pins s σ H E I hf st hg
    subst hP hw hK
    obtain ⟨hd, hi⟩ := hg
    obtain ⟨hs, hgd, hx, es', ep', hdt, hsz, ent⟩ := frzT2 I hd
    obtain ⟨rfl, rfl⟩ := dict_ep hod hdt
    obtain ⟨⟨k, v⟩, hkv⟩ : ∃ p, kvs[i]? = some p := ⟨kvs[i], List.getElem?_eq_getElem hi⟩
    obtain ⟨en, q, hen, hkey, hq, ru⟩ := ent i k v hkv
    obtain ⟨ok, ov, he⟩ := st
    rw [← hsz] at he
    have hlt : it < s.heap.objs.size := Heap.lt_size he
    have hi' : i < es'.size := by omega
    have hen' : es'[i] = en := by
      have := Array.getElem?_eq_getElem hi'
      rw [hen] at this
      exact (Option.some.inj this).symm
    refine DT.nextI he ⟨o, hgd, hx, hdt⟩ hi' fun h' ho hT hz hk => ?_
    refine ⟨_, rfl, wpAny_letOwnedTupleGo_items (s := { s with heap := h' }) ho fun h'' he' sb => ?_⟩
    rw [hen'] at hT
    have hT2 : h''.get? s.heap.objs.size = some { cls := .type "tuple", data := .seq #[en.key, en.val] } := (sb.2 _ (Nat.ne_of_gt hlt)).trans hT
    have new : ObjOk X.prog X.w (upd H s.heap.objs.size (.tup [.ref q, v])) h'' s.heap.objs.size (.tup [.ref q, v]) :=
      ⟨by show 2 ≤ sizeLine; decide, [en.key, en.val], .cons hkey (.cons ru .nil), ⟨_, hT2, rfl, _, rfl⟩⟩
    have I1 : Inv X pins σ (upd H s.heap.objs.size (.tup [.ref q, v])) { s with heap := h'' } :=
      I.turnedNew (t' := s.toks) (ch := [it]) (fun b ob hb e => (sb.2 b (by simpa using hb)).trans (hk b ob (by simpa using hb) e)) hf (Nat.le_refl _) new
    refine ⟨.ref s.heap.objs.size, _, I1, rfl, ⟨_, k, v, q, hkv, rfl, I.hok.fresh (Nat.le_refl _), hq, rfl⟩, ⟨es'[i].key, es'[i].val, ?_⟩, fun b hb => ?_⟩
    · rw [← hsz]; exact he'
    · have e : b = it := by simpa using hb
      rw [e, upd_ne (Nat.ne_of_lt hlt)]
      exact (hf it (by simp)).1
  done := by
    intro X hP hw hK hc i pins s σ H E I hf st hg
    subst hP hw hK
    obtain ⟨hd, hi⟩ := hg
    obtain ⟨f0, f1, f2, f3, f4, f5⟩ := hf it (by simp)
    obtain ⟨hs, hgd, hx, es', ep', hdt, hsz, ent⟩ := frzT2 I hd
    obtain ⟨rfl, rfl⟩ := dict_ep hod hdt
    obtain ⟨ok, ov, he⟩ := st
    rw [← hsz] at he
    exact DT.endI (I.ok.hd hc) he ⟨o, hgd, hx, hdt⟩ (by omega) fun h' eb => ⟨rfl, I.turned (t' := s.toks) (fun b ob hb e => eb b ob hb e) f0 f1 f3 f4 f5⟩
  self := fun A i s Q E st h => let ⟨_, _, e⟩ := st; PySem.W.kcp_self e h
end
def iItemsT (td : TE) : TI := fun σ H R => td σ H fun x H1 => ∃ d o kvs, x = .ref d ∧ H1 d = some (.frz o (.dT kvs)) ∧ R (ItiT d o kvs) H1
section
variable {X : Cx} {tg e : Expr} {td : TE} {apos cpos : Pos}
theorem pi_itemsT {elts : List Expr} {kk : Nat} {tpos : Pos} (he : PE X e td) (hbase : attributeBase e "items" X.env (eval e X.env) = eval e X.env := by rfl) (hline : (apos.endLine == cpos.line) = true := by rfl) :
    PI X (.Tuple elts kk tpos) (.Call (.Attribute e "items" apos) [] [] cpos) (iItemsT td) := by
  refine ⟨fun pins s σ H R I h => ?_⟩
  refine wpAny_Call_method (T := "dict") (id := "dict.items") hbase rfl hline F.plainAttrs_dict F.slot_dict_items F.type_dict_items (thn (he.run pins s σ H _ I h) fun u s1 ⟨x, H1, I1, rx, d, o, kvs, ex, hd, q⟩ => ?_)
  subst ex
  obtain rfl : u = Value.ref d := rx
  obtain ⟨hs, hgd, hx, es, ep, hdt, hsz, ent⟩ := frzT2 I1 hd
  have rw0 : DT.Raw s1.heap d es ep := ⟨o, hgd, hx, hdt⟩
  refine ⟨rw0.typeIs, fun a e => by cases e; exact ⟨o, hgd, hx.2.1⟩, ?_⟩
  have I2 : Inv X pins σ H1 { s1 with heap := s1.heap.push { cls := .type "dict_items", data := .fields #[.ref d] } } := I1.kept (t' := s1.toks) fun b ob q => Heap.get?_push_of_some _ q
  have fin : wpAny (model X.prog X.w) X.A (pyIter (.ref s1.heap.objs.size)) (PIE X pins σ (.Tuple elts kk tpos) R) X.xe { s1 with heap := s1.heap.push { cls := .type "dict_items", data := .fields #[.ref d] } } := by
    refine DT.iterI (d := d) ⟨_, Heap.get?_push_size _ rfl, rfl, rfl⟩ (rw0.push _) (pi_one (tk := s1.toks) I2 _ (turn_itemsT _ hdt) ⟨.none, .none, ?_⟩ q)
    rw [← hsz]
    exact Heap.get?_push_size _ rfl
  show wpAny _ _ (callWith cpos (.builtin "dict.items") [.ref d] [] []) _ X.xe s1
  exact method_meetsIn F.slot_dict_items F.entry_dict_items rfl (PySem.evalArgs_none ⟨rfl, rw0.typeIs, F.args_dict_items_1 _, _, DT.meetsItems (es := es) (ep := ep) hs, rw0, fin⟩)
end
end Ev
set_option Elab.async false
set_option linter.all false
set_option maxRecDepth 100000
namespace Ev
open PySem PySem.Spec L2
open PyProof.Rows hiding St
def rdFld (C : Addr) (f : Str) (i : Nat) : Env → Option D := fun ρ => match ρ[i]? with
  | some (some s) => match s.d with
    | .ins C' fd => if C' = C then fd.lookup f else none
    | _ => none
  | _ => none
def isDct : D → Bool
  | .dk _ => true
  | .dt _ => true
  | _ => false
structure DP (X : Cx) (e : Expr) (fd : Env → Option D) : Prop where
  run : ∃ te, PE X e te ∧ ∀ {N : Nw} {H0 H : Hp} {ρ : Env} {σ : St} {L W : List Addr} {dd : D}, SimH X.K N H0 ρ σ H L W → fd ρ = some dd → isDct dd = true →
    ∃ d u vs ds, Rd H d u ∧ Node dd u vs ds ∧ (∃ S l F, Rps X.K S H l vs ds F) ∧ ∀ {H2 : Hp} {R : VK}, (∀ b o, b ≠ d → H b = some o → H2 b = some o) → R (.ref d) H2 → te σ H2 R
theorem rp_dct {K : PySem.W.Frag} {S : Addr → Prop} {H : Hp} {l : Lv} {v : V} {dd : D} {F : List Addr} (r : Rp K S H l v dd F) (h : isDct dd = true) : ∃ d u vs ds, v = .ref d ∧ Rd H d u ∧ Node dd u vs ds ∧ ∃ S l F, Rps K S H l vs ds F := by
  cases r with
  | nd0 hn h1 h2 h3 => exact ⟨_, _, _, _, rfl, h1.rd, hn, _, _, _, h3⟩
  | nd1 h0 hn h1 h2 => exact ⟨_, _, _, _, rfl, .inl h1, hn, _, _, _, h2⟩
  | _ => cases h
section
variable {X : Cx} {e : Expr} {pos : Pos} {C : Addr} {f : Str}
theorem dp_fld (i : Nat) {x : Str} {pos' : Pos} (c : Cls X.K C) (n : NoAttr X.K C f) (hN : X.N[i]? = some x := by rfl) (hv : Vis X.env.scope x := by first | exact Or.inl rfl | exact Or.inr (Or.inl rfl) | exact Or.inr (Or.inr rfl)) (hd : (x == ("__debug__" : Str)) = false := by decide)
    (hcd : (x == ("__classdict__" : Str)) = false := by decide) (hb : attributeBase (.Name x pos') f X.env (eval (.Name x pos') X.env) = eval (.Name x pos') X.env := by rfl) : DP X (.Attribute (.Name x pos') f pos) (rdFld C f i) := by
  refine ⟨_, pe_fld (pe_var hN hv hd hcd) hb, fun {N H0 H ρ σ L W dd} sim z hD => ?_⟩
  unfold rdFld at z
  split at z
  · rename_i s es
    split at z
    · rename_i C' fd hsd
      split at z
      · rename_i hC
        subst hC
        obtain ⟨v, G, ev, rp, _⟩ := sim.sl.get es
        rw [hsd] at rp
        obtain ⟨a, dx, fv, G2, rfl, h1, h2, h3, h4⟩ := rp.ins_inv
        obtain ⟨u0, G3, e3, rp3, sub⟩ := fld_rp h2 h3 z
        obtain ⟨d, u, vs, ds, rfl, hu, hn, hr⟩ := rp_dct rp3 hD
        refine ⟨d, u, vs, ds, hu, hn, hr, fun {H2 R} k r => ⟨_, ev, a, C', dx, fv, _, rfl, k a _ (fun y => ?_) h1, c, n, e3, r⟩⟩
        rcases hu with hu | ⟨od, hu⟩
        · rw [y, hu] at h1
          cases h1
          cases hn <;> cases hD
        · rw [y, hu] at h1
          cases h1
      · cases z
    · cases z
  · cases z
end
def keyD : Key → D
  | .inl i => .int i
  | .inr x => .str x
def itDT : D → Option (List D)
  | .dt kd => if immAll (kd.map (·.2)) = true then some (kd.map fun p => .tup [.tup (p.1.map keyD), p.2]) else none
  | _ => none
def hideN (ρ : Env) : Env := ρ.map fun s => match s with
  | some s => if imm s.d = true then some ⟨s.d, .full, false, none⟩ else none
  | none => none
theorem key_rp {K : PySem.W.Frag} {S : Addr → Prop} {H : Hp} {l : Lv} (k : Key) : Rp K S H l (kV k) (keyD k) [] := by
  cases k with
  | inl i => exact .int
  | inr x => exact .str
theorem keys_rp {K : PySem.W.Frag} {S : Addr → Prop} {H : Hp} {l : Lv} : ∀ ks : List Key, Rps K S H l (ks.map kV) (ks.map keyD) []
  | [] => .nil
  | k :: ks => Rps.cons (F := []) (G := []) (key_rp k) (keys_rp ks)
theorem hide_slots {K : PySem.W.Frag} {N : Nw} {L : List Addr} {H H2 : Hp} {N2 : Nw} (hk : ∀ b o, H b = some o → (¬ Mut (some o)) → H2 b = some o) : ∀ {σ : St} {ρ : Env} {F : List Addr}, Slots K N L H σ ρ F → Slots K N2 [] H2 σ (hideN ρ) []
  | _, _, _, .nil => .nil
  | _, _, _, .no h => .no (hide_slots hk h)
  | _, _, _, .so (s := s) (v := v) h0 h1 h => by
    show Slots K N2 [] H2 _ ((if imm s.d = true then some ⟨s.d, .full, false, none⟩ else none) :: hideN _) []
    by_cases hi : imm s.d = true
    · rw [if_pos hi]
      refine Slots.so (s := ⟨s.d, .full, false, none⟩) (F := []) (G := []) (fun _ z => nomatch z) ?_ (hide_slots hk h)
      have := (h1.of_imm (S' := fun _ => False) (l' := .shr) hi).2
      have := this.keep (H' := H2) fun b o e _ q => hk b o e (by
        rcases q with q | q | ⟨xs, rfl⟩ | ⟨o', u, rfl⟩
        · exact q.elim
        · exact nomatch q
        · exact fun z => z
        · exact fun z => z)
      exact (this.of_imm hi).2
    · rw [if_neg hi]
      exact .no (hide_slots hk h)
def eLcD (itD : D → Option (List D)) (fd : Env → Option D) (vs : List Nat) (t : Tg) (c : EvT) (e : EvE) : EvE := fun ρ => (fd ρ).bind fun x => (itD x).bind fun ds => (lcL t c e (wipeE vs (hideN ρ)) (ds.map fun d => (d, false))).bind fun rs => (mkBig rs).map fun r => ⟨r.d, r.l, false, false⟩
theorem immAll_get : ∀ {ds : List D} {i : Nat} {d : D}, immAll ds = true → ds[i]? = some d → imm d = true := fun {ds i d} h e => by
  rw [immAll_all] at h
  exact List.all_eq_true.mp h d (List.mem_of_getElem? e)
section
variable {K : PySem.W.Frag} {S : Addr → Prop} {H' : Hp} {x : Addr} {od : Obj} {u : HO}
mutual

theorem Rp.unlock (hx : H' x = some (.frz od u)) (hu : ∀ xs, u ≠ .lst xs) (hS : ∀ a, S a → a ≠ x) : ∀ {l : Lv} {v : V} {d : D} {F : List Addr}, Rp K S H' l v d F → (∀ a ∈ F, a ≠ x) → Rp K S (upd H' x u) l v d F
  | _, _, _, _, .any, _ => .any
  | _, _, _, _, .exc, _ => .exc
  | _, _, _, _, .sh h1, _ => .sh (Rp.unlock hx hu hS h1 (fun _ z => nomatch z))
  | _, _, _, _, .non, _ => .non
  | _, _, _, _, .bl, _ => .bl
  | _, _, _, _, .int, _ => .int
  | _, _, _, _, .str, _ => .str
  | _, _, _, _, .tup h1 h2, hF => .tup (by rw [upd_ne (fun y => by rw [y, hx] at h1; cases h1)]; exact h1) (Rps.unlock hx hu hS h2 hF)
  | _, _, _, _, .fl h1 h3, hF => .fl (by
      rcases h1 with ⟨o, h1⟩ | h1
      · exact .inl ⟨o, by rw [upd_ne (fun y => by rw [y, hx] at h1; cases h1; exact hu _ rfl)]; exact h1⟩
      · exact .inr h1) (Rps.unlock hx hu hS h3 (fun _ z => nomatch z))
  | _, _, _, _, .nd0 h0 h1 h2 h3, hF => .nd0 h0 (h1.imp fun _ e => by rw [upd_ne (hS _ h2)]; exact e) h2 (Rps.unlock hx hu hS h3 (fun _ z => nomatch z))
  | _, _, _, _, .nd1 h0 h1 h2 h3, hF => .nd1 h0 h1 (by rw [upd_ne (hF _ List.mem_cons_self)]; exact h2) (Rps.unlock hx hu hS h3 (fun a z => hF a (List.mem_cons_of_mem _ z)))
theorem Rps.unlock (hx : H' x = some (.frz od u)) (hu : ∀ xs, u ≠ .lst xs) (hS : ∀ a, S a → a ≠ x) : ∀ {l : Lv} {vs : List V} {ds : List D} {F : List Addr}, Rps K S H' l vs ds F → (∀ a ∈ F, a ≠ x) → Rps K S (upd H' x u) l vs ds F
  | _, _, _, _, .nil, _ => .nil
  | _, _, _, _, .cons h1 h2, hF => .cons (Rp.unlock hx hu hS h1 fun a z => hF a (List.mem_append_left _ z)) (Rps.unlock hx hu hS h2 fun a z => hF a (List.mem_append_right _ z))
end
end
section
variable {X : Cx} {elt e : Expr} {ifs : List Expr} {scope : Scope} {own : List (Str × Nat)} {pos apos cpos tpos : Pos} {t : Tg} {c : EvT} {fe : EvE} {fd : Env → Option D} {elts : List Expr} {kk : Nat}
theorem yld_dt {K : PySem.W.Frag} {N : Nw} {H2 : Hp} {d : Addr} {o : Obj} {kv : List (List Key × V)} {kd : List (List Key × D)} {S : Addr → Prop} {l : Lv} {F : List Addr} (hd : H2 d = some (.frz o (.dT kv))) (hk : kv.map (·.1) = kd.map (·.1)) (hr : Rps K S H2 l (kv.map (·.2)) (kd.map (·.2)) F) (hi : immAll (kd.map (·.2)) = true) :
    YldS K N [] H2 (ItiT d o kv) ((kd.map fun p => D.tup [.tup (p.1.map keyD), p.2]).map fun d => (d, false)) where
  go := fun i d' al H3 e s => by
    refine ⟨s.k d _ hd (by first | trivial | exact node_nt (by assumption)), ?_⟩
    have := (List.getElem?_eq_some_iff.mp e).1
    have e2 := congrArg List.length hk
    simp at this e2
    omega
  yld := fun i d' al H3 x H4 e s y => by
    obtain ⟨T, k, v, q, e1, rfl, hT, hq, rfl⟩ := y
    rw [List.getElem?_map, List.getElem?_map] at e
    obtain ⟨d2, e2, e3⟩ := Option.map_eq_some_iff.mp e
    obtain ⟨p, e4, rfl⟩ := Option.map_eq_some_iff.mp e2
    cases e3
    have hk1 : k = p.1 := by
      have := congrArg (fun l => l[i]?) hk
      simp only [List.getElem?_map, e1, e4, Option.map_some] at this
      exact Option.some.inj this
    subst hk1
    have sm : Same H3 (upd H3 T (.tup [.ref q, v])) := same_upd hT
    obtain ⟨w, G, e5, rp, _⟩ := hr.get (i := i) (d := p.2) (by rw [List.getElem?_map, e4]; rfl)
    rw [List.getElem?_map, e1] at e5
    cases e5
    have ip := immAll_get hi (i := i) (d := p.2) (by rw [List.getElem?_map, e4]; rfl)
    refine ⟨sm, .tup upd_same (Rps.cons (F := []) (G := []) (.tup (sm.k q _ hq (by first | trivial | exact node_nt (by assumption))) (keys_rp _)) (Rps.cons (F := []) (G := []) ?_ .nil))⟩
    exact ((rp.same (s.trans sm)).of_imm ip).2
  stop := fun H3 s => ⟨s.k d _ hd (by first | trivial | exact node_nt (by assumption)), by
    have e2 := congrArg List.length hk
    simp at e2 ⊢
    omega⟩
theorem lcD_core {vs : List Nat} (hv : (tgSlots t).all (fun j => decide (j ∈ vs)) = true) {N : Nw} {H0 H : Hp} {ρ : Env} {σ : St} {L W : List Addr} {ds : List D} {rs : List Rv} {r : Rv} {d : Addr} {u : HO} {od : Obj} {Q : VK} {J : It} (sim : SimH X.K N H0 ρ σ H L W) (hu : H d = some u) (mu : Mut (some u)) (neu : NE u) (hl : ∀ xs, u ≠ .lst xs)
    (e2 : lcL t c fe (wipeE vs (hideN ρ)) (ds.map fun d => (d, false)) = some rs) (e3 : mkBig rs = some r) (q : Post X.K N W H ⟨r.d, r.l, false, false⟩ Q)
    (Y : YldS X.K ⟨fun a => upd H d (.frz od u) a = none, fun _ => False, fun _ => 0⟩ [] (upd H d (.frz od u)) J (ds.map fun d => (d, false))) :
    tLc (fun _ _ R => R J (upd H d (.frz od u))) (tG X.K t) (tT X.K c) (tE X.K fe) vs σ (upd H d (.frz od u)) fun v H' => H' d = some (.frz od u) ∧ Q v (upd H' d u) := by
  have kp : ∀ b o, H b = some o → ¬ Mut (some o) → upd H d (.frz od u) b = some o := fun b o e n => by
    rw [upd_ne]
    · exact e
    · rintro rfl
      rw [hu] at e
      cases e
      exact n mu
  have sim2 : SimH X.K ⟨fun a => upd H d (.frz od u) a = none, fun _ => False, fun _ => 0⟩ (upd H d (.frz od u)) (hideN ρ) σ (upd H d (.frz od u)) [] [] :=
    ⟨.refl (sim.kp.tb.upd hu neu), fun _ e => e, List.nodup_nil, (fun _ z => nomatch z), (fun _ z => nomatch z), hide_slots kp sim.sl, (fun _ z => nomatch z), List.nodup_nil⟩
  refine lc_core (H := upd H d (.frz od u)) hv sim2 e2 e3 (fun v H' F s n nd rp => ?_) (Same.refl _) Y
  have hd' : H' d = some (.frz od u) := s.k d _ upd_same (by first | trivial | exact node_nt (by assumption))
  have nH : ∀ a, upd H d (.frz od u) a = none → H a = none ∧ a ≠ d := fun a e => by
    by_cases ha : a = d
    · subst ha
      rw [upd_same] at e
      cases e
    · rw [upd_ne ha] at e
      exact ⟨e, ha⟩
  have sm : Same H (upd H' d u) := ⟨fun b o e nt => by
    by_cases hb : b = d
    · subst hb
      rw [upd_same]
      rw [hu] at e
      exact e
    · rw [upd_ne hb]
      exact s.k b o (by rw [upd_ne hb]; exact e) nt, fun b e => by
    by_cases hb : b = d
    · subst hb
      rw [upd_same] at e
      cases e
    · rw [upd_ne hb] at e
      exact (nH b (s.f b e)).1, fun P q t => tabS_upd hd' trivial (s.t P q (tabS_upd hu neu t))⟩
  refine ⟨hd', q v _ F sm (fun a z => (nH a (n a z)).1) nd ?_⟩
  have rp2 : Rp X.K (fun a => (H a = none ∧ a ≠ d) ∧ a ∉ F) H' r.l v r.d F := rp.mono fun a z => ⟨nH a (z.1.1.1.elim id fun y => y.elim), z.2⟩
  exact (rp2.unlock hd' hl (fun a z => z.1.2) fun a z => (nH a (n a z)).2).mono fun a z => ⟨⟨.new (sim.nw a z.1.1), fun _ w => sim.th a w z.1.1⟩, z.2⟩
theorem lcD_core2 {vs : List Nat} (hv : (tgSlots t).all (fun j => decide (j ∈ vs)) = true) {N : Nw} {H0 H : Hp} {ρ : Env} {σ : St} {L W : List Addr} {ds : List D} {rs : List Rv} {r : Rv} {Q : VK} {J : It} (sim : SimH X.K N H0 ρ σ H L W)
    (e2 : lcL t c fe (wipeE vs (hideN ρ)) (ds.map fun d => (d, false)) = some rs) (e3 : mkBig rs = some r) (q : Post X.K N W H ⟨r.d, r.l, false, false⟩ Q)
    (Y : YldS X.K ⟨fun a => H a = none, fun _ => False, fun _ => 0⟩ [] H J (ds.map fun d => (d, false))) :
    tLc (fun _ _ R => R J H) (tG X.K t) (tT X.K c) (tE X.K fe) vs σ H Q := by
  have sim2 : SimH X.K ⟨fun a => H a = none, fun _ => False, fun _ => 0⟩ H (hideN ρ) σ H [] [] :=
    ⟨.refl sim.kp.tb, fun _ e => e, List.nodup_nil, (fun _ z => nomatch z), (fun _ z => nomatch z), hide_slots (fun _ _ e _ => e) sim.sl, (fun _ z => nomatch z), List.nodup_nil⟩
  refine lc_core (H := H) hv sim2 e2 e3 (fun v H' F s n nd rp => ?_) (Same.refl _) Y
  have rp : Rp X.K (fun a => (((H a = none ∨ False) ∧ _) ∧ _) ∧ _) H' r.l v r.d F := rp
  exact q v _ F s n nd (rp.mono fun a z => ⟨⟨.new (sim.nw a (z.1.1.1.elim id fun y => y.elim)), fun _ w => sim.th a w (z.1.1.1.elim id fun y => y.elim)⟩, z.2⟩)
theorem pe_lockO {X : Cx} {e : Expr} {t : TE} (h : PE X e t) : PE X e (fun σ H Q => tLockE t σ H Q ∨ t σ H Q) := ⟨fun pins s σ H Q I hw => hw.elim ((pe_lock h).run pins s σ H Q I) (h.run pins s σ H Q I)⟩
theorem e_lcDT (own : List (Str × Nat)) (hc : X.calm = true) (hN : X.N.Nodup) (he : DP X e fd) (ok : BlkOk X.N X.env.scope scope own)
    (hg : ∀ (s : Shared) (H : Hp) (C : Addr) (cl : List (Str × Addr)) (fp : List Addr), PGv (X.blk s H scope (compEnvC scope cl C X.env) fp) (.Tuple elts kk tpos) t) (ht : ∀ (s : Shared) (H : Hp) (C : Addr) (cl : List (Str × Addr)) (fp : List Addr), PTsv (X.blk s H scope (compEnvC scope cl C X.env) fp) ifs c)
    (hel : ∀ (s : Shared) (H : Hp) (C : Addr) (cl : List (Str × Addr)) (fp : List Addr), PEv (X.blk s H scope (compEnvC scope cl C X.env) fp) elt fe) (hv : (tgSlots t).all (fun j => decide (j ∈ own.map (·.2))) = true := by rfl)
    (hs : ∀ x, foldedSetIterable (.Call (.Attribute e "items" apos) [] [] cpos) X.env x = pure x := by intro _; rfl) (hbase : attributeBase e "items" X.env (eval e X.env) = eval e X.env := by rfl) (hline : (apos.endLine == cpos.line) = true := by rfl) :
    PEv X (.ListComp elt [⟨.Tuple elts kk tpos, .Call (.Attribute e "items" apos) [] [] cpos, ifs, 0⟩] scope pos) (eLcD itDT fd (own.map (·.2)) t c fe) := by
  obtain ⟨te, pe, run⟩ := he.run
  refine imp_e (pe_lockO (pe_lc (g := tG X.K t) (tt := tT X.K c) (te := tE X.K fe) hc hN (pi_itemsT pe hbase hline) ok hg ht hel hs)) fun σ H Q h => ?_
  obtain ⟨N, H0, ρ, L, W, r, sim, z, q⟩ := h
  unfold eLcD at z
  obtain ⟨dd, e0, z⟩ := bind_some z
  obtain ⟨ds, e1, z⟩ := bind_some z
  obtain ⟨rs, e2, z⟩ := bind_some z
  obtain ⟨r0, e3, z⟩ := Option.map_eq_some_iff.mp z
  subst z
  unfold itDT at e1
  split at e1
  · rename_i kd
    split at e1
    · rename_i hi
      cases e1
      obtain ⟨d, u, vs, es, hu, hn, ⟨S, l, F, hr⟩, go⟩ := run sim e0 rfl
      cases hn with
      | dt hk =>
        rename_i kv
        rcases hu with hu | ⟨od, hfr⟩
        case inr =>
          refine .inr (go (fun _ _ _ e => e) ⟨d, od, kv, rfl, hfr, ?_⟩)
          exact lcD_core2 hv sim e2 e3 q (yld_dt (S := S) (l := l) (F := F) hfr hk hr hi)
        refine .inl ⟨d, _, hu, trivial, fun od => ?_⟩
        have hfr : upd H d (.frz od (.dT kv)) d = some (.frz od (.dT kv)) := upd_same
        refine go (fun b o hb e => by rw [upd_ne hb]; exact e) ⟨d, od, kv, rfl, hfr, ?_⟩
        refine lcD_core hv sim hu trivial trivial (fun _ z => nomatch z) e2 e3 q (yld_dt (S := fun _ => False) (l := .shr) (F := []) hfr hk ?_ hi)
        have h2 := (hr.of_imm (S' := fun _ => False) (l' := .shr) hi).2
        exact h2.keep fun b o e _ qq => by
          have hb : b ≠ d := fun y => by
            subst y
            rw [hu] at e
            cases e
            rcases qq with qq | qq | ⟨xs, qq⟩ | ⟨o', u', qq⟩
            · exact qq.elim
            · exact nomatch qq
            · cases qq
            · cases qq
          rw [upd_ne hb]
          exact e
    · cases e1
  · cases e1
end
end Ev
set_option Elab.async false
set_option linter.all false
set_option maxRecDepth 100000
namespace Ev
open PySem PySem.Spec L2
open PyProof.Rows hiding St
def dedI (ns : List Int) : List Int := ns.foldl PyProof.Rows.step_dedup []
theorem dedI_eq (ns : List Int) : PyProof.Rows.firstMet (fun i => ns.getD i 0) ns.length = dedI ns := by
  unfold PyProof.Rows.firstMet dedI
  congr 1
  refine List.ext_getElem? fun i => ?_
  rw [List.getElem?_map]
  by_cases h : i < ns.length
  · rw [List.getElem?_range h, List.getElem?_eq_getElem h]
    simp [List.getD_eq_getElem?_getD, h]
  · rw [List.getElem?_eq_none (by simpa using h), List.getElem?_eq_none (by simpa using h)]
    rfl
def SetL (P : Program) (w : World) (a : Addr) (S : Int → Bool) (n : Nat) : HO := .ext fun h => h.SetOf (intKind P w) a S n
theorem setL_new {w : World} {P : Program} {H : Hp} {h : Heap} {a : Addr} {S : Int → Bool} {n : Nat} (R : h.SetOf (intKind P w) a S n) : ObjOk P w H h a (SetL P w a S n) := by
  have ⟨o, es, ep, t, ho, r⟩ := R
  exact ⟨R, ⟨o, ho⟩, fun h1 h2 ⟨o, es, ep, t, ho, r⟩ k => ⟨o, es, ep, t, k _ ho, r⟩⟩
section
variable {X : Cx} {e : Expr} {es : List Expr} {ga : EvA} {pos : Pos}
theorem cr_setL (hc : X.calm = true) : CallR X (.type "set") (fun xs H Q => ∃ (l : Addr) (ns : List Int), xs = [V.ref l] ∧ SqL X.K H l (ns.map V.int) ∧ ns.length < 4000 ∧
    ∀ p, H p = none → Q (.ref p) (upd H p (SetL X.prog X.w p (fun k => (dedI ns).any (· == k)) (dedI ns).length))) := by
  intro pins s σ H xs us Q I r ⟨l, ns, e, hq, hl, q⟩
  subst e
  rw [Vals.ref1 r]
  obtain ⟨its, rv, pl, hz⟩ := I.list hq
  have hlen : its.toArray.size = ns.length := by rw [List.size_toArray, ← rv.length, List.length_map]
  have hn : H s.heap.objs.size = none := I.hok.fresh (Nat.le_refl _)
  refine call_set_list (I.ok.hd hc) pl.isList (ns := ns) (by simpa using rv.ints) (by rw [hlen]; unfold scanBound; omega) fun h' tk hS k => ?_
  rw [hlen, dedI_eq] at hS
  exact ⟨.ref s.heap.objs.size, _, I.laid (t' := tk) (fun b o e => k b o (Heap.lt_size e) e) (Nat.le_refl _) (setL_new hS), rfl, q _ hn⟩
theorem cr_lenL : CallR X (.builtin "len") (fun xs H Q => ∃ a S n, xs = [V.ref a] ∧ H a = some (SetL X.prog X.w a S n) ∧ Q (.int n) H) := by
  intro pins s σ H xs us Q I r ⟨a, S, n, e, ha, q⟩
  subst e
  rw [Vals.ref1 r]
  obtain ⟨o, es, ep, t, ho, hex, hd, _, _, hsz, hf, hn⟩ := (I.hok a _ ha).1
  refine call_len_set ho hex hd hf (by unfold scanBound at hsz; omega) ⟨.int n, H, I.tok _, ⟨_, by rw [hn]⟩, q⟩
def bLenSet : List D → Option Ret
  | [d] => ((seqOf d).bind intsOf).bind fun ns => if ns.length < 4000 then some (.int (dedI ns).length, .full) else none
  | _ => none
theorem e_lenSet {p p2 q : Pos} (hc : X.calm = true) (hm : X.mg "len" = none) (hm2 : X.mg "set" = none) (ha : PAv X (e :: es) ga) (hg : Gl X "len" := by rfl) (hg2 : Gl X "set" := by rfl)
    (he : starEach (e :: es) X.env = (false, eval e X.env) :: starEach es X.env := by rfl) (hpl : (backTo q (starEach es X.env)).any (·.1) = false := by rfl) : PEv X (.Call (.Name "len" p) [.Call (.Name "set" p2) (e :: es) [] q] [] pos) (eBi bLenSet ga) := by
  refine imp_e (pe_callB cr_lenL hg hm PySem.boot_len (pa_cons (pe_callTy (cr_setL hc) hg2 hm2 PyProof.Rows.boot_set ha (by decide) (by decide) he hpl) pa_nil) (by decide) (by decide)) fun σ H Q h => ?_
  refine bi_read (r := fun xs H Q => ∃ (l : Addr) (ns : List Int), xs = [V.ref l] ∧ SqL X.K H l (ns.map V.int) ∧ ns.length < 4000 ∧
    ∀ p, H p = none → (fun x H2 => ∃ a S n, [x] = [V.ref a] ∧ H2 a = some (SetL X.prog X.w a S n) ∧ Q (.int n) H2) (.ref p) (upd H p (SetL X.prog X.w p (fun k => (dedI ns).any (· == k)) (dedI ns).length))) (fun S H vs ds z Q r e q => ?_) h
  unfold bLenSet at e
  split at e
  · rename_i d
    obtain ⟨ns, e1, e⟩ := bind_some e
    split at e
    · rename_i hlt
      cases e
      obtain ⟨xs, e2, e3⟩ := bind_some e1
      obtain ⟨v, rfl, r1⟩ := r.inv1
      obtain ⟨a, us, rfl, h1, h2⟩ := seq_rp r1 e2
      rw [intsOf_some e3] at h2
      obtain ⟨rfl, _⟩ := h2.ints
      exact ⟨a, ns, rfl, h1, hlt, fun p np => ⟨p, _, _, rfl, upd_same, q _ _ [] (same_upd np) (fun _ z => nomatch z) .nil .int⟩⟩
    · cases e
  · cases e
end
end Ev
set_option Elab.async false
set_option linter.all false
set_option maxRecDepth 100000
namespace Ev
open PySem PySem.Spec L2
open PyProof.Rows hiding St
section
variable {X : Cx} {e : Expr} {es : List Expr} {fa fb : EvE} {ga : EvA} {pos : Pos} {ta : TE} {t : TA}
theorem Post.ints {K : PySem.W.Frag} {N : Nw} {W : List Addr} {H H1 : Hp} {ns : List Int} {Q : VK} (q : Post K N W H ⟨.lst (ns.map .int), .full, false, false⟩ Q) (s : Same H H1) : ∀ p, H1 p = none → Q (.ref p) (upd H1 p (.lst (ns.map V.int))) := fun p np =>
  q _ _ [p] (s.trans (same_upd np)) (fun a m => by rw [List.mem_singleton.mp m]; exact s.free np) nodup1 (.nd1 (fun z => nomatch z) .lst upd_same (rps_ints ns))
end
end Ev
set_option Elab.async false
set_option linter.all false
set_option maxRecDepth 100000
namespace Ev
open PySem PySem.Spec L2
open PyProof.Rows hiding St
abbrev EvX := Env → Option (Env × Rv)
def tX (K : PySem.W.Frag) (f : EvX) : TE := fun σ H Q => ∃ N H0 ρ L ρ' r, Sim K N H0 ρ σ H L ∧ f ρ = some (ρ', r) ∧ ∀ H1 L1, Sim K N H0 ρ' σ H1 L1 → Frm H L H1 L1 → Post K N L1 H1 r Q
abbrev PXv (X : Cx) (e : Expr) (f : EvX) : Prop := PE X e (tX X.K f)
end Ev
set_option Elab.async false
set_option linter.all false
set_option maxRecDepth 100000
namespace Ev
open PySem PySem.Spec L2
open PyProof.Rows hiding St
section
variable {X : Cx} {e o tg : Expr} {es : List Expr} {fe fo : EvE} {fx : EvX} {pos pos' apos cpos p npos : Pos} {x : Str} {id : String}
theorem RpL.one {K : PySem.W.Frag} {N : Nw} {L : List Addr} {H : Hp} {v : V} {r : Rv} {F : List Addr} (h : Rp K (fun a => SR N L r.al r.vw a ∧ a ∉ F) H r.l v r.d F) : RpL K N L F H [v] [r] F := by
  have := RpL.cons (T := F) (h.mono fun a z => ⟨z.1, fun _ => z.2⟩) (RpL.nil (K := K) (N := N) (W := L) (T := F) (H := H))
  rw [List.append_nil] at this
  exact this
end
end Ev
set_option Elab.async false
set_option linter.all false
set_option maxRecDepth 100000
namespace Ev
open PySem PySem.Spec L2
open PyProof.Rows hiding St
def isHd : D → Bool
  | .tup ds => !immAll ds
  | .lst _ => true | .dk _ => true | .dt _ => true | .ins _ _ => true | .obj _ _ _ => true
  | _ => false
theorem Rp.hd {K : PySem.W.Frag} {S : Addr → Prop} {H : Hp} {u : V} {e : D} {G : List Addr} (r : Rp K S H .full u e G) (h : isHd e = true) : ∃ a, u = .ref a := by
  cases r with
  | nd1 h0 hn h1 h2 => exact ⟨_, rfl⟩
  | tup h1 h2 => exact ⟨_, rfl⟩
  | _ => simp [isHd] at h
inductive HArgs (K : PySem.W.Frag) (S : Addr → Prop) (H : Hp) : List Bool → List V → List D → List Addr → Prop
  | nil : HArgs K S H [] [] [] []
  | sh {ms : List Bool} {v : V} {d : D} {vs : List V} {ds : List D} {F : List Addr} : Rp K S H .shr v d [] → HArgs K S H ms vs ds F → HArgs K S H (false :: ms) (v :: vs) (d :: ds) F
  | ov {ms : List Bool} {v : V} {d : D} {vs : List V} {ds : List D} {F G : List Addr} : isHd d = true → Rp K S H .full v d G → HArgs K S H ms vs ds F → HArgs K S H (true :: ms) (v :: vs) (d :: ds) (G ++ F)
inductive HBack (K : PySem.W.Frag) (S : Addr → Prop) (H : Hp) : List V → List (Option D) → List Addr → Prop
  | nil : HBack K S H [] [] []
  | no {v : V} {vs : List V} {ds : List (Option D)} {F : List Addr} : HBack K S H vs ds F → HBack K S H (v :: vs) (none :: ds) F
  | so {v : V} {d : D} {vs : List V} {ds : List (Option D)} {F G : List Addr} : Rp K S H .full v d G → HBack K S H vs ds F → HBack K S H (v :: vs) (some d :: ds) (G ++ F)
theorem HArgs.mono {K : PySem.W.Frag} {S S' : Addr → Prop} {H : Hp} (h : ∀ a, S a → S' a) : ∀ {ms : List Bool} {vs : List V} {ds : List D} {F : List Addr}, HArgs K S H ms vs ds F → HArgs K S' H ms vs ds F
  | _, _, _, _, .nil => .nil
  | _, _, _, _, .sh r q => .sh (r.mono h) (HArgs.mono h q)
  | _, _, _, _, .ov i r q => .ov i (r.mono h) (HArgs.mono h q)
theorem HArgs.len {K : PySem.W.Frag} {S : Addr → Prop} {H : Hp} : ∀ {ms : List Bool} {vs : List V} {ds : List D} {F : List Addr}, HArgs K S H ms vs ds F → vs.length = ms.length ∧ ds.length = ms.length
  | _, _, _, _, .nil => ⟨rfl, rfl⟩
  | _, _, _, _, .sh _ q => ⟨by rw [List.length_cons, List.length_cons, q.len.1], by rw [List.length_cons, List.length_cons, q.len.2]⟩
  | _, _, _, _, .ov _ _ q => ⟨by rw [List.length_cons, List.length_cons, q.len.1], by rw [List.length_cons, List.length_cons, q.len.2]⟩
theorem HArgs.mu {K : PySem.W.Frag} {S : Addr → Prop} {H : Hp} : ∀ {ms : List Bool} {vs : List V} {ds : List D} {F : List Addr}, HArgs K S H ms vs ds F → ∀ a ∈ F, Mut (H a)
  | _, _, _, _, .nil => fun _ z => nomatch z
  | _, _, _, _, .sh _ q => q.mu
  | _, _, _, _, .ov _ r q => fun a z => (List.mem_append.mp z).elim (r.own_mut a) (q.mu a)
end Ev
set_option Elab.async false
set_option linter.all false
set_option maxRecDepth 100000
namespace Ev
open PySem PySem.Spec L2
open PyProof.Rows hiding St
theorem HBack.mono {K : PySem.W.Frag} {S S' : Addr → Prop} {H : Hp} (h : ∀ a, S a → S' a) : ∀ {vs : List V} {ds : List (Option D)} {F : List Addr}, HBack K S H vs ds F → HBack K S' H vs ds F
  | _, _, _, .nil => .nil
  | _, _, _, .no q => .no (HBack.mono h q)
  | _, _, _, .so r q => .so (r.mono h) (HBack.mono h q)
theorem HArgs.ref {K : PySem.W.Frag} {S : Addr → Prop} {H : Hp} : ∀ {ms : List Bool} {vs : List V} {ds : List D} {F : List Addr}, HArgs K S H ms vs ds F → ∀ (k : Nat) (v : V), vs[k]? = some v → ms[k]? = some true → ∃ a, v = V.ref a
  | _, _, _, _, .nil, _, _, e, _ => by simp at e
  | _, _, _, _, .sh _ q, 0, _, _, e => by simp at e
  | _, _, _, _, .ov hi r q, 0, _, e, _ => by
    obtain ⟨a, rfl⟩ := r.hd hi
    simp at e
    exact ⟨a, e.symm⟩
  | _, _, _, _, .sh _ q, k + 1, v, e1, e2 => q.ref k v (by simpa using e1) (by simpa using e2)
  | _, _, _, _, .ov _ _ q, k + 1, v, e1, e2 => q.ref k v (by simpa using e1) (by simpa using e2)
end Ev
set_option Elab.async false
set_option linter.all false
set_option maxRecDepth 100000
namespace Ev
open PySem PySem.Spec L2
open PyProof.Rows hiding St
inductive MA where
  | val (r : Rv) | slot (j : Nat) (s : Sv)
abbrev EvM := Env → Option (List MA)
inductive RowM (K : PySem.W.Frag) (N : Nw) (W T : List Addr) (H : Hp) (σ : St) : List MA → List V → List Addr → Prop
  | nil : RowM K N W T H σ [] [] []
  | val {r : Rv} {v : V} {as : List MA} {vs : List V} {F G : List Addr} : Rp K (fun a => SR N W r.al false a ∧ a ∉ T) H r.l v r.d F → RowM K N W T H σ as vs G → RowM K N W T H σ (.val r :: as) (v :: vs) (F ++ G)
  | slot {j : Nat} {s : Sv} {v : V} {as : List MA} {vs : List V} {G : List Addr} : σ[j]? = some (some v) → RowM K N W T H σ as vs G → RowM K N W T H σ (.slot j s :: as) (v :: vs) G
theorem RowM.mono {K : PySem.W.Frag} {N : Nw} {W W' T T' : List Addr} {H : Hp} {σ : St} (h : ∀ a, a ∉ W ∧ a ∉ T → a ∉ W' ∧ a ∉ T') : ∀ {as : List MA} {vs : List V} {F : List Addr}, RowM K N W T H σ as vs F → RowM K N W' T' H σ as vs F
  | _, _, _, .nil => .nil
  | _, _, _, .val r q => .val (r.mono fun a z => ⟨⟨z.1.1, fun _ => (h a ⟨z.1.2 rfl, z.2⟩).1⟩, (h a ⟨z.1.2 rfl, z.2⟩).2⟩) (RowM.mono h q)
  | _, _, _, .slot e q => .slot e (RowM.mono h q)
theorem RowM.len {K : PySem.W.Frag} {N : Nw} {W T : List Addr} {H : Hp} {σ : St} : ∀ {as : List MA} {vs : List V} {F : List Addr}, RowM K N W T H σ as vs F → vs.length = as.length
  | _, _, _, .nil => rfl
  | _, _, _, .val _ q => by rw [List.length_cons, List.length_cons, q.len]
  | _, _, _, .slot _ q => by rw [List.length_cons, List.length_cons, q.len]
end Ev
set_option Elab.async false
set_option linter.all false
set_option maxRecDepth 100000
namespace Ev
open PySem PySem.Spec L2
open PyProof.Rows hiding St
section
variable {K : PySem.W.Frag} {N : Nw}
theorem Slots.put {L0 : List Addr} {H : Hp} {σ : St} {ρ : Env} {F G : List Addr} {i : Nat} {v : V} {s : Sv} (h : Slots K N L0 H σ ρ F) (ev : σ[i]? = some (some v)) (pp : ∀ k, s.pn = some k → v = .ref (N.p k)) (rp : Rp K (SR N L0 s.al false) H s.l v s.d G) :
    ∃ F', Slots K N L0 H σ (ρ.set i (some s)) F' ∧ (∀ b ∈ F', b ∈ F ∨ b ∈ G) ∧ (F.Nodup → G.Nodup → (∀ b ∈ G, b ∉ F) → F'.Nodup) := by
  have hi : i < ρ.length := by rw [← h.len]; exact (List.getElem?_eq_some_iff.mp ev).1
  obtain ⟨F1, G0, F2, eF, _, p⟩ := h.at_ hi
  have z := p (L1 := L0) (H1 := H) (v := v) (s := s) (G' := G) (fun _ => .same (Same.refl H)) (fun _ z _ => z) pp rp
  have eσ : σ.set i (some v) = σ := by
    obtain ⟨h1, h2⟩ := List.getElem?_eq_some_iff.mp ev
    rw [← h2, List.set_getElem_self]
  rw [eσ] at z
  refine ⟨_, z, fun b m => ?_, fun nF nG dis => ?_⟩
  · rw [eF]
    rcases List.mem_append.mp m with m | m
    · exact .inl (by simp [m])
    · exact (List.mem_append.mp m).elim .inr fun m => .inl (by simp [m])
  · rw [eF] at nF dis
    rw [List.nodup_append, List.nodup_append] at nF
    rw [List.nodup_append, List.nodup_append]
    exact ⟨nF.1, ⟨nG, nF.2.1.2.1, fun a m b m2 e => dis a m (by rw [e]; simp [m2])⟩, fun a m b m2 e => (List.mem_append.mp m2).elim (fun m2 => dis b m2 (by rw [← e]; simp [m])) fun m2 => nF.2.2 a m b (by simp [m2]) e⟩
end
end Ev
set_option Elab.async false
set_option linter.all false
set_option maxRecDepth 100000
namespace Ev
open PySem PySem.Spec L2
open PyProof.Rows hiding St
end Ev
set_option Elab.async false
set_option linter.all false
set_option maxRecDepth 100000
namespace Ev
open PySem PySem.Spec L2
open PyProof.Rows hiding St
theorem set_mid {α : Type} (f : α → α) (ds : List α) (k : Nat) (hk : k < ds.length) : ((ds.take k).map f ++ ds.drop k).set k (f ds[k]) = (ds.take (k + 1)).map f ++ ds.drop (k + 1) := by
  have hl : ((ds.take k).map f).length = k := by rw [List.length_map, List.length_take]; omega
  have e1 : ds.take (k + 1) = ds.take k ++ [ds[k]] := by rw [List.take_succ, List.getElem?_eq_getElem hk]; rfl
  rw [List.set_append_right _ _ (by omega), hl, Nat.sub_self, List.drop_eq_getElem_cons hk, List.set_cons_zero, e1, List.map_append, List.append_assoc]
  rfl
theorem Slots.any {K : PySem.W.Frag} {N : Nw} {L : List Addr} {H : Hp} (y : Option V) : ∀ {σ : St} {ρ : Env} {F : List Addr} (i : Nat), Slots K N L H σ ρ F → ρ[i]? = some none → Slots K N L H (σ.set i y) ρ F
  | _, _, _, _, .nil, h => by simp at h
  | _, _, _, 0, .no h, _ => .no h
  | _, _, _, i + 1, .no h, e => .no (Slots.any y i h (by simpa using e))
  | _, _, _, 0, .so _ _ _, e => by simp at e
  | _, _, _, i + 1, .so h0 h1 h, e => .so h0 h1 (Slots.any y i h (by simpa using e))
theorem Sim.any {K : PySem.W.Frag} {N : Nw} {H0 H : Hp} {ρ : Env} {σ : St} {L : List Addr} (s : Sim K N H0 ρ σ H L) (y : Option V) {i : Nat} (h : ρ[i]? = some none) : Sim K N H0 ρ (σ.set i y) H L := ⟨s.kp, s.nw, s.nd, s.ln, s.mu, s.sl.any y i h⟩
theorem Slots.wipe {K : PySem.W.Frag} {N : Nw} {L : List Addr} {H : Hp} : ∀ {σ : St} {ρ : Env} {F : List Addr} (i : Nat), Slots K N L H σ ρ F → ∃ F', Slots K N L H σ (ρ.set i none) F' ∧ F'.Sublist F
  | _, _, _, i, .nil => ⟨[], by cases i <;> exact .nil, List.Sublist.refl _⟩
  | _, _, F, 0, .no h => ⟨F, .no h, List.Sublist.refl _⟩
  | _, _, _, 0, .so (F := F) (G := G) _ _ h => ⟨G, .no h, List.sublist_append_right F G⟩
  | _, _, _, i + 1, .no h => let ⟨F', s, q⟩ := Slots.wipe i h; ⟨F', .no s, q⟩
  | _, _, _, i + 1, .so (F := F) h0 h1 h => let ⟨F', s, q⟩ := Slots.wipe i h; ⟨F ++ F', .so h0 h1 s, List.Sublist.append (List.Sublist.refl F) q⟩
theorem Sim.wipe {K : PySem.W.Frag} {N : Nw} {H0 H : Hp} {ρ : Env} {σ : St} {L : List Addr} (s : Sim K N H0 ρ σ H L) (i : Nat) : ∃ L', Sim K N H0 (ρ.set i none) σ H L' ∧ ∀ b ∈ L', b ∈ L := by
  obtain ⟨F', h, q⟩ := s.sl.wipe i
  exact ⟨F', ⟨s.kp, s.nw, q.nodup s.nd, fun a z => s.ln a (q.subset z), fun a z => s.mu a (q.subset z), h.mono fun a z m => z (q.subset m)⟩, fun b z => q.subset z⟩
end Ev
set_option Elab.async false
set_option linter.all false
set_option maxRecDepth 100000
namespace Ev
open PySem PySem.Spec L2
open PyProof.Rows hiding St
def lend (i : Nat) (ρ : Env) : Env := match ρ[i]? with
  | some (some s) => ρ.set i (some ⟨s.d, .shr, true, none⟩)
  | _ => ρ
def eBor (i : Nat) (fe : EvE) : EvE := fun ρ => (fe (lend i ρ)).bind fun r => if imm r.d = true then some (rA r.d) else if r.al = false ∧ r.vw = false then some r else none
theorem Slots.conv {K : PySem.W.Frag} {N N' : Nw} {L L' : List Addr} {H : Hp} (hp : N'.p = N.p) (h : ∀ al a, SR N L al false a → SR N' L' al false a) : ∀ {σ : St} {ρ : Env} {F : List Addr}, Slots K N L H σ ρ F → Slots K N' L' H σ ρ F
  | _, _, _, .nil => .nil
  | _, _, _, .no q => .no (Slots.conv hp h q)
  | _, _, _, .so h0 h1 q => .so (fun k e => by rw [hp]; exact h0 k e) (h1.mono fun a z => h _ a z) (Slots.conv hp h q)
theorem SimH.lend {K : PySem.W.Frag} {N : Nw} {H0 H : Hp} {ρ : Env} {σ : St} {L W : List Addr} (sim : SimH K N H0 ρ σ H L W) (i : Nat) :
    ∃ (N' : Nw) (L' W' : List Addr), SimH K N' H (lend i ρ) σ H L' W' ∧ ∀ a, SR N' W' false false a → SR N W false false a := by
  unfold Ev.lend
  split
  · rename_i s es
    obtain ⟨F1, G, F2, v, eL, ev, rp, sl⟩ := sim.sl.hide es
    have gW : ∀ a ∈ G, a ∈ W := fun a m => sim.sub a (by rw [eL]; simp [m])
    let W' := W.filter fun a => decide (a ∉ G)
    have hW' : ∀ a, a ∈ W' ↔ a ∈ W ∧ a ∉ G := fun a => by
      show a ∈ W.filter _ ↔ _
      rw [List.mem_filter, decide_eq_true_eq]
    let N' : Nw := ⟨fun a => N a ∧ a ∉ G, fun a => N.s a ∨ a ∈ G, N.p⟩
    have out : ∀ a, a ∉ W → a ∉ G := fun a n m => n (gW a m)
    have cv : ∀ al a, SR N W al false a → SR N' W' al false a := fun al a z => by
      have hG := out a (z.2 rfl)
      refine ⟨⟨z.1.1.imp (fun y => ⟨y, hG⟩) .inl, fun e => ⟨z.1.2 e, hG⟩⟩, fun _ m => z.2 rfl ((hW' a).mp m).1⟩
    have sl' : Slots K N' W' H σ (ρ.set i none) (F1 ++ F2) := Slots.conv (N := N) (N' := N') (L := W) (L' := W') rfl cv sl
    have nd := sim.ndl
    rw [eL, List.nodup_append, List.nodup_append] at nd
    obtain ⟨a1, ⟨a2, a3, a4⟩, a5⟩ := nd
    have n12 : (F1 ++ F2).Nodup := by
      rw [List.nodup_append]
      exact ⟨a1, a3, fun a m b m2 => a5 a m b (by simp [m2])⟩
    have g12 : ∀ b ∈ F1 ++ F2, b ∉ G := fun b m m2 => (List.mem_append.mp m).elim (fun y => a5 b y b (by simp [m2]) rfl) fun y => a4 b m2 b y rfl
    have sub12 : ∀ b ∈ F1 ++ F2, b ∈ L := fun b m => by
      rw [eL]
      rcases List.mem_append.mp m with m | m <;> simp [m]
    obtain ⟨F', h1, h2, h3⟩ := sl'.put (s := ⟨s.d, .shr, true, none⟩) (G := []) ev (fun _ z => nomatch z) (rp.give (fun a z => ⟨⟨z.1.1.imp (fun y => ⟨y, out a (z.2 rfl)⟩) .inl, (fun e => nomatch e)⟩, fun _ m => z.2 rfl ((hW' a).mp m).1⟩) fun a m => ⟨⟨.inr (.inr m), (fun e => nomatch e)⟩, fun _ m2 => ((hW' a).mp m2).2 m⟩)
    rw [List.set_set] at h1
    refine ⟨N', F', W', ⟨.refl sim.kp.tb, fun b e => ⟨sim.nw b e, fun m => sim.th b (gW b m) e⟩, List.filter_sublist.nodup sim.nd, fun a m => ⟨sim.ln a ((hW' a).mp m).1, ((hW' a).mp m).2⟩, fun a m => sim.mu a ((hW' a).mp m).1, h1, fun a m => (hW' a).mpr ?_, h3 n12 .nil (fun _ z => nomatch z)⟩, fun a z => ?_⟩
    · rcases h2 a m with y | y
      · exact ⟨sim.sub a (sub12 a y), g12 a y⟩
      · cases y
    · have hn := z.1.2 rfl
      exact ⟨.new hn.1, fun _ m => z.2 rfl ((hW' a).mpr ⟨m, hn.2⟩)⟩
  · exact ⟨N, L, W, ⟨.refl sim.kp.tb, sim.nw, sim.nd, sim.ln, sim.mu, sim.sl, sim.sub, sim.ndl⟩, fun a z => z⟩
theorem bor_te {K : PySem.W.Frag} {fe : EvE} {i : Nat} {σ : St} {H : Hp} {Q : VK} (h : tE K (eBor i fe) σ H Q) : tE K fe σ H Q := by
  obtain ⟨N, H0, ρ, L, W, r, sim, z, q⟩ := h
  unfold eBor at z
  obtain ⟨r', e1, z⟩ := bind_some z
  obtain ⟨N', L', W', sim', cv⟩ := sim.lend i
  refine ⟨N', H, _, L', W', r', sim', e1, fun v H1 F s1 n1 d1 p1 => ?_⟩
  split at z
  · rename_i hi
    cases z
    exact q.atom s1 fun S => (p1.of_imm hi).2
  · split at z
    · rename_i hc
      cases z
      obtain ⟨rd, rl, ra, rv⟩ := r
      obtain ⟨h1, h2⟩ := hc
      dsimp only at h1 h2
      subst h1 h2
      exact q v H1 F s1 n1 d1 (p1.mono fun a z => ⟨cv a z.1, z.2⟩)
    · cases z
section
variable {X : Cx} {e : Expr} {fe : EvE} {elt tg iter : Expr} {ifs : List Expr} {scope : Scope} {pos spos py : Pos} {it : EvI} {t : Tg} {c : EvT}
theorem e_bor (i : Nat) (he : PEv X e fe) : PEv X e (eBor i fe) := imp_e he fun _ _ _ h => bor_te h
end
end Ev
set_option Elab.async false
set_option linter.all false
set_option maxRecDepth 100000
namespace Ev
open PySem PySem.Spec L2
open PyProof.Rows hiding St
theorem for_run {K : PySem.W.Frag} {N : Nw} {H0 H1 : Hp} {ρX : Env} {σ : St} {L : List Addr} {t : Tg} {b : EvS} {J : It} {items : List (D × Bool)} {o : Out} {De : Ends} (sim : Sim K N H0 ρX σ H1 L) (Y : Yld K N L H1 J items) (z : forL t b items ρX = some o) (q : PostS K N H0 H1 L o De) :
    ∃ W : Nat → Nat → St → Hp → Prop, (∃ m, W 0 m σ H1) ∧ ∀ i m σ H, W i m σ H →
      (J.stop i H ∧ De.nx σ H) ∨ (J.go i H ∧ ∃ N' : St → Hp → Prop, (∀ σ' H', N' σ' H' → ∃ m', m' < m ∧ W (i + 1) m' σ' H') ∧ ∀ x H', J.yld i H x H' → tG K t x σ H' fun σ2 H2 => tS K b { De with nx := N', ct := N', bk := De.nx } σ2 H2) := by
  refine ⟨fun i m σ' H' => m = items.length - i ∧ i ≤ items.length ∧ ∃ ρ' L', Sim K N H0 ρ' σ' H' L' ∧ Frm H1 L H' L' ∧ forL t b (items.drop i) ρ' = some o ∧ PostS K N H0 H' L' o De,
    ⟨items.length, by simp, Nat.zero_le _, _, L, sim, Frm.refl _ _, by simpa using z, q⟩, ?_⟩
  rintro i m σ' H' ⟨rfl, hi, ρ', L', sim', fr, zi, qi⟩
  have kept : Kept H1 L H' := fr.1
  by_cases hlt : i < items.length
  · obtain ⟨⟨d, al⟩, ei⟩ : ∃ x, items[i]? = some x := ⟨items[i], List.getElem?_eq_getElem hlt⟩
    have ed : items.drop i = (d, al) :: items.drop (i + 1) := by
      rw [List.drop_eq_getElem_cons hlt]
      have := List.getElem?_eq_getElem hlt
      rw [ei] at this
      rw [← Option.some.inj this]
    rw [ed] at zi
    unfold forL at zi
    obtain ⟨ρ1, et, zi⟩ := bind_some zi
    obtain ⟨ob, eb, zi⟩ := bind_some zi
    refine .inr ⟨Y.go i d al H' ei kept, fun σ'' H'' => ∃ m', m' < items.length - i ∧ (m' = items.length - (i + 1) ∧ i + 1 ≤ items.length ∧ ∃ ρ' L', Sim K N H0 ρ' σ'' H'' L' ∧ Frm H1 L H'' L' ∧ forL t b (items.drop (i + 1)) ρ' = some o ∧ PostS K N H0 H'' L' o De), fun _ _ h => h, fun x H3 y => ?_⟩
    obtain ⟨s3, r3⟩ := Y.yld i d al H' x H3 ei kept y
    have fr3 : Frm H' L' H3 L' := Frm.same s3 fun b z => .inl z
    refine ⟨N, H0, ρ', L', L', d, al, ρ1, (sim'.same s3).h, r3.mono fun a z => ⟨z.1.1, fun _ w => (fr.2.2 a w).elim (z.1.2 rfl) z.2⟩, et, fun σ2 L2 sim2 sub2 _ => ?_⟩
    have fr2 : Frm H' L' H3 L2 := Frm.same s3 fun b z => .inl (sub2 b z)
    refine ⟨N, H0, ρ1, L2, ob, sim2.sim, eb, ?_⟩
    have again : ∀ {ρ2 : Env}, forL t b (items.drop (i + 1)) ρ2 = some o → ∀ σ4 H4 L4, Sim K N H0 ρ2 σ4 H4 L4 → Frm H3 L2 H4 L4 → ∃ m', m' < items.length - i ∧ (m' = items.length - (i + 1) ∧ i + 1 ≤ items.length ∧ ∃ ρ' L', Sim K N H0 ρ' σ4 H4 L' ∧ Frm H1 L H4 L' ∧ forL t b (items.drop (i + 1)) ρ' = some o ∧ PostS K N H0 H4 L' o De) :=
      fun z4 σ4 H4 L4 sim4 fr4 => ⟨_, by omega, rfl, hlt, _, L4, sim4, fr.trans (fr2.trans fr4), z4, qi.at_ (fr2.trans fr4)⟩
    cases ob with
    | nx ρ2 => exact again zi
    | ct ρ2 => exact again zi
    | bk ρ2 => cases zi; exact fun σ4 H4 L4 sim4 fr4 => qi σ4 H4 L4 sim4 (fr2.trans fr4)
    | rt ρ2 d l al => cases zi; exact qi.at_ fr2
  · have ei : i = items.length := by omega
    subst ei
    rw [List.drop_length] at zi
    unfold forL at zi
    cases zi
    exact .inl ⟨Y.stop H' kept, qi σ' H' L' sim' (Frm.refl _ _)⟩
def noPin (k : Nat) (ρ : Env) : Bool := ρ.all fun o => match o with
  | some s => decide (s.pn ≠ some k)
  | none => true
def clr (k : Nat) (ρ : Env) : Env := ρ.map fun o => o.map fun s => if s.pn = some k then ⟨s.d, s.l, s.al, none⟩ else s
def topP : Env → Nat
  | [] => 0
  | some s :: ρ => match s.pn with
    | some k => max (k + 1) (topP ρ)
    | none => topP ρ
  | none :: ρ => topP ρ
theorem topP_no : ∀ (ρ : Env) (k : Nat), topP ρ ≤ k → noPin k ρ = true
  | [], _, _ => rfl
  | none :: ρ, k, h => by
    show (true && noPin k ρ) = true
    rw [topP_no ρ k h]; rfl
  | some s :: ρ, k, h => by
    show (decide (s.pn ≠ some k) && noPin k ρ) = true
    unfold topP at h
    cases e : s.pn with
    | none =>
      rw [e] at h
      rw [topP_no ρ k h]; rfl
    | some j =>
      rw [e] at h
      dsimp only at h
      rw [topP_no ρ k (by omega)]
      simp; omega
theorem Slots.into {K : PySem.W.Frag} {N N' : Nw} {L L' : List Addr} {H : Hp} {k0 : Nat} (hp : ∀ k, k ≠ k0 → N'.p k = N.p k) (h : ∀ al a, SR N L al false a → SR N' L' al false a) : ∀ {σ : St} {ρ : Env} {F : List Addr}, Slots K N L H σ ρ F → noPin k0 ρ = true → Slots K N' L' H σ ρ F
  | _, _, _, .nil, _ => .nil
  | _, _, _, .no q, e => .no (Slots.into hp h q (by simpa [noPin] using e))
  | _, _, _, .so (s := s) h0 h1 q, e => by
    simp only [noPin, List.all_cons, Bool.and_eq_true, decide_eq_true_eq] at e
    exact .so (fun k ek => by rw [hp k fun z => e.1 (by rw [ek, z])]; exact h0 k ek) (h1.mono fun a z => h _ a z) (Slots.into hp h q e.2)
theorem Slots.outof {K : PySem.W.Frag} {N N' : Nw} {L L' : List Addr} {H : Hp} {k0 : Nat} (hp : ∀ k, k ≠ k0 → N'.p k = N.p k) (h : ∀ al a, SR N' L' al false a → SR N L al false a) : ∀ {σ : St} {ρ : Env} {F : List Addr}, Slots K N' L' H σ ρ F → Slots K N L H σ (clr k0 ρ) F
  | _, _, _, .nil => .nil
  | _, _, _, .no q => .no (Slots.outof hp h q)
  | _, _, _, .so (s := s) h0 h1 q => by
    have r := Slots.outof (k0 := k0) hp h q
    by_cases e : s.pn = some k0
    · have z := Slots.so (K := K) (N := N) (L := L) (H := H) (s := ⟨s.d, s.l, s.al, none⟩) (fun _ z => nomatch z) (h1.mono fun a z => h _ a z) r
      unfold clr at z ⊢
      rw [List.map_cons, Option.map_some, if_pos e]
      exact z
    · have z := Slots.so (K := K) (N := N) (L := L) (H := H) (s := s) (fun k ek => by rw [← hp k fun z => e (by rw [ek, z])]; exact h0 k ek) (h1.mono fun a z => h _ a z) r
      unfold clr at z ⊢
      rw [List.map_cons, Option.map_some, if_neg e]
      exact z
end Ev
set_option Elab.async false
set_option linter.all false
set_option maxRecDepth 100000
namespace Ev
open PySem PySem.Spec L2
open PyProof.Rows hiding St
end Ev
set_option Elab.async false
set_option linter.all false
set_option maxRecDepth 100000
namespace Ev
open PySem PySem.Spec L2
open PyProof.Rows hiding St
abbrev DctO (u : HO) : Prop := (∃ kv, u = .dK kv) ∨ ∃ kv, u = .dT kv
theorem DctO.mu {u : HO} (h : DctO u) : Mut (some u) := by
  rcases h with ⟨kv, rfl⟩ | ⟨kv, rfl⟩ <;> trivial
section
variable {K : PySem.W.Frag} {S : Addr → Prop} {H : Hp} {x : Addr} {od : Obj} {u : HO}
mutual
theorem Rp.lock (hu : H x = some u) (hd : DctO u) : ∀ {l : Lv} {v : V} {d : D} {F : List Addr}, Rp K S H l v d F → (∀ a ∈ F, a ≠ x) → Rp K S (upd H x (.frz od u)) l v d F
  | _, _, _, _, .any, _ => .any
  | _, _, _, _, .exc, _ => .exc
  | _, _, _, _, .sh h1, _ => .sh (Rp.lock hu hd h1 (fun _ z => nomatch z))
  | _, _, _, _, .non, _ => .non
  | _, _, _, _, .bl, _ => .bl
  | _, _, _, _, .int, _ => .int
  | _, _, _, _, .str, _ => .str
  | _, _, _, _, .tup h1 h2, hF => .tup (by rw [upd_ne (fun y => by rw [y, hu] at h1; cases h1; rcases hd with ⟨_, e⟩ | ⟨_, e⟩ <;> cases e)]; exact h1) (Rps.lock hu hd h2 hF)
  | _, _, _, _, .fl h1 h3, hF => .fl (by
      rcases h1 with ⟨o, h1⟩ | h1
      · exact .inl ⟨o, by rw [upd_ne (fun y => by rw [y, hu] at h1; cases h1; rcases hd with ⟨_, e⟩ | ⟨_, e⟩ <;> cases e)]; exact h1⟩
      · exact .inr h1) (Rps.lock hu hd h3 (fun _ z => nomatch z))
  | _, _, _, _, .nd0 (a := a) h0 h1 h2 h3, hF => .nd0 h0 (by
      by_cases e : a = x
      · subst e
        rcases h1 with h1 | ⟨⟨o', h1⟩, _⟩
        · rw [hu] at h1
          cases h1
          exact .inr ⟨⟨od, upd_same⟩, hd⟩
        · rw [hu] at h1
          cases h1
          rcases hd with ⟨_, e⟩ | ⟨_, e⟩ <;> cases e
      · exact h1.imp fun _ q => by rw [upd_ne e]; exact q) h2 (Rps.lock hu hd h3 (fun _ z => nomatch z))
  | _, _, _, _, .nd1 h0 h1 h2 h3, hF => .nd1 h0 h1 (by rw [upd_ne (hF _ List.mem_cons_self)]; exact h2) (Rps.lock hu hd h3 (fun a z => hF a (List.mem_cons_of_mem _ z)))
theorem Rps.lock (hu : H x = some u) (hd : DctO u) : ∀ {l : Lv} {vs : List V} {ds : List D} {F : List Addr}, Rps K S H l vs ds F → (∀ a ∈ F, a ≠ x) → Rps K S (upd H x (.frz od u)) l vs ds F
  | _, _, _, _, .nil, _ => .nil
  | _, _, _, _, .cons h1 h2, hF => .cons (Rp.lock hu hd h1 fun a z => hF a (List.mem_append_left _ z)) (Rps.lock hu hd h2 fun a z => hF a (List.mem_append_right _ z))
end
mutual
theorem Rp.free (hx : H x = some (.frz od u)) (hd : DctO u) : ∀ {l : Lv} {v : V} {d : D} {F : List Addr}, Rp K S H l v d F → (∀ a ∈ F, a ≠ x) → Rp K S (upd H x u) l v d F
  | _, _, _, _, .any, _ => .any
  | _, _, _, _, .exc, _ => .exc
  | _, _, _, _, .sh h1, _ => .sh (Rp.free hx hd h1 (fun _ z => nomatch z))
  | _, _, _, _, .non, _ => .non
  | _, _, _, _, .bl, _ => .bl
  | _, _, _, _, .int, _ => .int
  | _, _, _, _, .str, _ => .str
  | _, _, _, _, .tup h1 h2, hF => .tup (by rw [upd_ne (fun y => by rw [y, hx] at h1; cases h1)]; exact h1) (Rps.free hx hd h2 hF)
  | _, _, _, _, .fl h1 h3, hF => .fl (by
      rcases h1 with ⟨o, h1⟩ | h1
      · exact .inl ⟨o, by rw [upd_ne (fun y => by rw [y, hx] at h1; cases h1; rcases hd with ⟨_, e⟩ | ⟨_, e⟩ <;> cases e)]; exact h1⟩
      · exact .inr h1) (Rps.free hx hd h3 (fun _ z => nomatch z))
  | _, _, _, _, .nd0 (a := a) h0 h1 h2 h3, hF => .nd0 h0 (by
      by_cases e : a = x
      · subst e
        rcases h1 with h1 | ⟨⟨o', h1⟩, _⟩
        · rw [hx] at h1
          cases h1
          cases h0
        · rw [hx] at h1
          cases h1
          exact .inl upd_same
      · exact h1.imp fun _ q => by rw [upd_ne e]; exact q) h2 (Rps.free hx hd h3 (fun _ z => nomatch z))
  | _, _, _, _, .nd1 h0 h1 h2 h3, hF => .nd1 h0 h1 (by rw [upd_ne (hF _ List.mem_cons_self)]; exact h2) (Rps.free hx hd h3 (fun a z => hF a (List.mem_cons_of_mem _ z)))
theorem Rps.free (hx : H x = some (.frz od u)) (hd : DctO u) : ∀ {l : Lv} {vs : List V} {ds : List D} {F : List Addr}, Rps K S H l vs ds F → (∀ a ∈ F, a ≠ x) → Rps K S (upd H x u) l vs ds F
  | _, _, _, _, .nil, _ => .nil
  | _, _, _, _, .cons h1 h2, hF => .cons (Rp.free hx hd h1 fun a z => hF a (List.mem_append_left _ z)) (Rps.free hx hd h2 fun a z => hF a (List.mem_append_right _ z))
end
variable {N : Nw} {H0 : Hp} {ρ : Env} {σ : St} {L W : List Addr}
theorem Slots.lock {L0 : List Addr} (hu : H x = some u) (hd : DctO u) : ∀ {σ : St} {ρ : Env} {F : List Addr}, Slots K N L0 H σ ρ F → (∀ a ∈ F, a ≠ x) → Slots K N L0 (upd H x (.frz od u)) σ ρ F
  | _, _, _, .nil, _ => .nil
  | _, _, _, .no h, k => .no (Slots.lock hu hd h k)
  | _, _, _, .so h0 h1 h2, k => .so h0 (h1.lock hu hd fun a z => k a (List.mem_append_left _ z)) (Slots.lock hu hd h2 fun a z => k a (List.mem_append_right _ z))
theorem Slots.free {L0 : List Addr} (hx : H x = some (.frz od u)) (hd : DctO u) : ∀ {σ : St} {ρ : Env} {F : List Addr}, Slots K N L0 H σ ρ F → (∀ a ∈ F, a ≠ x) → Slots K N L0 (upd H x u) σ ρ F
  | _, _, _, .nil, _ => .nil
  | _, _, _, .no h, k => .no (Slots.free hx hd h k)
  | _, _, _, .so h0 h1 h2, k => .so h0 (h1.free hx hd fun a z => k a (List.mem_append_left _ z)) (Slots.free hx hd h2 fun a z => k a (List.mem_append_right _ z))
theorem DctO.ne {u : HO} (h : DctO u) : NE u := by cases u <;> first | trivial | exact (nomatch h) | (unfold DctO at h; exact h.elim)
theorem Sim.lock (s : Sim K N H0 ρ σ H L) (hu : H x = some u) (hd : DctO u) (hn : x ∉ L) : Sim K N (upd H x (.frz od u)) ρ σ (upd H x (.frz od u)) L where
  kp := .refl (s.kp.tb.upd hu hd.ne)
  nw := fun b e => s.nw b (by
    by_cases q : b = x
    · subst q; rw [upd_same] at e; cases e
    · rw [upd_ne q] at e; exact e)
  nd := s.nd
  ln := s.ln
  mu := fun a m => by rw [upd_ne (fun e => hn (by rw [← e]; exact m))]; exact s.mu a m
  sl := s.sl.lock hu hd fun a m e => hn (by rw [← e]; exact m)
theorem SimH.free {ρ' : Env} {σ' : St} {H' : Hp} {L' W : List Addr} (s : Sim K N H0 ρ σ H L) (hu : H x = some u) (hd : DctO u) (s' : SimH K N (upd H x (.frz od u)) ρ' σ' H' L' W) (hx : H' x = some (.frz od u)) : SimH K N H0 ρ' σ' (upd H' x u) L' W := by
  have hw : ∀ a ∈ W, a ≠ x := fun a m e => by
    have := s'.mu a m
    rw [e, hx] at this
    exact this
  refine ⟨⟨fun b o e n nt => ?_, fun P q t => tabS_upd hx trivial (s'.kp.t P q (tabS_upd hu hd.ne (s.kp.t P q t))), s.kp.b⟩, fun b e => s'.nw b ?_, s'.nd, s'.ln, fun a m => ?_, s'.sl.free hx hd fun a m => hw a (s'.sub a m), s'.sub, s'.ndl⟩
  · have h1 := s.kp.k b o e n nt
    by_cases q : b = x
    · subst q; rw [upd_same]; rw [hu] at h1; exact h1
    · rw [upd_ne q]; exact s'.kp.k b o (by rw [upd_ne q]; exact h1) n nt
  · by_cases q : b = x
    · subst q; rw [upd_same] at e; cases e
    · rw [upd_ne q] at e; exact e
  · rw [upd_ne (hw a m)]; exact s'.mu a m
theorem frm_free {H' : Hp} {L' : List Addr} (hu : H x = some u) (k : Frm (upd H x (.frz od u)) L H' L') : Frm H L (upd H' x u) L' := by
  refine ⟨fun b o e n nt => ?_, fun b e => ?_, fun b m => (k.2.2 b m).imp id fun e => ?_⟩
  · by_cases q : b = x
    · subst q; rw [upd_same]; rw [hu] at e; exact e
    · rw [upd_ne q]; exact k.1 b o (by rw [upd_ne q]; exact e) n nt
  · by_cases q : b = x
    · subst q; rw [upd_same] at e; cases e
    · rw [upd_ne q] at e
      exact (k.2.1 b e).imp (fun z => by rw [upd_ne q] at z; exact z) id
  · by_cases q : b = x
    · subst q; rw [upd_same] at e; cases e
    · rw [upd_ne q] at e; exact e
theorem PostS.free {o : Out} {D : Ends} (s : Sim K N H0 ρ σ H L) (hu : H x = some u) (hd : DctO u) (hn : x ∉ L) (q : PostS K N H0 H L o D) :
    PostS K N (upd H x (.frz od u)) (upd H x (.frz od u)) L o ⟨fun σ' H' => H' x = some (.frz od u) ∧ D.nx σ' (upd H' x u), fun v H' => H' x = some (.frz od u) ∧ D.rt v (upd H' x u), fun σ' H' => H' x = some (.frz od u) ∧ D.bk σ' (upd H' x u), fun σ' H' => H' x = some (.frz od u) ∧ D.ct σ' (upd H' x u)⟩ := by
  have go : ∀ {ρ' : Env} {σ' : St} {H' : Hp} {L' : List Addr}, Sim K N (upd H x (.frz od u)) ρ' σ' H' L' → Frm (upd H x (.frz od u)) L H' L' → H' x = some (.frz od u) ∧ Sim K N H0 ρ' σ' (upd H' x u) L' ∧ Frm H L (upd H' x u) L' := fun s' k => by
    have hx := k.1 x _ upd_same hn trivial
    exact ⟨hx, (SimH.free s hu hd s'.h hx).sim, frm_free hu k⟩
  cases o with
  | nx ρ' => exact fun σ' H' L' s' k => let ⟨a, b, c⟩ := go s' k; ⟨a, q _ _ _ b c⟩
  | bk ρ' => exact fun σ' H' L' s' k => let ⟨a, b, c⟩ := go s' k; ⟨a, q _ _ _ b c⟩
  | ct ρ' => exact fun σ' H' L' s' k => let ⟨a, b, c⟩ := go s' k; ⟨a, q _ _ _ b c⟩
  | rt ρ' d l al =>
    intro v σ' H' L' F s' k rp
    have hx := k x _ upd_same hn trivial
    have hw : ∀ a ∈ L' ++ F, a ≠ x := fun a m e => by
      have := s'.mu a m
      rw [e, hx] at this
      exact this
    refine ⟨hx, q v σ' _ L' F (SimH.free s hu hd s' hx) (fun b o e n nt => ?_) (rp.free hx hd fun a m => hw a (List.mem_append_right _ m))⟩
    by_cases e2 : b = x
    · subst e2; rw [upd_same]; rw [hu] at e; exact e
    · rw [upd_ne e2]; exact k b o (by rw [upd_ne e2]; exact e) n nt
end
def rdSh (i : Nat) : Env → Option D := fun ρ => match ρ[i]? with
  | some (some s) => if s.l = .shr then some s.d else none
  | _ => none
structure DPS (X : Cx) (e : Expr) (fd : Env → Option D) : Prop where
  run : ∃ te, PE X e te ∧ ∀ {N : Nw} {H0 H : Hp} {ρ : Env} {σ : St} {L : List Addr} {dd : D}, Sim X.K N H0 ρ σ H L → fd ρ = some dd → isDct dd = true →
    ∃ d u vs ds, RdN H d u ∧ Node dd u vs ds ∧ d ∉ L ∧ (∃ S, Rps X.K S H .shr vs ds []) ∧ ∀ {H2 : Hp} {R : VK}, (∀ b o, b ≠ d → H b = some o → H2 b = some o) → R (.ref d) H2 → te σ H2 R
theorem rp_dctS {K : PySem.W.Frag} {S : Addr → Prop} {H : Hp} {v : V} {dd : D} {F : List Addr} (r : Rp K S H .shr v dd F) (h : isDct dd = true) : ∃ d u vs ds, v = .ref d ∧ RdN H d u ∧ Node dd u vs ds ∧ S d ∧ Rps K S H .shr vs ds [] := by
  cases r with
  | nd0 hn h1 h2 h3 => exact ⟨_, _, _, _, rfl, h1, hn, h2, h3⟩
  | nd1 h0 hn h1 h2 => exact absurd rfl h0
  | _ => cases h
section
variable {X : Cx} {e tg : Expr} {pos apos cpos : Pos} {C : Addr} {f : Str} {t : Tg} {b : EvS} {body : List Stmt} {fd : Env → Option D}
theorem ds_name (i : Nat) {x : Str} (hN : X.N[i]? = some x := by rfl) (hv : Vis X.env.scope x := by first | exact Or.inl rfl | exact Or.inr (Or.inl rfl) | exact Or.inr (Or.inr rfl)) (hd : (x == ("__debug__" : Str)) = false := by decide)
    (hcd : (x == ("__classdict__" : Str)) = false := by decide) : DPS X (.Name x pos) (rdSh i) := by
  refine ⟨_, pe_var hN hv hd hcd, fun {N H0 H ρ σ L dd} sim z hD => ?_⟩
  unfold rdSh at z
  split at z
  · rename_i s es
    split at z
    · rename_i hl
      cases z
      obtain ⟨v, G, ev, rp, _⟩ := sim.sl.get es
      rw [hl] at rp
      obtain ⟨d, u, vs, ds, rfl, hu, hn, hS, hr⟩ := rp_dctS rp hD
      exact ⟨d, u, vs, ds, hu, hn, hS.2 rfl, ⟨_, hr⟩, fun {H2 R} k r => ⟨_, ev, r⟩⟩
    · cases z
  · cases z
def keysD : D → Option (List D)
  | .dk kd => some (kd.map fun p => keyD p.1)
  | .dt kd => some (kd.map fun p => .tup (p.1.map keyD))
  | _ => none
theorem keysD_dct {d : D} {ds : List D} (h : keysD d = some ds) : isDct d = true := by
  cases d <;> first | rfl | cases h
def sForK (fd : Env → Option D) (t : Tg) (b : EvS) : EvS := fun ρ => (fd ρ).bind fun dd => (keysD dd).bind fun ds => forL t b (ds.map fun d => (d, false)) ρ
theorem ps_lockO {st : Stmt} {t : TS} (h : PS X st t) : PS X st (fun D σ H => tLock t D σ H ∨ t D σ H) := ⟨fun pins s σ H D I hw => hw.elim ((ps_lock h).run pins s σ H D I) (h.run pins s σ H D I)⟩
theorem yld_keysK {K : PySem.W.Frag} {N : Nw} {L : List Addr} {H1 : Hp} {d : Addr} {od : Obj} {kv : List (Key × V)} {kd : List (Key × D)} (hx : H1 d = some (.frz od (.dK kv))) (hd : d ∉ L) (hk : kv.map (·.1) = kd.map (·.1)) : Yld K N L H1 (Itk d od kv) ((kd.map fun p => keyD p.1).map fun d => (d, false)) where
  go := fun i d' al H2 e k => ⟨k d _ hx hd (by first | trivial | exact node_nt (by assumption)), by
    have h1 := (List.getElem?_eq_some_iff.mp e).1
    have h2 := congrArg List.length hk
    simp at h1 h2
    omega⟩
  yld := fun i d' al H2 x H3 e k y => by
    obtain ⟨e3, key, v, e4, e5⟩ := y
    subst e3
    have h2 := congrArg (fun l => l[i]?) hk
    simp only [List.getElem?_map, e4, Option.map_some] at h2
    rw [List.getElem?_map, List.getElem?_map] at e
    cases e6 : kd[i]? with
    | none => rw [e6] at e; cases e
    | some p =>
      rw [e6] at e h2
      cases e
      rw [Option.map_some] at h2
      have h3 : key = p.1 := Option.some.inj h2
      rw [e5, h3]
      exact ⟨Same.refl _, key_rp _⟩
  stop := fun H2 k => ⟨k d _ hx hd (by first | trivial | exact node_nt (by assumption)), by
    have h2 := congrArg List.length hk
    simp at h2 ⊢
    omega⟩
theorem yld_keysT {K : PySem.W.Frag} {N : Nw} {L : List Addr} {H1 : Hp} {d : Addr} {od : Obj} {kv : List (List Key × V)} {kd : List (List Key × D)} (hx : H1 d = some (.frz od (.dT kv))) (hd : d ∉ L) (hk : kv.map (·.1) = kd.map (·.1)) : Yld K N L H1 (Itkt d od kv) ((kd.map fun p => D.tup (p.1.map keyD)).map fun d => (d, false)) where
  go := fun i d' al H2 e k => ⟨k d _ hx hd (by first | trivial | exact node_nt (by assumption)), by
    have h1 := (List.getElem?_eq_some_iff.mp e).1
    have h2 := congrArg List.length hk
    simp at h1 h2
    omega⟩
  yld := fun i d' al H2 x H3 e k y => by
    obtain ⟨e3, key, v, q, e4, e5, e7⟩ := y
    subst e3
    have h2 := congrArg (fun l => l[i]?) hk
    simp only [List.getElem?_map, e4, Option.map_some] at h2
    rw [List.getElem?_map, List.getElem?_map] at e
    cases e6 : kd[i]? with
    | none => rw [e6] at e; cases e
    | some p =>
      rw [e6] at e h2
      cases e
      rw [Option.map_some] at h2
      have h3 : key = p.1 := Option.some.inj h2
      rw [e5]
      show Same H3 H3 ∧ Rp K _ H3 .shr (.ref q) (.tup (p.1.map keyD)) []
      rw [← h3]
      exact ⟨Same.refl _, .tup e7 (keys_rp _)⟩
  stop := fun H2 k => ⟨k d _ hx hd (by first | trivial | exact node_nt (by assumption)), by
    have h2 := congrArg List.length hk
    simp at h2 ⊢
    omega⟩
theorem s_forK (hc : X.calm = true) (h : DPS X e fd) (hg : PGv X tg t) (hb : PSsv X body b) (hp : PassesOwn (model X.prog X.w) X.A X.env X.xe := by exact PassesOwn.never) (hs : ∀ x, foldedSetIterable e X.env x = pure x := by intro _; rfl) : PSv X (.For tg e body [] pos) (sForK fd t b) := by
  obtain ⟨te, pe, run⟩ := h.run
  refine imp_s (ps_lockO (ps_for hp hc (pi_keys pe) hg hb hs)) fun De σ H ⟨N, H0, ρ, L, o, sim, z, q⟩ => ?_
  unfold sForK at z
  obtain ⟨dd, e0, z⟩ := bind_some z
  obtain ⟨ds, e1, z⟩ := bind_some z
  obtain ⟨d, u, vs, es, hu, hn, hd, hrp, go⟩ := run sim e0 (keysD_dct e1)
  cases dd with
  | dk kd =>
    cases e1
    cases hn with
    | dk hk =>
      rename_i kv
      rcases hu with hu | ⟨⟨od, hu⟩, _⟩
      · refine .inl ⟨d, _, hu, trivial, fun od => go (fun b o hb e => by rw [upd_ne hb]; exact e) ⟨d, od, rfl, .inl ⟨kv, upd_same, ?_⟩⟩⟩
        exact for_run (sim.lock hu (.inl ⟨_, rfl⟩) hd) (yld_keysK upd_same hd hk) z (PostS.free sim hu (.inl ⟨_, rfl⟩) hd q)
      · refine .inr (go (fun _ _ _ e => e) ⟨d, od, rfl, .inl ⟨kv, hu, ?_⟩⟩)
        exact for_run sim (yld_keysK hu hd hk) z q
  | dt kd =>
    cases e1
    cases hn with
    | dt hk =>
      rename_i kv
      rcases hu with hu | ⟨⟨od, hu⟩, _⟩
      · refine .inl ⟨d, _, hu, trivial, fun od => go (fun b o hb e => by rw [upd_ne hb]; exact e) ⟨d, od, rfl, .inr ⟨kv, upd_same, ?_⟩⟩⟩
        exact for_run (sim.lock hu (.inr ⟨_, rfl⟩) hd) (yld_keysT upd_same hd hk) z (PostS.free sim hu (.inr ⟨_, rfl⟩) hd q)
      · refine .inr (go (fun _ _ _ e => e) ⟨d, od, rfl, .inr ⟨kv, hu, ?_⟩⟩)
        exact for_run sim (yld_keysT hu hd hk) z q
  | _ => cases e1
end
end Ev
set_option Elab.async false
set_option linter.all false
set_option maxRecDepth 100000
namespace Ev
open PySem PySem.Spec L2
open PyProof.Rows hiding St
section
variable {K : PySem.W.Frag} {H : Hp} {x : Addr} {od : Obj} {u : HO} {N : Nw} {H0 : Hp} {ρ : Env} {σ : St} {L W : List Addr}
theorem SimH.lock (s : SimH K N H0 ρ σ H L W) (hu : H x = some u) (hd : DctO u) (hn : x ∉ W) : SimH K N (upd H x (.frz od u)) ρ σ (upd H x (.frz od u)) L W where
  kp := .refl (s.kp.tb.upd hu hd.ne)
  nw := fun b e => s.nw b (by
    by_cases q : b = x
    · subst q; rw [upd_same] at e; cases e
    · rw [upd_ne q] at e; exact e)
  nd := s.nd
  ln := s.ln
  mu := fun a m => by rw [upd_ne (fun e => hn (by rw [← e]; exact m))]; exact s.mu a m
  sl := s.sl.lock hu hd fun a m e => hn (by rw [← e]; exact s.sub a m)
  sub := s.sub
  ndl := s.ndl
theorem Post.free {r : Rv} {Q : VK} (hu : H x = some u) (hd : DctO u) (q : Post K N W H r Q) : Post K N W (upd H x (.frz od u)) r fun v H' => H' x = some (.frz od u) ∧ Q v (upd H' x u) := fun v H1 F s n nd rp => by
  have hx := s.k x _ upd_same trivial
  have nF : ∀ a ∈ F, H a = none ∧ a ≠ x := fun a m => by
    have := n a m
    by_cases e : a = x
    · subst e; rw [upd_same] at this; cases this
    · rw [upd_ne e] at this; exact ⟨this, e⟩
  refine ⟨hx, q v _ F ⟨fun b o e nt => ?_, fun b e => ?_, fun P q t => tabS_upd hx trivial (s.t P q (tabS_upd hu hd.ne t))⟩ (fun a m => (nF a m).1) nd (rp.free hx hd fun a m => (nF a m).2)⟩
  · by_cases e2 : b = x
    · subst e2; rw [upd_same]; rw [hu] at e; exact e
    · rw [upd_ne e2]; exact s.k b o (by rw [upd_ne e2]; exact e) nt
  · by_cases e2 : b = x
    · subst e2; rw [upd_same] at e; cases e
    · rw [upd_ne e2] at e
      have := s.f b e
      rw [upd_ne e2] at this
      exact this
end
structure DPH (X : Cx) (e : Expr) (fd : Env → Option D) : Prop where
  run : ∃ te, PE X e te ∧ ∀ {N : Nw} {H0 H : Hp} {ρ : Env} {σ : St} {L W : List Addr} {dd : D}, SimH X.K N H0 ρ σ H L W → fd ρ = some dd → isDct dd = true →
    ∃ d u vs ds, RdN H d u ∧ Node dd u vs ds ∧ d ∉ W ∧ (∃ S, Rps X.K S H .shr vs ds []) ∧ ∀ {H2 : Hp} {R : VK}, (∀ b o, b ≠ d → H b = some o → H2 b = some o) → R (.ref d) H2 → te σ H2 R
def eLcS (itD : D → Option (List D)) (fd : Env → Option D) (vs : List Nat) (t : Tg) (c : EvT) (e : EvE) : EvE := fun ρ => (fd ρ).bind fun dd => (itD dd).bind fun ds => (lcL t c e (wipeE vs ρ) (ds.map fun d => (d, false))).bind mkBig
def sForI (itD : D → Option (List D)) (fd : Env → Option D) (t : Tg) (b : EvS) : EvS := fun ρ => (fd ρ).bind fun dd => (itD dd).bind fun ds => forL t b (ds.map fun d => (d, false)) ρ
section
variable {X : Cx} {e tg : Expr} {pos apos cpos tpos : Pos} {C : Addr} {f : Str} {t : Tg} {b : EvS} {body : List Stmt} {fd : Env → Option D} {c : EvT} {fe : EvE} {elt : Expr} {ifs : List Expr} {scope : Scope} {elts : List Expr} {kk : Nat}
theorem dh_name (i : Nat) {x : Str} (hN : X.N[i]? = some x := by rfl) (hv : Vis X.env.scope x := by first | exact Or.inl rfl | exact Or.inr (Or.inl rfl) | exact Or.inr (Or.inr rfl)) (hd : (x == ("__debug__" : Str)) = false := by decide)
    (hcd : (x == ("__classdict__" : Str)) = false := by decide) : DPH X (.Name x pos) (rdSh i) := by
  refine ⟨_, pe_var hN hv hd hcd, fun {N H0 H ρ σ L W dd} sim z hD => ?_⟩
  unfold rdSh at z
  split at z
  · rename_i s es
    split at z
    · rename_i hl
      cases z
      obtain ⟨v, G, ev, rp, _⟩ := sim.sl.get es
      rw [hl] at rp
      obtain ⟨d, u, vs, ds, rfl, hu, hn, hS, hr⟩ := rp_dctS rp hD
      exact ⟨d, u, vs, ds, hu, hn, hS.2 rfl, ⟨_, hr⟩, fun {H2 R} k r => ⟨_, ev, r⟩⟩
    · cases z
  · cases z
theorem lcK_read {te : TE} {vs : List Nat} (run : ∀ {N : Nw} {H0 H : Hp} {ρ : Env} {σ : St} {L W : List Addr} {dd : D}, SimH X.K N H0 ρ σ H L W → fd ρ = some dd → isDct dd = true →
    ∃ d u vs ds, RdN H d u ∧ Node dd u vs ds ∧ d ∉ W ∧ (∃ S, Rps X.K S H .shr vs ds []) ∧ ∀ {H2 : Hp} {R : VK}, (∀ b o, b ≠ d → H b = some o → H2 b = some o) → R (.ref d) H2 → te σ H2 R) (hv : (tgSlots t).all (fun j => decide (j ∈ vs)) = true) {σ : St} {H : Hp} {Q : VK}
    (h : tE X.K (eLcS keysD fd vs t c fe) σ H Q) : tLockE (tLc (iKeys te) (tG X.K t) (tT X.K c) (tE X.K fe) vs) σ H Q ∨ tLc (iKeys te) (tG X.K t) (tT X.K c) (tE X.K fe) vs σ H Q := by
  obtain ⟨N, H0, ρ, L, W, r, sim, z, q⟩ := h
  unfold eLcS at z
  obtain ⟨dd, e0, z⟩ := bind_some z
  obtain ⟨ds, e1, z⟩ := bind_some z
  obtain ⟨rs, e2, e3⟩ := bind_some z
  obtain ⟨d, u, vs, es, hu, hn, hd, hrp, go⟩ := run sim e0 (keysD_dct e1)
  cases dd with
  | dk kd =>
    cases e1
    cases hn with
    | dk hk =>
      rename_i kv
      rcases hu with hu | ⟨⟨od, hu⟩, _⟩
      · refine .inl ⟨d, _, hu, trivial, fun od => go (fun b o hb e => by rw [upd_ne hb]; exact e) ⟨d, od, rfl, .inl ⟨_, upd_same, ?_⟩⟩⟩
        exact lc_core hv (sim.lock hu (.inl ⟨_, rfl⟩) hd) e2 e3 (Post.free hu (.inl ⟨_, rfl⟩) q) (Same.refl _) (yld_keysK upd_same hd hk).s
      · refine .inr (go (fun _ _ _ e => e) ⟨d, od, rfl, .inl ⟨_, hu, ?_⟩⟩)
        exact lc_core hv sim e2 e3 q (Same.refl _) (yld_keysK hu hd hk).s
  | dt kd =>
    cases e1
    cases hn with
    | dt hk =>
      rename_i kv
      rcases hu with hu | ⟨⟨od, hu⟩, _⟩
      · refine .inl ⟨d, _, hu, trivial, fun od => go (fun b o hb e => by rw [upd_ne hb]; exact e) ⟨d, od, rfl, .inr ⟨_, upd_same, ?_⟩⟩⟩
        exact lc_core hv (sim.lock hu (.inr ⟨_, rfl⟩) hd) e2 e3 (Post.free hu (.inr ⟨_, rfl⟩) q) (Same.refl _) (yld_keysT upd_same hd hk).s
      · refine .inr (go (fun _ _ _ e => e) ⟨d, od, rfl, .inr ⟨_, hu, ?_⟩⟩)
        exact lc_core hv sim e2 e3 q (Same.refl _) (yld_keysT hu hd hk).s
  | _ => cases e1
theorem e_lcK (own : List (Str × Nat)) (hc : X.calm = true) (hN : X.N.Nodup) (he : DPH X e fd) (ok : BlkOk X.N X.env.scope scope own)
    (hg : ∀ (s : Shared) (H : Hp) (C : Addr) (cl : List (Str × Addr)) (fp : List Addr), PGv (X.blk s H scope (compEnvC scope cl C X.env) fp) tg t) (ht : ∀ (s : Shared) (H : Hp) (C : Addr) (cl : List (Str × Addr)) (fp : List Addr), PTsv (X.blk s H scope (compEnvC scope cl C X.env) fp) ifs c)
    (hel : ∀ (s : Shared) (H : Hp) (C : Addr) (cl : List (Str × Addr)) (fp : List Addr), PEv (X.blk s H scope (compEnvC scope cl C X.env) fp) elt fe) (hv : (tgSlots t).all (fun j => decide (j ∈ own.map (·.2))) = true := by rfl)
    (hs : ∀ x, foldedSetIterable e X.env x = pure x := by intro _; rfl) : PEv X (.ListComp elt [⟨tg, e, ifs, 0⟩] scope pos) (eLcS keysD fd (own.map (·.2)) t c fe) := by
  obtain ⟨te, pe, run⟩ := he.run
  exact imp_e (pe_lockO (pe_lc (g := tG X.K t) (tt := tT X.K c) (te := tE X.K fe) hc hN (pi_keys pe) ok hg ht hel hs)) fun σ H Q h => lcK_read run hv h
end
end Ev
set_option Elab.async false
set_option linter.all false
set_option maxRecDepth 100000
namespace Ev
open PySem PySem.Spec L2
open PyProof.Rows hiding St
end Ev
set_option Elab.async false
set_option linter.all false
set_option maxRecDepth 100000
namespace Ev
open PySem PySem.Spec L2
open PyProof.Rows hiding St
end Ev
set_option Elab.async false
set_option linter.all false
set_option maxRecDepth 100000
namespace Ev
open PySem PySem.Spec L2
open PyProof.Rows hiding St
section
variable {K : PySem.W.Frag} {S : Addr → Prop} {H : Hp} {l : Lv}
theorem Rps.erase : ∀ {vs : List V} {ds : List D} {F : List Addr} (j : Nat), Rps K S H l vs ds F → F.Nodup → ∃ F', Rps K S H l (vs.eraseIdx j) (ds.eraseIdx j) F' ∧ (∀ b ∈ F', b ∈ F) ∧ F'.Nodup
  | _, _, _, j, .nil, nd => ⟨[], .nil, fun _ z => z, nd⟩
  | _, _, _, 0, .cons (F := F) (G := G) h1 h2, nd => ⟨G, h2, fun b z => List.mem_append_right _ z, (List.nodup_append.mp nd).2.1⟩
  | _, _, _, j + 1, .cons (F := F) (G := G) h1 h2, nd => by
    rw [List.nodup_append] at nd
    obtain ⟨F', r, sub, nd'⟩ := Rps.erase j h2 nd.2.1
    refine ⟨F ++ F', .cons h1 r, fun b z => ?_, ?_⟩
    · rcases List.mem_append.mp z with z | z
      · exact List.mem_append_left _ z
      · exact List.mem_append_right _ (sub b z)
    · rw [List.nodup_append]
      exact ⟨nd.1, nd', fun b hb c hc y => nd.2.2 b hb c (sub c hc) y⟩
theorem Rps.setv {w : V} {d : D} {G : List Addr} (hw : Rp K S H l w d G) : ∀ {vs : List V} {ds : List D} {F : List Addr} (j : Nat), Rps K S H l vs ds F → (F ++ G).Nodup → j < ds.length → ∃ F', Rps K S H l (vs.set j w) (ds.set j d) F' ∧ (∀ b ∈ F', b ∈ F ++ G) ∧ F'.Nodup
  | _, _, _, j, .nil, nd, hj => absurd hj (Nat.not_lt_zero _)
  | _, _, _, 0, .cons (F := F) (G := F2) h1 h2, nd, _ => by
    refine ⟨G ++ F2, .cons hw h2, fun b z => ?_, ?_⟩
    · rcases List.mem_append.mp z with z | z <;> simp [z]
    · rw [List.append_assoc, List.nodup_append] at nd
      exact List.perm_append_comm.nodup_iff.mp nd.2.1
  | _, _, _, j + 1, .cons (F := F) (G := F2) h1 h2, nd, hj => by
    rw [List.append_assoc, List.nodup_append] at nd
    obtain ⟨F', r, sub, nd'⟩ := Rps.setv hw j h2 nd.2.1 (by simpa using hj)
    refine ⟨F ++ F', .cons h1 r, fun b z => ?_, ?_⟩
    · rcases List.mem_append.mp z with z | z
      · simp [z]
      · have := sub b z
        rw [List.append_assoc]
        exact List.mem_append_right _ this
    · rw [List.nodup_append]
      exact ⟨nd.1, nd', fun b hb c hc y => nd.2.2 b hb c (sub c hc) y⟩
end
def sPutI (i : Nat) (fk fv : EvE) : EvS := fun ρ => (fv ρ).bind fun r => match ρ[i]? with
  | some (some s) => match s.d with
    | .lst ds => (fk ρ).bind fun y => match y.d with
      | .int k => (L2.ixN ds.length k).bind fun j => if s.l ≠ .shr ∧ r.vw = false then some (.nx (ρ.set i (some ⟨.lst (ds.set j r.d), keepLv s.l (if r.l = .full then .full else .top), s.al || r.al, s.pn⟩))) else none
      | _ => none
    | _ => none
  | _ => none
section
variable {X : Cx} {e e2 : Expr} {fk fv : EvE} {pos pos' apos cpos npos : Pos} {x : Str}
theorem s_putI (i : Nat) (hk : PEv X e fk) (hv : PEv X e2 fv)
    (hN : X.N[i]? = some x := by rfl) (hvs : Vis X.env.scope x := by first | exact Or.inl rfl | exact Or.inr (Or.inl rfl) | exact Or.inr (Or.inr rfl)) (hd : (x == ("__debug__" : Str)) = false := by decide) (hcd : (x == ("__classdict__" : Str)) = false := by decide)
    (ha : ∀ v, assign (.Subscript (.Name x npos) e pos') X.env v = (do
      let ov ← holding [v] (eval (.Name x npos) X.env)
      let iv ← holding [v, ov] (eval e X.env)
      standAt pos'
      holding [v, ov, iv] (setItem ov iv v)
      release [v, ov, iv] []) := by intro _; rfl)
    (hs : swapsWithSole [.Subscript (.Name x npos) e pos'] e2 pos.line X.env = pure false := by rfl) (hw : swappedStores [.Subscript (.Name x npos) e pos'] e2 X.env = pure none := by rfl)
    (h1 : (assignEach [.Subscript (.Name x npos) e pos'] X.env).map (·.2) = [assign (.Subscript (.Name x npos) e pos') X.env] := by rfl) :
    PSv X (.Assign [.Subscript (.Name x npos) e pos'] e2 pos) (sPutI i fk fv) := by
  refine imp_s (ps_asg hv (pg_sub (pe_var hN hvs hd hcd) hk set_list ha) hs hw h1) fun D σ H ⟨N, H0, ρ, L, o, sim, z, q⟩ => ?_
  unfold sPutI at z
  obtain ⟨r, e0, z⟩ := bind_some z
  split at z
  · rename_i s es
    split at z
    · rename_i ds hd
      obtain ⟨y, e1, z⟩ := bind_some z
      split at z
      · rename_i k hy
        obtain ⟨j, e3, z⟩ := bind_some z
        split at z
        · rename_i hc
          cases z
          obtain ⟨sd, sl, sa, sp⟩ := s
          dsimp only at hd hc
          subst hd
          obtain ⟨a, vs, ev, ha', hlen, go⟩ := sim.relist es hc.1
          refine one sim.h e0 fun w H1 T s1 n1 d1 p1 => ?_
          refine ⟨.ref a, ev, one (sim.h.hold s1 n1 d1 p1.own_mut) e1 fun ky H2 T2 s2 n2 d2 p2 => ?_⟩
          rw [hy] at p2
          obtain ⟨rfl, _⟩ := p2.int_inv
          have sall := s1.trans s2
          refine ⟨a, vs, k, j, rfl, rfl, sall.k _ _ ha' (by first | trivial | exact node_nt (by assumption)), by rw [hlen]; exact e3, ?_⟩
          have hvw := hc.2
          obtain ⟨L', sim', fr⟩ := go (H1 := H2) (us := [w]) (rs := [r]) (T := T) (ws := vs.set j w) (es := ds.set j r.d) (fun r1 r2 nd => by
            cases r2 with
            | cons h1 h2 =>
              cases h2
              obtain ⟨g1, g2, g3, g4⟩ := ixN_seq e3
              rw [List.append_nil]
              exact r1.setv h1 j (by rw [List.append_nil] at nd; exact nd) g2) sall n1 d1 (RpL.one (p1.same s2)) (by simp [hvw])
          have hb : ([r].all fun r => !r.vw && decide (r.l = .full)) = decide (r.l = .full) := by simp [hvw]
          rw [hb] at sim'
          have hb2 : ([r].any fun r => r.al) = r.al := by simp
          rw [hb2] at sim'
          simp only [decide_eq_true_eq] at sim'
          exact q _ _ L' sim' fr
        · cases z
      · cases z
    · cases z
  · cases z
end
end Ev
set_option Elab.async false
set_option linter.all false
set_option maxRecDepth 100000
namespace Ev
open PySem PySem.Spec L2
open PyProof.Rows hiding St
end Ev
namespace Ev
open PySem
open PySem.SeqAt PySem.MeetsSeq
open PySem.AutoSeq1 (wpAny_loadPart')
end Ev
namespace Ev
open PySem PySem.Spec L2
open PyProof.Rows hiding St
end Ev
set_option Elab.async false
set_option linter.all false
set_option maxRecDepth 100000
namespace Ev
open PySem PySem.Spec L2
open PyProof.Rows hiding St
def sClrP (fp : EvP) : EvS := fun ρ => (fp ρ).bind fun z => match z.2.2, ρ[z.1]? with
  | .lst _, some (some s) => some (.nx (ρ.set z.1 (some ⟨dSet s.d z.2.1 (.lst []), .full, s.al || false, s.pn⟩)))
  | _, _ => none
section
variable {X : Cx} {e : Expr} {fp : EvP} {pos p1 p2 p4 p5 apos cpos npos p3 : Pos} {x y : Str} {j1 : Int}
theorem s_clrP (h : PPv X e fp)
    (hsw : swapsWith (.Call (.Attribute e "clear" apos) [] [] cpos) none pos.line X.env = pure false := by rfl)
    (hbase : attributeBase e "clear" X.env (eval e X.env) = eval e X.env := by rfl)
    (hline : (apos.endLine == cpos.line) = true := by rfl) :
    PSv X (.Expr (.Call (.Attribute e "clear" apos) [] [] cpos) pos) (sClrP fp) := by
  refine imp_s (ps_expr (pe_bm0 PySem.F.plainAttrs_list PySem.F.slot_list_clear PySem.F.type_list_clear mt_clear h.run hbase hline) hsw) fun D σ H ⟨N, H0, ρ, L, o, sim, z, q⟩ => ?_
  unfold sClrP at z
  obtain ⟨⟨i, p, d⟩, e1, z1⟩ := bind_some z
  clear z
  dsimp only at z1
  split at z1
  · rename_i ds s es
    cases z1
    obtain ⟨s', es', hl, hd⟩ := h.ok ρ i p _ e1
    rw [es] at es'
    cases es'
    obtain ⟨v0, a, o, vs, ds', F, ev, w2, ha', hnd, ⟨S0, hx⟩, go⟩ := sim.store es hl hd rfl
    cases hnd
    refine ⟨N, H0, ρ, L, L, i, p, _, sim.h, e1, fun u H1 s1 at1 => ?_⟩
    have := (at1 v0 ev).fn (w2.same s1)
    subst this
    refine ⟨.inl ⟨rfl, vs, SqL.of (s1.k _ _ ha' (by first | trivial | exact node_nt (by assumption)))⟩, a, vs, rfl, rfl, s1.k _ _ ha' (by first | trivial | exact node_nt (by assumption)), ?_⟩
    obtain ⟨L', sim', fr⟩ := go (H1 := H1) (w := .non) (dw := .non) (al := false) (T := []) (e' := .lst []) (o' := .lst []) s1 (fun _ z => nomatch z) .nil .non trivial (fun r1 r2 nd => ⟨[], [], [], .lst, .nil, fun _ z => (nomatch z), .nil⟩)
    exact q _ _ L' sim' fr
  · cases z1
end
end Ev
set_option Elab.async false
set_option linter.all false
set_option maxRecDepth 100000
namespace Ev
open PySem PySem.Spec L2
open PyProof.Rows hiding St
section
variable {K : PySem.W.Frag} {N : Nw} {H0 H : Hp} {ρ : Env} {σ : St} {L : List Addr}
theorem Slots.cut {L0 : List Addr} : ∀ {σ : St} {ρ : Env} {F : List Addr} {j : Nat} {s : Sv}, Slots K N L0 H σ ρ F → ρ[j]? = some (some s) →
    ∃ v G F', σ[j]? = some (some v) ∧ Rp K (SR N L0 s.al false) H s.l v s.d G ∧ Slots K N L0 H σ (ρ.set j none) F' ∧ F.Perm (G ++ F')
  | _, _, _, _, _, .nil, e => by simp at e
  | _, _, _, 0, _, .no _, e => by simp at e
  | _, _, _, j + 1, s, .no h, e => by
    obtain ⟨v, G, F', e1, r, q, p⟩ := Slots.cut (j := j) (s := s) h (by simpa using e)
    exact ⟨v, G, F', by simpa using e1, r, .no q, p⟩
  | _, _, _, 0, _, .so (G := F2) h0 h h2, e => by
    simp at e; subst e
    exact ⟨_, _, F2, rfl, h, .no h2, List.Perm.refl _⟩
  | _, _, _, j + 1, s, .so (F := F1) h0 h h2, e => by
    obtain ⟨v, G, F', e1, r, q, p⟩ := Slots.cut (j := j) (s := s) h2 (by simpa using e)
    refine ⟨v, G, F1 ++ F', by simpa using e1, r, .so h0 h q, ?_⟩
    have h3 := List.Perm.append_left F1 p
    refine h3.trans ?_
    rw [← List.append_assoc, ← List.append_assoc]
    exact List.Perm.append_right F' List.perm_append_comm
def rem (H : Hp) (G : List Addr) : Hp := fun b => if b ∈ G then none else H b
theorem rem_out {G : List Addr} {b : Addr} (h : b ∉ G) : rem H G b = H b := if_neg h
theorem Sim.out (sim : Sim K N H0 ρ σ H L) {j : Nat} {s : Sv} (e : ρ[j]? = some (some s)) :
    ∃ v G L', σ[j]? = some (some v) ∧ Rp K (SR N L s.al false) H s.l v s.d G ∧ Sim K N H0 (ρ.set j none) σ (rem H G) L' ∧ L.Perm (G ++ L') := by
  obtain ⟨v, G, L', e1, r, q, p⟩ := sim.sl.cut e
  have nd := p.nodup_iff.mp sim.nd
  rw [List.nodup_append] at nd
  have inG : ∀ b ∈ G, b ∈ L := fun b h => p.mem_iff.mpr (List.mem_append_left _ h)
  have inL : ∀ b ∈ L', b ∈ L := fun b h => p.mem_iff.mpr (List.mem_append_right _ h)
  have off : ∀ b ∈ L', b ∉ G := fun b h1 h2 => nd.2.2 b h2 b h1 rfl
  refine ⟨v, G, L', e1, r, ⟨⟨fun b o e n nt => ?_, fun P q t => tabS_rem r.own_ne (fun b hb => rem_out hb) (sim.kp.t P q t), sim.kp.b⟩, fun b h => ?_, nd.2.1, fun a h => sim.ln a (inL a h), fun a h => by rw [rem_out (off a h)]; exact sim.mu a (inL a h), ?_⟩, p⟩
  · rw [rem_out fun h => n (sim.ln b (inG b h))]
    exact sim.kp.k b o e n nt
  · by_cases hb : b ∈ G
    · exact sim.ln b (inG b hb)
    · rw [rem_out hb] at h
      exact sim.nw b h
  · refine (q.keep fun al b o hb _ z => ?_).mono fun a h1 h2 => h1 (inL a h2)
    rw [rem_out]
    · exact hb
    · intro hG
      rcases z with z | z | ⟨xs, rfl⟩ | ⟨o', u, rfl⟩
      · exact z.2 rfl (inG b hG)
      · exact off b z hG
      · have := sim.mu b (inG b hG)
        rw [hb] at this
        cases this
      · have := sim.mu b (inG b hG)
        rw [hb] at this
        cases this
end
end Ev
set_option Elab.async false
set_option linter.all false
set_option maxRecDepth 100000
set_option maxHeartbeats 4000000
namespace Ev
open PySem PySem.Spec L2
open PyProof.Rows hiding St
end Ev
set_option Elab.async false
set_option linter.all false
namespace Ev
open PySem PySem.Spec L2 PyProof
open PyProof.Rows hiding St
end Ev
set_option Elab.async false
set_option linter.all false
namespace Ev
open PySem PySem.Spec L2
open PyProof.Rows hiding St
end Ev
set_option Elab.async false
set_option linter.all false
set_option maxRecDepth 100000
namespace Ev
open PySem PySem.Spec L2
open PyProof.Rows hiding St
end Ev
set_option Elab.async false
set_option linter.all false
set_option maxRecDepth 100000
namespace Ev
open PySem PySem.Spec L2
open PyProof.Rows hiding St
end Ev
set_option Elab.async false
set_option linter.all false
namespace Ev
open PySem PySem.Spec L2
open PyProof.Rows hiding St
end Ev
set_option Elab.async false
set_option linter.all false
set_option maxRecDepth 100000
namespace L2
open PySem PySem.Spec PyProof.Rows PyProof
end L2
namespace Ev
open PySem PySem.Spec L2
open PyProof.Rows hiding St
end Ev
set_option Elab.async false
set_option linter.all false
set_option maxRecDepth 100000
namespace Ev
open PySem PySem.Spec L2
open PyProof.Rows hiding St
theorem Frm.s {H H1 : Hp} {L : List Addr} (s : Same H H1) : Frm H L H1 L := Frm.same s fun b z => .inl z
section
variable {X : Cx} {a b c e : Expr} {es : List Expr} {fe fa : EvE} {fx fy : EvX} {pos : Pos} {f g : EvS} {body orelse : List Stmt}
abbrev EvTX := Env → Option (Env × Bool)
end
end Ev
set_option Elab.async false
set_option linter.all false
set_option maxRecDepth 100000
namespace L2
open PySem PySem.Spec PyProof.Rows
end L2
namespace Ev
open PySem PySem.Spec L2
open PyProof.Rows hiding St
end Ev
set_option Elab.async false
set_option linter.all false
set_option maxRecDepth 100000
namespace Ev
open PySem PySem.Spec L2
open PyProof.Rows hiding St
end Ev
set_option Elab.async false
set_option linter.all false
set_option maxRecDepth 100000
namespace Ev
open PySem PySem.Spec L2
open PyProof.Rows hiding St
end Ev
set_option Elab.async false
set_option linter.all false
set_option maxRecDepth 100000
namespace Ev
open PySem PySem.Spec L2
open PyProof.Rows hiding St
end Ev
set_option Elab.async false
set_option linter.all false
set_option maxRecDepth 100000
namespace Ev
open PySem PySem.Spec L2
open PyProof.Rows hiding St
end Ev
set_option Elab.async false
set_option linter.all false
set_option maxRecDepth 100000
namespace Ev
open PySem PySem.Spec L2
open PyProof.Rows hiding St
end Ev
set_option Elab.async false
set_option linter.all false
set_option maxRecDepth 100000
namespace Ev
open PySem PySem.Spec L2
open PyProof.Rows hiding St
end Ev
set_option Elab.async false
set_option linter.all false
set_option maxRecDepth 100000
namespace Ev
open PySem PySem.Spec L2
open PyProof.Rows hiding St
end Ev
set_option Elab.async false
set_option linter.all false
set_option maxRecDepth 100000
namespace Ev
open PySem PySem.Spec L2
open PyProof.Rows hiding St
end Ev
set_option Elab.async false
set_option linter.all false
set_option maxRecDepth 100000
namespace Ev
open PySem PySem.Spec L2
open PyProof.Rows hiding St
end Ev
set_option Elab.async false
set_option linter.all false
set_option maxRecDepth 100000
namespace Ev
open PySem PySem.Spec L2
open PyProof.Rows hiding St
abbrev Cod := Int → Option Value
end Ev
set_option Elab.async false
set_option linter.all false
set_option maxRecDepth 100000
namespace Ev
open PySem PySem.Spec L2
open PyProof.Rows hiding St
abbrev EvC := Env → Option Int
theorem Rp.exc_inv {K : PySem.W.Frag} {S : Addr → Prop} {H : Hp} {l : Lv} {v : V} {a : Addr} {F : List Addr} (h : Rp K S H l v (.exc a) F) : v = .ref a := by
  cases h with
  | exc => rfl
  | nd0 h => cases h
  | nd1 _ h => cases h
end Ev
set_option Elab.async false
set_option linter.all false
set_option maxRecDepth 100000
namespace Ev
open PySem PySem.Spec L2
open PyProof.Rows hiding St
def tB (b : Bool) : EvT := fun _ => some b
def selH : List (List Int × EvS) → Int → EvS
  | [], _ => sBad
  | (_, h) :: [], _ => h
  | (ks, h) :: q :: r, c => sIf (tB (ks.contains c)) h (selH (q :: r) c)
theorem sIf_tB {b : Bool} {f g : EvS} {ρ : Env} : sIf (tB b) f g ρ = if b = true then f ρ else g ρ := rfl
section
variable {X : Cx} {cd : Cod} {g : EvC} {nB : EvS} {body suite : List Stmt} {b₀ : Stmt} {x n : Str} {np pos pos' : Pos} {i : Nat} {cls0 : Value} {ks : List Int} {hs : Int → EvS}
inductive HdsE (X : Cx) (cd : Cod) : List ExceptHandler → List (List Int × EvS) → Prop
  | nil : HdsE X cd [] []
  | cons {x : Str} {c : Value} {ks : List Int} {h : EvS} {b₀ : Stmt} {suite : List Stmt} {np pos' : Pos} {hds : List ExceptHandler} {l : List (List Int × EvS)} (hc : Names X x c) (hk : ∀ n C, cd n = some C → PySem.W.exmOne X.K C c = some (ks.contains n))
      (hsu : ∀ (a : Addr) (oe : Obj) (C : Value) (d : Option Addr) (pn : List (Addr × Obj)), Zc C d oe → (∃ vs, oe.data = .fields vs) → PSsv (X.suite a ((a, oe) :: pn)) (b₀ :: suite) h) (r : HdsE X cd hds l) :
      HdsE X cd (.ExceptHandler (some (.Name x np)) none (b₀ :: suite) pos' :: hds) ((ks, h) :: l)
theorem HdsE.ok {Wout : WX} : ∀ {hds : List ExceptHandler} {l : List (List Int × EvS)}, HdsE X cd hds l → ∃ l', HdsOk X hds l' ∧ ∀ n C D σ H, cd n = some C → (l.flatMap (·.1)).contains n = true → tS X.K (selH l n) D σ H → wMany X.K Wout D l' C none σ H
  | _, _, .nil => ⟨[], .nil, fun n C D σ H _ h _ => nomatch h⟩
  | _, _, @HdsE.cons _ _ _ c ks h _ _ _ _ _ [] hc hk hsu r => by
    obtain ⟨l', h1, h2⟩ := HdsE.ok (Wout := Wout) r
    refine ⟨(c, fun _ _ _ => tS X.K h) :: l', .cons hc (fun a oe C d pn hz hf => hsu a oe C d pn hz hf) h1, fun n C D σ H hcd hm z => ?_⟩
    have hm : ks.contains n = true := by simpa using hm
    exact ⟨ks.contains n, hk n C hcd, fun e a na => z, fun e => by rw [hm] at e; cases e⟩
  | _, _, @HdsE.cons _ _ _ c ks h _ _ _ _ _ (p :: l) hc hk hsu r => by
    obtain ⟨l', h1, h2⟩ := HdsE.ok (Wout := Wout) r
    refine ⟨(c, fun _ _ _ => tS X.K h) :: l', .cons hc (fun a oe C d pn hz hf => hsu a oe C d pn hz hf) h1, fun n C D σ H hcd hm ⟨N, H0, ρ, L, o, sim, z, q⟩ => ?_⟩
    have z : sIf (tB (ks.contains n)) h (selH (p :: l) n) ρ = some o := z
    rw [sIf_tB] at z
    refine ⟨ks.contains n, hk n C hcd, fun e a na => ?_, fun e => ?_⟩
    · rw [e, if_pos rfl] at z
      exact ⟨N, H0, ρ, L, o, sim, z, q⟩
    · rw [e, if_neg Bool.false_ne_true] at z
      refine h2 n C D σ H hcd ?_ ⟨N, H0, ρ, L, o, sim, z, q⟩
      rw [List.flatMap_cons, List.contains_append, e, Bool.false_or] at hm
      exact hm
end
end Ev
set_option Elab.async false
set_option linter.all false
set_option maxRecDepth 100000
namespace Ev
open PySem PySem.Spec L2
open PyProof.Rows hiding St
end Ev
set_option Elab.async false
set_option linter.all false
set_option maxRecDepth 100000
namespace Ev
open PySem PySem.Spec L2
open PyProof.Rows hiding St
end Ev
set_option Elab.async false
set_option linter.all false
set_option maxRecDepth 100000
set_option maxHeartbeats 3200000
namespace Ev
open PySem PySem.Spec L2
open PyProof.Rows hiding St
abbrev set0 (w : World) : Obj := { cls := .type "set", dict := none, data := .set #[] 0 (.fresh 0 0 (!w.params.followText "set-order")) }
end Ev
set_option Elab.async false
set_option linter.all false
set_option maxRecDepth 100000
namespace Ev
open PySem PySem.Spec L2
open PyProof.Rows hiding St
def dd {α : Type} [DecidableEq α] : List α → List α
  | [] => []
  | x :: xs => if x ∈ xs then dd xs else x :: dd xs
end Ev
set_option Elab.async false
set_option linter.all false
set_option maxRecDepth 100000
namespace Ev
open PySem PySem.Spec L2
open PyProof.Rows hiding St
end Ev
set_option Elab.async false
set_option linter.all false
set_option maxRecDepth 100000
namespace Ev
open PySem PySem.Spec L2
open PyProof.Rows hiding St
end Ev
set_option Elab.async false
set_option linter.all false
set_option maxRecDepth 100000
namespace Ev
open PySem PySem.Spec L2
open PyProof.Rows hiding St
end Ev
set_option Elab.async false
set_option linter.all false
set_option maxRecDepth 100000
namespace Ev
open PySem PySem.Spec L2
open PyProof.Rows hiding St
end Ev
set_option Elab.async false
set_option linter.all false
set_option maxRecDepth 100000
namespace Ev
open PySem PySem.Spec L2
open PyProof.Rows hiding St
end Ev
set_option Elab.async false
set_option linter.all false
set_option maxRecDepth 100000
namespace Ev
open PySem PySem.Spec L2
open PyProof.Rows hiding St
end Ev
set_option Elab.async false
set_option linter.all false
set_option maxRecDepth 100000
namespace Ev
open PySem PySem.Spec L2
open PyProof.Rows hiding St
section
variable {X : Cx} {pos pos' p1 p2 : Pos} {e : Expr} {fe : EvE}
def tG2 (i j : Nat) (K : PySem.W.Frag) : TG := fun v σ H Q => ∃ a v1 v2, v = .ref a ∧ SqT K H a [v1, v2] ∧ Q ((σ.set i (some v1)).set j (some v2)) H
theorem g_two {k : Nat} (i j : Nat) {x y : Str} (hc : X.calm = true) (hN : X.N.Nodup) (hi : X.N[i]? = some x) (hj : X.N[j]? = some y) (hx : Loc X.env.scope x) (hy : Loc X.env.scope y) (hf : X.fn x = true ∨ X.env.scope.names.lookup x = some .local) (hg : X.fn y = true ∨ X.env.scope.names.lookup y = some .local)
    (hs : (assignEach [.Name x p1, .Name y p2] X.env).map (·.2) = assign (.Name x p1) X.env :: (assignEach [.Name y p2] X.env).map (·.2) := by rfl) (hs2 : (assignEach [.Name y p2] X.env).map (·.2) = assign (.Name y p2) X.env :: (assignEach [] X.env).map (·.2) := by rfl)
    (hn : (assignEach [.Name x p1, .Name y p2] X.env).length = 2 := by rfl) (hst : (assignEach [.Name x p1, .Name y p2] X.env).findIdx? (·.1) = none := by rfl) : PG X (.Tuple [.Name x p1, .Name y p2] k pos) (tG2 i j X.K) := by
  refine imp_g (pg_tup hc (pgs_cons (pg_name hN hi hx hf) (pgs_cons (pg_name hN hj hy hg) pgs_nil hs2) hs) hn hst) fun v σ H Q ⟨a, v1, v2, ev, h, q⟩ => ?_
  exact ⟨a, [v1, v2], ev, h, rfl, v1, [v2], rfl, v2, [], rfl, rfl, q⟩
end
end Ev
set_option Elab.async false
set_option linter.all false
set_option maxRecDepth 100000
namespace Ev
open PySem PySem.Spec L2
open PyProof.Rows hiding St
end Ev
set_option Elab.async false
set_option linter.all false
set_option maxRecDepth 100000
namespace Ev
open PySem PySem.Spec L2
open PyProof.Rows hiding St
theorem dAt_cat : ∀ {p q : List Nat} {d e : D}, dAt d p = some e → dAt d (p ++ q) = dAt e q
  | [], q, d, e, h => by cases h; rfl
  | j :: p, q, d, e, h => by
    unfold dAt at h
    obtain ⟨d1, e1, h⟩ := bind_some h
    show ((kids d)[j]?.bind fun e => dAt e (p ++ q)) = _
    rw [e1]
    exact dAt_cat h
theorem AtV.cut {H : Hp} : ∀ {v : V} {p q : List Nat} {u : V}, AtV H v (p ++ q) u → ∃ m, AtV H v p m ∧ AtV H m q u
  | v, [], q, u, h => ⟨v, .nil, h⟩
  | _, j :: p, q, u, .cons h1 h2 h3 => by
    obtain ⟨m, a, b⟩ := AtV.cut h3
    exact ⟨m, .cons h1 h2 a, b⟩
end Ev
set_option Elab.async false
set_option linter.all false
set_option maxRecDepth 100000
namespace Ev
open PySem PySem.Spec L2
open PyProof.Rows hiding St
theorem noPin_set {k : Nat} {ρ : Env} {i : Nat} (h : noPin k ρ = true) : noPin k (ρ.set i none) = true := by
  unfold noPin at h ⊢
  rw [List.all_eq_true] at h ⊢
  intro x hx
  rcases List.mem_or_eq_of_mem_set hx with hx | hx
  · exact h x hx
  · rw [hx]
end Ev
set_option Elab.async false
set_option linter.all false
set_option maxRecDepth 100000
namespace Ev
open PySem PySem.Spec L2
open PyProof.Rows hiding St
end Ev
set_option Elab.async false
set_option linter.all false
set_option maxRecDepth 100000
namespace Ev
open PySem PySem.Spec L2
open PyProof.Rows hiding St
end Ev
set_option Elab.async false
set_option linter.all false
set_option maxRecDepth 100000
namespace Ev
open PySem PySem.Spec L2
open PyProof.Rows hiding St
end Ev
set_option Elab.async false
set_option linter.all false
set_option maxRecDepth 100000
namespace Ev
open PySem PySem.Spec L2
open PyProof.Rows hiding St
end Ev
set_option Elab.async false
set_option linter.all false
set_option maxRecDepth 100000
namespace Ev
open PySem PySem.Spec L2
open PyProof.Rows hiding St
end Ev
set_option Elab.async false
set_option linter.all false
set_option maxRecDepth 100000
namespace Ev
open PySem PySem.Spec L2
open PyProof.Rows hiding St
end Ev
set_option Elab.async false
set_option linter.all false
set_option maxRecDepth 100000
namespace Ev
open PySem PySem.Spec L2
open PyProof.Rows hiding St
section
variable {X : Cx} {a b e : Expr} {es rest : List Expr} {fx fy : EvX} {pos p : Pos} {f g : EvTX} {ga : EvA}
theorem x_one (op : BoolOp) (ha : PXv X a fx) : PXv X (.BoolOp op [a] pos) fx := by
  cases op <;> exact pe_one ha
end
end Ev
set_option Elab.async false
set_option linter.all false
set_option maxRecDepth 100000
namespace Ev
open PySem PySem.Spec L2
open PyProof.Rows hiding St
end Ev
set_option Elab.async false
set_option linter.all false
set_option maxRecDepth 100000
namespace Ev
open PySem PySem.Spec L2
open PyProof.Rows hiding St
structure LamP (sc scope : Scope) (y : Str) : Prop where
  kind : scope.kind = .function
  co : scope.isCoroutine = false
  gen : scope.isGenerator = false
  own : ∀ z ∈ scope.names, z.2 ≠ .cell ∧ (z.2 = .local → z.1 = y)
  par : scope.names.lookup y = some .local
  free : ∀ z ∈ scope.names, z.2 = .free → sc.names.lookup z.1 = some .cell ∨ sc.names.lookup z.1 = some .free
theorem LamP.has {X : Cx} {scope : Scope} {y : Str} (L : LamP X.env.scope scope y) (ok : X.Ok) : ∀ y ∈ scope.names, y.2 = .free → ∃ c, X.env.cells.lookup y.1 = some c := fun y hy e => by
  rcases L.free y hy e with k | k
  · exact ok.has _ (.inl k)
  · exact ok.has _ (.inr k)
section
variable {X : Cx} {pins : List (Addr × Obj)} {σ : L2.St} {H HZ : Hp} {s s1 : Shared}
theorem lam_startP {A : Around} {outer : List PySem.Env} {E : XK} {scope : Scope} {f c' : Addr} {h₁ : Heap} {tk : Nat} {y : Str} {j : Nat} {v : V} {u : Value} (I : Inv X pins σ H s) (L : LamP X.env.scope scope y) (e0 : Env0 X.prog X.w X.K X.mg X.base A outer s H) (hd : A.handled = none)
    (hN : X.N[j]? = some y) (nd : X.N.Nodup) (rv : RelV v u)
    (hns : h₁.Ns s.heap.objs.size fun z => ([(y, u)] : List (Str × Value)).reverse.lookup z) (kp : ∀ b o, s.heap.get? b = some o → h₁.get? b = some o) :
    Inv (LamX.lamCx X A outer s H E scope f c') [] (σ.set j (some v)) H { s with heap := h₁, toks := tk } := by
  have hfree := L.has I.ok
  have cm : ∀ {y c}, (cloFrom X.env.cells scope.names []).lookup y = some c → X.env.cells.lookup y = some c := fun {y c} e => by
    rcases cloFrom_mem (PySem.mem_of_lookup e) with hm | ⟨h1, h2⟩
    · cases hm
    · obtain ⟨c1, hc⟩ := hfree _ h1 rfl
      have hc : X.env.cells.lookup y = some c1 := hc
      have e2 : c = c1 := by
        rw [h2, hc] <;> rfl
      rw [e2]
      exact hc
  have look : ∀ {y}, scope.names.lookup y = some .free → ∃ c, (cloFrom X.env.cells scope.names []).lookup y = some c := fun {y} hl => by
    have hy : (y, NameKind.free) ∈ scope.names := PySem.mem_of_lookup hl
    exact mem_lookup (cloFrom_has (cells := X.env.cells) (acc := []) hy)
  have cellK : ∀ {c : Addr} {v : Option Value}, s.heap.IsCell c v → h₁.IsCell c v := fun {c v} ⟨o, ho, hd⟩ => ⟨o, kp _ _ ho, hd⟩
  have noA : ∀ b : Addr, b ∉ (LamX.lamCx X A outer s H E scope f c').ex := fun b z => absurd (show b ∈ ([] : List Addr) from z) (by simp)
  refine ⟨⟨e0.mod, L.kind, rfl, rfl, Nat.le_refl _, fun y z c e1 e2 => I.ok.inj y z c (cm e1) (cm e2), fun y hy => ?_, fun y c z _ => ?_, fun _ => hd, Around.frames_deeper e0.frames, .inr ⟨rfl, rfl⟩, fun b z => absurd z (noA b), e0.bs, e0.bsz, fun b _ _ => noA b,
      fun b z => absurd z (noA b), e0.funs, e0.frf⟩,
    rfl, e0.bare, Un.kept kp, ⟨_, hns, fun i x w e1 e2 e3 => ?_⟩, fun y c e => ?_, e0.hok.fresh (Nat.le_refl _), fun y c e => ?_, fun q hq => absurd (show q ∈ ([] : List (Addr × Obj)) ++ [] from hq) (by simp), e0.hok.kept kp, by rw [List.length_set]; exact I.len⟩
  · have hy : scope.names.lookup y = some .cell ∨ scope.names.lookup y = some .free := hy
    rcases hy with hy | hy
    · exact absurd rfl (L.own _ (PySem.mem_of_lookup hy)).1
    · exact look hy
  · have z : false = true := z
    cases z
  · have e3 : Vis scope x := e3
    have e1 : X.N[i]? = some x := e1
    by_cases hij : i = j
    · subst hij
      rw [hN] at e1
      cases e1
      have hl : i < σ.length := by
        rw [I.len]
        exact (List.getElem?_eq_some_iff.mp hN).1
      rw [List.getElem?_set_self hl] at e2
      cases e2
      refine ⟨u, rv, .inl ⟨L.par, ?_⟩⟩
      show ([(y, u)] : List (Str × Value)).lookup y = some u
      simp
    · rw [List.getElem?_set_ne (fun z => hij z.symm)] at e2
      have hxy : x ≠ y := fun z => by
        subst z
        have h1 := (List.getElem?_eq_some_iff.mp e1)
        have h2 := (List.getElem?_eq_some_iff.mp hN)
        exact hij (by
          have := List.getElem_inj (h₀ := h1.1) (h₁ := h2.1) nd
          exact this.mp (h1.2.trans h2.2.symm))
      rcases e3 with k | k | k
      · exact absurd ((L.own _ (PySem.mem_of_lookup k)).2 rfl) hxy
      · exact absurd rfl (L.own _ (PySem.mem_of_lookup k)).1
      · obtain ⟨m, hn, hl⟩ := I.loc
        have hvis : Vis X.env.scope x := (L.free _ (PySem.mem_of_lookup k) rfl).elim (fun k => .inr (.inl k)) (fun k => .inr (.inr k))
        obtain ⟨w', r, q⟩ := hl i x w e1 e2 hvis
        obtain ⟨c2, h2⟩ := look k
        refine ⟨w', r, .inr ⟨.inr k, c2, h2, ?_⟩⟩
        have c1 := cm h2
        rcases q with ⟨k', _⟩ | ⟨_, c3, e', z⟩
        · have k' : X.env.scope.names.lookup x = some .local := k'
          rcases L.free _ (PySem.mem_of_lookup k) rfl with k2 | k2 <;> rw [show X.env.scope.names.lookup x = _ from k2] at k' <;> cases k'
        · rw [c1] at e'
          cases e'
          exact cellK z
  · obtain ⟨w', z⟩ := I.cell y c (cm e)
    exact ⟨w', cellK z⟩
  · exact I.freeC y c (cm e)
theorem lam_act {A : Around} {scope : Scope} {f c' : Addr} {pm ctv : Value} {params : Arguments} {body : Expr} {k j : Nat} {y : Str} {v : V} {u : Value} {tb : TE} {Q : VK}
    (I : Inv X pins σ H s) (L : LamP X.env.scope scope y) (hf : s.heap.get? f = some (PySem.W.kla_obj "<lambda>" (X.env.qual ++ "<lambda>") params body scope (cloFrom X.env.cells scope.names []) pm c' ctv))
    (hc : H c' = some (LamX.CodeO c' (X.env.qual ++ "<lambda>")))
    (hbind : bindArgs (PySem.W.kla_fn "<lambda>" (X.env.qual ++ "<lambda>") params body scope (cloFrom X.env.cells scope.names []) pm (.ref c') ctv) ⟨[u], []⟩ = pure [(y, u)])
    (hr : Room (k + 1) A) (hfr : A.frames = some X.stack) (hN : X.N[j]? = some y) (nd : X.N.Nodup) (rv : RelV v u)
    (hbody : ∀ (A : Around) (outer : List PySem.Env) (s : Shared) (H : Hp) (E : XK), Room k (A.deeper (LamX.lamEnv X scope s.heap.objs.size f c')) → PE (LamX.lamCx X A outer s H E scope f c') body tb)
    (ht : tb (σ.set j (some v)) H Q) :
    wpAny (model X.prog X.w) A (call (.ref f) [u]) (fun u' s' => CE X.stack X.prog X.w H s Q u' s') (fun _ _ => False) s := by
  have e0 : Env0 X.prog X.w X.K X.mg X.base A X.stack s H := ⟨hfr, I.env0.mod, I.env0.bs, I.env0.bsz, I.env0.funs, I.env0.frf, I.env0.hok, I.env0.bare⟩
  obtain ⟨⟨oc, vs, t, hoc, hdc, hvc⟩, _, _⟩ := I.hok c' _ hc
  have rc : codeAny (model X.prog X.w) A (.call (.ref f) ⟨[u], []⟩) (CR (L2.CX X.prog X.w) X.stack X.prog X.w H s Q (fun _ _ _ => False)) s := by
    refine PySem.W.kla_callFunE hr.depth hf rfl L.co L.gen rfl ⟨c', oc, vs, t, rfl, hoc, hdc, hvc⟩ ?_
    rw [hbind]
    refine wpAny_pure (wpAny_newFunctionEnv (fun y hy => (L.own y hy).1) (fun z hz => by rw [List.mem_singleton.mp hz]; exact L.par) (fun h₁ hns hsb => ⟨I.nolimit.fresh _ hsb, ?_⟩) L.kind)
    show codeAny _ _ (.expr body (LamX.lamEnv X scope s.heap.objs.size f c')) _ _
    have kp : ∀ b o, s.heap.get? b = some o → h₁.get? b = some o := fun b o e => hsb.extBut b o (Nat.ne_of_lt (Heap.lt_size e)) (Heap.get?_push_of_some _ e)
    have J : Inv (LamX.lamCx X A X.stack s H (fun _ _ _ => False) scope f c') [] (σ.set j (some v)) H { s with heap := h₁, toks := s.toks + ([(y, u)] : List (Str × Value)).length } :=
      lam_startP I L e0 hr.hd hN nd rv hns kp
    refine PySem.W.kla_codeExpr (wpAny_mono ((hbody _ _ s H _ (hr.deeper _)).run [] _ _ H Q J ht) (fun v s' hq => ?_) fun e s' hq => hq)
    obtain ⟨w', H', J', rv, q⟩ := hq
    exact ⟨w', H', J'.os, J'.bare, J'.base, J'.hok, rv, q⟩
  refine wpAny_call (codeAny_mono rc fun r s' hq => ?_)
  cases r with
  | error e =>
    have x : L2.CX X.prog X.w X.stack H s (fun _ _ _ => False) e s' := hq
    obtain ⟨_, _, _, _, _, _, _, _, _, _, _, _, _, _, _, _, z⟩ := x
  | ok fl =>
    cases fl with
    | ret u => exact hq
    | next => exact False.elim hq
    | brk => exact False.elim hq
    | cont => exact False.elim hq
theorem codeO_nt {c : Addr} {q : Str} : NT (LamX.CodeO c q) := by unfold LamX.CodeO; trivial
def bestK (ks : List Int) : Nat → Nat := argBest fun i j => decide (ks.getD i 0 < ks.getD j 0)
theorem min_run {scope : Scope} {f c' l : Addr} {pm ctv : Value} {params : Arguments} {body : Expr} {k j : Nat} {y : Str} {tb : TE} {Q : VK} {xs : List V} {ks : List Int} {dv : V} {d : Value}
    (I : Inv X pins σ H s) (L : LamP X.env.scope scope y) (hf : s.heap.get? f = some (PySem.W.kla_obj "<lambda>" (X.env.qual ++ "<lambda>") params body scope (cloFrom X.env.cells scope.names []) pm c' ctv)) (hfn : H f = none) (hfr : f ∉ frs X.stack)
    (hc : H c' = some (LamX.CodeO c' (X.env.qual ++ "<lambda>")))
    (hbind : ∀ u, bindArgs (PySem.W.kla_fn "<lambda>" (X.env.qual ++ "<lambda>") params body scope (cloFrom X.env.cells scope.names []) pm (.ref c') ctv) ⟨[u], []⟩ = pure [(y, u)])
    (hr : Room (k + 2) X.A) (hN : X.N[j]? = some y) (nd : X.N.Nodup) (hl : ∀ H', Same H H' → SqL X.K H' l xs) (hks : ks.length = xs.length)
    (hbody : ∀ (A : Around) (outer : List PySem.Env) (s : Shared) (H : Hp) (E : XK), Room k (A.deeper (LamX.lamEnv X scope s.heap.objs.size f c')) → PE (LamX.lamCx X A outer s H E scope f c') body tb)
    (ht : ∀ H', Same H H' → ∀ (i : Nat) (v : V), xs[i]? = some v → tb (σ.set j (some v)) H' fun r H2 => r = .int (ks.getD i 0) ∧ Same H' H2)
    (rd : RelV dv d) (h0 : ∀ H', Same H H' → xs = [] → Q dv H') (h1 : ∀ H', Same H H' → ∀ v, xs[bestK ks (xs.length - 1)]? = some v → Q v H') :
    wpAny (model X.prog X.w) X.A (call (.builtin "min") [.ref l] [(Str.ofString "key", .ref f), (Str.ofString "default", d)]) (EP X pins σ Q) X.xe s := by
  obtain ⟨its, r0, pl, hz⟩ := I.list (hl H (.refl H))
  have hr1 : Room (k + 1) X.A.in1 := hr.in1
  have lI : l < s.heap.objs.size := let ⟨o, e, _⟩ := pl.isList; Heap.lt_size e
  refine PySem.call_min_walkKD ?_
  refine wpAny_pyIter_list pl.isList ?_
  let s2 : Shared := { s with heap := s.heap.push { cls := .type "list_iterator", data := .fields #[.ref l, .int 0 0] } }
  show ∃ I fp wr G n P St J V bt, _ ∧ _
  have I2 : Inv X pins σ H s2 := I.kept (t' := s.toks) fun b o e => Heap.get?_push_of_some _ e
  have lt2 : s.heap.objs.size < s2.heap.objs.size := by
    show _ < (Heap.push _ _).objs.size
    rw [size_push']
    exact Nat.lt_succ_self _
  have fI : FpOk X pins H s.heap.objs.size := I.fpOk (Nat.le_refl _) (I.hok.fresh (Nat.le_refl _))
  have fS : FpOk X pins H s2.heap.objs.size := I2.fpOk (Nat.le_refl _) (I2.hok.fresh (Nat.le_refl _))
  have f2 : s2.heap.get? f = some (PySem.W.kla_obj "<lambda>" (X.env.qual ++ "<lambda>") params body scope (cloFrom X.env.cells scope.names []) pm c' ctv) := Heap.get?_push_of_some _ hf
  have neI : l ≠ s.heap.objs.size := Nat.ne_of_lt lI
  have nfI : f ≠ s.heap.objs.size := Nat.ne_of_lt (Heap.lt_size hf)
  have nfS : f ≠ s2.heap.objs.size := Nat.ne_of_lt (Heap.lt_size f2)
  refine ⟨s.heap.objs.size, [s.heap.objs.size, l], [s.heap.objs.size], (fun a b => b = a), xs.length, (fun i v => ∃ x, xs[i]? = some x ∧ RelV x v),
    (fun i t => t.heap.IsListIter s.heap.objs.size l i ∧ ∃ its, Vals xs its ∧ t.heap.IsList l its.toArray),
    (fun t => ∃ H', Same H H' ∧ H' f = none ∧ H' s.heap.objs.size = none ∧ H' s2.heap.objs.size = none ∧ Inv X pins σ H' t ∧ t.heap.get? f = some (PySem.W.kla_obj "<lambda>" (X.env.qual ++ "<lambda>") params body scope (cloFrom X.env.cells scope.names []) pm c' ctv)),
    (fun i k _ => ∃ t, k = .int (ks.getD i 0) t), (fun i j => decide (ks.getD i 0 < ks.getD j 0)), rfl, ?_, ⟨⟨_, Heap.get?_push_size _ rfl, rfl, rfl⟩, its, r0, ?_⟩, ?_, ?_, ⟨H, .refl H, hfn, fI.1, fS.1, I2, f2⟩, ?_, ?_⟩
  · refine ⟨fun b hb => by rw [List.mem_singleton.mp hb]; exact List.mem_cons_self, fun _ => rfl, fun _ _ _ h1 h2 => h2.trans h1, fun i t h' tk st _ hk => ?_, fun i t Q' E' hi st hQ => ?_, fun t Q' E' st hQ => ?_, fun i t Q' E' st hQ => wpAny_pyIter_listiter st.1 hQ⟩
    · obtain ⟨⟨o, e, q⟩, its, r, o2, e2, q2⟩ := st
      exact ⟨⟨o, hk _ List.mem_cons_self o e, q⟩, its, r, o2, hk _ (List.mem_cons_of_mem _ List.mem_cons_self) o2 e2, q2⟩
    · obtain ⟨g1, its, r, g2⟩ := st
      have W := (Walks.list (prog := X.prog) (w := X.w) (A := X.A.in1) hr1.hd s.heap.objs.size l neI its.toArray).toS
      refine W.item i t Q' E' (by rw [List.size_toArray, ← r.length]; exact hi) ⟨g1, g2⟩ fun v t' hP st' mv => ?_
      have ex : xs[i]? = some xs[i] := List.getElem?_eq_getElem hi
      obtain ⟨u, eu, ru⟩ := r.get ex
      have hP : its.toArray[i]? = some v := hP
      rw [List.getElem?_toArray, eu] at hP
      cases hP
      exact hQ _ t' ⟨_, ex, ru⟩ ⟨st'.1, its, r, st'.2⟩ mv
    · obtain ⟨g1, its, r, g2⟩ := st
      have W := (Walks.list (prog := X.prog) (w := X.w) (A := X.A.in1) hr1.hd s.heap.objs.size l neI its.toArray).toS
      refine W.done t Q' E' ?_ hQ
      have e : its.toArray.size = xs.length := (by rw [List.size_toArray]; exact r.length.symm)
      show t.heap.IsListIter _ _ its.toArray.size ∧ _
      rw [e]
      exact ⟨g1, g2⟩
  · obtain ⟨o, e, q⟩ := pl.isList
    exact ⟨o, Heap.get?_push_of_some _ e, q⟩
  · intro b hb
    rcases List.mem_cons.mp hb with z | z
    · rw [z]; exact lt2
    · rw [List.mem_singleton.mp z]; exact Nat.lt_trans lI lt2
  · have fp : ∀ {H' : Hp}, H' s.heap.objs.size = none → H' s2.heap.objs.size = none → ∀ b ∈ [s2.heap.objs.size, s.heap.objs.size], FpOk X pins H' b := fun n1 n2 b hb => by
      rcases List.mem_cons.mp hb with z | z
      · rw [z]; exact ⟨n2, fS.2⟩
      · rw [List.mem_singleton.mp z]; exact ⟨n1, fI.2⟩
    have offS : ∀ {b}, FpOk X pins H b → b ∉ frs X.stack := fun {b} q m => by
      rcases List.mem_cons.mp (I.stkSub b m) with z | z
      · exact q.2.1 z
      · exact q.2.2.1 z
    refine ⟨fun t t' J mv => ?_, fun _ _ _ _ h _ => h, fun i v t o Q' E' hi hP J st hS kk => ?_, fun i j ki kj t Q' E' _ h1 h2 q => ?_⟩
    · obtain ⟨H', sm, n0, n1, n2, J1, J2⟩ := J
      have J2' := mv.heap f _ (fun hb => by
        rcases List.mem_cons.mp hb with z | z
        · exact nfS z
        · exact nfI (List.mem_singleton.mp z)) J2
      refine ⟨H', sm, n0, n1, n2, ?_, J2'⟩
      have J3 := J1.turnedL (t' := t'.toks) (h' := t'.heap) (ch := [s2.heap.objs.size, s.heap.objs.size]) mv.heap (fp n1 n2)
      obtain ⟨hh, g, dr, tk, os⟩ := t'
      have e1 : g = t.gens := mv.gens
      have e2 : dr = t.drawn := mv.drawn
      have e3 : os = t.os := mv.os
      subst e1 e2 e3
      exact J3
    · obtain ⟨x, ex, rx⟩ := hP
      obtain ⟨H', sm, n0, n1, n2, J1, J2⟩ := J
      obtain ⟨g1, _⟩ := st
      refine wpAny_mono (lam_act J1 L J2 (sm.k _ _ hc codeO_nt) (hbind v) hr1 I.ok.frames hN nd rx hbody (ht H' sm i x ex)) (fun u t' ce => ?_) fun _ _ z => z.elim
      obtain ⟨v3, H3, os3, bare3, un, hok3, r3, e1, sm3⟩ := ce
      have ce2 : CE X.stack X.prog X.w H' t (fun v H2 => v = v3 ∧ H2 = H3) u t' := ⟨v3, H3, os3, bare3, un, hok3, r3, rfl, rfl⟩
      obtain ⟨_, _, I2', _, e2, e4⟩ := J1.after ce2
      subst e1 e2 e4
      obtain ⟨tk, rfl⟩ := r3
      have sm4 := sm.trans sm3
      obtain ⟨its', r', pl', _⟩ := I2'.list (hl _ sm4)
      obtain ⟨oI, eI, qI⟩ := g1
      exact kk _ t' ⟨_, sm4, un.free f _ J2 n0 (fun z => nomatch z), un.free _ _ eI n1 (fun z => nomatch z), un.free _ _ hS n2 (fun z => nomatch z), I2', un.keep f _ J2 n0 hfr (fun z => nomatch z)⟩ ⟨⟨oI, un.keep _ _ eI n1 (offS fI) (fun z => nomatch z), qI⟩, its', r', pl'.isList⟩ (un.keep _ _ hS n2 (offS fS) (fun z => nomatch z)) ⟨tk, rfl⟩ (fun _ _ h => h)
    · obtain ⟨t1, rfl⟩ := h1
      obtain ⟨t2, rfl⟩ := h2
      exact CmpOf.ints_lt (prog := X.prog) (w := X.w) (A := X.A.in1) (P := fun i v => ∃ t, v = .int (ks.getD i 0) t) (fun i => ks.getD i 0) (fun i v h => h) i j _ _ _ _ _ ⟨t1, rfl⟩ ⟨t2, rfl⟩ q
  · exact fun hn t' ⟨H', sm, _, _, _, J, _⟩ => ⟨dv, H', J, rd, h0 H' sm (List.eq_nil_of_length_eq_zero hn)⟩
  · exact fun hn v t' ⟨x, ex, rx⟩ ⟨H', sm, _, _, _, J, _⟩ => ⟨x, H', J, rx, h1 H' sm x ex⟩
theorem lam_make3 {c P : Addr} {params : Arguments} {body : Expr} {scope : Scope} {pos : Pos} {E : Value → Shared → Prop} {Q : Value → Shared → Prop} (I : Inv X pins σ H s) (TB : LamX.TabB X.base X.mg c P) (hcode : X.env.code = .ref c)
    (hT : TbQ H P (X.env.qual ++ "<lambda>")) (hdef : defaultsOf params X.env = ([], [])) (hfree : ∀ y ∈ scope.names, y.2 = .free → ∃ c, X.env.cells.lookup y.1 = some c)
    (h : ∀ (f c' : Addr) (pm ctv : Value) (H1 : Hp) (s' : Shared), Inv X pins σ H1 s' → Same H H1 →
      s'.heap.get? f = some (PySem.W.kla_obj "<lambda>" (X.env.qual ++ "<lambda>") params body scope (cloFrom X.env.cells scope.names []) pm c' ctv) → H1 f = none → f ∉ frs X.stack → H1 c' = some (LamX.CodeO c' (X.env.qual ++ "<lambda>")) → Q (.ref f) s') :
    wpAny (model X.prog X.w) X.A (eval (.Lambda params body scope pos) X.env) Q E s := by
  obtain ⟨hq, ps, hP, ht, ha⟩ := hT
  refine PySem.W.kla_eval hdef ?_
  have bP : s.heap.BuiltinsAt X.mg P := TB.bm.keeps I.bk
  have hP' : s.heap.get? P = some { cls := .none, data := .fields ps } := I.hok P _ hP
  have nofr : ∀ f, s.heap.objs.size ≤ f → f ∉ frs X.stack := fun f hf z => by
    rcases List.mem_cons.mp (I.stkSub _ z) with e | e
    · have h1 := I.lt
      rw [← e] at h1
      exact Nat.lt_irrefl _ (Nat.lt_of_lt_of_le h1 hf)
    · exact I.nofs hf e
  cases hc : codeAmong pos ps.toList with
  | none =>
    refine PySem.W.kla_makeFunction (mg := X.mg) (c := c) (P := P) (ps := ps) (closure_ok hfree) I.ok.glob (I.mod.glob.keeps I.bk) hcode (TB.code.keeps I.bk) hP' ht hc TB.gP bP fun c' ctv h' tk hx hge hlt hrec htb => ?_
    obtain ⟨c2, oc, vs, t, e2, hoc, hd, hv⟩ := hrec
    cases e2
    have hsz : s.heap.objs.size ≤ h'.objs.size := Nat.le_trans hge (Nat.le_of_lt hlt)
    have nC : H c' = none := I.hok.fresh hge
    have nPc : P ≠ c' := ne_of_none hP nC
    have I1 := LamX.inv_table (t' := tk) (more := #[rawInt pos.line, rawInt pos.col, .ref c']) (h' := h'.push (PySem.W.kla_obj "<lambda>" (X.env.qual ++ "<lambda>") params body scope (cloFrom X.env.cells scope.names []) ((X.mg "__name__").getD .none) c' ctv)) I hP
      (fun b o hb e => Heap.get?_push_of_some _ (hx b o hb e)) (Heap.get?_push_of_some _ htb) hge ⟨oc, vs, t, Heap.get?_push_of_some _ hoc, hd, hv⟩
    have hK : ∀ b o, H b = some o → NT o → upd (upd H P (.tbl (ps ++ #[rawInt pos.line, rawInt pos.col, .ref c']))) c' (LamX.CodeO c' (X.env.qual ++ "<lambda>")) b = some o := fun b o e n => by
      have : b ≠ P := fun z => by
        rw [z, hP] at e
        cases e
        exact n
      rw [upd_ne (ne_of_none e nC), upd_ne this]
      exact e
    have eL : (ps ++ #[rawInt pos.line, rawInt pos.col, .ref c']).toList = ps.toList ++ [rawInt pos.line, rawInt pos.col, .ref c'] := by simp
    refine h h'.objs.size c' ((X.mg "__name__").getD .none) ctv _ _ I1 ⟨hK, fun b e => ?_, fun P' q' t' => ?_⟩ (Heap.get?_push_size _ rfl) ?_ (nofr _ hsz) upd_same
    · by_cases h1 : b = c'
      · rw [h1]; exact nC
      · rw [upd_ne h1] at e
        by_cases h2 : b = P
        · rw [h2, upd_same] at e; cases e
        · rw [upd_ne h2] at e; exact e
    · obtain ⟨hq', ps', a1, a2, a3⟩ := t'
      refine ⟨hq', ?_⟩
      by_cases hb : P' = P
      · subst hb
        rw [hP] at a1
        cases a1
        refine ⟨_, by rw [upd_ne nPc, upd_same], by rw [eL]; exact PySem.TriplesOk_snoc _ _ _ _ ht, fun p' cv hcv => ?_⟩
        rw [eL] at hcv
        rcases LamX.among_app _ ht hcv with z | z
        · obtain ⟨c0, e1, e2⟩ := a3 p' cv z
          exact ⟨c0, e1, hK _ _ e2 codeO_nt⟩
        · exact ⟨c', z, by rw [upd_same, hq', hq]⟩
      · refine ⟨ps', by rw [upd_ne (ne_of_none a1 nC), upd_ne hb]; exact a1, a2, fun p' cv hcv => ?_⟩
        obtain ⟨c0, e1, e2⟩ := a3 p' cv hcv
        exact ⟨c0, e1, hK _ _ e2 codeO_nt⟩
    · have n1 : h'.objs.size ≠ c' := Nat.ne_of_gt hlt
      have n2 : h'.objs.size ≠ P := Nat.ne_of_gt (Nat.lt_of_lt_of_le (Heap.lt_size hP') hsz)
      rw [upd_ne n1, upd_ne n2]
      exact I.hok.fresh hsz
  | some cv =>
    obtain ⟨c', e, hco⟩ := ha pos cv hc
    subst e
    refine PySem.W.kla_makeFunctionHit (mg := X.mg) (c := c) (P := P) (ps := ps) (closure_ok hfree) I.ok.glob (I.mod.glob.keeps I.bk) hcode (TB.code.keeps I.bk) hP' ht hc bP fun ctv h' tk hx hsz => ?_
    have I1 : Inv X pins σ H { s with heap := h'.push (PySem.W.kla_obj "<lambda>" (X.env.qual ++ "<lambda>") params body scope (cloFrom X.env.cells scope.names []) ((X.mg "__name__").getD .none) c' ctv), toks := tk } := I.kept fun b o e => Heap.get?_push_of_some _ (hx b o e)
    exact h h'.objs.size c' ((X.mg "__name__").getD .none) ctv H _ I1 (Same.refl H) (Heap.get?_push_size _ rfl) (I.hok.fresh hsz) (nofr _ hsz) hco
def tMinL (K : PySem.W.Frag) (P : Addr) (q : Str) (j : Nat) (te tb : TE) : TE := fun σ H Q => te σ H fun v H1 => ∃ l xs ks, v = .ref l ∧ SqL K H1 l xs ∧ ks.length = xs.length ∧ TbQ H1 P q ∧
  ∀ H2, Same H1 H2 → SqL K H2 l xs ∧ (∀ (i : Nat) (v : V), xs[i]? = some v → tb (σ.set j (some v)) H2 fun r H' => r = .int (ks.getD i 0) ∧ Same H2 H') ∧ (xs = [] → Q .non H2) ∧ ∀ v, xs[bestK ks (xs.length - 1)]? = some v → Q v H2
theorem pe_minlam {c P : Addr} {params : Arguments} {body : Expr} {scope : Scope} {lpos kp1 kp2 npos p pos : Pos} {jn : Nat} {e : Expr} {te tb : TE} {k j : Nat} {y : Str} (hm : X.mg "min" = none) (hg : Gl X "min") (TB : LamX.TabB X.base X.mg c P) (hcode : X.env.code = .ref c)
    (L : LamP X.env.scope scope y) (hdef : defaultsOf params X.env = ([], [])) (he : PE X e te) (hr : Room (k + 2) X.A) (hN : X.N[j]? = some y) (nd : X.N.Nodup)
    (hbind : ∀ (q : Str) (cl : List (Str × Addr)) (pm cv ctv u : Value), bindArgs (PySem.W.kla_fn "<lambda>" q params body scope cl pm cv ctv) ⟨[u], []⟩ = pure [(y, u)])
    (hbody : ∀ (A : Around) (outer : List PySem.Env) (s : Shared) (H : Hp) (E : XK) (f c' : Addr), Room k (A.deeper (LamX.lamEnv X scope s.heap.objs.size f c')) → PE (LamX.lamCx X A outer s H E scope f c') body tb)
    (hst : starEach [e] X.env = (false, eval e X.env) :: starEach [] X.env := by rfl)
    (hb : backTo pos (starEach [e] X.env) = (false, eval e X.env) :: backTo pos (starEach [] X.env) := by rfl) (hpl : (backTo pos (starEach [e] X.env)).any (·.1) = false := by rfl)
    (hall : (backToKw pos (keywordEach [⟨some "key", .Lambda params body scope lpos, kp1⟩, ⟨some "default", .Constant .none jn npos, kp2⟩] X.env)).all (·.1.isSome) = true := by rfl) (hnone : (backToKw pos (keywordEach [⟨some "key", .Lambda params body scope lpos, kp1⟩, ⟨some "default", .Constant .none jn npos, kp2⟩] X.env)).any (·.1.isNone) = false := by rfl) :
    PE X (.Call (.Name "min" p) [e] [⟨some "key", .Lambda params body scope lpos, kp1⟩, ⟨some "default", .Constant .none jn npos, kp2⟩] pos) (tMinL X.K P (X.env.qual ++ "<lambda>") j te tb) := by
  refine ⟨fun pins s σ H Q I h => ?_⟩
  refine wpAny_Call_Name_kw (ld_blt I hg hm rfl ?_ (by decide) (by decide))
  refine PyProof.Rows.callWith_kw (thn ((pa_cons he pa_nil hst).run pos pins s σ H (fun vs H1 => match vs with
    | [v] => ∃ l xs ks, v = .ref l ∧ SqL X.K H1 l xs ∧ ks.length = xs.length ∧ TbQ H1 P (X.env.qual ++ "<lambda>") ∧
      ∀ H2, Same H1 H2 → SqL X.K H2 l xs ∧ (∀ (i : Nat) (v : V), xs[i]? = some v → tb (σ.set j (some v)) H2 fun r H' => r = .int (ks.getD i 0) ∧ Same H2 H') ∧ (xs = [] → Q .non H2) ∧ ∀ v, xs[bestK ks (xs.length - 1)]? = some v → Q v H2
    | _ => False) I h) fun us s1 ⟨vs, H1, I1, r1, q1⟩ => ?_) hb hpl hall hnone
  cases vs with
  | nil => exact q1.elim
  | cons v vs =>
    cases vs with
    | cons _ _ => exact q1.elim
    | nil =>
      obtain ⟨l, xs, ks, e2, hl, hlen, hT, h⟩ := q1
      subst e2
      cases r1 with
      | cons ra rb =>
        cases rb
        cases ra
        show wpAny _ _ (evalAll ((do let v ← eval (.Lambda params body scope lpos) X.env; standAt pos; pure v) :: [do let v ← eval (.Constant .none jn npos) X.env; standAt pos; pure v])) _ _ s1
        refine wpAny_evalAll_cons (wpAny_bind (lam_make3 I1 TB hcode hT hdef (L.has I.ok) fun f c' pm ctv H2 s2 I2 sm hf hfn hfr hco => wpAny_bind (wpAny_standAt (wpAny_pure ?_))))
        refine wpAny_evalAll_cons (wpAny_bind (Constant_none (wpAny_bind (wpAny_standAt (wpAny_pure (wpAny_evalAll_nil ?_))))))
        exact min_run I2 L hf hfn hfr hco (fun u => hbind _ _ _ _ _ u) hr hN nd (fun H' s' => (h H' (sm.trans s')).1) hlen (fun A outer s H E hr => hbody A outer s H E f c' hr) (fun H' s' => (h H' (sm.trans s')).2.1) (dv := .non) rfl (fun H' s' => (h H' (sm.trans s')).2.2.1) fun H' s' => (h H' (sm.trans s')).2.2.2
end
end Ev
set_option Elab.async false
set_option linter.all false
set_option maxRecDepth 100000
namespace Ev
open PySem PySem.Spec L2
open PyProof.Rows hiding St
def keyL (j : Nat) (fl : EvE) (ρ : Env) (n : Int) : Option Int := (fl (ρ.set j (some ⟨.int n, .full, false, none⟩))).bind fun q => match q.d with
  | .int z => some z
  | _ => none
def keysL (j : Nat) (fl : EvE) (ρ : Env) : List Int → Option (List Int)
  | [] => some []
  | n :: ns => (keyL j fl ρ n).bind fun z => (keysL j fl ρ ns).map (z :: ·)
theorem keysL_get {j : Nat} {fl : EvE} {ρ : Env} : ∀ {ns ks : List Int}, keysL j fl ρ ns = some ks → ks.length = ns.length ∧ ∀ (i : Nat) (n : Int), ns[i]? = some n → keyL j fl ρ n = some (ks.getD i 0)
  | [], ks, h => by
    cases h
    exact ⟨rfl, fun i n e => by simp at e⟩
  | n :: ns, ks, h => by
    unfold keysL at h
    obtain ⟨z, e1, h⟩ := bind_some h
    obtain ⟨zs, e2, h⟩ := Option.map_eq_some_iff.mp h
    subst h
    obtain ⟨h1, h2⟩ := keysL_get e2
    refine ⟨by rw [List.length_cons, List.length_cons, h1], fun i m e => ?_⟩
    cases i with
    | zero =>
      simp at e
      subst e
      simpa using e1
    | succ i =>
      simp at e
      simpa using h2 i m e
def eMinL (j : Nat) (fe fl : EvE) : EvE := fun ρ => if j < ρ.length then (fe ρ).bind fun r => match r.d with
  | .lst ds => (intsOf ds).bind fun ns => (keysL j fl ρ ns).map fun ks => match ns[bestK ks (ns.length - 1)]? with
    | some m => rI m
    | none => rA .non
  | _ => none else none
theorem e_minlam {X : Cx} {c P : Addr} {params : Arguments} {body : Expr} {scope : Scope} {lpos kp1 kp2 npos p pos : Pos} {jn : Nat} {e : Expr} {fe fl : EvE} {k j : Nat} {y : Str} (hw : Want X.K P (X.env.qual ++ "<lambda>")) (hm : X.mg "min" = none) (hg : Gl X "min") (TB : LamX.TabB X.base X.mg c P) (hcode : X.env.code = .ref c)
    (L : LamP X.env.scope scope y) (hdef : defaultsOf params X.env = ([], [])) (he : PEv X e fe) (hr : Room (k + 2) X.A) (hN : X.N[j]? = some y) (nd : X.N.Nodup)
    (hbind : ∀ (q : Str) (cl : List (Str × Addr)) (pm cv ctv u : Value), bindArgs (PySem.W.kla_fn "<lambda>" q params body scope cl pm cv ctv) ⟨[u], []⟩ = pure [(y, u)])
    (hbody : ∀ (A : Around) (outer : List PySem.Env) (s : Shared) (H : Hp) (E : XK) (f c' : Addr), Room k (A.deeper (LamX.lamEnv X scope s.heap.objs.size f c')) → PEv (LamX.lamCx X A outer s H E scope f c') body fl)
    (hst : starEach [e] X.env = (false, eval e X.env) :: starEach [] X.env := by rfl)
    (hb : backTo pos (starEach [e] X.env) = (false, eval e X.env) :: backTo pos (starEach [] X.env) := by rfl) (hpl : (backTo pos (starEach [e] X.env)).any (·.1) = false := by rfl)
    (hall : (backToKw pos (keywordEach [⟨some "key", .Lambda params body scope lpos, kp1⟩, ⟨some "default", .Constant .none jn npos, kp2⟩] X.env)).all (·.1.isSome) = true := by rfl) (hnone : (backToKw pos (keywordEach [⟨some "key", .Lambda params body scope lpos, kp1⟩, ⟨some "default", .Constant .none jn npos, kp2⟩] X.env)).any (·.1.isNone) = false := by rfl) :
    PEv X (.Call (.Name "min" p) [e] [⟨some "key", .Lambda params body scope lpos, kp1⟩, ⟨some "default", .Constant .none jn npos, kp2⟩] pos) (eMinL j fe fl) := by
  refine imp_e (pe_minlam (tb := tE X.K fl) hm hg TB hcode L hdef he hr hN nd hbind hbody hst hb hpl hall hnone) fun σ H Q ⟨N, H0, ρ, L1, W, r, sim, z, q⟩ => ?_
  unfold eMinL at z
  split at z
  · rename_i hj
    obtain ⟨x, e1, z⟩ := bind_some z
    split at z
    · rename_i ds hd
      obtain ⟨ns, e2, z⟩ := bind_some z
      obtain ⟨ks, e3, z⟩ := Option.map_eq_some_iff.mp z
      subst z
      obtain ⟨hlen, hk⟩ := keysL_get e3
      have hds := intsOf_some e2
      subst hds
      refine one sim e1 fun v H1 F s1 n1 d1 p1 => ?_
      rw [hd] at p1
      obtain ⟨a, vs, G, rfl, h1, h2, _, _⟩ := p1.lst_inv
      obtain ⟨rfl, _⟩ := h2.ints
      refine ⟨a, ns.map V.int, ks, rfl, SqL.of h1, by rw [List.length_map]; exact hlen, sim.kp.tb.same s1 P _ hw, fun H2 s2 => ⟨SqL.of (s2.k _ _ h1 trivial), fun i v ei => ?_, fun en => ?_, fun v ev => ?_⟩⟩
      · rw [List.getElem?_map] at ei
        obtain ⟨n, en, ev⟩ := Option.map_eq_some_iff.mp ei
        subst ev
        have hkey := hk i n en
        unfold keyL at hkey
        obtain ⟨qv, e4, e5⟩ := bind_some hkey
        obtain ⟨L2, sim2, _⟩ := ((sim.same s1).same s2).set0 (i := j) (v := .int n) (r := ⟨.int n, .full, false, none⟩) (fun _ e => nomatch e) .int hj
        refine ⟨N, H0, _, L2, W, qv, sim2, e4, fun u H3 F3 s3 _ _ rp => ?_⟩
        split at e5
        · rename_i zz hz
          cases e5
          rw [hz] at rp
          exact ⟨rp.int_inv.1, s3⟩
        · cases e5
      · have : ns = [] := List.map_eq_nil_iff.mp en
        subst this
        have q : Post X.K N W H (rA .non) Q := q
        exact q.atom (s1.trans s2) fun _ => .non
      · rw [List.getElem?_map, List.length_map] at ev
        obtain ⟨m, em, ev⟩ := Option.map_eq_some_iff.mp ev
        subst ev
        rw [em] at q
        exact q.int (s1.trans s2)
    · cases z
  · cases z
end Ev
namespace Ev
open PySem PySem.Spec L2
open PyProof.Rows hiding St
def lamPB (sc scope : Scope) (y : Str) : Bool :=
  decide (scope.kind = .function) && !scope.isCoroutine && !scope.isGenerator && decide (scope.names.lookup y = some .local) && scope.names.all fun z => !decide (z.2 = .cell) && (!decide (z.2 = .local) || decide (z.1 = y)) && (!decide (z.2 = .free) || decide (sc.names.lookup z.1 = some .cell) || decide (sc.names.lookup z.1 = some .free))
theorem lamP_by {sc scope : Scope} {y : Str} (h : lamPB sc scope y = true) : LamP sc scope y := by
  unfold lamPB at h
  simp only [Bool.and_eq_true, Bool.or_eq_true, Bool.not_eq_true', decide_eq_true_eq, decide_eq_false_iff_not, List.all_eq_true] at h
  obtain ⟨⟨⟨⟨h1, h2⟩, h3⟩, h4⟩, h5⟩ := h
  refine ⟨h1, h2, h3, fun z hz => ⟨(h5 z hz).1.1, fun e => ?_⟩, h4, fun z hz e => ?_⟩
  · rcases (h5 z hz).1.2 with q | q
    · exact absurd e q
    · exact q
  · rcases (h5 z hz).2 with (q | q) | q
    · exact absurd e q
    · exact .inl q
    · exact .inr q
theorem Want.eq {K : PySem.W.Frag} {P : Addr} {q : Str} (h : Want K P qN) (e : q = qN) : Want K P q := by rw [e]; exact h
structure LamK (K : PySem.W.Frag) (mg : Str → Option Value) (base : Heap) (fd : FuncData) (c P : Addr) : Prop where
  code : fd.code = .ref c
  tb : LamX.TabB base mg c P
  want : Want K P qN
theorem def_okC {P : Program} {w : World} {K : PySem.W.Frag} {mg : Str → Option Value} {base : Heap} {x qual : Str} {st : Stmt} {f : Addr} {fd : FuncData} {N ps : List Str} {k : Nat} {body : EvS} (F : Fun K x qual st f fd) (S : FnScope N ps (defScope st))
    (hb : ∀ (cdv : Value) (hc : fd.code = cdv) (A : Around) (outer : List PySem.Env) (s : Shared) (H : Hp) (E : XK), Room k (A.deeper (envOfC qual (defScope st) s.heap.objs.size f cdv)) → PSsv (cxOf CX0 P w K mg base N qual (defScope st) f cdv A outer s H E).nox (defBody st) body) :
    FnOk P w K mg base CX0 (k + 1) f fd ps (spD K ps.length (run body N.length)) := by
  obtain ⟨oc, od, kV, doc, pm, an, cdv, ct, osl, rfl, lk, hcd⟩ := F.ex
  refine fn_of lk hcd S (fun vs H Q E h => h.1) fun A outer s H vs Q E hr h => ?_
  obtain ⟨hl, Sx, ds, r, rp, hrun, htb, q⟩ := h
  refine ⟨_, (hb cdv rfl A outer s H E hr).nox, ?_⟩
  unfold run at hrun
  obtain ⟨o, e1, hrun⟩ := bind_some hrun
  refine ⟨⟨fun a => H a = none, Sx, fun _ => 0⟩, H, entry N.length ds, [], o, ⟨.refl htb, fun b e => e, List.nodup_nil, (fun _ z => nomatch z), (fun _ z => nomatch z), ?_⟩, e1, ?_⟩
  · unfold entry L2.start
    rw [rp.len]
    exact slots_args (N := ⟨fun a => H a = none, Sx, fun _ => 0⟩) (L := []) (fun _ _ z => nomatch z) rp
  · cases o with
    | nx ρ =>
      cases hrun
      exact fun σ' H' L' sim fr => q .non H' [] sim.same0 (fun _ z => nomatch z) .nil .non
    | rt ρ d l al =>
      cases hrun
      refine fun v σ' H' L' F sim _ rp => q v H' F sim.same0 (fun a z => sim.ln a (List.mem_append_right _ z)) (List.nodup_append.mp sim.nd).2.1 (rp.mono fun a z => ⟨?_, z.2.1⟩)
      cases al with
      | false => exact .inl (z.1.2 rfl)
      | true => exact z.1.1.imp id fun y => ⟨rfl, y⟩
    | bk ρ => cases hrun
    | ct ρ => cases hrun
end Ev
set_option Elab.async false
set_option linter.all false
set_option maxRecDepth 100000
namespace Ev
open PySem PySem.Spec L2
open PyProof.Rows hiding St
end Ev
set_option Elab.async false
set_option linter.all false
set_option maxRecDepth 100000
namespace Ev
open PySem PySem.Spec L2
open PyProof.Rows hiding St
def spLawK (K : PySem.W.Frag) (PL : Addr) : Sp := fun vs H Q _ => ∃ (a : Addr) (ns : List Int), vs = [.ref a] ∧ KSeq K H a (ns.map V.int) ∧ ns.length ≤ 63 ∧ (∀ z ∈ ns, Builtin.Int.intBits z ≤ 1048576) ∧ H PL = some (.tbl #[]) ∧ ∀ H', Q (.bl true) H'
def spLawT (K : PySem.W.Frag) (PL : Addr) : Sp := fun vs H Q _ => ∃ (a : Addr) (ns : List Int), vs = [.ref a] ∧ SqL K H a (ns.map V.int) ∧ ns.length ≤ 63 ∧ (∀ z ∈ ns, Builtin.Int.intBits z ≤ 1048576) ∧ H PL = some (.tbl #[]) ∧ ∀ H', Q (.bl true) H'
section
variable {P : Program} {w : World} {K : PySem.W.Frag} {mg : Str → Option Value} {base : Heap}
theorem hok_frz {H : Hp} {h : Heap} {a : Addr} {xs : List V} (I : HOk P w H h) (e : H a = some (.lst xs)) : ∃ o, HOk P w (upd H a (.frz o (.lst xs))) h := by
  have x := I a _ e
  obtain ⟨z, its, n, r, eo⟩ := x
  refine ⟨{ cls := .type "list", data := .seq its.toArray n }, fun b u hb => ?_⟩
  by_cases hba : b = a
  · subst hba
    rw [upd_same] at hb
    cases hb
    exact ⟨eo, z, its, n, r, eo⟩
  · rw [upd_ne hba] at hb
    refine (I b u hb).stay (fun _ _ _ q => q) (fun d q => ?_) fun d ys q => ?_
    · rw [upd_ne fun y => by rw [y, e] at q; cases q]; exact q
    · rw [upd_ne fun y => by rw [y, e] at q; cases q]; exact q
theorem FnOk.thaw {k : Nat} {f : Addr} {fd : FuncData} {x : Str} {PL : Addr} (F : FnOk P w K mg base CX0 k f fd [x] (spLawK K PL)) : FnOk P w K mg base CX0 k f fd [x] (spLawT K PL) := by
  refine ⟨fun vs H Q E ⟨a, ns, e, _⟩ => by rw [e]; rfl, fun A outer s H args us vs Q E hr e0 hb hv h => ?_⟩
  obtain ⟨a, ns, rfl, hs, hl, hbits, hP, hq⟩ := h
  by_cases hx : ∃ xs, H a = some (.lst xs)
  · obtain ⟨xs, e⟩ := hx
    have hxs : xs = ns.map V.int := by
      rcases hs with (r | ⟨o, r⟩) | ⟨o, its, n, r, c, d, q, sz, vq⟩
      · rw [e] at r; cases r; rfl
      · rw [e] at r; cases r
      · obtain ⟨z, its2, n2, r2, e2⟩ := e0.hok a _ e
        have := e0.mod.kin a o r
        obtain ⟨e3, hn⟩ := e0.bs a o this
        rw [e] at hn; cases hn
    subst hxs
    obtain ⟨o, hok⟩ := hok_frz e0.hok e
    have ne : ∀ b, H b = none → b ≠ a := fun b hb z => by rw [z, e] at hb; cases hb
    have e0' : Env0 P w K mg base A outer s (upd H a (.frz o (.lst (ns.map V.int)))) := ⟨e0.frames, e0.mod, fun b ob hb => ⟨(e0.bs b ob hb).1, by rw [upd_ne (ne b (e0.bs b ob hb).2)]; exact (e0.bs b ob hb).2⟩, e0.bsz, e0.funs, fun b hb => by rw [upd_ne (ne b (e0.frf b hb))]; exact e0.frf b hb, hok, e0.bare⟩
    refine codeAny_mono (F.run A outer s _ args us [.ref a] Q E hr e0' hb hv ⟨a, ns, rfl, .inl ⟨o, upd_same⟩, hl, hbits, by rw [upd_ne fun z => by rw [z, e] at hP; cases hP]; exact hP, hq⟩) fun r s' hr' => ?_
    cases r with
    | error e => exact hr'
    | ok fl =>
      cases fl with
      | ret u =>
        obtain ⟨v, H', os, bare, un, hok', rv, q⟩ := hr'
        have nn : ∀ b, H b = none → (upd H a (.frz o (.lst (ns.map V.int)))) b = none := fun b hb => by rw [upd_ne (ne b hb)]; exact hb
        refine ⟨v, H', os, bare, ⟨fun b ob h1 h2 => un.keep b ob h1 (nn b h2), fun b ob h1 h2 => un.slot b ob h1 (nn b h2), fun b ob h1 h2 => un.free b ob h1 (nn b h2), un.there, fun b ys h1 => un.tups b ys ?_, fun b ob u h1 => un.frzs b ob u ?_, fun b ps h1 => un.tbls b ps ?_⟩, hok', rv, q⟩
        · rw [upd_ne fun z => by rw [z, e] at h1; cases h1]; exact h1
        · rw [upd_ne fun z => by rw [z, e] at h1; cases h1]; exact h1
        · rw [upd_ne fun z => by rw [z, e] at h1; cases h1]; exact h1
      | next => exact hr'
      | brk => exact hr'
      | cont => exact hr'
  · exact F.run A outer s H args us [.ref a] Q E hr e0 hb hv ⟨a, ns, rfl, KSeq.of hs (fun xs e => hx ⟨xs, e⟩), hl, hbits, hP, hq⟩
theorem codeHd_fn {c P1 P2 : Addr} (h1 : PySem.W.codeHdIn K c P1 = true) (h2 : PySem.W.codeHdIn K c P2 = true) : P1 = P2 := by
  unfold PySem.W.codeHdIn at h1 h2
  split at h1
  · rename_i vs _ hk
    rw [hk] at h2
    simp only [Bool.and_eq_true] at h1 h2
    obtain ⟨⟨⟨⟨⟨h1, _⟩, _⟩, _⟩, _⟩, _⟩ := h1
    obtain ⟨⟨⟨⟨⟨h2, _⟩, _⟩, _⟩, _⟩, _⟩ := h2
    split at h1
    · rename_i P' hP
      rw [hP] at h2
      exact (beq_iff_eq.mp h1).symm.trans (beq_iff_eq.mp h2)
    · cases h1
  · cases h1
theorem tbs_law {f cL PL : Addr} {fo : Obj} {fd : FuncData} {H : Hp} (h1 : PySem.W.nsIn K mainGlobals "nearest" = some (some (.ref f))) (h2 : K.lookup f = some fo) (h3 : fo.data = .func fd) (h4 : fd.code = .ref cL) (h5 : PySem.W.codeHdIn K cL PL = true) (hP : H PL = some (.tbl #[])) : TBs K H := fun P q ⟨hq, f', c', fo', fd', g1, g2, g3, g4, g5⟩ => by
  rw [h1] at g1
  cases g1
  rw [h2] at g2
  cases g2
  rw [h3] at g3
  cases g3
  rw [h4] at g4
  cases g4
  rw [codeHd_fn g5 h5]
  exact ⟨hq, LamX.TabS.nil hP⟩
end
end Ev
set_option Elab.async false
set_option linter.all false
set_option maxRecDepth 100000
namespace Ev
open PySem PySem.Spec L2
open PyProof.Rows hiding St
end Ev
set_option Elab.async false
set_option linter.all false
set_option maxRecDepth 100000
namespace Ev
open PySem PySem.Spec L2
open PyProof.Rows hiding St
end Ev
namespace Ev
open PySem PySem.Spec L2
open PyProof.Rows hiding St
end Ev
set_option Elab.async false
set_option linter.all false
set_option maxRecDepth 100000
namespace L2
open PySem PySem.Spec PyProof.Rows PyProof
end L2
namespace Ev
open PySem PySem.Spec L2
open PyProof.Rows hiding St
end Ev
set_option Elab.async false
set_option linter.all false
set_option maxRecDepth 100000
namespace Ev
open PySem PySem.Spec L2
open PyProof.Rows hiding St
end Ev
set_option Elab.async false
set_option linter.all false
set_option maxRecDepth 100000
namespace Ev
open PySem PySem.Spec L2
open PyProof.Rows hiding St
end Ev
set_option Elab.async false
set_option linter.all false
set_option maxRecDepth 100000
namespace Ev
open PySem PySem.Spec L2
open PyProof.Rows hiding St
end Ev
set_option Elab.async false
set_option linter.all false
set_option maxRecDepth 100000
namespace Ev
open PySem PySem.Spec L2
open PyProof.Rows hiding St
abbrev FunI (K : PySem.W.Frag) (x qual : Str) (st : Stmt) (z : Int) (f : Addr) (fd : FuncData) : Prop := FunD K x qual (defArgs st) (defBody st) (defScope st) [V.int z] [] f fd
section
variable {P : Program} {w : World} {K : PySem.W.Frag} {mg : Str → Option Value} {base : Heap} {x qual : Str} {st : Stmt} {z : Int} {f : Addr} {fd : FuncData} {ps : List Str}
theorem FunI.full (F : FunI K x qual st z f fd)
    (h : ∀ (T : Addr) (kV doc pm : Value) (an : Option Addr) (cdv ct : Value) (us its : List Value), us.length = ps.length → its.length = 1 → ∃ k, bindArgs (PySem.W.fnOf x qual (defArgs st) (defBody st) (defScope st) (.ref T) kV doc pm an cdv ct) ⟨us, []⟩ = seqItems? (.ref T) >>= k ∧ k (some its.toArray) = pure (ps.zip (us ++ its.drop 1))) : Binds K fd ps [] := by
  obtain ⟨ds, h1, h2⟩ := FunD.binds1 F ps.length 1 (by simp) (by simp) h
  cases h1
  exact h2
end
end Ev
set_option Elab.async false
set_option linter.all false
set_option maxRecDepth 100000
namespace Ev
open PySem PySem.Spec L2
open PyProof.Rows hiding St
end Ev
set_option Elab.async false
set_option linter.all false
set_option maxRecDepth 100000
namespace Ev
open PySem PySem.Spec L2
open PyProof.Rows hiding St
end Ev
set_option Elab.async false
set_option linter.all false
set_option maxRecDepth 100000
namespace Ev
open PySem PySem.Spec L2
open PyProof.Rows hiding St
end Ev
set_option Elab.async false
set_option linter.all false
set_option maxRecDepth 100000
namespace Ev
open PySem PySem.Spec L2
open PyProof.Rows hiding St
end Ev
set_option Elab.async false
set_option linter.all false
set_option maxRecDepth 100000
namespace Ev
open PySem PySem.Spec L2
open PyProof.Rows hiding St
end Ev
set_option Elab.async false
set_option linter.all false
set_option maxRecDepth 100000
namespace Ev
open PySem PySem.Spec L2
open PyProof.Rows hiding St
open Classical in
noncomputable def allA (f : Addr → Option Out) : Option Out := if h : ∃ o, ∀ a, f a = some o then some h.choose else none
theorem allA_of {f : Addr → Option Out} {o : Out} (h : ∀ a, f a = some o) : allA f = some o := by
  have w : ∃ o, ∀ a, f a = some o := ⟨o, h⟩
  unfold allA
  rw [dif_pos w]
  have := w.choose_spec (0 : Addr)
  rw [h] at this
  exact this.symm
theorem allA_at {f : Addr → Option Out} {o : Out} (h : allA f = some o) (a : Addr) : f a = some o := by
  unfold allA at h
  split at h
  · rename_i w
    cases h
    exact w.choose_spec a
  · cases h
def isHo (a : Addr) : Option D → Bool
  | some (.exc b) => decide (b = a)
  | _ => false
theorem isHo_eq {a : Addr} {o : Option D} (h : isHo a o = true) : o = some (.exc a) := by
  unfold isHo at h
  split at h
  · rw [of_decide_eq_true h]
  · cases h
def backT (j i k : Nat) (p : List Nat) (a : Addr) : Out → Option Out
  | .nx ρ => match ρ[j]?, ρ[i]? with
    | some (some s2), some (some s3) => if s2.l = .full ∧ s3.pn = some k ∧ s3.l = .full ∧ j ≠ i ∧ isHo a (dAt s2.d p) = true then some (.nx ((clr k (ρ.set i none)).set j (some ⟨dSet s2.d p s3.d, .full, s2.al || s3.al, none⟩))) else none
    | _, _ => none
  | _ => none
def nrm1 : Option (Lv × Bool) → Option Sv → Option Sv
  | some (l, al), some s => if s.l = l ∧ (s.al = true → al = true) then some ⟨s.d, l, al, none⟩ else none
  | _, _ => none
def normE : List (Option (Lv × Bool)) → Env → Env
  | _, [] => []
  | ks, o :: ρ => nrm1 ks.head?.join o :: normE ks.tail ρ
def normO (ks : List (Option (Lv × Bool))) : Out → Option Out
  | .nx ρ => some (.nx (normE ks ρ))
  | _ => none
theorem Slots.norm {K : PySem.W.Frag} {N : Nw} {L : List Addr} {H : Hp} : ∀ {σ : St} {ρ : Env} {F : List Addr} (ks : List (Option (Lv × Bool))), Slots K N L H σ ρ F → ∃ F', Slots K N L H σ (normE ks ρ) F' ∧ F'.Sublist F
  | _, _, _, _, .nil => ⟨[], .nil, .slnil⟩
  | _, _, _, ks, .no h => by
    obtain ⟨F', h', sb⟩ := Slots.norm ks.tail h
    refine ⟨F', ?_, sb⟩
    unfold normE
    have : nrm1 ks.head?.join none = none := by unfold nrm1; split <;> first | rfl | (rename_i e; cases e)
    rw [this]
    exact .no h'
  | _, _, _, ks, .so (F := F0) (G := G0) h0 h1 h => by
    obtain ⟨F', h', sb⟩ := Slots.norm ks.tail h
    unfold normE nrm1
    split
    · rename_i l al s he hs
      cases hs
      split
      · rename_i hc
        obtain ⟨hl, ha⟩ := hc
        subst hl
        exact ⟨F0 ++ F', .so (fun _ z => nomatch z) (h1.mono fun b w => ⟨AlN.up w.1 ha, w.2⟩) h', (List.Sublist.refl _).append sb⟩
      · exact ⟨F', .no h', sb.trans (List.sublist_append_right _ _)⟩
    · exact ⟨F', .no h', sb.trans (List.sublist_append_right _ _)⟩
def ksW : List (Option (Lv × Bool)) := [some (.shr, true), none, none, some (.full, false), some (.full, false), none, none, none, none, none, none]
noncomputable def sBorT (ks : List (Option (Lv × Bool))) (fp : EvP) (ic iw : Nat) (b : EvS) : EvS := fun ρ => (fp ρ).bind fun z => match z.2.2, ρ[z.1]? with
  | .tup [.int c, dw], some (some s) => if z.1 ≠ ic ∧ z.1 ≠ iw ∧ ic ≠ iw ∧ ic < ρ.length ∧ iw < ρ.length ∧ isNd dw = true then
      allA fun a => (b ((((ρ.set iw none).set ic (some ⟨.int c, .full, false, none⟩)).set z.1 (some ⟨dSet s.d (z.2.1 ++ [1]) (.exc a), .full, s.al, s.pn⟩)).set iw (some ⟨dw, .full, s.al, some (topP ρ)⟩))).bind fun o => (backT z.1 iw (topP ρ) (z.2.1 ++ [1]) a o).bind (normO ks)
    else none
  | _, _ => none
theorem clr_at (k : Nat) (ρ : Env) (i : Nat) : (clr k ρ)[i]? = (ρ[i]?).map fun o => o.map fun s => if s.pn = some k then ⟨s.d, s.l, s.al, none⟩ else s := by
  unfold clr
  rw [List.getElem?_map]
theorem backT_nx {j i k : Nat} {p : List Nat} {a : Addr} {o o1 : Out} (h : backT j i k p a o = some o1) : ∃ ρ s2 s3, o = .nx ρ ∧ ρ[j]? = some (some s2) ∧ ρ[i]? = some (some s3) ∧ (s2.l = .full ∧ s3.pn = some k ∧ s3.l = .full ∧ j ≠ i ∧ dAt s2.d p = some (.exc a)) ∧ o1 = .nx ((clr k (ρ.set i none)).set j (some ⟨dSet s2.d p s3.d, .full, s2.al || s3.al, none⟩)) := by
  unfold backT at h
  split at h
  · rename_i ρ
    split at h
    · rename_i s2 s3 h2 h3
      split at h
      · rename_i hc
        cases h
        exact ⟨ρ, s2, s3, rfl, h2, h3, ⟨hc.1, hc.2.1, hc.2.2.1, hc.2.2.2.1, isHo_eq hc.2.2.2.2⟩, rfl⟩
      · cases h
    · cases h
  · cases h
section
variable {X : Cx} {e tg : Expr} {fp : EvP} {st : Stmt} {b br : EvS} {rest : List Stmt} {pos : Pos}
theorem s_borT (ks : List (Option (Lv × Bool))) (ic iw : Nat) (h : PPv X e fp) (hb : PSv X st b) (hr : PSsv X rest br) (hg : PG X tg (tG2 ic iw X.K)) (hs : swapsWithSole [tg] e pos.line X.env = pure false := by rfl) (hw : swappedStores [tg] e X.env = pure none := by rfl) (h1 : (assignEach [tg] X.env).map (·.2) = [assign tg X.env] := by rfl) :
    PSsv X (.Assign [tg] e pos :: st :: rest) (sSeq (sBorT ks fp ic iw b) br) := by
  refine imp_ss (pss_cons (ps_asg h.run hg hs hw h1) (pss_cons hb hr)) fun De σ H ⟨N, H0, ρ, L0, o, sim0, z, q⟩ => ?_
  unfold sSeq sBorT at z
  obtain ⟨o1, z, zr⟩ := bind_some z
  obtain ⟨⟨j, p, d⟩, e1, z⟩ := bind_some z
  dsimp only at z
  split at z
  · rename_i c dw s es
    split at z
    · rename_i hcd
      obtain ⟨hjc, hjw, hcw, hcl, hwl, hnd⟩ := hcd
      generalize hk0 : topP ρ = k0 at z
      have hnp0 : noPin k0 ρ = true := topP_no ρ k0 (by omega)
      obtain ⟨s', es', hl, hdp⟩ := h.ok ρ j p _ e1
      rw [es] at es'
      cases es'
      refine ⟨N, H0, ρ, L0, L0, j, p, _, sim0.h, e1, fun u' H1 s1 at1 => ?_⟩
      obtain ⟨L, simw, subL⟩ := sim0.wipe iw
      have sim1 := simw.same s1
      have es1 : (ρ.set iw none)[j]? = some (some s) := by rw [List.getElem?_set_ne (fun q => hjw q.symm)]; exact es
      -- the pair
      obtain ⟨F1, G, F2, v0, eL, ev, rp, sl⟩ := sim1.sl.hide es1
      have nd := sim1.nd
      rw [eL, List.nodup_append, List.nodup_append] at nd
      obtain ⟨a1, ⟨a2, a3, a4⟩, a5⟩ := nd
      rw [hl] at rp
      obtain ⟨ut, At, Gt, Bt, eGt, rt, wt, _⟩ := rp.trk.way hdp a2
      have := wt.fn (at1 _ ev)
      subst this
      obtain ⟨ta, vs, rfl, hta, rts⟩ := rt.tup_inv
      obtain ⟨v1, v2, rfl, rfl⟩ : ∃ v1 v2, vs = [v1, v2] ∧ v1 = V.int c := by
        cases rts with
        | cons r1 rts =>
          cases rts with
          | cons r2 rts =>
            cases rts
            exact ⟨_, _, rfl, r1.int_inv.1⟩
      have hdp2 : dAt s.d (p ++ [1]) = some dw := by rw [dAt_cat hdp]; rfl
      obtain ⟨u, A, G2, B, eG, ru, w2, q2⟩ := rp.trk.way hdp2 a2
      have w2' : AtV H1 v0 (p ++ [1]) v2 := AtV.snoc hta (show (kidsO (.tup [V.int c, v2]))[1]? = some v2 from rfl) wt
      have := w2.fn w2'
      subst this
      obtain ⟨au, ou, vsu, dsu, Fu, hu, _⟩ := ru.node hnd
      refine ⟨ta, V.int c, u, rfl, SqT.of hta, ?_⟩
      -- the number is stored
      obtain ⟨L2, sim2, sub2⟩ := sim1.set (i := ic) (v := V.int c) (r := ⟨.int c, .full, false, none⟩) (G := []) (fun _ z => nomatch z) (Same.refl H1) (fun _ z => nomatch z) .nil .int (by rw [List.length_set]; exact hcl)
      have es2 : ((ρ.set iw none).set ic (some ⟨.int c, .full, false, none⟩))[j]? = some (some s) := by rw [List.getElem?_set_ne (fun q => hjc q.symm)]; exact es1
      clear rp sl eG q2 ru w2 eGt rt wt rts F1 F2 a1 a2 a3 a4 a5 eL
      obtain ⟨F1, G, F2, v0', eL, ev', rp, sl⟩ := sim2.sl.hide es2
      have evc : (σ.set ic (some (V.int c)))[j]? = some (some v0) := by rw [List.getElem?_set_ne (fun q => hjc q.symm)]; exact ev
      rw [evc] at ev'
      cases ev'
      have nd := sim2.nd
      rw [eL, List.nodup_append, List.nodup_append] at nd
      obtain ⟨a1, ⟨a2, a3, a4⟩, a5⟩ := nd
      rw [hl] at rp
      obtain ⟨u2, A, G2, B, eG, ru, w2, q2⟩ := rp.trk.way hdp2 a2
      have := w2.fn w2'
      subst this
      subst hu
      have a2' := a2
      rw [eG, List.nodup_append, List.nodup_append] at a2'
      obtain ⟨nA, ⟨nG2, nB, dGB⟩, dA⟩ := a2'
      have abG : ∀ b ∈ A ++ B, b ∈ G := fun b m => by rw [eG]; rcases List.mem_append.mp m with m | m <;> simp [m]
      have g2G : ∀ b ∈ G2, b ∈ G := fun b m => by rw [eG]; simp [m]
      have gL : ∀ b ∈ G, b ∈ L2 := fun b m => by rw [eL]; simp [m]
      have nAB : (A ++ ([] ++ B)).Nodup := by
        rw [List.nil_append, List.nodup_append]
        exact ⟨nA, nB, fun a m b m2 => dA a m b (by simp [m2])⟩
      have n12 : (F1 ++ F2).Nodup := by
        rw [List.nodup_append]
        exact ⟨a1, a3, fun a m b m2 => a5 a m b (by simp [m2])⟩
      have g12 : ∀ b ∈ F1 ++ F2, b ∉ G := fun b m m2 => (List.mem_append.mp m).elim (fun y => a5 b y b (by simp [m2]) rfl) fun y => a4 b m2 b y rfl
      have sub12 : ∀ b ∈ F1 ++ F2, b ∈ L2 := fun b m => by
        rw [eL]
        rcases List.mem_append.mp m with m | m <;> simp [m]
      let N' : Nw := ⟨N.n, N.s, fun k => if k = k0 then au else N.p k⟩
      have hp1 : ∀ k, k ≠ k0 → N'.p k = N.p k := fun k hk => if_neg hk
      have pk0 : N'.p k0 = au := if_pos rfl
      have np0 : noPin k0 (((ρ.set iw none).set ic (some ⟨.int c, .full, false, none⟩)).set j none) = true := by
        refine noPin_set ?_
        have hq : noPin k0 (ρ.set iw none) = true := noPin_set hnp0
        unfold noPin at hq ⊢
        rw [List.all_eq_true] at hq ⊢
        intro x hx
        rcases List.mem_or_eq_of_mem_set hx with hx | hx
        · exact hq x hx
        · rw [hx]; rfl
      have sl0 : Slots X.K N' L2 H1 (σ.set ic (some (V.int c))) (((ρ.set iw none).set ic (some ⟨.int c, .full, false, none⟩)).set j none) (F1 ++ F2) := sl.into hp1 (fun _ _ w => w) np0
      have pnj : ∀ k, s.pn = some k → v0 = .ref (N'.p k) := fun k ek => by
        obtain ⟨v9, _, ev9, _, _, pin9⟩ := sim0.sl.get es
        rw [ev] at ev9
        cases ev9
        have hne : k ≠ k0 := fun z => by
          subst z
          unfold noPin at hnp0
          rw [List.all_eq_true] at hnp0
          have := hnp0 (some s) (List.mem_of_getElem? es)
          dsimp only at this
          rw [ek] at this
          simp at this
        rw [hp1 k hne]
        exact pin9 k ek
      have rpj : Rp X.K (SR N' L2 s.al false) H1 .full v0 (dSet s.d (p ++ [1]) (.exc au)) (A ++ ([] ++ B)) :=
        (q2 (S' := fun b => SR N L2 s.al false b ∧ H1 b ≠ none) (fun _ w => w) (.same (Same.refl H1)) (.exc (a := au))).mono fun b w => w.1
      obtain ⟨F4, sl2, f1, f2⟩ := sl0.put (s := ⟨dSet s.d (p ++ [1]) (.exc au), .full, s.al, s.pn⟩) (G := A ++ ([] ++ B)) evc pnj rpj
      rw [List.set_set] at sl2
      have abG' : ∀ b ∈ A ++ ([] ++ B), b ∈ G := fun b m => abG b (by simpa using m)
      have nF4 := f2 n12 nAB fun b m m2 => g12 b m2 (abG' b m)
      have F4s : ∀ b ∈ F4, b ∈ F1 ++ F2 ∨ b ∈ A ++ B := fun b m => (f1 b m).imp id fun m => by simpa using m
      obtain ⟨E1, E0, E2, eF4, _, put⟩ := sl2.at_ (i := iw) (by rw [List.length_set, List.length_set, List.length_set]; exact hwl)
      have slI := put (L1 := L2) (H1 := H1) (v := .ref au) (s := ⟨dw, .full, s.al, some k0⟩) (G' := G2) (fun _ => .same (Same.refl H1)) (fun _ z _ => z) (fun k ek => by cases ek; rw [pk0]) (ru.mono fun a w => w.1)
      have eE : ∀ b ∈ E1 ++ (G2 ++ E2), b ∈ F4 ∨ b ∈ G2 := fun b m => by
        rcases List.mem_append.mp m with m | m
        · exact .inl (by rw [eF4]; simp [m])
        · rcases List.mem_append.mp m with m | m
          · exact .inr m
          · exact .inl (by rw [eF4]; simp [m])
      have f4g : ∀ b ∈ F4, b ∉ G2 := fun b m m2 => (F4s b m).elim (fun m => g12 b m (g2G b m2)) fun m => (List.mem_append.mp m).elim (fun m => dA b m b (by simp [m2]) rfl) fun m => dGB b m2 b m rfl
      have nF5 : (E1 ++ (G2 ++ E2)).Nodup := by
        rw [eF4, List.nodup_append, List.nodup_append] at nF4
        obtain ⟨b1, ⟨_, b3, _⟩, b5⟩ := nF4
        rw [List.nodup_append, List.nodup_append]
        refine ⟨b1, ⟨nG2, b3, fun a m b m2 e => ?_⟩, fun a m b m2 e => ?_⟩
        · subst e
          exact f4g a (by rw [eF4]; simp [m2]) m
        · subst e
          rcases List.mem_append.mp m2 with m2 | m2
          · exact f4g a (by rw [eF4]; simp [m]) m2
          · exact b5 a m a (by simp [m2]) rfl
      generalize hF5 : E1 ++ (G2 ++ E2) = F5 at slI eE nF5
      have F5L : ∀ b ∈ F5, b ∈ L2 := fun b m => (eE b m).elim (fun m => (F4s b m).elim (sub12 b) fun m => gL b (abG b m)) fun m => gL b (g2G b m)
      have simI : Sim X.K N' H0 (((((ρ.set iw none).set ic (some ⟨.int c, .full, false, none⟩)).set j (some ⟨dSet s.d (p ++ [1]) (.exc au), .full, s.al, s.pn⟩)).set iw (some ⟨dw, .full, s.al, some k0⟩))) ((σ.set ic (some (V.int c))).set iw (some (.ref au))) H1 F5 :=
        ⟨⟨sim2.kp.k, sim2.kp.t, sim2.kp.b⟩, sim2.nw, nF5, fun b m => sim2.ln b (F5L b m), fun b m => sim2.mu b (F5L b m), slI.mono fun b y m => y (F5L b m)⟩
      have z9 := allA_at z au
      clear z
      obtain ⟨o2, zb, zk⟩ := bind_some z9
      obtain ⟨o3, zk, zn⟩ := bind_some zk
      obtain ⟨ρ2, t2, t3, rfl, et2, et3, ⟨hl2, hpk, hl3, hji, hda⟩, rfl⟩ := backT_nx zk
      cases zn
      have frI : ∀ b ∈ F5, b ∈ L0 ∨ H b = none := fun b m => by
        rcases sub2 b (F5L b m) with m | m
        · exact .inl (subL b m)
        · cases m
      refine ⟨N', H0, _, F5, _, simI, zb, fun σ2 H2 L3 sim3 fr3 => ?_⟩
      -- and back
      obtain ⟨D1, G3, D2, v3, eL3, ev3, rp3, sl3⟩ := sim3.sl.hide et3
      obtain ⟨v3', _, ev3', _, _, hpv3⟩ := sim3.sl.get et3
      rw [ev3] at ev3'
      cases ev3'
      have hv3 := hpv3 k0 hpk
      rw [pk0] at hv3
      subst hv3
      rw [hl3] at rp3
      have n3 := sim3.nd
      rw [eL3, List.nodup_append, List.nodup_append] at n3
      obtain ⟨c1, ⟨c2, c3, c4⟩, c5⟩ := n3
      have nD : (D1 ++ D2).Nodup := by
        rw [List.nodup_append]
        exact ⟨c1, c3, fun a m b m2 => c5 a m b (by simp [m2])⟩
      have d3 : ∀ b ∈ D1 ++ D2, b ∉ G3 := fun b m m2 => (List.mem_append.mp m).elim (fun y => c5 b y b (by simp [m2]) rfl) fun y => c4 b m2 b y rfl
      have dL3 : ∀ b ∈ D1 ++ D2, b ∈ L3 := fun b m => by
        rw [eL3]
        rcases List.mem_append.mp m with m | m <;> simp [m]
      have g3L3 : ∀ b ∈ G3, b ∈ L3 := fun b m => by rw [eL3]; simp [m]
      have slO : Slots X.K N L3 H2 σ2 (clr k0 (ρ2.set iw none)) (D1 ++ D2) := sl3.outof hp1 (fun _ _ w => w)
      obtain ⟨t4, ejO, hd4, hl4, ha4⟩ : ∃ t4 : Sv, (clr k0 (ρ2.set iw none))[j]? = some (some t4) ∧ t4.d = t2.d ∧ t4.l = t2.l ∧ t4.al = t2.al := by
        rw [clr_at, List.getElem?_set_ne (fun q => hji q.symm), et2]
        simp only [Option.map_some]
        refine ⟨_, rfl, ?_, ?_, ?_⟩
        all_goals (split <;> rfl)
      obtain ⟨J1, GJ, J2, vj, eJ, evj, rpJ, slJ⟩ := slO.hide ejO
      rw [hl4, hl2, hd4, ha4] at rpJ
      rw [eJ, List.nodup_append, List.nodup_append] at nD
      obtain ⟨j1, ⟨j2, j3, j4⟩, j5⟩ := nD
      obtain ⟨uh, AJ, Gh, BJ, eGJ, rh, _, qJ⟩ := rpJ.trk.way hda j2
      have := rh.exc_inv
      subst this
      have nAJ := j2
      rw [eGJ, List.nodup_append, List.nodup_append] at nAJ
      have gj : ∀ b ∈ AJ ++ BJ, b ∈ GJ := fun b m => by rw [eGJ]; rcases List.mem_append.mp m with m | m <;> simp [m]
      have gjD : ∀ b ∈ GJ, b ∈ D1 ++ D2 := fun b m => by rw [eJ]; simp [m]
      have rpO : Rp X.K (SR N L3 (t2.al || t3.al) false) H2 .full vj (dSet t2.d (p ++ [1]) t3.d) (AJ ++ (G3 ++ BJ)) := by
        refine qJ (S' := SR N L3 (t2.al || t3.al) false) (fun b w => ⟨w.1.1.up fun e => by rw [e]; rfl, w.1.2⟩) (.same (Same.refl H2)) (rp3.mono fun b w => ⟨?_, w.2⟩)
        exact AlN.up (N := N) (al := t3.al) w.1 fun e => by rw [e, Bool.or_true]
      obtain ⟨F6, sl6, g1, g2⟩ := slJ.put (s := ⟨dSet t2.d (p ++ [1]) t3.d, .full, t2.al || t3.al, none⟩) evj (fun _ z => nomatch z) rpO
      rw [List.set_set] at sl6
      have nO : (AJ ++ (G3 ++ BJ)).Nodup := by
        rw [List.nodup_append, List.nodup_append]
        refine ⟨nAJ.1, ⟨c2, nAJ.2.1.2.1, fun a m b m2 e => ?_⟩, fun a m b m2 e => ?_⟩
        · subst e
          exact d3 a (gjD a (gj a (by simp [m2]))) m
        · subst e
          rcases List.mem_append.mp m2 with m2 | m2
          · exact d3 a (gjD a (gj a (by simp [m]))) m2
          · exact nAJ.2.2 a m a (by simp [m2]) rfl
      have nJ : (J1 ++ J2).Nodup := by
        rw [List.nodup_append]
        exact ⟨j1, j3, fun a m b m2 => j5 a m b (by simp [m2])⟩
      have jD : ∀ b ∈ J1 ++ J2, b ∈ D1 ++ D2 := fun b m => by
        rw [eJ]
        rcases List.mem_append.mp m with m | m <;> simp [m]
      have jG : ∀ b ∈ J1 ++ J2, b ∉ GJ := fun b m m2 => (List.mem_append.mp m).elim (fun y => j5 b y b (by simp [m2]) rfl) fun y => j4 b m2 b y rfl
      have oo : ∀ b ∈ AJ ++ (G3 ++ BJ), b ∈ GJ ∨ b ∈ G3 := fun b m => by
        rcases List.mem_append.mp m with m | m
        · exact .inl (gj b (by simp [m]))
        · rcases List.mem_append.mp m with m | m
          · exact .inr m
          · exact .inl (gj b (by simp [m]))
      have n6 := g2 nJ nO fun b m m2 => (oo b m).elim (jG b m2) (d3 b (jD b m2))
      have g1' : ∀ b ∈ F6, b ∈ L3 := fun b m => (g1 b m).elim (fun m => dL3 b (jD b m)) fun m => (oo b m).elim (fun m => dL3 b (gjD b m)) (g3L3 b)
      obtain ⟨F7, sl7, sb7⟩ := sl6.norm ks
      have g7 : ∀ b ∈ F7, b ∈ L3 := fun b m => g1' b (sb7.subset m)
      have fr1 : Frm H L0 H1 F5 := Frm.same s1 frI
      have fr7 : Frm H L0 H2 F7 := by
        have := fr1.trans fr3
        exact ⟨this.1, this.2.1, fun b m => this.2.2 b (g7 b m)⟩
      exact ⟨N, H0, _, F7, o, ⟨⟨sim3.kp.k, sim3.kp.t, sim3.kp.b⟩, sim3.nw, n6.sublist sb7, fun b m => sim3.ln b (g7 b m), fun b m => sim3.mu b (g7 b m), sl7.mono fun b y m => y (g7 b m)⟩, zr, q.at_ fr7⟩
    · cases z
  · cases z
end
end Ev
set_option Elab.async false
set_option linter.all false
set_option maxRecDepth 100000
namespace Ev
open PySem PySem.Spec L2
open PyProof.Rows hiding St
def isON : D → Bool
  | .non => true
  | .tup [_, .lst us] => decide (us.length ≤ 1000000)
  | _ => false
def appON : D → D
  | .tup [a, .lst us] => .tup [a, .lst (us ++ [.non])]
  | d => d
def sForON (j i : Nat) : EvS := fun ρ => match ρ[j]? with
  | some (some s) => match s.d with
    | .lst ds => if s.l = .full ∧ j ≠ i ∧ i < ρ.length ∧ ds.all isON = true then some (.nx ((ρ.set i none).set j (some ⟨.lst (ds.map appON), .full, s.al, s.pn⟩))) else none
    | _ => none
  | _ => none
section
variable {X : Cx} {e : Expr} {fp : EvP} {pos p1 p2 p4 p5 p6 p7 p8 p9 apos cpos npos ypos p3 : Pos} {x y : Str} {j1 : Int} {kk kk2 : Nat}
theorem s_forON (j i : Nat) (hu : X.A.units + 65 < cLine) (hc : X.calm = true) (nd : X.N.Nodup) {jj : Nat}
    (hNj : X.N[j]? = some y := by rfl) (hvj : Vis X.env.scope y := by first | exact Or.inl rfl | exact Or.inr (Or.inl rfl) | exact Or.inr (Or.inr rfl)) (hdj : (y == ("__debug__" : Str)) = false := by decide) (hcj : (y == ("__classdict__" : Str)) = false := by decide)
    (hNi : X.N[i]? = some x := by rfl) (hvi : Vis X.env.scope x := by first | exact Or.inl rfl | exact Or.inr (Or.inl rfl) | exact Or.inr (Or.inr rfl)) (hdi : (x == ("__debug__" : Str)) = false := by decide) (hci : (x == ("__classdict__" : Str)) = false := by decide)
    (hx : Loc X.env.scope x := by first | exact Or.inl rfl | exact Or.inr rfl) (hf : X.fn x = true ∨ X.env.scope.names.lookup x = some .local := by first | exact .inl rfl | exact .inr rfl | assumption)
    (hsw : swapsWith (.Call (.Attribute (.Subscript (.Name x npos) (.Constant (.int 1) jj p4) p5) "append" apos) [.Constant .none kk ypos] [] cpos) none p3.line X.env = pure false := by rfl)
    (hbase : attributeBase (.Subscript (.Name x npos) (.Constant (.int 1) jj p4) p5) "append" X.env (eval (.Subscript (.Name x npos) (.Constant (.int 1) jj p4) p5) X.env) = eval (.Subscript (.Name x npos) (.Constant (.int 1) jj p4) p5) X.env := by rfl)
    (hfew : ((backTo cpos (starEach [.Constant .none kk ypos] X.env)).all (fun x => !x.1) && (backToKw cpos (keywordEach [] X.env)).all (fun x => x.1.isSome)
      && decide ([Expr.Constant .none kk ypos].length + ([] : List Keyword).length + (if ([] : List Keyword).isEmpty then 0 else 1) < 30)) = true := by rfl)
    (hline : (apos.endLine == cpos.line) = true := by rfl) (hs : starEach [.Constant .none kk ypos] X.env = (false, eval (.Constant .none kk ypos) X.env) :: starEach [] X.env := by rfl) (hplain : (backTo cpos (starEach [] X.env)).any (·.1) = false := by rfl)
    (hp : PassesOwn (model X.prog X.w) X.A X.env X.xe := by exact PassesOwn.never) (hfs : ∀ x, foldedSetIterable (.Name y p2) X.env x = pure x := by intro _; rfl) :
    PSv X (.For (.Name x p1) (.Name y p2) [.If (.Compare (.Name x p6) [.IsNot] [.Constant .none kk2 p7] p8) [.Expr (.Call (.Attribute (.Subscript (.Name x npos) (.Constant (.int 1) jj p4) p5) "append" apos) [.Constant .none kk ypos] [] cpos) p3] [] p9] [] pos) (sForON j i) := by
  obtain ⟨r0, hm, hr⟩ := (l_app (X := X)).ok
  refine imp_s (ps_for hp hc (pi_list (pe_var hNj hvj hdj hcj)) (pg_name nd hNi hx hf) (pss_one (ps_if (pt_cmpR op_notN (pe_var hNi hvi hdi hci) pe_non (nomark _)) (pss_one (ps_expr (pe_bm PySem.F.plainAttrs_list PySem.F.slot_list_append PySem.F.type_list_append hm (pe_ix (ix_any (by omega)) (pe_var hNi hvi hdi hci) pe_int (fun _ _ => rfl)) (pa_cons pe_non pa_nil hs) hbase hfew hline hs hplain) hsw)) pss_nil)) hfs) fun De σ H ⟨N, H0, ρ, L0, o, sim0, z, q0⟩ => ?_
  unfold sForON at z
  split at z
  · rename_i s es0
    split at z
    · rename_i ds hd
      split at z
      · rename_i hcd
        obtain ⟨hl, hji, hi, hall⟩ := hcd
        cases z
        obtain ⟨sd, sl, sa, sp⟩ := s
        dsimp only at hd hl
        subst hd hl
        obtain ⟨v0, G0, ev0, rp0, _⟩ := sim0.sl.get es0
        obtain ⟨a, vs, _, rfl, ha, hr0, _⟩ := rp0.lst_inv
        obtain ⟨L, sim, subL⟩ := sim0.wipe i
        have es : (ρ.set i none)[j]? = some (some ⟨.lst ds, .full, sa, sp⟩) := by rw [List.getElem?_set_ne (fun q => hji q.symm)]; exact es0
        have hj : j < ρ.length := (List.getElem?_eq_some_iff.mp es0).1
        have hlen : vs.length = ds.length := hr0.len
        let dk : Nat → List D := fun k => (ds.take k).map appON ++ ds.drop k
        let ρk : Nat → Env := fun k => (ρ.set i none).set j (some ⟨.lst (dk k), .full, sa, sp⟩)
        have ρ0 : ρk 0 = ρ.set i none := by
          show (ρ.set i none).set j (some ⟨.lst ((ds.take 0).map appON ++ ds.drop 0), .full, sa, sp⟩) = _
          rw [List.take_zero, List.map_nil, List.nil_append, List.drop_zero]
          obtain ⟨h1, h2⟩ := List.getElem?_eq_some_iff.mp es
          rw [← h2, List.set_getElem_self]
        have ρlast : ρk ds.length = (ρ.set i none).set j (some ⟨.lst (ds.map appON), .full, sa, sp⟩) := by
          show (ρ.set i none).set j (some ⟨.lst ((ds.take ds.length).map appON ++ ds.drop ds.length), .full, sa, sp⟩) = _
          rw [List.take_length, List.drop_length, List.append_nil]
        have at_j : ∀ k, (ρk k)[j]? = some (some ⟨.lst (dk k), .full, sa, sp⟩) := fun k => List.getElem?_set_self (by rw [List.length_set]; exact hj)
        have at_i : ∀ k, (ρk k)[i]? = some none := fun k => by
          show ((ρ.set i none).set j _)[i]? = _
          rw [List.getElem?_set_ne hji, List.getElem?_set_self hi]
        have dk_len : ∀ k, (dk k).length = ds.length := fun k => by
          show ((ds.take k).map appON ++ ds.drop k).length = _
          simp
          omega
        have dk_at : ∀ k (hk : k < ds.length), (dk k)[k]? = some ds[k] := fun k hk => by
          show ((ds.take k).map appON ++ ds.drop k)[k]? = _
          rw [List.getElem?_append_right (by simp; omega)]
          simp [Nat.min_eq_left (Nat.le_of_lt hk), List.getElem?_eq_getElem hk]
        have dk_next : ∀ k (hk : k < ds.length), (dk k).set k (appON ds[k]) = dk (k + 1) := fun k hk => by
          exact set_mid appON ds k hk
        refine ⟨.ref a, ev0, a, rfl, ⟨vs, SqL.of ha⟩, ?_⟩
        refine ⟨fun k m σ' H' => m = ds.length - k ∧ k ≤ ds.length ∧ ∃ L', Sim X.K N H0 (ρk k) σ' H' L' ∧ Frm H L0 H' L' ∧ σ'[j]? = some (some (.ref a)), ⟨ds.length, by simp, Nat.zero_le _, L, by rw [ρ0]; exact sim, ⟨fun _ _ e _ _ => e, fun _ e => .inl e, fun b z => .inl (subL b z)⟩, ev0⟩, ?_⟩
        rintro k m σ' H' ⟨rfl, hk, L', sim', fr, evj⟩
        obtain ⟨v1, G1, ev1, rp1, _⟩ := sim'.sl.get (at_j k)
        rw [evj] at ev1
        cases ev1
        obtain ⟨a1, vs1, G2, e9, ha1, hr1, _⟩ := rp1.lst_inv
        cases e9
        have hl1 : vs1.length = ds.length := by rw [hr1.len, dk_len]
        by_cases hlt : k < ds.length
        · right
          refine ⟨⟨vs1, vs1[k]'(by omega), SqL.of ha1, List.getElem?_eq_getElem (by omega)⟩, fun σ'' H'' => ∃ m', m' < ds.length - k ∧ (m' = ds.length - (k + 1) ∧ k + 1 ≤ ds.length ∧ ∃ L', Sim X.K N H0 (ρk (k + 1)) σ'' H'' L' ∧ Frm H L0 H'' L' ∧ σ''[j]? = some (some (.ref a))), fun _ _ h => h, fun w H3 yy => ?_⟩
          obtain ⟨e8, hw⟩ := yy
          subst e8
          have hw := hw vs1 (SqL.of ha1)
          have simA := sim'.any (some w) (at_i k)
          have evj2 : (σ'.set i (some w))[j]? = some (some (.ref a)) := by rw [List.getElem?_set_ne (fun q => hji q.symm)]; exact evj
          have hvi2 : (σ'.set i (some w))[i]? = some (some w) := List.getElem?_set_self (by rw [sim'.sl.len]; show i < ((ρ.set i none).set j _).length; rw [List.length_set, List.length_set]; exact hi)
          have hone := List.all_eq_true.mp hall ds[k] (List.getElem_mem hlt)
          by_cases hnone : ds[k] = .non
          · obtain ⟨u3, G3, eu3, rp3, _⟩ := hr1.get (dk_at k hlt)
            rw [hw] at eu3
            cases eu3
            rw [hnone] at rp3
            obtain ⟨rfl, _⟩ := rp3.non_inv
            refine ⟨.non, hvi2, rfl, false, by rfl, ?_⟩
            refine iteF ⟨ds.length - (k + 1), by omega, rfl, hlt, L', ?_, fr, evj2⟩
            have e9 : dk k = dk (k + 1) := by
              rw [← dk_next k hlt, hnone]
              show dk k = (dk k).set k .non
              have := dk_at k hlt
              rw [hnone] at this
              obtain ⟨h1, h2⟩ := List.getElem?_eq_some_iff.mp this
              rw [← h2, List.set_getElem_self]
            have e10 : ρk k = ρk (k + 1) := by
              show (ρ.set i none).set j (some ⟨.lst (dk k), .full, sa, sp⟩) = (ρ.set i none).set j (some ⟨.lst (dk (k + 1)), .full, sa, sp⟩)
              rw [e9]
            rw [← e10]
            exact simA
          obtain ⟨d1, us, hus, hul⟩ : ∃ d1 us, ds[k] = .tup [d1, .lst us] ∧ us.length ≤ 1000000 := by
            unfold isON at hone
            split at hone
            · rename_i hq
              exact absurd hq hnone
            · rename_i d1 us hq
              exact ⟨d1, us, hq, of_decide_eq_true hone⟩
            · cases hone
          have hda : dAt (.lst (dk k)) [k, 1] = some (.lst us) := by
            unfold dAt
            show ((dk k)[k]?).bind _ = _
            rw [dk_at k hlt, hus]
            rfl
          obtain ⟨v2, b, ob, wsb, dsb, Fb, ev2, w2, hb, hnb, ⟨S0, hrb⟩, go⟩ := simA.store (at_j k) rfl hda rfl
          cases hnb
          rw [evj2] at ev2
          cases ev2
          cases w2 with
          | cons g1 g2 g3 =>
            rw [ha1] at g1
            cases g1
            have g2 : vs1[k]? = _ := g2
            rw [hw] at g2
            cases g2
            cases g3 with
            | @cons tp ot _ _ u _ q1 q2 q3 =>
              cases q3
              have hit : ∃ ws, ot = .tup ws ∧ ws[1]? = some (.ref b) := by
                obtain ⟨u3, G3, eu3, rp3, _⟩ := hr1.get (dk_at k hlt)
                rw [hw] at eu3
                cases eu3
                rw [hus] at rp3
                obtain ⟨c, ws, e5, h5, _⟩ := rp3.tup_inv
                cases e5
                rw [h5] at q1
                cases q1
                exact ⟨ws, rfl, q2⟩
              obtain ⟨ws, rfl, hw1⟩ := hit
              have hat : atI ws 1 = some (V.ref b) := by
                have hwl := (List.getElem?_eq_some_iff.mp hw1).1
                unfold L2.atI
                have : L2.ixN ws.length 1 = some 1 := by
                  unfold L2.ixN
                  rw [if_pos (by decide), if_pos (by omega)]
                  rfl
                rw [this]
                exact hw1
              refine ⟨.ref tp, hvi2, rfl, true, by rfl, ?_⟩
              refine iteT ?_
              refine ⟨.ref tp, hvi2, .inl (.inr (.inl ⟨tp, ws, 1, .ref b, rfl, rfl, SqT.of q1, hat, ?_⟩))⟩
              refine ⟨.inl ⟨rfl, wsb, SqL.of hb⟩, ?_⟩
              refine hr H3 b wsb [.non] (wsb ++ [.non]) _ hb (by rw [hrb.len]; exact hul) rfl ?_
              obtain ⟨L5, sim5, fr5⟩ := go (H1 := H3) (w := .non) (dw := .non) (al := false) (T := []) (e' := .lst (us ++ [.non])) (o' := .lst (wsb ++ [.non])) (Same.refl H3) (fun _ z => nomatch z) .nil .non trivial (fun r1 r2 nd => by
                refine ⟨_, _, Fb ++ [], .lst, ?_, fun b z => z, nd⟩
                have := Rps.app r1 (Rps.cons (G := []) r2 .nil)
                exact this)
              refine ⟨ds.length - (k + 1), by omega, rfl, hlt, L5, ?_, fr.trans fr5, evj2⟩
              have e7 : (ρk k).set j (some ⟨dSet (.lst (dk k)) [k, 1] (.lst (us ++ [.non])), .full, sa || false, sp⟩) = ρk (k + 1) := by
                have e6 : dSet (.lst (dk k)) [k, 1] (.lst (us ++ [.non])) = .lst (dk (k + 1)) := by
                  rw [← dk_next k hlt, hus]
                  unfold dSet
                  show (match (dk k)[k]? with | some dj => _ | none => _) = _
                  rw [dk_at k hlt, hus]
                  rfl
                rw [e6, Bool.or_false]
                show ((ρ.set i none).set j _).set j _ = _
                rw [List.set_set]
              rw [e7] at sim5
              exact sim5
        · left
          have ek : k = ds.length := by omega
          subst ek
          refine ⟨⟨vs1, SqL.of ha1, by omega⟩, q0 σ' H' L' ?_ fr⟩
          rw [← ρlast]
          exact sim'
      · cases z
    · cases z
  · cases z
end
end Ev
set_option Elab.async false
set_option linter.all false
set_option maxRecDepth 100000
namespace Tg
open PySem PySem.Spec L2 Ev
open PyProof.Rows hiding St
@[reducible] def letB {α β : Type} (x : α) (k : α → β) : β := k x
@[reducible] def bindO {α β : Type} (o : Option α) (k : α → Option β) : Option β := o.bind k
theorem bindO_some {α β : Type} {o : Option α} {k : α → Option β} {y : β} (h : bindO o k = some y) : ∃ x, o = some x ∧ k x = some y := bind_some h
inductive Ctl (σ R : Type) where
  | nx (s : σ) | bk (s : σ) | rt (r : R)
def forS {α σ : Type} : List α → σ → (α → σ → Option σ) → Option σ
  | [], s, _ => some s
  | x :: xs, s, f => bindO (f x s) fun s' => forS xs s' f
def forC {α σ R : Type} : List α → σ → (α → σ → Option (Ctl σ R)) → Option (σ ⊕ R)
  | [], s, _ => some (.inl s)
  | x :: xs, s, f => bindO (f x s) fun c => match c with
    | .nx s' => forC xs s' f
    | .bk s' => some (.inl s')
    | .rt r => some (.inr r)
def whS {σ : Type} : Nat → σ → (σ → Option Bool) → (σ → Option σ) → Option σ
  | 0, _, _, _ => none
  | n + 1, s, c, f => bindO (c s) fun k => if k = true then bindO (f s) fun s' => whS n s' c f else some s
def onS {σ R T : Type} (o : Option (σ ⊕ R)) (k : σ → Option T) (q : R → T) : Option T := bindO o fun c => match c with
  | .inl s => k s
  | .inr r => some (q r)
def big {α : Type} (xs : List α) : Option (List α) := if xs.length ≤ 1000000 then some xs else none
def appO {α : Type} (xs : List α) (x : α) : Option (List α) := if xs.length ≤ 1000000 then some (xs ++ [x]) else none
def catO {α : Type} (xs ys : List α) : Option (List α) := if xs.length + ys.length ≤ 1000000 then some (xs ++ ys) else none
def idx {α : Type} (xs : List α) (i : Int) : Option α := atI xs i
def lcM {α β : Type} (xs : List α) (p : α → Option Bool) (f : α → Option β) : Option (List β) := match xs with
  | [] => some []
  | x :: r => bindO (p x) fun k => if k = true then bindO (f x) fun y => (lcM r p f).map (y :: ·) else lcM r p f
def divO (i j : Int) : Option Int := if 0 < j ∧ j.natAbs.log2 < 9000 then some (i / j) else none
def modO (i j : Int) : Option Int := if 0 < j then some (i % j) else none
def mulO (i j : Int) : Option Int := if ((-(2 ^ 64) < i ∧ i < 2 ^ 64) ∨ (-(2 ^ 64) < j ∧ j < 2 ^ 64)) ∨ Builtin.Int.intBits i + Builtin.Int.intBits j ≤ 134217728 then some (i * j) else none
def rngO (i j : Int) : Option (List Int) := if -(2 ^ 62) ≤ i ∧ i < 2 ^ 62 ∧ -(2 ^ 62) ≤ j ∧ j < 2 ^ 62 then some ((List.range (j - i).toNat).map fun (k : Nat) => i + (k : Int)) else none
def aget {κ α : Type} [DecidableEq κ] (m : List (κ × α)) (k : κ) : Option α := (m.find? fun p => decide (p.1 = k)).map (·.2)
def ahas {κ α : Type} [DecidableEq κ] (m : List (κ × α)) (k : κ) : Bool := m.any fun p => decide (p.1 = k)
def aput {κ α : Type} [DecidableEq κ] (m : List (κ × α)) (k : κ) (v : α) : List (κ × α) := if ahas m k = true then m.map (fun p => if p.1 = k then (p.1, v) else p) else m ++ [(k, v)]
def aputO {κ α : Type} [DecidableEq κ] (m : List (κ × α)) (k : κ) (v : α) : Option (List (κ × α)) := if m.length < 1000000 then some (aput m k v) else none
abbrev dI : Int → D := D.int
abbrev dB : Bool → D := D.bl
section
variable {α β γ δ ε κ : Type}
def dO (e : α → D) : Option α → D
  | some x => e x
  | none => .non
abbrev dL (e : α → D) (xs : List α) : D := .lst (xs.map e)
abbrev dF (e : α → D) (xs : List α) : D := .fl (xs.map e)
abbrev dT2 (e : α → D) (f : β → D) (p : α × β) : D := .tup [e p.1, f p.2]
abbrev dT3 (e : α → D) (f : β → D) (g : γ → D) (p : α × β × γ) : D := .tup [e p.1, f p.2.1, g p.2.2]
abbrev dKI (e : α → D) (m : List (Int × α)) : D := .dk (m.map fun p => (.inl p.1, e p.2))
abbrev dKT (e : α → D) (m : List ((Int × Int) × α)) : D := .dt (m.map fun p => ([.inl p.1.1, .inl p.1.2], e p.2))
end
inductive Md where
  | s | a | t | f | p (k : Nat)
structure Cl where
  d : D
  m : Md
  al : Bool
def Md.ok : Md → Sv → Prop
  | .s, x => x.l = .shr
  | .a, _ => True
  | .t, x => x.l ≠ .shr
  | .f, x => x.l = .full
  | .p k, x => x.l = .full ∧ x.pn = some k
structure Cl.ok (c : Cl) (s : Sv) : Prop where
  d : s.d = c.d
  m : imm c.d = false → c.m.ok s
  al : imm c.d = false → s.al = true → c.al = true
abbrev CS := List (Option Cl)
structure Rel (ρ : Ev.Env) (cs : CS) : Prop where
  len : ρ.length = cs.length
  at_ : ∀ (i : Nat) (c : Cl), cs[i]? = some (some c) → ∃ s, ρ[i]? = some (some s) ∧ c.ok s
def nthC : CS → Nat → Option Cl
  | [], _ => none
  | c :: _, 0 => c
  | _ :: cs, i + 1 => nthC cs i
theorem nthC_at : ∀ {cs : CS} {i : Nat} {c : Cl}, nthC cs i = some c → cs[i]? = some (some c)
  | [], _, _, h => by cases h
  | x :: _, 0, _, h => by simp only [nthC] at h; rw [h]; rfl
  | _ :: cs, i + 1, c, h => by simpa using nthC_at (cs := cs) (i := i) h
theorem Rel.nthC {ρ : Ev.Env} {cs : CS} (r : Rel ρ cs) {i : Nat} {c : Cl} (h : nthC cs i = some c) : ∃ s, ρ[i]? = some (some s) ∧ c.ok s := r.at_ i c (nthC_at h)
theorem Rel.lt {ρ : Ev.Env} {cs : CS} (r : Rel ρ cs) {i : Nat} {c : Cl} (h : Tg.nthC cs i = some c) : i < ρ.length := by
  obtain ⟨s, e, _⟩ := r.nthC h
  exact (List.getElem?_eq_some_iff.mp e).1
def put : CS → Nat → Cl → CS
  | [], _, _ => []
  | _ :: cs, 0, c => some c :: cs
  | x :: cs, i + 1, c => x :: put cs i c
theorem put_set : ∀ (cs : CS) (i : Nat) (c : Cl), put cs i c = cs.set i (some c)
  | [], _, _ => rfl
  | _ :: cs, 0, _ => rfl
  | x :: cs, i + 1, c => by show x :: put cs i c = _; rw [put_set cs i c]; rfl
theorem Rel.put {ρ : Ev.Env} {cs : CS} (r : Rel ρ cs) {i : Nat} {c : Cl} {s : Sv} (h : c.ok s) : Rel (ρ.set i (some s)) (put cs i c) where
  len := by rw [put_set, List.length_set, List.length_set, r.len]
  at_ := fun j c' e => by
    rw [put_set, List.getElem?_set] at e
    rw [List.getElem?_set]
    by_cases q : i = j
    · subst q
      rw [if_pos rfl] at e
      rw [if_pos rfl]
      split at e
      · rename_i hl
        cases e
        rw [if_pos (by rw [r.len]; exact hl)]
        exact ⟨s, rfl, h⟩
      · cases e
    · rw [if_neg q] at e
      rw [if_neg q]
      exact r.at_ j c' e
def leM : Md → Md → Bool
  | .s, .s => true | .f, .f => true | .f, .t => true | .t, .t => true | _, .a => true
  | .p _, .f => true | .p _, .t => true | .p k, .p j => decide (k = j) | _, _ => false
theorem leM_ok {m n : Md} (h : leM m n = true) {x : Sv} (k : m.ok x) : n.ok x := by
  cases m <;> cases n <;> first
    | exact k
    | trivial
    | (cases h; done)
    | (simp only [Md.ok] at k ⊢; rw [k]; decide)
    | exact k.1
    | (show x.l ≠ .shr; rw [k.1]; decide)
    | (have e := of_decide_eq_true h; subst e; exact k)
inductive Le : CS → CS → Prop
  | nil : Le [] []
  | no {x : Option Cl} {cs es : CS} : Le cs es → Le (x :: cs) (none :: es)
  | so {d : D} {m n : Md} {a b : Bool} {cs es : CS} : leM m n = true → (!a || b) = true → Le cs es → Le (some ⟨d, m, a⟩ :: cs) (some ⟨d, n, b⟩ :: es)
theorem Le.rel : ∀ {cs es : CS} {ρ : Ev.Env}, Le cs es → Rel ρ cs → Rel ρ es
  | _, _, _, .nil, r => r
  | _, _, [], .no h, r => by have := r.len; simp at this
  | _, _, [], .so h _ _, r => by have := r.len; simp at this
  | _, _, x :: ρ, .no (cs := cs) (es := es) h, r => by
    have q : Rel ρ es := h.rel ⟨by simpa using r.len, fun i c e => by simpa using r.at_ (i + 1) c (by simpa using e)⟩
    exact ⟨by simp [q.len], fun i c e => by
      cases i with
      | zero => simp at e
      | succ i => simpa using q.at_ i c (by simpa using e)⟩
  | _, _, x :: ρ, .so (d := d) (m := m) (n := n) (a := a) (b := b) (cs := cs) (es := es) h1 h2 h, r => by
    have q : Rel ρ es := h.rel ⟨by simpa using r.len, fun i c e => by simpa using r.at_ (i + 1) c (by simpa using e)⟩
    exact ⟨by simp [q.len], fun i c e => by
      cases i with
      | zero =>
        simp at e
        subst e
        obtain ⟨s, e1, k⟩ := r.at_ 0 ⟨d, m, a⟩ (by simp)
        refine ⟨s, e1, k.d, fun z => leM_ok h1 (k.m z), fun z w => ?_⟩
        have := k.al z w
        simp only at this
        subst this
        simpa using h2
      | succ i => simpa using q.at_ i c (by simpa using e)⟩
def fzC : CS → Nat → CS
  | [], _ => []
  | x :: cs, 0 => x.map (fun c => ⟨c.d, .s, c.al⟩) :: cs
  | x :: cs, i + 1 => x :: fzC cs i
def fzsC : List Nat → CS → CS
  | [], cs => cs
  | i :: is, cs => fzsC is (fzC cs i)
theorem fzC_get : ∀ (cs : CS) (i j : Nat) (c : Cl), (fzC cs i)[j]? = some (some c) → (j ≠ i ∧ cs[j]? = some (some c)) ∨ (j = i ∧ ∃ c0, cs[j]? = some (some c0) ∧ c = ⟨c0.d, .s, c0.al⟩)
  | [], _, _, _, h => by simp [fzC] at h
  | x :: cs, 0, 0, c, h => by
    cases x with
    | none => simp [fzC] at h
    | some c0 => simp [fzC] at h; exact .inr ⟨rfl, c0, rfl, h.symm⟩
  | x :: cs, 0, j + 1, c, h => .inl ⟨by omega, by simpa [fzC] using h⟩
  | x :: cs, i + 1, 0, c, h => .inl ⟨by omega, by simpa [fzC] using h⟩
  | x :: cs, i + 1, j + 1, c, h => by
    rcases fzC_get cs i j c (by simpa [fzC] using h) with ⟨h1, h2⟩ | ⟨h1, c0, h2, h3⟩
    · exact .inl ⟨by omega, by simpa using h2⟩
    · exact .inr ⟨by omega, c0, by simpa using h2, h3⟩
theorem fzC_len : ∀ (cs : CS) (i : Nat), (fzC cs i).length = cs.length
  | [], _ => rfl
  | x :: cs, 0 => rfl
  | x :: cs, i + 1 => by show (fzC cs i).length + 1 = _; rw [fzC_len cs i]; rfl
theorem frz_get (ρ : Ev.Env) (i j : Nat) : (frz i ρ)[j]? = if j = i then (ρ[j]?).map (fun x => x.map fun s => ⟨s.d, .shr, s.al, none⟩) else ρ[j]? := by
  unfold frz
  by_cases h : j = i
  · subst h
    rw [if_pos rfl]
    cases e : ρ[j]? with
    | none => simp [e]
    | some x =>
      cases x with
      | none => simp [e]
      | some s =>
        have := (List.getElem?_eq_some_iff.mp e).1
        simp [this]
  · rw [if_neg h]
    split
    · rw [List.getElem?_set_ne (fun z => h z.symm)]
    · rfl
theorem frz_len (ρ : Ev.Env) (i : Nat) : (frz i ρ).length = ρ.length := by
  unfold frz
  split <;> simp
theorem Rel.fz {ρ : Ev.Env} {cs : CS} (r : Rel ρ cs) (i : Nat) : Rel (frz i ρ) (fzC cs i) where
  len := by rw [frz_len, fzC_len, r.len]
  at_ := fun j c e => by
    rw [frz_get]
    rcases fzC_get cs i j c e with ⟨h1, h2⟩ | ⟨h1, c0, h2, rfl⟩
    · rw [if_neg h1]
      exact r.at_ j c h2
    · rw [if_pos h1]
      obtain ⟨s, e1, k⟩ := r.at_ j c0 h2
      rw [e1]
      exact ⟨_, rfl, k.d, fun _ => rfl, k.al⟩
theorem Rel.fzs : ∀ (is : List Nat) {ρ : Ev.Env} {cs : CS}, Rel ρ cs → Rel (frzs is ρ) (fzsC is cs)
  | [], _, _, r => r
  | i :: is, _, _, r => Rel.fzs is (r.fz i)
def leL : Lv → Lv → Bool
  | .shr, _ => true | .top, .top => true | .top, .full => true | .full, .full => true | _, _ => false
structure ROk (r : Rv) (d : D) (l : Lv) (al vw : Bool) : Prop where
  d : r.d = d
  l : leL l r.l = true
  al : r.al = true → al = true
  vw : r.vw = true → vw = true
def JE (cs : CS) (f : EvE) (d : D) (l : Lv) (al vw : Bool) : Prop := ∀ ρ, Rel ρ cs → ∃ r, f ρ = some r ∧ ROk r d l al vw
abbrev JI (cs : CS) (f : EvE) (d : D) : Prop := JE cs f d .full false false
def JEo {α : Type} (cs : CS) (f : EvE) (e : α → D) (o : Option α) (l : Lv) (al vw : Bool) : Prop := ∀ x, o = some x → JE cs f (e x) l al vw
def JT (cs : CS) (f : EvT) (b : Bool) : Prop := ∀ ρ, Rel ρ cs → f ρ = some b
def JTo (cs : CS) (f : EvT) (o : Option Bool) : Prop := ∀ b, o = some b → JT cs f b
structure AOk (rs : List Rv) (ds : List D) (fl al vw : Bool) : Prop where
  d : rs.map (·.d) = ds
  fl : fl = true → ∀ r ∈ rs, r.l = .full
  al : ∀ r ∈ rs, r.al = true → al = true
  vw : ∀ r ∈ rs, r.vw = true → vw = true
def JA (cs : CS) (g : EvA) (ds : List D) (fl al vw : Bool) : Prop := ∀ ρ, Rel ρ cs → ∃ rs, g ρ = some rs ∧ AOk rs ds fl al vw
def JIt {α : Type} (cs : CS) (it : EvI) (xs : List α) (e : α → D) (al : Bool) : Prop := ∀ ρ, Rel ρ cs → ∃ a, (a = true → al = true) ∧ it ρ = some (xs.map fun x => (e x, a))
def JS {T : Type} (cs : CS) (b : EvS) (o : Option T) (Ψ : T → Out → Prop) : Prop := ∀ ρ, Rel ρ cs → ∀ t, o = some t → ∃ out, b ρ = some out ∧ Ψ t out
def ΨR {R : Type} (e : R → D) (l : Lv) (a : Bool) (P : R → Ev.Env → Prop := fun _ _ => True) (r : R) : Out → Prop
  | .rt ρ d l' a' => d = e r ∧ leL l l' = true ∧ (a' = true → a = true) ∧ P r ρ
  | _ => False
def ΨJ {σ : Type} (C : σ → CS) (s : σ) : Out → Prop
  | .nx ρ => Rel ρ (C s)
  | _ => False
def ΨL {σ : Type} (C : σ → CS) (s : σ) : Out → Prop
  | .nx ρ => Rel ρ (C s)
  | .ct ρ => Rel ρ (C s)
  | _ => False
def ΨC {σ R : Type} (C : σ → CS) (e : R → D) (l : Lv) (a : Bool) (P : R → Ev.Env → Prop := fun _ _ => True) : Ctl σ R → Out → Prop
  | .nx s, .nx ρ => Rel ρ (C s)
  | .nx s, .ct ρ => Rel ρ (C s)
  | .bk s, .bk ρ => Rel ρ (C s)
  | .rt r, .rt ρ d l' a' => d = e r ∧ leL l l' = true ∧ (a' = true → a = true) ∧ P r ρ
  | _, _ => False
end Tg
set_option Elab.async false
set_option linter.all false
set_option maxRecDepth 100000
namespace Tg
open PySem PySem.Spec L2 Ev
open PyProof.Rows hiding St
theorem ROk.i (d : D) : ROk (rA d) d .full false false := ⟨rfl, rfl, fun h => h, fun h => h⟩
theorem leL_shr (l : Lv) : leL .shr l = true := by cases l <;> rfl
theorem leL_full {l : Lv} (h : leL .full l = true) : l = .full := by cases l <;> first | rfl | cases h
theorem leL_trans {a b c : Lv} (h : leL a b = true) (h2 : leL b c = true) : leL a c = true := by cases a <;> cases b <;> cases c <;> first | rfl | (cases h; done) | (cases h2; done)
section
variable {cs : CS} {f g : EvE} {ga : EvA} {t t2 : EvT} {i j : Int} {d d2 : D} {l l2 : Lv} {a a2 v v2 : Bool} {α β γ δ ε : Type} {e : α → D} {e2 : β → D}
theorem JE.w (h : JE cs f d l a v) (hl : leL l2 l = true := by rfl) (ha : (!a || a2) = true := by rfl) (hv : (!v || v2) = true := by rfl) : JE cs f d l2 a2 v2 := fun ρ r => by
  obtain ⟨x, e, k⟩ := h ρ r
  refine ⟨x, e, k.d, leL_trans hl k.l, fun z => ?_, fun z => ?_⟩
  · have := k.al z; subst this; simpa using ha
  · have := k.vw z; subst this; simpa using hv
theorem JE.cast (h : JE cs f d l a v) (e : d = d2) : JE cs f d2 l a v := e ▸ h
theorem jn_i {i : Nat} {d : D} {m : Md} {al : Bool} (h : nthC cs i = some ⟨d, m, al⟩) (hi : imm d = true) : JI cs (eName i) d := fun ρ r => by
  obtain ⟨s, e, k⟩ := r.nthC h
  refine ⟨rA d, ?_, .i _⟩
  have hd : s.d = d := k.d
  unfold eName
  rw [e]
  simp only [hd, hi, if_true]
theorem jn_s {i : Nat} {d : D} {al : Bool} (h : nthC cs i = some ⟨d, .s, al⟩) : JE cs (eName i) d .shr al false := fun ρ r => by
  obtain ⟨s, e, k⟩ := r.nthC h
  unfold eName
  rw [e]
  by_cases hi : imm s.d = true
  · exact ⟨rA s.d, by simp only [hi, if_true], k.d, rfl, fun h => (nomatch h), fun h => nomatch h⟩
  · refine ⟨_, by simp only [hi]; rfl, k.d, rfl, ?_, ?_⟩
    · exact k.al (by rw [← k.d]; simpa using hi)
    · intro z
      have := k.m (by rw [← k.d]; simpa using hi)
      have : s.l = .shr := this
      simp [this] at z
theorem jn_v {i : Nat} {d : D} {m : Md} {al : Bool} (h : nthC cs i = some ⟨d, m, al⟩) : JE cs (eName i) d .shr al true := fun ρ r => by
  obtain ⟨s, e, k⟩ := r.nthC h
  unfold eName
  rw [e]
  by_cases hi : imm s.d = true
  · exact ⟨rA s.d, by simp only [hi, if_true], k.d, rfl, fun h => (nomatch h), fun h => rfl⟩
  · refine ⟨_, by simp only [hi]; rfl, k.d, rfl, ?_, fun _ => rfl⟩
    exact k.al (by rw [← k.d]; simpa using hi)
theorem jc : JI cs (eC d) d := fun ρ r => ⟨rA d, rfl, .i d⟩
theorem jn_o {o : Option α} {x : α} (h : JE cs f (dO e o) l a v) (hx : o = some x) : JE cs f (e x) l a v := by subst hx; exact h
theorem je_op {C : Int → Int → Bool} {G : Int → Int → D} (h1 : JE cs f (.int i) l a v) (h2 : JE cs g (.int j) l2 a2 v2) (hc : C i j = true) : JI cs (eOp C G f g) (G i j) := fun ρ r => by
  obtain ⟨x, e1, k1⟩ := h1 ρ r
  obtain ⟨y, e2, k2⟩ := h2 ρ r
  refine ⟨rA (G i j), ?_, .i _⟩
  unfold eOp
  rw [e1, e2]
  simp only [Option.bind_some, k1.d, k2.d, hc, if_true]
theorem je_add (h1 : JE cs f (.int i) l a v) (h2 : JE cs g (.int j) l2 a2 v2) : JI cs (ePlus f g) (.int (i + j)) := fun ρ r => by
  obtain ⟨x, e, k⟩ := je_op (C := cT) (G := fun i j => .int (i + j)) h1 h2 rfl ρ r
  refine ⟨x, ?_, k⟩
  have e' : eAdd f g ρ = some x := e
  unfold ePlus
  rw [e']
  rfl
theorem je_sub (h1 : JE cs f (.int i) l a v) (h2 : JE cs g (.int j) l2 a2 v2) : JI cs (eSub f g) (.int (i - j)) := je_op (C := cT) (G := fun i j => .int (i - j)) h1 h2 rfl
theorem je_mulO {k : Int} (h1 : JE cs f (.int i) l a v) (h2 : JE cs g (.int j) l2 a2 v2) (h : mulO i j = some k) : JI cs (eMul f g) (.int k) := by
  unfold mulO at h
  split at h
  · cases h
    exact je_op (G := fun i j => .int (i * j)) h1 h2 (decide_eq_true ‹_›)
  · cases h
theorem je_mulL (h1 : JE cs f (.int i) l a v) (h2 : JE cs g (.int j) l2 a2 v2) (h : decide (-(2 ^ 64) < i ∧ i < 2 ^ 64) = true := by decide) : JI cs (eMul f g) (.int (i * j)) := je_mulO h1 h2 (by unfold mulO; rw [if_pos (.inl (.inl (of_decide_eq_true h)))])
theorem je_mulR (h1 : JE cs f (.int i) l a v) (h2 : JE cs g (.int j) l2 a2 v2) (h : decide (-(2 ^ 64) < j ∧ j < 2 ^ 64) = true := by decide) : JI cs (eMul f g) (.int (i * j)) := je_mulO h1 h2 (by unfold mulO; rw [if_pos (.inl (.inr (of_decide_eq_true h)))])
theorem je_divO {k : Int} (h1 : JE cs f (.int i) l a v) (h2 : JE cs g (.int j) l2 a2 v2) (h : divO i j = some k) : JI cs (eDiv f g) (.int k) := by
  unfold divO at h
  split at h
  · cases h
    exact je_op (G := fun i j => .int (i / j)) h1 h2 (decide_eq_true ‹_›)
  · cases h
theorem je_divL (h1 : JE cs f (.int i) l a v) (h2 : JE cs g (.int j) l2 a2 v2) (h : decide (0 < j ∧ j.natAbs.log2 < 9000) = true := by decide +kernel) : JI cs (eDiv f g) (.int (i / j)) := je_divO h1 h2 (by unfold divO; rw [if_pos (of_decide_eq_true h)])
theorem je_modO {k : Int} (h1 : JE cs f (.int i) l a v) (h2 : JE cs g (.int j) l2 a2 v2) (h : modO i j = some k) : JI cs (eMod f g) (.int k) := by
  unfold modO at h
  split at h
  · cases h
    exact je_op (G := fun i j => .int (i % j)) h1 h2 (decide_eq_true ‹_›)
  · cases h
theorem je_modP (h1 : JE cs f (.int i) l a v) (h2 : JE cs g (.int j) l2 a2 v2) (h : 0 < j) : JI cs (eMod f g) (.int (i % j)) := je_modO h1 h2 (by unfold modO; rw [if_pos h])
theorem je_modL (h1 : JE cs f (.int i) l a v) (h2 : JE cs g (.int j) l2 a2 v2) (h : decide (0 < j) = true := by decide) : JI cs (eMod f g) (.int (i % j)) := je_modP h1 h2 (of_decide_eq_true h)
theorem je_powL (h1 : JE cs f (.int i) l a v) (h2 : JE cs g (.int j) l2 a2 v2) {k : Int} (hk : i ^ j.toNat = k := by decide) (h : decide (0 ≤ j ∧ j ≤ 1000000 ∧ i.natAbs < 2 ^ 64) = true := by decide) : JI cs (ePow f g) (.int k) := by
  subst hk
  exact je_op (G := fun i j => .int (i ^ j.toNat)) h1 h2 h
theorem je_neg (h1 : JE cs f (.int i) l a v) : JI cs (eNeg f) (.int (-i)) := fun ρ r => by
  obtain ⟨x, e1, k1⟩ := h1 ρ r
  refine ⟨rA (.int (-i)), ?_, .i _⟩
  unfold eNeg
  rw [e1]
  simp only [Option.bind_some, k1.d]
def maxI (i j : Int) : Int := if j > i then j else i
def minI (i j : Int) : Int := if j < i then j else i
def absI (i : Int) : Int := if i < 0 then -i else i
theorem je_cmp {G : D → D → Option Bool} {b : Bool} (h1 : JE cs f d l a v) (h2 : JE cs g d2 l2 a2 v2) (h : G d d2 = some b) : JI cs (eCmp G f g) (.bl b) := fun ρ r => by
  obtain ⟨x, e1, k1⟩ := h1 ρ r
  obtain ⟨y, e2, k2⟩ := h2 ρ r
  refine ⟨rA (.bl b), ?_, .i _⟩
  unfold eCmp
  rw [e1, e2]
  simp only [Option.bind_some, k1.d, k2.d, h]
  rfl
theorem jt_cmp {G : D → D → Option Bool} {b : Bool} (h1 : JE cs f d l a v) (h2 : JE cs g d2 l2 a2 v2) (h : G d d2 = some b) : JT cs (tCmp G f g) b := fun ρ r => by
  obtain ⟨x, e1, k1⟩ := h1 ρ r
  obtain ⟨y, e2, k2⟩ := h2 ρ r
  unfold Ev.tCmp
  rw [e1, e2]
  simp only [Option.bind_some, k1.d, k2.d, h]
theorem q_ltI : gLt (.int i) (.int j) = some (decide (i < j)) := rfl
theorem q_gtI : gGt (.int i) (.int j) = some (decide (i > j)) := rfl
theorem q_geI : gGe (.int i) (.int j) = some (decide (i ≥ j)) := rfl
def ltP3 (p q : Int × Int × Int) : Bool := HT.lexLt [p.1, p.2.1, p.2.2] [q.1, q.2.1, q.2.2]
structure EqOk (n : Nat) (e : α → D) [DecidableEq α] : Prop where
  shp : ∀ x m, n ≤ m → shp m (e x) = true
  eq : ∀ x y, deq (e x) (e y) = decide (x = y)
theorem ek_int : EqOk 0 dI := ⟨fun x m _ => by simp [Ev.shp], fun x y => deq_int x y⟩
theorem ek_bool : EqOk 0 dB := ⟨fun x m _ => by simp [Ev.shp], fun x y => by
  unfold deq
  simp only [pd, PyData.eqv]
  cases x <;> cases y <;> rfl⟩
theorem shps_map {n : Nat} (h : ∀ x, shp n (e x) = true) : ∀ xs : List α, shps n (xs.map e) = true
  | [] => rfl
  | x :: xs => by rw [List.map_cons, shps, h, shps_map h xs]; rfl
theorem eqvAll_map [DecidableEq α] (h : ∀ x y, deq (e x) (e y) = decide (x = y)) : ∀ xs ys : List α, PyData.eqvAll (pds (xs.map e)) (pds (ys.map e)) = decide (xs = ys)
  | [], [] => by simp [pds, PyData.eqvAll]
  | [], _ :: _ => by simp [pds, PyData.eqvAll]
  | _ :: _, [] => by simp [pds, PyData.eqvAll]
  | x :: xs, y :: ys => by
    have hh := h x y
    unfold deq at hh
    simp only [List.map_cons, pds, PyData.eqvAll, eqvAll_map h xs ys, hh]
    by_cases q : x = y <;> simp [q]
theorem ek_list [DecidableEq α] {n : Nat} (h : EqOk n e) : EqOk (n + 1) (dL e) := ⟨fun x m hm => by
    obtain ⟨k, rfl⟩ : ∃ k, m = k + 1 := ⟨m - 1, by omega⟩
    simp only [Ev.shp]
    exact shps_map (fun y => h.shp y k (by omega)) x, fun x y => by
    unfold deq
    simp only [pd, PyData.eqv]
    exact eqvAll_map h.eq x y⟩
theorem ek_t2 [DecidableEq α] [DecidableEq β] {n m : Nat} (h : EqOk n e) (h2 : EqOk m e2) : EqOk (max n m + 1) (dT2 e e2) := ⟨fun x k hk => by
    obtain ⟨k, rfl⟩ : ∃ j, k = j + 1 := ⟨k - 1, by omega⟩
    simp only [Ev.shp, shps]
    rw [h.shp _ k (by omega), h2.shp _ k (by omega)]
    rfl, fun x y => by
    have q1 := h.eq x.1 y.1
    have q2 := h2.eq x.2 y.2
    unfold deq at q1 q2 ⊢
    simp only [pd, pds, PyData.eqv, PyData.eqvAll, q1, q2]
    obtain ⟨x1, x2⟩ := x
    obtain ⟨y1, y2⟩ := y
    by_cases z1 : x1 = y1 <;> by_cases z2 : x2 = y2 <;> simp [z1, z2]⟩
theorem ek_t3 [DecidableEq α] [DecidableEq β] [DecidableEq γ] {e3 : γ → D} {n m k : Nat} (h : EqOk n e) (h2 : EqOk m e2) (h3 : EqOk k e3) : EqOk (max n (max m k) + 1) (dT3 e e2 e3) := ⟨fun x j hj => by
    obtain ⟨j, rfl⟩ : ∃ i, j = i + 1 := ⟨j - 1, by omega⟩
    simp only [Ev.shp, shps]
    rw [h.shp _ j (by omega), h2.shp _ j (by omega), h3.shp _ j (by omega)]
    rfl, fun x y => by
    have q1 := h.eq x.1 y.1
    have q2 := h2.eq x.2.1 y.2.1
    have q3 := h3.eq x.2.2 y.2.2
    unfold deq at q1 q2 q3 ⊢
    simp only [pd, pds, PyData.eqv, PyData.eqvAll, q1, q2, q3]
    obtain ⟨x1, x2, x3⟩ := x
    obtain ⟨y1, y2, y3⟩ := y
    by_cases z1 : x1 = y1 <;> by_cases z2 : x2 = y2 <;> by_cases z3 : x3 = y3 <;> simp [z1, z2, z3]⟩
def NotN (e : α → D) : Prop := ∀ x, isN (e x) = false
theorem pd_non {d : D} (h : isN d = false) : PyData.eqv (pd d) .none = false ∧ PyData.eqv .none (pd d) = false := by
  cases d <;> first | (cases h; done) | (simp [pd, PyData.eqv])
theorem ek_opt [DecidableEq α] {n : Nat} (h : EqOk n e) (hn : NotN e) : EqOk n (dO e) := ⟨fun x m hm => by
    cases x with
    | none => simp [dO, Ev.shp]
    | some x => exact h.shp x m hm, fun x y => by
    cases x with
    | none => cases y with
      | none => unfold deq; simp [dO, pd, PyData.eqv]
      | some y => unfold deq; simp only [dO, pd]; rw [(pd_non (hn y)).2]; simp
    | some x => cases y with
      | none => unfold deq; simp only [dO, pd]; rw [(pd_non (hn x)).1]; simp
      | some y => simp only [dO]; rw [h.eq x y]; simp⟩
theorem q_eq [DecidableEq α] {n : Nat} (h : EqOk n e) (x y : α) [Decidable (x = y)] (hn : decide (n ≤ 8) = true := by decide) : gEq (e x) (e y) = some (decide (x = y)) := by
  unfold gEq
  rw [h.shp x 8 (of_decide_eq_true hn), h.shp y 8 (of_decide_eq_true hn), h.eq]
  simp only [Bool.and_self, if_true]
  congr 1
  first | exact decide_eq_decide.mpr Iff.rfl | exact congrArg _ (decide_eq_decide.mpr Iff.rfl)
theorem q_ne [DecidableEq α] {n : Nat} (h : EqOk n e) (x y : α) [Decidable (x = y)] (hn : decide (n ≤ 8) = true := by decide) : gNe (e x) (e y) = some (!decide (x = y)) := by
  unfold gNe
  rw [h.shp x 8 (of_decide_eq_true hn), h.shp y 8 (of_decide_eq_true hn), h.eq]
  simp only [Bool.and_self, if_true]
  congr 1
  first | exact decide_eq_decide.mpr Iff.rfl | exact congrArg _ (decide_eq_decide.mpr Iff.rfl)
theorem gIs_of {d : D} (h : isN d = false) : gIs d .non = some false ∧ gIsNot d .non = some true := by
  cases d <;> first | exact ⟨rfl, rfl⟩ | cases h
theorem q_is (hn : NotN e) (o : Option α) : gIs (dO e o) .non = some o.isNone := by
  cases o with
  | none => rfl
  | some x => exact (gIs_of (hn x)).1
theorem q_isnot (hn : NotN e) (o : Option α) : gIsNot (dO e o) .non = some o.isSome := by
  cases o with
  | none => rfl
  | some x => exact (gIs_of (hn x)).2
theorem or_none_l {γ : Type} (x : Option γ) : (none : Option γ).or x = x := by cases x <;> rfl
theorem dhas_KI (m : List (Int × α)) (k : Int) : dhas (m.map fun p => ((.inl p.1 : Key), e p.2)) (.inl k) = ahas m k := by
  unfold dhas ahas
  rw [List.any_map]
  congr 1
  funext p
  simp only [Function.comp]
  by_cases h : p.1 = k <;> simp [h]
theorem dhas_KT (m : List ((Int × Int) × α)) (k : Int × Int) : dhas (m.map fun p => (([.inl p.1.1, .inl p.1.2] : List Key), e p.2)) [.inl k.1, .inl k.2] = ahas m k := by
  unfold dhas ahas
  rw [List.any_map]
  congr 1
  funext p
  obtain ⟨⟨x, y⟩, z⟩ := p
  obtain ⟨k1, k2⟩ := k
  simp only [Function.comp]
  by_cases h : x = k1 <;> by_cases h2 : y = k2 <;> simp [h, h2]
theorem dlook_KT (m : List ((Int × Int) × α)) (k : Int × Int) : dlook (m.map fun p => (([.inl p.1.1, .inl p.1.2] : List Key), e p.2)) [.inl k.1, .inl k.2] = (aget m k).map e := by
  unfold dlook aget
  rw [List.find?_map, Option.map_map, Option.map_map]
  have : ((fun (p : List Key × D) => decide (p.1 = [.inl k.1, .inl k.2])) ∘ fun (p : (Int × Int) × α) => (([.inl p.1.1, .inl p.1.2] : List Key), e p.2)) = fun p => decide (p.1 = k) := by
    funext p
    obtain ⟨⟨x, y⟩, z⟩ := p
    obtain ⟨k1, k2⟩ := k
    simp only [Function.comp]
    by_cases h : x = k1 <;> by_cases h2 : y = k2 <;> simp [h, h2]
  rw [this]
  rfl
theorem q_ninKI (m : List (Int × α)) (k : Int) : gNin (.int k) (dKI e m) = some (!ahas m k) := by
  show some (true != dhas _ _) = _
  rw [dhas_KI]
  cases ahas m k <;> rfl
theorem q_inKT (m : List ((Int × Int) × α)) (k : Int × Int) : gIn (dT2 dI dI k) (dKT e m) = some (ahas m k) := by
  show some (false != dhas _ _) = _
  rw [dhas_KT]
  cases ahas m k <;> rfl
theorem q_ninKT (m : List ((Int × Int) × α)) (k : Int × Int) : gNin (dT2 dI dI k) (dKT e m) = some (!ahas m k) := by
  show some (true != dhas _ _) = _
  rw [dhas_KT]
  cases ahas m k <;> rfl
theorem jt_val {b : Bool} (h : JE cs f (.bl b) l a v) : JT cs (tVal f) b := fun ρ r => by
  obtain ⟨x, e1, k1⟩ := h ρ r
  unfold tVal
  rw [e1]
  simp only [Option.bind_some, k1.d]
theorem jt_and {b c : Bool} (h : JT cs t b) (h2 : JT cs t2 c) : JT cs (tAnd t t2) (b && c) := fun ρ r => by
  unfold Ev.tAnd
  rw [h ρ r]
  cases b with
  | true => exact h2 ρ r
  | false => rfl
theorem jt_or {b c : Bool} (h : JT cs t b) (h2 : JT cs t2 c) : JT cs (tOr t t2) (b || c) := fun ρ r => by
  unfold Ev.tOr
  rw [h ρ r]
  cases b with
  | false => exact h2 ρ r
  | true => rfl
theorem jt_not {b : Bool} (h : JT cs t b) : JT cs (tNot t) (!b) := fun ρ r => by
  unfold Ev.tNot
  rw [h ρ r]
  rfl
theorem jt_andO {b c : Bool} {o : Option Bool} (h : JT cs t b) (h2 : JTo cs t2 o) (hc : (if b = true then o else some false) = some c) : JT cs (tAnd t t2) c := fun ρ r => by
  unfold Ev.tAnd
  rw [h ρ r]
  cases b with
  | true => exact h2 c hc ρ r
  | false => cases hc; rfl
theorem jt_orO {b c : Bool} {o : Option Bool} (h : JT cs t b) (h2 : JTo cs t2 o) (hc : (if b = true then some true else o) = some c) : JT cs (tOr t t2) c := fun ρ r => by
  unfold Ev.tOr
  rw [h ρ r]
  cases b with
  | false => exact h2 c hc ρ r
  | true => cases hc; rfl
theorem jto_p {b : Bool} (h : JT cs t b) : JTo cs t (some b) := fun c e => by cases e; exact h
theorem jto_b {k : α → Option Bool} {o : Option α} (h : ∀ x, o = some x → JTo cs t (k x)) : JTo cs t (bindO o k) := fun c e => by
  obtain ⟨x, e1, e2⟩ := bindO_some e
  exact h x e1 c e2
theorem jeo_p {x : α} (h : JE cs f (e x) l a v) : JEo cs f e (some x) l a v := fun c q => by cases q; exact h
theorem jeo_b {k : β → Option α} {o : Option β} (h : ∀ x, o = some x → JEo cs f e (k x) l a v) : JEo cs f e (bindO o k) l a v := fun c q => by
  obtain ⟨x, e1, e2⟩ := bindO_some q
  exact h x e1 c e2
theorem je_not {b : Bool} (h : JE cs f (.bl b) l a v) : JI cs (eNot f) (.bl !b) := fun ρ r => by
  obtain ⟨x, e1, k1⟩ := h ρ r
  refine ⟨rA (.bl !b), ?_, .i _⟩
  unfold eNot
  rw [e1]
  simp only [Option.bind_some, k1.d]
theorem je_andO {b c : Bool} {o : Option Bool} (h : JE cs f (.bl b) l a v) (h2 : JEo cs g dB o .full false false) (hc : (if b = true then o else some false) = some c) : JI cs (eAnd f g) (.bl c) := fun ρ r => by
  obtain ⟨x, e1, k1⟩ := h ρ r
  unfold eAnd
  rw [e1]
  simp only [Option.bind_some, k1.d]
  cases b with
  | true => exact h2 c hc ρ r
  | false => cases hc; exact ⟨_, rfl, .i _⟩
theorem je_and {b c : Bool} (h : JE cs f (.bl b) l a v) (h2 : JI cs g (.bl c)) : JI cs (eAnd f g) (.bl (b && c)) := je_andO (o := some c) h (jeo_p (e := dB) h2) (by cases b <;> rfl)
theorem ja_nil : JA cs aNil [] true false false := fun ρ r => ⟨[], rfl, rfl, fun _ _ h => (nomatch h), fun _ h => (nomatch h), fun _ h => nomatch h⟩
def isFull : Lv → Bool
  | .full => true
  | _ => false
theorem ja_cons {ds : List D} {fl al vw : Bool} (h : JE cs f d l a v) (h2 : JA cs ga ds fl al vw) : JA cs (aCons f ga) (d :: ds) (isFull l && fl) (a || al) (v || vw) := fun ρ r => by
  obtain ⟨x, e1, k1⟩ := h ρ r
  obtain ⟨rs, e2, k2⟩ := h2 ρ r
  refine ⟨x :: rs, ?_, ?_, ?_, ?_, ?_⟩
  · unfold aCons
    rw [e1, e2]
    rfl
  · rw [List.map_cons, k1.d, k2.d]
  · intro z y hy
    rw [Bool.and_eq_true] at z
    rcases List.mem_cons.mp hy with rfl | hy
    · have hl : l = .full := by cases l <;> first | rfl | (cases z.1; done)
      subst hl
      exact leL_full k1.l
    · exact k2.fl z.2 y hy
  · intro y hy z
    rcases List.mem_cons.mp hy with rfl | hy
    · rw [k1.al z]; rfl
    · rw [k2.al y hy z]; cases a <;> rfl
  · intro y hy z
    rcases List.mem_cons.mp hy with rfl | hy
    · rw [k1.vw z]; rfl
    · rw [k2.vw y hy z]; cases v <;> rfl
theorem AOk.nvw {rs : List Rv} {ds : List D} {fl al : Bool} (k : AOk rs ds fl al false) : rs.all (fun r => !r.vw) = true := List.all_eq_true.mpr fun y hy => by
  cases z : y.vw with
  | false => rfl
  | true => exact nomatch k.vw y hy z
theorem AOk.anyal {rs : List Rv} {ds : List D} {fl al vw : Bool} (k : AOk rs ds fl al vw) (h : rs.any (·.al) = true) : al = true := by
  obtain ⟨y, hy, z⟩ := List.any_eq_true.mp h
  exact k.al y hy z
theorem AOk.anyvw {rs : List Rv} {ds : List D} {fl al vw : Bool} (k : AOk rs ds fl al vw) (h : rs.any (·.vw) = true) : vw = true := by
  obtain ⟨y, hy, z⟩ := List.any_eq_true.mp h
  exact k.vw y hy z
theorem AOk.allfull {rs : List Rv} {ds : List D} {al : Bool} (k : AOk rs ds true al false) : rs.all (fun r => !r.vw && decide (r.l = .full)) = true := List.all_eq_true.mpr fun y hy => by
  rw [k.fl rfl y hy]
  have := List.all_eq_true.mp k.nvw y hy
  simp [this]
theorem je_tup {ds : List D} {fl al : Bool} (h : JA cs ga ds fl al false) (hl : decide (ds.length ≤ 1000) = true := by rfl) : JE cs (eTup ga) (.tup ds) (if fl = true then .full else .shr) al false := fun ρ r => by
  obtain ⟨rs, e2, k⟩ := h ρ r
  have hlen : rs.length ≤ 1000 := by rw [← List.length_map (f := fun r : Rv => r.d), k.d]; exact of_decide_eq_true hl
  unfold eTup mkTup
  rw [e2]
  simp only [Option.bind_some]
  rw [if_pos (by rw [k.nvw, decide_eq_true hlen]; rfl)]
  cases fl with
  | true => rw [if_pos k.allfull]; exact ⟨_, rfl, by rw [k.d], rfl, k.anyal, fun h => nomatch h⟩
  | false =>
    split
    · exact ⟨_, rfl, by rw [k.d], rfl, k.anyal, fun h => nomatch h⟩
    · exact ⟨_, rfl, by rw [k.d], rfl, k.anyal, fun h => nomatch h⟩
theorem je_lst {ds : List D} {fl al : Bool} (h : JA cs ga ds fl al false) (hl : decide (ds.length ≤ 1000) = true := by rfl) : JE cs (eLst ga) (.lst ds) (if fl = true then .full else .top) al false := fun ρ r => by
  obtain ⟨rs, e2, k⟩ := h ρ r
  have hlen : rs.length ≤ 1000 := by rw [← List.length_map (f := fun r : Rv => r.d), k.d]; exact of_decide_eq_true hl
  unfold eLst mkLst
  rw [e2]
  simp only [Option.bind_some]
  rw [if_pos (by rw [k.nvw, decide_eq_true hlen]; rfl)]
  cases fl with
  | true => rw [if_pos k.allfull]; exact ⟨_, rfl, by rw [k.d], rfl, k.anyal, fun h => nomatch h⟩
  | false =>
    split
    · exact ⟨_, rfl, by rw [k.d], rfl, k.anyal, fun h => nomatch h⟩
    · exact ⟨_, rfl, by rw [k.d], rfl, k.anyal, fun h => nomatch h⟩
theorem je_dk : JI cs eDk (.dk []) := fun ρ r => ⟨_, rfl, rfl, rfl, fun h => (nomatch h), fun h => nomatch h⟩
theorem je_dt : JI cs eDt (.dt []) := fun ρ r => ⟨_, rfl, rfl, rfl, fun h => (nomatch h), fun h => nomatch h⟩
theorem part_ok {x : Rv} (k : ROk x d l a v) (d' : D) : ROk (part x d') d' (if imm d' = true then .full else .shr) a v := by
  unfold Ev.part
  by_cases hi : imm d' = true
  · rw [if_pos hi, if_pos hi]
    exact ⟨rfl, rfl, fun h => (nomatch h), fun h => nomatch h⟩
  · rw [if_neg hi, if_neg hi]
    exact ⟨rfl, rfl, k.al, k.vw⟩
theorem part_okI {x : Rv} {d' : D} (h : imm d' = true) : ROk (part x d') d' .full false false := by
  unfold Ev.part
  rw [if_pos h]
  exact .i d'
theorem je_ix {d' : D} (h1 : JE cs f d l a v) (h2 : JE cs g d2 l2 a2 v2) (h : gIx d d2 = some d') : JE cs (eIx f g) d' .shr a v := fun ρ r => by
  obtain ⟨x, e1, k1⟩ := h1 ρ r
  obtain ⟨y, e2, k2⟩ := h2 ρ r
  refine ⟨part x d', ?_, ?_⟩
  · unfold eIx
    rw [e1, e2]
    simp only [Option.bind_some, k1.d, k2.d, h, Option.map_some]
  · have := part_ok k1 d'
    exact ⟨this.d, leL_shr _, this.al, this.vw⟩
theorem je_ixI {d' : D} (h1 : JE cs f d l a v) (h2 : JE cs g d2 l2 a2 v2) (h : gIx d d2 = some d') (hi : imm d' = true) : JI cs (eIx f g) d' := fun ρ r => by
  obtain ⟨x, e1, k1⟩ := h1 ρ r
  obtain ⟨y, e2, k2⟩ := h2 ρ r
  refine ⟨part x d', ?_, part_okI hi⟩
  unfold eIx
  rw [e1, e2]
  simp only [Option.bind_some, k1.d, k2.d, h, Option.map_some]
theorem atI_map {xs : List α} {y : α} (h : idx xs i = some y) : atI (xs.map e) i = some (e y) := by
  unfold idx atI at h
  unfold atI
  rw [List.length_map]
  obtain ⟨j, e1, e2⟩ := bind_some h
  rw [e1]
  simp only [Option.bind_some, List.getElem?_map, e2, Option.map_some]
theorem x_l {xs : List α} {y : α} (h : idx xs i = some y) : gIx (dL e xs) (.int i) = some (e y) := atI_map h
theorem x_f {xs : List α} {y : α} (h : idx xs i = some y) : gIx (dF e xs) (.int i) = some (e y) := atI_map h
theorem x_KT {m : List ((Int × Int) × α)} {k : Int × Int} {y : α} (h : aget m k = some y) : gIx (dKT e m) (dT2 dI dI k) = some (e y) := by
  show dlook _ _ = _
  rw [dlook_KT, h]
  rfl
theorem je_len {n : Nat} (h : JE cs f d l a v) (hn : lenOf d = some n) : JI cs (eLen (aCons f aNil)) (.int n) := fun ρ r => by
  obtain ⟨x, e1, k1⟩ := h ρ r
  refine ⟨rI n, ?_, .i _⟩
  unfold eLen aCons aNil
  simp only [e1, Option.bind_some, k1.d, hn, Option.map_some]
  rfl
theorem n_l (xs : List α) : lenOf (dL e xs) = some xs.length := by show some _ = _; rw [List.length_map]
theorem n_f (xs : List α) : lenOf (dF e xs) = some xs.length := by show some _ = _; rw [List.length_map]
def JO (cs : CS) (f : EvO) (o : Option Int) : Prop := ∀ ρ, Rel ρ cs → f ρ = some o
theorem jo_s (h : JE cs f (.int i) l a v) : JO cs (oSome f) (some i) := fun ρ r => by
  obtain ⟨x, e1, k1⟩ := h ρ r
  unfold oSome
  rw [e1]
  simp only [Option.bind_some, k1.d, intOf, Option.map_some]
theorem cutL_map (xs : List α) (lo hi : Option Int) : cutL (xs.map e) lo hi = (cutL xs lo hi).map e := by
  unfold cutL
  rw [List.length_map, List.map_take, List.map_drop]
theorem je_slI {f1 f2 : EvO} {lo hi : Option Int} {d' : D} {l' : Lv} (h : JE cs f d l a v) (h1 : JO cs f1 lo) (h2 : JO cs f2 hi) (hz : cutD d lo hi = some (d', l')) (hi' : imm d' = true ∨ whole d' = true ∧ l' = .top) : JI cs (eSl f f1 f2) d' := fun ρ r => by
  obtain ⟨x, e1, k1⟩ := h ρ r
  refine ⟨res x.al x.vw (d', l'), ?_, ?_⟩
  · unfold eSl
    rw [e1]
    simp only [Option.bind_some, h1 ρ r, h2 ρ r, k1.d, hz, Option.map_some]
  · unfold res
    by_cases q : imm d' = true
    · rw [if_pos q]; exact .i _
    · rw [if_neg q]
      rcases hi' with hi' | ⟨h3, h4⟩
      · exact absurd hi' q
      · rw [if_pos (by rw [h3, h4]; rfl)]
        exact ⟨rfl, rfl, fun h => (nomatch h), fun h => nomatch h⟩
theorem immAll_map (h : ∀ x, imm (e x) = true) : ∀ xs : List α, immAll (xs.map e) = true
  | [] => rfl
  | x :: xs => by rw [List.map_cons, immAll, h, immAll_map h xs]; rfl
theorem je_slFI {f1 f2 : EvO} {lo hi : Option Int} {xs : List α} (h : JE cs f (dF e xs) l a v) (h1 : JO cs f1 lo) (h2 : JO cs f2 hi) (hi' : ∀ x, imm (e x) = true) : JI cs (eSl f f1 f2) (dL e (cutL xs lo hi)) :=
  JE.cast (je_slI h h1 h2 rfl (.inr ⟨by rw [cutL_map]; exact immAll_map hi' _, rfl⟩)) (by rw [cutL_map])
theorem je_revI {xs : List α} (h : JE cs f (dL e xs) l a v) (hi' : ∀ x, imm (e x) = true) : JI cs (eRev f) (dL e xs.reverse) := fun ρ r => by
  obtain ⟨x, e1, k1⟩ := h ρ r
  refine ⟨⟨.lst (xs.map e).reverse, .full, false, false⟩, ?_, ?_⟩
  · unfold eRev res
    rw [e1]
    simp only [Option.bind_some, k1.d, seqOf, Option.map_some]
    rw [if_neg (fun z => nomatch z), if_pos]
    show (immAll _ && _) = true
    rw [← List.map_reverse, immAll_map hi']
    rfl
  · exact ⟨by simp, rfl, fun h => (nomatch h), fun h => nomatch h⟩
theorem catO_len {xs ys zs : List α} (h : catO xs ys = some zs) : xs.length + ys.length ≤ 1000000 ∧ zs = xs ++ ys := by
  unfold catO at h
  split at h
  · cases h; exact ⟨‹_›, rfl⟩
  · cases h
theorem je_catI {xs ys zs : List α} (h : JE cs f (dL e xs) l a v) (h2 : JE cs g (dL e ys) l2 a2 v2) (hz : catO xs ys = some zs) (hi' : ∀ x, imm (e x) = true) : JI cs (ePlus f g) (dL e zs) := fun ρ r => by
  obtain ⟨x, e1, k1⟩ := h ρ r
  obtain ⟨y, e2, k2⟩ := h2 ρ r
  obtain ⟨hl, rfl⟩ := catO_len hz
  refine ⟨⟨.lst (xs.map e ++ ys.map e), .full, false, false⟩, ?_, ?_⟩
  · unfold ePlus eCat eAdd eOp
    rw [e1, e2]
    simp only [Option.bind_some, k1.d, k2.d, List.length_map]
    rw [if_pos hl]
    unfold res
    rw [if_neg (fun z => nomatch z), if_pos]
    · rfl
    · show (immAll _ && _) = true
      rw [← List.map_append, immAll_map hi']
      rfl
  · exact ⟨by simp, rfl, fun h => (nomatch h), fun h => nomatch h⟩
theorem res_I {al vw : Bool} {d' : D} {l' : Lv} (hi : imm d' = true ∨ whole d' = true ∧ l' = .top) : ROk (res al vw (d', l')) d' .full false false := by
  unfold res
  by_cases q : imm d' = true
  · rw [if_pos q]; exact .i _
  · rw [if_neg q]
    rcases hi with hi | ⟨h3, h4⟩
    · exact absurd hi q
    · rw [if_pos (by rw [h3, h4]; rfl)]
      exact ⟨rfl, rfl, fun h => (nomatch h), fun h => nomatch h⟩
theorem je_biI {G : List D → Option Ret} {ds : List D} {fl al vw : Bool} {l' : Lv} {d' : D} (h : JA cs ga ds fl al vw) (hz : G ds = some (d', l')) (hi : imm d' = true ∨ whole d' = true ∧ l' = .top) : JI cs (eBi G ga) d' := fun ρ r => by
  obtain ⟨rs, e2, k⟩ := h ρ r
  refine ⟨res (rs.any (·.al)) (rs.any (·.vw)) (d', l'), ?_, res_I hi⟩
  unfold eBi
  rw [e2]
  simp only [Option.bind_some, k.d, hz, Option.map_some]
theorem whole_map {xs : List α} (h : ∀ x, imm (e x) = true) : whole (dL e xs) = true := immAll_map h xs
theorem b_min : bMin2 [.int i, .int j] = some (.int (minI i j), .full) := rfl
theorem b_max : bMax2 [.int i, .int j] = some (.int (maxI i j), .full) := rfl
theorem b_abs : bAbs [.int i] = some (.int (absI i), .full) := rfl
theorem blsOf_map : ∀ xs : List Bool, blsOf (xs.map dB) = some xs
  | [] => rfl
  | x :: xs => by
    show (some x).bind (fun i => (blsOf (xs.map dB)).map (i :: ·)) = _
    rw [blsOf_map xs]
    rfl
theorem b_all (xs : List Bool) : bAll [dL dB xs] = some (.bl (xs.all id), .full) := by
  unfold bAll
  simp only [blsOf_map, Option.map_some]
theorem b_sortedI (xs : List Int) : bSorted [dL dI xs] = some (dL dI (sortI xs), .top) := bSorted_ints xs
theorem rowsOf_m {ro : α → List Int} (h : ∀ x, e x = dRow (ro x)) : ∀ xs : List α, rowsOfL (xs.map e) = some (xs.map ro)
  | [] => rfl
  | x :: xs => by
    rw [List.map_cons, rowsOfL, rowsOf_m h xs, h]
    unfold rowOfD dRow
    simp only [intsOf_map, Option.bind_some, Option.map_some, List.map_cons]
theorem b_sortedR {ro : α → List Int} {n : Nat} (h : ∀ x, e x = dRow (ro x)) (hn : ∀ x, (ro x).length = n + 1) (xs : List α) : bSorted [dL e xs] = some (dL e (isort (fun x y => HT.lexLt (ro x) (ro y)) xs), .top) := by
  cases xs with
  | nil => rfl
  | cons x xs =>
    have h1 : bSortedI [dL e (x :: xs)] = none := by
      unfold bSortedI
      simp only [seqOf, Option.bind_some, List.map_cons]
      rw [h]
      rfl
    show (bSortedI _).or (bSortedR _) = _
    rw [h1, or_none_l]
    unfold bSortedR
    have hl : sameLen ((x :: xs).map ro) = true := by
      unfold sameLen
      rw [List.map_cons]
      simp [hn]
    simp only [seqOf, Option.bind_some, rowsOf_m h, hl, if_true]
    have : sortR ((x :: xs).map ro) = (isort (fun x y => HT.lexLt (ro x) (ro y)) (x :: xs)).map ro := isort_map _ _ _
    rw [this, List.map_map]
    have : dRow ∘ ro = e := by funext y; exact (h y).symm
    rw [this]
abbrev sort3 (xs : List (Int × Int × Int)) : List (Int × Int × Int) := isort ltP3 xs
theorem b_sorted3 (xs : List (Int × Int × Int)) : bSorted [dL (dT3 dI dI dI) xs] = some (dL (dT3 dI dI dI) (sort3 xs), .top) := b_sortedR (e := dT3 dI dI dI) (ro := fun p => [p.1, p.2.1, p.2.2]) (n := 2) (fun _ => rfl) (fun _ => rfl) xs
def RetE (φ : List D → Option RetD) (ds : List D) (d : D) (l : Lv) (al : Bool) : Prop := ∃ l' a', φ ds = some (d, l', a') ∧ leL l l' = true ∧ (a' = true → al = true)
theorem mkR_ok {d : D} {l' : Lv} {a' al' vw' ral al vw : Bool} (hl : leL l l' = true) (ha : a' = true → ral = true) (h1 : al' = true → al = true) (h2 : vw' = true → vw = true) : ROk (mkR al' vw' (d, l', a')) d l (ral && al) (ral && vw) := by
  unfold mkR
  split
  · exact ⟨rfl, by cases l <;> rfl, fun h => (nomatch h), fun h => (nomatch h)⟩
  · split
    · rename_i h
      have h : a' = true := h
      refine ⟨rfl, hl, fun z => ?_, fun z => ?_⟩
      · rw [ha h, h1 z]; rfl
      · rw [ha h, h2 z]; rfl
    · exact ⟨rfl, hl, fun h => (nomatch h), fun h => (nomatch h)⟩
theorem mkR_okI {z : RetD} {al vw : Bool} (hi : imm z.1 = true) : ROk (mkR al vw z) z.1 .full false false := by
  unfold mkR
  rw [if_pos hi]
  exact .i _
theorem je_call {R : List D → Option RetD} {ds : List D} {fl al vw ral : Bool} (h : JA cs ga ds fl al vw) (hR : RetE R ds d l ral) : JE cs (eCall R ga) d l (ral && al) (ral && vw) := fun ρ r => by
  obtain ⟨rs, e2, k⟩ := h ρ r
  obtain ⟨l', a', e3, k3, k4⟩ := hR
  refine ⟨mkR (rs.any (·.al)) (rs.any (·.vw)) (d, l', a'), ?_, mkR_ok k3 k4 k.anyal k.anyvw⟩
  unfold eCall
  rw [e2]
  simp only [Option.bind_some, k.d, e3, Option.map_some]
theorem je_callI {R : List D → Option RetD} {ds : List D} {fl al vw ral : Bool} (h : JA cs ga ds fl al vw) (hR : RetE R ds d l ral) (hi : imm d = true) : JI cs (eCall R ga) d := fun ρ r => by
  obtain ⟨rs, e2, k⟩ := h ρ r
  obtain ⟨l', a', e3, k3, k4⟩ := hR
  refine ⟨mkR (rs.any (·.al)) (rs.any (·.vw)) (d, l', a'), ?_, mkR_okI (z := (d, l', a')) hi⟩
  unfold eCall
  rw [e2]
  simp only [Option.bind_some, k.d, e3, Option.map_some]
theorem je_meth {C : Addr} {m : Str} {R : List D → Option RetD} {fs : List (Str × D)} {ds : List D} {fl al vw ral : Bool} (h1 : JE cs f (.ins C fs) l2 a v) (hm : (fs.lookup m).isNone = true) (h : JA cs ga ds fl al vw) (hR : RetE R (.ins C fs :: ds) d l ral) : JE cs (eMeth C m R f ga) d l (ral && (a || al)) (ral && (v || vw)) := fun ρ r => by
  obtain ⟨x, e1, k1⟩ := h1 ρ r
  obtain ⟨rs, e2, k⟩ := h ρ r
  obtain ⟨l', a', e3, k3, k4⟩ := hR
  refine ⟨mkR (x.al || rs.any (·.al)) (x.vw || rs.any (·.vw)) (d, l', a'), ?_, mkR_ok k3 k4 (fun z => ?_) (fun z => ?_)⟩
  · unfold eMeth
    rw [e1]
    simp only [Option.bind_some, k1.d]
    rw [if_pos ⟨trivial, hm⟩, e2]
    simp only [Option.bind_some, k.d, e3, Option.map_some]
  · rcases Bool.or_eq_true _ _ ▸ z with z | z
    · rw [k1.al z]; rfl
    · rw [k.anyal z]; cases a <;> rfl
  · rcases Bool.or_eq_true _ _ ▸ z with z | z
    · rw [k1.vw z]; rfl
    · rw [k.anyvw z]; cases v <;> rfl
theorem je_methI {C : Addr} {m : Str} {R : List D → Option RetD} {fs : List (Str × D)} {ds : List D} {fl al vw ral : Bool} (h1 : JE cs f (.ins C fs) l2 a v) (hm : (fs.lookup m).isNone = true) (h : JA cs ga ds fl al vw) (hR : RetE R (.ins C fs :: ds) d l ral) (hi : imm d = true) : JI cs (eMeth C m R f ga) d := fun ρ r => by
  obtain ⟨x, e1, k1⟩ := h1 ρ r
  obtain ⟨rs, e2, k⟩ := h ρ r
  obtain ⟨l', a', e3, k3, k4⟩ := hR
  refine ⟨mkR (x.al || rs.any (·.al)) (x.vw || rs.any (·.vw)) (d, l', a'), ?_, mkR_okI (z := (d, l', a')) hi⟩
  unfold eMeth
  rw [e1]
  simp only [Option.bind_some, k1.d]
  rw [if_pos ⟨trivial, hm⟩, e2]
  simp only [Option.bind_some, k.d, e3, Option.map_some]
theorem je_new {C : Addr} {φ : List D → Option (List (Str × D))} {fs : List (Str × D)} {ds : List D} {fl al vw : Bool} (h : JA cs ga ds fl al vw) (hφ : φ ds = some fs) : JI cs (eNew C φ ga) (.ins C fs) := fun ρ r => by
  obtain ⟨rs, e2, k⟩ := h ρ r
  refine ⟨⟨.ins C fs, .full, false, false⟩, ?_, ⟨rfl, rfl, fun h => (nomatch h), fun h => (nomatch h)⟩⟩
  unfold eNew
  rw [e2]
  simp only [Option.bind_some, k.d, hφ, Option.map_some]
theorem je_at {C : Addr} {m : Str} {fs : List (Str × D)} (h1 : JE cs f (.ins C fs) l a v) (hm : fs.lookup m = some d) : JE cs (eAt C m f) d .shr a v := fun ρ r => by
  obtain ⟨x, e1, k1⟩ := h1 ρ r
  refine ⟨part x d, ?_, ?_⟩
  · unfold eAt
    rw [e1]
    simp only [Option.bind_some, k1.d]
    rw [if_pos trivial, hm]
    rfl
  · have := part_ok k1 d
    exact ⟨this.d, leL_shr _, this.al, this.vw⟩
theorem je_atI {C : Addr} {m : Str} {fs : List (Str × D)} (h1 : JE cs f (.ins C fs) l a v) (hm : fs.lookup m = some d) (hi : imm d = true) : JI cs (eAt C m f) d := fun ρ r => by
  obtain ⟨x, e1, k1⟩ := h1 ρ r
  refine ⟨part x d, ?_, part_okI hi⟩
  unfold eAt
  rw [e1]
  simp only [Option.bind_some, k1.d]
  rw [if_pos trivial, hm]
  rfl
theorem je_atO {C dx : Addr} {m : Str} {fs : List (Str × D)} (h1 : JE cs f (.obj C dx fs) l a v) (hm : fs.lookup m = some d) : JE cs (eAtO C m f) d .shr a v := fun ρ r => by
  obtain ⟨x, e1, k1⟩ := h1 ρ r
  refine ⟨part x d, ?_, ?_⟩
  · unfold eAtO
    rw [e1]
    simp only [Option.bind_some, k1.d]
    rw [if_pos trivial, hm]
    rfl
  · have := part_ok k1 d
    exact ⟨this.d, leL_shr _, this.al, this.vw⟩
theorem je_isi {T : String} {tn : String} {b : Bool} (h1 : JE cs f d l a v) (h2 : tyN d = some tn) (h3 : kitB tn T = some b) : JI cs (eIsi T f) (.bl b) := fun ρ r => by
  obtain ⟨x, e1, k1⟩ := h1 ρ r
  refine ⟨rB b, ?_, .i _⟩
  unfold eIsi
  rw [e1]
  simp only [Option.bind_some, k1.d, h2, h3, Option.map_some]
theorem je_dgetI {d' : D} (h1 : JE cs f d l a v) (h2 : JE cs g d2 l2 a2 v2) (h : ∀ x : Rv, ROk x d l a v → ∃ r, getAt x d2 = some r ∧ ROk r d' .full false false) : JI cs (eDGet f g) d' := fun ρ r => by
  obtain ⟨x, e1, k1⟩ := h1 ρ r
  obtain ⟨y, e2, k2⟩ := h2 ρ r
  obtain ⟨r, e3, k3⟩ := h x k1
  refine ⟨r, ?_, k3⟩
  unfold eDGet
  rw [e1, e2]
  simp only [Option.bind_some, k2.d, e3]
theorem g_KTI {m : List ((Int × Int) × α)} {k : Int × Int} (hi : ∀ y, imm (e y) = true) : ∀ x : Rv, ROk x (dKT e m) l a v → ∃ r, getAt x (dT2 dI dI k) = some r ∧ ROk r (dO e (aget m k)) .full false false := fun x h => by
  have hg : getAt x (dT2 dI dI k) = some (match (aget m k).map e with
    | some d => Ev.part x d
    | none => rA .non) := by
    unfold getAt
    rw [h.d]
    rw [← dlook_KT]
    rfl
  refine ⟨_, hg, ?_⟩
  cases aget m k with
  | none => exact .i _
  | some y => exact part_okI (hi y)
theorem imm_opt (h : ∀ x, imm (e x) = true) (o : Option α) : imm (dO e o) = true := by
  cases o with
  | none => rfl
  | some x => exact h x
end
end Tg
set_option Elab.async false
set_option linter.all false
set_option maxRecDepth 100000
namespace Tg
open PySem PySem.Spec L2 Ev
open PyProof.Rows hiding St
mutual
def tgC : Tg → D → Bool → CS → Option CS
  | .nm i, d, al, cs => if i < cs.length then some (put cs i ⟨d, .s, al⟩) else none
  | .tp ts, .tup ds, al, cs => if ts.length = ds.length then tgsC ts ds al cs else none
  | _, _, _, _ => none
def tgsC : List Tg → List D → Bool → CS → Option CS
  | [], [], _, cs => some cs
  | t :: ts, d :: ds, al, cs => (tgC t d al cs).bind (tgsC ts ds al)
  | _, _, _, _ => none
end
mutual
theorem tgC_ok : ∀ {t : Tg} {d : D} {al al' : Bool} {cs cs' : CS} {ρ : Ev.Env}, tgC t d al cs = some cs' → (al' = true → al = true) → Rel ρ cs → ∃ ρ', tgSet t d al' ρ = some ρ' ∧ Rel ρ' cs'
  | .nm i, d, al, al', cs, cs', ρ, h, ha, r => by
    simp only [tgC] at h
    split at h
    · rename_i hi
      cases h
      refine ⟨ρ.set i (some ⟨d, if imm d = true then .full else .shr, al', none⟩), ?_, r.put ⟨rfl, fun z => ?_, fun _ => ha⟩⟩
      · simp only [tgSet]
        rw [if_pos (by rw [r.len]; exact hi)]
      · simp only [z]
        rfl
    · cases h
  | .tp ts, d, al, al', cs, cs', ρ, h, ha, r => by
    cases d with
    | tup ds =>
      simp only [tgC] at h
      split at h
      · rename_i hl
        obtain ⟨ρ', e, r'⟩ := tgsC_ok h ha r
        exact ⟨ρ', by simp only [tgSet]; rw [if_pos hl]; exact e, r'⟩
      · cases h
    | _ => simp only [tgC] at h; cases h
theorem tgsC_ok : ∀ {ts : List Tg} {ds : List D} {al al' : Bool} {cs cs' : CS} {ρ : Ev.Env}, tgsC ts ds al cs = some cs' → (al' = true → al = true) → Rel ρ cs → ∃ ρ', tgsSet ts ds al' ρ = some ρ' ∧ Rel ρ' cs'
  | [], [], al, al', cs, cs', ρ, h, ha, r => by
    simp only [tgsC] at h
    cases h
    exact ⟨ρ, by simp only [tgsSet], r⟩
  | t :: ts, d :: ds, al, al', cs, cs', ρ, h, ha, r => by
    simp only [tgsC] at h
    obtain ⟨c1, h1, h2⟩ := bind_some h
    obtain ⟨ρ1, e1, r1⟩ := tgC_ok h1 ha r
    obtain ⟨ρ2, e2, r2⟩ := tgsC_ok h2 ha r1
    exact ⟨ρ2, by simp only [tgsSet]; rw [e1]; exact e2, r2⟩
  | [], _ :: _, al, al', cs, cs', ρ, h, ha, r => by simp only [tgsC] at h; cases h
  | _ :: _, [], al, al', cs, cs', ρ, h, ha, r => by simp only [tgsC] at h; cases h
end
def drop1 : CS → Nat → CS
  | [], _ => []
  | _ :: cs, 0 => none :: cs
  | x :: cs, i + 1 => x :: drop1 cs i
theorem drop1_set : ∀ (cs : CS) (i : Nat), drop1 cs i = cs.set i none
  | [], _ => rfl
  | _ :: cs, 0 => rfl
  | x :: cs, i + 1 => by show x :: drop1 cs i = _; rw [drop1_set cs i]; rfl
theorem Rel.drop1 {ρ : Ev.Env} {cs : CS} (r : Rel ρ cs) (i : Nat) : Rel (ρ.set i none) (drop1 cs i) where
  len := by rw [drop1_set, List.length_set, List.length_set, r.len]
  at_ := fun j c e => by
    rw [drop1_set, List.getElem?_set] at e
    rw [List.getElem?_set]
    by_cases q : i = j
    · subst q
      rw [if_pos rfl] at e
      split at e <;> cases e
    · rw [if_neg q] at e
      rw [if_neg q]
      exact r.at_ j c e
def wipeC : List Nat → CS → CS
  | [], cs => cs
  | i :: is, cs => drop1 (wipeC is cs) i
theorem Rel.wipe : ∀ (is : List Nat) {ρ : Ev.Env} {cs : CS}, Rel ρ cs → Rel (wipeE is ρ) (wipeC is cs)
  | [], _, _, r => r
  | i :: is, _, _, r => (Rel.wipe is r).drop1 i
section
variable {cs : CS} {f g : EvE} {ga : EvA} {t t2 : EvT} {i j : Int} {d d2 : D} {l l2 : Lv} {a a2 v v2 : Bool} {α β γ δ ε : Type} {e : α → D} {e2 : β → D}
theorem jit_l {xs : List α} (h : JE cs f (dL e xs) l a false) : JIt cs (iLst f) xs e a := fun ρ r => by
  obtain ⟨x, e1, k⟩ := h ρ r
  refine ⟨x.al, k.al, ?_⟩
  have hv : x.vw = false := by
    cases q : x.vw with
    | false => rfl
    | true => exact nomatch k.vw q
  unfold iLst
  rw [e1]
  simp only [Option.bind_some, hv, k.d, List.map_map]
  rfl
theorem rngO_some {i j : Int} {xs : List Int} (h : rngO i j = some xs) : (-(2 ^ 62) ≤ i ∧ i < 2 ^ 62 ∧ -(2 ^ 62) ≤ j ∧ j < 2 ^ 62) ∧ xs = (List.range (j - i).toNat).map fun (k : Nat) => i + (k : Int) := by
  unfold rngO at h
  split at h
  · cases h; exact ⟨‹_›, rfl⟩
  · cases h
theorem jit_r1 {xs : List Int} {j : Int} (h : JE cs f (.int j) l a v) (hx : rngO 0 j = some xs) : JIt cs (iRange (aCons f aNil)) xs dI false := fun ρ r => by
  obtain ⟨x, e1, k⟩ := h ρ r
  obtain ⟨hc, rfl⟩ := rngO_some hx
  refine ⟨false, fun z => z, ?_⟩
  unfold iRange aCons aNil
  simp only [e1, Option.bind_some, List.map_cons, List.map_nil, k.d]
  rw [if_pos ⟨hc.2.2.1, hc.2.2.2⟩]
  simp [iRng]
theorem lc_ok {tg : Tg} {c : EvT} {el : EvE} {p : α → Option Bool} {F : α → Option β} {B : α → CS} {cs0 : CS} (ht : ∀ x, tgC tg (e x) a cs0 = some (B x)) (hc : ∀ x, JTo (B x) c (p x)) (he : ∀ x, JEo (B x) el e2 (F x) l a2 false) {ρ : Ev.Env} (r : Rel ρ cs0) {a' : Bool} (ha : a' = true → a = true) :
    ∀ {xs : List α} {ys : List β}, lcM xs p F = some ys → ∃ rs, lcL tg c el ρ (xs.map fun x => (e x, a')) = some rs ∧ AOk rs (ys.map e2) (isFull l) a2 false ∧ rs.length = ys.length
  | [], ys, h => by
    cases h
    exact ⟨[], rfl, ⟨rfl, fun _ _ h => (nomatch h), fun _ h => (nomatch h), fun _ h => (nomatch h)⟩, rfl⟩
  | x :: xs, ys, h => by
    unfold lcM at h
    obtain ⟨k, e1, h⟩ := bindO_some h
    obtain ⟨ρ1, e3, r1⟩ := tgC_ok (ht x) ha r
    rw [List.map_cons]
    unfold lcL
    rw [e3]
    simp only [Option.bind_some, hc x k e1 ρ1 r1]
    cases k with
    | false =>
      obtain ⟨rs, h1, h2, h3⟩ := lc_ok ht hc he r ha (xs := xs) (ys := ys) h
      exact ⟨rs, h1, h2, h3⟩
    | true =>
      rw [if_pos rfl] at h
      obtain ⟨y, e4, h⟩ := bindO_some h
      obtain ⟨zs, e5, h⟩ := Option.map_eq_some_iff.mp h
      subst h
      obtain ⟨rs, h1, h2, h3⟩ := lc_ok ht hc he r ha (xs := xs) (ys := zs) e5
      obtain ⟨r0, e6, k0⟩ := he x y e4 ρ1 r1
      have hv : r0.vw = false := by
        cases q : r0.vw with
        | false => rfl
        | true => exact nomatch k0.vw q
      refine ⟨r0 :: rs, ?_, ⟨?_, ?_, ?_, ?_⟩, by simp [h3]⟩
      · simp only [if_true, e6, Option.bind_some, hv, h1]
        rfl
      · rw [List.map_cons, k0.d, h2.d]; rfl
      · intro z y hy
        rcases List.mem_cons.mp hy with rfl | hy
        · have hl : l = .full := by cases l <;> first | rfl | (cases z; done)
          subst hl
          exact leL_full k0.l
        · exact h2.fl z y hy
      · intro y hy z
        rcases List.mem_cons.mp hy with rfl | hy
        · exact k0.al z
        · exact h2.al y hy z
      · intro y hy z
        rcases List.mem_cons.mp hy with rfl | hy
        · exact k0.vw z
        · exact h2.vw y hy z
theorem big_some {xs ys : List α} (h : big xs = some ys) : xs.length ≤ 1000000 ∧ ys = xs := by
  unfold big at h
  split at h
  · cases h; exact ⟨‹_›, rfl⟩
  · cases h
theorem je_lcM {it : EvI} {vs : List Nat} {tg : Tg} {c : EvT} {el : EvE} {p : α → Option Bool} {F : α → Option β} {B : α → CS} {xs : List α} {ys : List β} (hit : JIt cs it xs e a) (ht : ∀ x, tgC tg (e x) a (wipeC vs cs) = some (B x)) (hc : ∀ x, JTo (B x) c (p x)) (he : ∀ x, JEo (B x) el e2 (F x) l a2 false) (h : bindO (lcM xs p F) big = some ys) : JE cs (eLc it vs tg c el) (dL e2 ys) (if isFull l = true then .full else .top) a2 false := fun ρ r => by
  obtain ⟨a', ha, e1⟩ := hit ρ r
  obtain ⟨zs, e3, e4⟩ := bindO_some h
  obtain ⟨hl, rfl⟩ := big_some e4
  obtain ⟨rs, h1, h2, h3⟩ := lc_ok ht hc he (r.wipe vs) ha e3
  unfold eLc
  rw [e1]
  simp only [Option.bind_some, h1]
  unfold mkBig
  rw [if_pos (by rw [h3]; exact hl)]
  by_cases q : isFull l = true
  · rw [if_pos q]
    rw [q] at h2
    rw [if_pos h2.allfull]
    exact ⟨_, rfl, by rw [h2.d], rfl, h2.anyal, fun h => (nomatch h)⟩
  · rw [if_neg q]
    split
    · exact ⟨_, rfl, by rw [h2.d], rfl, h2.anyal, fun h => (nomatch h)⟩
    · exact ⟨_, rfl, by rw [h2.d], rfl, h2.anyal, fun h => (nomatch h)⟩
theorem lcM_m {F : α → β} : ∀ xs : List α, lcM xs (fun _ => some true) (fun x => some (F x)) = some (xs.map F)
  | [] => rfl
  | x :: xs => by
    unfold lcM
    rw [lcM_m xs]
    simp [bindO]
theorem je_lcQ {it : EvI} {vs : List Nat} {tg : Tg} {el : EvE} {F : α → β} {B : α → CS} {xs : List α} {ys : List β} (hit : JIt cs it xs e a) (ht : ∀ x, tgC tg (e x) a (wipeC vs cs) = some (B x)) (he : ∀ x, JE (B x) el (e2 (F x)) l a2 false) (h : big (xs.map F) = some ys) : JE cs (eLc it vs tg tYes el) (dL e2 ys) (if isFull l = true then .full else .top) a2 false :=
  je_lcM (p := fun x => some true) (F := fun x => some (F x)) hit ht (fun x => jto_p (fun _ _ => rfl)) (fun x => jeo_p (he x)) (by rw [lcM_m]; exact h)
theorem jt_yes : JT cs tYes true := fun _ _ => rfl
end
section
variable {cs : CS} {f g : EvE} {ga : EvA} {t : EvT} {b b1 b2 b3 : EvS} {i : Nat} {d : D} {l l2 : Lv} {a a2 v v2 : Bool} {α β σ R T : Type} {e : α → D} {Ψ : T → Out → Prop} {o o1 o2 : Option T} {fz z : List Nat}
theorem js_last (h : JS cs (sSeq b sNil) o Ψ) : JS cs b o Ψ := fun ρ r t ht => by
  obtain ⟨out, e1, q⟩ := h ρ r t ht
  refine ⟨out, ?_, q⟩
  unfold sSeq sNil at e1
  obtain ⟨o', e2, e3⟩ := bind_some e1
  rw [e2]
  cases o' <;> exact e3
theorem js_nil (h : JS cs b o Ψ) : JS cs (sSeq sNil b) o Ψ := h
theorem js_bind {k : α → Option T} {x : Option α} (h : ∀ y, x = some y → JS cs b (k y) Ψ) : JS cs b (bindO x k) Ψ := fun ρ r t ht => by
  obtain ⟨y, e1, e2⟩ := bindO_some ht
  exact h y e1 ρ r t e2
def mdOf : Lv → Md
  | .full => .f
  | .top => .t
  | .shr => .a
theorem mdOf_ok {l : Lv} {x : Sv} (h : leL l x.l = true) : (mdOf l).ok x := by
  obtain ⟨d, l', a, p⟩ := x
  cases l <;> cases l' <;> first | trivial | (cases h; done) | (show Lv.full = Lv.full; rfl) | (intro z; cases z)
theorem js_set {k : α → Option T} {x : α} (he : JE (fzsC fz cs) f (e x) l a false) (hi : decide (i < (fzsC fz cs).length) = true) (h : ∀ x, JS (put (fzsC fz cs) i ⟨e x, mdOf l, a⟩) b (k x) Ψ) : JS cs (sSeq (sSet fz i f) b) (letB x k) Ψ := fun ρ r t ht => by
  have r1 := r.fzs fz
  obtain ⟨y, e1, k1⟩ := he _ r1
  have hv : y.vw = false := by
    cases q : y.vw with
    | false => rfl
    | true => exact nomatch k1.vw q
  obtain ⟨out, e2, q⟩ := h x _ (r1.put (i := i) (s := ⟨y.d, y.l, y.al, none⟩) ⟨k1.d, fun _ => mdOf_ok k1.l, fun _ => k1.al⟩) t ht
  refine ⟨out, ?_, q⟩
  unfold sSeq sSet
  simp only [e1, Option.bind_some, hv]
  rw [if_pos (by rw [r1.len, hi]; rfl)]
  exact e2
theorem js_fz (h : JS (fzsC z cs) (sSeq b1 b) o Ψ) : JS cs (sSeq (sFz z b1) b) o Ψ := fun ρ r t ht => h _ (r.fzs z) t ht
theorem js_if {c : Bool} (hc : JT cs t c) (h1 : JS cs (sSeq b1 b) o1 Ψ) (h2 : JS cs (sSeq b2 b) o2 Ψ) : JS cs (sSeq (sIf t b1 b2) b) (if c = true then o1 else o2) Ψ := fun ρ r t' ht => by
  have e1 := hc ρ r
  unfold sSeq sIf
  rw [e1]
  simp only [Option.bind_some]
  cases c with
  | true => exact h1 ρ r t' ht
  | false => exact h2 ρ r t' ht
theorem js_ifJ {c : Bool} {C : σ → CS} {s1 s2 : Option σ} {k : σ → Option T} (hc : JT cs t c) (h1 : JS cs b1 s1 (ΨJ C)) (h2 : JS cs b2 s2 (ΨJ C)) (h : ∀ s, JS (C s) b (k s) Ψ) : JS cs (sSeq (sIf t b1 b2) b) (bindO (if c = true then s1 else s2) k) Ψ := fun ρ r t' ht => by
  obtain ⟨s, e1, e2⟩ := bindO_some ht
  have e3 := hc ρ r
  have : ∃ out, (sIf t b1 b2) ρ = some out ∧ ΨJ C s out := by
    unfold sIf
    rw [e3]
    simp only [Option.bind_some]
    cases c with
    | true => exact h1 ρ r s e1
    | false => exact h2 ρ r s e1
  obtain ⟨out, e4, q⟩ := this
  cases out with
  | nx ρ' =>
    obtain ⟨out2, e5, q2⟩ := h s ρ' q t' e2
    refine ⟨out2, ?_, q2⟩
    unfold sSeq
    rw [e4]
    exact e5
  | _ => exact q.elim
theorem js_endJ {C : σ → CS} {s : σ} (h : Le cs (C s)) : JS cs sNil (some s) (ΨJ C) := fun ρ r t ht => by
  cases ht
  exact ⟨_, rfl, h.rel r⟩
theorem js_endL {C : σ → CS} {s : σ} (h : Le cs (C s)) : JS cs sNil (some s) (ΨL C) := fun ρ r t ht => by
  cases ht
  exact ⟨_, rfl, h.rel r⟩
theorem js_endC {C : σ → CS} {s : σ} {er : R → D} {lr : Lv} {ra : Bool} (h : Le cs (C s)) : JS cs sNil (some (.nx s)) (ΨC C er lr ra P) := fun ρ r t ht => by
  cases ht
  exact ⟨_, rfl, h.rel r⟩
def RetOk (Ψ : T → Out → Prop) (q : R → T) (er : R → D) (lr : Lv) (ra : Bool) (P : R → Ev.Env → Prop := fun _ _ => True) : Prop := ∀ ρ r l a, leL lr l = true → (a = true → ra = true) → P r ρ → Ψ (q r) (.rt ρ (er r) l a)
theorem ret_R {er : R → D} {lr : Lv} {ra : Bool} {P : R → Ev.Env → Prop} : RetOk (ΨR er lr ra P) (fun r => r) er lr ra P := fun ρ r l a h h2 h3 => ⟨rfl, h, h2, h3⟩
theorem ret_C {C : σ → CS} {er : R → D} {lr : Lv} {ra : Bool} {P : R → Ev.Env → Prop} : RetOk (ΨC C er lr ra P) (fun r => Ctl.rt r) er lr ra P := fun ρ r l a h h2 h3 => ⟨rfl, h, h2, h3⟩
theorem js_ret {q : R → T} {er : R → D} {lr : Lv} {ra : Bool} {x : R} {P : R → Ev.Env → Prop} (hr : RetOk Ψ q er lr ra P) (he : JE cs f (er x) l a v) (hl : leL lr l = true := by rfl) (ha : (!a || ra) = true := by rfl) (hP : ∀ ρ, Rel ρ cs → P x ρ ∧ (v = true → P x (wipeA ρ)) := by exact fun _ _ => ⟨trivial, fun _ => trivial⟩) : JS cs (sSeq (sRet f) b) (some (q x)) Ψ := fun ρ r t ht => by
  cases ht
  obtain ⟨y, e1, k1⟩ := he _ r
  refine ⟨.rt (if y.vw = true then wipeA ρ else ρ) y.d y.l y.al, ?_, ?_⟩
  · unfold sSeq sRet
    simp only [e1, Option.bind_some]
  · rw [k1.d]
    refine hr _ x _ _ (leL_trans hl k1.l) (fun z => by have := k1.al z; subst this; simpa using ha) ?_
    by_cases hv : y.vw = true
    · rw [if_pos hv]; exact (hP ρ r).2 (k1.vw hv)
    · rw [if_neg hv]; exact (hP ρ r).1
theorem js_retV {q : R → T} {er : R → D} {lr : Lv} {ra : Bool} {x : R} {m : Md} {P : R → Ev.Env → Prop} (hr : RetOk Ψ q er lr ra P) (h : nthC cs i = some ⟨er x, m, a⟩) (hm : (∀ s, m.ok s → leL lr s.l = true)) (ha : (!a || ra) = true := by rfl) (hlr : leL lr .full = true := by rfl) (hP : ∀ ρ, Rel ρ cs → P x ρ ∧ P x (ρ.set i none) := by exact fun _ _ => ⟨trivial, trivial⟩) : JS cs (sSeq (sRetV i) b) (some (q x)) Ψ := fun ρ r t ht => by
  cases ht
  obtain ⟨s, e1, k⟩ := r.nthC h
  by_cases hi : imm s.d = true
  · refine ⟨.rt ρ s.d .full false, ?_, ?_⟩
    · unfold sSeq sRetV
      rw [e1]
      simp only [Option.bind_some, hi, if_true]
    · rw [k.d]
      exact hr _ x _ _ hlr (fun z => nomatch z) (hP ρ r).1
  · have hi' : imm (er x) = false := by rw [← show s.d = er x from k.d]; simpa using hi
    refine ⟨.rt (ρ.set i none) s.d s.l s.al, ?_, ?_⟩
    · unfold sSeq sRetV
      rw [e1]
      simp only [hi]
      rfl
    · rw [k.d]
      exact hr _ x _ _ (hm _ (k.m hi')) (fun z => by have := k.al hi' z; simp only at this; subst this; simpa using ha) (hP ρ r).2
theorem md_f : ∀ s, Md.f.ok s → leL .full s.l = true := fun s h => by rw [show s.l = .full from h]; rfl
theorem js_for {C : σ → CS} {it : EvI} {tg : Tg} {body : EvS} {xs : List α} {s0 : σ} {F : α → σ → Option σ} {B : α → σ → CS} {k : σ → Option T} (hit : JIt (fzsC fz cs) it xs e a) (h0 : Le (fzsC fz cs) (C s0)) (ht : ∀ x s, tgC tg (e x) a (C s) = some (B x s)) (hb : ∀ x s, JS (B x s) body (F x s) (ΨL C)) (h : ∀ s, JS (C s) b (k s) Ψ) : JS cs (sSeq (sFor fz it tg body) b) (bindO (forS xs s0 F) k) Ψ := fun ρ r t hh => by
  have r1 := r.fzs fz
  obtain ⟨a', ha, e1⟩ := hit _ r1
  obtain ⟨s', e2, e3⟩ := bindO_some hh
  have go : ∀ (xs : List α) (s : σ) (ρ : Ev.Env), Rel ρ (C s) → ∀ s', forS xs s F = some s' → ∃ ρ', forL tg body (xs.map fun x => (e x, a')) ρ = some (.nx ρ') ∧ Rel ρ' (C s') := by
    intro xs
    induction xs with
    | nil => intro s ρ r s' h; cases h; exact ⟨ρ, rfl, r⟩
    | cons x xs ih =>
      intro s ρ r s' h
      unfold forS at h
      obtain ⟨s1, g1, g2⟩ := bindO_some h
      obtain ⟨ρ1, g3, r3⟩ := tgC_ok (ht x s) ha r
      obtain ⟨out, g4, q4⟩ := hb x s ρ1 r3 s1 g1
      rw [List.map_cons]
      unfold forL
      rw [g3]
      simp only [Option.bind_some, g4]
      cases out with
      | nx ρ2 => exact ih s1 ρ2 q4 s' g2
      | ct ρ2 => exact ih s1 ρ2 q4 s' g2
      | bk ρ2 => exact q4.elim
      | rt ρ2 d l a' => exact q4.elim
  obtain ⟨ρ', g1, r2⟩ := go xs s0 _ (h0.rel r1) s' e2
  obtain ⟨out, e5, q⟩ := h s' ρ' r2 t e3
  refine ⟨out, ?_, q⟩
  unfold sSeq sFor
  rw [e1]
  simp only [Option.bind_some, g1]
  exact e5
theorem js_forC {C : σ → CS} {it : EvI} {tg : Tg} {body : EvS} {xs : List α} {s0 : σ} {F : α → σ → Option (Ctl σ R)} {B : α → σ → CS} {k : σ → Option T} {q : R → T} {er : R → D} {lr : Lv} {ra : Bool} {P : R → Ev.Env → Prop} (hr : RetOk Ψ q er lr ra P) (hit : JIt (fzsC fz cs) it xs e a) (h0 : Le (fzsC fz cs) (C s0)) (ht : ∀ x s, tgC tg (e x) a (C s) = some (B x s)) (hb : ∀ x s, JS (B x s) body (F x s) (ΨC C er lr ra P)) (h : ∀ s, JS (C s) b (k s) Ψ) : JS cs (sSeq (sFor fz it tg body) b) (onS (forC xs s0 F) k q) Ψ := fun ρ r t hh => by
  have r1 := r.fzs fz
  obtain ⟨a', ha, e1⟩ := hit _ r1
  unfold onS at hh
  obtain ⟨c', e2, e3⟩ := bindO_some hh
  have go : ∀ (xs : List α) (s : σ) (ρ : Ev.Env), Rel ρ (C s) → ∀ c', forC xs s F = some c' → ∃ out, forL tg body (xs.map fun x => (e x, a')) ρ = some out ∧ (match c', out with
      | .inl s', .nx ρ' => Rel ρ' (C s')
      | .inr r, .rt ρ d l a' => d = er r ∧ leL lr l = true ∧ (a' = true → ra = true) ∧ P r ρ
      | _, _ => False) := by
    intro xs
    induction xs with
    | nil => intro s ρ r s' h; cases h; exact ⟨.nx ρ, rfl, r⟩
    | cons x xs ih =>
      intro s ρ r s' h
      unfold forC at h
      obtain ⟨s1, g1, g2⟩ := bindO_some h
      obtain ⟨ρ1, g3, r3⟩ := tgC_ok (ht x s) ha r
      obtain ⟨out, g4, q4⟩ := hb x s ρ1 r3 s1 g1
      rw [List.map_cons]
      unfold forL
      rw [g3]
      simp only [Option.bind_some, g4]
      cases s1 with
      | nx s1 => cases out with
        | nx ρ2 => exact ih s1 ρ2 q4 s' g2
        | ct ρ2 => exact ih s1 ρ2 q4 s' g2
        | bk ρ2 => exact q4.elim
        | rt ρ2 d l a' => exact q4.elim
      | bk s1 => cases out with
        | bk ρ2 => cases g2; exact ⟨.nx ρ2, rfl, q4⟩
        | nx ρ2 => exact q4.elim
        | ct ρ2 => exact q4.elim
        | rt ρ2 d l a' => exact q4.elim
      | rt r1 => cases out with
        | rt ρ2 d l a' => cases g2; exact ⟨.rt ρ2 d l a', rfl, q4⟩
        | nx ρ2 => exact q4.elim
        | ct ρ2 => exact q4.elim
        | bk ρ2 => exact q4.elim
  obtain ⟨out, g1, r2⟩ := go xs s0 _ (h0.rel r1) c' e2
  unfold sSeq sFor
  rw [e1]
  simp only [Option.bind_some, g1]
  cases c' with
  | inl s' => cases out with
    | nx ρ' => exact h s' ρ' r2 t e3
    | _ => exact r2.elim
  | inr r1 => cases out with
    | rt ρ2 d l a' =>
      cases e3
      refine ⟨_, rfl, ?_⟩
      rw [r2.1]
      exact hr _ _ _ _ r2.2.1 r2.2.2.1 r2.2.2.2
    | _ => exact r2.elim
theorem js_while {C : σ → CS} {tc : EvT} {body : EvS} {s0 : σ} {c : σ → Option Bool} {F : σ → Option σ} {k : σ → Option T} (h0 : Le cs (C s0)) (hc : ∀ s, JTo (C s) tc (c s)) (hb : ∀ s, JS (C s) body (F s) (ΨL C)) (h : ∀ s, JS (C s) b (k s) Ψ) : JS cs (sSeq (sWhile tc body) b) (bindO (whS fuel s0 c F) k) Ψ := fun ρ r t hh => by
  obtain ⟨s', e2, e3⟩ := bindO_some hh
  have go : ∀ (n : Nat) (s : σ) (ρ : Ev.Env), Rel ρ (C s) → ∀ s', whS n s c F = some s' → ∃ ρ', whL tc body n ρ = some (.nx ρ') ∧ Rel ρ' (C s') := by
    intro n
    induction n with
    | zero => intro s ρ r s' h; cases h
    | succ n ih =>
      intro s ρ r s' h
      unfold whS at h
      obtain ⟨kb, g1, g2⟩ := bindO_some h
      unfold whL
      rw [hc s kb g1 ρ r]
      simp only [Option.bind_some]
      cases kb with
      | false => cases g2; exact ⟨ρ, rfl, r⟩
      | true =>
        rw [if_pos rfl] at g2 ⊢
        obtain ⟨s1, g3, g4⟩ := bindO_some g2
        obtain ⟨out, g5, q4⟩ := hb s ρ r s1 g3
        rw [g5]
        simp only [Option.bind_some]
        cases out with
        | nx ρ2 => exact ih s1 ρ2 q4 s' g4
        | ct ρ2 => exact ih s1 ρ2 q4 s' g4
        | bk ρ2 => exact q4.elim
        | rt ρ2 d l a' => exact q4.elim
  obtain ⟨ρ', g1, r2⟩ := go fuel s0 ρ (h0.rel r) s' e2
  obtain ⟨out, e5, q⟩ := h s' ρ' r2 t e3
  refine ⟨out, ?_, q⟩
  unfold sSeq sWhile
  rw [g1]
  exact e5
theorem appO_some {xs ys : List α} {x : α} (h : appO xs x = some ys) : xs.length ≤ 1000000 ∧ ys = xs ++ [x] := by
  unfold appO at h
  split at h
  · cases h; exact ⟨‹_›, rfl⟩
  · cases h
def keepM : Md → Lv → Md
  | .f, .full => .f
  | .p k, .full => .p k
  | _, _ => .t
theorem keepM_ok {m : Md} {l l2 : Lv} {x y : Sv} (hm : m.ok x) (hl : leL l l2 = true) (hy : y.l = keepLv x.l l2) (hp : y.pn = x.pn) : (keepM m l).ok y := by
  unfold keepLv at hy
  have ht : y.l ≠ .shr := by rw [hy]; split <;> decide
  cases m <;> cases l <;> first
    | exact ht
    | (show y.l = .full; rw [hy, show x.l = .full from hm, leL_full hl]; rfl)
    | (refine ⟨?_, by rw [hp]; exact hm.2⟩; rw [hy, hm.1, leL_full hl]; rfl)
def ownM : Md → Bool
  | .t => true
  | .f => true
  | .p _ => true
  | _ => false
theorem ownM_ok {m : Md} {x : Sv} (h : ownM m = true) (k : m.ok x) : x.l ≠ .shr := by
  cases m <;> first | exact absurd h (by decide) | exact k | (intro z; rw [show x.l = .full from k] at z; cases z) | (intro z; rw [k.1] at z; cases z)
theorem js_app {xs : List α} {x : α} {m : Md} {k : List α → Option T} (hn : nthC (fzsC fz cs) i = some ⟨dL e xs, m, a⟩) (he : JE (fzsC fz cs) f (e x) l a2 false) (hm : ownM m = true) (h : ∀ ys, JS (put (fzsC fz cs) i ⟨dL e ys, keepM m l, a || a2⟩) b (k ys) Ψ) : JS cs (sSeq (sLop oApp fz i (aCons f aNil)) b) (bindO (appO xs x) k) Ψ := fun ρ r t ht => by
  have r1 := r.fzs fz
  obtain ⟨s, e1, k1⟩ := r1.nthC hn
  obtain ⟨y, e2, k2⟩ := he _ r1
  obtain ⟨zs, e3, e4⟩ := bindO_some ht
  obtain ⟨hl, rfl⟩ := appO_some e3
  have hv : y.vw = false := by
    cases q : y.vw with
    | false => rfl
    | true => exact nomatch k2.vw q
  have hml := k1.m rfl
  have hne := ownM_ok hm hml
  have hd : s.d = .lst (xs.map e) := k1.d
  have hs : Cl.ok ⟨dL e (xs ++ [x]), keepM m l, a || a2⟩ ⟨.lst (xs.map e ++ [y.d]), keepLv s.l (if [y].all (fun r => !r.vw && decide (r.l = .full)) = true then .full else .top), s.al || [y].any (·.al), s.pn⟩ := by
    refine ⟨by simp [k2.d], fun _ => ?_, fun _ z => ?_⟩
    · have e5 : [y].all (fun r => !r.vw && decide (r.l = .full)) = decide (y.l = .full) := by simp [hv]
      rw [e5]
      refine keepM_ok (l2 := if decide (y.l = .full) = true then .full else .top) hml ?_ rfl rfl
      cases l with
      | full => rw [leL_full k2.l]; rfl
      | top => split <;> rfl
      | shr => exact leL_shr _
    · rcases Bool.or_eq_true _ _ ▸ z with z | z
      · have := k1.al rfl z
        simp only at this
        rw [this]; rfl
      · have : a2 = true := k2.al (by simpa using z)
        rw [this]
        cases a <;> rfl
  obtain ⟨out, e6, q⟩ := h _ _ (r1.put (i := i) hs) t e4
  refine ⟨out, ?_, q⟩
  have : sLop oApp fz i (aCons f aNil) ρ = some (.nx ((frzs fz ρ).set i (some ⟨.lst (xs.map e ++ [y.d]), keepLv s.l (if [y].all (fun r => !r.vw && decide (r.l = .full)) = true then .full else .top), s.al || [y].any (·.al), s.pn⟩))) := by
    unfold sLop
    rw [e1]
    simp only [hd]
    rw [if_neg (by simp [hne]; omega)]
    unfold aCons aNil
    simp only [e2, Option.bind_some]
    rw [if_pos (by simp [hv])]
    rfl
  unfold sSeq
  rw [this]
  exact e6
theorem rel_entry : ∀ (n : Nat) (ds : List D), ds.length ≤ n → Rel (entry n ds) (ds.map (fun d => some ⟨d, .s, true⟩) ++ List.replicate (n - ds.length) none) := fun n ds h => by
  refine ⟨by simp [entry], fun i c e => ?_⟩
  unfold entry
  rw [List.getElem?_append] at e ⊢
  simp only [List.length_map] at e ⊢
  split at e
  · rename_i hi
    rw [if_pos hi]
    rw [List.getElem?_map] at e ⊢
    cases q : ds[i]? with
    | none => rw [q] at e; simp at e
    | some d =>
      rw [q] at e
      simp at e
      subst e
      exact ⟨_, rfl, rfl, fun _ => rfl, fun _ => id⟩
  · rw [List.getElem?_replicate] at e
    split at e <;> simp at e
theorem fn_ok {body : EvS} {n : Nat} {ds : List D} {o : Option R} {er : R → D} {lr : Lv} {ra : Bool} {x : R} (h : JS (ds.map (fun d => some ⟨d, .s, true⟩) ++ List.replicate (n - ds.length) none) body o (ΨR er lr ra)) (hx : o = some x) (hn : ds.length ≤ n) : RetE (Ev.run body n) ds (er x) lr ra := by
  obtain ⟨out, e1, q⟩ := h _ (rel_entry n ds hn) x hx
  cases out with
  | rt ρ d l a' =>
    refine ⟨l, a', ?_, q.2.1, q.2.2.1⟩
    unfold Ev.run
    rw [e1, ← q.1]
    rfl
  | _ => exact q.elim
end
end Tg
set_option Elab.async false
set_option linter.all false
set_option maxRecDepth 100000
namespace Tg
open PySem PySem.Spec L2 Ev
open PyProof.Rows hiding St
theorem dSet_snoc : ∀ {p : List Nat} {d x : D} {j : Nat} {y : D} (d' : D), dAt d p = some x → (kids x)[j]? = some y → dSet d (p ++ [j]) d' = dSet d p (setKid x j d')
  | [], d, x, j, y, d', h, hj => by
    cases h
    show (match (kids d)[j]? with | some e => setKid d j (dSet e [] d') | none => d) = setKid d j d'
    rw [hj]
    rfl
  | k :: p, d, x, j, y, d', h, hj => by
    unfold dAt at h
    obtain ⟨e, e1, e2⟩ := bind_some h
    show (match (kids d)[k]? with | some e => setKid d k (dSet e (p ++ [j]) d') | none => d) = (match (kids d)[k]? with | some e => setKid d k (dSet e p (setKid x j d')) | none => d)
    rw [e1]
    show setKid d k _ = setKid d k _
    rw [dSet_snoc d' e2 hj]
theorem dAt_snoc : ∀ {p : List Nat} {d x : D} {j : Nat} {y : D}, dAt d p = some x → (kids x)[j]? = some y → dAt d (p ++ [j]) = some y
  | [], d, x, j, y, h, hj => by
    cases h
    show ((kids d)[j]?.bind fun e => dAt e []) = _
    rw [hj]
    rfl
  | k :: p, d, x, j, y, h, hj => by
    unfold dAt at h
    obtain ⟨e, e1, e2⟩ := bind_some h
    show ((kids d)[k]?.bind fun e => dAt e (p ++ [j])) = _
    rw [e1]
    exact dAt_snoc e2 hj
def fullM : Md → Bool
  | .f => true
  | .p _ => true
  | _ => false
theorem fullM_ok {m : Md} {x : Sv} (h : fullM m = true) (k : m.ok x) : x.l = .full := by
  cases m <;> first | exact absurd h (by decide) | exact k | exact k.1
def JP (cs : CS) (fp : EvP) (i : Nat) (m : Md) (d : D) (a : Bool) (upd : D → D) : Prop := fullM m = true ∧ ∀ ρ, Rel ρ cs → ∃ p s, fp ρ = some (i, p, d) ∧ ρ[i]? = some (some s) ∧ m.ok s ∧ (s.al = true → a = true) ∧ dAt s.d p = some d ∧ ∀ d', dSet s.d p d' = upd d'
theorem ok_keep {m : Md} {x y : Sv} (h : fullM m = true) (k : m.ok x) (hl : y.l = .full) (hp : y.pn = x.pn) : m.ok y := by
  cases m <;> first | exact absurd h (by decide) | exact hl | exact ⟨hl, by rw [hp]; exact k.2⟩
section
variable {cs : CS} {f g : EvE} {fp : EvP} {b : EvS} {i : Nat} {mm : Md} {d d2 : D} {l l2 : Lv} {a a2 v v2 : Bool} {α β σ R T : Type} {e : α → D} {Ψ : T → Out → Prop} {upd : D → D} {fz : List Nat}
theorem jp_name (h : nthC cs i = some ⟨d, mm, a⟩) (hm : fullM mm = true := by rfl) (hi : imm d = false := by rfl) : JP cs (pName i) i mm d a (fun x => x) := ⟨hm, fun ρ r => by
  obtain ⟨s, e, k⟩ := r.nthC h
  have ho : mm.ok s := k.m hi
  have hl : s.l = .full := fullM_ok hm ho
  have hd : s.d = d := k.d
  refine ⟨[], s, ?_, e, ho, k.al hi, by rw [← hd]; rfl, fun _ => rfl⟩
  unfold pName
  rw [e]
  simp only [hl, if_true, hd]⟩
theorem jp_fldO {C dx : Addr} {m : Str} {fs : List (Str × D)} {j : Nat} (h : JP cs fp i mm (.obj C dx fs) a upd) (hj : (fs.findIdx? fun q => q.1 == m) = some j) (hd : (fs.map (·.2))[j]? = some d) : JP cs (pFldO C m fp) i mm d a (fun x => upd (.obj C dx (setSnd fs j x))) := ⟨h.1, fun ρ r => by
  obtain ⟨p, s, e1, e2, e3, e4, e5, e6⟩ := h.2 ρ r
  refine ⟨p ++ [j], s, ?_, e2, e3, e4, dAt_snoc e5 hd, fun d' => ?_⟩
  · unfold pFldO
    rw [e1]
    simp only [Option.bind_some, if_true, hj]
    show (((fs.map (·.2))[j]?).map fun e => (i, p ++ [j], e)) = _
    rw [hd]
    rfl
  · rw [dSet_snoc d' e5 hd, e6]
    rfl⟩
def setI {α : Type} (xs : List α) (k : Int) (y : α) : List α := match L2.ixN xs.length k with
  | some j => xs.set j y
  | none => xs
theorem jp_ix {xs : List α} {k : Int} {y : α} (h : JP cs fp i mm (dL e xs) a upd) (hk : JE cs g (.int k) l a2 v) (hy : idx xs k = some y) : JP cs (pIx fp g) i mm (e y) a (fun x => upd (.lst ((xs.map e).set ((L2.ixN xs.length k).getD 0) x))) := ⟨h.1, fun ρ r => by
  obtain ⟨p, s, e1, e2, e3, e4, e5, e6⟩ := h.2 ρ r
  obtain ⟨z, g1, g2⟩ := hk ρ r
  unfold idx atI at hy
  obtain ⟨j, h1, h2⟩ := bind_some hy
  have h3 : (xs.map e)[j]? = some (e y) := by rw [List.getElem?_map, h2]; rfl
  refine ⟨p ++ [j], s, ?_, e2, e3, e4, dAt_snoc e5 h3, fun d' => ?_⟩
  · unfold pIx
    rw [e1, g1]
    simp only [Option.bind_some, g2.d, List.length_map, h1, h3, Option.map_some]
  · rw [dSet_snoc d' e5 h3, e6, h1]
    rfl⟩
theorem upd_ix {xs : List α} {k : Int} {y : α} (hy : (L2.ixN xs.length k).isSome = true) : D.lst ((xs.map e).set ((L2.ixN xs.length k).getD 0) (e y)) = dL e (setI xs k y) := by
  obtain ⟨j, hj⟩ := Option.isSome_iff_exists.mp hy
  unfold setI
  rw [hj]
  show D.lst ((xs.map e).set j (e y)) = D.lst ((xs.set j y).map e)
  rw [List.map_set]
theorem ix_some {xs : List α} {k : Int} {y : α} (h : idx xs k = some y) : (L2.ixN xs.length k).isSome = true := by
  unfold idx atI at h
  obtain ⟨j, h1, h2⟩ := bind_some h
  rw [h1]
  rfl
theorem dput_KT (m : List ((Int × Int) × α)) (k : Int × Int) (y : α) : dput (m.map fun p => (([.inl p.1.1, .inl p.1.2] : List Key), e p.2)) [.inl k.1, .inl k.2] (e y) = (aput m k y).map fun p => ([.inl p.1.1, .inl p.1.2], e p.2) := by
  unfold dput aput
  rw [dhas_KT]
  split
  · rw [List.map_map, List.map_map]
    refine List.map_congr_left fun p _ => ?_
    obtain ⟨⟨x, z⟩, w⟩ := p
    obtain ⟨k1, k2⟩ := k
    simp only [Function.comp]
    by_cases h : x = k1 <;> by_cases h2 : z = k2 <;> simp [h, h2]
  · simp
theorem dput_KI (m : List (Int × α)) (k : Int) (y : α) : dput (m.map fun p => ((.inl p.1 : Key), e p.2)) (.inl k) (e y) = (aput m k y).map fun p => (.inl p.1, e p.2) := by
  unfold dput aput
  rw [dhas_KI]
  split
  · rw [List.map_map, List.map_map]
    refine List.map_congr_left fun p _ => ?_
    simp only [Function.comp]
    by_cases h : p.1 = k <;> simp [h]
  · simp
theorem aputO_some {κ : Type} [DecidableEq κ] {m m' : List (κ × α)} {k : κ} {y : α} (h : aputO m k y = some m') : m.length < 1000000 ∧ m' = aput m k y := by
  unfold aputO at h
  split at h
  · cases h; exact ⟨‹_›, rfl⟩
  · cases h
theorem p_KT {m m' : List ((Int × Int) × α)} {k : Int × Int} {y : α} (h : aputO m k y = some m') : Ev.putAt (dKT e m) (dT2 dI dI k) (e y) = some (dKT e m') := by
  obtain ⟨hl, rfl⟩ := aputO_some h
  show (if (m.map _).length < 1000000 then _ else _) = _
  rw [List.length_map, if_pos hl]
  show some (D.dt (dput _ _ _)) = _
  rw [dput_KT]
theorem p_KI {m m' : List (Int × α)} {k : Int} {y : α} (h : aputO m k y = some m') : Ev.putAt (dKI e m) (.int k) (e y) = some (dKI e m') := by
  obtain ⟨hl, rfl⟩ := aputO_some h
  show (if (m.map _).length < 1000000 then _ else _) = _
  rw [List.length_map, if_pos hl]
  show some (D.dk (dput _ _ _)) = _
  rw [dput_KI]
theorem js_putP {fk fv : EvE} {M : Type} {eM : M → D} {m : M} {o : Option M} {k : M → Option T} {dk dv : D} {W : M → D} (hp : JP (fzsC fz cs) fp i mm (eM m) a upd) (hk : JE (fzsC fz cs) fk dk l a2 v) {l3 : Lv} {a3 v3 : Bool} (hv : JE (fzsC fz cs) fv dv l3 a3 v3) (hi : imm dv = true) (hput : ∀ m', o = some m' → Ev.putAt (eM m) dk dv = some (eM m')) (hu : ∀ m', o = some m' → upd (eM m') = W m') (h : ∀ m', JS (put (fzsC fz cs) i ⟨W m', mm, a⟩) b (k m') Ψ) : JS cs (sSeq (sPutP fz fp fk fv) b) (bindO o k) Ψ := fun ρ r t ht => by
  have r1 := r.fzs fz
  obtain ⟨m', e1, e2⟩ := bindO_some ht
  obtain ⟨p, s, g1, g2, g3, g4, g5, g6⟩ := hp.2 _ r1
  obtain ⟨y, k1, k2⟩ := hk _ r1
  obtain ⟨w, q1, q2⟩ := hv _ r1
  obtain ⟨out, e6, q⟩ := h m' _ (r1.put (i := i) (s := ⟨dSet s.d p (eM m'), .full, s.al || false, s.pn⟩) ⟨by rw [g6, hu m' e1], fun _ => ok_keep hp.1 g3 rfl rfl, fun _ z => g4 (by simpa using z)⟩) t e2
  refine ⟨out, ?_, q⟩
  unfold sSeq sPutP
  simp only [q1, g1, k1, Option.bind_some, q2.d, k2.d, hput m' e1, g2, hi, if_true]
  exact e6
theorem js_appP {fe : EvE} {xs : List α} {x : α} {k : List α → Option T} {W : List α → D} (hp : JP (fzsC fz cs) fp i mm (dL e xs) a upd) (hv : JE (fzsC fz cs) fe (e x) .full a2 false) (hu : ∀ ys, appO xs x = some ys → upd (dL e ys) = W ys) (h : ∀ ys, JS (put (fzsC fz cs) i ⟨W ys, mm, a || a2⟩) b (k ys) Ψ) : JS cs (sSeq (sAppP fz fp fe) b) (bindO (appO xs x) k) Ψ := fun ρ r t ht => by
  have r1 := r.fzs fz
  obtain ⟨ys, e1, e2⟩ := bindO_some ht
  obtain ⟨hl, rfl⟩ := appO_some e1
  obtain ⟨p, s, g1, g2, g3, g4, g5, g6⟩ := hp.2 _ r1
  obtain ⟨w, q1, q2⟩ := hv _ r1
  have hvw : w.vw = false := by
    cases q : w.vw with
    | false => rfl
    | true => exact nomatch q2.vw q
  obtain ⟨out, e6, q⟩ := h _ _ (r1.put (i := i) (s := ⟨dSet s.d p (.lst (xs.map e ++ [w.d])), .full, s.al || w.al, s.pn⟩) ⟨by rw [g6, ← hu _ e1, q2.d]; show upd (D.lst (xs.map e ++ [e x])) = upd (D.lst ((xs ++ [x]).map e)); rw [List.map_append]; rfl, fun _ => ok_keep hp.1 g3 rfl rfl, fun _ z => by
    rcases Bool.or_eq_true _ _ ▸ z with z | z
    · rw [g4 z]; rfl
    · rw [q2.al z]; cases a <;> rfl⟩) t e2
  refine ⟨out, ?_, q⟩
  unfold sSeq sAppP
  simp only [q1, g1, Option.bind_some, g2]
  rw [if_pos ⟨hvw, leL_full q2.l, by simpa using hl⟩]
  exact e6
theorem js_atPO {C dx : Addr} {m : Str} {fe : EvE} {fs : List (Str × D)} {x : α} {k : α → Option T} {W : α → D} (hp : JP (fzsC fz cs) fp i mm (.obj C dx fs) a upd) (hv : JE (fzsC fz cs) fe (e x) .full a2 false) (hl : decide (fs.length < 1000) = true) (hu : ∀ x, upd (.obj C dx (putD m (e x) fs)) = W x) (h : ∀ x, JS (put (fzsC fz cs) i ⟨W x, mm, a || a2⟩) b (k x) Ψ) : JS cs (sSeq (sAtPO C m fz fp fe) b) (letB x k) Ψ := fun ρ r t ht => by
  have r1 := r.fzs fz
  obtain ⟨p, s, g1, g2, g3, g4, g5, g6⟩ := hp.2 _ r1
  obtain ⟨w, q1, q2⟩ := hv _ r1
  have hvw : w.vw = false := by
    cases q : w.vw with
    | false => rfl
    | true => exact nomatch q2.vw q
  obtain ⟨out, e6, q⟩ := h x _ (r1.put (i := i) (s := ⟨dSet s.d p (.obj C dx (putD m w.d fs)), .full, s.al || w.al, s.pn⟩) ⟨by rw [g6, ← hu x, q2.d], fun _ => ok_keep hp.1 g3 rfl rfl, fun _ z => by
    rcases Bool.or_eq_true _ _ ▸ z with z | z
    · rw [g4 z]; rfl
    · rw [q2.al z]; cases a <;> rfl⟩) t ht
  refine ⟨out, ?_, q⟩
  unfold sSeq sAtPO
  simp only [q1, g1, Option.bind_some, g2]
  rw [if_pos ⟨trivial, hvw, leL_full q2.l, of_decide_eq_true hl⟩]
  exact e6
theorem init_run {body : EvS} {n : Nat} {C dx : Addr} {ds : List D} {o : Option R} {x : R} {F : R → List (Str × D)} {cs' : CS} (h : JS (some ⟨.obj C dx [], .f, false⟩ :: (ds.map (fun d => some ⟨d, .s, true⟩) ++ List.replicate (n - 1 - ds.length) none)) body o (ΨJ fun r => some ⟨.obj C dx (F r), .f, false⟩ :: cs')) (hx : o = some x) (hn : ds.length ≤ n - 1) : runNew body n C dx ds = some (F x) := by
  have r0 := rel_entry (n - 1) ds hn
  have r1 : Rel (some ⟨.obj C dx [], .full, false, none⟩ :: entry (n - 1) ds) (some ⟨.obj C dx [], .f, false⟩ :: (ds.map (fun d => some ⟨d, .s, true⟩) ++ List.replicate (n - 1 - ds.length) none)) := ⟨by simp [r0.len], fun i c e => by
    cases i with
    | zero => simp at e; subst e; exact ⟨_, rfl, rfl, fun _ => rfl, fun _ => id⟩
    | succ i => simpa using r0.at_ i c (by simpa using e)⟩
  obtain ⟨out, e1, q⟩ := h _ r1 x hx
  cases out with
  | nx ρ =>
    have q : Rel ρ _ := q
    obtain ⟨s, e2, k⟩ := q.at_ 0 ⟨.obj C dx (F x), .f, false⟩ rfl
    cases ρ with
    | nil => cases e2
    | cons y ρ =>
      have : y = some s := by simpa using e2
      subst this
      obtain ⟨sd, sl, sa, sp⟩ := s
      have h1 : sd = .obj C dx (F x) := k.d
      have h2 : sl = .full := k.m rfl
      have h3 : sa = false := by
        cases q : sa with
        | false => rfl
        | true => exact nomatch k.al rfl q
      subst h1 h2 h3
      unfold runNew
      rw [e1]
      simp
  | _ => exact q.elim
end
end Tg
set_option Elab.async false
set_option linter.all false
set_option maxRecDepth 100000
namespace Tg
open PySem PySem.Spec L2 Ev
open PyProof.Rows hiding St
noncomputable def pick {α : Type} (P : α → Prop) : Option α := open Classical in if h : ∃ x, P x then some h.choose else none
theorem pick_some {α : Type} {P : α → Prop} {x : α} (h : pick P = some x) : P x := by
  unfold pick at h
  split at h
  · rename_i hx
    cases h
    exact hx.choose_spec
  · cases h
theorem pick_ex {α : Type} {P : α → Prop} {x : α} (h : P x) (u : ∀ y, P y → y = x) : pick P = some x := by
  unfold pick
  rw [dif_pos ⟨x, h⟩]
  congr 1
  exact u _ (Exists.choose_spec _)
section
variable {cs : CS} {f : EvE} {b : EvS} {d : D} {l : Lv} {a v : Bool} {α β γ δ T : Type} {e : α → D} {e2 : β → D} {e3 : γ → D} {e4 : δ → D} {Ψ : T → Out → Prop}
theorem jn_some {x : α} (h : JE cs f (e x) l a v) : JE cs f (dO e (some x)) l a v := h
theorem jn_none (e : α → D) (h : JE cs f .non l a v) : JE cs f (dO e none) l a v := h
theorem js_none : JS cs b (none : Option T) Ψ := fun _ _ _ h => nomatch h
theorem jit_lI {xs : List α} (hi : ∀ x, imm (e x) = true) (h : JE cs f (dL e xs) l a v) : JIt cs (iLstV f) xs e false := fun ρ r => by
  obtain ⟨x, e1, k⟩ := h ρ r
  refine ⟨false, id, ?_⟩
  unfold iLstV
  rw [e1]
  simp only [Option.bind_some, k.d, immAll_map hi, if_true, List.map_map]
  rfl
end
end Tg
set_option Elab.async false
set_option linter.all false
set_option maxRecDepth 100000
namespace Tg
open PySem PySem.Spec L2 Ev
open PyProof.Rows hiding St
inductive Hid : CS → CS → Prop
  | nil : Hid [] []
  | no {x : Option Cl} {cs es : CS} : Hid cs es → Hid (x :: cs) (none :: es)
  | so {d : D} {m : Md} {a : Bool} {cs es : CS} : imm d = true → Hid cs es → Hid (some ⟨d, m, a⟩ :: cs) (some ⟨d, .a, true⟩ :: es)
theorem Hid.rel : ∀ {cs es : CS} {ρ : Ev.Env}, Hid cs es → Rel ρ cs → Rel (hideN ρ) es
  | _, _, ρ, .nil, r => by
    have := r.len
    cases ρ with
    | nil => exact ⟨rfl, fun i c e => by simp at e⟩
    | cons x ρ => simp at this
  | _, _, [], .no h, r => by have := r.len; simp at this
  | _, _, [], .so h _, r => by have := r.len; simp at this
  | _, _, x :: ρ, .no (cs := cs) (es := es) h, r => by
    have q : Rel (hideN ρ) es := h.rel ⟨by simpa using r.len, fun i c e => by simpa using r.at_ (i + 1) c (by simpa using e)⟩
    refine ⟨by simpa [hideN] using q.len, fun i c e => ?_⟩
    cases i with
    | zero => simp at e
    | succ i => simpa [hideN] using q.at_ i c (by simpa using e)
  | _, _, x :: ρ, .so (d := d) (m := m) (a := a) (cs := cs) (es := es) hi h, r => by
    have q : Rel (hideN ρ) es := h.rel ⟨by simpa using r.len, fun i c e => by simpa using r.at_ (i + 1) c (by simpa using e)⟩
    refine ⟨by simpa [hideN] using q.len, fun i c e => ?_⟩
    cases i with
    | zero =>
      simp at e
      subst e
      obtain ⟨s, e1, k⟩ := r.at_ 0 ⟨d, m, a⟩ (by simp)
      have : x = some s := by simpa using e1
      subst this
      have hd : s.d = d := k.d
      have hx : imm s.d = true := by rw [hd]; exact hi
      refine ⟨⟨s.d, .full, false, none⟩, by simp [hideN, hx], hd, fun z => trivial, fun z _ => rfl⟩
    | succ i => simpa [hideN] using q.at_ i c (by simpa using e)
section
variable {cs cs0 : CS} {fd : Ev.Env → Option D} {l : Lv} {a2 : Bool} {α β : Type} {e : α → D} {e2 : β → D}
theorem rd_fld {i : Nat} {C : Addr} {f : Str} {fs : List (Str × D)} {d : D} {m : Md} {a : Bool} (h : nthC cs i = some ⟨.ins C fs, m, a⟩) (hf : fs.lookup f = some d) : ∀ ρ, Rel ρ cs → rdFld C f i ρ = some d := fun ρ r => by
  obtain ⟨s, e1, k⟩ := r.nthC h
  have hd : s.d = .ins C fs := k.d
  unfold rdFld
  rw [e1]
  simp only [hd, if_true, hf]
theorem lcD_ok {itD : D → Option (List D)} {d : D} {vs : List Nat} {tg : Tg} {c : EvT} {el : EvE} {p : α → Option Bool} {F : α → Option β} {B : α → CS} {xs : List α} {ys : List β} (hd : ∀ ρ, Rel ρ cs → fd ρ = some d) (hit : itD d = some (xs.map e)) (hh : Hid cs cs0) (ht : ∀ x, tgC tg (e x) false (wipeC vs cs0) = some (B x)) (hc : ∀ x, JTo (B x) c (p x)) (he : ∀ x, JEo (B x) el e2 (F x) l a2 false) (h : bindO (lcM xs p F) big = some ys) : JE cs (eLcD itD fd vs tg c el) (dL e2 ys) (if isFull l = true then .full else .top) false false := fun ρ r => by
  obtain ⟨zs, e3, e4⟩ := bindO_some h
  obtain ⟨hl, rfl⟩ := big_some e4
  obtain ⟨rs, h1, h2, h3⟩ := lc_ok (a := false) ht hc he ((hh.rel r).wipe vs) (a' := false) id e3
  have e5 : (xs.map e).map (fun d => (d, false)) = xs.map fun x => (e x, false) := by rw [List.map_map]; rfl
  unfold eLcD
  rw [hd ρ r]
  simp only [Option.bind_some, hit, e5, h1]
  unfold mkBig
  rw [if_pos (by rw [h3]; exact hl)]
  by_cases q : isFull l = true
  · rw [if_pos q]
    rw [q] at h2
    rw [if_pos h2.allfull]
    exact ⟨_, rfl, by rw [h2.d], rfl, fun h => (nomatch h), fun h => (nomatch h)⟩
  · rw [if_neg q]
    split
    · exact ⟨_, rfl, by rw [h2.d], rfl, fun h => (nomatch h), fun h => (nomatch h)⟩
    · exact ⟨_, rfl, by rw [h2.d], rfl, fun h => (nomatch h), fun h => (nomatch h)⟩
theorem it_KT (hi : ∀ x, imm (e x) = true) (m : List ((Int × Int) × α)) : itDT (dKT e m) = some (m.map (dT2 (dT2 dI dI) e)) := by
  show (if immAll _ = true then _ else _) = _
  rw [if_pos (by rw [List.map_map]; exact immAll_map (e := fun p : (Int × Int) × α => e p.2) (fun x => hi x.2) m), List.map_map]
  rfl
end
end Tg
set_option Elab.async false
set_option linter.all false
set_option maxRecDepth 100000
namespace Tg
open PySem PySem.Spec Ev
def kindsO (xs : List Int) : Option Int := if xs.length < 4000 then some ((dedI xs).length : Int) else none
theorem b_lenSet {xs : List Int} {n : Int} (h : kindsO xs = some n) : bLenSet [dL dI xs] = some (.int n, .full) := by
  unfold kindsO at h
  show ((some (xs.map dI)).bind intsOf).bind _ = _
  rw [Option.bind_some]
  have e : ∀ l : List Int, intsOf (l.map dI) = some l := fun l => by
    induction l with
    | nil => rfl
    | cons x l ih => show (some x).bind (fun i => (intsOf (l.map dI)).map (i :: ·)) = _; rw [ih]; rfl
  rw [e, Option.bind_some]
  split at h
  · rename_i q
    cases h
    rw [if_pos q]
  · cases h
end Tg
set_option Elab.async false
set_option linter.all false
set_option maxRecDepth 100000
namespace Tg
open PySem PySem.Spec Ev
section
variable {α β : Type} {e : α → D} {e2 : β → D} {cs : CS} {f g : EvE} {l l2 : Lv} {a a2 v v2 : Bool}
theorem n_t {xs : List D} {n : Nat} (h : xs.length = n) : lenOf (.tup xs) = some n := by rw [← h]; rfl
end
end Tg
set_option Elab.async false
set_option linter.all false
set_option maxRecDepth 100000
namespace Tg
open PySem PySem.Spec L2 Ev
open PyProof.Rows hiding St
end Tg
set_option Elab.async false
set_option linter.all false
set_option maxRecDepth 100000
namespace Tg
open PySem PySem.Spec L2 Ev
open PyProof.Rows hiding St
section
variable {cs cs' : CS} {f : EvE} {fx : EvX} {g : EvM} {b : EvS} {d d2 : D} {l l2 : Lv} {a a2 v v2 : Bool} {α β T R σ : Type} {e : α → D} {e2 : β → D} {Ψ : T → Out → Prop} {i j : Nat} {o : Option T}
def hideC (cs : CS) (j : Nat) : CS := cs.set j none
theorem Rel.hide {ρ : Ev.Env} (r : Rel ρ cs) (j : Nat) : Rel (ρ.set j none) (hideC cs j) where
  len := by unfold hideC; rw [List.length_set, List.length_set, r.len]
  at_ := fun k c e => by
    unfold hideC at e
    rw [List.getElem?_set] at e ⊢
    by_cases q : j = k
    · subst q
      rw [if_pos rfl] at e
      split at e <;> simp at e
    · rw [if_neg q] at e
      rw [if_neg q]
      exact r.at_ k c e
theorem Rel.tail {ρ : Ev.Env} {x : Option Sv} {c : Option Cl} (r : Rel (x :: ρ) (c :: cs)) : Rel ρ cs := ⟨by simpa using r.len, fun i c e => by simpa using r.at_ (i + 1) c (by simpa using e)⟩
end
end Tg
set_option Elab.async false
set_option linter.all false
set_option maxRecDepth 100000
namespace Tg
open PySem PySem.Spec L2 Ev
open PyProof.Rows hiding St
end Tg
set_option Elab.async false
set_option linter.all false
set_option maxRecDepth 100000
namespace Tg
open PySem PySem.Spec L2 Ev
open PyProof.Rows hiding St
end Tg
set_option Elab.async false
set_option linter.all false
set_option maxRecDepth 100000
namespace Tg
open PySem PySem.Spec L2 Ev
open PyProof.Rows hiding St
end Tg
set_option Elab.async false
set_option linter.all false
set_option maxRecDepth 100000
namespace Tg
open PySem PySem.Spec L2 Ev
open PyProof.Rows hiding St
def lendC : CS → Nat → CS
  | [], _ => []
  | x :: cs, 0 => x.map (fun c => ⟨c.d, .s, true⟩) :: cs
  | x :: cs, i + 1 => x :: lendC cs i
theorem lendC_get : ∀ (cs : CS) (i j : Nat) (c : Cl), (lendC cs i)[j]? = some (some c) → (j ≠ i ∧ cs[j]? = some (some c)) ∨ (j = i ∧ ∃ c0, cs[j]? = some (some c0) ∧ c = ⟨c0.d, .s, true⟩)
  | [], _, _, _, h => by simp [lendC] at h
  | x :: cs, 0, 0, c, h => by
    cases x with
    | none => simp [lendC] at h
    | some c0 => simp [lendC] at h; exact .inr ⟨rfl, c0, rfl, h.symm⟩
  | x :: cs, 0, j + 1, c, h => .inl ⟨by omega, by simpa [lendC] using h⟩
  | x :: cs, i + 1, 0, c, h => .inl ⟨by omega, by simpa [lendC] using h⟩
  | x :: cs, i + 1, j + 1, c, h => by
    rcases lendC_get cs i j c (by simpa [lendC] using h) with ⟨h1, h2⟩ | ⟨h1, c0, h2, h3⟩
    · exact .inl ⟨by omega, by simpa using h2⟩
    · exact .inr ⟨by omega, c0, by simpa using h2, h3⟩
theorem lendC_len : ∀ (cs : CS) (i : Nat), (lendC cs i).length = cs.length
  | [], _ => rfl
  | x :: cs, 0 => rfl
  | x :: cs, i + 1 => by show (lendC cs i).length + 1 = _; rw [lendC_len cs i]; rfl
theorem lend_get (ρ : Ev.Env) (i j : Nat) : (Ev.lend i ρ)[j]? = if j = i then (ρ[j]?).map (fun x => x.map fun s => ⟨s.d, .shr, true, none⟩) else ρ[j]? := by
  unfold Ev.lend
  by_cases h : j = i
  · subst h
    rw [if_pos rfl]
    cases e : ρ[j]? with
    | none => simp [e]
    | some x =>
      cases x with
      | none => simp [e]
      | some s =>
        have := (List.getElem?_eq_some_iff.mp e).1
        simp [this]
  · rw [if_neg h]
    split
    · rw [List.getElem?_set_ne (fun z => h z.symm)]
    · rfl
theorem lend_len (ρ : Ev.Env) (i : Nat) : (Ev.lend i ρ).length = ρ.length := by
  unfold Ev.lend
  split <;> simp
theorem Rel.lend {ρ : Ev.Env} {cs : CS} (r : Rel ρ cs) (i : Nat) : Rel (Ev.lend i ρ) (lendC cs i) where
  len := by rw [lend_len, lendC_len, r.len]
  at_ := fun j c e => by
    rw [lend_get]
    rcases lendC_get cs i j c e with ⟨h1, h2⟩ | ⟨h1, c0, h2, rfl⟩
    · rw [if_neg h1]
      exact r.at_ j c h2
    · rw [if_pos h1]
      obtain ⟨s, e1, k⟩ := r.at_ j c0 h2
      rw [e1]
      exact ⟨_, rfl, k.d, fun _ => rfl, fun _ => id⟩
theorem je_bor {cs : CS} {f : EvE} {d : D} {l : Lv} (i : Nat) (h : JE (lendC cs i) f d l false false) : JE cs (eBor i f) d l false false := fun ρ r => by
  obtain ⟨x, e1, k1⟩ := h _ (r.lend i)
  unfold eBor
  rw [e1]
  simp only [Option.bind_some]
  have h1 : x.al = false := by
    cases q : x.al with
    | false => rfl
    | true => exact nomatch k1.al q
  have h2 : x.vw = false := by
    cases q : x.vw with
    | false => rfl
    | true => exact nomatch k1.vw q
  by_cases hi : imm x.d = true
  · rw [if_pos hi]
    exact ⟨_, rfl, k1.d, (by cases l <;> rfl), (fun h => nomatch h), (fun h => nomatch h)⟩
  · rw [if_neg hi, if_pos ⟨h1, h2⟩]
    exact ⟨x, rfl, k1⟩
end Tg
set_option Elab.async false
set_option linter.all false
set_option maxRecDepth 100000
namespace Tg
open PySem PySem.Spec L2 Ev
open PyProof.Rows hiding St
section
variable {cs : CS} {b : EvS} {a : Bool} {α σ R T : Type} {e : α → D} {Ψ : T → Out → Prop}
theorem leM_pp (k : Nat) : leM (.p k) (.p k) = true := by simp [leM]
end
end Tg
set_option Elab.async false
set_option linter.all false
set_option maxRecDepth 100000
namespace Tg
open PySem PySem.Spec L2 Ev
open PyProof.Rows hiding St
section
variable {cs : CS} {b : EvS} {a v : Bool} {α β κ T : Type} {e : α → D} {Ψ : T → Out → Prop} {fd : Ev.Env → Option D} {itD : D → Option (List D)} {vs : List Nat} {t : Tg} {c : EvT} {el : EvE} {d : D} {l : Lv} {o : Option T}
def itS (itD : D → Option (List D)) (fd : Ev.Env → Option D) : EvI := fun ρ => (fd ρ).bind fun dd => (itD dd).map fun ds => ds.map fun d => (d, false)
theorem eLcS_eq (itD : D → Option (List D)) (fd : Ev.Env → Option D) (vs : List Nat) (t : Ev.Tg) (c : EvT) (el : EvE) : eLcS itD fd vs t c el = eLc (itS itD fd) vs t c el := by
  funext ρ
  unfold eLcS eLc itS
  cases fd ρ with
  | none => rfl
  | some dd =>
    simp only [Option.bind_some]
    cases itD dd <;> rfl
theorem sForI_eq (itD : D → Option (List D)) (fd : Ev.Env → Option D) (t : Ev.Tg) (b : EvS) : sForI itD fd t b = sFor [] (itS itD fd) t b := by
  funext ρ
  unfold sForI sFor itS
  show _ = ((fd ρ).bind _).bind _
  cases fd ρ with
  | none => rfl
  | some dd =>
    simp only [Option.bind_some]
    cases itD dd <;> rfl
theorem je_S {t : Ev.Tg} (h : JE cs (eLc (itS itD fd) vs t c el) d l a v) : JE cs (eLcS itD fd vs t c el) d l a v := by
  rw [eLcS_eq]
  exact h
theorem js_S {t : Ev.Tg} {bd : EvS} (h : JS cs (sSeq (sFor [] (itS itD fd) t bd) b) o Ψ) : JS cs (sSeq (sForI itD fd t bd) b) o Ψ := by
  rw [sForI_eq]
  exact h
theorem js_SK {t : Ev.Tg} {bd : EvS} (h : JS cs (sSeq (sFor [] (itS keysD fd) t bd) b) o Ψ) : JS cs (sSeq (sForK fd t bd) b) o Ψ := js_S (itD := keysD) h
theorem jit_S {xs : List α} {dd : D} (hrd : ∀ ρ, Rel ρ cs → fd ρ = some dd) (hit : itD dd = some (xs.map e)) : JIt cs (itS itD fd) xs e false := fun ρ r => by
  refine ⟨false, id, ?_⟩
  unfold itS
  rw [hrd ρ r]
  simp only [Option.bind_some, hit, Option.map_some, List.map_map]
  rfl
theorem rd_sh {i : Nat} {d : D} {a : Bool} (h : nthC cs i = some ⟨d, .s, a⟩) (hi : imm d = false := by rfl) : ∀ ρ, Rel ρ cs → rdSh i ρ = some d := fun ρ r => by
  obtain ⟨s, e1, k⟩ := r.nthC h
  unfold rdSh
  rw [e1]
  simp only [show s.l = .shr from k.m hi, k.d, if_true]
theorem kd_KT (m : List ((Int × Int) × α)) : keysD (dKT e m) = some ((m.map (·.1)).map (dT2 dI dI)) := by
  show some ((m.map fun p => (([.inl p.1.1, .inl p.1.2] : List Key), e p.2)).map fun p => D.tup (p.1.map keyD)) = _
  rw [List.map_map, List.map_map]
  rfl
end
end Tg
set_option Elab.async false
set_option linter.all false
set_option maxRecDepth 100000
namespace Tg
open PySem PySem.Spec L2 Ev
open PyProof.Rows hiding St
end Tg
set_option Elab.async false
set_option linter.all false
set_option maxRecDepth 100000
namespace Tg
open PySem PySem.Spec L2 Ev
open PyProof.Rows hiding St
section
variable {cs : CS} {f g : EvE} {b : EvS} {l l1 l2 : Lv} {a a1 a2 v v1 v2 : Bool} {α T : Type} {e : α → D} {Ψ : T → Out → Prop} {i j : Nat}
def putIO (xs : List α) (k : Int) (x : α) : Option (List α) := (L2.ixN xs.length k).map fun j => xs.set j x
theorem js_putI {xs : List α} {x : α} {k : Int} {mm : Md} {kk : List α → Option T} (hn : nthC cs i = some ⟨dL e xs, mm, a⟩) (hm : ownM mm = true) (hk : JE cs f (.int k) l1 a1 v1) (hv : JE cs g (e x) l a2 false)
    (h : ∀ ys, JS (put cs i ⟨dL e ys, keepM mm l, a || a2⟩) b (kk ys) Ψ) : JS cs (sSeq (sPutI i f g) b) (bindO (putIO xs k x) kk) Ψ := fun ρ r t ht => by
  obtain ⟨s, e1, k1⟩ := r.nthC hn
  have hml := k1.m rfl
  have hne := ownM_ok hm hml
  have hd : s.d = .lst (xs.map e) := k1.d
  obtain ⟨yk, e2, k2⟩ := hk _ r
  obtain ⟨y, e3, k3⟩ := hv _ r
  obtain ⟨m', e4, e5⟩ := bindO_some ht
  obtain ⟨j, e7, e8⟩ := Option.map_eq_some_iff.mp e4
  subst e8
  have hvw : y.vw = false := by
    cases q : y.vw with
    | false => rfl
    | true => exact nomatch k3.vw q
  have hs : Cl.ok ⟨dL e (xs.set j x), keepM mm l, a || a2⟩ ⟨.lst ((xs.map e).set j y.d), keepLv s.l (if y.l = .full then .full else .top), s.al || y.al, s.pn⟩ := by
    refine ⟨by simp [k3.d, List.map_set], fun _ => ?_, fun _ z => ?_⟩
    · refine keepM_ok (l2 := if y.l = .full then .full else .top) hml ?_ rfl rfl
      cases l with
      | full => rw [leL_full k3.l]; rfl
      | top => split <;> rfl
      | shr => exact leL_shr _
    · rcases Bool.or_eq_true _ _ ▸ z with z | z
      · have := k1.al rfl z
        simp only at this
        rw [this]; rfl
      · have : a2 = true := k3.al z
        rw [this]
        cases a <;> rfl
  obtain ⟨out, e6, q⟩ := h _ _ (r.put (i := i) hs) t e5
  refine ⟨out, ?_, q⟩
  unfold sSeq sPutI
  have hix : L2.ixN (xs.map e).length k = some j := by rw [List.length_map]; exact e7
  rw [e3]
  simp only [Option.bind_some, e1, hd, e2, k2.d, hix]
  rw [if_pos ⟨hne, hvw⟩]
  exact e6
end
end Tg
set_option Elab.async false
set_option linter.all false
set_option maxRecDepth 100000
namespace Tg
open PySem PySem.Spec L2 Ev
open PyProof.Rows hiding St
end Tg
set_option Elab.async false
set_option linter.all false
set_option maxRecDepth 100000
namespace Tg
open PySem PySem.Spec L2 Ev
open PyProof.Rows hiding St
end Tg
set_option Elab.async false
set_option linter.all false
set_option maxRecDepth 100000
namespace Tg
open PySem PySem.Spec L2 Ev
open PyProof.Rows hiding St
end Tg
set_option Elab.async false
set_option linter.all false
set_option maxRecDepth 100000
namespace Tg
open PySem PySem.Spec L2 Ev
open PyProof.Rows hiding St
end Tg
set_option Elab.async false
set_option linter.all false
set_option maxRecDepth 100000
namespace Tg
open PySem PySem.Spec L2 Ev
open PyProof.Rows hiding St
end Tg
set_option Elab.async false
set_option linter.all false
set_option maxRecDepth 100000
namespace Tg
open PySem PySem.Spec L2 Ev
open PyProof.Rows hiding St
section
variable {cs : CS} {f g : EvE} {fp : EvP} {b : EvS} {i : Nat} {mm : Md} {d d2 : D} {l l2 : Lv} {a a2 v v2 : Bool} {α β σ R T : Type} {e : α → D} {Ψ : T → Out → Prop} {upd : D → D} {fz : List Nat}
theorem js_clrP {xs : List α} {o : Option T} {w : D} (hp : JP cs fp i mm (dL e xs) a upd) (hu : upd (dL e []) = w) (h : JS (put cs i ⟨w, mm, a⟩) b o Ψ) : JS cs (sSeq (sClrP fp) b) o Ψ := fun ρ r t ht => by
  obtain ⟨p, s, g1, g2, g3, g4, g5, g6⟩ := hp.2 _ r
  obtain ⟨out, e6, q⟩ := h _ (r.put (i := i) (s := ⟨dSet s.d p (.lst []), .full, s.al || false, s.pn⟩) ⟨by rw [← hu, g6]; rfl, fun _ => ok_keep hp.1 g3 rfl rfl, fun _ z => g4 (by simpa using z)⟩) t ht
  refine ⟨out, ?_, q⟩
  unfold sSeq sClrP
  simp only [g1, Option.bind_some, g2]
  exact e6
end
end Tg
set_option Elab.async false
set_option linter.all false
set_option maxRecDepth 100000
namespace Tg
open PySem PySem.Spec L2 Ev
open PyProof.Rows hiding St
section
variable {cs : CS} {f g fk fv : EvE} {fp : EvP} {b : EvS} {i : Nat} {mm : Md} {d d2 : D} {l l2 : Lv} {a a2 a3 v v2 : Bool} {α β σ R T : Type} {e : α → D} {Ψ : T → Out → Prop} {upd : D → D} {fz : List Nat}
theorem imm_flI (xs : List Int) : imm (dF dI xs) = true := immAll_map (fun _ => rfl) xs
end
end Tg
set_option Elab.async false
set_option linter.all false
set_option maxRecDepth 100000
namespace Tg
open PySem PySem.Spec L2 Ev
open PyProof.Rows hiding St
end Tg
set_option Elab.async false
set_option linter.all false
set_option maxRecDepth 100000
namespace Tg
open PySem PySem.Spec L2 Ev
open PyProof.Rows hiding St
end Tg
namespace Tg
open PySem PySem.Spec L2 Ev
open PyProof.Rows hiding St
theorem js_le {cs : CS} {b : EvS} {T : Type} {o : Option T} {Ψ : T → Out → Prop} (C : CS) (h : Le cs C) (k : JS C b o Ψ) : JS cs b o Ψ := fun ρ r t ht => k ρ (h.rel r) t ht
end Tg
namespace Tg
open PySem PySem.Spec L2 Ev
open PyProof.Rows hiding St
end Tg
set_option Elab.async false
set_option linter.all false
set_option maxRecDepth 100000
namespace Tg
open PySem PySem.Spec L2 Ev
open PyProof.Rows hiding St
end Tg
namespace Tg
open PySem PySem.Spec L2 Ev
open PyProof.Rows hiding St
end Tg
set_option Elab.async false
set_option linter.all false
set_option maxRecDepth 100000
namespace Tg
open PySem PySem.Spec L2 Ev
open PyProof.Rows hiding St
end Tg
set_option Elab.async false
set_option linter.all false
set_option maxRecDepth 100000
namespace Tg
open PySem PySem.Spec L2 Ev
open PyProof.Rows hiding St
end Tg
set_option Elab.async false
set_option linter.all false
set_option maxRecDepth 100000
namespace Tg
open PySem PySem.Spec L2 Ev
open PyProof.Rows hiding St
end Tg
set_option Elab.async false
set_option linter.all false
set_option maxRecDepth 100000
namespace Tg
open PySem PySem.Spec L2 Ev
open PyProof.Rows hiding St
end Tg
set_option Elab.async false
set_option linter.all false
set_option maxRecDepth 100000
namespace Tg
open PySem PySem.Spec L2 Ev
open PyProof.Rows hiding St
end Tg
set_option Elab.async false
set_option linter.all false
set_option maxRecDepth 100000
namespace Tg
open PySem PySem.Spec L2 Ev
open PyProof.Rows hiding St
section
variable {cs cs' : CS} {f g fd : EvE} {fx : EvX} {ga : EvA} {gm : EvM} {b : EvS} {fp : EvP} {d d2 dz : D} {l l1 l2 lz : Lv} {a a1 a2 v v1 v2 az vz : Bool} {α β T R σ : Type} {e : α → D} {e2 : β → D} {Ψ : T → Out → Prop} {i j : Nat} {o : Option T} {mm : Md} {upd : D → D}
theorem intsOf_m : ∀ xs : List Int, intsOf (xs.map D.int) = some xs
  | [] => rfl
  | x :: xs => by
    show (intsOf (xs.map D.int)).map (x :: ·) = _
    rw [intsOf_m xs]
    rfl
end
end Tg
set_option Elab.async false
set_option linter.all false
set_option maxRecDepth 100000
namespace Tg
open PySem PySem.Spec L2 Ev
open PyProof.Rows hiding St
end Tg
set_option Elab.async false
set_option linter.all false
set_option maxRecDepth 100000
namespace Tg
open PySem PySem.Spec L2 Ev
open PyProof.Rows hiding St
end Tg
set_option Elab.async false
set_option linter.all false
set_option maxRecDepth 100000
namespace Tg
open PySem PySem.Spec L2 Ev
open PyProof.Rows hiding St
end Tg
set_option Elab.async false
set_option linter.all false
set_option maxRecDepth 100000
namespace Tg
open PySem PySem.Spec L2 Ev
open PyProof.Rows hiding St
end Tg
set_option Elab.async false
set_option linter.all false
set_option maxRecDepth 100000
namespace Tg
open PySem PySem.Spec L2 Ev
open PyProof.Rows hiding St
end Tg
set_option Elab.async false
set_option linter.all false
set_option maxRecDepth 100000
namespace Tg
open PySem PySem.Spec L2 Ev
open PyProof.Rows hiding St
end Tg
set_option Elab.async false
set_option linter.all false
set_option maxRecDepth 100000
namespace Tg
open PySem PySem.Spec L2 Ev
open PyProof.Rows hiding St
end Tg
set_option Elab.async false
set_option linter.all false
set_option maxRecDepth 100000
namespace Tg
open PySem PySem.Spec L2 Ev
open PyProof.Rows hiding St
end Tg
set_option Elab.async false
set_option linter.all false
set_option maxRecDepth 100000
namespace Tg
open PySem PySem.Spec L2 Ev
open PyProof.Rows hiding St
end Tg
set_option Elab.async false
set_option linter.all false
set_option maxRecDepth 100000
namespace Tg
open PySem PySem.Spec L2 Ev
open PyProof.Rows hiding St
end Tg
set_option Elab.async false
set_option linter.all false
set_option maxRecDepth 100000
namespace Tg
open PySem PySem.Spec L2 Ev
open PyProof.Rows hiding St
end Tg
set_option Elab.async false
set_option linter.all false
set_option maxRecDepth 100000
namespace Tg
open PySem PySem.Spec L2 Ev
open PyProof.Rows hiding St
end Tg
set_option Elab.async false
set_option linter.all false
set_option maxRecDepth 100000
namespace Tg
open PySem PySem.Spec L2 Ev
open PyProof.Rows hiding St
end Tg
set_option Elab.async false
set_option linter.all false
set_option maxRecDepth 100000
namespace Tg
open PySem PySem.Spec L2 Ev
open PyProof.Rows hiding St
def mapKey (key : Int → Option Int) : List Int → Option (List Int)
  | [] => some []
  | n :: ns => bindO (key n) fun z => bindO (mapKey key ns) fun zs => some (z :: zs)
def nearK (xs ks : List Int) : Option Int := xs[bestK ks (xs.length - 1)]?
theorem mapKey_keys {j : Nat} {fl : EvE} {ρ : Ev.Env} {key : Int → Option Int} (h : ∀ x z, key x = some z → keyL j fl ρ x = some z) : ∀ {xs ks : List Int}, mapKey key xs = some ks → keysL j fl ρ xs = some ks
  | [], ks, e => by cases e; rfl
  | n :: ns, ks, e => by
    unfold mapKey at e
    obtain ⟨z, e1, e⟩ := bindO_some e
    obtain ⟨zs, e2, e⟩ := bindO_some e
    cases e
    unfold keysL
    rw [h n z e1, mapKey_keys h e2]
    rfl
def ltC : Nat → CS → Bool
  | _, [] => false
  | 0, _ :: _ => true
  | j + 1, _ :: cs => ltC j cs
theorem ltC_lt : ∀ {j : Nat} {cs : CS}, ltC j cs = true → j < cs.length
  | 0, [], h => by simp [ltC] at h
  | _ + 1, [], h => by simp [ltC] at h
  | 0, _ :: _, _ => Nat.succ_pos _
  | j + 1, _ :: cs, h => Nat.succ_lt_succ (ltC_lt (cs := cs) h)
section
variable {cs : CS} {f fl : EvE} {l : Lv} {a v : Bool}
theorem je_minL {j : Nat} {xs ks : List Int} {key : Int → Option Int} (hj : ltC j cs = true) (h : JE cs f (dL dI xs) l a v) (hk : ∀ x, JEo (put cs j ⟨.int x, .s, false⟩) fl dI (key x) .full false false) (hks : mapKey key xs = some ks) : JI cs (eMinL j f fl) (dO dI (nearK xs ks)) := fun ρ r => by
  obtain ⟨x, e1, k1⟩ := h ρ r
  refine ⟨rA (dO dI (nearK xs ks)), ?_, ⟨rfl, rfl, fun z => (nomatch z), fun z => (nomatch z)⟩⟩
  unfold eMinL
  rw [if_pos (by rw [r.len]; exact ltC_lt hj), e1]
  simp only [Option.bind_some, k1.d]
  show (intsOf (xs.map D.int)).bind _ = _
  rw [intsOf_m, Option.bind_some, mapKey_keys (j := j) (fl := fl) (ρ := ρ) (fun x z e => ?_) hks]
  · unfold nearK
    rw [Option.map_some]
    cases hx : xs[bestK ks (xs.length - 1)]? <;> simp only [hx] <;> rfl
  · have r2 : Rel (ρ.set j (some ⟨.int x, .full, false, none⟩)) (put cs j ⟨.int x, .s, false⟩) := r.put ⟨rfl, fun z => (nomatch z), fun z => (nomatch z)⟩
    obtain ⟨q, e2, k2⟩ := hk x z e _ r2
    unfold keyL
    rw [e2, Option.bind_some, k2.d]
end
end Tg
set_option Elab.async false
set_option linter.all false
set_option maxRecDepth 100000
namespace Tg
open PySem PySem.Spec L2 Ev
open PyProof.Rows hiding St
end Tg
set_option Elab.async false
set_option linter.all false
set_option maxRecDepth 100000
namespace Tg
open PySem PySem.Spec L2 Ev
open PyProof.Rows hiding St
end Tg
set_option Elab.async false
set_option linter.all false
set_option maxRecDepth 100000
namespace Tg
open PySem PySem.Spec L2 Ev
open PyProof.Rows hiding St
end Tg
set_option Elab.async false
set_option linter.all false
set_option maxRecDepth 100000
namespace Tg
open PySem PySem.Spec L2 Ev
open PyProof.Rows hiding St
end Tg
set_option Elab.async false
set_option linter.all false
set_option maxRecDepth 100000
namespace Tg
open PySem PySem.Spec L2 Ev
open PyProof.Rows hiding St
end Tg
set_option Elab.async false
set_option linter.all false
set_option maxRecDepth 100000
namespace Tg
open PySem PySem.Spec L2 Ev
open PyProof.Rows hiding St
end Tg
set_option Elab.async false
set_option linter.all false
set_option maxRecDepth 100000
namespace Tg
open PySem PySem.Spec L2 Ev
open PyProof.Rows hiding St
end Tg
set_option Elab.async false
set_option linter.all false
set_option maxRecDepth 100000
namespace Tg
open PySem PySem.Spec L2 Ev
open PyProof.Rows hiding St
section
variable {cs : CS} {f : EvE} {d : D} {l : Lv} {a v al : Bool} {m : Md} {R : Type}
theorem wF (h : JE cs f d l a v) (hl : leL .full l = true := by rfl) (ha : (!a || false) = true := by rfl) (hv : (!v || false) = true := by rfl) : JE cs f d .full false false := h.w hl ha hv
theorem wS (h : JE cs f d l a v) (hl : leL .shr l = true := by rfl) (ha : (!a || false) = true := by rfl) (hv : (!v || false) = true := by rfl) : JE cs f d .shr false false := h.w hl ha hv
theorem jni (i : Nat) (h : nthC cs i = some ⟨d, m, al⟩) (hi : imm d = true) : JI cs (eName i) d := jn_i h hi
theorem jns (i : Nat) (h : nthC cs i = some ⟨d, .s, al⟩) : JE cs (eName i) d .shr al false := jn_s h
theorem jnv (i : Nat) (h : nthC cs i = some ⟨d, m, al⟩) : JE cs (eName i) d .shr al true := jn_v h
theorem fnk (n : Nat) {body : EvS} {ds : List D} {o : Option R} {er : R → D} {lr : Lv} {ra : Bool} {x : R} (h : JS (ds.map (fun d => some ⟨d, .s, true⟩) ++ List.replicate (n - ds.length) none) body o (ΨR er lr ra)) (hx : o = some x) (hn : ds.length ≤ n := by exact Nat.le_of_ble_eq_true rfl) : RetE (Ev.run body n) ds (er x) lr ra := fn_ok h hx hn
end
end Tg
set_option Elab.async false
set_option linter.all false
set_option maxRecDepth 100000
namespace Tg
open PySem PySem.Spec L2 Ev
open PyProof.Rows hiding St
end Tg
set_option Elab.async false
set_option linter.all false
set_option maxRecDepth 100000
namespace Tg
open PySem PySem.Spec L2 Ev
open PyProof.Rows hiding St
section
variable {α β σ T : Type} {e : α → D}
abbrev dH (e : α → D) (n : Nat) (h : D) (xs : List α) : D := .lst ((xs.map e).set n h)
def gH (xs : List α) (n : Nat) (b : Int) : Option Unit := if L2.ixN xs.length b = some n then none else some ()
def gN (n l : Nat) : Option Unit := if n < l then some () else none
def nH (len : Nat) (k : Int) : Nat := (L2.ixN len k).getD 0
theorem gH_ne {xs : List α} {n : Nat} {b : Int} {u : Unit} (h : gH xs n b = some u) : L2.ixN xs.length b ≠ some n := by
  unfold gH at h
  split at h
  · cases h
  · assumption
theorem gN_of {o : Option (List α)} {n : Nat} {s : List α} (h : (bindO o fun s => bindO (gN n s.length) fun _ => some s) = some s) : n < s.length := by
  obtain ⟨s1, _, h⟩ := bindO_some h
  obtain ⟨u, h1, h⟩ := bindO_some h
  cases h
  unfold gN at h1
  split at h1
  · assumption
  · cases h1
theorem x_lH {xs : List α} {y : α} {i : Int} {n : Nat} {h : D} (hy : idx xs i = some y) (hn : L2.ixN xs.length i ≠ some n) : gIx (dH e n h xs) (.int i) = some (e y) := by
  show atI ((xs.map e).set n h) i = _
  have hy : (L2.ixN xs.length i).bind (fun j => xs[j]?) = some y := hy
  unfold atI
  rw [List.length_set, List.length_map]
  obtain ⟨j, e1, e2⟩ := bind_some hy
  rw [e1] at hn ⊢
  have hne : n ≠ j := fun z => hn (by rw [z])
  show ((xs.map e).set n h)[j]? = _
  rw [List.getElem?_set_ne hne, List.getElem?_map, e2]
  rfl
theorem ixN_lt {l : Nat} {k : Int} {n : Nat} (h : L2.ixN l k = some n) : n < l := (ixN_seq h).2.1
theorem js_putIH {cs : CS} {f g : EvE} {b : EvS} {l1 : Lv} {a a1 a2 v1 : Bool} {Ψ : T → Out → Prop} {i n : Nat} {xs : List α} {x : α} {k : Int} {hD : D} {kk : List α → Option T} (hn : nthC cs i = some ⟨dH e n hD xs, .f, a⟩) (hk : JE cs f (.int k) l1 a1 v1) (hv : JE cs g (e x) .full a2 false) (hne : L2.ixN xs.length k ≠ some n)
    (h : ∀ ys, JS (put cs i ⟨dH e n hD ys, .f, a || a2⟩) b (kk ys) Ψ) : JS cs (sSeq (sPutI i f g) b) (bindO (putIO xs k x) kk) Ψ := fun ρ r t ht => by
  obtain ⟨s, e1, k1⟩ := r.nthC hn
  have hml : s.l = .full := k1.m rfl
  have hd : s.d = .lst ((xs.map e).set n hD) := k1.d
  obtain ⟨yk, e2, k2⟩ := hk _ r
  obtain ⟨y, e3, k3⟩ := hv _ r
  obtain ⟨m', e4, e5⟩ := bindO_some ht
  obtain ⟨j, e7, e8⟩ := Option.map_eq_some_iff.mp e4
  subst e8
  have hnj : n ≠ j := fun z => hne (by rw [e7, z])
  have hvw : y.vw = false := by
    cases q : y.vw with
    | false => rfl
    | true => exact nomatch k3.vw q
  have hyl : y.l = .full := leL_full k3.l
  have hs : Cl.ok ⟨dH e n hD (xs.set j x), .f, a || a2⟩ ⟨.lst (((xs.map e).set n hD).set j y.d), keepLv s.l (if y.l = .full then .full else .top), s.al || y.al, s.pn⟩ := by
    refine ⟨?_, fun _ => ?_, fun _ z => ?_⟩
    · show D.lst _ = D.lst _
      rw [k3.d, List.map_set, List.set_comm _ _ hnj]
    · rw [hml, hyl]; rfl
    · rcases Bool.or_eq_true _ _ ▸ z with z | z
      · have := k1.al rfl z
        simp only at this
        rw [this]; rfl
      · have : a2 = true := k3.al z
        rw [this]
        cases a <;> rfl
  obtain ⟨out, e6, q⟩ := h _ _ (r.put (i := i) hs) t e5
  refine ⟨out, ?_, q⟩
  unfold sSeq sPutI
  have hix : L2.ixN ((xs.map e).set n hD).length k = some j := by rw [List.length_set, List.length_map]; exact e7
  rw [e3]
  simp only [Option.bind_some, e1, hd, e2, k2.d, hix]
  rw [if_pos ⟨by rw [hml]; decide, hvw⟩]
  exact e6
def ksC : CS → List (Option (Lv × Bool))
  | [] => []
  | some ⟨_, .s, a⟩ :: cs => some (.shr, a) :: ksC cs
  | some ⟨_, .f, a⟩ :: cs => some (.full, a) :: ksC cs
  | _ :: cs => none :: ksC cs
def envC : CS → Ev.Env
  | [] => []
  | some ⟨d, .s, a⟩ :: cs => some ⟨d, .shr, a, none⟩ :: envC cs
  | some ⟨d, .f, a⟩ :: cs => some ⟨d, .full, a, none⟩ :: envC cs
  | _ :: cs => none :: envC cs
inductive KsR : Ev.Env → CS → Prop
  | nil : KsR [] []
  | no {x : Option Sv} {ρ : Ev.Env} {cs : CS} : KsR ρ cs → KsR (x :: ρ) (none :: cs)
  | so {s : Sv} {c : Cl} {ρ : Ev.Env} {cs : CS} : s.d = c.d → imm c.d = false → ((c.m = .s ∧ s.l = .shr) ∨ (c.m = .f ∧ s.l = .full)) → (s.al = true → c.al = true) → KsR ρ cs → KsR (some s :: ρ) (some c :: cs)
theorem KsR.norm : ∀ {ρ : Ev.Env} {cs : CS}, KsR ρ cs → normE (ksC cs) ρ = envC cs
  | _, _, .nil => rfl
  | _, _, .no h => by
    unfold ksC envC normE
    rw [show (none :: ksC _ : List (Option (Lv × Bool))).head?.join = none from rfl, show (none :: ksC _ : List (Option (Lv × Bool))).tail = ksC _ from rfl, h.norm]
    rfl
  | _, _, .so (s := s) (c := c) hd _ hm ha h => by
    obtain ⟨d, m, a⟩ := c
    obtain ⟨sd, sl, sa, sp⟩ := s
    dsimp only at hd hm ha
    subst hd
    rcases hm with ⟨rfl, rfl⟩ | ⟨rfl, rfl⟩
    all_goals
      unfold ksC envC normE
      rw [show (some (_, a) :: ksC _ : List (Option (Lv × Bool))).head?.join = some (_, a) from rfl, show (some (_, a) :: ksC _ : List (Option (Lv × Bool))).tail = ksC _ from rfl, h.norm]
      show nrm1 _ _ :: _ = _
      unfold nrm1
      dsimp only
      rw [if_pos ⟨rfl, ha⟩]
theorem KsR.rel : ∀ {ρ : Ev.Env} {cs : CS}, KsR ρ cs → Rel (envC cs) cs
  | _, _, .nil => ⟨rfl, fun i c e => by simp at e⟩
  | _, _, .no (cs := cs) h => by
    have r := h.rel
    refine ⟨by show (none :: envC cs).length = _; rw [List.length_cons, List.length_cons, r.len], fun i c e => ?_⟩
    cases i with
    | zero => simp at e
    | succ i => exact r.at_ i c (by simpa using e)
  | _, _, .so (s := s) (c := c) (cs := cs) hd _ hm ha h => by
    have r := h.rel
    obtain ⟨d, m, a⟩ := c
    dsimp only at hd hm ha
    rcases hm with ⟨rfl, _⟩ | ⟨rfl, _⟩
    all_goals
      refine ⟨by show (some _ :: envC cs).length = _; rw [List.length_cons, List.length_cons, r.len], fun i c e => ?_⟩
      cases i with
      | zero =>
        simp at e
        subst e
        exact ⟨_, rfl, rfl, fun _ => rfl, fun _ z => z⟩
      | succ i => exact r.at_ i c (by simpa using e)
theorem KsR.of : ∀ {ρ : Ev.Env} {cs : CS}, ρ.length = cs.length → (∀ (i : Nat) (c : Cl), cs[i]? = some (some c) → ∃ s : Sv, ρ[i]? = some (some s) ∧ s.d = c.d ∧ imm c.d = false ∧ ((c.m = .s ∧ s.l = .shr) ∨ (c.m = .f ∧ s.l = .full)) ∧ (s.al = true → c.al = true)) → KsR ρ cs
  | [], [], _, _ => .nil
  | [], _ :: _, h, _ => by simp at h
  | _ :: _, [], h, _ => by simp at h
  | x :: ρ, none :: cs, h, k => .no (KsR.of (by simpa using h) fun i c e => k (i + 1) c (by simpa using e))
  | x :: ρ, some c :: cs, h, k => by
    obtain ⟨s, e1, e2, e3, e4, e5⟩ := k 0 c rfl
    simp at e1
    subst e1
    exact .so e2 e3 e4 e5 (KsR.of (by simpa using h) fun i c e => k (i + 1) c (by simpa using e))
inductive LeK : CS → CS → Prop
  | nil : LeK [] []
  | no {x : Option Cl} {a b : CS} : LeK a b → LeK (none :: a) (x :: b)
  | so {c : Cl} {a b : CS} : imm c.d = false → (c.m = .s ∨ c.m = .f) → LeK a b → LeK (some c :: a) (some c :: b)
theorem LeK.len : ∀ {a b : CS}, LeK a b → a.length = b.length
  | _, _, .nil => rfl
  | _, _, .no h => by rw [List.length_cons, List.length_cons, h.len]
  | _, _, .so _ _ h => by rw [List.length_cons, List.length_cons, h.len]
theorem LeK.get : ∀ {a b : CS} {i : Nat} {c : Cl}, LeK a b → a[i]? = some (some c) → b[i]? = some (some c) ∧ imm c.d = false ∧ (c.m = .s ∨ c.m = .f)
  | _, _, _, _, .nil, e => by simp at e
  | _, _, 0, _, .no _, e => by simp at e
  | _, _, i + 1, _, .no h, e => by
    have := h.get (i := i) (by simpa using e)
    exact ⟨by simpa using this.1, this.2⟩
  | _, _, 0, _, .so h1 h2 _, e => by
    simp at e
    subst e
    exact ⟨rfl, h1, h2⟩
  | _, _, i + 1, _, .so _ _ h, e => by
    have := h.get (i := i) (by simpa using e)
    exact ⟨by simpa using this.1, this.2⟩
theorem js_borT {cs : CS} {fk : EvE} {body b : EvS} {l1 : Lv} {a1 v1 : Bool} {Ψ : T → Out → Prop} {j ic iw n : Nat} {xs : List α} {y : α} {k : Int} {c : Int} {dw : D} {ks : List (Option (Lv × Bool))} {C : Addr → Nat → σ → CS} {cs9 : σ → CS} {W g : σ → D} {o : Option σ} {kk : σ → Option T}
    (hn : nthC cs j = some ⟨dL e xs, .f, false⟩) (hk : JE cs fk (.int k) l1 a1 v1) (hx : idx xs k = some y) (hnH : nH xs.length k = n) (hey : e y = .tup [.int c, dw]) (hnd : isNd dw = true)
    (d1 : decide (j ≠ ic ∧ j ≠ iw ∧ ic ≠ iw ∧ ic < cs.length ∧ iw < cs.length) = true)
    (hb : ∀ A kp, JS (put (put (put (hideC cs iw) ic ⟨.int c, .f, false⟩) j ⟨dH e n (.tup [.int c, .exc A]) xs, .f, false⟩) iw ⟨dw, .p kp, false⟩) body o (ΨJ (C A kp)))
    (hj : ∀ A kp s, o = some s → ∃ ds, nthC (C A kp s) j = some ⟨.lst ds, .f, false⟩ ∧ ds[n]? = some (.tup [.int c, .exc A]) ∧ D.lst (ds.set n (.tup [.int c, g s])) = W s)
    (hi : ∀ A kp s, nthC (C A kp s) iw = some ⟨g s, .p kp, false⟩) (hg : ∀ s, imm (g s) = false) (hW : ∀ s, imm (W s) = false)
    (h9 : ∀ A kp s, LeK (cs9 s) (put (C A kp s) j ⟨W s, .f, false⟩)) (hks : ∀ s, ksC (cs9 s) = ks)
    (h : ∀ s, JS (cs9 s) b (kk s) Ψ) : JS cs (sSeq (sBorT ks (pIx (pName j) fk) ic iw body) b) (bindO o kk) Ψ := fun ρ r t ht => by
  obtain ⟨s, e1, e2⟩ := bindO_some ht
  obtain ⟨hjc, hjw, hcw, hcl, hwl⟩ := of_decide_eq_true d1
  obtain ⟨sv, f1, k1⟩ := r.nthC hn
  have hl : sv.l = .full := k1.m rfl
  have hd : sv.d = .lst (xs.map e) := k1.d
  have ha : sv.al = false := by
    cases q : sv.al with
    | false => rfl
    | true => exact nomatch k1.al rfl q
  obtain ⟨yk, f2, k2⟩ := hk _ r
  have hx' : (L2.ixN xs.length k).bind (fun i => xs[i]?) = some y := hx
  obtain ⟨n', f3, f4⟩ := bind_some hx'
  have hnn : n' = n := by rw [← hnH]; unfold nH; rw [f3]; rfl
  subst hnn
  have hdn : (xs.map e)[n']? = some (.tup [.int c, dw]) := by rw [List.getElem?_map, f4, ← hey]; rfl
  have hnl : n' < xs.length := ixN_lt f3
  have fp : pIx (pName j) fk ρ = some (j, [n'], .tup [.int c, dw]) := by
    unfold pIx pName
    rw [f1]
    simp only [hl, if_true, Option.bind_some, hd, f2, k2.d, List.length_map, f3, hdn, Option.map_some]
    rfl
  have hset : ∀ A, dSet sv.d ([n'] ++ [1]) (.exc A) = dH e n' (.tup [.int c, .exc A]) xs := fun A => by
    rw [hd]
    unfold dH
    show (match (xs.map e)[n']? with | some dj => _ | none => _) = _
    rw [hdn]
    rfl
  -- each address gives the same
  have key : ∀ A, ((body ((((ρ.set iw none).set ic (some ⟨.int c, .full, false, none⟩)).set j (some ⟨dSet sv.d ([n'] ++ [1]) (.exc A), .full, sv.al, sv.pn⟩)).set iw (some ⟨dw, .full, sv.al, some (topP ρ)⟩))).bind fun o => (backT j iw (topP ρ) ([n'] ++ [1]) A o).bind (normO ks)) = some (.nx (envC (cs9 s))) ∧ Rel (envC (cs9 s)) (cs9 s) := fun A => by
    have r1 : Rel ((((ρ.set iw none).set ic (some ⟨.int c, .full, false, none⟩)).set j (some ⟨dSet sv.d ([n'] ++ [1]) (.exc A), .full, sv.al, sv.pn⟩)).set iw (some ⟨dw, .full, sv.al, some (topP ρ)⟩)) (put (put (put (hideC cs iw) ic ⟨.int c, .f, false⟩) j ⟨dH e n' (.tup [.int c, .exc A]) xs, .f, false⟩) iw ⟨dw, .p (topP ρ), false⟩) := by
      refine Rel.put (c := ⟨dw, .p (topP ρ), false⟩) (s := ⟨dw, .full, sv.al, some (topP ρ)⟩) (Rel.put (c := ⟨dH e n' (.tup [.int c, .exc A]) xs, .f, false⟩) (s := ⟨dSet sv.d ([n'] ++ [1]) (.exc A), .full, sv.al, sv.pn⟩) (Rel.put (c := ⟨.int c, .f, false⟩) (s := ⟨.int c, .full, false, none⟩) (r.hide iw) ⟨rfl, fun _ => rfl, fun _ => id⟩) ⟨hset A, fun _ => rfl, fun _ z => ?_⟩) ⟨rfl, fun _ => ⟨rfl, rfl⟩, fun _ z => ?_⟩
      · dsimp only at z; rw [ha] at z; exact z
      · dsimp only at z; rw [ha] at z; exact z
    obtain ⟨out, g1, g2⟩ := hb A (topP ρ) _ r1 s e1
    cases out with
    | nx ρ2 =>
      have r2 : Rel ρ2 (C A (topP ρ) s) := g2
      obtain ⟨ds, q1, q2, q3⟩ := hj A (topP ρ) s e1
      obtain ⟨s2, w2, k2⟩ := r2.nthC q1
      obtain ⟨s3, w3, k3⟩ := r2.nthC (hi A (topP ρ) s)
      have hl2 : s2.l = .full := k2.m rfl
      have hd2 : s2.d = .lst ds := k2.d
      have hp3 := k3.m (hg s)
      have hd3 : s3.d = g s := k3.d
      rw [g1]
      simp only [Option.bind_some]
      have hda : dAt s2.d ([n'] ++ [1]) = some (.exc A) := by
        rw [hd2]
        show ((ds[n']?).bind fun x => dAt x [1]) = _
        rw [q2]
        rfl
      have hds : dSet s2.d ([n'] ++ [1]) s3.d = W s := by
        rw [hd2, hd3, ← q3]
        show (match ds[n']? with | some dj => _ | none => _) = _
        rw [q2]
        rfl
      have a2 : s2.al = false := by
        cases q : s2.al with
        | false => rfl
        | true => exact nomatch k2.al rfl q
      have a3 : s3.al = false := by
        cases q : s3.al with
        | false => rfl
        | true => exact nomatch k3.al (hg s) q
      · have hbk : backT j iw (topP ρ) ([n'] ++ [1]) A (.nx ρ2) = some (.nx ((clr (topP ρ) (ρ2.set iw none)).set j (some ⟨W s, .full, false, none⟩))) := by
          unfold backT
          simp only [w2, w3]
          rw [if_pos ⟨hl2, hp3.2, hp3.1, hjw, by rw [hda]; exact decide_eq_true rfl⟩, hds, a2, a3]
          rfl
        rw [hbk]
        simp only [Option.bind_some, normO]
        have kr : KsR ((clr (topP ρ) (ρ2.set iw none)).set j (some ⟨W s, .full, false, none⟩)) (cs9 s) := by
          refine KsR.of ?_ fun i c' ec => ?_
          · rw [List.length_set]
            unfold clr
            rw [List.length_map, List.length_set, r2.len, (h9 A (topP ρ) s).len, put_set, List.length_set]
          · obtain ⟨p1, p2, p3⟩ := (h9 A (topP ρ) s).get ec
            rw [put_set, List.getElem?_set] at p1
            by_cases hij : j = i
            · subst hij
              rw [if_pos rfl] at p1
              split at p1
              · cases p1
                refine ⟨_, List.getElem?_set_self ?_, rfl, p2, .inr ⟨rfl, rfl⟩, id⟩
                unfold clr
                rw [List.length_map, List.length_set]
                exact (List.getElem?_eq_some_iff.mp w2).1
              · cases p1
            · rw [if_neg hij] at p1
              rw [List.getElem?_set_ne hij, clr_at]
              have hiw : iw ≠ i := fun z => by
                subst z
                have := nthC_at (hi A (topP ρ) s)
                rw [p1] at this
                cases this
                rcases p3 with z | z <;> cases z
              rw [List.getElem?_set_ne hiw]
              obtain ⟨s', u1, u2⟩ := r2.at_ i c' p1
              rw [u1]
              have u3 := u2.m p2
              simp only [Option.map_some]
              refine ⟨_, rfl, ?_⟩
              have dd := u2.d
              have aa := u2.al p2
              have mm : (c'.m = .s ∧ s'.l = .shr) ∨ (c'.m = .f ∧ s'.l = .full) := by
                rcases p3 with z | z
                · rw [z] at u3; exact .inl ⟨z, u3⟩
                · rw [z] at u3; exact .inr ⟨z, u3⟩
              split
              · exact ⟨dd, p2, mm, aa⟩
              · exact ⟨dd, p2, mm, aa⟩
        refine ⟨?_, kr.rel⟩
        rw [← hks s, kr.norm]
    | bk ρ2 => exact g2.elim
    | ct ρ2 => exact g2.elim
    | rt ρ2 d l al => exact g2.elim
  obtain ⟨out, g3, g4⟩ := h s _ (key (0 : Addr)).2 t e2
  refine ⟨out, ?_, g4⟩
  unfold sSeq sBorT
  rw [fp]
  simp only [Option.bind_some, f1]
  rw [if_pos ⟨hjc, hjw, hcw, by rw [r.len]; exact hcl, by rw [r.len]; exact hwl, hnd⟩, allA_of fun a => (key a).1]
  exact g3
def apON (xs : List (Option (β × List α))) : Option (List (Option (β × List (Option α)))) := if xs.all (fun o => match o with | some p => decide (p.2.length ≤ 1000000) | none => true) = true then some (xs.map fun o => o.map fun p => (p.1, p.2.map some ++ [none])) else none
theorem js_forON {cs : CS} {b : EvS} {f : β → D} {i j : Nat} {a : Bool} {mm : Md} {Ψ : T → Out → Prop} {xs : List (Option (β × List α))} {k : List (Option (β × List (Option α))) → Option T} (hn : nthC cs j = some ⟨dL (dO (dT2 f (dL e))) xs, mm, a⟩) (hm : fullM mm = true)
    (h1 : decide (j ≠ i) = true) (h2 : decide (i < cs.length) = true)
    (h : ∀ ys, JS (put (hideC cs i) j ⟨dL (dO (dT2 f (dL (dO e)))) ys, mm, a⟩) b (k ys) Ψ) : JS cs (sSeq (sForON j i) b) (bindO (apON xs) k) Ψ := fun ρ r t ht => by
  obtain ⟨ys, e9, ht⟩ := bindO_some ht
  unfold apON at e9
  split at e9
  · rename_i hle
    cases e9
    obtain ⟨s, e1, k1⟩ := r.nthC hn
    have hml := k1.m rfl
    have hl := fullM_ok hm hml
    have hd : s.d = .lst (xs.map (dO (dT2 f (dL e)))) := k1.d
    have hall : (xs.map (dO (dT2 f (dL e)))).all isON = true := by
      rw [List.all_map]
      refine List.all_eq_true.mpr fun o ho => ?_
      have := List.all_eq_true.mp hle o ho
      cases o with
      | none => rfl
      | some p =>
        show decide ((p.2.map e).length ≤ 1000000) = true
        rw [List.length_map]
        exact this
    have hmap : (xs.map (dO (dT2 f (dL e)))).map appON = (xs.map fun o => o.map fun p => (p.1, p.2.map some ++ [none])).map (dO (dT2 f (dL (dO e)))) := by
      rw [List.map_map, List.map_map]
      refine List.map_congr_left fun o _ => ?_
      cases o with
      | none => rfl
      | some p =>
        show D.tup [f p.1, .lst (p.2.map e ++ [.non])] = D.tup [f p.1, .lst ((p.2.map some ++ [none]).map (dO e))]
        rw [List.map_append, List.map_map]
        rfl
    obtain ⟨out, e6, q⟩ := h _ _ ((r.hide i).put (i := j) (s := ⟨.lst ((xs.map (dO (dT2 f (dL e)))).map appON), .full, s.al, s.pn⟩) (c := ⟨dL (dO (dT2 f (dL (dO e)))) (xs.map fun o => o.map fun p => (p.1, p.2.map some ++ [none])), mm, a⟩) ⟨by rw [hmap], fun _ => ok_keep hm hml rfl rfl, fun _ z => k1.al rfl z⟩) t ht
    refine ⟨out, ?_, q⟩
    unfold sSeq sForON
    simp only [e1, hd]
    rw [if_pos ⟨hl, of_decide_eq_true h1, by rw [r.len]; exact of_decide_eq_true h2, hall⟩]
    exact e6
  · cases e9
end
end Tg
set_option Elab.async false
set_option linter.all false
set_option maxRecDepth 100000
set_option maxHeartbeats 4000000
set_option synthInstance.maxSize 2000
set_option synthInstance.maxHeartbeats 400000
namespace Pr
open PySem PySem.Spec L2 Ev Tg
open PyProof.Rows hiding St
noncomputable section
abbrev WebT : Type := Int × (List ((Int × Int) × Int)) × (List (List Int))
def p_law_cell_at (x_script : List Int) (x_k : Int) : Option Int :=
if decide (x_k < (x_script.length : Int)) = true then
(bindO (idx x_script x_k) fun v1 =>
some v1)
else
(some (0 : Int))
def p_law_listed_L1 (x_ties_here : List ((Int × Int) × Int)) (x_way : Int) (x_a : Int) (x_b : Int) (x_found : List (Int × Int × Int)) : Option ((List (Int × Int × Int))) :=
bindO (if decide ((((((3 : Int) * x_a) + x_b) + x_way) % (2 : Int)) = (0 : Int)) = true then
bindO (aget x_ties_here (x_a, x_b)) fun v1 =>
bindO (appO x_found (x_a, x_b, v1)) fun x_found_2 =>
some x_found_2
else
bindO (aget x_ties_here (x_a, x_b)) fun v2 =>
bindO (appO x_found (x_b, x_a, v2)) fun x_found_3 =>
some x_found_3) fun (s3 : (List (Int × Int × Int))) =>
some s3
def p_law_listed (x_ties_here : List ((Int × Int) × Int)) (x_way : Int) : Option (List (Int × Int × Int)) :=
letB (([] : List (Int × Int × Int)) : List (Int × Int × Int)) fun x_found =>
bindO (forS (x_ties_here.map (·.1)) x_found (fun (x4 : Int × Int) (s4 : (List (Int × Int × Int))) => p_law_listed_L1 x_ties_here x_way x4.1 x4.2 s4)) fun s4 =>
bindO (idx ([s4, s4.reverse]) (x_way % (2 : Int))) fun v5 =>
some v5
def p_Web_init_L1 (x_many : Int) (x_a : Int) (x_b : Int) (x_heavy : Int) (x_self_table : List ((Int × Int) × Int)) (x_self_ends : List (List Int)) : Option ((List ((Int × Int) × Int)) × (List (List Int))) :=
if (decide (x_a = x_b) || (decide ((minI x_a x_b) < (0 : Int)) || decide ((maxI x_a x_b) ≥ x_many))) = true then
(none)
else
(if ahas x_self_table (x_a, x_b) = true then
(none)
else
(bindO (aputO x_self_table (x_a, x_b) x_heavy) fun x_self_table_2 =>
bindO (aputO x_self_table_2 (x_b, x_a) x_heavy) fun x_self_table_3 =>
bindO (idx x_self_ends x_a) fun v4 =>
bindO (appO v4 x_b) fun w5 =>
bindO (idx (setI x_self_ends x_a w5) x_b) fun v6 =>
bindO (appO v6 x_a) fun w7 =>
some (x_self_table_3, (setI (setI x_self_ends x_a w5) x_b w7))))
def p_Web_init (x_many : Int) (x_ties : List (Int × Int × Int)) : Option WebT :=
if (decide (x_many < (0 : Int)) || decide (x_many > (24 : Int))) = true then
(none)
else
(letB (x_many : Int) fun x_self_many =>
letB (([] : List ((Int × Int) × Int)) : List ((Int × Int) × Int)) fun x_self_table =>
bindO (rngO 0 x_many) fun v1 =>
bindO (big (v1.map fun y2 => ([] : List Int))) fun v3 =>
letB (v3 : List (List Int)) fun x_self_ends =>
bindO (forS x_ties (x_self_table, x_self_ends) (fun (x8 : Int × Int × Int) (s8 : (List ((Int × Int) × Int)) × (List (List Int))) => p_Web_init_L1 x_many x8.1 x8.2.1 x8.2.2 s8.1 s8.2)) fun s8 =>
some (x_self_many, s8.1, s8.2))
def p_Web_ties (x_self : WebT) : Option (List (Int × Int × Int)) :=
bindO (bindO (lcM x_self.2.1 (fun y1 => (some (decide (y1.1.1 < y1.1.2)))) (fun y1 => (some (y1.1.1, y1.1.2, y1.2)))) big) fun v2 =>
some (sort3 v2)
def p_law_drawn (x_cell : Int) (x_factor : Int) (x_many : Int) : Option Int :=
bindO (mulO (x_cell + (11 : Int)) x_factor) fun v1 =>
letB ((v1 % (2147483629 : Int)) : Int) fun x_number =>
bindO (mulO x_number x_number) fun v2 =>
bindO (modO (v2 % (1000003 : Int)) x_many) fun v3 =>
some v3
def p_law_tie (x_a : Int) (x_b : Int) : Option (Int × Int) :=
some ((minI x_a x_b), (maxI x_a x_b))
def p_law_cost (x_cell : Int) : Option Int :=
if decide ((x_cell % (3 : Int)) = (0 : Int)) = true then
(some ((x_cell / (3 : Int)) % (1000000000000000000000000000000000000000000000000000000000000 : Int)))
else
(some ((x_cell / (3 : Int)) % (7 : Int)))
def p_Web_size (x_self : WebT) : Option Int :=
some x_self.1
def p_Web_tied (x_self : WebT) (x_a : Int) : Option (List Int) :=
bindO (idx x_self.2.2 x_a) fun v1 =>
some (sortI v1)
def p_Web_weight (x_self : WebT) (x_a : Int) (x_b : Int) : Option (Option Int) :=
some (aget x_self.2.1 (x_a, x_b))
def p_law_whole (x_found : Int) : Option Bool :=
some (true && (!false))
def p_law_ties_L1 (x_many : Int) (x_cell : Int) (x_ties_here : List ((Int × Int) × Int)) : Option ((List ((Int × Int) × Int))) :=
bindO (p_law_drawn x_cell (69621 : Int) x_many) fun v1 =>
bindO (p_law_drawn x_cell (16807 : Int) x_many) fun v2 =>
bindO (p_law_tie v1 v2) fun v3 =>
letB (v3 : Int × Int) fun x_tie_here =>
bindO (if ((!decide (x_tie_here.1 = x_tie_here.2)) && (!(ahas x_ties_here x_tie_here))) = true then
bindO (p_law_cost x_cell) fun v4 =>
bindO (aputO x_ties_here x_tie_here v4) fun x_ties_here_2 =>
some x_ties_here_2
else
some x_ties_here) fun (s5 : (List ((Int × Int) × Int))) =>
some s5
def p_law_ties (x_script : List Int) (x_many : Int) (x_until : Int) : Option (List ((Int × Int) × Int)) :=
letB (([] : List ((Int × Int) × Int)) : List ((Int × Int) × Int)) fun x_ties_here =>
bindO (forS (cutL x_script (some (1 : Int)) (some x_until)) x_ties_here (fun (x6 : Int) (s6 : (List ((Int × Int) × Int))) => p_law_ties_L1 x_many x6 s6)) fun s6 =>
some s6
def p_law_is_way_L1 (x_ties_here : List ((Int × Int) × Int)) (x_way : List Int) (x_k : Int) (x_cost_here : Int) : Option (Ctl (Int) (Bool)) :=
bindO (idx x_way x_k) fun v13 =>
bindO (idx x_way (x_k + (1 : Int))) fun v14 =>
bindO (p_law_tie v13 v14) fun v15 =>
letB (v15 : Int × Int) fun x_tie_here =>
if (!(ahas x_ties_here x_tie_here)) = true then
(some (.rt false))
else
(bindO (aget x_ties_here x_tie_here) fun v16 =>
letB ((x_cost_here + v16) : Int) fun x_cost_here_2 =>
some (.nx x_cost_here_2))
def p_law_is_way (x_told : Int × (List Int)) (x_ties_here : List ((Int × Int) × Int)) (x_start : Int) (x_end : Int) : Option Bool :=
bindO (if (!true) = true then some true else (bindO (if (!decide ((2 : Int) = (2 : Int))) = true then some true else (bindO (p_law_whole x_told.1) fun v1 => some ((!v1) || (!true)))) fun v2 => some v2)) fun v3 =>
if v3 = true then
(some false)
else
(letB (x_told.2 : List Int) fun x_way =>
bindO (if decide (x_way = ([] : List Int)) = true then some true else (bindO (bindO (lcM x_way (fun y4 => (some true)) (fun y4 => (bindO (p_law_whole y4) fun v5 => some v5))) big) fun v6 => bindO (if (!(v6.all id)) = true then some true else (bindO (idx x_way (0 : Int)) fun v7 => bindO (if (!decide (v7 = x_start)) = true then some true else (bindO (idx x_way (-(1 : Int))) fun v8 => some (!decide (v8 = x_end)))) fun v9 => some v9)) fun v10 => some v10)) fun v11 =>
if v11 = true then
(some false)
else
(letB ((0 : Int) : Int) fun x_cost_here =>
bindO (rngO 0 ((x_way.length : Int) - (1 : Int))) fun v12 =>
onS (forC v12 x_cost_here (fun (x17 : Int) (s17 : Int) => p_law_is_way_L1 x_ties_here x_way x17 s17)) (fun s17 =>
bindO (if decide (s17 = x_told.1) = true then (bindO (kindsO x_way) fun v18 => some (decide (v18 = (x_way.length : Int)))) else some false) fun v19 =>
some v19) (fun r => r)))
def p_law_right_L1 (x_found : List (Option (Int × (List Int)))) (x_ties_here : List ((Int × Int) × Int)) (x_start : Int) (x_end : Int) : Option (Ctl (Unit) (Bool)) :=
bindO (idx x_found x_end) fun v5 =>
bindO (if v5.isSome = true then (bindO (idx x_found x_end) fun v6 => bindO v6 fun v7 => bindO (p_law_is_way v7 x_ties_here x_start x_end) fun v8 => some (!v8)) else some false) fun v9 =>
if v9 = true then
(some (.rt false))
else
(some (.nx ()))
def p_law_right_L2 (x_found : List (Option (Int × (List Int)))) (x_ties_here : List ((Int × Int) × Int)) (x_a : Int) (x_b : Int) : Option (Ctl (Unit) (Bool)) :=
bindO (idx x_found x_a) fun v11 =>
bindO (idx x_found x_b) fun v12 =>
if (!decide (v11.isNone = v12.isNone)) = true then
(some (.rt false))
else
(bindO (idx x_found x_a) fun v13 =>
bindO (if v13.isSome = true then (bindO (idx x_found x_a) fun v14 => bindO v14 fun v15 => bindO (idx x_found x_b) fun v16 => bindO v16 fun v17 => bindO (aget x_ties_here (x_a, x_b)) fun v18 => some (decide ((absI (v15.1 - v17.1)) > v18))) else some false) fun v19 =>
if v19 = true then
(some (.rt false))
else
(some (.nx ())))
def p_law_right (x_found : List (Option (Int × (List Int)))) (x_ties_here : List ((Int × Int) × Int)) (x_many : Int) (x_start : Int) : Option Bool :=
bindO (if (!true) = true then some true else (bindO (if (!decide ((x_found.length : Int) = x_many)) = true then some true else (bindO (idx x_found x_start) fun v1 => some (!decide (v1 = (some ((0 : Int), [x_start])))))) fun v2 => some v2)) fun v3 =>
if v3 = true then
(some false)
else
(bindO (rngO 0 x_many) fun v4 =>
onS (forC v4 () (fun (x10 : Int) (s10 : Unit) => p_law_right_L1 x_found x_ties_here x_start x10)) (fun s10 =>
onS (forC (x_ties_here.map (·.1)) () (fun (x20 : Int × Int) (s20 : Unit) => p_law_right_L2 x_found x_ties_here x20.1 x20.2)) (fun s20 =>
some true) (fun r => r)) (fun r => r))
def p_nearest (x_found : List (Option (Int × (List Int)))) (x_done : List (Int × Bool)) : Option (Option Int) :=
bindO (rngO 0 (x_found.length : Int)) fun v1 =>
bindO (bindO (lcM v1 (fun y2 => (bindO (idx x_found y2) fun v3 => some (v3.isSome && (!(ahas x_done y2))))) (fun y2 => (some y2))) big) fun v4 =>
letB (v4 : List Int) fun x_some =>
bindO (mapKey (fun y5 => (bindO (idx x_found y5) fun v6 => bindO v6 fun v7 => some v7.1)) x_some) fun v8 =>
some (nearK x_some v8)
def p_ways_L1 (x_tie : Int × Int × Int) : Option (Unit) :=
if decide (x_tie.2.2 < (0 : Int)) = true then
(none)
else
(some ())
def p_ways_L3 (x_web : WebT) (x_done : List (Int × Bool)) (x_here : Option Int) (n : Nat) (x_cost : Int) (x_way : List Int) (x_b : Int) (x_found : List (Option (Int × (List Int)))) : Option ((List (Option (Int × (List Int))))) :=
bindO (gH x_found n x_b) fun _ =>
bindO x_here fun v14 =>
bindO (p_Web_weight x_web v14 x_b) fun v15 =>
bindO v15 fun v16 =>
letB ((x_cost + v16) : Int) fun x_further =>
bindO (if (!(ahas x_done x_b)) = true then (bindO (idx x_found x_b) fun v17 => bindO (if v17.isNone = true then some true else (bindO (idx x_found x_b) fun v18 => bindO v18 fun v19 => some (decide (x_further < v19.1)))) fun v20 => some v20) else some false) fun v21 =>
bindO (if v21 = true then
bindO (catO x_way [x_b]) fun v22 =>
bindO (putIO x_found x_b (some (x_further, v22))) fun x_found_2 =>
some x_found_2
else
some x_found) fun (s23 : (List (Option (Int × (List Int))))) =>
some s23
def p_ways_L2 (x_web : WebT) (x_found : List (Option (Int × (List Int)))) (x_done : List (Int × Bool)) (x_here : Option Int) : Option ((List (Option (Int × (List Int)))) × (List (Int × Bool)) × (Option Int)) :=
bindO x_here fun v7 =>
bindO (aputO x_done v7 true) fun x_done_2 =>
bindO x_here fun v8 =>
bindO (idx x_found v8) fun v9 =>
bindO v9 fun q11 =>
bindO x_here fun v12 =>
bindO (p_Web_tied x_web v12) fun v13 =>
bindO (bindO (forS v13 x_found (fun (x24 : Int) (s24 : (List (Option (Int × (List Int))))) => p_ways_L3 x_web x_done_2 x_here (nH x_found.length v8) q11.1 q11.2 x24 s24)) fun s24 => bindO (gN (nH x_found.length v8) s24.length) fun _ => some s24) fun s24 =>
bindO (p_nearest (s24.set (nH x_found.length v8) (some q11)) x_done_2) fun v25 =>
letB (v25 : Option Int) fun x_here_2 =>
some (s24.set (nH x_found.length v8) (some q11), x_done_2, x_here_2)
def p_ways (x_web : WebT) (x_a : Int) : Option (List (Option (Int × (List Int)))) :=
bindO (p_Web_ties x_web) fun v1 =>
bindO (forS v1 () (fun (x2 : Int × Int × Int) (s2 : Unit) => p_ways_L1 x2)) fun s2 =>
bindO (p_Web_size x_web) fun v3 =>
bindO (rngO 0 v3) fun v4 =>
bindO (big (v4.map fun y5 => (none : Option (Int × (List Int))))) fun v6 =>
letB (v6 : List (Option (Int × (List Int)))) fun x_found =>
bindO (putIO x_found x_a (some ((0 : Int), [x_a]))) fun x_found_2 =>
letB (([] : List (Int × Bool)) : List (Int × Bool)) fun x_done =>
letB (x_a : Int) fun x_here =>
bindO (whS fuel (x_found_2, x_done, (some x_here)) (fun (s26 : (List (Option (Int × (List Int)))) × (List (Int × Bool)) × (Option Int)) => (some s26.2.2.isSome)) (fun (s26 : (List (Option (Int × (List Int)))) × (List (Int × Bool)) × (Option Int)) => p_ways_L2 x_web s26.1 s26.2.1 s26.2.2)) fun s26 =>
some s26.1
def p_law_L1 (x_many : Int) (x_ties_here : List ((Int × Int) × Int)) (x_web : WebT) (x_start : Int) : Option (Ctl (Unit) (Bool)) :=
bindO (p_ways x_web x_start) fun v8 =>
letB (v8 : List (Option (Int × (List Int)))) fun x_found =>
bindO (p_law_right x_found x_ties_here x_many x_start) fun v9 =>
if (!v9) = true then
(some (.rt false))
else
(bindO (apON x_found) fun x_found_2 =>
some (.nx ()))
def p_law (x_script : List Int) : Option Bool :=
bindO (p_law_cell_at x_script (0 : Int)) fun v1 =>
letB ((((v1 + (7 : Int)) * (48271 : Int)) % (2147483647 : Int)) : Int) fun x_head =>
letB (((1 : Int) + (x_head % (12 : Int))) : Int) fun x_many =>
bindO (if decide (((x_head / (12 : Int)) % (7 : Int)) = (3 : Int)) = true then
letB ((24 : Int) : Int) fun x_many_2 =>
some x_many_2
else
some x_many) fun (s2 : Int) =>
bindO (p_law_ties x_script s2 (120 : Int)) fun v3 =>
letB (v3 : List ((Int × Int) × Int)) fun x_ties_here =>
bindO (p_law_listed x_ties_here (x_head / (7 : Int))) fun v4 =>
bindO (p_Web_init s2 v4) fun v5 =>
letB (v5 : WebT) fun x_web =>
bindO (modO (x_head / (84 : Int)) s2) fun v6 =>
letB (v6 : Int) fun x_one =>
bindO (modO (x_head / (2016 : Int)) s2) fun v7 =>
letB (v7 : Int) fun x_other =>
onS (forC ([x_one, x_other, x_one]) () (fun (x11 : Int) (s11 : Unit) => p_law_L1 s2 x_ties_here x_web x11)) (fun s11 =>
bindO (p_Web_ties x_web) fun v12 =>
bindO (bindO (lcM (x_ties_here.map (·.1)) (fun y13 => (some true)) (fun y13 => (bindO (aget x_ties_here (y13.1, y13.2)) fun v14 => some (y13.1, y13.2, v14)))) big) fun v15 =>
some (decide (v12 = (sort3 v15)))) (fun r => r)
abbrev fsWeb (w : WebT) : List (Str × D) := [("many", dI w.1), ("table", (dKT dI) w.2.1), ("ends", (dL (dL dI)) w.2.2)]
abbrev dWeb (WC : Addr) (w : WebT) : D := D.ins WC (fsWeb w)
noncomputable def I_Web (ds : List D) : Option (List (Str × D)) := pick fun fs => ∃ x_many x_ties r, ds = [dI x_many, (dL (dT3 dI dI dI)) x_ties] ∧ p_Web_init x_many x_ties = some r ∧ fs = fsWeb r
end
end Pr
set_option Elab.async false
set_option linter.all false
set_option maxRecDepth 100000
set_option maxHeartbeats 4000000
set_option synthInstance.maxSize 2000
set_option synthInstance.maxHeartbeats 400000
namespace Pr
open PySem PySem.Spec L2 Ev Tg
open PyProof.Rows hiding St
noncomputable section
def CE_Web_init_1 (WC : Addr) : EvE :=
  (eLst aNil)
def C_Web_init_1 (WC : Addr) : EvE :=
  (eLc (iRange (aCons (eName 1) aNil)) [6] (.nm 6) tYes (CE_Web_init_1 WC))
def FB_Web_init_1 (WC : Addr) : EvS :=
  (sSeq (sIf (tOr (tCmp gEq (eName 3) (eName 4)) (tOr (tCmp gLt (eBi bMin2 (aCons (eName 3) (aCons (eName 4) aNil))) (eC (.int 0))) (tCmp gGe (eBi bMax2 (aCons (eName 3) (aCons (eName 4) aNil))) (eName 1)))) sBad sNil) (sSeq (sIf (tCmp gIn (eTup (aCons (eName 3) (aCons (eName 4) aNil))) (eAtO WC "table" (eName 0))) sBad sNil) (sSeq (sPutP [] (pFldO WC "table" (pName 0)) (eTup (aCons (eName 3) (aCons (eName 4) aNil))) (eName 5)) (sSeq (sPutP [] (pFldO WC "table" (pName 0)) (eTup (aCons (eName 4) (aCons (eName 3) aNil))) (eName 5)) (sSeq (sAppP [] (pIx (pFldO WC "ends" (pName 0)) (eName 3)) (eName 4)) (sAppP [] (pIx (pFldO WC "ends" (pName 0)) (eName 4)) (eName 3)))))))
def F_Web_init_1 (WC : Addr) : EvS :=
  (sFor [] (iLst (eName 2)) (.tp [(.nm 3), (.nm 4), (.nm 5)]) (FB_Web_init_1 WC))
def B_Web_init (WC : Addr) : EvS :=
  (sSeq (sIf (tOr (tCmp gLt (eName 1) (eC (.int 0))) (tCmp gGt (eName 1) (eC (.int (24))))) sBad sNil) (sSeq (sAtPO WC "many" [] (pName 0) (eName 1)) (sSeq (sAtPO WC "table" [] (pName 0) eDt) (sSeq (sAtPO WC "ends" [] (pName 0) (C_Web_init_1 WC)) (F_Web_init_1 WC)))))
def B_Web_size (WC : Addr) : EvS :=
  (sRet (eAt WC "many" (eName 0)))
def R_Web_size (WC : Addr) : List D → Option RetD := run (B_Web_size WC) 1
def CT_Web_ties_1 (WC : Addr) : EvT :=
  (tCmp gLt (eIx (eName 1) (eC (.int 0))) (eIx (eName 1) (eC (.int 1))))
def CE_Web_ties_1 (WC : Addr) : EvE :=
  (eTup (aCons (eIx (eName 1) (eC (.int 0))) (aCons (eIx (eName 1) (eC (.int 1))) (aCons (eName 2) aNil))))
def C_Web_ties_1 (WC : Addr) : EvE :=
  (eLcD itDT (rdFld WC "table" 0) [1, 2] (.tp [(.nm 1), (.nm 2)]) (CT_Web_ties_1 WC) (CE_Web_ties_1 WC))
def B_Web_ties (WC : Addr) : EvS :=
  (sRet (eBi bSorted (aCons (C_Web_ties_1 WC) aNil)))
def R_Web_ties (WC : Addr) : List D → Option RetD := run (B_Web_ties WC) 3
def B_Web_weight (WC : Addr) : EvS :=
  (sRet (eDGet (eAt WC "table" (eName 0)) (eTup (aCons (eName 1) (aCons (eName 2) aNil)))))
def R_Web_weight (WC : Addr) : List D → Option RetD := run (B_Web_weight WC) 3
def B_Web_tied (WC : Addr) : EvS :=
  (sRet (eBi bSorted (aCons (eIx (eAt WC "ends" (eName 0)) (eName 1)) aNil)))
def R_Web_tied (WC : Addr) : List D → Option RetD := run (B_Web_tied WC) 2
def B_law_cell_at (WC : Addr) : EvS :=
  (sSeq (sIf (tCmp gLt (eName 1) (eLen (aCons (eName 0) aNil))) (sRet (eIx (eName 0) (eName 1))) sNil) (sRet (eC (.int 0))))
def R_law_cell_at (WC : Addr) : List D → Option RetD := run (B_law_cell_at WC) 2
def B_law_whole (WC : Addr) : EvS :=
  (sRet (eAnd (eIsi "int" (eName 0)) (eNot (eIsi "bool" (eName 0)))))
def R_law_whole (WC : Addr) : List D → Option RetD := run (B_law_whole WC) 1
def B_law_tie (WC : Addr) : EvS :=
  (sRet (eTup (aCons (eBi bMin2 (aCons (eName 0) (aCons (eName 1) aNil))) (aCons (eBi bMax2 (aCons (eName 0) (aCons (eName 1) aNil))) aNil))))
def R_law_tie (WC : Addr) : List D → Option RetD := run (B_law_tie WC) 2
def B_law_drawn (WC : Addr) : EvS :=
  (sSeq (sSet [] 3 (eMod (eMul (ePlus (eName 0) (eC (.int 11))) (eName 1)) (eC (.int 2147483629)))) (sRet (eMod (eMod (eMul (eName 3) (eName 3)) (eC (.int 1000003))) (eName 2))))
def R_law_drawn (WC : Addr) : List D → Option RetD := run (B_law_drawn WC) 4
def B_law_cost (WC : Addr) : EvS :=
  (sSeq (sIf (tCmp gEq (eMod (eName 0) (eC (.int 3))) (eC (.int 0))) (sRet (eMod (eDiv (eName 0) (eC (.int 3))) (ePow (eC (.int 10)) (eC (.int 60))))) sNil) (sRet (eMod (eDiv (eName 0) (eC (.int 3))) (eC (.int 7)))))
def R_law_cost (WC : Addr) : List D → Option RetD := run (B_law_cost WC) 1
def FB_law_listed_1 (WC : Addr) : EvS :=
  (sIf (tCmp gEq (eMod (ePlus (ePlus (eMul (eC (.int 3)) (eName 3)) (eName 4)) (eName 1)) (eC (.int 2))) (eC (.int 0))) (sLop oApp [] 2 (aCons (eTup (aCons (eName 3) (aCons (eName 4) (aCons (eIx (eName 0) (eTup (aCons (eName 3) (aCons (eName 4) aNil)))) aNil)))) aNil)) (sLop oApp [] 2 (aCons (eTup (aCons (eName 4) (aCons (eName 3) (aCons (eIx (eName 0) (eTup (aCons (eName 3) (aCons (eName 4) aNil)))) aNil)))) aNil)))
def F_law_listed_1 (WC : Addr) : EvS :=
  (sForK (rdSh 0) (.tp [(.nm 3), (.nm 4)]) (FB_law_listed_1 WC))
def B_law_listed (WC : Addr) : EvS :=
  (sSeq (sSet [] 2 (eLst aNil)) (sSeq (F_law_listed_1 WC) (sFz [2] (sRet (eIx (eLst (aCons (eName 2) (aCons (eRev (eName 2)) aNil))) (eMod (eName 1) (eC (.int 2))))))))
def R_law_listed (WC : Addr) : List D → Option RetD := run (B_law_listed WC) 5
def FB_law_ties_1 (WC : Addr) : EvS :=
  (sSeq (sSet [] 5 (eCall (R_law_tie WC) (aCons (eCall (R_law_drawn WC) (aCons (eName 4) (aCons (eC (.int 69621)) (aCons (eName 1) aNil)))) (aCons (eCall (R_law_drawn WC) (aCons (eName 4) (aCons (eC (.int 16807)) (aCons (eName 1) aNil)))) aNil)))) (sIf (tAnd (tCmp gNe (eIx (eName 5) (eC (.int 0))) (eIx (eName 5) (eC (.int 1)))) (tCmp gNin (eName 5) (eName 3))) (sPutP [] (pName 3) (eName 5) (eCall (R_law_cost WC) (aCons (eName 4) aNil))) sNil))
def F_law_ties_1 (WC : Addr) : EvS :=
  (sFor [] (iLst (eSl (eName 0) (oSome (eC (.int 1))) (oSome (eName 2)))) (.nm 4) (FB_law_ties_1 WC))
def B_law_ties (WC : Addr) : EvS :=
  (sSeq (sSet [] 3 eDt) (sSeq (F_law_ties_1 WC) (sRetV 3)))
def R_law_ties (WC : Addr) : List D → Option RetD := run (B_law_ties WC) 6
def CE_law_is_way_1 (WC : Addr) : EvE :=
  (eCall (R_law_whole WC) (aCons (eName 8) aNil))
def C_law_is_way_1 (WC : Addr) : EvE :=
  (eLc (iLstV (eName 4)) [8] (.nm 8) tYes (CE_law_is_way_1 WC))
def FB_law_is_way_1 (WC : Addr) : EvS :=
  (sSeq (sSet [] 7 (eCall (R_law_tie WC) (aCons (eIx (eName 4) (eName 6)) (aCons (eIx (eName 4) (ePlus (eName 6) (eC (.int 1)))) aNil)))) (sSeq (sIf (tCmp gNin (eName 7) (eName 1)) (sRet (eC (.bl false))) sNil) (sSet [] 5 (ePlus (eName 5) (eIx (eName 1) (eName 7))))))
def F_law_is_way_1 (WC : Addr) : EvS :=
  (sFor [] (iRange (aCons (eSub (eLen (aCons (eName 4) aNil)) (eC (.int 1))) aNil)) (.nm 6) (FB_law_is_way_1 WC))
def B_law_is_way (WC : Addr) : EvS :=
  (sSeq (sIf (tOr (tNot (tVal (eIsi "tuple" (eName 0)))) (tOr (tCmp gNe (eLen (aCons (eName 0) aNil)) (eC (.int 2))) (tOr (tNot (tVal (eCall (R_law_whole WC) (aCons (eIx (eName 0) (eC (.int 0))) aNil)))) (tNot (tVal (eIsi "list" (eIx (eName 0) (eC (.int 1))))))))) (sRet (eC (.bl false))) sNil) (sSeq (sSet [] 4 (eIx (eName 0) (eC (.int 1)))) (sSeq (sIf (tOr (tCmp gEq (eName 4) (eLst aNil)) (tOr (tNot (tVal (eBi bAll (aCons (C_law_is_way_1 WC) aNil)))) (tOr (tCmp gNe (eIx (eName 4) (eC (.int 0))) (eName 2)) (tCmp gNe (eIx (eName 4) (eNeg (eC (.int 1)))) (eName 3))))) (sRet (eC (.bl false))) sNil) (sSeq (sSet [] 5 (eC (.int 0))) (sSeq (F_law_is_way_1 WC) (sRet (eAnd (eCmp gEq (eName 5) (eIx (eName 0) (eC (.int 0)))) (eCmp gEq (eBi bLenSet (aCons (eName 4) aNil)) (eLen (aCons (eName 4) aNil))))))))))
def R_law_is_way (WC : Addr) : List D → Option RetD := run (B_law_is_way WC) 9
def CT_nearest_1 (WC : Addr) : EvT :=
  (tAnd (tCmp gIsNot (eIx (eName 0) (eName 3)) (eC .non)) (tCmp gNin (eName 3) (eName 1)))
def CE_nearest_1 (WC : Addr) : EvE :=
  (eName 3)
def C_nearest_1 (WC : Addr) : EvE :=
  (eLc (iRange (aCons (eLen (aCons (eName 0) aNil)) aNil)) [3] (.nm 3) (CT_nearest_1 WC) (CE_nearest_1 WC))
def B_nearest (WC : Addr) : EvS :=
  (sSeq (sSet [] 2 (C_nearest_1 WC)) (sRet (eMinL 3 (eName 2) (eIx (eIx (eName 0) (eName 3)) (eC (.int 0))))))
def R_nearest (WC : Addr) : List D → Option RetD := run (B_nearest WC) 4
def FB_law_right_1 (WC : Addr) : EvS :=
  (sIf (tAnd (tCmp gIsNot (eIx (eName 0) (eName 4)) (eC .non)) (tNot (tVal (eCall (R_law_is_way WC) (aCons (eIx (eName 0) (eName 4)) (aCons (eName 1) (aCons (eName 3) (aCons (eName 4) aNil)))))))) (sRet (eC (.bl false))) sNil)
def F_law_right_1 (WC : Addr) : EvS :=
  (sFor [] (iRange (aCons (eName 2) aNil)) (.nm 4) (FB_law_right_1 WC))
def FB_law_right_2 (WC : Addr) : EvS :=
  (sSeq (sIf (tCmp gNe (eCmp gIs (eIx (eName 0) (eName 5)) (eC .non)) (eCmp gIs (eIx (eName 0) (eName 6)) (eC .non))) (sRet (eC (.bl false))) sNil) (sIf (tAnd (tCmp gIsNot (eIx (eName 0) (eName 5)) (eC .non)) (tCmp gGt (eBi bAbs (aCons (eSub (eIx (eIx (eName 0) (eName 5)) (eC (.int 0))) (eIx (eIx (eName 0) (eName 6)) (eC (.int 0)))) aNil)) (eIx (eName 1) (eTup (aCons (eName 5) (aCons (eName 6) aNil)))))) (sRet (eC (.bl false))) sNil))
def F_law_right_2 (WC : Addr) : EvS :=
  (sForK (rdSh 1) (.tp [(.nm 5), (.nm 6)]) (FB_law_right_2 WC))
def B_law_right (WC : Addr) : EvS :=
  (sSeq (sIf (tOr (tNot (tVal (eIsi "list" (eName 0)))) (tOr (tCmp gNe (eLen (aCons (eName 0) aNil)) (eName 2)) (tCmp gNe (eIx (eName 0) (eName 3)) (eTup (aCons (eC (.int 0)) (aCons (eLst (aCons (eName 3) aNil)) aNil)))))) (sRet (eC (.bl false))) sNil) (sSeq (F_law_right_1 WC) (sSeq (F_law_right_2 WC) (sRet (eC (.bl true))))))
def R_law_right (WC : Addr) : List D → Option RetD := run (B_law_right WC) 7
def FB_ways_1 (WC : Addr) : EvS :=
  (sIf (tCmp gLt (eIx (eName 2) (eC (.int 2))) (eC (.int 0))) sBad sNil)
def F_ways_1 (WC : Addr) : EvS :=
  (sFor [] (iLst (eMeth WC "ties" (R_Web_ties WC) (eName 0) aNil)) (.nm 2) (FB_ways_1 WC))
def CE_ways_1 (WC : Addr) : EvE :=
  (eC .non)
def C_ways_1 (WC : Addr) : EvE :=
  (eLc (iRange (aCons (eMeth WC "size" (R_Web_size WC) (eName 0) aNil) aNil)) [10] (.nm 10) tYes (CE_ways_1 WC))
def FB_ways_2 (WC : Addr) : EvS :=
  (sSeq (sSet [] 9 (ePlus (eName 6) (eMeth WC "weight" (R_Web_weight WC) (eName 0) (aCons (eName 5) (aCons (eName 8) aNil))))) (sIf (tAnd (tCmp gNin (eName 8) (eName 4)) (tOr (tCmp gIs (eIx (eName 3) (eName 8)) (eC .non)) (tCmp gLt (eName 9) (eIx (eIx (eName 3) (eName 8)) (eC (.int 0)))))) (sPutI 3 (eName 8) (eTup (aCons (eName 9) (aCons (ePlus (eName 7) (eLst (aCons (eName 8) aNil))) aNil)))) sNil))
def F_ways_2 (WC : Addr) : EvS :=
  (sFor [] (iLst (eMeth WC "tied" (R_Web_tied WC) (eName 0) (aCons (eName 5) aNil))) (.nm 8) (FB_ways_2 WC))
def WT_ways_1 (WC : Addr) : EvT :=
  (tCmp gIsNot (eName 5) (eC .non))
def WB_ways_1 (WC : Addr) : EvS :=
  (sSeq (sPutP [] (pName 4) (eName 5) (eC (.bl true))) (sSeq (sBorT ksW (pIx (pName 3) (eName 5)) 6 7 (F_ways_2 WC)) (sSet [] 5 (eCall (R_nearest WC) (aCons (eName 3) (aCons (eName 4) aNil))))))
def W_ways_1 (WC : Addr) : EvS :=
  (sWhile (WT_ways_1 WC) (WB_ways_1 WC))
def B_ways (WC : Addr) : EvS :=
  (sSeq (F_ways_1 WC) (sSeq (sSet [] 3 (C_ways_1 WC)) (sSeq (sPutI 3 (eName 1) (eTup (aCons (eC (.int 0)) (aCons (eLst (aCons (eName 1) aNil)) aNil)))) (sSeq (sSet [] 4 eDk) (sSeq (sSet [] 5 (eName 1)) (sSeq (W_ways_1 WC) (sRetV 3)))))))
def R_ways (WC : Addr) : List D → Option RetD := run (B_ways WC) 11
def FB_law_1 (WC : Addr) : EvS :=
  (sSeq (sSet [] 8 (eCall (R_ways WC) (aCons (eName 4) (aCons (eName 7) aNil)))) (sSeq (sIf (tNot (tVal (eCall (R_law_right WC) (aCons (eName 8) (aCons (eName 3) (aCons (eName 2) (aCons (eName 7) aNil))))))) (sRet (eC (.bl false))) sNil) (sSeq (sForON 8 9) (sClrP (pName 8)))))
def F_law_1 (WC : Addr) : EvS :=
  (sFor [] (iLst (eLst (aCons (eName 5) (aCons (eName 6) (aCons (eName 5) aNil))))) (.nm 7) (FB_law_1 WC))
def CE_law_1 (WC : Addr) : EvE :=
  (eTup (aCons (eName 10) (aCons (eName 11) (aCons (eIx (eName 3) (eTup (aCons (eName 10) (aCons (eName 11) aNil)))) aNil))))
def C_law_1 (WC : Addr) : EvE :=
  (eLcS keysD (rdSh 3) [10, 11] (.tp [(.nm 10), (.nm 11)]) tYes (CE_law_1 WC))
def B_law (WC : Addr) : EvS :=
  (sSeq (sSet [] 1 (eMod (eMul (ePlus (eCall (R_law_cell_at WC) (aCons (eName 0) (aCons (eC (.int 0)) aNil))) (eC (.int 7))) (eC (.int 48271))) (eC (.int 2147483647)))) (sSeq (sSet [] 2 (ePlus (eC (.int 1)) (eMod (eName 1) (eC (.int 12))))) (sSeq (sIf (tCmp gEq (eMod (eDiv (eName 1) (eC (.int 12))) (eC (.int 7))) (eC (.int 3))) (sSet [] 2 (eC (.int 24))) sNil) (sSeq (sSet [] 3 (eCall (R_law_ties WC) (aCons (eName 0) (aCons (eName 2) (aCons (eC (.int 120)) aNil))))) (sSeq (sSet [] 4 (eNew WC I_Web (aCons (eName 2) (aCons (eCall (R_law_listed WC) (aCons (eName 3) (aCons (eDiv (eName 1) (eC (.int 7))) aNil))) aNil)))) (sSeq (sSet [] 5 (eMod (eDiv (eName 1) (eC (.int 84))) (eName 2))) (sSeq (sSet [] 6 (eMod (eDiv (eName 1) (eC (.int 2016))) (eName 2))) (sSeq (F_law_1 WC) (sRet (eCmp gEq (eMeth WC "ties" (R_Web_ties WC) (eName 4) aNil) (eBi bSorted (aCons (eBor 3 (C_law_1 WC)) aNil))))))))))))
def R_law (WC : Addr) : List D → Option RetD := run (B_law WC) 12
end
end Pr
set_option Elab.async false
set_option linter.all false
set_option maxRecDepth 100000
set_option maxHeartbeats 4000000
set_option synthInstance.maxSize 2000
set_option synthInstance.maxHeartbeats 400000
namespace Pr
open PySem PySem.Spec L2 Ev Tg
open PyProof.Rows hiding St
noncomputable section
theorem nqs : (("many" : Str) == "table") = false ∧ ("many" : Str) ≠ "table" ∧ (("table" : Str) == "many") = false ∧ ("table" : Str) ≠ "many" ∧ (("many" : Str) == "ends") = false ∧ ("many" : Str) ≠ "ends" ∧ (("ends" : Str) == "many") = false ∧ ("ends" : Str) ≠ "many" ∧ (("table" : Str) == "ends") = false ∧ ("table" : Str) ≠ "ends" ∧ (("ends" : Str) == "table") = false ∧ ("ends" : Str) ≠ "table" ∧ (("size" : Str) == "many") = false ∧ ("size" : Str) ≠ "many" ∧ (("many" : Str) == "size") = false ∧ ("many" : Str) ≠ "size" ∧ (("size" : Str) == "table") = false ∧ ("size" : Str) ≠ "table" ∧ (("table" : Str) == "size") = false ∧ ("table" : Str) ≠ "size" ∧ (("size" : Str) == "ends") = false ∧ ("size" : Str) ≠ "ends" ∧ (("ends" : Str) == "size") = false ∧ ("ends" : Str) ≠ "size" ∧ (("ties" : Str) == "many") = false ∧ ("ties" : Str) ≠ "many" ∧ (("many" : Str) == "ties") = false ∧ ("many" : Str) ≠ "ties" ∧ (("ties" : Str) == "table") = false ∧ ("ties" : Str) ≠ "table" ∧ (("table" : Str) == "ties") = false ∧ ("table" : Str) ≠ "ties" ∧ (("ties" : Str) == "ends") = false ∧ ("ties" : Str) ≠ "ends" ∧ (("ends" : Str) == "ties") = false ∧ ("ends" : Str) ≠ "ties" ∧ (("weight" : Str) == "many") = false ∧ ("weight" : Str) ≠ "many" ∧ (("many" : Str) == "weight") = false ∧ ("many" : Str) ≠ "weight" ∧ (("weight" : Str) == "table") = false ∧ ("weight" : Str) ≠ "table" ∧ (("table" : Str) == "weight") = false ∧ ("table" : Str) ≠ "weight" ∧ (("weight" : Str) == "ends") = false ∧ ("weight" : Str) ≠ "ends" ∧ (("ends" : Str) == "weight") = false ∧ ("ends" : Str) ≠ "weight" ∧ (("tied" : Str) == "many") = false ∧ ("tied" : Str) ≠ "many" ∧ (("many" : Str) == "tied") = false ∧ ("many" : Str) ≠ "tied" ∧ (("tied" : Str) == "table") = false ∧ ("tied" : Str) ≠ "table" ∧ (("table" : Str) == "tied") = false ∧ ("table" : Str) ≠ "tied" ∧ (("tied" : Str) == "ends") = false ∧ ("tied" : Str) ≠ "ends" ∧ (("ends" : Str) == "tied") = false ∧ ("ends" : Str) ≠ "tied" := by decide +kernel
local macro_rules | `(tactic| walk_at "lk") => `(tactic| simp [List.lookup_cons, List.findIdx?_cons, putD, nqs])
theorem kb_int_bool : kitB "int" "bool" = some false := by decide +kernel
theorem kb_int_int : kitB "int" "int" = some true := by decide +kernel
theorem kb_list_list : kitB "list" "list" = some true := by decide +kernel
theorem kb_tuple_tuple : kitB "tuple" "tuple" = some true := by decide +kernel
theorem p_law_cell_at_ok (WC : Addr) (x_script : List Int) (x_k : Int) (r : Int) (h : p_law_cell_at x_script x_k = some r) : RetE (R_law_cell_at WC) [(dF dI) x_script, dI x_k] (dI r) .full false :=
  fnk 2 (by
    unfold p_law_cell_at B_law_cell_at
    exact (js_if (jt_cmp (d := (dI x_k)) (d2 := (dI (x_script.length : Int))) (jni 1 rfl rfl) (je_len (d := ((dF dI) x_script)) (jni 0 rfl (imm_flI x_script)) (n_f _)) q_ltI) (js_bind fun v1 h1 =>
(js_ret (q := (fun r => r)) (er := dI) (x := v1) (l := .full) ret_R (je_ixI (d := ((dF dI) x_script)) (d2 := (dI x_k)) (jni 0 rfl (imm_flI x_script)) (jni 1 rfl rfl) (x_f (e := dI) h1) rfl))) (js_nil (js_last (js_ret (q := (fun r => r)) (er := dI) (x := (0 : Int)) (l := .full) ret_R jc))))) h
abbrev K_law_listed_L1 (WC : Addr) (x_ties_here : List ((Int × Int) × Int)) (x_way : Int) : ((List (Int × Int × Int))) → CS := fun s => [some ⟨(dKT dI) x_ties_here, .s, true⟩, some ⟨dI x_way, .a, true⟩, some ⟨(dL (dT3 dI dI dI)) s, .f, false⟩, none, none]
theorem p_law_listed_L1_ok (WC : Addr) (x_ties_here : List ((Int × Int) × Int)) (x_way : Int) (x_a : Int) (x_b : Int) (x_found : List (Int × Int × Int)) : JS [some ⟨(dKT dI) x_ties_here, .s, true⟩, some ⟨dI x_way, .a, true⟩, some ⟨(dL (dT3 dI dI dI)) x_found, .f, false⟩, some ⟨dI x_a, .s, false⟩, some ⟨dI x_b, .s, false⟩] ((FB_law_listed_1 WC)) (p_law_listed_L1 x_ties_here x_way x_a x_b x_found) (ΨL (K_law_listed_L1 WC x_ties_here x_way)) := by
  unfold p_law_listed_L1 FB_law_listed_1
  exact (js_last (js_ifJ (C := fun (s3 : (List (Int × Int × Int))) => [some ⟨(dKT dI) x_ties_here, .s, true⟩, some ⟨dI x_way, .a, true⟩, some ⟨(dL (dT3 dI dI dI)) s3, .f, false⟩, none, none]) (jt_cmp (d := (dI (((((3 : Int) * x_a) + x_b) + x_way) % (2 : Int)))) (d2 := (dI (0 : Int))) (je_modL (je_add (je_add (je_mulL jc (jni 3 rfl rfl)) (jni 4 rfl rfl)) (jni 1 rfl rfl)) jc) jc (q_eq ek_int (((((3 : Int) * x_a) + x_b) + x_way) % (2 : Int)) (0 : Int))) (js_last (js_bind fun v1 h1 =>
(js_app (fz := []) (e := (dT3 dI dI dI)) rfl (wF (je_tup (ja_cons (jni 3 rfl rfl) (ja_cons (jni 4 rfl rfl) (ja_cons (je_ixI (d := ((dKT dI) x_ties_here)) (d2 := ((dT2 dI dI) (x_a, x_b))) (jns 0 rfl) (wF (je_tup (ja_cons (jni 3 rfl rfl) (ja_cons (jni 4 rfl rfl) ja_nil)))) (x_KT (e := dI) h1) rfl) ja_nil))))) rfl fun x_found_2 =>
(js_endJ (s := x_found_2) (.so rfl rfl (.so rfl rfl (.so rfl rfl (.no (.no .nil))))))))) (js_last (js_bind fun v2 h2 =>
(js_app (fz := []) (e := (dT3 dI dI dI)) rfl (wF (je_tup (ja_cons (jni 4 rfl rfl) (ja_cons (jni 3 rfl rfl) (ja_cons (je_ixI (d := ((dKT dI) x_ties_here)) (d2 := ((dT2 dI dI) (x_a, x_b))) (jns 0 rfl) (wF (je_tup (ja_cons (jni 3 rfl rfl) (ja_cons (jni 4 rfl rfl) ja_nil)))) (x_KT (e := dI) h2) rfl) ja_nil))))) rfl fun x_found_3 =>
(js_endJ (s := x_found_3) (.so rfl rfl (.so rfl rfl (.so rfl rfl (.no (.no .nil))))))))) fun s3 =>
(js_endL (s := s3) (.so rfl rfl (.so rfl rfl (.so rfl rfl (.no (.no .nil))))))))
theorem p_law_listed_ok (WC : Addr) (x_ties_here : List ((Int × Int) × Int)) (x_way : Int) (r : (List (Int × Int × Int))) (h : p_law_listed x_ties_here x_way = some r) : RetE (R_law_listed WC) [(dKT dI) x_ties_here, dI x_way] ((dL (dT3 dI dI dI)) r) .shr false :=
  fnk 5 (by
    unfold p_law_listed B_law_listed
    exact (js_set (fz := []) (e := (dL (dT3 dI dI dI))) (wF (je_lst ja_nil)) rfl fun x_found =>
(js_SK (js_for (fz := []) (e := (dT2 dI dI)) (C := K_law_listed_L1 WC x_ties_here x_way) (jit_S (e := (dT2 dI dI)) (rd_sh (i := 0) rfl) (kd_KT (e := dI) _)) (.so rfl rfl (.so rfl rfl (.so rfl rfl (.no (.no .nil))))) (fun _ _ => rfl) (fun x4 s4 => p_law_listed_L1_ok WC x_ties_here x_way x4.1 x4.2 s4) (fun s4 =>
(js_last (js_le [some ⟨(dKT dI) x_ties_here, .s, true⟩, some ⟨dI x_way, .a, true⟩, some ⟨(dL (dT3 dI dI dI)) s4, .f, false⟩, none, none] (.so rfl rfl (.so rfl rfl (.so rfl rfl (.no (.no .nil))))) (js_fz (z := [2]) (js_bind fun v5 h5 =>
(js_ret (q := (fun r => r)) (er := (dL (dT3 dI dI dI))) (x := v5) (l := .shr) ret_R (je_ix (d := ((dL (dL (dT3 dI dI dI))) ([s4, s4.reverse]))) (d2 := (dI (x_way % (2 : Int)))) (JE.w (l2 := .top) (a2 := false) (v2 := false) (je_lst (ja_cons (jns 2 rfl) (ja_cons (je_revI (e := (dT3 dI dI dI)) (jns 2 rfl) (fun _ => rfl)) ja_nil)))) (je_modL (jni 1 rfl rfl) jc) (x_l (e := (dL (dT3 dI dI dI))) h5)))))))))))) h
abbrev K_Web_init_L1 (WC : Addr) (dx : Addr) (x_many : Int) (x_self_many : Int) : ((List ((Int × Int) × Int)) × (List (List Int))) → CS := fun s => [some ⟨D.obj WC dx [("many", dI x_self_many), ("table", (dKT dI) s.1), ("ends", (dL (dL dI)) s.2)], .f, false⟩, some ⟨dI x_many, .a, true⟩, none, none, none, none, none]
theorem p_Web_init_L1_ok (WC : Addr) (dx : Addr) (x_many : Int) (x_self_many : Int) (x_a : Int) (x_b : Int) (x_heavy : Int) (x_self_table : List ((Int × Int) × Int)) (x_self_ends : List (List Int)) : JS [some ⟨D.obj WC dx [("many", dI x_self_many), ("table", (dKT dI) x_self_table), ("ends", (dL (dL dI)) x_self_ends)], .f, false⟩, some ⟨dI x_many, .a, true⟩, none, some ⟨dI x_a, .s, true⟩, some ⟨dI x_b, .s, true⟩, some ⟨dI x_heavy, .s, true⟩, none] ((FB_Web_init_1 WC)) (p_Web_init_L1 x_many x_a x_b x_heavy x_self_table x_self_ends) (ΨL (K_Web_init_L1 WC dx x_many x_self_many)) := by
  unfold p_Web_init_L1 FB_Web_init_1
  exact (js_if (jt_or (jt_cmp (d := (dI x_a)) (d2 := (dI x_b)) (jni 3 rfl rfl) (jni 4 rfl rfl) (q_eq ek_int x_a x_b)) (jt_or (jt_cmp (d := (dI (minI x_a x_b))) (d2 := (dI (0 : Int))) (je_biI (ja_cons (jni 3 rfl rfl) (ja_cons (jni 4 rfl rfl) ja_nil)) b_min (.inl rfl)) jc q_ltI) (jt_cmp (d := (dI (maxI x_a x_b))) (d2 := (dI x_many)) (je_biI (ja_cons (jni 3 rfl rfl) (ja_cons (jni 4 rfl rfl) ja_nil)) b_max (.inl rfl)) (jni 1 rfl rfl) q_geI))) js_none (js_nil (js_if (jt_cmp (d := ((dT2 dI dI) (x_a, x_b))) (d2 := ((dKT dI) x_self_table)) (wF (je_tup (ja_cons (jni 3 rfl rfl) (ja_cons (jni 4 rfl rfl) ja_nil)))) (je_atO (jnv 0 rfl) (by walk_at "lk")) (q_inKT (e := dI) x_self_table (x_a, x_b))) js_none (js_nil (js_putP (fz := []) (eM := (dKT dI)) (W := (fun x_self_table_2 => D.obj WC dx [("many", dI x_self_many), ("table", (dKT dI) x_self_table_2), ("ends", (dL (dL dI)) x_self_ends)])) (jp_fldO (j := 1) (jp_name (i := 0) rfl) (by walk_at "lk") rfl) (wF (je_tup (ja_cons (jni 3 rfl rfl) (ja_cons (jni 4 rfl rfl) ja_nil)))) (jni 5 rfl rfl) rfl (fun m' h => p_KT (e := dI) h) (fun _ _ => rfl) fun x_self_table_2 =>
(js_putP (fz := []) (eM := (dKT dI)) (W := (fun x_self_table_3 => D.obj WC dx [("many", dI x_self_many), ("table", (dKT dI) x_self_table_3), ("ends", (dL (dL dI)) x_self_ends)])) (jp_fldO (j := 1) (jp_name (i := 0) rfl) (by walk_at "lk") rfl) (wF (je_tup (ja_cons (jni 4 rfl rfl) (ja_cons (jni 3 rfl rfl) ja_nil)))) (jni 5 rfl rfl) rfl (fun m' h => p_KT (e := dI) h) (fun _ _ => rfl) fun x_self_table_3 =>
(js_bind fun v4 h4 =>
(js_appP (fz := []) (e := dI) (W := (fun w5 => D.obj WC dx [("many", dI x_self_many), ("table", (dKT dI) x_self_table_3), ("ends", (dL (dL dI)) (setI x_self_ends x_a w5))])) (jp_ix (e := (dL dI)) (jp_fldO (j := 2) (jp_name (i := 0) rfl) (by walk_at "lk") rfl) (jni 3 rfl rfl) h4) (jni 4 rfl rfl) (fun ys _ => congrArg (fun z => D.obj WC dx [("many", dI x_self_many), ("table", (dKT dI) x_self_table_3), ("ends", z)]) (upd_ix (e := (dL dI)) (ix_some h4))) fun w5 =>
(js_last (js_bind fun v6 h6 =>
(js_appP (fz := []) (e := dI) (W := (fun w7 => D.obj WC dx [("many", dI x_self_many), ("table", (dKT dI) x_self_table_3), ("ends", (dL (dL dI)) (setI (setI x_self_ends x_a w5) x_b w7))])) (jp_ix (e := (dL dI)) (jp_fldO (j := 2) (jp_name (i := 0) rfl) (by walk_at "lk") rfl) (jni 4 rfl rfl) h6) (jni 3 rfl rfl) (fun ys _ => congrArg (fun z => D.obj WC dx [("many", dI x_self_many), ("table", (dKT dI) x_self_table_3), ("ends", z)]) (upd_ix (e := (dL dI)) (ix_some h6))) fun w7 =>
(js_endL (s := (x_self_table_3, (setI (setI x_self_ends x_a w5) x_b w7))) (.so rfl rfl (.so rfl rfl (.no (.no (.no (.no (.no .nil)))))))))))))))))))
theorem p_Web_init_run (WC : Addr) (dx : Addr) (x_many : Int) (x_ties : List (Int × Int × Int)) (r : WebT) (h : p_Web_init x_many x_ties = some r) : runNew (B_Web_init WC) 7 WC dx [dI x_many, (dL (dT3 dI dI dI)) x_ties] = some (fsWeb r) :=
  init_run (n := 7) (ds := [dI x_many, (dL (dT3 dI dI dI)) x_ties]) (F := fsWeb) (cs' := [none, none, none, none, none, none]) (by
    unfold p_Web_init B_Web_init
    exact (js_if (jt_or (jt_cmp (d := (dI x_many)) (d2 := (dI (0 : Int))) (jni 1 rfl rfl) jc q_ltI) (jt_cmp (d := (dI x_many)) (d2 := (dI (24 : Int))) (jni 1 rfl rfl) jc q_gtI)) js_none (js_nil (js_atPO (a2 := false) (fz := []) (e := dI) (W := (fun x_self_many => D.obj WC dx [("many", dI x_self_many)])) (jp_name (i := 0) rfl) (jni 1 rfl rfl) rfl (fun _ => by walk_at "lk") fun x_self_many =>
(js_atPO (a2 := false) (fz := []) (e := (dKT dI)) (W := (fun x_self_table => D.obj WC dx [("many", dI x_self_many), ("table", (dKT dI) x_self_table)])) (jp_name (i := 0) rfl) je_dt rfl (fun _ => by walk_at "lk") fun x_self_table =>
(js_bind fun v1 h1 =>
(js_bind fun v3 h3 =>
(js_atPO (a2 := false) (fz := []) (e := (dL (dL dI))) (W := (fun x_self_ends => D.obj WC dx [("many", dI x_self_many), ("table", (dKT dI) x_self_table), ("ends", (dL (dL dI)) x_self_ends)])) (jp_name (i := 0) rfl) (wF (je_lcQ (e := dI) (e2 := (dL dI)) (F := fun (y2 : Int) => ([] : List Int)) (jit_r1 (jni 1 rfl rfl) h1) (fun _ => rfl) (fun y2 => (wF (je_lst ja_nil))) h3)) rfl (fun _ => by walk_at "lk") fun x_self_ends =>
(js_last (js_for (fz := []) (e := (dT3 dI dI dI)) (C := K_Web_init_L1 WC dx x_many x_self_many) (jit_l (e := (dT3 dI dI dI)) (jns 2 rfl)) (.so rfl rfl (.so rfl rfl (.no (.no (.no (.no (.no .nil))))))) (fun _ _ => rfl) (fun x8 s8 => p_Web_init_L1_ok WC dx x_many x_self_many x8.1 x8.2.1 x8.2.2 s8.1 s8.2) (fun s8 =>
(js_endJ (s := (x_self_many, s8.1, s8.2)) (.so rfl rfl (.no (.no (.no (.no (.no (.no .nil))))))))))))))))))) h (Nat.le_of_ble_eq_true rfl)
theorem I_Web_ok (WC : Addr) : ∀ dx ds fs, I_Web ds = some fs → runNew (B_Web_init WC) 7 WC dx ds = some fs := fun dx ds fs h => by
  obtain ⟨x_many, x_ties, r, h1, h2, h3⟩ := pick_some h
  subst h1 h3
  exact p_Web_init_run WC dx x_many x_ties r h2
theorem p_Web_init_ok (WC : Addr) (x_many : Int) (x_ties : List (Int × Int × Int)) (r : WebT) (h : p_Web_init x_many x_ties = some r) : I_Web [dI x_many, (dL (dT3 dI dI dI)) x_ties] = some (fsWeb r) := pick_ex (P := fun fs => ∃ x_many' x_ties' r', [dI x_many, (dL (dT3 dI dI dI)) x_ties] = [dI x_many', (dL (dT3 dI dI dI)) x_ties'] ∧ p_Web_init x_many' x_ties' = some r' ∧ fs = fsWeb r') ⟨x_many, x_ties, r, rfl, h, rfl⟩ fun y ⟨x_many', x_ties', r', e1, e2, e3⟩ => by
  have q1 := p_Web_init_run WC 0 x_many x_ties r h
  have q2 := p_Web_init_run WC 0 x_many' x_ties' r' e2
  rw [← e1, q1] at q2
  rw [e3]
  exact (Option.some.inj q2).symm
theorem p_Web_ties_ok (WC : Addr) (x_self : WebT) (r : (List (Int × Int × Int))) (h : p_Web_ties x_self = some r) : RetE (R_Web_ties WC) [(dWeb WC) x_self] ((dL (dT3 dI dI dI)) r) .full false :=
  fnk 3 (by
    unfold p_Web_ties B_Web_ties
    exact (js_last (js_bind fun v2 h2 =>
(js_ret (q := (fun r => r)) (er := (dL (dT3 dI dI dI))) (x := (sort3 v2)) (l := .full) ret_R (je_biI (ja_cons (wF (lcD_ok (e := (dT2 (dT2 dI dI) dI)) (e2 := (dT3 dI dI dI)) (rd_fld (i := 0) rfl (by walk_at "lk")) (it_KT (e := dI) (fun _ => rfl) _) (.no (.no (.no .nil))) (fun _ => rfl) (fun y1 => (jto_p (jt_cmp (d := (dI y1.1.1)) (d2 := (dI y1.1.2)) (je_ixI (d' := dI y1.1.1) (jni 1 rfl rfl) jc rfl rfl) (je_ixI (d' := dI y1.1.2) (jni 1 rfl rfl) jc rfl rfl) q_ltI))) (fun y1 => (jeo_p (wF (je_tup (ja_cons (je_ixI (d' := dI y1.1.1) (jni 1 rfl rfl) jc rfl rfl) (ja_cons (je_ixI (d' := dI y1.1.2) (jni 1 rfl rfl) jc rfl rfl) (ja_cons (jni 2 rfl rfl) ja_nil))))))) h2)) ja_nil) (b_sorted3 _) (.inr ⟨whole_map (fun _ => rfl), rfl⟩)))))) h
theorem p_law_drawn_ok (WC : Addr) (x_cell : Int) (x_factor : Int) (x_many : Int) (r : Int) (h : p_law_drawn x_cell x_factor x_many = some r) : RetE (R_law_drawn WC) [dI x_cell, dI x_factor, dI x_many] (dI r) .full false :=
  fnk 4 (by
    unfold p_law_drawn B_law_drawn
    exact (js_bind fun v1 h1 =>
(js_set (fz := []) (e := dI) (je_modL (je_mulO (je_add (jni 0 rfl rfl) jc) (jni 1 rfl rfl) h1) jc) rfl fun x_number =>
(js_last (js_bind fun v2 h2 =>
(js_bind fun v3 h3 =>
(js_ret (q := (fun r => r)) (er := dI) (x := v3) (l := .full) ret_R (je_modO (je_modL (je_mulO (jni 3 rfl rfl) (jni 3 rfl rfl) h2) jc) (jni 2 rfl rfl) h3)))))))) h
theorem p_law_tie_ok (WC : Addr) (x_a : Int) (x_b : Int) (r : (Int × Int)) (h : p_law_tie x_a x_b = some r) : RetE (R_law_tie WC) [dI x_a, dI x_b] ((dT2 dI dI) r) .full false :=
  fnk 2 (by
    unfold p_law_tie B_law_tie
    exact (js_last (js_ret (q := (fun r => r)) (er := (dT2 dI dI)) (x := ((minI x_a x_b), (maxI x_a x_b))) (l := .full) ret_R (wF (je_tup (ja_cons (je_biI (ja_cons (jni 0 rfl rfl) (ja_cons (jni 1 rfl rfl) ja_nil)) b_min (.inl rfl)) (ja_cons (je_biI (ja_cons (jni 0 rfl rfl) (ja_cons (jni 1 rfl rfl) ja_nil)) b_max (.inl rfl)) ja_nil))))))) h
theorem p_law_cost_ok (WC : Addr) (x_cell : Int) (r : Int) (h : p_law_cost x_cell = some r) : RetE (R_law_cost WC) [dI x_cell] (dI r) .full false :=
  fnk 1 (by
    unfold p_law_cost B_law_cost
    exact (js_if (jt_cmp (d := (dI (x_cell % (3 : Int)))) (d2 := (dI (0 : Int))) (je_modL (jni 0 rfl rfl) jc) jc (q_eq ek_int (x_cell % (3 : Int)) (0 : Int))) (js_ret (q := (fun r => r)) (er := dI) (x := ((x_cell / (3 : Int)) % (1000000000000000000000000000000000000000000000000000000000000 : Int))) (l := .full) ret_R (je_modL (je_divL (jni 0 rfl rfl) jc) (je_powL jc jc))) (js_nil (js_last (js_ret (q := (fun r => r)) (er := dI) (x := ((x_cell / (3 : Int)) % (7 : Int))) (l := .full) ret_R (je_modL (je_divL (jni 0 rfl rfl) jc) jc)))))) h
theorem p_Web_size_ok (WC : Addr) (x_self : WebT) (r : Int) (h : p_Web_size x_self = some r) : RetE (R_Web_size WC) [(dWeb WC) x_self] (dI r) .full false :=
  fnk 1 (by
    unfold p_Web_size B_Web_size
    exact (js_last (js_ret (q := (fun r => r)) (er := dI) (x := x_self.1) (l := .full) ret_R (je_atI (jns 0 rfl) (by walk_at "lk") rfl)))) h
theorem p_Web_tied_ok (WC : Addr) (x_self : WebT) (x_a : Int) (r : (List Int)) (h : p_Web_tied x_self x_a = some r) : RetE (R_Web_tied WC) [(dWeb WC) x_self, dI x_a] ((dL dI) r) .full false :=
  fnk 2 (by
    unfold p_Web_tied B_Web_tied
    exact (js_last (js_bind fun v1 h1 =>
(js_ret (q := (fun r => r)) (er := (dL dI)) (x := (sortI v1)) (l := .full) ret_R (je_biI (ja_cons (je_ix (d := ((dL (dL dI)) x_self.2.2)) (d2 := (dI x_a)) (je_at (jns 0 rfl) (by walk_at "lk")) (jni 1 rfl rfl) (x_l (e := (dL dI)) h1)) ja_nil) (b_sortedI v1) (.inr ⟨whole_map (fun _ => rfl), rfl⟩)))))) h
theorem p_Web_weight_ok (WC : Addr) (x_self : WebT) (x_a : Int) (x_b : Int) (r : (Option Int)) (h : p_Web_weight x_self x_a x_b = some r) : RetE (R_Web_weight WC) [(dWeb WC) x_self, dI x_a, dI x_b] ((dO dI) r) .full false :=
  fnk 3 (by
    unfold p_Web_weight B_Web_weight
    exact (js_last (js_ret (q := (fun r => r)) (er := (dO dI)) (x := (aget x_self.2.1 (x_a, x_b))) (l := .full) ret_R (je_dgetI (je_at (jns 0 rfl) (by walk_at "lk")) (wF (je_tup (ja_cons (jni 1 rfl rfl) (ja_cons (jni 2 rfl rfl) ja_nil)))) (g_KTI (e := dI) (fun _ => rfl)))))) h
theorem p_law_whole_ok (WC : Addr) (x_found : Int) (r : Bool) (h : p_law_whole x_found = some r) : RetE (R_law_whole WC) [dI x_found] (dB r) .full false :=
  fnk 1 (by
    unfold p_law_whole B_law_whole
    exact (js_last (js_ret (q := (fun r => r)) (er := dB) (x := (true && (!false))) (l := .full) ret_R (je_and (je_isi (d := (dI x_found)) (jni 0 rfl rfl) rfl kb_int_int) (je_not (je_isi (d := (dI x_found)) (jni 0 rfl rfl) rfl kb_int_bool)))))) h
abbrev K_law_ties_L1 (WC : Addr) (x_many : Int) : ((List ((Int × Int) × Int))) → CS := fun s => [none, some ⟨dI x_many, .a, true⟩, none, some ⟨(dKT dI) s, .f, false⟩, none, none]
theorem p_law_ties_L1_ok (WC : Addr) (x_many : Int) (x_cell : Int) (x_ties_here : List ((Int × Int) × Int)) : JS [none, some ⟨dI x_many, .a, true⟩, none, some ⟨(dKT dI) x_ties_here, .f, false⟩, some ⟨dI x_cell, .s, false⟩, none] ((FB_law_ties_1 WC)) (p_law_ties_L1 x_many x_cell x_ties_here) (ΨL (K_law_ties_L1 WC x_many)) := by
  unfold p_law_ties_L1 FB_law_ties_1
  exact (js_bind fun v1 h1 =>
(js_bind fun v2 h2 =>
(js_bind fun v3 h3 =>
(js_set (fz := []) (e := (dT2 dI dI)) (je_callI (ja_cons (je_callI (ja_cons (jni 4 rfl rfl) (ja_cons jc (ja_cons (jni 1 rfl rfl) ja_nil))) (p_law_drawn_ok WC x_cell (69621 : Int) x_many v1 h1) rfl) (ja_cons (je_callI (ja_cons (jni 4 rfl rfl) (ja_cons jc (ja_cons (jni 1 rfl rfl) ja_nil))) (p_law_drawn_ok WC x_cell (16807 : Int) x_many v2 h2) rfl) ja_nil)) (p_law_tie_ok WC v1 v2 v3 h3) rfl) rfl fun x_tie_here =>
(js_last (js_le [none, some ⟨dI x_many, .a, true⟩, none, some ⟨(dKT dI) x_ties_here, .f, false⟩, some ⟨dI x_cell, .s, false⟩, some ⟨(dT2 dI dI) x_tie_here, .f, false⟩] (.no (.so rfl rfl (.no (.so rfl rfl (.so rfl rfl (.so rfl rfl .nil)))))) (js_ifJ (C := fun (s5 : (List ((Int × Int) × Int))) => [none, some ⟨dI x_many, .a, true⟩, none, some ⟨(dKT dI) s5, .f, false⟩, none, none]) (jt_and (jt_cmp (d := (dI x_tie_here.1)) (d2 := (dI x_tie_here.2)) (je_ixI (d' := dI x_tie_here.1) (jni 5 rfl rfl) jc rfl rfl) (je_ixI (d' := dI x_tie_here.2) (jni 5 rfl rfl) jc rfl rfl) (q_ne ek_int x_tie_here.1 x_tie_here.2)) (jt_cmp (d := ((dT2 dI dI) x_tie_here)) (d2 := ((dKT dI) x_ties_here)) (jni 5 rfl rfl) (jnv 3 rfl) (q_ninKT (e := dI) x_ties_here x_tie_here))) (js_last (js_bind fun v4 h4 =>
(js_putP (fz := []) (eM := (dKT dI)) (W := (fun x_ties_here_2 => (dKT dI) x_ties_here_2)) (jp_name (i := 3) rfl) (jni 5 rfl rfl) (je_callI (ja_cons (jni 4 rfl rfl) ja_nil) (p_law_cost_ok WC x_cell v4 h4) rfl) rfl (fun m' h => p_KT (e := dI) h) (fun _ _ => rfl) fun x_ties_here_2 =>
(js_endJ (s := x_ties_here_2) (.no (.so rfl rfl (.no (.so rfl rfl (.no (.no .nil)))))))))) (js_endJ (s := x_ties_here) (.no (.so rfl rfl (.no (.so rfl rfl (.no (.no .nil))))))) fun s5 =>
(js_endL (s := s5) (.no (.so rfl rfl (.no (.so rfl rfl (.no (.no .nil))))))))))))))
theorem p_law_ties_ok (WC : Addr) (x_script : List Int) (x_many : Int) (x_until : Int) (r : (List ((Int × Int) × Int))) (h : p_law_ties x_script x_many x_until = some r) : RetE (R_law_ties WC) [(dF dI) x_script, dI x_many, dI x_until] ((dKT dI) r) .full false :=
  fnk 6 (by
    unfold p_law_ties B_law_ties
    exact (js_set (fz := []) (e := (dKT dI)) je_dt rfl fun x_ties_here =>
(js_for (fz := []) (e := dI) (C := K_law_ties_L1 WC x_many) (jit_l (e := dI) (je_slFI (e := dI) (jni 0 rfl (imm_flI x_script)) (jo_s jc) (jo_s (jni 2 rfl rfl)) (fun _ => rfl))) (.no (.so rfl rfl (.no (.so rfl rfl (.no (.no .nil)))))) (fun _ _ => rfl) (fun x6 s6 => p_law_ties_L1_ok WC x_many x6 s6) (fun s6 =>
(js_last (js_retV (q := (fun r => r)) (er := (dKT dI)) (x := s6) (m := .f) (i := 3) ret_R rfl md_f)))))) h
abbrev K_law_is_way_L1 (WC : Addr) (x_told : Int × (List Int)) (x_ties_here : List ((Int × Int) × Int)) (x_way : List Int) : (Int) → CS := fun s => [some ⟨(dT2 dI (dL dI)) x_told, .s, true⟩, some ⟨(dKT dI) x_ties_here, .s, true⟩, none, none, some ⟨(dL dI) x_way, .a, true⟩, some ⟨dI s, .a, true⟩, none, none, none]
theorem p_law_is_way_L1_ok (WC : Addr) (x_told : Int × (List Int)) (x_ties_here : List ((Int × Int) × Int)) (x_way : List Int) (x_k : Int) (x_cost_here : Int) : JS [some ⟨(dT2 dI (dL dI)) x_told, .s, true⟩, some ⟨(dKT dI) x_ties_here, .s, true⟩, none, none, some ⟨(dL dI) x_way, .a, true⟩, some ⟨dI x_cost_here, .a, true⟩, some ⟨dI x_k, .s, false⟩, none, none] ((FB_law_is_way_1 WC)) (p_law_is_way_L1 x_ties_here x_way x_k x_cost_here) (ΨC (K_law_is_way_L1 WC x_told x_ties_here x_way) dB .full false) := by
  unfold p_law_is_way_L1 FB_law_is_way_1
  exact (js_le [some ⟨(dT2 dI (dL dI)) x_told, .s, true⟩, some ⟨(dKT dI) x_ties_here, .s, true⟩, none, none, some ⟨(dL dI) x_way, .a, true⟩, some ⟨dI x_cost_here, .a, true⟩, some ⟨dI x_k, .s, false⟩, none, none] (.so rfl rfl (.so rfl rfl (.no (.no (.so rfl rfl (.so rfl rfl (.so rfl rfl (.no (.no .nil))))))))) (js_bind fun v13 h13 =>
(js_bind fun v14 h14 =>
(js_bind fun v15 h15 =>
(js_set (fz := []) (e := (dT2 dI dI)) (je_callI (ja_cons (je_ixI (d := ((dL dI) x_way)) (d2 := (dI x_k)) (jnv 4 rfl) (jni 6 rfl rfl) (x_l (e := dI) h13) rfl) (ja_cons (je_ixI (d := ((dL dI) x_way)) (d2 := (dI (x_k + (1 : Int)))) (jnv 4 rfl) (je_add (jni 6 rfl rfl) jc) (x_l (e := dI) h14) rfl) ja_nil)) (p_law_tie_ok WC v13 v14 v15 h15) rfl) rfl fun x_tie_here =>
(js_if (jt_cmp (d := ((dT2 dI dI) x_tie_here)) (d2 := ((dKT dI) x_ties_here)) (jni 7 rfl rfl) (jns 1 rfl) (q_ninKT (e := dI) x_ties_here x_tie_here)) (js_ret (q := (fun r => Ctl.rt r)) (er := dB) (x := false) (l := .full) ret_C jc) (js_nil (js_last (js_bind fun v16 h16 =>
(js_set (fz := []) (e := dI) (je_add (jni 5 rfl rfl) (je_ixI (d := ((dKT dI) x_ties_here)) (d2 := ((dT2 dI dI) x_tie_here)) (jns 1 rfl) (jni 7 rfl rfl) (x_KT (e := dI) h16) rfl)) rfl fun x_cost_here_2 =>
(js_endC (s := x_cost_here_2) (.so rfl rfl (.so rfl rfl (.no (.no (.so rfl rfl (.so rfl rfl (.no (.no (.no .nil))))))))))))))))))))
theorem p_law_is_way_ok (WC : Addr) (x_told : Int × (List Int)) (x_ties_here : List ((Int × Int) × Int)) (x_start : Int) (x_end : Int) (r : Bool) (h : p_law_is_way x_told x_ties_here x_start x_end = some r) : RetE (R_law_is_way WC) [(dT2 dI (dL dI)) x_told, (dKT dI) x_ties_here, dI x_start, dI x_end] (dB r) .full false :=
  fnk 9 (by
    unfold p_law_is_way B_law_is_way
    exact (js_bind fun v3 h3 =>
(js_if (jt_orO (jt_not (jt_val (je_isi (d := ((dT2 dI (dL dI)) x_told)) (jns 0 rfl) rfl kb_tuple_tuple))) (jto_b fun v2 h2 => (jto_p (jt_orO (jt_cmp (d := (dI (2 : Int))) (d2 := (dI (2 : Int))) (je_len (n := 2) (d := ((dT2 dI (dL dI)) x_told)) (jns 0 rfl) (n_t rfl)) jc (q_ne ek_int (2 : Int) (2 : Int))) (jto_b fun v1 h1 => (jto_p (jt_or (jt_not (jt_val (je_callI (ja_cons (je_ixI (d' := dI x_told.1) (jns 0 rfl) jc rfl rfl) ja_nil) (p_law_whole_ok WC x_told.1 v1 h1) rfl))) (jt_not (jt_val (je_isi (d := ((dL dI) x_told.2)) (je_ix (d' := (dL dI) x_told.2) (jns 0 rfl) jc rfl) rfl kb_list_list)))))) h2))) h3) (js_ret (q := (fun r => r)) (er := dB) (x := false) (l := .full) ret_R jc) (js_nil (js_set (fz := []) (e := (dL dI)) (je_ix (d' := (dL dI) x_told.2) (jns 0 rfl) jc rfl) rfl fun x_way =>
(js_bind fun v11 h11 =>
(js_if (jt_orO (jt_cmp (d := ((dL dI) x_way)) (d2 := ((dL dI) ([] : List Int))) (jnv 4 rfl) (wF (je_lst ja_nil)) (q_eq (ek_list ek_int) x_way ([] : List Int))) (jto_b fun v6 h6 => (jto_b fun v10 h10 => (jto_p (jt_orO (jt_not (jt_val (je_biI (ja_cons (wF (je_lcM (e := dI) (e2 := dB) (jit_lI (e := dI) (fun _ => rfl) (jnv 4 rfl)) (fun _ => rfl) (fun y4 => (jto_p jt_yes)) (fun y4 => (jeo_b fun v5 h5 => (jeo_p (je_callI (ja_cons (jni 8 rfl rfl) ja_nil) (p_law_whole_ok WC y4 v5 h5) rfl)))) h6)) ja_nil) (b_all _) (.inl rfl)))) (jto_b fun v7 h7 => (jto_b fun v9 h9 => (jto_p (jt_orO (jt_cmp (d := (dI v7)) (d2 := (dI x_start)) (je_ixI (d := ((dL dI) x_way)) (d2 := (dI (0 : Int))) (jnv 4 rfl) jc (x_l (e := dI) h7) rfl) (jni 2 rfl rfl) (q_ne ek_int v7 x_start)) (jto_b fun v8 h8 => (jto_p (jt_cmp (d := (dI v8)) (d2 := (dI x_end)) (je_ixI (d := ((dL dI) x_way)) (d2 := (dI (-(1 : Int)))) (jnv 4 rfl) (je_neg jc) (x_l (e := dI) h8) rfl) (jni 3 rfl rfl) (q_ne ek_int v8 x_end)))) h9)))) h10)))) h11) (js_ret (q := (fun r => r)) (er := dB) (x := false) (l := .full) ret_R jc) (js_nil (js_le [some ⟨(dT2 dI (dL dI)) x_told, .s, true⟩, some ⟨(dKT dI) x_ties_here, .s, true⟩, some ⟨dI x_start, .s, true⟩, some ⟨dI x_end, .s, true⟩, some ⟨(dL dI) x_way, .a, true⟩, none, none, none, none] (.so rfl rfl (.so rfl rfl (.so rfl rfl (.so rfl rfl (.so rfl rfl (.no (.no (.no (.no .nil))))))))) (js_set (fz := []) (e := dI) jc rfl fun x_cost_here =>
(js_bind fun v12 h12 =>
(js_forC (fz := []) (e := dI) (C := K_law_is_way_L1 WC x_told x_ties_here x_way) (er := dB) (lr := .full) (ra := false) (q := (fun r => r)) ret_R (jit_r1 (je_sub (je_len (d := ((dL dI) x_way)) (jnv 4 rfl) (n_l _)) jc) h12) (.so rfl rfl (.so rfl rfl (.no (.no (.so rfl rfl (.so rfl rfl (.no (.no (.no .nil))))))))) (fun _ _ => rfl) (fun x17 s17 => p_law_is_way_L1_ok WC x_told x_ties_here x_way x17 s17) (fun s17 =>
(js_last (js_bind fun v19 h19 =>
(js_ret (q := (fun r => r)) (er := dB) (x := v19) (l := .full) ret_R (je_andO (je_cmp (d := (dI s17)) (d2 := (dI x_told.1)) (jni 5 rfl rfl) (je_ixI (d' := dI x_told.1) (jns 0 rfl) jc rfl rfl) (q_eq ek_int s17 x_told.1)) (jeo_b fun v18 h18 => (jeo_p (je_cmp (d := (dI v18)) (d2 := (dI (x_way.length : Int))) (je_biI (ja_cons (jnv 4 rfl) ja_nil) (b_lenSet h18) (.inl rfl)) (je_len (d := ((dL dI) x_way)) (jnv 4 rfl) (n_l _)) (q_eq ek_int v18 (x_way.length : Int))))) h19))))))))))))))))) h
abbrev K_law_right_L1 (WC : Addr) (x_found : List (Option (Int × (List Int)))) (x_ties_here : List ((Int × Int) × Int)) (x_start : Int) : (Unit) → CS := fun s => [some ⟨(dL (dO (dT2 dI (dL dI)))) x_found, .s, true⟩, some ⟨(dKT dI) x_ties_here, .s, true⟩, none, some ⟨dI x_start, .a, true⟩, none, none, none]
theorem p_law_right_L1_ok (WC : Addr) (x_found : List (Option (Int × (List Int)))) (x_ties_here : List ((Int × Int) × Int)) (x_start : Int) (x_end : Int) : JS [some ⟨(dL (dO (dT2 dI (dL dI)))) x_found, .s, true⟩, some ⟨(dKT dI) x_ties_here, .s, true⟩, none, some ⟨dI x_start, .a, true⟩, some ⟨dI x_end, .s, false⟩, none, none] ((FB_law_right_1 WC)) (p_law_right_L1 x_found x_ties_here x_start x_end) (ΨC (K_law_right_L1 WC x_found x_ties_here x_start) dB .full false) := by
  unfold p_law_right_L1 FB_law_right_1
  exact (js_last (js_bind fun v5 h5 =>
(js_bind fun v9 h9 =>
(js_if (jt_andO (jt_cmp (d := ((dO (dT2 dI (dL dI))) v5)) (d2 := .non) (je_ix (d := ((dL (dO (dT2 dI (dL dI)))) x_found)) (d2 := (dI x_end)) (jns 0 rfl) (jni 4 rfl rfl) (x_l (e := (dO (dT2 dI (dL dI)))) h5)) jc (q_isnot (e := (dT2 dI (dL dI))) (fun _ => rfl) _)) (jto_b fun v6 h6 => (jto_b fun v7 h7 => (jto_b fun v8 h8 => (jto_p (jt_not (jt_val (je_callI (ja_cons (jn_o (e := (dT2 dI (dL dI))) (je_ix (d := ((dL (dO (dT2 dI (dL dI)))) x_found)) (d2 := (dI x_end)) (jns 0 rfl) (jni 4 rfl rfl) (x_l (e := (dO (dT2 dI (dL dI)))) h6)) h7) (ja_cons (jns 1 rfl) (ja_cons (jni 3 rfl rfl) (ja_cons (jni 4 rfl rfl) ja_nil)))) (p_law_is_way_ok WC v7 x_ties_here x_start x_end v8 h8) rfl))))))) h9) (js_ret (q := (fun r => Ctl.rt r)) (er := dB) (x := false) (l := .full) ret_C jc) (js_nil (js_endC (s := ()) (.so rfl rfl (.so rfl rfl (.no (.so rfl rfl (.no (.no (.no .nil)))))))))))))
abbrev K_law_right_L2 (WC : Addr) (x_found : List (Option (Int × (List Int)))) (x_ties_here : List ((Int × Int) × Int)) : (Unit) → CS := fun s => [some ⟨(dL (dO (dT2 dI (dL dI)))) x_found, .s, true⟩, some ⟨(dKT dI) x_ties_here, .s, true⟩, none, none, none, none, none]
theorem p_law_right_L2_ok (WC : Addr) (x_found : List (Option (Int × (List Int)))) (x_ties_here : List ((Int × Int) × Int)) (x_a : Int) (x_b : Int) : JS [some ⟨(dL (dO (dT2 dI (dL dI)))) x_found, .s, true⟩, some ⟨(dKT dI) x_ties_here, .s, true⟩, none, none, none, some ⟨dI x_a, .s, false⟩, some ⟨dI x_b, .s, false⟩] ((FB_law_right_2 WC)) (p_law_right_L2 x_found x_ties_here x_a x_b) (ΨC (K_law_right_L2 WC x_found x_ties_here) dB .full false) := by
  unfold p_law_right_L2 FB_law_right_2
  exact (js_bind fun v11 h11 =>
(js_bind fun v12 h12 =>
(js_if (jt_cmp (d := (dB v11.isNone)) (d2 := (dB v12.isNone)) (je_cmp (d := ((dO (dT2 dI (dL dI))) v11)) (d2 := .non) (je_ix (d := ((dL (dO (dT2 dI (dL dI)))) x_found)) (d2 := (dI x_a)) (jns 0 rfl) (jni 5 rfl rfl) (x_l (e := (dO (dT2 dI (dL dI)))) h11)) jc (q_is (e := (dT2 dI (dL dI))) (fun _ => rfl) _)) (je_cmp (d := ((dO (dT2 dI (dL dI))) v12)) (d2 := .non) (je_ix (d := ((dL (dO (dT2 dI (dL dI)))) x_found)) (d2 := (dI x_b)) (jns 0 rfl) (jni 6 rfl rfl) (x_l (e := (dO (dT2 dI (dL dI)))) h12)) jc (q_is (e := (dT2 dI (dL dI))) (fun _ => rfl) _)) (q_ne ek_bool v11.isNone v12.isNone)) (js_ret (q := (fun r => Ctl.rt r)) (er := dB) (x := false) (l := .full) ret_C jc) (js_nil (js_last (js_bind fun v13 h13 =>
(js_bind fun v19 h19 =>
(js_if (jt_andO (jt_cmp (d := ((dO (dT2 dI (dL dI))) v13)) (d2 := .non) (je_ix (d := ((dL (dO (dT2 dI (dL dI)))) x_found)) (d2 := (dI x_a)) (jns 0 rfl) (jni 5 rfl rfl) (x_l (e := (dO (dT2 dI (dL dI)))) h13)) jc (q_isnot (e := (dT2 dI (dL dI))) (fun _ => rfl) _)) (jto_b fun v14 h14 => (jto_b fun v15 h15 => (jto_b fun v16 h16 => (jto_b fun v17 h17 => (jto_b fun v18 h18 => (jto_p (jt_cmp (d := (dI (absI (v15.1 - v17.1)))) (d2 := (dI v18)) (je_biI (ja_cons (je_sub (je_ixI (d' := dI v15.1) (jn_o (e := (dT2 dI (dL dI))) (je_ix (d := ((dL (dO (dT2 dI (dL dI)))) x_found)) (d2 := (dI x_a)) (jns 0 rfl) (jni 5 rfl rfl) (x_l (e := (dO (dT2 dI (dL dI)))) h14)) h15) jc rfl rfl) (je_ixI (d' := dI v17.1) (jn_o (e := (dT2 dI (dL dI))) (je_ix (d := ((dL (dO (dT2 dI (dL dI)))) x_found)) (d2 := (dI x_b)) (jns 0 rfl) (jni 6 rfl rfl) (x_l (e := (dO (dT2 dI (dL dI)))) h16)) h17) jc rfl rfl)) ja_nil) b_abs (.inl rfl)) (je_ixI (d := ((dKT dI) x_ties_here)) (d2 := ((dT2 dI dI) (x_a, x_b))) (jns 1 rfl) (wF (je_tup (ja_cons (jni 5 rfl rfl) (ja_cons (jni 6 rfl rfl) ja_nil)))) (x_KT (e := dI) h18) rfl) q_gtI))))))) h19) (js_le [some ⟨(dL (dO (dT2 dI (dL dI)))) x_found, .s, true⟩, some ⟨(dKT dI) x_ties_here, .s, true⟩, none, none, none, some ⟨dI x_a, .s, false⟩, some ⟨dI x_b, .s, false⟩] (.so rfl rfl (.so rfl rfl (.no (.no (.no (.so rfl rfl (.so rfl rfl .nil))))))) (js_ret (q := (fun r => Ctl.rt r)) (er := dB) (x := false) (l := .full) ret_C jc)) (js_nil (js_endC (s := ()) (.so rfl rfl (.so rfl rfl (.no (.no (.no (.no (.no .nil)))))))))))))))))
theorem p_law_right_ok (WC : Addr) (x_found : List (Option (Int × (List Int)))) (x_ties_here : List ((Int × Int) × Int)) (x_many : Int) (x_start : Int) (r : Bool) (h : p_law_right x_found x_ties_here x_many x_start = some r) : RetE (R_law_right WC) [(dL (dO (dT2 dI (dL dI)))) x_found, (dKT dI) x_ties_here, dI x_many, dI x_start] (dB r) .full false :=
  fnk 7 (by
    unfold p_law_right B_law_right
    exact (js_bind fun v3 h3 =>
(js_if (jt_orO (jt_not (jt_val (je_isi (d := ((dL (dO (dT2 dI (dL dI)))) x_found)) (jns 0 rfl) rfl kb_list_list))) (jto_b fun v2 h2 => (jto_p (jt_orO (jt_cmp (d := (dI (x_found.length : Int))) (d2 := (dI x_many)) (je_len (d := ((dL (dO (dT2 dI (dL dI)))) x_found)) (jns 0 rfl) (n_l _)) (jni 2 rfl rfl) (q_ne ek_int (x_found.length : Int) x_many)) (jto_b fun v1 h1 => (jto_p (jt_cmp (d := ((dO (dT2 dI (dL dI))) v1)) (d2 := ((dO (dT2 dI (dL dI))) (some ((0 : Int), [x_start])))) (je_ix (d := ((dL (dO (dT2 dI (dL dI)))) x_found)) (d2 := (dI x_start)) (jns 0 rfl) (jni 3 rfl rfl) (x_l (e := (dO (dT2 dI (dL dI)))) h1)) (jn_some (wF (je_tup (ja_cons jc (ja_cons (wF (je_lst (ja_cons (jni 3 rfl rfl) ja_nil))) ja_nil))))) (q_ne (ek_opt (ek_t2 ek_int (ek_list ek_int)) (fun _ => rfl)) v1 (some ((0 : Int), [x_start])))))) h2))) h3) (js_ret (q := (fun r => r)) (er := dB) (x := false) (l := .full) ret_R jc) (js_nil (js_bind fun v4 h4 =>
(js_forC (fz := []) (e := dI) (C := K_law_right_L1 WC x_found x_ties_here x_start) (er := dB) (lr := .full) (ra := false) (q := (fun r => r)) ret_R (jit_r1 (jni 2 rfl rfl) h4) (.so rfl rfl (.so rfl rfl (.no (.so rfl rfl (.no (.no (.no .nil))))))) (fun _ _ => rfl) (fun x10 s10 => p_law_right_L1_ok WC x_found x_ties_here x_start x10) (fun s10 =>
(js_SK (js_forC (fz := []) (e := (dT2 dI dI)) (C := K_law_right_L2 WC x_found x_ties_here) (er := dB) (lr := .full) (ra := false) (q := (fun r => r)) ret_R (jit_S (e := (dT2 dI dI)) (rd_sh (i := 1) rfl) (kd_KT (e := dI) _)) (.so rfl rfl (.so rfl rfl (.no (.no (.no (.no (.no .nil))))))) (fun _ _ => rfl) (fun x20 s20 => p_law_right_L2_ok WC x_found x_ties_here x20.1 x20.2) (fun s20 =>
(js_last (js_ret (q := (fun r => r)) (er := dB) (x := true) (l := .full) ret_R jc)))))))))))) h
theorem p_nearest_ok (WC : Addr) (x_found : List (Option (Int × (List Int)))) (x_done : List (Int × Bool)) (r : (Option Int)) (h : p_nearest x_found x_done = some r) : RetE (R_nearest WC) [(dL (dO (dT2 dI (dL dI)))) x_found, (dKI dB) x_done] ((dO dI) r) .full false :=
  fnk 4 (by
    unfold p_nearest B_nearest
    exact (js_bind fun v1 h1 =>
(js_bind fun v4 h4 =>
(js_set (fz := []) (e := (dL dI)) (wF (je_lcM (e := dI) (e2 := dI) (jit_r1 (je_len (d := ((dL (dO (dT2 dI (dL dI)))) x_found)) (jns 0 rfl) (n_l _)) h1) (fun _ => rfl) (fun y2 => (jto_b fun v3 h3 => (jto_p (jt_and (jt_cmp (d := ((dO (dT2 dI (dL dI))) v3)) (d2 := .non) (je_ix (d := ((dL (dO (dT2 dI (dL dI)))) x_found)) (d2 := (dI y2)) (jns 0 rfl) (jni 3 rfl rfl) (x_l (e := (dO (dT2 dI (dL dI)))) h3)) jc (q_isnot (e := (dT2 dI (dL dI))) (fun _ => rfl) _)) (jt_cmp (d := (dI y2)) (d2 := ((dKI dB) x_done)) (jni 3 rfl rfl) (jns 1 rfl) (q_ninKI (e := dB) x_done y2)))))) (fun y2 => (jeo_p (jni 3 rfl rfl))) h4)) rfl fun x_some =>
(js_last (js_bind fun v8 h8 =>
(js_ret (q := (fun r => r)) (er := (dO dI)) (x := (nearK x_some v8)) (l := .full) ret_R (je_minL (j := 3) rfl (jnv 2 rfl) (fun y5 => (jeo_b fun v6 h6 => (jeo_b fun v7 h7 => (jeo_p (je_ixI (d' := dI v7.1) (jn_o (e := (dT2 dI (dL dI))) (je_ix (d := ((dL (dO (dT2 dI (dL dI)))) x_found)) (d2 := (dI y5)) (jns 0 rfl) (jni 3 rfl rfl) (x_l (e := (dO (dT2 dI (dL dI)))) h6)) h7) jc rfl rfl))))) h8)))))))) h
abbrev K_ways_L1 (WC : Addr) (x_web : WebT) (x_a : Int) : (Unit) → CS := fun s => [some ⟨(dWeb WC) x_web, .s, true⟩, some ⟨dI x_a, .a, true⟩, none, none, none, none, none, none, none, none, none]
theorem p_ways_L1_ok (WC : Addr) (x_web : WebT) (x_a : Int) (x_tie : Int × Int × Int) : JS [some ⟨(dWeb WC) x_web, .s, true⟩, some ⟨dI x_a, .a, true⟩, some ⟨(dT3 dI dI dI) x_tie, .s, false⟩, none, none, none, none, none, none, none, none] ((FB_ways_1 WC)) (p_ways_L1 x_tie) (ΨL (K_ways_L1 WC x_web x_a)) := by
  unfold p_ways_L1 FB_ways_1
  exact (js_last (js_le [some ⟨(dWeb WC) x_web, .s, true⟩, some ⟨dI x_a, .a, true⟩, some ⟨(dT3 dI dI dI) x_tie, .s, false⟩, none, none, none, none, none, none, none, none] (.so rfl rfl (.so rfl rfl (.so rfl rfl (.no (.no (.no (.no (.no (.no (.no (.no .nil))))))))))) (js_if (jt_cmp (d := (dI x_tie.2.2)) (d2 := (dI (0 : Int))) (je_ixI (d' := dI x_tie.2.2) (jni 2 rfl rfl) jc rfl rfl) jc q_ltI) js_none (js_nil (js_endL (s := ()) (.so rfl rfl (.so rfl rfl (.no (.no (.no (.no (.no (.no (.no (.no (.no .nil))))))))))))))))
theorem hole_at {n : Nat} {c : Int} {A : Addr} {q : List Int} {s : List (Option (Int × List Int))} (hn : n < s.length) : ∃ ds, some (Cl.mk (dH (dO (dT2 dI (dL dI))) n (.tup [dI c, .exc A]) s) .f false) = some ⟨.lst ds, .f, false⟩ ∧ ds[n]? = some (.tup [.int c, .exc A]) ∧ D.lst (ds.set n (.tup [.int c, (dL dI) q])) = (dL (dO (dT2 dI (dL dI)))) (s.set n (some (c, q))) := by
  refine ⟨(s.map (dO (dT2 dI (dL dI)))).set n (.tup [dI c, .exc A]), rfl, List.getElem?_set_self (by rw [List.length_map]; exact hn), ?_⟩
  rw [List.set_set]
  show D.lst ((s.map _).set n ((dO (dT2 dI (dL dI))) (some (c, q)))) = D.lst ((s.set n (some (c, q))).map _)
  rw [List.map_set]
abbrev K_ways_L3 (WC : Addr) (x_web : WebT) (x_done : List (Int × Bool)) (x_here : Option Int) (x_cost : Int) (x_way : List Int) (n : Nat) (A : Addr) (kp : Nat) : ((List (Option (Int × (List Int))))) → CS := fun s => [some ⟨(dWeb WC) x_web, .s, true⟩, none, none, some ⟨dH (dO (dT2 dI (dL dI))) n (.tup [dI x_cost, .exc A]) s, .f, false⟩, some ⟨(dKI dB) x_done, .f, false⟩, some ⟨(dO dI) x_here, .a, true⟩, some ⟨dI x_cost, .a, true⟩, some ⟨(dL dI) x_way, .p kp, false⟩, none, none, none]
theorem p_ways_L3_ok (WC : Addr) (x_web : WebT) (x_done : List (Int × Bool)) (x_here : Option Int) (x_cost : Int) (x_way : List Int) (n : Nat) (A : Addr) (kp : Nat) (x_b : Int) (x_found : List (Option (Int × (List Int)))) : JS [some ⟨(dWeb WC) x_web, .s, true⟩, none, none, some ⟨dH (dO (dT2 dI (dL dI))) n (.tup [dI x_cost, .exc A]) x_found, .f, false⟩, some ⟨(dKI dB) x_done, .f, false⟩, some ⟨(dO dI) x_here, .a, true⟩, some ⟨dI x_cost, .a, true⟩, some ⟨(dL dI) x_way, .p kp, false⟩, some ⟨dI x_b, .s, false⟩, none, none] ((FB_ways_2 WC)) (p_ways_L3 x_web x_done x_here n x_cost x_way x_b x_found) (ΨL (K_ways_L3 WC x_web x_done x_here x_cost x_way n A kp)) := by
  unfold p_ways_L3 FB_ways_2
  exact (js_bind fun v0 h0 => js_bind fun v14 h14 =>
(js_bind fun v15 h15 =>
(js_bind fun v16 h16 =>
(js_set (fz := []) (e := dI) (je_add (jni 6 rfl rfl) (jn_o (e := dI) (je_methI (jns 0 rfl) (by walk_at "lk") (ja_cons (jn_o (e := dI) (jni 5 rfl (imm_opt (fun _ => rfl) x_here)) h14) (ja_cons (jni 8 rfl rfl) ja_nil)) (p_Web_weight_ok WC x_web v14 x_b v15 h15) (imm_opt (fun _ => rfl) v15)) h16)) rfl fun x_further =>
(js_last (js_bind fun v21 h21 =>
(js_ifJ (C := fun (s23 : (List (Option (Int × (List Int))))) => [some ⟨(dWeb WC) x_web, .s, true⟩, none, none, some ⟨dH (dO (dT2 dI (dL dI))) n (.tup [dI x_cost, .exc A]) s23, .f, false⟩, some ⟨(dKI dB) x_done, .f, false⟩, some ⟨(dO dI) x_here, .a, true⟩, some ⟨dI x_cost, .a, true⟩, some ⟨(dL dI) x_way, .p kp, false⟩, none, none, none]) (jt_andO (jt_cmp (d := (dI x_b)) (d2 := ((dKI dB) x_done)) (jni 8 rfl rfl) (jnv 4 rfl) (q_ninKI (e := dB) x_done x_b)) (jto_b fun v17 h17 => (jto_b fun v20 h20 => (jto_p (jt_orO (jt_cmp (d := ((dO (dT2 dI (dL dI))) v17)) (d2 := .non) (je_ix (d := dH (dO (dT2 dI (dL dI))) n (.tup [dI x_cost, .exc A]) x_found) (d2 := (dI x_b)) (jnv 3 rfl) (jni 8 rfl rfl) (x_lH (e := (dO (dT2 dI (dL dI)))) h17 (gH_ne h0))) jc (q_is (e := (dT2 dI (dL dI))) (fun _ => rfl) _)) (jto_b fun v18 h18 => (jto_b fun v19 h19 => (jto_p (jt_cmp (d := (dI x_further)) (d2 := (dI v19.1)) (jni 9 rfl rfl) (je_ixI (d' := dI v19.1) (jn_o (e := (dT2 dI (dL dI))) (je_ix (d := dH (dO (dT2 dI (dL dI))) n (.tup [dI x_cost, .exc A]) x_found) (d2 := (dI x_b)) (jnv 3 rfl) (jni 8 rfl rfl) (x_lH (e := (dO (dT2 dI (dL dI)))) h18 (gH_ne h0))) h19) jc rfl rfl) q_ltI)))) h20)))) h21) (js_last (js_bind fun v22 h22 =>
(js_putIH (i := 3) (e := (dO (dT2 dI (dL dI)))) (hne := gH_ne h0) rfl (jni 8 rfl rfl) (jn_some (wF (je_tup (ja_cons (jni 9 rfl rfl) (ja_cons (je_catI (e := dI) (jnv 7 rfl) (wF (je_lst (ja_cons (jni 8 rfl rfl) ja_nil))) h22 (fun _ => rfl)) ja_nil))))) fun x_found_2 =>
(js_endJ (s := x_found_2) (.so rfl rfl (.no (.no (.so rfl rfl (.so rfl rfl (.so rfl rfl (.so rfl rfl (.so (leM_pp _) rfl (.no (.no (.no .nil))))))))))))))) (js_endJ (s := x_found) (.so rfl rfl (.no (.no (.so rfl rfl (.so rfl rfl (.so rfl rfl (.so rfl rfl (.so (leM_pp _) rfl (.no (.no (.no .nil)))))))))))) fun s23 =>
(js_endL (s := s23) (.so rfl rfl (.no (.no (.so rfl rfl (.so rfl rfl (.so rfl rfl (.so rfl rfl (.so (leM_pp _) rfl (.no (.no (.no .nil)))))))))))))))))))
abbrev K_ways_L2 (WC : Addr) (x_web : WebT) : ((List (Option (Int × (List Int)))) × (List (Int × Bool)) × (Option Int)) → CS := fun s => [some ⟨(dWeb WC) x_web, .s, true⟩, none, none, some ⟨(dL (dO (dT2 dI (dL dI)))) s.1, .f, false⟩, some ⟨(dKI dB) s.2.1, .f, false⟩, some ⟨(dO dI) s.2.2, .a, true⟩, none, none, none, none, none]
theorem p_ways_L2_ok (WC : Addr) (x_web : WebT) (x_found : List (Option (Int × (List Int)))) (x_done : List (Int × Bool)) (x_here : Option Int) : JS [some ⟨(dWeb WC) x_web, .s, true⟩, none, none, some ⟨(dL (dO (dT2 dI (dL dI)))) x_found, .f, false⟩, some ⟨(dKI dB) x_done, .f, false⟩, some ⟨(dO dI) x_here, .a, true⟩, none, none, none, none, none] ((WB_ways_1 WC)) (p_ways_L2 x_web x_found x_done x_here) (ΨL (K_ways_L2 WC x_web)) := by
  unfold p_ways_L2 WB_ways_1
  exact (js_bind fun v7 h7 =>
(js_putP (fz := []) (eM := (dKI dB)) (W := (fun x_done_2 => (dKI dB) x_done_2)) (jp_name (i := 4) rfl) (jn_o (e := dI) (jni 5 rfl (imm_opt (fun _ => rfl) x_here)) h7) jc rfl (fun m' h => p_KI (e := dB) h) (fun _ _ => rfl) fun x_done_2 =>
(js_le [some ⟨(dWeb WC) x_web, .s, true⟩, none, none, some ⟨(dL (dO (dT2 dI (dL dI)))) x_found, .f, false⟩, some ⟨(dKI dB) x_done_2, .f, false⟩, some ⟨(dO dI) x_here, .a, true⟩, none, none, none, none, none] (.so rfl rfl (.no (.no (.so rfl rfl (.so rfl rfl (.so rfl rfl (.no (.no (.no (.no (.no .nil))))))))))) (js_bind fun v8 h8 =>
(js_bind fun v9 h9 =>
(js_bind fun q11 h10 =>
(js_bind fun v12 h12 =>
(js_bind fun v13 h13 =>
(js_borT (e := (dO (dT2 dI (dL dI)))) (n := (nH x_found.length v8)) (y := v9) (c := q11.1) (dw := (dL dI) q11.2) (C := fun A kp => K_ways_L3 WC x_web x_done_2 x_here q11.1 q11.2 (nH x_found.length v8) A kp) (g := fun _ => (dL dI) q11.2) (W := fun s24 => (dL (dO (dT2 dI (dL dI)))) (s24.set (nH x_found.length v8) (some q11))) (cs9 := fun s24 => [some ⟨(dWeb WC) x_web, .s, true⟩, none, none, some ⟨(dL (dO (dT2 dI (dL dI)))) (s24.set (nH x_found.length v8) (some q11)), .f, false⟩, some ⟨(dKI dB) x_done_2, .f, false⟩, none, none, none, none, none, none]) rfl (jn_o (e := dI) (jni 5 rfl (imm_opt (fun _ => rfl) x_here)) h8) h9 rfl (by rw [h10]; rfl) rfl rfl
(fun A kp => js_last (js_for (fz := []) (e := dI) (C := K_ways_L3 WC x_web x_done_2 x_here q11.1 q11.2 (nH x_found.length v8) A kp) (jit_l (e := dI) (wF (je_meth (jns 0 rfl) (by walk_at "lk") (ja_cons (jn_o (e := dI) (jni 5 rfl (imm_opt (fun _ => rfl) x_here)) h12) ja_nil) (p_Web_tied_ok WC x_web v12 v13 h13)))) (.so rfl rfl (.no (.no (.so rfl rfl (.so rfl rfl (.so rfl rfl (.so rfl rfl (.so (leM_pp _) rfl (.no (.no (.no .nil))))))))))) (fun _ _ => rfl) (fun x24 s24 => p_ways_L3_ok WC x_web x_done_2 x_here q11.1 q11.2 (nH x_found.length v8) A kp x24 s24) (fun s24 =>
(js_bind fun _ _ => js_endJ (s := s24) (.so rfl rfl (.no (.no (.so rfl rfl (.so rfl rfl (.so rfl rfl (.so rfl rfl (.so (leM_pp _) rfl (.no (.no (.no .nil)))))))))))))))
(fun A kp s24 hs => hole_at (gN_of hs)) (fun _ _ _ => rfl) (fun _ => rfl) (fun _ => rfl) (fun _ _ _ => .so rfl (.inl rfl) (.no (.no (.so rfl (.inr rfl) (.so rfl (.inr rfl) (.no (.no (.no (.no (.no (.no .nil))))))))))) (fun _ => rfl) fun s24 =>
(js_last (js_bind fun v25 h25 =>
(js_set (fz := []) (e := (dO dI)) (je_callI (ja_cons (jnv 3 rfl) (ja_cons (jnv 4 rfl) ja_nil)) (p_nearest_ok WC (s24.set (nH x_found.length v8) (some q11)) x_done_2 v25 h25) (imm_opt (fun _ => rfl) v25)) rfl fun x_here_2 =>
(js_endL (s := (s24.set (nH x_found.length v8) (some q11), x_done_2, x_here_2)) (.so rfl rfl (.no (.no (.so rfl rfl (.so rfl rfl (.so rfl rfl (.no (.no (.no (.no (.no .nil))))))))))))))))))))))))
theorem p_ways_ok (WC : Addr) (x_web : WebT) (x_a : Int) (r : (List (Option (Int × (List Int))))) (h : p_ways x_web x_a = some r) : RetE (R_ways WC) [(dWeb WC) x_web, dI x_a] ((dL (dO (dT2 dI (dL dI)))) r) .full false :=
  fnk 11 (by
    unfold p_ways B_ways
    exact (js_bind fun v1 h1 =>
(js_for (fz := []) (e := (dT3 dI dI dI)) (C := K_ways_L1 WC x_web x_a) (jit_l (e := (dT3 dI dI dI)) (wF (je_meth (jns 0 rfl) (by walk_at "lk") ja_nil (p_Web_ties_ok WC x_web v1 h1)))) (.so rfl rfl (.so rfl rfl (.no (.no (.no (.no (.no (.no (.no (.no (.no .nil))))))))))) (fun _ _ => rfl) (fun x2 s2 => p_ways_L1_ok WC x_web x_a x2) (fun s2 =>
(js_bind fun v3 h3 =>
(js_bind fun v4 h4 =>
(js_bind fun v6 h6 =>
(js_set (fz := []) (e := (dL (dO (dT2 dI (dL dI))))) (wF (je_lcQ (e := dI) (e2 := (dO (dT2 dI (dL dI)))) (F := fun (y5 : Int) => (none : Option (Int × (List Int)))) (jit_r1 (je_methI (jns 0 rfl) (by walk_at "lk") ja_nil (p_Web_size_ok WC x_web v3 h3) rfl) h4) (fun _ => rfl) (fun y5 => (jn_none (dT2 dI (dL dI)) jc)) h6)) rfl fun x_found =>
(js_putI (i := 3) (e := (dO (dT2 dI (dL dI)))) rfl rfl (jni 1 rfl rfl) (jn_some (wF (je_tup (ja_cons jc (ja_cons (wF (je_lst (ja_cons (jni 1 rfl rfl) ja_nil))) ja_nil))))) fun x_found_2 =>
(js_set (fz := []) (e := (dKI dB)) je_dk rfl fun x_done =>
(js_set (fz := []) (e := dI) (jni 1 rfl rfl) rfl fun x_here =>
(js_le [some ⟨(dWeb WC) x_web, .s, true⟩, some ⟨dI x_a, .a, true⟩, none, some ⟨(dL (dO (dT2 dI (dL dI)))) x_found_2, .f, false⟩, some ⟨(dKI dB) x_done, .f, false⟩, some ⟨dI x_here, .f, false⟩, none, none, none, none, none] (.so rfl rfl (.so rfl rfl (.no (.so rfl rfl (.so rfl rfl (.so rfl rfl (.no (.no (.no (.no (.no .nil))))))))))) (js_while (C := K_ways_L2 WC x_web) (.so rfl rfl (.no (.no (.so rfl rfl (.so rfl rfl (.so rfl rfl (.no (.no (.no (.no (.no .nil))))))))))) (fun s26 => (jto_p (jt_cmp (d := ((dO dI) s26.2.2)) (d2 := .non) (jni 5 rfl (imm_opt (fun _ => rfl) s26.2.2)) jc (q_isnot (e := dI) (fun _ => rfl) _)))) (fun s26 => p_ways_L2_ok WC x_web s26.1 s26.2.1 s26.2.2) (fun s26 =>
(js_last (js_retV (q := (fun r => r)) (er := (dL (dO (dT2 dI (dL dI))))) (x := s26.1) (m := .f) (i := 3) ret_R rfl md_f)))))))))))))))) h
abbrev K_law_L1 (WC : Addr) (x_many : Int) (x_ties_here : List ((Int × Int) × Int)) (x_web : WebT) : (Unit) → CS := fun s => [none, none, some ⟨dI x_many, .a, true⟩, some ⟨(dKT dI) x_ties_here, .f, false⟩, some ⟨(dWeb WC) x_web, .f, false⟩, none, none, none, none, none, none, none]
theorem p_law_L1_ok (WC : Addr) (x_many : Int) (x_ties_here : List ((Int × Int) × Int)) (x_web : WebT) (x_start : Int) : JS [none, none, some ⟨dI x_many, .a, true⟩, some ⟨(dKT dI) x_ties_here, .f, false⟩, some ⟨(dWeb WC) x_web, .f, false⟩, none, none, some ⟨dI x_start, .s, false⟩, none, none, none, none] ((FB_law_1 WC)) (p_law_L1 x_many x_ties_here x_web x_start) (ΨC (K_law_L1 WC x_many x_ties_here x_web) dB .full false) := by
  unfold p_law_L1 FB_law_1
  exact (js_bind fun v8 h8 =>
(js_set (fz := []) (e := (dL (dO (dT2 dI (dL dI))))) (wF (je_call (ja_cons (jnv 4 rfl) (ja_cons (jni 7 rfl rfl) ja_nil)) (p_ways_ok WC x_web x_start v8 h8))) rfl fun x_found =>
(js_bind fun v9 h9 =>
(js_if (jt_not (jt_val (je_callI (ja_cons (jnv 8 rfl) (ja_cons (jnv 3 rfl) (ja_cons (jni 2 rfl rfl) (ja_cons (jni 7 rfl rfl) ja_nil)))) (p_law_right_ok WC x_found x_ties_here x_many x_start v9 h9) rfl))) (js_le [none, none, some ⟨dI x_many, .a, true⟩, some ⟨(dKT dI) x_ties_here, .f, false⟩, some ⟨(dWeb WC) x_web, .f, false⟩, none, none, some ⟨dI x_start, .s, false⟩, some ⟨(dL (dO (dT2 dI (dL dI)))) x_found, .f, false⟩, none, none, none] (.no (.no (.so rfl rfl (.so rfl rfl (.so rfl rfl (.no (.no (.so rfl rfl (.so rfl rfl (.no (.no (.no .nil)))))))))))) (js_ret (q := (fun r => Ctl.rt r)) (er := dB) (x := false) (l := .full) ret_C jc)) (js_nil (js_forON (f := dI) (e := dI) (j := 8) (i := 9) rfl rfl rfl rfl fun x_found_2 =>
(js_last (js_clrP (e := (dO (dT2 dI (dL (dO dI))))) (w := ((dL (dO (dT2 dI (dL (dO dI))))) ([] : List (Option (Int × (List (Option Int))))))) (jp_name (i := 8) rfl) rfl (js_endC (s := ()) (.no (.no (.so rfl rfl (.so rfl rfl (.so rfl rfl (.no (.no (.no (.no (.no (.no (.no .nil)))))))))))))))))))))
theorem p_law_ok (WC : Addr) (x_script : List Int) (r : Bool) (h : p_law x_script = some r) : RetE (R_law WC) [(dF dI) x_script] (dB r) .full false :=
  fnk 12 (by
    unfold p_law B_law
    exact (js_bind fun v1 h1 =>
(js_set (fz := []) (e := dI) (je_modL (je_mulR (je_add (je_callI (ja_cons (jni 0 rfl (imm_flI x_script)) (ja_cons jc ja_nil)) (p_law_cell_at_ok WC x_script (0 : Int) v1 h1) rfl) jc) jc) jc) rfl fun x_head =>
(js_set (fz := []) (e := dI) (je_add jc (je_modL (jni 1 rfl rfl) jc)) rfl fun x_many =>
(js_ifJ (C := fun (s2 : Int) => [some ⟨(dF dI) x_script, .a, true⟩, some ⟨dI x_head, .a, true⟩, some ⟨dI s2, .a, true⟩, none, none, none, none, none, none, none, none, none]) (jt_cmp (d := (dI ((x_head / (12 : Int)) % (7 : Int)))) (d2 := (dI (3 : Int))) (je_modL (je_divL (jni 1 rfl rfl) jc) jc) jc (q_eq ek_int ((x_head / (12 : Int)) % (7 : Int)) (3 : Int))) (js_last (js_set (fz := []) (e := dI) jc rfl fun x_many_2 =>
(js_endJ (s := x_many_2) (.so rfl rfl (.so rfl rfl (.so rfl rfl (.no (.no (.no (.no (.no (.no (.no (.no (.no .nil))))))))))))))) (js_endJ (s := x_many) (.so rfl rfl (.so rfl rfl (.so rfl rfl (.no (.no (.no (.no (.no (.no (.no (.no (.no .nil))))))))))))) fun s2 =>
(js_le [some ⟨(dF dI) x_script, .a, true⟩, some ⟨dI x_head, .a, true⟩, some ⟨dI s2, .a, true⟩, none, none, none, none, none, none, none, none, none] (.so rfl rfl (.so rfl rfl (.so rfl rfl (.no (.no (.no (.no (.no (.no (.no (.no (.no .nil)))))))))))) (js_bind fun v3 h3 =>
(js_set (fz := []) (e := (dKT dI)) (wF (je_call (ja_cons (jni 0 rfl (imm_flI x_script)) (ja_cons (jni 2 rfl rfl) (ja_cons jc ja_nil))) (p_law_ties_ok WC x_script s2 (120 : Int) v3 h3))) rfl fun x_ties_here =>
(js_bind fun v4 h4 =>
(js_bind fun v5 h5 =>
(js_set (fz := []) (e := (dWeb WC)) (je_new (ja_cons (jni 2 rfl rfl) (ja_cons (wS (je_call (ja_cons (jnv 3 rfl) (ja_cons (je_divL (jni 1 rfl rfl) jc) ja_nil)) (p_law_listed_ok WC x_ties_here (x_head / (7 : Int)) v4 h4))) ja_nil)) (p_Web_init_ok WC s2 v4 v5 h5)) rfl fun x_web =>
(js_bind fun v6 h6 =>
(js_set (fz := []) (e := dI) (je_modO (je_divL (jni 1 rfl rfl) jc) (jni 2 rfl rfl) h6) rfl fun x_one =>
(js_bind fun v7 h7 =>
(js_set (fz := []) (e := dI) (je_modO (je_divL (jni 1 rfl rfl) jc) (jni 2 rfl rfl) h7) rfl fun x_other =>
(js_forC (fz := []) (e := dI) (C := K_law_L1 WC s2 x_ties_here x_web) (er := dB) (lr := .full) (ra := false) (q := (fun r => r)) ret_R (jit_l (e := dI) (wF (je_lst (ja_cons (jni 5 rfl rfl) (ja_cons (jni 6 rfl rfl) (ja_cons (jni 5 rfl rfl) ja_nil)))))) (.no (.no (.so rfl rfl (.so rfl rfl (.so rfl rfl (.no (.no (.no (.no (.no (.no (.no .nil)))))))))))) (fun _ _ => rfl) (fun x11 s11 => p_law_L1_ok WC s2 x_ties_here x_web x11) (fun s11 =>
(js_last (js_bind fun v12 h12 =>
(js_bind fun v15 h15 =>
(js_ret (q := (fun r => r)) (er := dB) (x := decide (v12 = (sort3 v15))) (l := .full) ret_R (je_cmp (d := ((dL (dT3 dI dI dI)) v12)) (d2 := ((dL (dT3 dI dI dI)) (sort3 v15))) (wF (je_meth (jnv 4 rfl) (by walk_at "lk") ja_nil (p_Web_ties_ok WC x_web v12 h12))) (je_biI (ja_cons (je_bor 3 (wF (je_S (je_lcM (e := (dT2 dI dI)) (e2 := (dT3 dI dI dI)) (jit_S (e := (dT2 dI dI)) (rd_sh (i := 3) rfl) (kd_KT (e := dI) _)) (fun _ => rfl) (fun y13 => (jto_p jt_yes)) (fun y13 => (jeo_b fun v14 h14 => (jeo_p (wF (je_tup (ja_cons (jni 10 rfl rfl) (ja_cons (jni 11 rfl rfl) (ja_cons (je_ixI (d := ((dKT dI) x_ties_here)) (d2 := ((dT2 dI dI) (y13.1, y13.2))) (jns 3 rfl) (wF (je_tup (ja_cons (jni 10 rfl rfl) (ja_cons (jni 11 rfl rfl) ja_nil)))) (x_KT (e := dI) h14) rfl) ja_nil)))))))) h15)))) ja_nil) (b_sorted3 _) (.inr ⟨whole_map (fun _ => rfl), rfl⟩)) (q_eq (ek_list (ek_t3 ek_int ek_int ek_int)) v12 (sort3 v15)))))))))))))))))))))))) h
end
end Pr
set_option Elab.async false
set_option linter.all false
set_option maxRecDepth 100000
set_option maxHeartbeats 4000000
set_option synthInstance.maxSize 2000
set_option synthInstance.maxHeartbeats 400000
namespace Pr
open PySem PySem.Spec L2 Ev Tg
open PyProof.Rows hiding St
noncomputable section
def topS (i : Nat) : Stmt := PySem.Challenge.pw_pairsheath_k71_ways_walked.main.body.getD i (.Pass ⟨0, 0, 0, 0⟩)
abbrev clsS (i j : Nat) : Stmt := inClass (topS i) j
structure WebK (K : PySem.W.Frag) (mg : Str → Option Value) (WC : Addr) : Prop where
  cl : Cls K WC
  na_many : NoAttr K WC "many"
  na_table : NoAttr K WC "table"
  na_ends : NoAttr K WC "ends"
  c_MOST_POINTS : ∃ t, mg "MOST_POINTS" = some (.int (24) t)
section
variable {P : Program} {w : World} {K : PySem.W.Frag} {mg : Str → Option Value} {base : Heap} {f : Addr} {fd : FuncData}
theorem hrm {k j : Nat} {A : Around} (h : Room k A) (l : j ≤ k := by decide) : Room j A := h.mono l
abbrev s_Web_init : Stmt := clsS 11 0
abbrev N_Web_init : List Str := ["self", "many", "ties", "a", "b", "heavy", "k"]
theorem sc_Web_init : FnScope N_Web_init ["self", "many", "ties"] (defScope s_Web_init) := ⟨rfl, rfl, rfl, by decide +kernel, rfl, by decide +kernel, by decide +kernel⟩
theorem ok_Web_init (F : Fun K "__init__" "Web.__init__" s_Web_init f fd) (hB : Blts mg) {WC : Addr} (T : WebK K mg WC)  : FnOk P w K mg base CX0 1 f fd ["self", "many", "ties"] (spI K 3 WC I_Web) := by
  refine init_ok (k := 0) F sc_Web_init (hφ := I_Web_ok WC) (hN := rfl) fun cdv A outer s H E hr => ?_
  have hu := hu_room hr
  have nd := sc_Web_init.nd
  exact (s_cons (s_if (t_bool (t_or (t_cmp (x_lt hu) (e_name 1) e_int) (t_or1 (t_cmp (x_gt hu) (e_name 1) (e_gint T.c_MOST_POINTS))))) (s_one s_bad) s_nil) (s_cons (s_atpO [] T.cl T.na_many (p_name 0) (e_name 1)) (s_cons (s_atpO [] T.cl T.na_table (p_name 0) e_dictT) (s_cons (s_atpO [] T.cl T.na_ends (p_name 0) (e_lc [("k", 6)] rfl nd (pis (i_range1 hB.range (a_cons (e_name 1) a_nil) len1)) (blkOk_by (N := N_Web_init) (sc := defScope s_Web_init) (by decide +kernel)) (fun _ _ _ _ _ => (g_name 6 nd)) (fun _ _ _ _ _ => ts_nil) (fun _ _ _ _ _ => (e_lst a_nil)))) (s_one (s_for [] rfl (i_lst (e_name 2)) (g_tup rfl (gs_cons (g_name 3 nd) (gs_cons (g_name 4 nd) (gs_cons (g_name 5 nd) gs_nil)))) (s_cons (s_if (t_bool (t_or (t_cmp (x_eq hu) (e_name 3) (e_name 4)) (t_or (t_cmp (x_lt hu) (e_bi (k_min2 rfl) hB.min PyProof.Rows.boot_min (a_cons (e_name 3) (a_cons (e_name 4) a_nil))) e_int) (t_or1 (t_cmp (x_ge hu) (e_bi (k_max2 rfl) hB.max PyProof.Rows.boot_max (a_cons (e_name 3) (a_cons (e_name 4) a_nil))) (e_name 1)))))) (s_one s_bad) s_nil) (s_cons (s_if (t_cmp (x_in hu) (e_tup (a_cons (e_name 3) (a_cons (e_name 4) a_nil))) (e_atO T.cl T.na_table (e_name 0))) (s_one s_bad) s_nil) (s_cons (s_putp [] hu (p_fldO T.cl T.na_table (p_name 0)) (e_tup (a_cons (e_name 3) (a_cons (e_name 4) a_nil))) (e_name 5)) (s_cons (s_putp [] hu (p_fldO T.cl T.na_table (p_name 0)) (e_tup (a_cons (e_name 4) (a_cons (e_name 3) a_nil))) (e_name 5)) (s_cons (s_appp [] (p_ix hu (p_fldO T.cl T.na_ends (p_name 0)) (e_name 3)) (a_cons (e_name 4) a_nil)) (s_one (s_appp [] (p_ix hu (p_fldO T.cl T.na_ends (p_name 0)) (e_name 4)) (a_cons (e_name 3) a_nil))))))))))))))
abbrev s_Web_size : Stmt := clsS 11 1
abbrev N_Web_size : List Str := ["self"]
theorem sc_Web_size : FnScope N_Web_size ["self"] (defScope s_Web_size) := ⟨rfl, rfl, rfl, by decide +kernel, rfl, by decide +kernel, by decide +kernel⟩
theorem ok_Web_size (F : Fun K "size" "Web.size" s_Web_size f fd) (hB : Blts mg) {WC : Addr} (T : WebK K mg WC)  : FnOk P w K mg base CX0 1 f fd ["self"] (spD K 1 (R_Web_size WC)) := by
  refine def_ok (k := 0) F sc_Web_size fun cdv A outer s H E hr => ?_
  exact (s_one (s_ret (e_at T.cl T.na_many (e_name 0))))
abbrev s_Web_ties : Stmt := clsS 11 2
abbrev N_Web_ties : List Str := ["self", "ends", "heavy"]
theorem sc_Web_ties : FnScope N_Web_ties ["self"] (defScope s_Web_ties) := ⟨rfl, rfl, rfl, by decide +kernel, rfl, by decide +kernel, by decide +kernel⟩
theorem ok_Web_ties (F : Fun K "ties" "Web.ties" s_Web_ties f fd) (hB : Blts mg) {WC : Addr} (T : WebK K mg WC)  : FnOk P w K mg base CX0 1 f fd ["self"] (spD K 1 (R_Web_ties WC)) := by
  refine def_ok (k := 0) F sc_Web_ties fun cdv A outer s H E hr => ?_
  have hu := hu_room hr
  have nd := sc_Web_ties.nd
  exact (s_one (s_ret (e_bi (k_sorted rfl) hB.sorted PyProof.Rows.boot_sorted (a_cons (e_lcDT [("ends", 1), ("heavy", 2)] rfl nd (dp_fld 0 T.cl T.na_table) (blkOk_by (N := N_Web_ties) (sc := defScope s_Web_ties) (by decide +kernel)) (fun _ _ _ _ _ => (g_tup rfl (gs_cons (g_name 1 nd) (gs_cons (g_name 2 nd) gs_nil)))) (fun _ _ _ _ _ => (ts_one (t_cmp (x_lt hu) (x_ix hu (e_name 1) e_int) (x_ix hu (e_name 1) e_int)))) (fun _ _ _ _ _ => (e_tup (a_cons (x_ix hu (e_name 1) e_int) (a_cons (x_ix hu (e_name 1) e_int) (a_cons (e_name 2) a_nil)))))) a_nil))))
abbrev s_Web_weight : Stmt := clsS 11 3
abbrev N_Web_weight : List Str := ["self", "a", "b"]
theorem sc_Web_weight : FnScope N_Web_weight ["self", "a", "b"] (defScope s_Web_weight) := ⟨rfl, rfl, rfl, by decide +kernel, rfl, by decide +kernel, by decide +kernel⟩
theorem ok_Web_weight (F : Fun K "weight" "Web.weight" s_Web_weight f fd) (hB : Blts mg) {WC : Addr} (T : WebK K mg WC)  : FnOk P w K mg base CX0 1 f fd ["self", "a", "b"] (spD K 3 (R_Web_weight WC)) := by
  refine def_ok (k := 0) F sc_Web_weight fun cdv A outer s H E hr => ?_
  have hu := hu_room hr
  exact (s_one (s_ret (e_dget hu (e_at T.cl T.na_table (e_name 0)) (e_tup (a_cons (e_name 1) (a_cons (e_name 2) a_nil))))))
abbrev s_Web_tied : Stmt := clsS 11 4
abbrev N_Web_tied : List Str := ["self", "a"]
theorem sc_Web_tied : FnScope N_Web_tied ["self", "a"] (defScope s_Web_tied) := ⟨rfl, rfl, rfl, by decide +kernel, rfl, by decide +kernel, by decide +kernel⟩
theorem ok_Web_tied (F : Fun K "tied" "Web.tied" s_Web_tied f fd) (hB : Blts mg) {WC : Addr} (T : WebK K mg WC)  : FnOk P w K mg base CX0 1 f fd ["self", "a"] (spD K 2 (R_Web_tied WC)) := by
  refine def_ok (k := 0) F sc_Web_tied fun cdv A outer s H E hr => ?_
  have hu := hu_room hr
  exact (s_one (s_ret (e_bi (k_sorted rfl) hB.sorted PyProof.Rows.boot_sorted (a_cons (x_ix hu (e_at T.cl T.na_ends (e_name 0)) (e_name 1)) a_nil))))
abbrev s_law_cell_at : Stmt := topS 13
abbrev N_law_cell_at : List Str := ["_law_script", "_law_k"]
theorem sc_law_cell_at : FnScope N_law_cell_at ["_law_script", "_law_k"] (defScope s_law_cell_at) := ⟨rfl, rfl, rfl, by decide +kernel, rfl, by decide +kernel, by decide +kernel⟩
theorem ok_law_cell_at (F : Fun K "_law_cell_at" "_law_cell_at" s_law_cell_at f fd) (hB : Blts mg) {WC : Addr} (T : WebK K mg WC)  : FnOk P w K mg base CX0 1 f fd ["_law_script", "_law_k"] (spD K 2 (R_law_cell_at WC)) := by
  refine def_ok (k := 0) F sc_law_cell_at fun cdv A outer s H E hr => ?_
  have hu := hu_room hr
  exact (s_cons (s_if (t_cmp (x_lt hu) (e_name 1) (e_len hB.len (a_cons (e_name 0) a_nil))) (s_one (s_ret (x_ix hu (e_name 0) (e_name 1)))) s_nil) (s_one (s_ret e_int)))
abbrev s_law_whole : Stmt := topS 14
abbrev N_law_whole : List Str := ["_law_found"]
theorem sc_law_whole : FnScope N_law_whole ["_law_found"] (defScope s_law_whole) := ⟨rfl, rfl, rfl, by decide +kernel, rfl, by decide +kernel, by decide +kernel⟩
theorem ok_law_whole (F : Fun K "_law_whole" "_law_whole" s_law_whole f fd) (hB : Blts mg) {WC : Addr} (T : WebK K mg WC)  : FnOk P w K mg base CX0 1 f fd ["_law_found"] (spD K 1 (R_law_whole WC)) := by
  refine def_ok (k := 0) F sc_law_whole fun cdv A outer s H E hr => ?_
  exact (s_one (s_ret (e_and (e_isi "int" hB.isinstance hB.int PyProof.Rows.boot_int (e_name 0)) (e_one _ (e_not (e_isi "bool" hB.isinstance hB.bool bt_bool (e_name 0)))))))
abbrev s_law_tie : Stmt := topS 15
abbrev N_law_tie : List Str := ["_law_a", "_law_b"]
theorem sc_law_tie : FnScope N_law_tie ["_law_a", "_law_b"] (defScope s_law_tie) := ⟨rfl, rfl, rfl, by decide +kernel, rfl, by decide +kernel, by decide +kernel⟩
theorem ok_law_tie (F : Fun K "_law_tie" "_law_tie" s_law_tie f fd) (hB : Blts mg) {WC : Addr} (T : WebK K mg WC)  : FnOk P w K mg base CX0 1 f fd ["_law_a", "_law_b"] (spD K 2 (R_law_tie WC)) := by
  refine def_ok (k := 0) F sc_law_tie fun cdv A outer s H E hr => ?_
  exact (s_one (s_ret (e_tup (a_cons (e_bi (k_min2 rfl) hB.min PyProof.Rows.boot_min (a_cons (e_name 0) (a_cons (e_name 1) a_nil))) (a_cons (e_bi (k_max2 rfl) hB.max PyProof.Rows.boot_max (a_cons (e_name 0) (a_cons (e_name 1) a_nil))) a_nil)))))
abbrev s_law_drawn : Stmt := topS 16
abbrev N_law_drawn : List Str := ["_law_cell", "_law_factor", "_law_many", "_law_number"]
theorem sc_law_drawn : FnScope N_law_drawn ["_law_cell", "_law_factor", "_law_many"] (defScope s_law_drawn) := ⟨rfl, rfl, rfl, by decide +kernel, rfl, by decide +kernel, by decide +kernel⟩
theorem ok_law_drawn (F : Fun K "_law_drawn" "_law_drawn" s_law_drawn f fd) (hB : Blts mg) {WC : Addr} (T : WebK K mg WC)  : FnOk P w K mg base CX0 1 f fd ["_law_cell", "_law_factor", "_law_many"] (spD K 3 (R_law_drawn WC)) := by
  refine def_ok (k := 0) F sc_law_drawn fun cdv A outer s H E hr => ?_
  have nd := sc_law_drawn.nd
  exact (s_cons (s_set [] 3 (e_mod (e_mul (e_plus (e_name 0) e_int) (e_name 1)) e_int) nd) (s_one (s_ret (e_mod (e_mod (e_mul (e_name 3) (e_name 3)) e_int) (e_name 2)))))
abbrev s_law_cost : Stmt := topS 17
abbrev N_law_cost : List Str := ["_law_cell"]
theorem sc_law_cost : FnScope N_law_cost ["_law_cell"] (defScope s_law_cost) := ⟨rfl, rfl, rfl, by decide +kernel, rfl, by decide +kernel, by decide +kernel⟩
theorem ok_law_cost (F : Fun K "_law_cost" "_law_cost" s_law_cost f fd) (hB : Blts mg) {WC : Addr} (T : WebK K mg WC)  : FnOk P w K mg base CX0 1 f fd ["_law_cell"] (spD K 1 (R_law_cost WC)) := by
  refine def_ok (k := 0) F sc_law_cost fun cdv A outer s H E hr => ?_
  have hu := hu_room hr
  exact (s_cons (s_if (t_cmp (x_eq hu) (e_mod (e_name 0) e_int) e_int) (s_one (s_ret (e_mod (e_div (e_name 0) e_int) (e_pow e_int e_int)))) s_nil) (s_one (s_ret (e_mod (e_div (e_name 0) e_int) e_int))))
abbrev s_law_listed : Stmt := topS 19
abbrev N_law_listed : List Str := ["_law_ties_here", "_law_way", "_law_found", "_law_a", "_law_b"]
theorem sc_law_listed : FnScope N_law_listed ["_law_ties_here", "_law_way"] (defScope s_law_listed) := ⟨rfl, rfl, rfl, by decide +kernel, rfl, by decide +kernel, by decide +kernel⟩
theorem ok_law_listed (F : Fun K "_law_listed" "_law_listed" s_law_listed f fd) (hB : Blts mg) {WC : Addr} (T : WebK K mg WC)  : FnOk P w K mg base CX0 1 f fd ["_law_ties_here", "_law_way"] (spD K 2 (R_law_listed WC)) := by
  refine def_ok (k := 0) F sc_law_listed fun cdv A outer s H E hr => ?_
  have hu := hu_room hr
  have nd := sc_law_listed.nd
  exact (s_cons (s_set [] 2 (e_lst a_nil) nd) (s_cons (s_forK rfl (ds_name 0) (g_tup rfl (gs_cons (g_name 3 nd) (gs_cons (g_name 4 nd) gs_nil))) (s_one (s_if (t_cmp (x_eq hu) (e_mod (e_plus (e_plus (e_mul e_int (e_name 3)) (e_name 4)) (e_name 1)) e_int) e_int) (s_one (s_lop [] 2 l_app PySem.F.slot_list_append PySem.F.type_list_append (a_cons (e_tup (a_cons (e_name 3) (a_cons (e_name 4) (a_cons (x_ix hu (e_name 0) (e_tup (a_cons (e_name 3) (a_cons (e_name 4) a_nil)))) a_nil)))) a_nil))) (s_one (s_lop [] 2 l_app PySem.F.slot_list_append PySem.F.type_list_append (a_cons (e_tup (a_cons (e_name 4) (a_cons (e_name 3) (a_cons (x_ix hu (e_name 0) (e_tup (a_cons (e_name 3) (a_cons (e_name 4) a_nil)))) a_nil)))) a_nil)))))) (s_one (s_fz [2] (s_ret (x_ix hu (e_lst (a_cons (e_name 2) (a_cons (e_rev (e_name 2)) a_nil))) (e_mod (e_name 1) e_int)))))))
abbrev s_law_ties : Stmt := topS 18
abbrev N_law_ties : List Str := ["_law_script", "_law_many", "_law_until", "_law_ties_here", "_law_cell", "_law_tie_here"]
theorem sc_law_ties : FnScope N_law_ties ["_law_script", "_law_many", "_law_until"] (defScope s_law_ties) := ⟨rfl, rfl, rfl, by decide +kernel, rfl, by decide +kernel, by decide +kernel⟩
theorem ok_law_ties (F : Fun K "_law_ties" "_law_ties" s_law_ties f fd) (hB : Blts mg) {WC : Addr} (T : WebK K mg WC) (G_law_tie : FnD P w K mg base 1 "_law_tie" 2 (R_law_tie WC)) (G_law_drawn : FnD P w K mg base 1 "_law_drawn" 3 (R_law_drawn WC)) (G_law_cost : FnD P w K mg base 1 "_law_cost" 1 (R_law_cost WC)) : FnOk P w K mg base CX0 2 f fd ["_law_script", "_law_many", "_law_until"] (spD K 3 (R_law_ties WC)) := by
  refine def_ok (k := 1) F sc_law_ties fun cdv A outer s H E hr => ?_
  have hu := hu_room hr
  have nd := sc_law_ties.nd
  exact (s_cons (s_set [] 3 e_dictT nd) (s_cons (s_for [] rfl (i_lst (e_sl (e_name 0) (o_some e_int) (o_some (e_name 2)))) (g_name 4 nd) (s_cons (s_set [] 5 (e_call G_law_tie (hrm hr) (a_cons (e_call G_law_drawn (hrm hr) (a_cons (e_name 4) (a_cons e_int (a_cons (e_name 1) a_nil))) (hl := len3)) (a_cons (e_call G_law_drawn (hrm hr) (a_cons (e_name 4) (a_cons e_int (a_cons (e_name 1) a_nil))) (hl := len3)) a_nil)) (hl := len2)) nd) (s_one (s_if (t_bool (t_and (t_cmp (x_ne hu) (x_ix hu (e_name 5) e_int) (x_ix hu (e_name 5) e_int)) (t_and1 (t_cmp (x_nin hu) (e_name 5) (e_name 3))))) (s_one (s_putp [] hu (p_name 3) (e_name 5) (e_call G_law_cost (hrm hr) (a_cons (e_name 4) a_nil) (hl := len1)))) s_nil)))) (s_one (s_retv 3))))
abbrev s_law_is_way : Stmt := topS 20
abbrev N_law_is_way : List Str := ["_law_told", "_law_ties_here", "_law_start", "_law_end", "_law_way", "_law_cost_here", "_law_k", "_law_tie_here", "_law_a"]
theorem sc_law_is_way : FnScope N_law_is_way ["_law_told", "_law_ties_here", "_law_start", "_law_end"] (defScope s_law_is_way) := ⟨rfl, rfl, rfl, by decide +kernel, rfl, by decide +kernel, by decide +kernel⟩
theorem ok_law_is_way (F : Fun K "_law_is_way" "_law_is_way" s_law_is_way f fd) (hB : Blts mg) {WC : Addr} (T : WebK K mg WC) (G_law_whole : FnD P w K mg base 1 "_law_whole" 1 (R_law_whole WC)) (G_law_tie : FnD P w K mg base 1 "_law_tie" 2 (R_law_tie WC)) : FnOk P w K mg base CX0 2 f fd ["_law_told", "_law_ties_here", "_law_start", "_law_end"] (spD K 4 (R_law_is_way WC)) := by
  refine def_ok (k := 1) F sc_law_is_way fun cdv A outer s H E hr => ?_
  have hu := hu_room hr
  have nd := sc_law_is_way.nd
  exact (s_cons (s_if (t_bool (t_or (t_not (t_val (e_isi "tuple" hB.isinstance hB.tuple PyProof.Rows.boot_tuple (e_name 0)))) (t_or (t_cmp (x_ne hu) (e_len hB.len (a_cons (e_name 0) a_nil)) e_int) (t_or (t_not (t_val (e_call G_law_whole (hrm hr) (a_cons (x_ix hu (e_name 0) e_int) a_nil) (hl := len1)))) (t_or1 (t_not (t_val (e_isi "list" hB.isinstance hB.list PyProof.Rows.boot_list (x_ix hu (e_name 0) e_int))))))))) (s_one (s_ret e_bl)) s_nil) (s_cons (s_set [] 4 (x_ix hu (e_name 0) e_int) nd) (s_cons (s_if (t_bool (t_or (t_cmp (x_eq hu) (e_name 4) (e_lst a_nil)) (t_or (t_not (t_val (e_bi (k_all rfl) hB.all PyProof.Rows.boot_all (a_cons (e_lc [("_law_a", 8)] rfl nd (i_lstV (e_name 4)) (blkOk_by (N := N_law_is_way) (sc := defScope s_law_is_way) (by decide +kernel)) (fun _ _ _ _ _ => (g_name 8 nd)) (fun _ _ _ _ _ => ts_nil) (fun _ _ _ _ _ => (e_call G_law_whole (hrm hr) (a_cons (e_name 8) a_nil) (hl := len1)))) a_nil)))) (t_or (t_cmp (x_ne hu) (x_ix hu (e_name 4) e_int) (e_name 2)) (t_or1 (t_cmp (x_ne hu) (x_ix hu (e_name 4) (e_neg e_int)) (e_name 3))))))) (s_one (s_ret e_bl)) s_nil) (s_cons (s_set [] 5 e_int nd) (s_cons (s_for [] rfl (i_range1 hB.range (a_cons (e_sub (e_len hB.len (a_cons (e_name 4) a_nil)) e_int) a_nil) len1) (g_name 6 nd) (s_cons (s_set [] 7 (e_call G_law_tie (hrm hr) (a_cons (x_ix hu (e_name 4) (e_name 6)) (a_cons (x_ix hu (e_name 4) (e_plus (e_name 6) e_int)) a_nil)) (hl := len2)) nd) (s_cons (s_if (t_cmp (x_nin hu) (e_name 7) (e_name 1)) (s_one (s_ret e_bl)) s_nil) (s_one (s_set [] 5 (e_plus (e_name 5) (x_ix hu (e_name 1) (e_name 7))) nd))))) (s_one (s_ret (e_and (e_cmp (x_eq hu) (e_name 5) (x_ix hu (e_name 0) e_int)) (e_one _ (e_cmp (x_eq hu) (e_lenSet rfl hB.len hB.set (a_cons (e_name 4) a_nil)) (e_len hB.len (a_cons (e_name 4) a_nil))))))))))))
abbrev s_nearest : Stmt := topS 7
abbrev N_nearest : List Str := ["found", "done", "some", "a"]
theorem sc_nearest : FnScope N_nearest ["found", "done"] (defScope s_nearest) := ⟨rfl, rfl, rfl, by decide +kernel, rfl, by decide +kernel, by decide +kernel⟩
theorem ok_nearest (F : Fun K "nearest" "nearest" s_nearest f fd) (hB : Blts mg) {WC : Addr} (T : WebK K mg WC) {c P_ : Addr} (LK : LamK K mg base fd c P_)  : FnOk P w K mg base CX0 3 f fd ["found", "done"] (spD K 2 (R_nearest WC)) := by
  refine def_okC (k := 2) F sc_nearest fun cdv hc A outer s H E hr => ?_
  have hu := hu_room hr
  have nd := sc_nearest.nd
  exact (s_cons (s_setLc 2 [("a", 3)] rfl nd (pis (i_range1 hB.range (a_cons (e_len hB.len (a_cons (e_name 0) a_nil)) a_nil) len1)) (blkOk_by (N := N_nearest) (sc := defScope s_nearest) (by decide +kernel)) (fun _ _ _ _ _ => (g_name 3 nd)) (fun _ _ _ _ _ => (ts_one (t_bool (t_and (t_cmp (x_isnot hu) (x_ix hu (e_name 0) (e_name 3)) e_non) (t_and1 (t_cmp (x_nin hu) (e_name 3) (e_name 1))))))) (fun _ _ _ _ _ => (e_name 3)) (sw_true rfl rfl rfl (by decide +kernel))) (s_one (s_ret (e_minlam (k := 0) (j := 3) (LK.want.eq (by first | rfl | kernel_rfl)) hB.min (by rfl) LK.tb (hc.symm.trans LK.code) (lamP_by (by first | exact rfl | kernel_rfl)) rfl (e_name 2) (hrm hr) rfl nd (fun _ _ _ _ _ _ => rfl) (fun _ _ _ _ _ _ _ hr => have hu := hu_room hr; (x_ix hu (x_ix hu (e_name 0) (e_name 3)) e_int))))))
abbrev s_law_right : Stmt := topS 21
abbrev N_law_right : List Str := ["_law_found", "_law_ties_here", "_law_many", "_law_start", "_law_end", "_law_a", "_law_b"]
theorem sc_law_right : FnScope N_law_right ["_law_found", "_law_ties_here", "_law_many", "_law_start"] (defScope s_law_right) := ⟨rfl, rfl, rfl, by decide +kernel, rfl, by decide +kernel, by decide +kernel⟩
theorem ok_law_right (F : Fun K "_law_right" "_law_right" s_law_right f fd) (hB : Blts mg) {WC : Addr} (T : WebK K mg WC) (G_law_is_way : FnD P w K mg base 2 "_law_is_way" 4 (R_law_is_way WC)) : FnOk P w K mg base CX0 3 f fd ["_law_found", "_law_ties_here", "_law_many", "_law_start"] (spD K 4 (R_law_right WC)) := by
  refine def_ok (k := 2) F sc_law_right fun cdv A outer s H E hr => ?_
  have hu := hu_room hr
  have nd := sc_law_right.nd
  exact (s_cons (s_if (t_bool (t_or (t_not (t_val (e_isi "list" hB.isinstance hB.list PyProof.Rows.boot_list (e_name 0)))) (t_or (t_cmp (x_ne hu) (e_len hB.len (a_cons (e_name 0) a_nil)) (e_name 2)) (t_or1 (t_cmp (x_ne hu) (x_ix hu (e_name 0) (e_name 3)) (e_tup (a_cons e_int (a_cons (e_lst (a_cons (e_name 3) a_nil)) a_nil)))))))) (s_one (s_ret e_bl)) s_nil) (s_cons (s_for [] rfl (i_range1 hB.range (a_cons (e_name 2) a_nil) len1) (g_name 4 nd) (s_one (s_if (t_bool (t_and (t_cmp (x_isnot hu) (x_ix hu (e_name 0) (e_name 4)) e_non) (t_and1 (t_not (t_val (e_call G_law_is_way (hrm hr) (a_cons (x_ix hu (e_name 0) (e_name 4)) (a_cons (e_name 1) (a_cons (e_name 3) (a_cons (e_name 4) a_nil)))) (hl := len4))))))) (s_one (s_ret e_bl)) s_nil))) (s_cons (s_forK rfl (ds_name 1) (g_tup rfl (gs_cons (g_name 5 nd) (gs_cons (g_name 6 nd) gs_nil))) (s_cons (s_if (t_cmp (x_ne hu) (e_cmp (x_is hu) (x_ix hu (e_name 0) (e_name 5)) e_non) (e_cmp (x_is hu) (x_ix hu (e_name 0) (e_name 6)) e_non)) (s_one (s_ret e_bl)) s_nil) (s_one (s_if (t_bool (t_and (t_cmp (x_isnot hu) (x_ix hu (e_name 0) (e_name 5)) e_non) (t_and1 (t_cmp (x_gt hu) (e_bi (k_abs) hB.abs PyProof.Rows.boot_abs (a_cons (e_sub (x_ix hu (x_ix hu (e_name 0) (e_name 5)) e_int) (x_ix hu (x_ix hu (e_name 0) (e_name 6)) e_int)) a_nil)) (x_ix hu (e_name 1) (e_tup (a_cons (e_name 5) (a_cons (e_name 6) a_nil)))))))) (s_one (s_ret e_bl)) s_nil)))) (s_one (s_ret e_bl)))))
abbrev s_ways : Stmt := topS 8
abbrev N_ways : List Str := ["web", "a", "tie", "found", "done", "here", "cost", "way", "b", "further", "k"]
theorem sc_ways : FnScope N_ways ["web", "a"] (defScope s_ways) := ⟨rfl, rfl, rfl, by decide +kernel, rfl, by decide +kernel, by decide +kernel⟩
theorem ok_ways (F : Fun K "ways" "ways" s_ways f fd) (hB : Blts mg) {WC : Addr} (T : WebK K mg WC) (G_Web_ties : MetD P w K mg base 1 WC "ties" 1 (R_Web_ties WC)) (G_Web_size : MetD P w K mg base 1 WC "size" 1 (R_Web_size WC)) (G_Web_tied : MetD P w K mg base 1 WC "tied" 2 (R_Web_tied WC)) (G_Web_weight : MetD P w K mg base 1 WC "weight" 3 (R_Web_weight WC)) (G_nearest : FnD P w K mg base 3 "nearest" 2 (R_nearest WC)) : FnOk P w K mg base CX0 4 f fd ["web", "a"] (spD K 2 (R_ways WC)) := by
  refine def_ok (k := 3) F sc_ways fun cdv A outer s H E hr => ?_
  have hu := hu_room hr
  have nd := sc_ways.nd
  exact (s_cons (s_for [] rfl (i_lst (x_meth0 T.cl G_Web_ties (hrm hr) (e_name 0))) (g_name 2 nd) (s_one (s_if (t_cmp (x_lt hu) (x_ix hu (e_name 2) e_int) e_int) (s_one s_bad) s_nil))) (s_cons (s_setLc 3 [("k", 10)] rfl nd (pis (i_range1 hB.range (a_cons (x_meth0 T.cl G_Web_size (hrm hr) (e_name 0)) a_nil) len1)) (blkOk_by (N := N_ways) (sc := defScope s_ways) (by decide +kernel)) (fun _ _ _ _ _ => (g_name 10 nd)) (fun _ _ _ _ _ => ts_nil) (fun _ _ _ _ _ => e_non) (sw_true rfl rfl rfl (by decide +kernel))) (s_cons (s_putI 3 (e_name 1) (e_tup (a_cons e_int (a_cons (e_lst (a_cons (e_name 1) a_nil)) a_nil)))) (s_cons (s_set [] 4 e_dict nd) (s_cons (s_set [] 5 (e_name 1) nd) (s_cons (s_while (t_cmp (x_isnot hu) (e_name 5) e_non) (s_cons (s_putp [] hu (p_name 4) (e_name 5) e_bl) (s_borT ksW 6 7 (p_ix hu (p_name 3) (e_name 5)) (s_for [] rfl (i_lst (x_meth T.cl G_Web_tied (hrm hr) (e_name 0) (a_cons (e_name 5) a_nil) (fun ρ rs h => congrArg (· + 1) (len1 ρ rs h)))) (g_name 8 nd) (s_cons (s_set [] 9 (e_plus (e_name 6) (x_meth T.cl G_Web_weight (hrm hr) (e_name 0) (a_cons (e_name 5) (a_cons (e_name 8) a_nil)) (fun ρ rs h => congrArg (· + 1) (len2 ρ rs h)))) nd) (s_one (s_if (t_bool (t_and (t_cmp (x_nin hu) (e_name 8) (e_name 4)) (t_and1 (t_bool (t_or (t_cmp (x_is hu) (x_ix hu (e_name 3) (e_name 8)) e_non) (t_or1 (t_cmp (x_lt hu) (e_name 9) (x_ix hu (x_ix hu (e_name 3) (e_name 8)) e_int)))))))) (s_one (s_putI 3 (e_name 8) (e_tup (a_cons (e_name 9) (a_cons (e_plus (e_name 7) (e_lst (a_cons (e_name 8) a_nil))) a_nil))))) s_nil)))) (s_one (s_set [] 5 (e_call G_nearest (hrm hr) (a_cons (e_name 3) (a_cons (e_name 4) a_nil)) (hl := len2)) nd)) (g_two 6 7 rfl nd (by rfl) (by rfl) (by first | exact Or.inl rfl | exact Or.inr rfl) (by first | exact Or.inl rfl | exact Or.inr rfl) (by first | exact .inl rfl | exact .inr rfl | assumption) (by first | exact .inl rfl | exact .inr rfl | assumption))))) (s_one (s_retv 3))))))))
abbrev s_law : Stmt := topS 22
abbrev N_law : List Str := ["_law_script", "_law_head", "_law_many", "_law_ties_here", "_law_web", "_law_one", "_law_other", "_law_start", "_law_found", "_law_told", "_law_a", "_law_b"]
theorem sc_law : FnScope N_law ["_law_script"] (defScope s_law) := ⟨rfl, rfl, rfl, by decide +kernel, rfl, by decide +kernel, by decide +kernel⟩
theorem ok_law (F : Fun K "law" "law" s_law f fd) (hB : Blts mg) {WC : Addr} (T : WebK K mg WC) (G_law_cell_at : FnD P w K mg base 1 "_law_cell_at" 2 (R_law_cell_at WC)) (G_law_ties : FnD P w K mg base 2 "_law_ties" 3 (R_law_ties WC)) (G_law_listed : FnD P w K mg base 1 "_law_listed" 2 (R_law_listed WC)) (G_new_Web : NewD P w K mg base 1 WC "Web" 3 I_Web) (G_ways : FnD P w K mg base 4 "ways" 2 (R_ways WC)) (G_law_right : FnD P w K mg base 3 "_law_right" 4 (R_law_right WC)) (G_Web_ties : MetD P w K mg base 1 WC "ties" 1 (R_Web_ties WC)) : FnOk P w K mg base CX0 5 f fd ["_law_script"] (spD K 1 (R_law WC)) := by
  refine def_ok (k := 4) F sc_law fun cdv A outer s H E hr => ?_
  have hu := hu_room hr
  have nd := sc_law.nd
  exact (s_cons (s_set [] 1 (e_mod (e_mul (e_plus (e_call G_law_cell_at (hrm hr) (a_cons (e_name 0) (a_cons e_int a_nil)) (hl := len2)) e_int) e_int) e_int) nd) (s_cons (s_set [] 2 (e_plus e_int (e_mod (e_name 1) e_int)) nd) (s_cons (s_if (t_cmp (x_eq hu) (e_mod (e_div (e_name 1) e_int) e_int) e_int) (s_one (s_set [] 2 e_int nd)) s_nil) (s_cons (s_set [] 3 (e_call G_law_ties (hrm hr) (a_cons (e_name 0) (a_cons (e_name 2) (a_cons e_int a_nil))) (hl := len3)) nd) (s_cons (s_set [] 4 (x_new G_new_Web (hrm hr) (a_cons (e_name 2) (a_cons (e_call G_law_listed (hrm hr) (a_cons (e_name 3) (a_cons (e_div (e_name 1) e_int) a_nil)) (hl := len2)) a_nil)) (hl := fun ρ rs h => congrArg (· + 1) (len2 ρ rs h))) nd) (s_cons (s_set [] 5 (e_mod (e_div (e_name 1) e_int) (e_name 2)) nd) (s_cons (s_set [] 6 (e_mod (e_div (e_name 1) e_int) (e_name 2)) nd) (s_cons (s_for [] rfl (i_lst (e_lst (a_cons (e_name 5) (a_cons (e_name 6) (a_cons (e_name 5) a_nil))))) (g_name 7 nd) (s_cons (s_set [] 8 (e_call G_ways (hrm hr) (a_cons (e_name 4) (a_cons (e_name 7) a_nil)) (hl := len2)) nd) (s_cons (s_if (t_not (t_val (e_call G_law_right (hrm hr) (a_cons (e_name 8) (a_cons (e_name 3) (a_cons (e_name 2) (a_cons (e_name 7) a_nil)))) (hl := len4)))) (s_one (s_ret e_bl)) s_nil) (s_cons (s_forON 8 9 hu rfl nd) (s_one (s_clrP (p_name 8))))))) (s_one (s_ret (e_cmp (x_eq hu) (x_meth0 T.cl G_Web_ties (hrm hr) (e_name 4)) (e_bi (k_sorted rfl) hB.sorted PyProof.Rows.boot_sorted (a_cons (e_bor 3 (e_lcK [("_law_a", 10), ("_law_b", 11)] rfl nd (dh_name 3) (blkOk_by (N := N_law) (sc := defScope s_law) (by decide +kernel)) (fun _ _ _ _ _ => (g_tup rfl (gs_cons (g_name 10 nd) (gs_cons (g_name 11 nd) gs_nil)))) (fun _ _ _ _ _ => ts_nil) (fun _ _ _ _ _ => (e_tup (a_cons (e_name 10) (a_cons (e_name 11) (a_cons (x_ix hu (e_name 3) (e_tup (a_cons (e_name 10) (a_cons (e_name 11) a_nil)))) a_nil))))))) a_nil)))))))))))))
end
end
end Pr
set_option Elab.async false
set_option linter.all false
set_option maxRecDepth 100000
namespace Tg
open PySem PySem.Spec L2 Ev
open PyProof.Rows hiding St
section
variable {α β σ R T κ : Type}
@[simp] theorem letB_eq (x : α) (k : α → β) : letB x k = k x := Eq.trans rfl rfl
@[simp] theorem bindO_s (x : α) (k : α → Option β) : bindO (some x) k = k x := Eq.trans rfl rfl
@[simp] theorem onS_l (s : σ) (k : σ → Option T) (q : R → T) : onS (some (.inl s)) k q = k s := Eq.trans rfl rfl
@[simp] theorem onS_r (r : R) (k : σ → Option T) (q : R → T) : onS (some (.inr r)) k q = some (q r) := Eq.trans rfl rfl
theorem forS_inv {xs : List α} {s0 : σ} {f : α → σ → Option σ} (P : List α → σ → Prop) (h0 : P [] s0)
    (hs : ∀ pre x post s, xs = pre ++ x :: post → P pre s → ∃ s', f x s = some s' ∧ P (pre ++ [x]) s') : ∃ s', forS xs s0 f = some s' ∧ P xs s' := by
  have go : ∀ (post pre : List α) (s : σ), xs = pre ++ post → P pre s → ∃ s', forS post s f = some s' ∧ P xs s' := by
    intro post
    induction post with
    | nil => exact fun pre s e p => ⟨s, rfl, by rw [e, List.append_nil]; exact p⟩
    | cons x post ih =>
      intro pre s e p
      obtain ⟨s1, e1, p1⟩ := hs pre x post s e p
      obtain ⟨s2, e2, p2⟩ := ih (pre ++ [x]) s1 (by rw [e, List.append_assoc]; rfl) p1
      exact ⟨s2, by unfold forS; rw [e1]; exact e2, p2⟩
  exact go xs [] s0 rfl h0
theorem forC_inv {xs : List α} {s0 : σ} {f : α → σ → Option (Ctl σ R)} (P : List α → σ → Prop) (Q : R → Prop) (h0 : P [] s0)
    (hs : ∀ pre x post s, xs = pre ++ x :: post → P pre s → (∃ s', f x s = some (.nx s') ∧ P (pre ++ [x]) s') ∨ ∃ r, f x s = some (.rt r) ∧ Q r) :
    (∃ s', forC xs s0 f = some (.inl s') ∧ P xs s') ∨ ∃ r, forC xs s0 f = some (.inr r) ∧ Q r := by
  have go : ∀ (post pre : List α) (s : σ), xs = pre ++ post → P pre s → (∃ s', forC post s f = some (.inl s') ∧ P xs s') ∨ ∃ r, forC post s f = some (.inr r) ∧ Q r := by
    intro post
    induction post with
    | nil => exact fun pre s e p => .inl ⟨s, rfl, by rw [e, List.append_nil]; exact p⟩
    | cons x post ih =>
      intro pre s e p
      rcases hs pre x post s e p with ⟨s1, e1, p1⟩ | ⟨r, e1, q⟩
      · rcases ih (pre ++ [x]) s1 (by rw [e, List.append_assoc]; rfl) p1 with ⟨s2, e2, p2⟩ | ⟨r, e2, q⟩
        · exact .inl ⟨s2, by unfold forC; rw [e1]; exact e2, p2⟩
        · exact .inr ⟨r, by unfold forC; rw [e1]; exact e2, q⟩
      · exact .inr ⟨r, by unfold forC; rw [e1]; rfl, q⟩
  exact go xs [] s0 rfl h0
theorem forC_nx {xs : List α} {s0 : σ} {f : α → σ → Option (Ctl σ R)} (P : List α → σ → Prop) (h0 : P [] s0)
    (hs : ∀ pre x post s, xs = pre ++ x :: post → P pre s → ∃ s', f x s = some (.nx s') ∧ P (pre ++ [x]) s') : ∃ s', forC xs s0 f = some (.inl s') ∧ P xs s' := by
  rcases forC_inv (R := R) P (fun _ => False) h0 (fun pre x post s e p => .inl (hs pre x post s e p)) with h | ⟨_, _, h⟩
  · exact h
  · exact h.elim
theorem forC_unit {xs : List α} {f : α → Unit → Option (Ctl Unit R)} (h : ∀ x ∈ xs, f x () = some (.nx ())) : forC xs () f = some (.inl ()) := by
  obtain ⟨s, e, _⟩ := forC_nx (xs := xs) (f := f) (s0 := ()) (fun _ _ => True) trivial fun pre x post s e _ => ⟨(), h x (by rw [e]; simp), trivial⟩
  exact e
theorem whS_inv {s0 : σ} {c : σ → Option Bool} {f : σ → Option σ} (P : σ → Prop) (m : σ → Nat) {n : Nat} (hn : m s0 < n) (h0 : P s0)
    (hs : ∀ s, P s → c s = some false ∨ c s = some true ∧ ∃ s', f s = some s' ∧ P s' ∧ m s' < m s) : ∃ s', whS n s0 c f = some s' ∧ P s' ∧ c s' = some false := by
  induction n generalizing s0 with
  | zero => omega
  | succ n ih =>
    unfold whS
    rcases hs s0 h0 with h | ⟨h, s1, e1, p1, l1⟩
    · exact ⟨s0, by rw [h]; rfl, h0, h⟩
    · obtain ⟨s2, e2, p2, c2⟩ := ih (s0 := s1) (by omega) p1
      exact ⟨s2, by rw [h]; simp [bindO, e1]; exact e2, p2, c2⟩
theorem fuel_big {n : Nat} (h : n < 1000000) : n < fuel := by unfold fuel; omega
theorem big_e {xs : List α} (h : xs.length ≤ 1000000) : big xs = some xs := if_pos h
theorem appO_e {xs : List α} {x : α} (h : xs.length ≤ 1000000) : appO xs x = some (xs ++ [x]) := if_pos h
theorem catO_e {xs ys : List α} (h : xs.length + ys.length ≤ 1000000) : catO xs ys = some (xs ++ ys) := if_pos h
theorem lcM_e {xs : List α} {p : α → Option Bool} {f : α → Option β} (p' : α → Bool) (f' : α → β) (hp : ∀ x ∈ xs, p x = some (p' x)) (hf : ∀ x ∈ xs, p' x = true → f x = some (f' x)) : lcM xs p f = some ((xs.filter p').map f') := by
  induction xs with
  | nil => rfl
  | cons x xs ih =>
    unfold lcM
    rw [hp x List.mem_cons_self, ih (fun y hy => hp y (List.mem_cons_of_mem _ hy)) fun y hy => hf y (List.mem_cons_of_mem _ hy)]
    cases h : p' x with
    | true => simp [bindO, hf x List.mem_cons_self h, h]
    | false => simp [bindO, h]
theorem lcM_map {xs : List α} {f : α → Option β} (f' : α → β) (hf : ∀ x ∈ xs, f x = some (f' x)) : lcM xs (fun _ => some true) f = some (xs.map f') := by
  rw [lcM_e (fun _ => true) f' (fun _ _ => rfl) fun x hx _ => hf x hx, List.filter_eq_self.mpr (fun _ _ => rfl)]
theorem rng_e {n : Nat} (h : n ≤ 1000000000) : rngO 0 (n : Int) = some ((List.range n).map fun (k : Nat) => (k : Int)) := by
  unfold rngO
  rw [if_pos (by omega)]
  simp
theorem idx_nat (xs : List α) (k : Nat) : idx xs (k : Int) = xs[k]? := by
  unfold idx atI ixN
  by_cases h : k < xs.length
  · rw [if_pos (by omega), if_pos (by omega)]
    simp
  · rw [if_pos (by omega), if_neg (by omega)]
    simp
    omega
theorem idx_lt {xs : List α} {k : Nat} (h : k < xs.length) : idx xs (k : Int) = some xs[k] := by rw [idx_nat, List.getElem?_eq_getElem h]
theorem idx_i {xs : List α} {i : Int} (h0 : 0 ≤ i) (h : i < xs.length) : idx xs i = some (xs[i.toNat]'(by omega)) := by
  obtain ⟨k, rfl⟩ : ∃ k : Nat, i = k := ⟨i.toNat, by omega⟩
  rw [idx_lt (by omega)]
  simp
theorem setI_nat {xs : List α} {k : Nat} {y : α} (h : k < xs.length) : setI xs (k : Int) y = xs.set k y := by
  unfold setI ixN
  rw [if_pos (by omega), if_pos (by omega)]
  simp
theorem mulR {i j : Int} (h : -(2 ^ 64) < j ∧ j < 2 ^ 64) : mulO i j = some (i * j) := if_pos (.inl (.inr h))
theorem modP {i j : Int} (h : 0 < j) : modO i j = some (i % j) := if_pos h
section
variable [DecidableEq κ]
theorem ahas_iff {m : List (κ × α)} {k : κ} : ahas m k = (aget m k).isSome := by
  unfold ahas aget
  rw [Option.isSome_map]
  induction m with
  | nil => rfl
  | cons p m ih =>
    rw [List.any_cons, List.find?_cons]
    by_cases h : p.1 = k <;> simp [h, ih]
theorem aget_put (m : List (κ × α)) (k k' : κ) (v : α) : aget (aput m k v) k' = if k = k' then some v else aget m k' := by
  unfold aput
  by_cases h : ahas m k = true
  · rw [if_pos h]
    have e : ∀ m : List (κ × α), ahas m k = true → aget (m.map fun p => if p.1 = k then (p.1, v) else p) k' = if k = k' then some v else aget m k' := by
      intro m
      induction m with
      | nil => intro h; simp [ahas] at h
      | cons p m ih =>
        intro h
        by_cases hp : p.1 = k
        · by_cases hk : k = k'
          · subst hk
            simp [aget, hp]
          · rw [if_neg hk]
            have hne : ¬ p.1 = k' := fun z => hk (hp.symm.trans z)
            by_cases h2 : ahas m k = true
            · have := ih h2
              rw [if_neg hk] at this
              unfold aget at this ⊢
              rw [List.map_cons, List.find?_cons, List.find?_cons]
              simp only [hp, if_true]
              rw [show decide (k = k') = false from decide_eq_false hk]
              exact this
            · have h3 : m.map (fun p => if p.1 = k then (p.1, v) else p) = m := by
                rw [List.map_congr_left (g := id)]
                · simp
                · intro q hq
                  have : ¬ q.1 = k := fun z => h2 (List.any_eq_true.mpr ⟨q, hq, by simp [z]⟩)
                  simp [this]
              unfold aget
              rw [List.map_cons, h3, List.find?_cons, List.find?_cons]
              simp [hp, hk]
        · have h2 : ahas m k = true := by
            unfold ahas at h ⊢
            rw [List.any_cons] at h
            simpa [hp] using h
          have := ih h2
          unfold aget at this ⊢
          rw [List.map_cons, List.find?_cons, List.find?_cons]
          simp only [hp, if_false]
          by_cases hk : p.1 = k'
          · have : ¬ k = k' := fun z => hp (hk.trans z.symm)
            simp [hk, this]
          · simp only [hk, decide_false]
            exact this
    exact e m h
  · rw [if_neg h]
    have hn : aget m k = none := by
      have := ahas_iff (m := m) (k := k)
      cases e : aget m k with
      | none => rfl
      | some x => rw [e] at this; exact absurd this h
    unfold aget at hn ⊢
    rw [List.find?_append]
    by_cases hk : k = k'
    · subst hk
      rw [if_pos rfl]
      rw [Option.map_eq_none_iff] at hn
      rw [hn]
      simp
    · rw [if_neg hk]
      cases m.find? (fun p => decide (p.1 = k')) with
      | some x => simp
      | none => simp [hk]
theorem ahas_put (m : List (κ × α)) (k k' : κ) (v : α) : ahas (aput m k v) k' = (decide (k = k') || ahas m k') := by
  rw [ahas_iff, aget_put, ahas_iff]
  by_cases h : k = k' <;> simp [h]
theorem aputO_e {m : List (κ × α)} {k : κ} {v : α} (h : m.length < 1000000) : aputO m k v = some (aput m k v) := if_pos h
theorem aput_new {m : List (κ × α)} {k : κ} {v : α} (h : ahas m k = false) : aput m k v = m ++ [(k, v)] := by
  unfold aput
  rw [if_neg (by rw [h]; exact Bool.false_ne_true)]
@[simp] theorem aget_nil (k : κ) : aget ([] : List (κ × α)) k = none := rfl
@[simp] theorem ahas_nil (k : κ) : ahas ([] : List (κ × α)) k = false := rfl
end
end
theorem minI_eq (i j : Int) : minI i j = min i j := by unfold minI; split <;> omega
theorem maxI_eq (i j : Int) : maxI i j = max i j := by unfold maxI; split <;> omega
theorem swo3 : SrtO.Swo ltP3 := ⟨fun x y h => EvS.lt_asym _ _ h, fun x y z h1 h2 => EvS.lt_neg_trans _ _ _ h2 h1⟩
theorem perm3 (xs : List (Int × Int × Int)) : (sort3 xs).Perm xs := isort_perm xs
theorem permI (xs : List Int) : (sortI xs).Perm xs := isort_perm xs
theorem srt3 (xs : List (Int × Int × Int)) : (sort3 xs).Pairwise fun a b => ltP3 b a = false := isort_srtd swo3 xs
end Tg
set_option Elab.async false
set_option linter.all false
namespace Tg
open PySem PySem.Spec L2 Ev
open PyProof.Rows hiding St
section
variable {α β σ R T κ : Type}
theorem rng_at {n : Nat} {pre post : List Int} {x : Int} (e : (List.range n).map (fun (k : Nat) => (k : Int)) = pre ++ x :: post) : pre.length < n ∧ x = (pre.length : Int) := by
  have h1 := congrArg List.length e
  simp at h1
  have h2 : ((List.range n).map fun (k : Nat) => (k : Int))[pre.length]? = some x := by rw [e]; simp
  rw [List.getElem?_map, List.getElem?_range (by omega)] at h2
  simp at h2
  exact ⟨by omega, h2.symm⟩
theorem forC_rng {n : Nat} {s0 : σ} {f : Int → σ → Option (Ctl σ R)} (P : Nat → σ → Prop) (Q : R → Prop) (h0 : P 0 s0)
    (hs : ∀ (k : Nat) s, k < n → P k s → (∃ s', f k s = some (.nx s') ∧ P (k + 1) s') ∨ ∃ r, f k s = some (.rt r) ∧ Q r) :
    (∃ s', forC ((List.range n).map fun (k : Nat) => (k : Int)) s0 f = some (.inl s') ∧ P n s') ∨ ∃ r, forC ((List.range n).map fun (k : Nat) => (k : Int)) s0 f = some (.inr r) ∧ Q r := by
  have := forC_inv (xs := (List.range n).map fun (k : Nat) => (k : Int)) (f := f) (fun pre s => P pre.length s) Q h0 fun pre x post s e p => by
    obtain ⟨hk, hx⟩ := rng_at e
    have := hs pre.length s hk p
    rw [hx, List.length_append]
    exact this
  simpa using this
theorem take_snoc {xs : List α} {k : Nat} (hk : k < xs.length) : xs.take (k + 1) = xs.take k ++ [xs[k]] := by rw [List.take_succ, List.getElem?_eq_getElem hk]; rfl
end
end Tg
set_option Elab.async false
set_option linter.all false
set_option maxRecDepth 100000
namespace Pr
open PySem PySem.Spec L2 Ev Tg
open PyProof.Rows hiding St
theorem aget_cons {κ α : Type} [DecidableEq κ] (p : κ × α) (m : List (κ × α)) (k : κ) : aget (p :: m) k = if p.1 = k then some p.2 else aget m k := by
  unfold aget
  rw [List.find?_cons]
  by_cases h : p.1 = k <;> simp [h]
theorem ahas_keys {κ α : Type} [DecidableEq κ] {m : List (κ × α)} {k : κ} : ahas m k = decide (k ∈ m.map (·.1)) := by
  unfold ahas
  rw [Bool.eq_iff_iff, decide_eq_true_eq, List.any_eq_true, List.mem_map]
  constructor
  · rintro ⟨p, h, e⟩; exact ⟨p, h, of_decide_eq_true e⟩
  · rintro ⟨p, h, e⟩; exact ⟨p, h, decide_eq_true e⟩
theorem ahas_key {κ α : Type} [DecidableEq κ] {m : List (κ × α)} {k : κ} : ahas m k = true ↔ k ∈ m.map (·.1) := by rw [ahas_keys, decide_eq_true_eq]
theorem aget_mem {κ α : Type} [DecidableEq κ] {m : List (κ × α)} {k : κ} {v : α} (h : aget m k = some v) : (k, v) ∈ m := by
  unfold aget at h
  obtain ⟨p, h1, h2⟩ := Option.map_eq_some_iff.mp h
  have e : p.1 = k := by have := List.find?_some h1; simpa using this
  have m1 := List.mem_of_find?_eq_some h1
  rw [← h2, ← e]
  exact m1
end Pr
set_option Elab.async false
set_option linter.all false
set_option maxRecDepth 100000
namespace Pr
open PySem PySem.Spec L2 Ev Tg
open PyProof.Rows hiding St
abbrev Tie := Int × Int × Int
def isT (a b : Int) (t : Tie) : Bool := (decide (t.1 = a) && decide (t.2.1 = b)) || (decide (t.1 = b) && decide (t.2.1 = a))
def wt (ts : List Tie) (a b : Int) : Option Int := (ts.find? (isT a b)).map (·.2.2)
def nb1 (a : Int) (t : Tie) : Option Int := if t.1 = a then some t.2.1 else if t.2.1 = a then some t.1 else none
def nb (ts : List Tie) (a : Int) : List Int := ts.filterMap (nb1 a)
def tab (ts : List Tie) : List ((Int × Int) × Int) := ts.flatMap fun t => [((t.1, t.2.1), t.2.2), ((t.2.1, t.1), t.2.2)]
def endsW (n : Nat) (ts : List Tie) : List (List Int) := (List.range n).map fun (k : Nat) => nb ts k
def web (n : Nat) (ts : List Tie) : WebT := ((n : Int), tab ts, endsW n ts)
structure Good1 (n : Int) (t : Tie) : Prop where
  ne : t.1 ≠ t.2.1
  a0 : 0 ≤ t.1
  b0 : 0 ≤ t.2.1
  an : t.1 < n
  bn : t.2.1 < n
structure Good (n : Nat) (ts : List Tie) : Prop where
  one : ∀ t ∈ ts, Good1 n t
  two : ts.Pairwise fun t u => isT t.1 t.2.1 u = false
theorem isT_comm (a b : Int) (t : Tie) : isT a b t = isT b a t := by
  unfold isT
  rw [Bool.or_comm]
theorem isT_iff {a b : Int} {t : Tie} : isT a b t = true ↔ (t.1 = a ∧ t.2.1 = b) ∨ (t.1 = b ∧ t.2.1 = a) := by
  unfold isT
  simp
theorem isT_no {a b : Int} {t : Tie} : isT a b t = false ↔ ¬ ((t.1 = a ∧ t.2.1 = b) ∨ (t.1 = b ∧ t.2.1 = a)) := by
  rw [← isT_iff]
  simp
theorem isT_sym (t u : Tie) : isT t.1 t.2.1 u = isT u.1 u.2.1 t := by
  rw [Bool.eq_iff_iff, isT_iff, isT_iff]
  constructor
  · rintro (⟨h1, h2⟩ | ⟨h1, h2⟩)
    · exact .inl ⟨h1.symm, h2.symm⟩
    · exact .inr ⟨h2.symm, h1.symm⟩
  · rintro (⟨h1, h2⟩ | ⟨h1, h2⟩)
    · exact .inl ⟨h1.symm, h2.symm⟩
    · exact .inr ⟨h2.symm, h1.symm⟩
theorem Good.nil (n : Nat) : Good n [] := ⟨fun _ h => (nomatch h), List.Pairwise.nil⟩
theorem Good.snoc {n : Nat} {ts : List Tie} {t : Tie} (g : Good n ts) (g1 : Good1 n t) (h : ∀ u ∈ ts, isT t.1 t.2.1 u = false) : Good n (ts ++ [t]) where
  one := fun u hu => by
    rcases List.mem_append.mp hu with hu | hu
    · exact g.one u hu
    · rw [List.mem_singleton.mp hu]; exact g1
  two := List.pairwise_append.mpr ⟨g.two, List.pairwise_singleton _ _, fun u hu v hv => by rw [List.mem_singleton.mp hv, isT_sym]; exact h u hu⟩
theorem Good.left {n : Nat} {ts us : List Tie} (g : Good n (ts ++ us)) : Good n ts := ⟨fun t h => g.one t (List.mem_append_left _ h), (List.pairwise_append.mp g.two).1⟩
theorem Good.mid {n : Nat} {ts us : List Tie} {t : Tie} (g : Good n (ts ++ t :: us)) : Good1 n t ∧ ∀ u ∈ ts, isT t.1 t.2.1 u = false := ⟨g.one t (by simp), fun u hu => by
  have := (List.pairwise_append.mp g.two).2.2 u hu t (by simp)
  rw [isT_sym]
  exact this⟩
theorem wt_cons (t : Tie) (ts : List Tie) (a b : Int) : wt (t :: ts) a b = if isT a b t = true then some t.2.2 else wt ts a b := by
  unfold wt
  rw [List.find?_cons]
  cases isT a b t <;> rfl
theorem aget_tab (ts : List Tie) (a b : Int) : aget (tab ts) (a, b) = wt ts a b := by
  induction ts with
  | nil => rfl
  | cons t ts ih =>
    rw [wt_cons, ← ih]
    show aget (((t.1, t.2.1), t.2.2) :: ((t.2.1, t.1), t.2.2) :: tab ts) (a, b) = _
    rw [aget_cons, aget_cons]
    simp only [Prod.mk.injEq]
    by_cases h1 : t.1 = a ∧ t.2.1 = b
    · rw [if_pos h1, if_pos (isT_iff.mpr (.inl h1))]
    · rw [if_neg h1]
      by_cases h2 : t.2.1 = a ∧ t.1 = b
      · rw [if_pos h2, if_pos (isT_iff.mpr (.inr ⟨h2.2, h2.1⟩))]
      · rw [if_neg h2, if_neg]
        rw [isT_iff]
        rintro (h | h)
        · exact h1 h
        · exact h2 ⟨h.2, h.1⟩
theorem wt_none {ts : List Tie} {a b : Int} (h : ∀ u ∈ ts, isT a b u = false) : wt ts a b = none := by
  unfold wt
  rw [Option.map_eq_none_iff, List.find?_eq_none]
  intro u hu
  rw [h u hu]
  exact Bool.false_ne_true
theorem tab_snoc (ts : List Tie) (t : Tie) : tab (ts ++ [t]) = tab ts ++ [((t.1, t.2.1), t.2.2), ((t.2.1, t.1), t.2.2)] := by
  unfold tab
  rw [List.flatMap_append]
  rfl
theorem tab_len (ts : List Tie) : (tab ts).length = 2 * ts.length := by
  induction ts with
  | nil => rfl
  | cons t ts ih =>
    unfold tab at ih ⊢
    rw [List.flatMap_cons, List.length_append, ih]
    simp only [List.length_cons, List.length_nil]
    omega
theorem wt_comm (ts : List Tie) (a b : Int) : wt ts a b = wt ts b a := by
  unfold wt
  congr 2
  funext t
  exact isT_comm a b t
theorem nb_snoc (ts : List Tie) (t : Tie) (a : Int) : nb (ts ++ [t]) a = nb ts a ++ (nb1 a t).toList := by
  unfold nb
  rw [List.filterMap_append]
  cases h : nb1 a t <;> simp [List.filterMap_cons, h]
theorem nb_len (ts : List Tie) (a : Int) : (nb ts a).length ≤ ts.length := List.length_filterMap_le _ _
theorem ends_get {n : Nat} {ts : List Tie} {k : Nat} (h : k < n) : (endsW n ts)[k]? = some (nb ts k) := by
  unfold endsW
  rw [List.getElem?_map, List.getElem?_range h]
  rfl
theorem ends_len (n : Nat) (ts : List Tie) : (endsW n ts).length = n := by simp [endsW]
theorem init_L1 {n : Nat} {ts : List Tie} {t : Tie} (g : Good n ts) (g1 : Good1 n t) (h : ∀ u ∈ ts, isT t.1 t.2.1 u = false) (hl : ts.length ≤ 10000) : p_Web_init_L1 n t.1 t.2.1 t.2.2 (tab ts) (endsW n ts) = some (tab (ts ++ [t]), endsW n (ts ++ [t])) := by
  obtain ⟨a, b, w⟩ := t
  obtain ⟨ne, a0, b0, an, bn⟩ := g1
  dsimp only at ne a0 b0 an bn h
  obtain ⟨i, rfl⟩ : ∃ i : Nat, a = i := ⟨a.toNat, by omega⟩
  obtain ⟨j, rfl⟩ : ∃ j : Nat, b = j := ⟨b.toNat, by omega⟩
  have hw : wt ts i j = none := wt_none h
  have h1 : ahas (tab ts) ((i : Int), (j : Int)) = false := by rw [ahas_iff, aget_tab, hw]; rfl
  have h2 : ahas (tab ts ++ [(((i : Int), (j : Int)), w)]) ((j : Int), (i : Int)) = false := by
    rw [← aput_new h1, ahas_put, ahas_iff, aget_tab, wt_comm, hw]
    simp
    omega
  unfold p_Web_init_L1
  have c1 : (decide ((i : Int) = j) || (decide (minI i j < 0) || decide (maxI i j ≥ (n : Int)))) = false := by
    rw [minI_eq, maxI_eq]
    simp
    omega
  rw [c1, if_neg Bool.false_ne_true, h1, if_neg Bool.false_ne_true, aputO_e (by rw [tab_len]; omega), bindO_s, aput_new h1, aputO_e (by rw [List.length_append, tab_len]; simp; omega), bindO_s, aput_new h2, idx_nat, ends_get (by omega), bindO_s, appO_e (by have := nb_len ts i; omega), bindO_s]
  have ij : i ≠ j := by omega
  rw [setI_nat (by rw [ends_len]; omega), idx_nat, List.getElem?_set_ne ij, ends_get (by omega), bindO_s, appO_e (by have := nb_len ts j; omega), bindO_s, setI_nat (by rw [List.length_set, ends_len]; omega), tab_snoc]
  refine congrArg some (Prod.ext (by simp) ?_)
  apply List.ext_getElem?
  intro k
  simp only
  rw [List.getElem?_set, List.getElem?_set]
  simp only [List.length_set, ends_len]
  by_cases hk : k < n
  · rw [ends_get hk, ends_get hk, nb_snoc]
    unfold nb1
    by_cases e1 : j = k
    · subst e1
      simp [hk, ne]
    · by_cases e2 : i = k
      · subst e2
        simp [hk, e1]
      · simp [e1, e2]
        have : ¬ ((i : Int) = k) := by omega
        have : ¬ ((j : Int) = k) := by omega
        simp [*]
  · rw [List.getElem?_eq_none (by rw [ends_len]; omega), List.getElem?_eq_none (by rw [ends_len]; omega)]
    have : ¬ (j = k) := by omega
    have : ¬ (i = k) := by omega
    simp [*]
theorem init_web {n : Nat} {ts : List Tie} (hn : n ≤ 24) (g : Good n ts) (hl : ts.length ≤ 10000) : p_Web_init n ts = some (web n ts) := by
  unfold p_Web_init
  have c1 : (decide ((n : Int) < 0) || decide ((n : Int) > 24)) = false := by simp; omega
  rw [c1, if_neg Bool.false_ne_true]
  simp -implicitDefEqProofs only [letB_eq]
  rw [rng_e (by omega), bindO_s, big_e (by simp; omega), bindO_s]
  have e0 : ((List.range n).map fun (k : Nat) => (k : Int)).map (fun _ => ([] : List Int)) = endsW n [] := by
    unfold endsW
    rw [List.map_map]
    rfl
  rw [e0]
  obtain ⟨s, e1, e2⟩ := forS_inv (xs := ts) (s0 := (([] : List ((Int × Int) × Int)), endsW n [])) (f := fun (x8 : Int × Int × Int) (s8 : (List ((Int × Int) × Int)) × (List (List Int))) => p_Web_init_L1 n x8.1 x8.2.1 x8.2.2 s8.1 s8.2) (fun pre s => s = (tab pre, endsW n pre)) rfl fun pre x post s e p => by
    subst p
    subst e
    obtain ⟨g1, g2⟩ := g.mid
    exact ⟨_, init_L1 g.left g1 g2 (by simp at hl; omega), rfl⟩
  rw [e1, bindO_s, e2]
  rfl
end Pr
set_option Elab.async false
set_option linter.all false
set_option maxRecDepth 100000
namespace Pr
open PySem PySem.Spec L2 Ev Tg
open PyProof.Rows hiding St
theorem len_of_sub {α : Type} [DecidableEq α] : ∀ {xs ys : List α}, xs.Nodup → (∀ x ∈ xs, x ∈ ys) → xs.length ≤ ys.length
  | [], _, _, _ => Nat.zero_le _
  | x :: xs, ys, nd, h => by
    rw [List.nodup_cons] at nd
    have hx : x ∈ ys := h x List.mem_cons_self
    have := len_of_sub (ys := ys.erase x) nd.2 fun y hy => by
      have hne : y ≠ x := fun e => nd.1 (e ▸ hy)
      exact (List.mem_erase_of_ne hne).mpr (h y (List.mem_cons_of_mem _ hy))
    rw [List.length_erase_of_mem hx] at this
    have hp : 0 < ys.length := List.length_pos_of_mem hx
    rw [List.length_cons]
    omega
theorem nd_le {n : Nat} {xs : List Int} (nd : xs.Nodup) (h : ∀ x ∈ xs, 0 ≤ x ∧ x < n) : xs.length ≤ n := by
  have := len_of_sub (ys := (List.range n).map fun (k : Nat) => (k : Int)) nd fun x hx => by
    have := h x hx
    exact List.mem_map.mpr ⟨x.toNat, List.mem_range.mpr (by omega), by omega⟩
  simpa using this
abbrev Up (xs : List Int) : Prop := xs.Pairwise fun a b => a < b
theorem Up.nd {xs : List Int} (h : Up xs) : xs.Nodup := h.imp fun h => by omega
end Pr
set_option Elab.async false
set_option linter.all false
set_option maxRecDepth 100000
namespace Pr
open PySem PySem.Spec L2 Ev Tg
open PyProof.Rows hiding St
def adj (ts : List Tie) (a b : Int) : Prop := ∃ t ∈ ts, isT a b t = true
theorem adj_comm {ts : List Tie} {a b : Int} (h : adj ts a b) : adj ts b a := by
  obtain ⟨t, h1, h2⟩ := h
  exact ⟨t, h1, by rw [isT_comm]; exact h2⟩
inductive Rch (ts : List Tie) (out : Int → Prop) (a : Int) : Int → Prop
  | refl : Rch ts out a a
  | step {b c : Int} : Rch ts out a b → adj ts b c → ¬ out c → Rch ts out a c
namespace Rch
variable {ts : List Tie} {out out' : Int → Prop} {a b c : Int}
theorem trans (h1 : Rch ts out a b) (h2 : Rch ts out b c) : Rch ts out a c := by
  induction h2 with
  | refl => exact h1
  | step _ q p ih => exact ih.step q p
theorem notout (h : Rch ts out a b) (ha : ¬ out a) : ¬ out b := by
  cases h with
  | refl => exact ha
  | step _ _ p => exact p
theorem symm (h : Rch ts out a b) (ha : ¬ out a) : Rch ts out b a := by
  induction h with
  | refl => exact .refl
  | step h q p ih => exact (Rch.step .refl (adj_comm q) (h.notout ha)).trans ih
theorem mono (h : Rch ts out a b) (k : ∀ x, out' x → out x) : Rch ts out' a b := by
  induction h with
  | refl => exact .refl
  | step h q p ih => exact ih.step q fun z => p (k _ z)
end Rch
end Pr
set_option Elab.async false
set_option linter.all false
namespace Pr
open PySem PySem.Spec L2 Ev Tg
open PyProof.Rows hiding St
theorem tied_web {n : Nat} {ts : List Tie} {k : Nat} (h : k < n) : p_Web_tied (web n ts) k = some (sortI (nb ts k)) := by
  unfold p_Web_tied
  show bindO (idx (endsW n ts) k) _ = _
  rw [idx_nat, ends_get h, bindO_s]
theorem tied_webI {n : Nat} {ts : List Tie} {a : Int} (h : 0 ≤ a ∧ a < n) : p_Web_tied (web n ts) a = some (sortI (nb ts a)) := by
  obtain ⟨k, rfl⟩ : ∃ k : Nat, a = k := ⟨a.toNat, by omega⟩
  exact tied_web (by omega)
end Pr
set_option Elab.async false
set_option linter.all false
namespace Pr
open PySem PySem.Spec L2 Ev Tg
open PyProof.Rows hiding St
theorem web_size (n : Nat) (ts : List Tie) : p_Web_size (web n ts) = some (n : Int) := rfl
end Pr
set_option Elab.async false
set_option linter.all false
namespace Pr
open PySem PySem.Spec L2 Ev Tg
open PyProof.Rows hiding St
theorem web_weight (n : Nat) (ts : List Tie) (a b : Int) : p_Web_weight (web n ts) a b = some (wt ts a b) := by
  unfold p_Web_weight
  show some (aget (tab ts) (a, b)) = _
  rw [aget_tab]
end Pr
set_option Elab.async false
set_option linter.all false
set_option maxRecDepth 100000
namespace Pr
open PySem PySem.Spec L2 Ev Tg
open PyProof.Rows hiding St
abbrev TD := List ((Int × Int) × Int)
theorem keys_put {κ α : Type} [DecidableEq κ] (m : List (κ × α)) (k : κ) (v : α) : (aput m k v).map (·.1) = if ahas m k = true then m.map (·.1) else m.map (·.1) ++ [k] := by
  unfold aput
  split
  · rw [List.map_map]
    refine List.map_congr_left fun p _ => ?_
    simp only [Function.comp]
    split <;> rfl
  · rw [List.map_append]; rfl
structure KOk (n : Nat) (m : TD) : Prop where
  nd : (m.map (·.1)).Nodup
  rg : ∀ k ∈ m.map (·.1), 0 ≤ k.1 ∧ k.1 < k.2 ∧ k.2 < (n : Int)
theorem KOk.put {n : Nat} {m : TD} (h : KOk n m) {k : Int × Int} (hk : 0 ≤ k.1 ∧ k.1 < k.2 ∧ k.2 < (n : Int)) (v : Int) : KOk n (aput m k v) := by
  refine ⟨?_, fun j hj => ?_⟩
  · rw [keys_put]
    split
    · exact h.nd
    · rename_i hh
      rw [ahas_key] at hh
      rw [List.nodup_append]
      exact ⟨h.nd, by simp, fun a ha b hb => by rw [List.mem_singleton.mp hb]; rintro rfl; exact hh ha⟩
  · rw [keys_put] at hj
    split at hj
    · exact h.rg j hj
    · rcases List.mem_append.mp hj with hj | hj
      · exact h.rg j hj
      · rw [List.mem_singleton.mp hj]; exact hk
theorem KOk.len {n : Nat} {m : TD} (h : KOk n m) (hn : n ≤ 24) : m.length ≤ 576 := by
  have h2 : ((m.map (·.1)).map fun k => k.1 * 24 + k.2).Nodup := by
    rw [List.nodup_iff_pairwise_ne, List.pairwise_map]
    refine (List.Pairwise.and_mem.mp h.nd).imp fun {a b} q e => q.2.2 ?_
    obtain ⟨ha, hb, _⟩ := q
    have := h.rg a ha
    have := h.rg b hb
    exact Prod.ext (by omega) (by omega)
  have := nd_le (n := 576) h2 fun x hx => by
    obtain ⟨k, hk, rfl⟩ := List.mem_map.mp hx
    have := h.rg k hk
    omega
  simpa using this
end Pr
set_option Elab.async false
set_option linter.all false
set_option maxRecDepth 100000
namespace Pr
open PySem PySem.Spec L2 Ev Tg
open PyProof.Rows hiding St
abbrev tkey (t : Tie) : Int × Int := (min t.1 t.2.1, max t.1 t.2.1)
structure Lst (n : Nat) (m : TD) (ts : List Tie) : Prop where
  g : Good n ts
  pm : (ts.map fun t => (tkey t, t.2.2)).Perm m
theorem aget_iff {κ α : Type} [DecidableEq κ] {m : List (κ × α)} (nd : (m.map (·.1)).Nodup) {k : κ} {v : α} : aget m k = some v ↔ (k, v) ∈ m := by
  refine ⟨aget_mem, fun h => ?_⟩
  induction m with
  | nil => cases h
  | cons p m ih =>
    rw [List.map_cons, List.nodup_cons] at nd
    rw [aget_cons]
    rcases List.mem_cons.mp h with e | h
    · rw [← e, if_pos rfl]
    · rw [if_neg, ih nd.2 h]
      intro e
      exact nd.1 (List.mem_map.mpr ⟨_, h, e.symm⟩)
theorem Good.of_keys {n : Nat} {ts : List Tie} (h1 : ∀ t ∈ ts, Good1 n t) (h2 : (ts.map tkey).Nodup) : Good n ts := ⟨h1, by
  rw [List.nodup_iff_pairwise_ne, List.pairwise_map] at h2
  refine h2.imp fun {t u} h => ?_
  rw [isT_no]
  intro z
  apply h
  show (min t.1 t.2.1, max t.1 t.2.1) = (min u.1 u.2.1, max u.1 u.2.1)
  exact Prod.ext (by dsimp only; omega) (by dsimp only; omega)⟩
theorem isT_key {a b : Int} {t : Tie} : isT a b t = true ↔ tkey t = (min a b, max a b) := by
  rw [isT_iff]
  simp only [tkey, Prod.mk.injEq]
  omega
theorem Lst.wt {n : Nat} {m : TD} {ts : List Tie} (nd : (m.map (·.1)).Nodup) (h : Lst n m ts) (a b : Int) : wt ts a b = aget m (min a b, max a b) := by
  cases e : aget m (min a b, max a b) with
  | some v =>
    have := h.pm.mem_iff.mpr (aget_mem e)
    obtain ⟨t, ht, et⟩ := List.mem_map.mp this
    have e1 := congrArg Prod.fst et
    have e2 := congrArg Prod.snd et
    dsimp only at e1 e2
    have hi := isT_key.mpr e1
    unfold Pr.wt
    cases ef : ts.find? (isT a b) with
    | none => exact absurd hi (List.find?_eq_none.mp ef t ht)
    | some u =>
      have hu := List.find?_some ef
      have hm := List.mem_of_find?_eq_some ef
      have ku := isT_key.mp hu
      have := h.pm.mem_iff.mp (List.mem_map.mpr ⟨u, hm, rfl⟩)
      rw [ku] at this
      have q := (aget_iff nd).mpr this
      rw [e] at q
      simpa using q.symm
  | none =>
    apply wt_none
    intro u hu
    rw [← Bool.not_eq_true]
    intro hi
    have := h.pm.mem_iff.mp (List.mem_map.mpr ⟨u, hu, rfl⟩)
    rw [isT_key.mp hi] at this
    rw [(aget_iff nd).mpr this] at e
    cases e
theorem Lst.len {n : Nat} {m : TD} {ts : List Tie} (h : Lst n m ts) : ts.length = m.length := by
  have := h.pm.length_eq
  simpa using this
end Pr
set_option Elab.async false
set_option linter.all false
set_option maxRecDepth 100000
namespace Pr
open PySem PySem.Spec L2 Ev Tg
abbrev tnorm (t : Tie) : Tie := (min t.1 t.2.1, max t.1 t.2.1, t.2.2)
theorem ties_norm {n : Nat} {ts : List Tie} (g : Good n ts) (hl : ts.length ≤ 1000) : p_Web_ties (web n ts) = some (sort3 (ts.map tnorm)) := by
  unfold p_Web_ties
  rw [lcM_e (xs := (web n ts).2.1) (p := fun y1 => some (decide (y1.1.1 < y1.1.2))) (f := fun y1 => some (y1.1.1, y1.1.2, y1.2)) (fun y1 => decide (y1.1.1 < y1.1.2)) (fun y1 => (y1.1.1, y1.1.2, y1.2)) (fun _ _ => rfl) (fun _ _ _ => rfl), bindO_s]
  have e : ((web n ts).2.1.filter fun y1 => decide (y1.1.1 < y1.1.2)).map (fun y1 => (y1.1.1, y1.1.2, y1.2)) = ts.map tnorm := by
    show ((tab ts).filter _).map _ = _
    have g1 := g.one
    clear hl g
    induction ts with
    | nil => rfl
    | cons t ts ih =>
      have ne := (g1 t (by simp)).ne
      have ih := ih fun u hu => g1 u (List.mem_cons_of_mem _ hu)
      show ((((t.1, t.2.1), t.2.2) :: ((t.2.1, t.1), t.2.2) :: tab ts).filter _).map _ = (min t.1 t.2.1, max t.1 t.2.1, t.2.2) :: ts.map tnorm
      rcases Int.lt_or_gt_of_ne ne with h | h
      · rw [List.filter_cons_of_pos (by simpa using h), List.filter_cons_of_neg (by simp; omega), List.map_cons, ih, show min t.1 t.2.1 = t.1 by omega, show max t.1 t.2.1 = t.2.1 by omega]
      · rw [List.filter_cons_of_neg (by simp; omega), List.filter_cons_of_pos (by simpa using h), List.map_cons, ih, show min t.1 t.2.1 = t.2.1 by omega, show max t.1 t.2.1 = t.1 by omega]
  rw [e, big_e (by rw [List.length_map]; omega), bindO_s]
theorem lt3' (p q : Tie) : ltP3 p q = true ↔ p.1 < q.1 ∨ p.1 = q.1 ∧ (p.2.1 < q.2.1 ∨ p.2.1 = q.2.1 ∧ p.2.2 < q.2.2) := by
  unfold ltP3
  rw [HT.lexLt_cons, HT.lexLt_cons, HT.lexLt_cons]
  have : HT.lexLt [] [] = false := rfl
  rw [this]
  by_cases h : p.1 = q.1
  · rw [if_pos h]
    by_cases h2 : p.2.1 = q.2.1
    · rw [if_pos h2]
      by_cases h3 : p.2.2 = q.2.2
      · rw [if_pos h3]; simp; omega
      · rw [if_neg h3]; simp; omega
    · rw [if_neg h2]; simp; omega
  · rw [if_neg h]; simp; omega
theorem srt_uniq3 : ∀ {xs ys : List Tie}, xs.Pairwise (fun a b => ltP3 b a = false) → ys.Pairwise (fun a b => ltP3 b a = false) → xs.Perm ys → xs = ys
  | [], ys, _, _, p => (List.Perm.nil_eq p)
  | x :: xs, [], _, _, p => absurd p.length_eq (by simp)
  | x :: xs, y :: ys, h1, h2, p => by
    have g1 := List.pairwise_cons.mp h1
    have g2 := List.pairwise_cons.mp h2
    have e : x = y := by
      rcases List.mem_cons.mp (p.mem_iff.mp List.mem_cons_self) with e | m
      · exact e
      · rcases List.mem_cons.mp (p.mem_iff.mpr List.mem_cons_self) with e | m2
        · exact e.symm
        · have a1 := g2.1 x m
          have a2 := g1.1 y m2
          rw [← Bool.not_eq_true, lt3'] at a1 a2
          obtain ⟨x1, x2, x3⟩ := x
          obtain ⟨y1, y2, y3⟩ := y
          simp only at a1 a2
          have : x1 = y1 := by omega
          have : x2 = y2 := by omega
          have : x3 = y3 := by omega
          simp [*]
    subst e
    rw [srt_uniq3 g1.2 g2.2 (List.Perm.cons_inv p)]
theorem sort3_perm {xs ys : List Tie} (p : xs.Perm ys) : sort3 xs = sort3 ys := srt_uniq3 (srt3 xs) (srt3 ys) ((perm3 xs).trans (p.trans (perm3 ys).symm))
theorem Lst.ties {n : Nat} {m : TD} {ts : List Tie} (h : Lst n m ts) (hl : ts.length ≤ 1000) : p_Web_ties (web n ts) = some (sort3 (m.map fun p => (p.1.1, p.1.2, p.2))) := by
  rw [ties_norm h.g hl]
  congr 1
  apply sort3_perm
  have := h.pm.map (fun p : (Int × Int) × Int => (p.1.1, p.1.2, p.2))
  rw [List.map_map] at this
  exact this
theorem keys_get {n : Nat} {m : TD} (h : KOk n m) : lcM (m.map (·.1)) (fun _ => some true) (fun y => bindO (aget m (y.1, y.2)) fun v => some (y.1, y.2, v)) = some (m.map fun p => (p.1.1, p.1.2, p.2)) := by
  rw [lcM_map (fun y => (y.1, y.2, (aget m y).getD 0)) fun y hy => by
    obtain ⟨p, hp, rfl⟩ := List.mem_map.mp hy
    have : aget m p.1 = some p.2 := (aget_iff h.nd).mpr hp
    rw [show (p.1.1, p.1.2) = p.1 from rfl, this, bindO_s, Option.getD_some]]
  congr 1
  rw [List.map_map]
  refine List.map_congr_left fun p hp => ?_
  have : aget m p.1 = some p.2 := (aget_iff h.nd).mpr hp
  simp only [Function.comp]
  rw [this, Option.getD_some]
end Pr
set_option Elab.async false
set_option linter.all false
set_option maxRecDepth 100000
namespace Pr
open PySem PySem.Spec L2 Ev Tg
theorem mapKey_e {key : Int → Option Int} (f : Int → Int) : ∀ {xs : List Int}, (∀ x ∈ xs, key x = some (f x)) → mapKey key xs = some (xs.map f)
  | [], _ => rfl
  | x :: xs, h => by
    unfold mapKey
    rw [h x List.mem_cons_self, bindO_s, mapKey_e f fun y hy => h y (List.mem_cons_of_mem _ hy), bindO_s]
    rfl
theorem bestK_le (ks : List Int) : ∀ m, bestK ks m ≤ m
  | 0 => Nat.le_refl _
  | m + 1 => by
    have := bestK_le ks m
    show (if _ then _ else _) ≤ m + 1
    split
    · exact Nat.le_refl _
    · exact Nat.le_succ_of_le this
theorem bestK_min (ks : List Int) : ∀ m j, j ≤ m → ks.getD (bestK ks m) 0 ≤ ks.getD j 0
  | 0, j, h => by
    have : j = 0 := by omega
    subst this
    exact Int.le_refl _
  | m + 1, j, h => by
    have e : bestK ks (m + 1) = if decide (ks.getD (m + 1) 0 < ks.getD (bestK ks m) 0) = true then m + 1 else bestK ks m := rfl
    rw [e]
    by_cases q : ks.getD (m + 1) 0 < ks.getD (bestK ks m) 0
    · rw [if_pos (by simpa using q)]
      by_cases hj : j = m + 1
      · rw [hj]; exact Int.le_refl _
      · have := bestK_min ks m j (by omega)
        omega
    · rw [if_neg (by simpa using q)]
      by_cases hj : j = m + 1
      · rw [hj]; omega
      · exact bestK_min ks m j (by omega)
theorem near_none {xs ks : List Int} (h : nearK xs ks = none) : xs = [] := by
  unfold nearK at h
  rw [List.getElem?_eq_none_iff] at h
  have := bestK_le ks (xs.length - 1)
  cases xs with
  | nil => rfl
  | cons x xs => simp at h this; omega
theorem near_some {xs ks : List Int} {a : Int} (f : Int → Int) (hk : ks = xs.map f) (h : nearK xs ks = some a) : a ∈ xs ∧ ∀ b ∈ xs, f a ≤ f b := by
  subst hk
  unfold nearK at h
  refine ⟨List.mem_of_getElem? h, fun b hb => ?_⟩
  obtain ⟨j, hj, ej⟩ := List.getElem_of_mem hb
  have h1 := bestK_min (xs.map f) (xs.length - 1) j (by omega)
  have e1 : (xs.map f).getD (bestK (xs.map f) (xs.length - 1)) 0 = f a := by
    rw [List.getD_eq_getElem?_getD, List.getElem?_map, h]
    rfl
  have e2 : (xs.map f).getD j 0 = f b := by
    rw [List.getD_eq_getElem?_getD, List.getElem?_map, List.getElem?_eq_getElem hj, ej]
    rfl
  rw [e1, e2] at h1
  exact h1
abbrev Found := List (Option (Int × List Int))
abbrev Done := List (Int × Bool)
def atF (F : Found) (a : Int) : Option (Int × List Int) := (F[a.toNat]?).join
theorem idxF {n : Nat} {F : Found} (hl : F.length = n) {a : Int} (h : 0 ≤ a ∧ a < n) : idx F a = some (atF F a) := by
  rw [idx_i h.1 (by omega)]
  unfold atF
  rw [List.getElem?_eq_getElem (by omega)]
  rfl
theorem near_ok {n : Nat} {F : Found} {D : Done} (hl : F.length = n) (hn : n ≤ 1000) : ∃ r, p_nearest F D = some r ∧ (r = none → ∀ b : Int, 0 ≤ b ∧ b < n → (atF F b).isSome = true → ahas D b = true) ∧
    ∀ a, r = some a → (0 ≤ a ∧ a < n) ∧ ahas D a = false ∧ ∃ v, atF F a = some v ∧ ∀ (b : Int) w, 0 ≤ b ∧ b < n → atF F b = some w → ahas D b = false → v.1 ≤ w.1 := by
  unfold p_nearest
  simp -implicitDefEqProofs only [letB_eq]
  have e0 : (F.length : Int) = (n : Int) := by rw [hl]
  rw [e0, rng_e (by omega), bindO_s]
  have hm : ∀ x ∈ (List.range n).map fun (k : Nat) => (k : Int), 0 ≤ x ∧ x < n := fun x hx => by
    obtain ⟨k, hk, rfl⟩ := List.mem_map.mp hx
    have := List.mem_range.mp hk
    omega
  rw [lcM_e (f := fun y2 => some y2) (fun y => (atF F y).isSome && !(ahas D y)) (fun y => y) (fun x hx => by rw [idxF hl (hm x hx), bindO_s]) (fun x _ _ => rfl), bindO_s, List.map_id']
  generalize hS : (((List.range n).map fun (k : Nat) => (k : Int)).filter fun y => (atF F y).isSome && !(ahas D y)) = S
  have hS1 : ∀ x, x ∈ S ↔ (0 ≤ x ∧ x < n) ∧ (atF F x).isSome = true ∧ ahas D x = false := fun x => by
    rw [← hS, List.mem_filter, Bool.and_eq_true, Bool.not_eq_true']
    refine ⟨fun h => ⟨hm x h.1, h.2⟩, fun h => ⟨List.mem_map.mpr ⟨x.toNat, List.mem_range.mpr (by omega), by omega⟩, h.2⟩⟩
  have hSl : S.length ≤ 1000 := by
    rw [← hS]
    refine Nat.le_trans (List.length_filter_le _ _) ?_
    simp
    exact hn
  rw [big_e (by omega), bindO_s]
  let f : Int → Int := fun y => ((atF F y).map (·.1)).getD 0
  rw [mapKey_e f (fun x hx => by
    obtain ⟨h1, h2, _⟩ := (hS1 x).mp hx
    rw [idxF hl h1, bindO_s]
    obtain ⟨v, hv⟩ := Option.isSome_iff_exists.mp h2
    show bindO (atF F x) _ = some (((atF F x).map (·.1)).getD 0)
    rw [hv]
    rfl), bindO_s]
  refine ⟨_, rfl, fun e b hb hr => ?_, fun a e => ?_⟩
  · cases hd : ahas D b with
    | true => rfl
    | false =>
      have := (hS1 b).mpr ⟨hb, hr, hd⟩
      rw [near_none e] at this
      cases this
  · obtain ⟨h1, h2⟩ := near_some f rfl e
    obtain ⟨h3, h4, h5⟩ := (hS1 a).mp h1
    obtain ⟨v, hv⟩ := Option.isSome_iff_exists.mp h4
    refine ⟨h3, h5, v, hv, fun b w hb hw hd => ?_⟩
    have := h2 b ((hS1 b).mpr ⟨hb, by rw [hw]; rfl, hd⟩)
    have e1 : f a = v.1 := by show ((atF F a).map (·.1)).getD 0 = v.1; rw [hv]; rfl
    have e2 : f b = w.1 := by show ((atF F b).map (·.1)).getD 0 = w.1; rw [hw]; rfl
    rw [e1, e2] at this
    exact this
end Pr
set_option Elab.async false
set_option linter.all false
set_option maxRecDepth 100000
namespace Pr
open PySem PySem.Spec L2 Ev Tg
theorem nb_wt {n : Nat} {ts : List Tie} (g : Good n ts) {h b : Int} (hb : b ∈ nb ts h) : (0 ≤ b ∧ b < n) ∧ ∃ w, wt ts h b = some w := by
  unfold nb at hb
  obtain ⟨t, ht, e⟩ := List.mem_filterMap.mp hb
  have g1 := g.one t ht
  have hT : isT h b t = true := by
    rw [isT_iff]
    unfold nb1 at e
    split at e
    · rename_i q
      cases e
      exact .inl ⟨q, rfl⟩
    · split at e
      · rename_i q
        cases e
        exact .inr ⟨rfl, q⟩
      · cases e
  refine ⟨?_, ?_⟩
  · have h1 := g1.a0; have h2 := g1.b0; have h3 := g1.an; have h4 := g1.bn
    rcases isT_iff.mp hT with ⟨_, q⟩ | ⟨q, _⟩ <;> omega
  · unfold wt
    have : (ts.find? (isT h b)).isSome = true := List.find?_isSome.mpr ⟨t, ht, hT⟩
    obtain ⟨u, hu⟩ := Option.isSome_iff_exists.mp this
    rw [hu]
    exact ⟨_, rfl⟩
theorem atF_set {F : Found} {n : Nat} (hl : F.length = n) {b : Int} (hb : 0 ≤ b ∧ b < n) (x : Option (Int × List Int)) {a : Int} (ha : 0 ≤ a ∧ a < n) : atF (F.set b.toNat x) a = if a = b then x else atF F a := by
  unfold atF
  by_cases h : a = b
  · subst h
    rw [if_pos rfl, List.getElem?_set_self (by omega)]
    rfl
  · rw [if_neg h, List.getElem?_set_ne (by omega)]
theorem putF_e {F : Found} {n : Nat} (hl : F.length = n) {b : Int} (hb : 0 ≤ b ∧ b < n) (x : Option (Int × List Int)) : putIO F b x = some (F.set b.toNat x) := by
  unfold putIO L2.ixN
  obtain ⟨k, rfl⟩ : ∃ k : Nat, b = k := ⟨b.toNat, by omega⟩
  simp
  omega
theorem nb_ne {n : Nat} {ts : List Tie} (g : Good n ts) {h b : Int} (hb : b ∈ nb ts h) : b ≠ h := by
  unfold nb at hb
  obtain ⟨t, ht, e⟩ := List.mem_filterMap.mp hb
  have g1 := (g.one t ht).ne
  unfold nb1 at e
  split at e
  · cases e; omega
  · split at e
    · cases e; omega
    · cases e
theorem ixN_e {n : Nat} {b : Int} (hb : 0 ≤ b ∧ b < n) : L2.ixN n b = some b.toNat := by
  unfold L2.ixN
  rw [if_pos hb.1, if_pos (by omega)]
theorem nH_e {F : Found} {n : Nat} (hl : F.length = n) {h : Int} (hh : 0 ≤ h ∧ h < n) : nH F.length h = h.toNat := by
  unfold nH
  rw [hl, ixN_e hh]
  rfl
theorem gH_e {F : Found} {n : Nat} (hl : F.length = n) {h b : Int} (hh : 0 ≤ h ∧ h < n) (hb : 0 ≤ b ∧ b < n) (hne : b ≠ h) : gH F h.toNat b = some () := by
  unfold gH
  rw [hl, ixN_e hb, if_neg]
  intro e
  have := Option.some.inj e
  omega
theorem gN_e {F : Found} {n : Nat} (hl : F.length = n) {h : Int} (hh : 0 ≤ h ∧ h < n) : gN h.toNat F.length = some () := by
  unfold gN
  rw [if_pos (by omega)]
theorem setF {F : Found} {n : Nat} (hl : F.length = n) {h : Int} (hh : 0 ≤ h ∧ h < n) {v : Int × List Int} (hv : atF F h = some v) : F.set h.toNat (some v) = F := by
  unfold atF at hv
  have hlt : h.toNat < F.length := by omega
  rw [List.getElem?_eq_getElem hlt] at hv
  have hv : F[h.toNat] = some v := hv
  rw [← hv, List.set_getElem_self]
theorem way_L3 {n : Nat} {ts : List Tie} (g : Good n ts) {F : Found} {D : Done} {h b cost : Int} {way : List Int} (hh : 0 ≤ h ∧ h < n) (hl : F.length = n) (hw : way.length ≤ 1000) (hb : b ∈ nb ts h) :
    ∃ F' w, wt ts h b = some w ∧ p_ways_L3 (web n ts) D (some h) h.toNat cost way b F = some F' ∧ F'.length = n ∧
      (F' = F ∧ (ahas D b = true ∨ ∃ v, atF F b = some v ∧ v.1 ≤ cost + w) ∨ ahas D b = false ∧ (∀ v, atF F b = some v → cost + w < v.1) ∧ ∀ a : Int, 0 ≤ a ∧ a < n → atF F' a = if a = b then some (cost + w, way ++ [b]) else atF F a) := by
  obtain ⟨hr, w, ew⟩ := nb_wt g hb
  unfold p_ways_L3
  rw [gH_e hl hh hr (nb_ne g hb), bindO_s, bindO_s, web_weight, bindO_s, ew, bindO_s]
  simp -implicitDefEqProofs only [letB_eq]
  cases hd : ahas D b with
  | true =>
    rw [if_neg (by simp), bindO_s, if_neg (by simp), bindO_s]
    exact ⟨F, w, rfl, rfl, hl, .inl ⟨rfl, .inl rfl⟩⟩
  | false =>
    rw [if_pos (by simp), idxF hl hr, bindO_s]
    cases hv : atF F b with
    | none =>
      rw [if_pos (by simp), bindO_s, bindO_s, if_pos rfl, catO_e (by simp; omega), bindO_s, putF_e hl hr, bindO_s, bindO_s]
      exact ⟨_, w, rfl, rfl, by rw [List.length_set]; exact hl, .inr ⟨rfl, fun v e => (nomatch e), fun a ha => atF_set hl hr _ ha⟩⟩
    | some v =>
      rw [if_neg (by simp), bindO_s, bindO_s, bindO_s, bindO_s]
      by_cases hlt : cost + w < v.1
      · rw [if_pos (by simpa using hlt), catO_e (by simp; omega), bindO_s, putF_e hl hr, bindO_s, bindO_s]
        exact ⟨_, w, rfl, rfl, by rw [List.length_set]; exact hl, .inr ⟨rfl, fun v' e => by cases e; exact hlt, fun a ha => atF_set hl hr _ ha⟩⟩
      · rw [if_neg (by simpa using hlt), bindO_s]
        exact ⟨F, w, rfl, rfl, hl, .inl ⟨rfl, .inr ⟨v, rfl, by omega⟩⟩⟩
theorem way_fold {n : Nat} {ts : List Tie} (g : Good n ts) {F : Found} {D : Done} {h cost : Int} {way : List Int} (hh : 0 ≤ h ∧ h < n) (hl : F.length = n) (hw : way.length ≤ 1000) :
    ∃ F', forS (sortI (nb ts h)) F (fun (x24 : Int) (s24 : Found) => p_ways_L3 (web n ts) D (some h) h.toNat cost way x24 s24) = some F' ∧ F'.length = n ∧
      ∀ a : Int, 0 ≤ a ∧ a < n → atF F' a = atF F a ∨ ahas D a = false ∧ ∃ c, atF F' a = some (c, way ++ [a]) := by
  obtain ⟨F', e, hl', hP⟩ := forS_inv (xs := sortI (nb ts h)) (s0 := F) (f := fun (x24 : Int) (s24 : Found) => p_ways_L3 (web n ts) D (some h) h.toNat cost way x24 s24)
    (fun _ s => s.length = n ∧ ∀ a : Int, 0 ≤ a ∧ a < n → atF s a = atF F a ∨ ahas D a = false ∧ ∃ c, atF s a = some (c, way ++ [a])) ⟨hl, fun _ _ => .inl rfl⟩ fun pre b post s es ⟨l1, p1⟩ => by
      have hb : b ∈ nb ts h := (permI _).mem_iff.mp (by rw [es]; simp)
      obtain ⟨F', w, ew, e, l2, p2⟩ := way_L3 (D := D) (cost := cost) g hh l1 hw hb
      refine ⟨F', e, l2, fun a ha => ?_⟩
      rcases p2 with ⟨rfl, _⟩ | ⟨h1, _, h2⟩
      · exact p1 a ha
      · rw [h2 a ha]
        by_cases hab : a = b
        · subst hab
          rw [if_pos rfl]
          exact .inr ⟨h1, _, rfl⟩
        · rw [if_neg hab]
          exact p1 a ha
  exact ⟨F', e, hl', hP⟩
structure WI (n : Nat) (st : Int) (F : Found) (D : Done) (here : Option Int) : Prop where
  len : F.length = n
  dn : (D.map (·.1)).Nodup
  dr : ∀ k ∈ D.map (·.1), 0 ≤ k ∧ k < (n : Int)
  wl : ∀ (a : Int) v, 0 ≤ a ∧ a < n → atF F a = some v → v.2.length ≤ D.length + 1
  hr : ∀ h, here = some h → (0 ≤ h ∧ h < n) ∧ ahas D h = false ∧ ∃ v, atF F h = some v
  sv : atF F st = some (0, [st])
  s0 : D = [] ∧ here = some st ∨ ahas D st = true
theorem WI.dl {n : Nat} {st : Int} {F : Found} {D : Done} {here : Option Int} (I : WI n st F D here) : D.length ≤ n := by
  have := nd_le I.dn I.dr
  rwa [List.length_map] at this
theorem way_step {n : Nat} {ts : List Tie} (hn : n ≤ 24) (g : Good n ts) {st : Int} (hst : 0 ≤ st ∧ st < n) {F : Found} {D : Done} {h : Int} (I : WI n st F D (some h)) :
    ∃ F' D' here', p_ways_L2 (web n ts) F D (some h) = some (F', D', here') ∧ WI n st F' D' here' ∧ D'.length = D.length + 1 := by
  obtain ⟨hh, hd, v, hv⟩ := I.hr h rfl
  have hdl := I.dl
  have hD : aput D h true = D ++ [(h, true)] := aput_new hd
  have hw : v.2.length ≤ 1000 := by have := I.wl h v hh hv; omega
  obtain ⟨F', e, hl', hP⟩ := way_fold (D := D ++ [(h, true)]) (h := h) (cost := v.1) (way := v.2) g hh I.len hw
  obtain ⟨r, er, _, hr⟩ := near_ok (F := F') (D := D ++ [(h, true)]) hl' (by omega)
  have hhas : ∀ a, ahas (D ++ [(h, true)]) a = (decide (h = a) || ahas D a) := fun a => by rw [← hD, ahas_put]
  refine ⟨F', D ++ [(h, true)], r, ?_, ?_, by simp⟩
  · unfold p_ways_L2
    rw [bindO_s, aputO_e (by omega), bindO_s, bindO_s, idxF I.len hh, bindO_s, hv, bindO_s, hD]
    simp -implicitDefEqProofs only [letB_eq]
    have hat : atF F' h = some v := by
      rcases hP h hh with z | ⟨z, _⟩
      · rw [z]; exact hv
      · rw [hhas] at z; simp at z
    rw [bindO_s, tied_webI hh, bindO_s, nH_e I.len hh, e, bindO_s, gN_e hl' hh, bindO_s, bindO_s, setF hl' hh hat, er, bindO_s]
  · have hnew : h ∉ D.map (·.1) := fun m => by
      have := ahas_key.mpr m
      rw [hd] at this
      cases this
    have hst2 : ahas (D ++ [(h, true)]) st = true := by
      rw [hhas]
      rcases I.s0 with ⟨_, q⟩ | q
      · cases q
        simp
      · rw [q, Bool.or_true]
    refine ⟨hl', ?_, ?_, fun a u ha hu => ?_, fun a ea => ?_, ?_, .inr hst2⟩
    · rw [List.map_append, List.nodup_append]
      exact ⟨I.dn, by simp, fun x hx y hy e => hnew (by simp at hy; rw [← hy, ← e]; exact hx)⟩
    · intro k hk
      rw [List.map_append] at hk
      rcases List.mem_append.mp hk with hk | hk
      · exact I.dr k hk
      · simp at hk
        rw [hk]
        exact hh
    · rcases hP a ha with q | ⟨_, c, q⟩
      · rw [q] at hu
        have := I.wl a u ha hu
        simp
        omega
      · rw [q] at hu
        cases hu
        have := I.wl h v hh hv
        simp
        omega
    · obtain ⟨h1, h2, w, h3, _⟩ := hr a ea
      exact ⟨h1, h2, w, h3⟩
    · rcases hP st hst with q | ⟨q, _⟩
      · rw [q]; exact I.sv
      · rw [hst2] at q; cases q
theorem way_meas {n x y k : Nat} (h : x = y + 1) (hx : x ≤ n) (hk : k ≤ 1) : n - x + k < n - y + 1 := by omega
end Pr
set_option Elab.async false
set_option linter.all false
set_option maxRecDepth 100000
namespace Pr
open PySem PySem.Spec L2 Ev Tg
inductive Wy (ts : List Tie) (s : Int) : Int → Int → List Int → Prop
  | nil : Wy ts s s 0 [s]
  | snoc {a b c w : Int} {xs : List Int} : Wy ts s a c xs → wt ts a b = some w → Wy ts s b (c + w) (xs ++ [b])
theorem nb_of_wt {n : Nat} {ts : List Tie} (g : Good n ts) {a b w : Int} (h : wt ts a b = some w) : b ∈ nb ts a := by
  unfold wt at h
  obtain ⟨t, ht, _⟩ := Option.map_eq_some_iff.mp h
  have h1 := List.find?_some ht
  have h2 := List.mem_of_find?_eq_some ht
  unfold nb
  refine List.mem_filterMap.mpr ⟨t, h2, ?_⟩
  unfold nb1
  rcases isT_iff.mp h1 with ⟨e1, e2⟩ | ⟨e1, e2⟩
  · rw [if_pos e1, e2]
  · have := (g.one t h2).ne
    rw [if_neg (by omega), if_pos e2, e1]
theorem way_fold2 {n : Nat} {ts : List Tie} (g : Good n ts) {F : Found} {D : Done} {h cost : Int} {way : List Int} (hh : 0 ≤ h ∧ h < n) (hl : F.length = n) (hw : way.length ≤ 1000) :
    ∃ F', forS (sortI (nb ts h)) F (fun (x24 : Int) (s24 : Found) => p_ways_L3 (web n ts) D (some h) h.toNat cost way x24 s24) = some F' ∧ F'.length = n ∧
      (∀ a : Int, 0 ≤ a ∧ a < n → atF F' a = atF F a ∨ ahas D a = false ∧ ∃ w, wt ts h a = some w ∧ atF F' a = some (cost + w, way ++ [a]) ∧ ∀ v, atF F a = some v → cost + w < v.1) ∧
      ∀ b w, wt ts h b = some w → ahas D b = true ∨ ∃ v, atF F' b = some v ∧ v.1 ≤ cost + w := by
  obtain ⟨F', e, hl', hP, hQ⟩ := forS_inv (xs := sortI (nb ts h)) (s0 := F) (f := fun (x24 : Int) (s24 : Found) => p_ways_L3 (web n ts) D (some h) h.toNat cost way x24 s24)
    (fun pre s => s.length = n ∧ (∀ a : Int, 0 ≤ a ∧ a < n → atF s a = atF F a ∨ ahas D a = false ∧ ∃ w, wt ts h a = some w ∧ atF s a = some (cost + w, way ++ [a]) ∧ ∀ v, atF F a = some v → cost + w < v.1) ∧
      ∀ b ∈ pre, ∀ w, wt ts h b = some w → ahas D b = true ∨ ∃ v, atF s b = some v ∧ v.1 ≤ cost + w) ⟨hl, fun _ _ => .inl rfl, fun _ z => (nomatch z)⟩ fun pre b post s es ⟨l1, p1, q1⟩ => by
      have hb : b ∈ nb ts h := (permI _).mem_iff.mp (by rw [es]; simp)
      obtain ⟨hr, _⟩ := nb_wt g hb
      obtain ⟨F', w, ew, e, l2, p2⟩ := way_L3 (D := D) (cost := cost) g hh l1 hw hb
      refine ⟨F', e, l2, fun a ha => ?_, fun c hc wc ec => ?_⟩
      · rcases p2 with ⟨rfl, _⟩ | ⟨h1, h0, h2⟩
        · exact p1 a ha
        · rw [h2 a ha]
          by_cases hab : a = b
          · subst hab
            rw [if_pos rfl]
            refine .inr ⟨h1, w, ew, rfl, fun v hv => ?_⟩
            rcases p1 a ha with q | ⟨_, w', ew', q, q'⟩
            · exact h0 v (by rw [q]; exact hv)
            · rw [ew] at ew'
              cases ew'
              exact q' v hv
          · rw [if_neg hab]
            exact p1 a ha
      · have hcr : 0 ≤ c ∧ c < n := (nb_wt g (nb_of_wt g ec)).1
        rcases p2 with ⟨rfl, h3⟩ | ⟨h1, h0, h2⟩
        · rcases List.mem_append.mp hc with hc | hc
          · exact q1 c hc wc ec
          · have : c = b := List.mem_singleton.mp hc
            subst this
            rw [ew] at ec
            cases ec
            exact h3
        · rw [h2 c hcr]
          by_cases hcb : c = b
          · subst hcb
            rw [ew] at ec
            cases ec
            rw [if_pos rfl]
            exact .inr ⟨_, rfl, Int.le_refl _⟩
          · rw [if_neg hcb]
            rcases List.mem_append.mp hc with hc | hc
            · exact q1 c hc wc ec
            · exact absurd (List.mem_singleton.mp hc) hcb
  exact ⟨F', e, hl', hP, fun b w ew => hQ b ((permI _).mem_iff.mpr (nb_of_wt g ew)) w ew⟩
structure DjI (n : Nat) (ts : List Tie) (st : Int) (F : Found) (D : Done) (here : Option Int) : Prop where
  way : ∀ (a : Int) v, 0 ≤ a ∧ a < n → atF F a = some v → Wy ts st a v.1 v.2 ∧ v.2.Nodup ∧ ∀ x ∈ v.2, x = a ∨ ahas D x = true
  dr : ∀ a : Int, ahas D a = true → ∃ v, atF F a = some v
  tri : ∀ (a b w : Int), ahas D a = true → wt ts a b = some w → ∃ va vb, atF F a = some va ∧ atF F b = some vb ∧ vb.1 ≤ va.1 + w
  ord : ∀ (a b : Int) va vb, ahas D a = true → 0 ≤ b ∧ b < n → ahas D b = false → atF F a = some va → atF F b = some vb → va.1 ≤ vb.1
  lst : ∀ h, here = some h → ∀ (b : Int) vh vb, 0 ≤ b ∧ b < n → ahas D b = false → atF F h = some vh → atF F b = some vb → vh.1 ≤ vb.1
  fin : here = none → ∀ b : Int, 0 ≤ b ∧ b < n → (atF F b).isSome = true → ahas D b = true
theorem dij_step {n : Nat} {ts : List Tie} (hn : n ≤ 24) (g : Good n ts) (h0 : ∀ a b w, wt ts a b = some w → 0 ≤ w) {st : Int} (hst : 0 ≤ st ∧ st < n) {F : Found} {D : Done} {h : Int} (I : WI n st F D (some h)) (J : DjI n ts st F D (some h)) :
    ∃ F' D' here', p_ways_L2 (web n ts) F D (some h) = some (F', D', here') ∧ WI n st F' D' here' ∧ DjI n ts st F' D' here' ∧ D'.length = D.length + 1 := by
  obtain ⟨hh, hd, v, hv⟩ := I.hr h rfl
  have hdl := I.dl
  have hD : aput D h true = D ++ [(h, true)] := aput_new hd
  have hw : v.2.length ≤ 1000 := by have := I.wl h v hh hv; omega
  obtain ⟨F', D', r', e1, I', hlen⟩ := way_step hn g hst I
  obtain ⟨F2, e, hl', hP, hQ⟩ := way_fold2 (D := D ++ [(h, true)]) (h := h) (cost := v.1) (way := v.2) g hh I.len hw
  obtain ⟨r, er, hr0, hr⟩ := near_ok (F := F2) (D := D ++ [(h, true)]) hl' (by omega)
  have hhas : ∀ a, ahas (D ++ [(h, true)]) a = (decide (h = a) || ahas D a) := fun a => by rw [← hD, ahas_put]
  have e2 : p_ways_L2 (web n ts) F D (some h) = some (F2, D ++ [(h, true)], r) := by
    unfold p_ways_L2
    rw [bindO_s, aputO_e (by omega), bindO_s, bindO_s, idxF I.len hh, bindO_s, hv, bindO_s, hD]
    simp -implicitDefEqProofs only [letB_eq]
    have hat : atF F2 h = some v := by
      rcases hP h hh with z | ⟨z, _⟩
      · rw [z]; exact hv
      · rw [hhas] at z; simp at z
    rw [bindO_s, tied_webI hh, bindO_s, nH_e I.len hh, e, bindO_s, gN_e hl' hh, bindO_s, bindO_s, setF hl' hh hat, er, bindO_s]
  have e3 := Option.some.inj (e1.symm.trans e2)
  cases e3
  have up : ∀ a, ahas D a = true → ahas (D ++ [(h, true)]) a = true := fun a q => by rw [hhas, q, Bool.or_true]
  have hself : ahas (D ++ [(h, true)]) h = true := by rw [hhas]; simp
  have dn : ∀ a, ahas (D ++ [(h, true)]) a = true → a = h ∨ ahas D a = true := fun a q => by
    rw [hhas, Bool.or_eq_true, decide_eq_true_eq] at q
    exact q.imp Eq.symm id
  have rg : ∀ a, ahas (D ++ [(h, true)]) a = true → 0 ≤ a ∧ a < n := fun a q => I'.dr a (ahas_key.mp q)
  have same : ∀ a, ahas (D ++ [(h, true)]) a = true → atF F' a = atF F a := fun a q => by
    rcases hP a (rg a q) with z | ⟨z, _⟩
    · exact z
    · rw [q] at z; cases z
  refine ⟨F', D ++ [(h, true)], r', e2, I', ⟨fun a u ha hu => ?_, fun a q => ?_, fun a b w q ew => ?_, fun a b va vb q hb nb ea eb => ?_, fun a ea b vh vb hb nb eh eb => ?_, fun er0 b hb hs => hr0 er0 b hb hs⟩, by simp⟩
  · rcases hP a ha with z | ⟨z, w, ew, z2, _⟩
    · rw [z] at hu
      obtain ⟨h1, h2, h3⟩ := J.way a u ha hu
      exact ⟨h1, h2, fun x hx => (h3 x hx).imp id (up x)⟩
    · rw [z2] at hu
      cases hu
      obtain ⟨h1, h2, h3⟩ := J.way h v hh hv
      have h4 : ∀ x ∈ v.2, ahas (D ++ [(h, true)]) x = true := fun x hx => (h3 x hx).elim (fun q => by rw [q]; exact hself) (up x)
      refine ⟨.snoc h1 ew, ?_, fun x hx => ?_⟩
      · rw [List.nodup_append]
        refine ⟨h2, by simp, fun x hx y hy exy => ?_⟩
        rw [List.mem_singleton.mp hy] at exy
        have := h4 x hx
        rw [exy, z] at this
        cases this
      · rcases List.mem_append.mp hx with hx | hx
        · exact .inr (h4 x hx)
        · exact .inl (List.mem_singleton.mp hx)
  · rw [same a q]
    rcases dn a q with z | z
    · exact ⟨v, by rw [z]; exact hv⟩
    · exact J.dr a z
  · have hw0 := h0 a b w ew
    rcases dn a q with z | z
    · subst z
      refine ⟨v, ?_⟩
      rw [same a q, hv]
      rcases hQ b w ew with y | ⟨u, y1, y2⟩
      · rw [same b y]
        rcases dn b y with y0 | y0
        · rw [y0, hv]
          exact ⟨v, rfl, rfl, by omega⟩
        · obtain ⟨vb, eb⟩ := J.dr b y0
          have := J.ord b a vb v y0 hh hd eb hv
          exact ⟨vb, rfl, eb, by omega⟩
      · exact ⟨u, rfl, y1, y2⟩
    · obtain ⟨va, vb, ea, eb, hle⟩ := J.tri a b w z ew
      have hb : 0 ≤ b ∧ b < n := (nb_wt g (nb_of_wt g ew)).1
      refine ⟨va, ?_⟩
      rw [same a q, ea]
      rcases hP b hb with y | ⟨_, w', _, y, y2⟩
      · exact ⟨vb, rfl, by rw [y]; exact eb, hle⟩
      · have := y2 vb eb
        exact ⟨_, rfl, y, by dsimp only; omega⟩
  · have nb' : ahas D b = false := by
      cases z : ahas D b with
      | false => rfl
      | true => rw [up b z] at nb; cases nb
    rw [same a q] at ea
    have key : va.1 ≤ v.1 ∧ ∀ u, atF F b = some u → va.1 ≤ u.1 := by
      rcases dn a q with z | z
      · subst z
        rw [hv] at ea
        cases ea
        exact ⟨Int.le_refl _, fun u hu => J.lst a rfl b v u hb nb' hv hu⟩
      · exact ⟨J.ord a h va v z hh hd ea hv, fun u hu => J.ord a b va u z hb nb' ea hu⟩
    rcases hP b hb with y | ⟨_, w', ew, y, _⟩
    · rw [y] at eb
      exact key.2 vb eb
    · rw [y] at eb
      cases eb
      have := h0 h b w' ew
      have := key.1
      omega
  · obtain ⟨_, _, v0, e0, hmin⟩ := hr a ea
    rw [e0] at eh
    cases eh
    exact hmin b vb hb eb nb
structure Full (n : Nat) (ts : List Tie) (st : Int) (F : Found) : Prop where
  len : F.length = n
  sv : atF F st = some (0, [st])
  way : ∀ (a : Int) v, 0 ≤ a ∧ a < n → atF F a = some v → Wy ts st a v.1 v.2 ∧ v.2.Nodup
  tri : ∀ (a b w : Int) va, wt ts a b = some w → 0 ≤ a ∧ a < n → atF F a = some va → ∃ vb, atF F b = some vb ∧ vb.1 ≤ va.1 + w
theorem ways_full {n : Nat} {ts : List Tie} (hn : n ≤ 24) (g : Good n ts) (hl : ts.length ≤ 1000) (h0 : ∀ t ∈ ts, 0 ≤ t.2.2) {st : Int} (hst : 0 ≤ st ∧ st < n) :
    ∃ F, p_ways (web n ts) st = some F ∧ Full n ts st F := by
  have hw0 : ∀ a b w, wt ts a b = some w → 0 ≤ w := fun a b w e => by
    unfold wt at e
    obtain ⟨t, ht, rfl⟩ := Option.map_eq_some_iff.mp e
    exact h0 t (List.mem_of_find?_eq_some ht)
  unfold p_ways
  rw [ties_norm g hl, bindO_s]
  have e1 : forS (sort3 (ts.map tnorm)) () (fun (x2 : Int × Int × Int) (s2 : Unit) => p_ways_L1 x2) = some () := by
    obtain ⟨_, e, _⟩ := forS_inv (xs := sort3 (ts.map tnorm)) (s0 := ()) (f := fun (x2 : Int × Int × Int) (s2 : Unit) => p_ways_L1 x2) (fun _ _ => True) trivial fun pre x post s es _ => by
      have hx : x ∈ ts.map tnorm := (perm3 _).mem_iff.mp (by rw [es]; simp)
      obtain ⟨t, ht, rfl⟩ := List.mem_map.mp hx
      have := h0 t ht
      refine ⟨(), ?_, trivial⟩
      unfold p_ways_L1
      rw [if_neg (by simp [tnorm]; omega)]
    exact e
  rw [e1, bindO_s, web_size, bindO_s, rng_e (by omega), bindO_s, big_e (by simp; omega), bindO_s]
  simp -implicitDefEqProofs only [letB_eq]
  have hl0 : (((List.range n).map fun (k : Nat) => (k : Int)).map fun y5 => (none : Option (Int × List Int))).length = n := by simp
  have at0 : ∀ a : Int, atF (((List.range n).map fun (k : Nat) => (k : Int)).map fun y5 => (none : Option (Int × List Int))) a = none := fun a => by
    unfold atF
    rw [List.map_map, List.getElem?_map]
    cases (List.range n)[a.toNat]? <;> rfl
  rw [putF_e hl0 hst, bindO_s]
  generalize hF0 : ((((List.range n).map fun (k : Nat) => (k : Int)).map fun y5 => (none : Option (Int × List Int))).set st.toNat (some (0, [st]))) = F0
  have at1 : ∀ a : Int, 0 ≤ a ∧ a < n → atF F0 a = if a = st then some (0, [st]) else none := fun a ha => by rw [← hF0, atF_set hl0 hst _ ha, at0]
  have only : ∀ (a : Int) v, 0 ≤ a ∧ a < n → atF F0 a = some v → a = st ∧ v = (0, [st]) := fun a v ha hv => by
    rw [at1 a ha] at hv
    split at hv
    · cases hv; exact ⟨‹_›, rfl⟩
    · cases hv
  have I0 : WI n st F0 ([] : Done) (some st) := by
    refine ⟨by rw [← hF0, List.length_set]; exact hl0, .nil, fun _ z => (nomatch z), fun a v ha hv => ?_, fun h e => ?_, by rw [at1 st hst, if_pos rfl], .inl ⟨rfl, rfl⟩⟩
    · obtain ⟨_, rfl⟩ := only a v ha hv
      simp
    · cases e
      exact ⟨hst, rfl, _, by rw [at1 st hst, if_pos rfl]⟩
  have J0 : DjI n ts st F0 ([] : Done) (some st) := by
    refine ⟨fun a v ha hv => ?_, fun a q => (nomatch q), fun a b w q => (nomatch q), fun a b va vb q => (nomatch q), fun h e b vh vb hb _ e1 e2 => ?_, fun e => (nomatch e)⟩
    · obtain ⟨rfl, rfl⟩ := only a v ha hv
      exact ⟨.nil, by simp, fun x hx => .inl (List.mem_singleton.mp hx)⟩
    · obtain rfl : st = h := Option.some.inj e
      obtain ⟨_, rfl⟩ := only st vh hst e1
      obtain ⟨_, rfl⟩ := only b vb hb e2
      exact Int.le_refl _
  obtain ⟨⟨F, D, here⟩, e2, ⟨I, J⟩, e3⟩ := whS_inv (n := fuel) (s0 := (F0, ([] : Done), some st))
    (c := fun (s26 : Found × Done × (Option Int)) => some s26.2.2.isSome) (f := fun (s26 : Found × Done × (Option Int)) => p_ways_L2 (web n ts) s26.1 s26.2.1 s26.2.2)
    (fun s => WI n st s.1 s.2.1 s.2.2 ∧ DjI n ts st s.1 s.2.1 s.2.2) (fun s => n - s.2.1.length + (if s.2.2.isSome = true then 1 else 0)) (fuel_big (by simp; omega)) ⟨I0, J0⟩ (fun s IJ => by
      obtain ⟨F, D, here⟩ := s
      cases here with
      | none => exact .inl rfl
      | some h =>
        refine .inr ⟨rfl, ?_⟩
        obtain ⟨F', D', here', e, I', J', hlen⟩ := dij_step hn g hw0 hst IJ.1 IJ.2
        refine ⟨_, e, ⟨I', J'⟩, ?_⟩
        exact way_meas hlen I'.dl (by split <;> omega))
  rw [e2, bindO_s]
  have I : WI n st F D here := I
  have J : DjI n ts st F D here := J
  have e3 : some here.isSome = some false := e3
  have hn0 : here = none := by
    cases here with
    | none => rfl
    | some x => cases e3
  refine ⟨F, rfl, I.len, I.sv, fun a v ha hv => ⟨(J.way a v ha hv).1, (J.way a v ha hv).2.1⟩, fun a b w va ew ha hva => ?_⟩
  have hd := J.fin hn0 a ha (by rw [hva]; rfl)
  obtain ⟨va', vb, e4, e5, hle⟩ := J.tri a b w hd ew
  rw [hva] at e4
  cases e4
  exact ⟨vb, e5, hle⟩
theorem Wy.rg {n : Nat} {ts : List Tie} (g : Good n ts) {st : Int} (hst : 0 ≤ st ∧ st < n) {a c : Int} {xs : List Int} (h : Wy ts st a c xs) : 0 ≤ a ∧ a < n := by
  cases h with
  | nil => exact hst
  | snoc _ e => exact (nb_wt g (nb_of_wt g e)).1
end Pr
set_option Elab.async false
set_option linter.all false
set_option maxRecDepth 100000
namespace Pr
open PySem PySem.Spec L2 Ev Tg
open PyProof.Rows hiding St
theorem listed_row {n : Nat} {m : TD} (h : KOk n m) (hn : n ≤ 24) (way : Int) : ∃ ts, p_law_listed m way = some ts ∧ Lst n m ts := by
  unfold p_law_listed
  rw [letB_eq]
  have hlen := h.len hn
  obtain ⟨s, e, hg, hm⟩ := forS_inv (xs := m.map (·.1)) (s0 := ([] : List Tie)) (f := fun (x4 : Int × Int) (s4 : (List Tie)) => p_law_listed_L1 m way x4.1 x4.2 s4) (fun pre s => (∀ t ∈ s, Good1 n t) ∧ s.map (fun t => (tkey t, t.2.2)) = m.take pre.length) ⟨fun _ z => (nomatch z), rfl⟩ fun pre x post s e ⟨h1, h2⟩ => by
    have hpl : pre.length < m.length := by
      have := congrArg List.length e
      simp at this
      omega
    have hx : m[pre.length]?.map (·.1) = some x := by
      rw [← List.getElem?_map, e]
      simp
    rw [List.getElem?_eq_getElem hpl, Option.map_some] at hx
    have hx := Option.some.inj hx
    have hr := h.rg x (by rw [e]; simp)
    have hmm : m[pre.length] ∈ m := List.getElem_mem hpl
    have ha : aget m (x.1, x.2) = some m[pre.length].2 := by
      rw [aget_iff h.nd]
      have : ((x.1, x.2), m[pre.length].2) = m[pre.length] := Prod.ext hx.symm rfl
      rw [this]
      exact hmm
    have hsl : s.length = pre.length := by
      have := congrArg List.length h2
      simp at this
      omega
    have tk : m.take (pre.length + 1) = m.take pre.length ++ [m[pre.length]] := take_snoc hpl
    unfold p_law_listed_L1
    rw [ha, bindO_s, bindO_s]
    have fin : ∀ t : Tie, Good1 n t → (tkey t, t.2.2) = m[pre.length] → (∀ u ∈ s ++ [t], Good1 n u) ∧ (s ++ [t]).map (fun t => (tkey t, t.2.2)) = m.take (pre ++ [x]).length := fun t g1 et => by
      refine ⟨fun u hu => (List.mem_append.mp hu).elim (h1 u) fun hu => by rw [List.mem_singleton.mp hu]; exact g1, ?_⟩
      rw [List.map_append, h2, List.length_append, List.length_singleton, tk, List.map_singleton, et]
    split
    · rw [appO_e (by omega), bindO_s, bindO_s]
      exact ⟨_, rfl, fin _ ⟨by dsimp only; omega, hr.1, by dsimp only; omega, by dsimp only; omega, hr.2.2⟩ (Prod.ext (by rw [hx]; exact Prod.ext (by show min x.1 x.2 = x.1; omega) (by show max x.1 x.2 = x.2; omega)) rfl)⟩
    · rw [appO_e (by omega), bindO_s, bindO_s]
      exact ⟨_, rfl, fin _ ⟨by dsimp only; omega, by dsimp only; omega, hr.1, hr.2.2, by dsimp only; omega⟩ (Prod.ext (by rw [hx]; exact Prod.ext (by show min x.2 x.1 = x.1; omega) (by show max x.2 x.1 = x.2; omega)) rfl)⟩
  rw [e, bindO_s]
  rw [List.length_map, List.take_length] at hm
  have key : ∀ ts, (∀ t ∈ ts, Good1 n t) → (ts.map (fun t => (tkey t, t.2.2))).Perm m → Lst n m ts := fun ts g p => ⟨Good.of_keys g (by
    have q := (p.map (·.1)).nodup_iff.mpr h.nd
    rw [List.map_map] at q
    exact q), p⟩
  rcases Int.emod_two_eq way with hw | hw
  · rw [hw]
    exact ⟨s, rfl, key s hg (by rw [hm])⟩
  · rw [hw]
    exact ⟨s.reverse, rfl, key _ (fun t ht => hg t (List.mem_reverse.mp ht)) (by rw [List.map_reverse]; exact (List.reverse_perm _).trans (by rw [hm]))⟩
end Pr
set_option Elab.async false
set_option linter.all false
namespace Pr
open PySem PySem.Spec L2 Ev Tg
open PyProof.Rows hiding St
theorem dedI_len' {ns : List Int} : (dedI ns).length = ns.length ↔ ns.Nodup := by
  have go : ∀ (ns acc : List Int), acc.Nodup → (ns.foldl PyProof.Rows.step_dedup acc).length ≤ acc.length + ns.length ∧ ((ns.foldl PyProof.Rows.step_dedup acc).length = acc.length + ns.length ↔ (acc ++ ns).Nodup) := by
    intro ns
    induction ns with
    | nil => intro acc h; simp [h]
    | cons x ns ih =>
      intro acc h
      rw [List.foldl_cons]
      by_cases hx : x ∈ acc
      · have e : PyProof.Rows.step_dedup acc x = acc := if_pos (by simpa using hx)
        rw [e]
        have := ih acc h
        rw [List.length_cons]
        refine ⟨by omega, ?_⟩
        constructor
        · intro e
          omega
        · intro e
          have := (List.nodup_append.mp e).2.2 x hx x (by simp)
          exact absurd rfl this
      · have e : PyProof.Rows.step_dedup acc x = acc ++ [x] := if_neg (by simpa using hx)
        rw [e]
        have hn : (acc ++ [x]).Nodup := by
          rw [List.nodup_append]
          exact ⟨h, by simp, fun a ha b hb => by simp at hb; subst hb; rintro rfl; exact hx ha⟩
        have := ih (acc ++ [x]) hn
        rw [List.append_assoc, List.length_append] at this
        rw [List.length_cons]
        simp only [List.length_cons, List.length_nil, List.singleton_append] at this
        refine ⟨by omega, ?_⟩
        rw [← this.2]
        omega
  have := (go ns [] List.nodup_nil).2
  simpa [dedI] using this
open Classical in
theorem kinds_eq {xs : List Int} (h : xs.length < 4000) : ∃ n : Int, kindsO xs = some n ∧ (n = (xs.length : Int) ↔ xs.Nodup) := by
  refine ⟨((dedI xs).length : Int), if_pos h, ?_⟩
  rw [Int.ofNat_inj]
  exact dedI_len'
end Pr
set_option Elab.async false
set_option linter.all false
namespace Pr
open PySem PySem.Spec L2 Ev Tg
theorem cell_bits {ns : List Int} (hb : ∀ z ∈ ns, Builtin.Int.intBits z ≤ 1048576) (i : Int) (h : 0 ≤ i) : ∃ c, p_law_cell_at ns i = some c ∧ Builtin.Int.intBits c ≤ 1048576 := by
  obtain ⟨k, rfl⟩ : ∃ k : Nat, i = k := ⟨i.toNat, by omega⟩
  unfold p_law_cell_at
  by_cases h : k < ns.length
  · rw [if_pos (by simpa using h), idx_lt h, bindO_s]
    exact ⟨_, rfl, hb _ (List.getElem_mem h)⟩
  · rw [if_neg (by simpa using h)]
    exact ⟨0, rfl, by decide⟩
end Pr
set_option Elab.async false
set_option linter.all false
set_option maxRecDepth 100000
namespace Pr
open PySem PySem.Spec L2 Ev Tg
open PyProof.Rows hiding St
theorem tie_eq (a b : Int) : p_law_tie a b = some (min a b, max a b) := by
  unfold p_law_tie
  rw [minI_eq, maxI_eq]
end Pr
set_option Elab.async false
set_option linter.all false
set_option maxRecDepth 100000
namespace Pr
open PySem PySem.Spec L2 Ev Tg
theorem drawn_w {n : Nat} (hn : 0 < n) (c f : Int) (hf : -(2 ^ 64) < f ∧ f < 2 ^ 64) : ∃ v, p_law_drawn c f n = some v ∧ 0 ≤ v ∧ v < n := by
  unfold p_law_drawn
  rw [mulR hf, bindO_s]
  simp -implicitDefEqProofs only [letB_eq]
  generalize (c + 11) * f = z
  have h1 := Int.emod_nonneg z (b := 2147483629) (by decide)
  have h2 := Int.emod_lt_of_pos z (b := 2147483629) (by decide)
  generalize z % 2147483629 = y at h1 h2
  rw [mulR ⟨by omega, by omega⟩, bindO_s, modP (by omega), bindO_s]
  exact ⟨_, rfl, Int.emod_nonneg _ (by omega), Int.emod_lt_of_pos _ (by omega)⟩
theorem cost_w (c : Int) : ∃ v, p_law_cost c = some v ∧ 0 ≤ v := by
  unfold p_law_cost
  split
  · exact ⟨_, rfl, Int.emod_nonneg _ (by decide)⟩
  · exact ⟨_, rfl, Int.emod_nonneg _ (by decide)⟩
abbrev NN (m : TD) : Prop := ∀ p ∈ m, 0 ≤ p.2
theorem put_val {m : TD} {k : Int × Int} {v : Int} : ∀ p ∈ aput m k v, p ∈ m ∧ p.1 ≠ k ∨ p = (k, v) := fun p hp => by
  unfold aput at hp
  split at hp
  · obtain ⟨q, hq, e⟩ := List.mem_map.mp hp
    split at e
    · subst e
      rename_i h
      exact .inr (Prod.ext h rfl)
    · subst e
      rename_i h
      exact .inl ⟨hq, h⟩
  · rename_i h
    rcases List.mem_append.mp hp with q | q
    · refine .inl ⟨q, fun e => h ?_⟩
      rw [ahas_key]
      exact List.mem_map.mpr ⟨p, q, e⟩
    · exact .inr (List.mem_singleton.mp q)
theorem NN.put {m : TD} (h : NN m) (k : Int × Int) {v : Int} (hv : 0 ≤ v) : NN (aput m k v) := fun p hp => by
  rcases put_val p hp with q | q
  · exact h p q.1
  · rw [q]; exact hv
theorem ties_w {n : Nat} (hn : n ≤ 24) (h0 : 0 < n) (ns : List Int) (u : Int) : ∃ m, p_law_ties ns n u = some m ∧ KOk n m ∧ NN m := by
  unfold p_law_ties
  simp -implicitDefEqProofs only [letB_eq]
  obtain ⟨m, e, K, N⟩ := forS_inv (xs := cutL ns (some (1 : Int)) (some u)) (s0 := ([] : TD)) (f := fun (x6 : Int) (s6 : TD) => p_law_ties_L1 n x6 s6) (fun _ s => KOk n s ∧ NN s) ⟨⟨.nil, fun _ z => (nomatch z)⟩, fun _ z => (nomatch z)⟩ fun pre x post s es ⟨K, N⟩ => by
    obtain ⟨v1, e1, a1, b1⟩ := drawn_w h0 x 69621 (by decide)
    obtain ⟨v2, e2, a2, b2⟩ := drawn_w h0 x 16807 (by decide)
    obtain ⟨c, e3, hc⟩ := cost_w x
    unfold p_law_ties_L1
    rw [e1, bindO_s, e2, bindO_s, tie_eq, bindO_s]
    simp -implicitDefEqProofs only [letB_eq]
    by_cases h : ((!decide (min v1 v2 = max v1 v2)) && !(ahas s (min v1 v2, max v1 v2))) = true
    · rw [if_pos h, e3, bindO_s, aputO_e (by have := K.len hn; omega), bindO_s, bindO_s]
      have hne : ¬ min v1 v2 = max v1 v2 := by
        rw [Bool.and_eq_true] at h
        simpa using h.1
      exact ⟨_, rfl, K.put ⟨by dsimp only; omega, by dsimp only; omega, by dsimp only; omega⟩ c, N.put _ hc⟩
    · rw [if_neg h, bindO_s]
      exact ⟨_, rfl, K, N⟩
  rw [e, bindO_s]
  exact ⟨m, rfl, K, N⟩
theorem Lst.nn {n : Nat} {m : TD} {ts : List Tie} (h : Lst n m ts) (N : NN m) : ∀ t ∈ ts, 0 ≤ t.2.2 := fun t ht => N _ (h.pm.mem_iff.mp (List.mem_map.mpr ⟨t, ht, rfl⟩))
theorem lst_len {n : Nat} {m : TD} {ts : List Tie} (h : Lst n m ts) (K : KOk n m) (hn : n ≤ 24) : ts.length ≤ 576 := by rw [h.len]; exact K.len hn
def pcost (ts : List Tie) (xs : List Int) : Nat → Int
  | 0 => 0
  | k + 1 => pcost ts xs k + (wt ts (xs.getD k 0) (xs.getD (k + 1) 0)).getD 0
theorem getD_app {xs : List Int} {b : Int} {k : Nat} (h : k < xs.length) : (xs ++ [b]).getD k 0 = xs.getD k 0 := by
  rw [List.getD_eq_getElem?_getD, List.getD_eq_getElem?_getD, List.getElem?_append_left h]
theorem pcost_app (ts : List Tie) (xs : List Int) (b : Int) : ∀ k, k < xs.length → pcost ts (xs ++ [b]) k = pcost ts xs k
  | 0, _ => rfl
  | k + 1, h => by
    unfold pcost
    rw [pcost_app ts xs b k (by omega), getD_app (by omega), getD_app h]
structure Chn (ts : List Tie) (s e c : Int) (xs : List Int) : Prop where
  pos : 0 < xs.length
  hd : xs.getD 0 0 = s
  last : xs.getD (xs.length - 1) 0 = e
  tie : ∀ k, k + 1 < xs.length → ∃ w, wt ts (xs.getD k 0) (xs.getD (k + 1) 0) = some w
  cost : c = pcost ts xs (xs.length - 1)
theorem Wy.chn {ts : List Tie} {s e c : Int} {xs : List Int} (h : Wy ts s e c xs) : Chn ts s e c xs := by
  induction h with
  | nil => exact ⟨by simp, rfl, rfl, fun k hk => by simp at hk, rfl⟩
  | @snoc a b c w xs h1 ew ih =>
    have hp := ih.pos
    have hlast : (xs ++ [b]).getD xs.length 0 = b := by rw [List.getD_eq_getElem?_getD]; simp
    refine ⟨by simp, by rw [getD_app hp]; exact ih.hd, ?_, fun k hk => ?_, ?_⟩
    · rw [List.length_append, List.length_singleton, Nat.add_sub_cancel]
      exact hlast
    · rw [List.length_append, List.length_singleton] at hk
      by_cases q : k + 1 < xs.length
      · rw [getD_app (by omega), getD_app q]
        exact ih.tie k q
      · have : k + 1 = xs.length := by omega
        have e1 : k = xs.length - 1 := by omega
        rw [this, hlast, getD_app (by omega), e1, ih.last]
        exact ⟨w, ew⟩
    · rw [List.length_append, List.length_singleton, Nat.add_sub_cancel]
      obtain ⟨l, hl⟩ : ∃ l, xs.length = l + 1 := ⟨xs.length - 1, by omega⟩
      have h2 := ih.last
      have h3 := ih.cost
      rw [hl, Nat.add_sub_cancel] at h2 h3
      rw [hl] at hlast
      rw [hl]
      unfold pcost
      rw [hlast, getD_app (by omega), h2, ew, pcost_app ts xs b l (by omega), ← h3]
      rfl
theorem Wy.in_rg {n : Nat} {ts : List Tie} (g : Good n ts) {st : Int} (hst : 0 ≤ st ∧ st < n) {a c : Int} {xs : List Int} (h : Wy ts st a c xs) : ∀ x ∈ xs, 0 ≤ x ∧ x < (n : Int) := by
  induction h with
  | nil => intro x hx; rw [List.mem_singleton.mp hx]; exact hst
  | snoc h1 e ih =>
    intro x hx
    rcases List.mem_append.mp hx with hx | hx
    · exact ih x hx
    · rw [List.mem_singleton.mp hx]; exact (nb_wt g (nb_of_wt g e)).1
theorem idx_gD {xs : List Int} {k : Nat} (h : k < xs.length) : idx xs (k : Int) = some (xs.getD k 0) := by
  rw [idx_lt h, List.getD_eq_getElem?_getD, List.getElem?_eq_getElem h]
  rfl
theorem idx_lastD {xs : List Int} (h : 0 < xs.length) : idx xs (-(1 : Int)) = some (xs.getD (xs.length - 1) 0) := by
  unfold idx atI L2.ixN
  rw [if_neg (by omega)]
  have e : (-(1 : Int) + (xs.length : Int)).toNat = xs.length - 1 := by omega
  rw [List.getD_eq_getElem?_getD, List.getElem?_eq_getElem (by omega)]
  split
  · rename_i q
    simp only [Option.bind_some]
    rw [List.getElem?_eq_getElem (by omega)]
    simp only [e, Option.getD_some]
  · omega
section
variable {n : Nat} {ts : List Tie} {m : TD} {st : Int} {F : Found}
theorem is_way_ok (hn : n ≤ 24) (L : Lst n m ts) (K : KOk n m) (hst : 0 ≤ st ∧ st < n) {a : Int} {v : Int × List Int} (h : Wy ts st a v.1 v.2) (nd : v.2.Nodup) : p_law_is_way v m st a = some true := by
  obtain ⟨c, xs⟩ := v
  dsimp only at h nd
  have C := h.chn
  have hr := h.in_rg L.g hst
  have hlen : xs.length ≤ n := nd_le nd hr
  have hp := C.pos
  unfold p_law_is_way p_law_whole
  simp -implicitDefEqProofs only [letB_eq]
  have hne : decide (xs = ([] : List Int)) = false := by
    rw [decide_eq_false_iff_not]
    rintro rfl
    simp at hp
  have e0 : idx xs (0 : Int) = some st := by
    have := idx_gD hp
    rw [C.hd] at this
    exact this
  have e1 : idx xs (-(1 : Int)) = some a := by rw [idx_lastD hp, C.last]
  rw [lcM_map (xs := xs) (f := fun y4 => bindO (some (true && !false)) fun v5 => some v5) (fun _ => true) (fun x hx => rfl)]
  simp only [bindO_s, hne, e0, e1]
  rw [big_e (by rw [List.length_map]; omega)]
  have hall : (xs.map fun _ => true).all id = true := by
    rw [List.all_map]
    exact List.all_eq_true.mpr fun _ _ => rfl
  have hl1 : ((xs.length : Int) - 1) = ((xs.length - 1 : Nat) : Int) := by omega
  simp only [bindO_s, hall]
  rw [hl1, rng_e (by omega)]
  simp -implicitDefEqProofs
  rcases forC_rng (n := xs.length - 1) (s0 := (0 : Int)) (f := fun (x17 : Int) (s17 : Int) => p_law_is_way_L1 m xs x17 s17) (fun k s => s = pcost ts xs k) (fun _ => False) rfl (fun k s hk hs => by
      left
      subst hs
      obtain ⟨w, ew⟩ := C.tie k (by omega)
      have ew2 := ew
      rw [Lst.wt K.nd L] at ew2
      unfold p_law_is_way_L1
      rw [idx_gD (by omega), bindO_s, show ((k : Int) + 1) = ((k + 1 : Nat) : Int) from by omega, idx_gD (by omega), bindO_s, tie_eq, bindO_s]
      simp -implicitDefEqProofs only [letB_eq]
      rw [if_neg (by rw [ahas_iff, ew2]; simp), ew2, bindO_s]
      refine ⟨_, rfl, ?_⟩
      show _ = pcost ts xs k + _
      rw [ew]
      rfl) with ⟨s, es, hs⟩ | ⟨_, _, q⟩
  · rw [es, onS_l, hs, ← C.cost, if_pos rfl]
    obtain ⟨N, eN, hN⟩ := kinds_eq (xs := xs) (by omega)
    rw [eN, bindO_s, hN.mpr nd]
    simp
  · exact q.elim
theorem right_ok (hn : n ≤ 24) (L : Lst n m ts) (K : KOk n m) (hst : 0 ≤ st ∧ st < n) (f : Full n ts st F) : p_law_right F m n st = some true := by
  unfold p_law_right
  rw [f.len, idxF f.len hst, f.sv]
  simp -implicitDefEqProofs
  rw [rng_e (by omega), bindO_s, forC_unit (fun x hx => by
    obtain ⟨k, hk, rfl⟩ := List.mem_map.mp hx
    have hk := List.mem_range.mp hk
    have hx : 0 ≤ (k : Int) ∧ (k : Int) < n := by omega
    unfold p_law_right_L1
    rw [idxF f.len hx, bindO_s]
    cases hv : atF F (k : Int) with
    | none => simp -implicitDefEqProofs
    | some v =>
      obtain ⟨h1, h2⟩ := f.way _ v hx hv
      simp -implicitDefEqProofs [is_way_ok hn L K hst h1 h2]), onS_l, forC_unit (fun x hx => by
    have hr := K.rg x hx
    have h1 : 0 ≤ x.1 ∧ x.1 < (n : Int) := by omega
    have h2 : 0 ≤ x.2 ∧ x.2 < (n : Int) := by omega
    obtain ⟨w, hw⟩ : ∃ w, aget m (x.1, x.2) = some w := by
      have : ahas m x = true := ahas_key.mpr hx
      rw [ahas_iff] at this
      exact Option.isSome_iff_exists.mp this
    have ew : wt ts x.1 x.2 = some w := by
      rw [Lst.wt K.nd L, show (min x.1 x.2, max x.1 x.2) = (x.1, x.2) from Prod.ext (by dsimp only; omega) (by dsimp only; omega)]
      exact hw
    have ew' : wt ts x.2 x.1 = some w := by rw [wt_comm]; exact ew
    unfold p_law_right_L2
    rw [idxF f.len h1, bindO_s, idxF f.len h2, bindO_s]
    cases ha : atF F x.1 with
    | none =>
      cases hb : atF F x.2 with
      | none => simp -implicitDefEqProofs
      | some vb =>
        obtain ⟨va, q, _⟩ := f.tri _ _ _ vb ew' h2 hb
        rw [ha] at q
        cases q
    | some va =>
      obtain ⟨vb, q, hle⟩ := f.tri _ _ _ va ew h1 ha
      obtain ⟨va', q2, hle2⟩ := f.tri _ _ _ vb ew' h2 q
      rw [ha] at q2
      cases q2
      rw [q]
      have habs : decide (absI (va.1 - vb.1) > w) = false := by
        rw [decide_eq_false_iff_not]
        unfold absI
        split <;> omega
      simp -implicitDefEqProofs [hw, habs]), onS_l]
theorem on_ok (hn : n ≤ 24) (g : Good n ts) (hst : 0 ≤ st ∧ st < n) (f : Full n ts st F) : ∃ r, apON F = some r := by
  unfold apON
  refine ⟨_, if_pos (List.all_eq_true.mpr fun o ho => ?_)⟩
  cases o with
  | none => rfl
  | some p =>
    obtain ⟨k, hk, ek⟩ := List.getElem_of_mem ho
    have hr : 0 ≤ (k : Int) ∧ (k : Int) < n := by have := f.len; omega
    have hv : atF F (k : Int) = some p := by
      unfold atF
      rw [show ((k : Int)).toNat = k from by omega, List.getElem?_eq_getElem hk, ek]
      rfl
    obtain ⟨h1, h2⟩ := f.way _ p hr hv
    have := nd_le h2 (h1.in_rg g hst)
    show decide (p.2.length ≤ 1000000) = true
    rw [decide_eq_true_eq]
    omega
theorem turn_ok (hn : n ≤ 24) (L : Lst n m ts) (K : KOk n m) (N : NN m) (hst : 0 ≤ st ∧ st < n) : p_law_L1 n m (web n ts) st = some (.nx ()) := by
  unfold p_law_L1
  have hl := lst_len L K hn
  obtain ⟨F, e, f⟩ := ways_full hn L.g (by omega) (L.nn N) hst
  obtain ⟨r, er⟩ := on_ok hn L.g hst f
  rw [e, bindO_s]
  simp -implicitDefEqProofs only [letB_eq]
  rw [right_ok hn L K hst f, bindO_s, if_neg (by simp), er, bindO_s]
end
theorem main (ns : List Int) (hl : ns.length ≤ 63) (hb : ∀ z ∈ ns, Builtin.Int.intBits z ≤ 1048576) : p_law ns = some true := by
  unfold p_law
  obtain ⟨c0, e0, _⟩ := cell_bits hb 0 (by omega)
  rw [e0, bindO_s]
  simp -implicitDefEqProofs only [letB_eq]
  generalize hhd : ((c0 + 7) * 48271) % 2147483647 = hd
  have hd0 : 0 ≤ hd := by rw [← hhd]; exact Int.emod_nonneg _ (by decide)
  obtain ⟨n, hn, e1⟩ : ∃ n : Nat, (1 ≤ n ∧ n ≤ 24) ∧ (if decide (((hd / (12 : Int)) % (7 : Int)) = (3 : Int)) = true then some (24 : Int) else some ((1 : Int) + hd % 12)) = some (n : Int) := by
    by_cases q : decide (((hd / (12 : Int)) % (7 : Int)) = (3 : Int)) = true
    · rw [if_pos q]
      exact ⟨24, by omega, rfl⟩
    · rw [if_neg q]
      exact ⟨((1 : Int) + hd % 12).toNat, by omega, by congr 1; omega⟩
  rw [e1, bindO_s]
  obtain ⟨m, em, K, N⟩ := ties_w (n := n) (by omega) (by omega) ns 120
  rw [em, bindO_s]
  obtain ⟨ts, et, L⟩ := listed_row K (by omega) (hd / 7)
  have hlen := lst_len L K (by omega)
  rw [et, bindO_s, init_web (by omega) L.g (by omega), bindO_s, modP (by omega), bindO_s, modP (by omega), bindO_s]
  have r0 : ∀ z : Int, 0 ≤ z % (n : Int) ∧ z % (n : Int) < n := fun z => ⟨Int.emod_nonneg _ (by omega), Int.emod_lt_of_pos _ (by omega)⟩
  rw [forC_unit (fun x hx => by
    have : 0 ≤ x ∧ x < (n : Int) := by
      simp only [List.mem_cons, List.not_mem_nil, or_false] at hx
      rcases hx with rfl | rfl | rfl
      · exact r0 _
      · exact r0 _
      · exact r0 _
    exact turn_ok (by omega) L K N this), onS_l, Lst.ties L (by omega), bindO_s, keys_get K, bindO_s, big_e (by rw [List.length_map]; have := K.len (by omega); omega), bindO_s]
  simp
end Pr
set_option Elab.async false
set_option linter.all false
set_option maxRecDepth 100000
set_option maxHeartbeats 4000000
set_option synthInstance.maxSize 2000
set_option synthInstance.maxHeartbeats 400000
namespace Pr
open PySem PySem.Spec L2 Ev Tg
open PyProof.Rows hiding St
theorem law_sp {WC : Addr} {K : PySem.W.Frag} {PL : Addr} (tbs : ∀ H : Hp, H PL = some (.tbl #[]) → TBs K H) (main : ∀ ns : List Int, ns.length ≤ 63 → (∀ z ∈ ns, Builtin.Int.intBits z ≤ 1048576) → p_law ns = some true) : ∀ vs H Q E, spLawK K PL vs H Q E → spD K 1 (R_law WC) vs H Q E := fun vs H Q E ⟨a, ns, e, hs, hl, hb, hP, q⟩ => by
  subst e
  obtain ⟨l, a', hr, _, _⟩ := p_law_ok WC ns true (main ns hl hb)
  refine ⟨rfl, fun _ => True, [.fl (ns.map .int)], _, Rps.cons (F := []) (G := []) (.fl hs (rps_ints ns)) .nil, hr, tbs H hP, fun v H' F _ _ _ rp => ?_⟩
  have rp : Rp K _ H' l v (.bl true) F := rp
  obtain ⟨rfl, _⟩ := rp.bl_inv
  exact q H'
structure FnK (K : PySem.W.Frag) (nm x q : Str) (st : Stmt) (f : Addr) : Prop where
  a : PySem.W.nsIn K mainGlobals nm = some (some (.ref f))
  fn : ∃ fd, Fun K x q st f fd
  k : PySem.W.keepIn K (.ref f) = true
structure FnKM (K : PySem.W.Frag) (C : Addr) (x q : Str) (st : Stmt) (f : Addr) : Prop where
  a : PySem.W.findIn K (.ref C) x = some (some (.ref f))
  i : PySem.W.isFn K (.ref f) = true
  fn : ∃ fd, Fun K x q st f fd
  k : PySem.W.keepIn K (.ref f) = true
section
variable {K : PySem.W.Frag} {nm x q : Str} {st : Stmt} {f C : Addr} {oc : Value} {od an : Option Addr} {osl : Array (Option Value)} {kV doc pm cdv ct : Value}
theorem FnK.mk' (a : PySem.W.nsIn K mainGlobals nm = some (some (.ref f))) (l : K.lookup f = some ⟨oc, od, .func (PySem.W.fnOf x q (defArgs st) (defBody st) (defScope st) .none kV doc pm an cdv ct), osl⟩) (c : PySem.W.codeIn K cdv q = true) (k : PySem.W.keepIn K (.ref f) = true) : FnK K nm x q st f := ⟨a, ⟨_, fun_mk l c k⟩, k⟩
theorem FnKM.mk' (a : PySem.W.findIn K (.ref C) x = some (some (.ref f))) (i : PySem.W.isFn K (.ref f) = true) (l : K.lookup f = some ⟨oc, od, .func (PySem.W.fnOf x q (defArgs st) (defBody st) (defScope st) .none kV doc pm an cdv ct), osl⟩) (c : PySem.W.codeIn K cdv q = true) (k : PySem.W.keepIn K (.ref f) = true) : FnKM K C x q st f := ⟨a, i, ⟨_, fun_mk l c k⟩, k⟩
end
theorem all_mk (main : ∀ ns : List Int, ns.length ≤ 63 → (∀ z ∈ ns, Builtin.Int.intBits z ≤ 1048576) → p_law ns = some true) {l : PySem.W.OpenLaw} {w : World} {K : PySem.W.Frag} {h : Heap} {mg : Str → Option Value} {fa WC f0 f1 f2 f3 f4 f5 f6 f7 f8 f9 f10 f11 f12 f13 f14 f15 f16 cL PL : Addr} (X : K.In h) (G : h.Ns mainGlobals mg) (hfa : mg "law" = some (.ref fa))
    {t_MOST_POINTS : Tok} {od0 an0 od16 an16 : Option Addr} {sl0 sl16 : Array (Option Value)} {oc0 kV0 dc0 pm0  ct0 oc16 kV16 dc16 pm16 cd16 ct16 : Value}
    (tb0 : h.get? PL = some { cls := .none, data := .fields #[] })
    (aC_Web : PySem.W.nsIn K mainGlobals "Web" = some (some (.ref WC)))
    (pg_Web : PySem.W.plainGet K WC Str.empty = true)
    (hd_Web : PySem.W.hasDictIn K WC = true)
    (po_Web : PySem.W.plainOver K WC = true)
    (sa_Web : PySem.W.findIn K (.ref WC) "__setattr__" = some (some (.builtin "object.__setattr__")))
    (mk_Web : PySem.W.makesIn K WC = true)
    (kc_Web : PySem.W.keepIn K (.ref WC) = true)
    (nA_Web_many : PySem.W.findIn K (.ref WC) "many" = some none)
    (nA_Web_table : PySem.W.findIn K (.ref WC) "table" = some none)
    (nA_Web_ends : PySem.W.findIn K (.ref WC) "ends" = some none)
    (cN_MOST_POINTS : PySem.W.nsIn K mainGlobals "MOST_POINTS" = some (some (.int (24) t_MOST_POINTS)))
    (a0 : PySem.W.nsIn K mainGlobals "nearest" = some (some (.ref f0)))
    (l0 : K.lookup f0 = some ⟨oc0, od0, .func (PySem.W.fnOf "nearest" "nearest" (defArgs s_nearest) (defBody s_nearest) (defScope s_nearest) .none kV0 dc0 pm0 an0 (.ref cL) ct0), sl0⟩)
    (c0 : PySem.W.codeIn K (.ref cL) "nearest" = true)
    (k0 : PySem.W.keepIn K (.ref f0) = true)
    (h1 : FnK K "ways" "ways" "ways" s_ways f1)
    (h2 : FnKM K WC "__init__" "Web.__init__" s_Web_init f2)
    (h3 : FnKM K WC "size" "Web.size" s_Web_size f3)
    (h4 : FnKM K WC "ties" "Web.ties" s_Web_ties f4)
    (h5 : FnKM K WC "weight" "Web.weight" s_Web_weight f5)
    (h6 : FnKM K WC "tied" "Web.tied" s_Web_tied f6)
    (h7 : FnK K "_law_cell_at" "_law_cell_at" "_law_cell_at" s_law_cell_at f7)
    (h8 : FnK K "_law_whole" "_law_whole" "_law_whole" s_law_whole f8)
    (h9 : FnK K "_law_tie" "_law_tie" "_law_tie" s_law_tie f9)
    (h10 : FnK K "_law_drawn" "_law_drawn" "_law_drawn" s_law_drawn f10)
    (h11 : FnK K "_law_cost" "_law_cost" "_law_cost" s_law_cost f11)
    (h12 : FnK K "_law_ties" "_law_ties" "_law_ties" s_law_ties f12)
    (h13 : FnK K "_law_listed" "_law_listed" "_law_listed" s_law_listed f13)
    (h14 : FnK K "_law_is_way" "_law_is_way" "_law_is_way" s_law_is_way f14)
    (h15 : FnK K "_law_right" "_law_right" "_law_right" s_law_right f15)
    (a16 : PySem.W.nsIn K mainGlobals "law" = some (some (.ref f16)))
    (l16 : K.lookup f16 = some ⟨oc16, od16, .func (PySem.W.fnOf "law" "law" (defArgs s_law) (defBody s_law) (defScope s_law) .none kV16 dc16 pm16 an16 cd16 ct16), sl16⟩)
    (c16 : PySem.W.codeIn K cd16 "law" = true)
    (k16 : PySem.W.keepIn K (.ref f16) = true)
    (z_len : PySem.W.nsIn K mainGlobals "len" = some none)
    (z_min : PySem.W.nsIn K mainGlobals "min" = some none)
    (z_max : PySem.W.nsIn K mainGlobals "max" = some none)
    (z_sum : PySem.W.nsIn K mainGlobals "sum" = some none)
    (z_sorted : PySem.W.nsIn K mainGlobals "sorted" = some none)
    (z_list : PySem.W.nsIn K mainGlobals "list" = some none)
    (z_range : PySem.W.nsIn K mainGlobals "range" = some none)
    (z_zip : PySem.W.nsIn K mainGlobals "zip" = some none)
    (z_enumerate : PySem.W.nsIn K mainGlobals "enumerate" = some none)
    (z_abs : PySem.W.nsIn K mainGlobals "abs" = some none)
    (z_int : PySem.W.nsIn K mainGlobals "int" = some none)
    (z_isinstance : PySem.W.nsIn K mainGlobals "isinstance" = some none)
    (z_bool : PySem.W.nsIn K mainGlobals "bool" = some none)
    (z_tuple : PySem.W.nsIn K mainGlobals "tuple" = some none)
    (z_str : PySem.W.nsIn K mainGlobals "str" = some none)
    (z_set : PySem.W.nsIn K mainGlobals "set" = some none)
    (z_all : PySem.W.nsIn K mainGlobals "all" = some none)
    (z_any : PySem.W.nsIn K mainGlobals "any" = some none)
    (z_reversed : PySem.W.nsIn K mainGlobals "reversed" = some none)
    (z_dict : PySem.W.nsIn K mainGlobals "dict" = some none)
    (hd0 : PySem.W.codeHdIn K cL PL = true)
    (no0 : K.lookup PL = none) :
    LamX.LawAtS l w K CX0 5 63 "_law_script" mg fa h := by
  have e := hfa.symm.trans (PySem.W.mg_of X G a16)
  cases e
  have hB : Blts mg := ⟨PySem.W.mg_none_of X G z_len, PySem.W.mg_none_of X G z_min, PySem.W.mg_none_of X G z_max, PySem.W.mg_none_of X G z_sum, PySem.W.mg_none_of X G z_sorted, PySem.W.mg_none_of X G z_list, PySem.W.mg_none_of X G z_range, PySem.W.mg_none_of X G z_zip, PySem.W.mg_none_of X G z_enumerate, PySem.W.mg_none_of X G z_abs, PySem.W.mg_none_of X G z_int, PySem.W.mg_none_of X G z_isinstance, PySem.W.mg_none_of X G z_bool, PySem.W.mg_none_of X G z_tuple, PySem.W.mg_none_of X G z_str, PySem.W.mg_none_of X G z_set, PySem.W.mg_none_of X G z_all, PySem.W.mg_none_of X G z_any, PySem.W.mg_none_of X G z_reversed, PySem.W.mg_none_of X G z_dict⟩
  have T : WebK K mg WC := ⟨⟨pg_Web, hd_Web, po_Web, sa_Web⟩, nA_Web_many, nA_Web_table, nA_Web_ends, ⟨_, PySem.W.mg_of X G cN_MOST_POINTS⟩⟩
  have F0 := fun_mk (st := s_nearest) l0 c0 k0
  have b0 := F0.binds (ps := ["found", "done"]) fun _ _ _ _ _ _ us hl => match us, hl with | [_, _], _ => rfl
  obtain ⟨fd1, F1⟩ := h1.fn
  have b1 := F1.binds (ps := ["web", "a"]) fun _ _ _ _ _ _ us hl => match us, hl with | [_, _], _ => rfl
  obtain ⟨fd2, F2⟩ := h2.fn
  have b2 := F2.binds (ps := ["self", "many", "ties"]) fun _ _ _ _ _ _ us hl => match us, hl with | [_, _, _], _ => rfl
  obtain ⟨fd3, F3⟩ := h3.fn
  have b3 := F3.binds (ps := ["self"]) fun _ _ _ _ _ _ us hl => match us, hl with | [_], _ => rfl
  obtain ⟨fd4, F4⟩ := h4.fn
  have b4 := F4.binds (ps := ["self"]) fun _ _ _ _ _ _ us hl => match us, hl with | [_], _ => rfl
  obtain ⟨fd5, F5⟩ := h5.fn
  have b5 := F5.binds (ps := ["self", "a", "b"]) fun _ _ _ _ _ _ us hl => match us, hl with | [_, _, _], _ => rfl
  obtain ⟨fd6, F6⟩ := h6.fn
  have b6 := F6.binds (ps := ["self", "a"]) fun _ _ _ _ _ _ us hl => match us, hl with | [_, _], _ => rfl
  obtain ⟨fd7, F7⟩ := h7.fn
  have b7 := F7.binds (ps := ["_law_script", "_law_k"]) fun _ _ _ _ _ _ us hl => match us, hl with | [_, _], _ => rfl
  obtain ⟨fd8, F8⟩ := h8.fn
  have b8 := F8.binds (ps := ["_law_found"]) fun _ _ _ _ _ _ us hl => match us, hl with | [_], _ => rfl
  obtain ⟨fd9, F9⟩ := h9.fn
  have b9 := F9.binds (ps := ["_law_a", "_law_b"]) fun _ _ _ _ _ _ us hl => match us, hl with | [_, _], _ => rfl
  obtain ⟨fd10, F10⟩ := h10.fn
  have b10 := F10.binds (ps := ["_law_cell", "_law_factor", "_law_many"]) fun _ _ _ _ _ _ us hl => match us, hl with | [_, _, _], _ => rfl
  obtain ⟨fd11, F11⟩ := h11.fn
  have b11 := F11.binds (ps := ["_law_cell"]) fun _ _ _ _ _ _ us hl => match us, hl with | [_], _ => rfl
  obtain ⟨fd12, F12⟩ := h12.fn
  have b12 := F12.binds (ps := ["_law_script", "_law_many", "_law_until"]) fun _ _ _ _ _ _ us hl => match us, hl with | [_, _, _], _ => rfl
  obtain ⟨fd13, F13⟩ := h13.fn
  have b13 := F13.binds (ps := ["_law_ties_here", "_law_way"]) fun _ _ _ _ _ _ us hl => match us, hl with | [_, _], _ => rfl
  obtain ⟨fd14, F14⟩ := h14.fn
  have b14 := F14.binds (ps := ["_law_told", "_law_ties_here", "_law_start", "_law_end"]) fun _ _ _ _ _ _ us hl => match us, hl with | [_, _, _, _], _ => rfl
  obtain ⟨fd15, F15⟩ := h15.fn
  have b15 := F15.binds (ps := ["_law_found", "_law_ties_here", "_law_many", "_law_start"]) fun _ _ _ _ _ _ us hl => match us, hl with | [_, _, _, _], _ => rfl
  have F16 := fun_mk (st := s_law) l16 c16 k16
  refine ⟨PySem.W.fnOf "law" "law" (defArgs s_law) (defBody s_law) (defScope s_law) .none kV16 dc16 pm16 an16 cd16 ct16, [(cL, PL)], spLawT K PL, fun p hp => by rw [List.mem_singleton.mp hp]; exact tb0, fun p hp => by rw [List.mem_singleton.mp hp]; exact no0, fun p hp => by rw [List.mem_singleton.mp hp]; exact PySem.W.codeHd_of_K X hd0, fun s v => .of_eq rfl, fun H a ns hl hb hT hS => ⟨a, ns, rfl, hS, hl, hb, hT (cL, PL) List.mem_cons_self, fun _ => rfl⟩, fun base _ _ TB => ?_⟩
  have LK : LamK K mg base (PySem.W.fnOf "nearest" "nearest" (defArgs s_nearest) (defBody s_nearest) (defScope s_nearest) .none kV0 dc0 pm0 an0 (.ref cL) ct0) cL PL := ⟨rfl, TB (cL, PL) List.mem_cons_self, ⟨rfl, f0, cL, _, _, a0, l0, rfl, rfl, hd0⟩⟩
  have G_new_Web : NewD l.prog w K mg base 1 WC "Web" 3 I_Web := ⟨f2, _, _, ⟨mk_Web, h2.a, h2.i, kc_Web⟩, PySem.W.mg_of X G aC_Web, (ok_Web_init F2 hB T), b2⟩
  have G_Web_size : MetD l.prog w K mg base 1 WC "size" 1 (R_Web_size WC) := ⟨f3, _, _, ⟨h3.a, h3.i, h3.k⟩, (ok_Web_size F3 hB T), b3⟩
  have G_Web_ties : MetD l.prog w K mg base 1 WC "ties" 1 (R_Web_ties WC) := ⟨f4, _, _, ⟨h4.a, h4.i, h4.k⟩, (ok_Web_ties F4 hB T), b4⟩
  have G_Web_weight : MetD l.prog w K mg base 1 WC "weight" 3 (R_Web_weight WC) := ⟨f5, _, _, ⟨h5.a, h5.i, h5.k⟩, (ok_Web_weight F5 hB T), b5⟩
  have G_Web_tied : MetD l.prog w K mg base 1 WC "tied" 2 (R_Web_tied WC) := ⟨f6, _, _, ⟨h6.a, h6.i, h6.k⟩, (ok_Web_tied F6 hB T), b6⟩
  have G_law_cell_at : FnD l.prog w K mg base 1 "_law_cell_at" 2 (R_law_cell_at WC) := fnD_of (ok_law_cell_at F7 hB T) (PySem.W.mg_of X G h7.a) h7.k b7
  have G_law_whole : FnD l.prog w K mg base 1 "_law_whole" 1 (R_law_whole WC) := fnD_of (ok_law_whole F8 hB T) (PySem.W.mg_of X G h8.a) h8.k b8
  have G_law_tie : FnD l.prog w K mg base 1 "_law_tie" 2 (R_law_tie WC) := fnD_of (ok_law_tie F9 hB T) (PySem.W.mg_of X G h9.a) h9.k b9
  have G_law_drawn : FnD l.prog w K mg base 1 "_law_drawn" 3 (R_law_drawn WC) := fnD_of (ok_law_drawn F10 hB T) (PySem.W.mg_of X G h10.a) h10.k b10
  have G_law_cost : FnD l.prog w K mg base 1 "_law_cost" 1 (R_law_cost WC) := fnD_of (ok_law_cost F11 hB T) (PySem.W.mg_of X G h11.a) h11.k b11
  have G_law_listed : FnD l.prog w K mg base 1 "_law_listed" 2 (R_law_listed WC) := fnD_of (ok_law_listed F13 hB T) (PySem.W.mg_of X G h13.a) h13.k b13
  have G_law_ties : FnD l.prog w K mg base 2 "_law_ties" 3 (R_law_ties WC) := fnD_of (ok_law_ties F12 hB T G_law_tie G_law_drawn G_law_cost) (PySem.W.mg_of X G h12.a) h12.k b12
  have G_law_is_way : FnD l.prog w K mg base 2 "_law_is_way" 4 (R_law_is_way WC) := fnD_of (ok_law_is_way F14 hB T G_law_whole G_law_tie) (PySem.W.mg_of X G h14.a) h14.k b14
  have G_nearest : FnD l.prog w K mg base 3 "nearest" 2 (R_nearest WC) := fnD_of (ok_nearest F0 hB T LK) (PySem.W.mg_of X G a0) k0 b0
  have G_law_right : FnD l.prog w K mg base 3 "_law_right" 4 (R_law_right WC) := fnD_of (ok_law_right F15 hB T G_law_is_way) (PySem.W.mg_of X G h15.a) h15.k b15
  have G_ways : FnD l.prog w K mg base 4 "ways" 2 (R_ways WC) := fnD_of (ok_ways F1 hB T G_Web_ties G_Web_size G_Web_tied G_Web_weight G_nearest) (PySem.W.mg_of X G h1.a) h1.k b1
  exact FnOk.thaw ((ok_law F16 hB T G_law_cell_at G_law_ties G_law_listed G_new_Web G_ways G_law_right G_Web_ties).imp (law_sp (fun H hP => tbs_law a0 l0 rfl rfl hd0 hP) main))
end Pr
open PySem PySem.W PyProof.Rows
set_option maxRecDepth 100000 in
set_option maxHeartbeats 0 in
theorem PySem.Challenge.cw_pairsheath_k71_ways_walked_holds : PySem.Challenge.rw_pairsheath_k71_ways_walked.Holds := by
  w_on; o_law; k_head; (case hw => w_witness2)
  k_fill
  refine LamX.walk_ofTs (l := PySem.Challenge.rw_pairsheath_k71_ways_walked) (n := 63) (k := 5) (x := "_law_script") (CX := fun _ => L2.CX0) rfl (by decide) rfl ⟨rfl, by decide, by decide⟩ (fun w h Y => PySem.W.km_in_of Y) ?F (fun _ _ _ _ _ h => h)
  case F =>
    intro w mg fa h Y KX G hmg
    have hT8 := PySem.W.km_tabs_of Y
    refine' Pr.all_mk Pr.main KX G hmg ?tb0 ?aC_Web ?pg_Web ?hd_Web ?po_Web ?sa_Web ?mk_Web ?kc_Web ?nA_Web_many ?nA_Web_table ?nA_Web_ends ?cN_MOST_POINTS ?a0 ?l0 ?c0 ?k0 ?h1 ?h2 ?h3 ?h4 ?h5 ?h6 ?h7 ?h8 ?h9 ?h10 ?h11 ?h12 ?h13 ?h14 ?h15 ?a16 ?l16 ?c16 ?k16 ?z_len ?z_min ?z_max ?z_sum ?z_sorted ?z_list ?z_range ?z_zip ?z_enumerate ?z_abs ?z_int ?z_isinstance ?z_bool ?z_tuple ?z_str ?z_set ?z_all ?z_any ?z_reversed ?z_dict ?hd0 ?no0
    (case tb0 => exact hT8 _ List.mem_cons_self)
    (case aC_Web|pg_Web|hd_Web|po_Web|sa_Web|mk_Web|kc_Web|nA_Web_many|nA_Web_table|nA_Web_ends|cN_MOST_POINTS|a0|l0|c0|k0 => k_is)
    (case h1 => (refine' Pr.FnK.mk' ?a ?l ?c ?k; (case a|l|c|k => k_is)))
    (case h2|h3|h4|h5|h6 => (refine' Pr.FnKM.mk' ?a ?i ?l ?c ?k; (case a|i|l|c|k => k_is)))
    (case h7|h8|h9|h10|h11|h12|h13|h14|h15 => (refine' Pr.FnK.mk' ?a ?l ?c ?k; (case a|l|c|k => k_is)))
    (case a16|l16|c16|k16|z_len|z_min|z_max|z_sum|z_sorted|z_list|z_range|z_zip|z_enumerate|z_abs|z_int|z_isinstance|z_bool|z_tuple|z_str|z_set|z_all|z_any|z_reversed|z_dict => k_is)
    (case hd0 => first | k_is | kernel_rfl)
    (case no0 => first | rfl | kernel_rfl | decide +kernel)
