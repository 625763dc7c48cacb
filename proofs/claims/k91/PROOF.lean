import PyProof.Rows.All
import Wide.All
import OpenK.AllK
import Wide.FinOn
import HandS.ForMost
import HandS.Exc
import HandS.TryOnly
import HandS.ExcOwn
import HandS.ExcCtx
import HandS.HotCalls
import HandS.WordsExc
import HandS.HeadHook2
import KE.Datum
import KE.DatumOrd
import KE.DatumMore
import KE.DatumIndex
import KE.SortData
import HandS.TupAny
import HandS.Deep
import HandS.Walk
import HandS.RevRange
import HandS.IsInst
import HandS.TupSets
import PyProof.TupleOfSeq
import HandS.ExcValue
import HandS.ExcIs
import HandS.TryMany
import HandS.Zip
import HandS.Rev
import HandS.Style
import HandS.Dict
import HandS.More
import HandS.HeadHook3
import HandS.Text
import PyProof.PureStr
import KE.KDictDisplayH
import HandS.Conv
import HandS.Iter
import HandS.NoneIn
import HandS.Flow
import KE.KDictPairs
import KE.KDictCopyH
import KE.GoesRaise
import KE.KStateDown
import Lean
import HandS.Defaults
import HandS.Head0
import HandS.Head1
import HandS.Head2
import HandS.HeadEnd
import HandS.HeadWalk
import HandS.HeadHook1
import PySem.Challenge.RW_lampfloor_k91_books
set_option Elab.async false
set_option linter.all false
set_option maxRecDepth 100000
set_option maxHeartbeats 0
namespace G
open PySem PySem.Spec PyProof.Rows L2

/-! ### data, and what a heap lays out -/
inductive D where
  | non | bl (b : Bool) | int (i : Int) | str (x : Str)
  | lst (ds : List D) | tup (ds : List D) | scr (ds : List D) | tk (ds : List D)
  | dt (ks : List (List Key)) (ds : List D) | dk (ks : List Key) (ds : List D)
  | ins (C : Addr) (ns : List Str) (ds : List D)
  | obj (a : Addr) | ty (n : String)
instance : Inhabited D := ⟨.non⟩

variable (K : PySem.W.Frag)
mutual
inductive Rep (F : Hp) : V → D → Prop
  | non : Rep F .non .non
  | bl {b} : Rep F (.bl b) (.bl b)
  | int {i} : Rep F (.int i) (.int i)
  | str {x} : Rep F (.str x) (.str x)
  | lst {a xs ds} : F a = some (.lst xs) → Reps F xs ds → Rep F (.ref a) (.lst ds)
  | scr {a xs ds} : SqL K F a xs → Reps F xs ds → Rep F (.ref a) (.scr ds)
  | tup {a xs ds} : F a = some (.tup xs) → Reps F xs ds → Rep F (.ref a) (.tup ds)
  | tk {a xs ds} : SqT K F a xs → Reps F xs ds → Rep F (.ref a) (.tk ds)
  | dt {a kvs ks ds} : F a = some (.dT kvs) → kvs.map (·.1) = ks → Reps F (kvs.map (·.2)) ds → Rep F (.ref a) (.dt ks ds)
  | dk {a kvs ks ds} : F a = some (.dK kvs) → kvs.map (·.1) = ks → Reps F (kvs.map (·.2)) ds → Rep F (.ref a) (.dk ks ds)
  | ins {a C dx fs ns ds} : F a = some (.ins C dx fs) → fs.map (·.1) = ns → Reps F (fs.map (·.2)) ds → Rep F (.ref a) (.ins C ns ds)
  | obj {a} : Rep F (.ref a) (.obj a)
  | ty {n} : Rep F (.ty n) (.ty n)
inductive Reps (F : Hp) : List V → List D → Prop
  | nil : Reps F [] []
  | cons {v d vs ds} : Rep F v d → Reps F vs ds → Reps F (v :: vs) (d :: ds)
end
def Ext (F F' : Hp) : Prop := ∀ a o, F a = some o → F' a = some o
variable {K}
theorem Ext.refl (F : Hp) : Ext F F := fun _ _ h => h
theorem Ext.trans {F F1 F2 : Hp} (a : Ext F F1) (b : Ext F1 F2) : Ext F F2 := fun x o h => b x o (a x o h)
theorem Ext.rd {F F' : Hp} {a : Addr} {u : HO} (e : Ext F F') (h : Rd F a u) : Rd F' a u := by
  rcases h with h | ⟨o, h⟩
  · exact .inl (e a _ h)
  · exact .inr ⟨o, e a _ h⟩
theorem Ext.l {F F' : Hp} {a : Addr} {xs : List V} (e : Ext F F') (h : SqL K F a xs) : SqL K F' a xs := h.imp e.rd id
theorem Ext.t {F F' : Hp} {a : Addr} {xs : List V} (e : Ext F F') (h : SqT K F a xs) : SqT K F' a xs := h.imp e.rd id
mutual
theorem Rep.mono {F F' : Hp} (e : Ext F F') : ∀ {v : V} {d : D}, Rep K F v d → Rep K F' v d
  | _, _, .non => .non
  | _, _, .bl => .bl
  | _, _, .int => .int
  | _, _, .str => .str
  | _, _, .lst h r => .lst (e _ _ h) (Reps.mono e r)
  | _, _, .scr h r => .scr (e.l h) (Reps.mono e r)
  | _, _, .tup h r => .tup (e _ _ h) (Reps.mono e r)
  | _, _, .tk h r => .tk (e.t h) (Reps.mono e r)
  | _, _, .dt h k r => .dt (e _ _ h) k (Reps.mono e r)
  | _, _, .dk h k r => .dk (e _ _ h) k (Reps.mono e r)
  | _, _, .ins h k r => .ins (e _ _ h) k (Reps.mono e r)
  | _, _, .obj => .obj
  | _, _, .ty => .ty
theorem Reps.mono {F F' : Hp} (e : Ext F F') : ∀ {vs : List V} {ds : List D}, Reps K F vs ds → Reps K F' vs ds
  | _, _, .nil => .nil
  | _, _, .cons h r => .cons (Rep.mono e h) (Reps.mono e r)
end
theorem Reps.length {F : Hp} : ∀ {vs : List V} {ds : List D}, Reps K F vs ds → vs.length = ds.length
  | _, _, .nil => rfl
  | _, _, .cons _ r => congrArg (· + 1) r.length
theorem Reps.get {F : Hp} : ∀ {vs : List V} {ds : List D} {i : Nat} {d : D}, Reps K F vs ds → ds[i]? = some d → ∃ v, vs[i]? = some v ∧ Rep K F v d
  | _, _, _, _, .nil, e => by simp at e
  | _, _, 0, _, .cons h _, e => by simp at e; subst e; exact ⟨_, rfl, h⟩
  | _, _, i + 1, d, .cons _ r, e => by
    obtain ⟨v, h1, h2⟩ := Reps.get (i := i) (d := d) r (by simpa using e)
    exact ⟨v, by simpa using h1, h2⟩
theorem Reps.get' {F : Hp} : ∀ {vs : List V} {ds : List D} {i : Nat} {v : V}, Reps K F vs ds → vs[i]? = some v → ∃ d, ds[i]? = some d ∧ Rep K F v d
  | _, _, _, _, .nil, e => by simp at e
  | _, _, 0, _, .cons h _, e => by simp at e; subst e; exact ⟨_, rfl, h⟩
  | _, _, i + 1, d, .cons _ r, e => by
    obtain ⟨v, h1, h2⟩ := Reps.get' (i := i) (v := d) r (by simpa using e)
    exact ⟨v, by simpa using h1, h2⟩
theorem Reps.append {F : Hp} : ∀ {vs ws : List V} {ds es : List D}, Reps K F vs ds → Reps K F ws es → Reps K F (vs ++ ws) (ds ++ es)
  | _, _, _, _, .nil, s => s
  | _, _, _, _, .cons h r, s => .cons h (r.append s)
theorem Reps.take {F : Hp} : ∀ {vs : List V} {ds : List D} (n : Nat), Reps K F vs ds → Reps K F (vs.take n) (ds.take n)
  | _, _, 0, _ => by rw [List.take_zero, List.take_zero]; exact .nil
  | _, _, _ + 1, .nil => .nil
  | _, _, n + 1, .cons h r => .cons h (r.take n)
theorem Reps.drop {F : Hp} : ∀ {vs : List V} {ds : List D} (n : Nat), Reps K F vs ds → Reps K F (vs.drop n) (ds.drop n)
  | _, _, 0, h => h
  | _, _, _ + 1, .nil => .nil
  | _, _, n + 1, .cons _ r => r.drop n
theorem Reps.reverse {F : Hp} : ∀ {vs : List V} {ds : List D}, Reps K F vs ds → Reps K F vs.reverse ds.reverse
  | _, _, .nil => .nil
  | _, _, .cons h r => by rw [List.reverse_cons, List.reverse_cons]; exact r.reverse.append (.cons h .nil)
theorem Reps.ints {F : Hp} : ∀ ns : List Int, Reps K F (ns.map V.int) (ns.map D.int)
  | [] => .nil
  | _ :: r => .cons .int (Reps.ints r)
theorem Reps.split {F : Hp} : ∀ {vs : List V} {ds es : List D}, Reps K F vs (ds ++ es) → ∃ v1 v2, vs = v1 ++ v2 ∧ Reps K F v1 ds ∧ Reps K F v2 es
  | vs, [], es, h => ⟨[], vs, rfl, .nil, h⟩
  | _, d :: ds, es, .cons h r => by
    obtain ⟨v1, v2, e, h1, h2⟩ := r.split
    exact ⟨_ :: v1, v2, by rw [e]; rfl, .cons h h1, h2⟩

/-! ### what is owned -/
inductive O where
  | fro (d : D)
  | lst (os : List O) | dt (ks : List (List Key)) (os : List O) | dk (ks : List Key) (os : List O)
  | ins (C : Addr) (ns : List Str) (os : List O)
instance : Inhabited O := ⟨.fro .non⟩
mutual
def O.d : O → D
  | .fro d => d
  | .lst os => .lst (O.ds os)
  | .dt ks os => .dt ks (O.ds os)
  | .dk ks os => .dk ks (O.ds os)
  | .ins C ns os => .ins C ns (O.ds os)
def O.ds : List O → List D
  | [] => []
  | o :: os => o.d :: O.ds os
end
variable (K)
mutual
inductive Own (F H : Hp) : V → O → List Addr → Prop
  | fro {v d} : Rep K F v d → Own F H v (.fro d) []
  | lst {a xs os A} : H a = some (.lst xs) → Owns F H xs os A → Own F H (.ref a) (.lst os) (a :: A)
  | dt {a kvs ks os A} : H a = some (.dT kvs) → kvs.map (·.1) = ks → Owns F H (kvs.map (·.2)) os A → Own F H (.ref a) (.dt ks os) (a :: A)
  | dk {a kvs ks os A} : H a = some (.dK kvs) → kvs.map (·.1) = ks → Owns F H (kvs.map (·.2)) os A → Own F H (.ref a) (.dk ks os) (a :: A)
  | ins {a C dx fs ns os A} : H a = some (.ins C dx fs) → fs.map (·.1) = ns → Owns F H (fs.map (·.2)) os A → Own F H (.ref a) (.ins C ns os) (a :: A)
inductive Owns (F H : Hp) : List V → List O → List Addr → Prop
  | nil : Owns F H [] [] []
  | cons {v o vs os A B} : Own F H v o A → Owns F H vs os B → Owns F H (v :: vs) (o :: os) (A ++ B)
end
variable {K}
/-- nothing, or a tuple -/
def Imm : Option HO → Prop
  | none => True
  | some (.tup _) => True
  | some _ => False
theorem imm_none {o : Option HO} (h : o = none) : Imm o := by subst h; trivial
theorem imm_tup {o : Option HO} {xs : List V} (h : o = some (.tup xs)) : Imm o := by subst h; trivial
/-- F is the frozen part of H; A the owned addresses -/
structure WF (F H : Hp) (A : List Addr) : Prop where
  sub : Ext F H
  nd : A.Nodup
  off : ∀ a ∈ A, F a = none
  on : ∀ a ∈ A, ¬ Imm (H a)
/-- from (F, H, A) on to (F', H', A') -/
structure Stp (F H : Hp) (A : List Addr) (F' H' : Hp) (A' : List Addr) : Prop where
  fs : Ext F F'
  keep : ∀ a o, H a = some o → a ∉ A → H' a = some o
  new : ∀ a o, F' a = some o → F a = some o ∨ a ∈ A ∨ Imm (H a)
  foot : ∀ a ∈ A', a ∈ A ∨ H a = none
  alive : ∀ a, H' a = none → H a = none
theorem Stp.refl {F H : Hp} {A : List Addr} : Stp F H A F H A := ⟨Ext.refl F, fun _ _ h _ => h, fun _ _ h => .inl h, fun _ h => .inl h, fun _ h => h⟩
theorem Stp.trans {F H F1 H1 F2 H2 : Hp} {A A1 A2 : List Addr} (s : Stp F H A F1 H1 A1) (t : Stp F1 H1 A1 F2 H2 A2) : Stp F H A F2 H2 A2 where
  fs := s.fs.trans t.fs
  keep := fun a o h n => t.keep a o (s.keep a o h n) fun h1 => by
    rcases s.foot a h1 with q | q
    · exact n q
    · rw [h] at q; cases q
  new := fun a o h => by
    rcases t.new a o h with q | q | q
    · exact s.new a o q
    · rcases s.foot a q with z | z
      · exact .inr (.inl z)
      · exact .inr (.inr (imm_none z))
    · by_cases n : a ∈ A
      · exact .inr (.inl n)
      · cases e : H a with
        | none => exact .inr (.inr trivial)
        | some u => rw [s.keep a u e n] at q; exact .inr (.inr q)
  foot := fun a h => by
    rcases t.foot a h with q | q
    · exact s.foot a q
    · exact .inr (s.alive a q)
  alive := fun a h => s.alive a (t.alive a h)
theorem Stp.held {F H F1 H1 : Hp} {A B : List Addr} (s : Stp F H A F1 H1 B) {x : Addr} (hx : x ∉ A) (w : ¬ Imm (H x)) : ¬ Imm (H1 x) := by
  intro z
  cases e : H x with
  | none => exact w (imm_none e)
  | some u => rw [s.keep x u e hx] at z; exact w (by rw [e]; exact z)
theorem Stp.perm {F H F1 H1 : Hp} {A A' B B' : List Addr} (s : Stp F H A F1 H1 B) (e : ∀ a, a ∈ A ↔ a ∈ A') (e' : ∀ a, a ∈ B' → a ∈ B) : Stp F H A' F1 H1 B' :=
  ⟨s.fs, fun a o h n => s.keep a o h fun q => n ((e a).1 q), fun a o h => (s.new a o h).imp id (Or.imp (e a).1 id), fun a h => (s.foot a (e' a h)).imp (e a).1 id, s.alive⟩
/-- a step that touches less -/
theorem Stp.mono {F H F1 H1 : Hp} {A A' B : List Addr} (s : Stp F H A F1 H1 B) (e : ∀ a, a ∈ A → a ∈ A') : Stp F H A' F1 H1 B :=
  ⟨s.fs, fun a o h n => s.keep a o h fun q => n (e a q), fun a o h => (s.new a o h).imp id (Or.imp (e a) id), fun a h => (s.foot a h).imp (e a) id, s.alive⟩
theorem Stp.more {F H F1 H1 : Hp} {A B C : List Addr} (s : Stp F H A F1 H1 B) (e : ∀ a ∈ C, a ∈ A ∨ H a = none) : Stp F H A F1 H1 (B ++ C) :=
  ⟨s.fs, s.keep, s.new, fun a h => (List.mem_append.mp h).elim (s.foot a) (e a), s.alive⟩
theorem WF.perm {F H : Hp} {A A' : List Addr} (w : WF F H A) (e : A.Perm A') : WF F H A' :=
  ⟨w.sub, e.nodup_iff.mp w.nd, fun a h => w.off a (e.mem_iff.mpr h), fun a h => w.on a (e.mem_iff.mpr h)⟩
theorem WF.left {F H : Hp} {A B : List Addr} (w : WF F H (A ++ B)) : WF F H A :=
  ⟨w.sub, (List.nodup_append.mp w.nd).1, fun a h => w.off a (List.mem_append_left _ h), fun a h => w.on a (List.mem_append_left _ h)⟩
theorem WF.right {F H : Hp} {A B : List Addr} (w : WF F H (A ++ B)) : WF F H B :=
  ⟨w.sub, (List.nodup_append.mp w.nd).2.1, fun a h => w.off a (List.mem_append_right _ h), fun a h => w.on a (List.mem_append_right _ h)⟩
theorem WF.dis {F H : Hp} {A B : List Addr} (w : WF F H (A ++ B)) {a : Addr} (h : a ∈ A) : a ∉ B := fun h2 => (List.nodup_append.mp w.nd).2.2 a h a h2 rfl
theorem WF.none {F H : Hp} (h : Ext F H) : WF F H [] := ⟨h, List.nodup_nil, by simp, by simp⟩
mutual
theorem Own.mono {F H F' H' : Hp} {S : List Addr} (e : Ext F F') (k : ∀ a o, H a = some o → a ∈ S → H' a = some o) : ∀ {v : V} {o : O} {B : List Addr}, Own K F H v o B → (∀ b ∈ B, b ∈ S) → Own K F' H' v o B
  | _, _, _, .fro h, _ => .fro (h.mono e)
  | _, _, _, .lst h r, s => .lst (k _ _ h (s _ List.mem_cons_self)) (Owns.mono e k r fun b hb => s b (List.mem_cons_of_mem _ hb))
  | _, _, _, .dt h q r, s => .dt (k _ _ h (s _ List.mem_cons_self)) q (Owns.mono e k r fun b hb => s b (List.mem_cons_of_mem _ hb))
  | _, _, _, .dk h q r, s => .dk (k _ _ h (s _ List.mem_cons_self)) q (Owns.mono e k r fun b hb => s b (List.mem_cons_of_mem _ hb))
  | _, _, _, .ins h q r, s => .ins (k _ _ h (s _ List.mem_cons_self)) q (Owns.mono e k r fun b hb => s b (List.mem_cons_of_mem _ hb))
theorem Owns.mono {F H F' H' : Hp} {S : List Addr} (e : Ext F F') (k : ∀ a o, H a = some o → a ∈ S → H' a = some o) : ∀ {vs : List V} {os : List O} {B : List Addr}, Owns K F H vs os B → (∀ b ∈ B, b ∈ S) → Owns K F' H' vs os B
  | _, _, _, .nil, _ => .nil
  | _, _, _, .cons h r, s => .cons (Own.mono e k h fun b hb => s b (List.mem_append_left _ hb)) (Owns.mono e k r fun b hb => s b (List.mem_append_right _ hb))
end
mutual
/-- what is owned is laid out -/
theorem Own.rep {F H : Hp} (e : Ext F H) : ∀ {v : V} {o : O} {B : List Addr}, Own K F H v o B → Rep K H v o.d
  | _, _, _, .fro h => h.mono e
  | _, _, _, .lst h r => .lst h (Owns.rep e r)
  | _, _, _, .dt h q r => .dt h q (Owns.rep e r)
  | _, _, _, .dk h q r => .dk h q (Owns.rep e r)
  | _, _, _, .ins h q r => .ins h q (Owns.rep e r)
theorem Owns.rep {F H : Hp} (e : Ext F H) : ∀ {vs : List V} {os : List O} {B : List Addr}, Owns K F H vs os B → Reps K H vs (O.ds os)
  | _, _, _, .nil => .nil
  | _, _, _, .cons h r => .cons (Own.rep e h) (Owns.rep e r)
end
theorem Owns.length {F H : Hp} : ∀ {vs : List V} {os : List O} {B : List Addr}, Owns K F H vs os B → vs.length = os.length
  | _, _, _, .nil => rfl
  | _, _, _, .cons _ r => congrArg (· + 1) r.length
/-- all items frozen -/
theorem Owns.fros {F H : Hp} : ∀ {vs : List V} {ds : List D}, Reps K F vs ds → Owns K F H vs (ds.map O.fro) []
  | _, _, .nil => .nil
  | _, _, .cons h r => .cons (A := []) (B := []) (.fro h) (Owns.fros r)
theorem Owns.fros_inv {F H : Hp} : ∀ {vs : List V} {ds : List D} {B : List Addr}, Owns K F H vs (ds.map O.fro) B → Reps K F vs ds ∧ B = []
  | [], [], _, h => by cases h; exact ⟨.nil, rfl⟩
  | _, d :: ds, _, h => by
    cases h with
    | cons h r =>
      cases h with
      | fro h =>
        obtain ⟨q, e⟩ := Owns.fros_inv r
        subst e
        exact ⟨.cons h q, rfl⟩
  | _ :: _, [], _, h => by cases h
theorem ds_fros : ∀ ds : List D, O.ds (ds.map O.fro) = ds
  | [] => by simp [O.ds]
  | d :: ds => by simp [O.ds, O.d, ds_fros ds]
/-- the owned addresses B are frozen -/
def frz (F H : Hp) (B : List Addr) : Hp := fun a => if a ∈ B then H a else F a
theorem frz_ext {F H : Hp} {B : List Addr} (h : ∀ b ∈ B, F b = none) : Ext F (frz F H B) := fun a o e => by
  unfold frz
  by_cases q : a ∈ B
  · rw [h a q] at e; cases e
  · rw [if_neg q]; exact e
theorem frz_in {F H : Hp} {B : List Addr} {a : Addr} (h : a ∈ B) : frz F H B a = H a := by unfold frz; rw [if_pos h]
theorem frz_out {F H : Hp} {B : List Addr} {a : Addr} (h : a ∉ B) : frz F H B a = F a := by unfold frz; rw [if_neg h]
theorem frz_wf {F H : Hp} {B A : List Addr} (w : WF F H (B ++ A)) : WF (frz F H B) H A where
  sub := fun a o e => by
    by_cases q : a ∈ B
    · rw [frz_in q] at e; exact e
    · rw [frz_out q] at e; exact w.sub a o e
  nd := w.right.nd
  off := fun a h => by rw [frz_out fun q => w.dis q h]; exact w.right.off a h
  on := w.right.on
theorem frz_stp {F H : Hp} {B A : List Addr} (w : WF F H (B ++ A)) : Stp F H (B ++ A) (frz F H B) H A where
  fs := frz_ext w.left.off
  keep := fun _ _ h _ => h
  new := fun a o e => by
    by_cases q : a ∈ B
    · exact .inr (.inl (List.mem_append_left _ q))
    · rw [frz_out q] at e; exact .inl e
  foot := fun a h => .inl (List.mem_append_right _ h)
  alive := fun _ h => h
mutual
theorem Own.frz {F H : Hp} {S : List Addr} (e : Ext F (G.frz F H S)) : ∀ {v : V} {o : O} {B : List Addr}, Own K F H v o B → (∀ b ∈ B, b ∈ S) → Rep K (G.frz F H S) v o.d
  | _, _, _, .fro h, _ => h.mono e
  | _, _, _, .lst h r, s => .lst ((frz_in (s _ List.mem_cons_self)).trans h) (Owns.frz e r fun b hb => s b (List.mem_cons_of_mem _ hb))
  | _, _, _, .dt h q r, s => .dt ((frz_in (s _ List.mem_cons_self)).trans h) q (Owns.frz e r fun b hb => s b (List.mem_cons_of_mem _ hb))
  | _, _, _, .dk h q r, s => .dk ((frz_in (s _ List.mem_cons_self)).trans h) q (Owns.frz e r fun b hb => s b (List.mem_cons_of_mem _ hb))
  | _, _, _, .ins h q r, s => .ins ((frz_in (s _ List.mem_cons_self)).trans h) q (Owns.frz e r fun b hb => s b (List.mem_cons_of_mem _ hb))
theorem Owns.frz {F H : Hp} {S : List Addr} (e : Ext F (G.frz F H S)) : ∀ {vs : List V} {os : List O} {B : List Addr}, Owns K F H vs os B → (∀ b ∈ B, b ∈ S) → Reps K (G.frz F H S) vs (O.ds os)
  | _, _, _, .nil, _ => .nil
  | _, _, _, .cons h r, s => .cons (Own.frz e h fun b hb => s b (List.mem_append_left _ hb)) (Owns.frz e r fun b hb => s b (List.mem_append_right _ hb))
end

/-! ### slots -/
abbrev Env := List (Option O)
variable (K)
inductive Envs (F H : Hp) : L2.St → Env → List Addr → Prop
  | nil : Envs F H [] [] []
  | no {x σ ρ A} : Envs F H σ ρ A → Envs F H (x :: σ) (none :: ρ) A
  | so {v o σ ρ B A} : Own K F H v o B → Envs F H σ ρ A → Envs F H (some v :: σ) (some o :: ρ) (B ++ A)
variable {K}
theorem Envs.mono {F H F' H' : Hp} {S : List Addr} (e : Ext F F') (k : ∀ a o, H a = some o → a ∈ S → H' a = some o) : ∀ {σ : L2.St} {ρ : Env} {A : List Addr}, Envs K F H σ ρ A → (∀ b ∈ A, b ∈ S) → Envs K F' H' σ ρ A
  | _, _, _, .nil, _ => .nil
  | _, _, _, .no r, s => .no (r.mono e k s)
  | _, _, _, .so h r, s => .so (h.mono e k fun b hb => s b (List.mem_append_left _ hb)) (r.mono e k fun b hb => s b (List.mem_append_right _ hb))
theorem Envs.length {F H : Hp} : ∀ {σ : L2.St} {ρ : Env} {A : List Addr}, Envs K F H σ ρ A → σ.length = ρ.length
  | _, _, _, .nil => rfl
  | _, _, _, .no r => congrArg (· + 1) r.length
  | _, _, _, .so _ r => congrArg (· + 1) r.length
/-- slot i out -/
theorem Envs.get {F H : Hp} : ∀ {σ : L2.St} {ρ : Env} {A : List Addr} {i : Nat} {o : O}, Envs K F H σ ρ A → ρ[i]? = some (some o) →
    ∃ v B A', σ[i]? = some (some v) ∧ Own K F H v o B ∧ Envs K F H σ (ρ.set i none) A' ∧ A.Perm (B ++ A')
  | _, _, _, _, _, .nil, e => by simp at e
  | _, _, _, 0, _, .no _, e => by simp at e
  | _, _, _, i + 1, o, .no r, e => by
    obtain ⟨v, B, A', h1, h2, h3, h4⟩ := r.get (i := i) (o := o) (by simpa using e)
    exact ⟨v, B, A', by simpa using h1, h2, .no h3, h4⟩
  | _, _, _, 0, o, .so h r, e => by
    simp at e; subst e
    exact ⟨_, _, _, rfl, h, .no r, .refl _⟩
  | _, _, _, i + 1, o, .so (B := B0) h r, e => by
    obtain ⟨v, B, A', h1, h2, h3, h4⟩ := r.get (i := i) (o := o) (by simpa using e)
    refine ⟨v, B, _, by simpa using h1, h2, .so h h3, ?_⟩
    refine (List.Perm.append_left B0 h4).trans ?_
    rw [← List.append_assoc, ← List.append_assoc]
    exact List.Perm.append_right A' List.perm_append_comm
/-- slot i forgotten -/
theorem Envs.drop {F H : Hp} : ∀ {σ : L2.St} {ρ : Env} {A : List Addr} (i : Nat), Envs K F H σ ρ A → ∃ B A', Envs K F H σ (ρ.set i none) A' ∧ A.Perm (B ++ A')
  | _, _, _, _, .nil => ⟨[], [], .nil, .refl _⟩
  | _, _, _, 0, .no r => ⟨[], _, .no r, .refl _⟩
  | _, _, _, i + 1, .no r => by
    obtain ⟨B, A', h1, h2⟩ := r.drop i
    exact ⟨B, A', .no h1, h2⟩
  | _, _, _, 0, .so (B := B) h r => ⟨B, _, .no r, .refl _⟩
  | _, _, _, i + 1, .so (B := B0) h r => by
    obtain ⟨B, A', h1, h2⟩ := r.drop i
    refine ⟨B, _, .so h h1, (List.Perm.append_left B0 h2).trans ?_⟩
    rw [← List.append_assoc, ← List.append_assoc]
    exact List.Perm.append_right A' List.perm_append_comm
/-- slot i in, where nothing is known -/
theorem Envs.put {F H : Hp} {v : V} {o : O} {B : List Addr} (h : Own K F H v o B) : ∀ {σ : L2.St} {ρ : Env} {A : List Addr} {i : Nat}, Envs K F H σ ρ A → ρ[i]? = some none → ∃ A', Envs K F H (σ.set i (some v)) (ρ.set i (some o)) A' ∧ A'.Perm (B ++ A)
  | _, _, _, _, .nil, e => by simp at e
  | _, _, _, 0, .no r, _ => ⟨_, .so h r, .refl _⟩
  | _, _, _, i + 1, .no r, e => by
    obtain ⟨A', h1, h2⟩ := r.put h (i := i) (by simpa using e)
    exact ⟨A', .no h1, h2⟩
  | _, _, _, 0, .so _ _, e => by simp at e
  | _, _, _, i + 1, .so (B := B0) g r, e => by
    obtain ⟨A', h1, h2⟩ := r.put h (i := i) (by simpa using e)
    refine ⟨_, .so g h1, (List.Perm.append_left B0 h2).trans ?_⟩
    rw [← List.append_assoc, ← List.append_assoc]
    exact List.Perm.append_right _ List.perm_append_comm
/-- what slot i was is put back: the very value -/
theorem Envs.back {F H : Hp} {v : V} {o : O} {B : List Addr} (h : Own K F H v o B) : ∀ {σ : L2.St} {ρ : Env} {A : List Addr} {i : Nat}, Envs K F H σ ρ A → ρ[i]? = some none → σ[i]? = some (some v) → ∃ A', Envs K F H σ (ρ.set i (some o)) A' ∧ A'.Perm (B ++ A)
  | _, _, _, _, .nil, e, _ => by simp at e
  | _, _, _, 0, .no r, _, z => by
    simp at z; subst z
    exact ⟨_, .so h r, .refl _⟩
  | _, _, _, i + 1, .no r, e, z => by
    obtain ⟨A', h1, h2⟩ := r.back h (i := i) (by simpa using e) (by simpa using z)
    exact ⟨A', .no h1, h2⟩
  | _, _, _, 0, .so _ _, e, _ => by simp at e
  | _, _, _, i + 1, .so (B := B0) g r, e, z => by
    obtain ⟨A', h1, h2⟩ := r.back h (i := i) (by simpa using e) (by simpa using z)
    refine ⟨_, .so g h1, (List.Perm.append_left B0 h2).trans ?_⟩
    rw [← List.append_assoc, ← List.append_assoc]
    exact List.Perm.append_right _ List.perm_append_comm
/-- another value in a slot of which nothing is known -/
theorem Envs.any {F H : Hp} {x : Option V} : ∀ {σ : L2.St} {ρ : Env} {A : List Addr} {i : Nat}, Envs K F H σ ρ A → ρ[i]? = some none → Envs K F H (σ.set i x) ρ A
  | _, _, _, _, .nil, _ => .nil
  | _, _, _, 0, .no r, _ => .no r
  | _, _, _, i + 1, .no r, e => .no (r.any (i := i) (by simpa using e))
  | _, _, _, 0, .so _ _, e => by simp at e
  | _, _, _, i + 1, .so g r, e => .so g (r.any (i := i) (by simpa using e))
theorem Envs.fros {F H : Hp} : ∀ {vs : List V} {ds : List D} (n : Nat), Reps K F vs ds → Envs K F H (vs.map some ++ List.replicate n none) (ds.map (fun d => some (.fro d)) ++ List.replicate n none) []
  | _, _, 0, .nil => .nil
  | _, _, n + 1, .nil => .no (Envs.fros n .nil)
  | _, _, n, .cons h r => .so (B := []) (A := []) (.fro h) (Envs.fros n r)
theorem Envs.owns {F H : Hp} : ∀ {vs : List V} {os : List O} {A : List Addr} (n : Nat), Owns K F H vs os A → Envs K F H (vs.map some ++ List.replicate n none) (os.map some ++ List.replicate n none) A
  | _, _, _, 0, .nil => .nil
  | _, _, _, n + 1, .nil => .no (Envs.owns n .nil)
  | _, _, _, n, .cons h r => .so h (Envs.owns n r)
end G

namespace G
open PySem PySem.Spec PyProof.Rows L2
open PySem.W (Datum DatumOrd Tup T3)

/-! ### typed data, as the heap lays it out -/
class Enc (α : Type) [DecidableEq α] [Datum α] where
  enc : α → D
  dp : ∀ (K : PySem.W.Frag) (F : Hp) (v : V) (x : α), Rep K F v (enc x) → Dp K F v (Datum.toD x)
open Enc (enc)
section
variable {α β γ : Type} [DecidableEq α] [Datum α] [Enc α] [DecidableEq β] [Datum β] [Enc β] [DecidableEq γ] [Datum γ] [Enc γ]
theorem dp_all {K : PySem.W.Frag} {F : Hp} : ∀ (xs : List α) (vs : List V), Reps K F vs (xs.map enc) → DpAll K F vs (xs.map Datum.toD)
  | [], _, h => by cases h; exact .nil
  | x :: xs, _, h => by cases h with | cons h r => exact .cons (Enc.dp _ _ _ x h) (dp_all xs _ r)
instance : Enc Int := ⟨.int, fun _ _ _ _ h => by cases h; exact .int _⟩
instance : Enc Bool := ⟨.bl, fun _ _ _ _ h => by cases h; exact .bl _⟩
instance : Enc Str := ⟨.str, fun _ _ _ _ h => by cases h; exact .str _⟩
instance : Enc Unit := ⟨fun _ => .non, fun _ _ _ _ h => by cases h; exact .non⟩
instance : Enc (List α) := ⟨fun xs => .lst (xs.map enc), fun _ _ _ xs h => by cases h with | lst h r => exact .lst (.of h) (dp_all xs _ r)⟩
instance : Enc (Tup α) := ⟨fun xs => .tup (xs.items.map enc), fun _ _ _ xs h => by cases h with | tup h r => exact .tup (.of h) (dp_all xs.items _ r)⟩
instance : Enc (α × β) := ⟨fun p => .tup [enc p.1, enc p.2], fun _ _ _ p h => by
  cases h with
  | tup h r =>
    cases r with
    | cons h1 r =>
      cases r with
      | cons h2 r => cases r; exact .tup (.of h) (.cons (Enc.dp _ _ _ _ h1) (.cons (Enc.dp _ _ _ _ h2) .nil))⟩
instance : Enc (T3 α β γ) := ⟨fun p => .tup [enc p.a, enc p.b, enc p.c], fun _ _ _ p h => by
  cases h with
  | tup h r =>
    cases r with
    | cons h1 r =>
      cases r with
      | cons h2 r =>
        cases r with
        | cons h3 r => cases r; exact .tup (.of h) (.cons (Enc.dp _ _ _ _ h1) (.cons (Enc.dp _ _ _ _ h2) (.cons (Enc.dp _ _ _ _ h3) .nil)))⟩
instance [PySem.W.SomeDatum α] : Enc (Option α) := ⟨fun | none => .non | some x => enc x, fun K F v x h => by
  cases x with
  | none => cases h; exact .non
  | some x => exact Enc.dp _ _ _ x h⟩
/-- kinds that are never equal -/
class Apart (α β : Type) [DecidableEq α] [Datum α] [DecidableEq β] [Datum β] : Prop where
  ne : ∀ (x : α) (y : β), PyData.eqv (Datum.toD x) (Datum.toD y) = false
  ne' : ∀ (x : α) (y : β), PyData.eqv (Datum.toD y) (Datum.toD x) = false
instance [h : Apart α β] : Datum (α ⊕ β) where
  toD := fun | .inl x => Datum.toD x | .inr y => Datum.toD y
  plain := fun | .inl x => Datum.plain x | .inr y => Datum.plain y
  eqv := fun
    | .inl x, .inl y => by simp only [Datum.eqv, Sum.inl.injEq]
    | .inr x, .inr y => by simp only [Datum.eqv, Sum.inr.injEq]
    | .inl x, .inr y => by simp only [h.ne]; exact (decide_eq_false (by simp)).symm
    | .inr x, .inl y => by simp only [h.ne']; exact (decide_eq_false (by simp)).symm
  depth := max (Datum.depth α) (Datum.depth β)
  depth_le := fun
    | .inl x => Nat.le_trans (Datum.depth_le x) (Nat.le_max_left _ _)
    | .inr x => Nat.le_trans (Datum.depth_le x) (Nat.le_max_right _ _)
instance [Apart α β] : Enc (α ⊕ β) := ⟨fun | .inl x => enc x | .inr y => enc y, fun K F v x h => by
  cases x with
  | inl x => exact Enc.dp _ _ _ x h
  | inr x => exact Enc.dp _ _ _ x h⟩
end
/-- the script -/
structure Scr where
  l : List Int
  deriving DecidableEq
instance : Datum Scr where
  toD xs := .list (xs.l.map Datum.toD)
  plain xs := Datum.plain xs.l
  eqv xs ys := by
    have h := Datum.eqv xs.l ys.l
    obtain ⟨xs⟩ := xs; obtain ⟨ys⟩ := ys
    rw [show (decide ((⟨xs⟩ : Scr) = ⟨ys⟩)) = decide (xs = ys) from decide_eq_decide.mpr (by simp)]
    exact h
  depth := 1
  depth_le xs := Datum.depth_le xs.l
instance : Enc Scr := ⟨fun xs => .scr (xs.l.map enc), fun _ _ _ xs h => by cases h with | scr h r => exact .lst h (dp_all xs.l _ r)⟩
/-- a text, sign by sign -/
structure Tx where
  l : List Char
  deriving DecidableEq
instance : Inhabited Tx := ⟨⟨[]⟩⟩
def Tx.s (t : Tx) : Str := ⟨(t.l.map Char.toNat).toArray⟩
theorem nat_inj {c d : Char} (h : c.toNat = d.toNat) : c = d := by
  have h1 : c.val.toNat = d.val.toNat := h
  exact Char.ext (UInt32.toNat_inj.mp h1)
theorem Tx.s_inj {t u : Tx} (h : t.s = u.s) : t = u := by
  obtain ⟨t⟩ := t; obtain ⟨u⟩ := u
  have h1 : (t.map Char.toNat).toArray = (u.map Char.toNat).toArray := Str.mk.inj h
  have h2 : t.map Char.toNat = u.map Char.toNat := by simpa using congrArg Array.toList h1
  have h3 : ∀ (t u : List Char), t.map Char.toNat = u.map Char.toNat → t = u := by
    intro t
    induction t with
    | nil => intro u h; cases u with
      | nil => rfl
      | cons _ _ => cases h
    | cons c t ih => intro u h; cases u with
      | nil => cases h
      | cons d u =>
        rw [List.map_cons, List.map_cons] at h
        injection h with a b
        rw [nat_inj a, ih u b]
  rw [h3 t u h2]
instance : Datum Tx where
  toD t := .str t.s
  plain _ := rfl
  eqv x y := by
    simp only [PyData.eqv, Bool.beq_eq_decide_eq]
    by_cases h : x = y
    · simp [h]
    · rw [decide_eq_false h, decide_eq_false fun e => h (Tx.s_inj e)]
  depth := 0
  depth_le _ := Nat.le_refl _
instance : Enc Tx := ⟨fun t => .str t.s, fun _ _ _ _ h => by cases h; exact .str _⟩
instance : PySem.W.SomeDatum Tx := ⟨fun _ => by show PyData.eqv .none (.str _) = false; simp only [PyData.eqv], fun _ => by show PyData.eqv (.str _) .none = false; simp only [PyData.eqv]⟩
end G

namespace G
open PySem PySem.Spec PyProof.Rows L2
open Enc (enc)

/-! ### where a piece of code stands -/
structure Sig where
  P : Program
  w : World
  K : PySem.W.Frag
  mg : Str → Option Value
  base : Heap
  N : List Str
  scope : Scope
  kk : Nat
  wx : WX
  st : Str → Bool
  calm : Bool
  hot : Option (Addr × Str)
  top : Bool
class Calm (S : Sig) : Prop where
  h : S.calm = true
structure Rest where
  A : Around
  s_0 : Shared
  H_0 : Hp
  env : PySem.Env
  outer : List PySem.Env
  stack : List PySem.Env
  ex : List Addr
  fn : Str → Bool
  pn : List (Addr × Obj)
  xe : Value → Shared → Prop
@[reducible] def Sig.cx (S : Sig) (q : Rest) : Cx where
  prog := S.P
  w := S.w
  K := S.K
  mg := S.mg
  base := S.base
  A := q.A
  N := S.N
  s_0 := q.s_0
  H_0 := q.H_0
  env := { q.env with scope := S.scope }
  outer := q.outer
  stack := q.stack
  ex := q.ex
  fn := q.fn
  calm := S.calm
  pn := q.pn
  xe := q.xe
structure Sig.Ok (S : Sig) (q : Rest) : Prop where
  room : L2H.RoomH S.kk q.A
  hd : S.calm = true → q.A.handled = none
  hot : ∀ a y, S.hot = some (a, y) → q.A.handled = some (.ref a) ∧ ∃ oe, (a, oe) ∈ q.pn ∧ L2N.Zn (.ref (He.ga S.K y)) none oe ∧ ∃ vs, oe.data = .fields vs
  top : S.top = true → q.stack = { q.env with scope := S.scope } :: q.outer ∧ q.env.frame = some q.env.locals
  tk : L2N.Takes (S.cx q) S.wx
  fn : ∀ x, S.st x = true → q.fn x = true
  nd : S.N.Nodup
  po : PassesOwn (model S.P S.w) q.A { q.env with scope := S.scope } q.xe

theorem Sig.Ok.calm {S : Sig} {q : Rest} (ok : S.Ok q) (hc : S.calm = true) : Room S.kk q.A := ⟨ok.hd hc, ok.room.dp, ok.room.un⟩
theorem Sig.Ok.units {S : Sig} {q : Rest} (ok : S.Ok q) : q.A.units + 64 < cLine := by have := ok.room.un; omega
/-! ### growing -/
structure Grow (F H F' H' : Hp) : Prop where
  stp : Stp F H [] F' H' []
  ext : Ext F' H'
theorem Grow.refl {F H : Hp} (h : Ext F H) : Grow F H F H := ⟨Stp.refl, h⟩
theorem Grow.trans {F H F1 H1 F2 H2 : Hp} (a : Grow F H F1 H1) (b : Grow F1 H1 F2 H2) : Grow F H F2 H2 := ⟨a.stp.trans b.stp, b.ext⟩
theorem Grow.hh {F H F1 H1 : Hp} (a : Grow F H F1 H1) : Ext H H1 := fun x o h => a.stp.keep x o h (by simp)
theorem Grow.wf {F H F' H' : Hp} {A : List Addr} (g : Grow F H F' H') (w : WF F H A) : WF F' H' A where
  sub := g.ext
  nd := w.nd
  off := fun a h => by
    cases e : F' a with
    | none => rfl
    | some o =>
      rcases g.stp.new a o e with q | q | q
      · rw [w.off a h] at q; cases q
      · cases q
      · exact absurd q (w.on a h)
  on := fun a h q => by
    cases e : H a with
    | none => exact w.on a h (imm_none e)
    | some u => rw [g.hh a u e] at q; exact w.on a h (by rw [e]; exact q)
theorem Grow.own {K : PySem.W.Frag} {F H F' H' : Hp} {v : V} {o : O} {B : List Addr} (g : Grow F H F' H') (h : Own K F H v o B) : Own K F' H' v o B :=
  h.mono g.stp.fs (S := B) (fun a o e _ => g.hh a o e) fun _ h => h
theorem Grow.owns {K : PySem.W.Frag} {F H F' H' : Hp} {v : List V} {o : List O} {B : List Addr} (g : Grow F H F' H') (h : Owns K F H v o B) : Owns K F' H' v o B :=
  h.mono g.stp.fs (S := B) (fun a o e _ => g.hh a o e) fun _ h => h
theorem Grow.envs {K : PySem.W.Frag} {F H F' H' : Hp} {σ : L2.St} {ρ : Env} {A : List Addr} (g : Grow F H F' H') (h : Envs K F H σ ρ A) : Envs K F' H' σ ρ A :=
  h.mono g.stp.fs (S := A) (fun a o e _ => g.hh a o e) fun _ h => h
/-- a new object, frozen at once -/
theorem Grow.new {F H : Hp} {p : Addr} {o : HO} (e : Ext F H) (h : H p = none) : Grow F H (upd F p o) (upd H p o) := by
  have hF : F p = none := by
    cases q : F p with
    | none => rfl
    | some u => rw [e p u q] at h; cases h
  refine ⟨⟨fun a u q => ?_, fun a u q _ => ?_, fun a u q => ?_, by simp, fun a q => ?_⟩, fun a u q => ?_⟩
  · rw [upd_ne (ne_of_none q hF)]; exact q
  · rw [upd_ne (ne_of_none q h)]; exact q
  · by_cases z : a = p
    · subst z; exact .inr (.inr (imm_none h))
    · rw [upd_ne z] at q; exact .inl q
  · by_cases z : a = p
    · subst z; exact h
    · rw [upd_ne z] at q; exact q
  · by_cases z : a = p
    · subst z; rw [upd_same] at q ⊢; exact q
    · rw [upd_ne z] at q ⊢; exact e a u q
/-- a new object that is owned -/
theorem Grow.own1 {F H : Hp} {p : Addr} {o : HO} (e : Ext F H) (h : H p = none) (hi : ¬ Imm (some o) := by exact fun z => z) : Stp F H [] F (upd H p o) [p] ∧ WF F (upd H p o) [p] := by
  have hF : F p = none := by
    cases q : F p with
    | none => rfl
    | some u => rw [e p u q] at h; cases h
  refine ⟨⟨Ext.refl F, fun a u q _ => ?_, fun a u q => .inl q, fun a q => ?_, fun a q => ?_⟩, ⟨fun a u q => ?_, by simp, fun a q => ?_, fun a q => ?_⟩⟩
  · rw [upd_ne (ne_of_none q h)]; exact q
  · rw [List.mem_singleton.mp q]; exact .inr h
  · by_cases z : a = p
    · subst z; exact h
    · rw [upd_ne z] at q; exact q
  · rw [upd_ne (ne_of_none q hF)]; exact e a u q
  · rw [List.mem_singleton.mp q]; exact hF
  · rw [List.mem_singleton.mp q, upd_same]; exact hi

/-! ### readings -/
def EP (S : Sig) (t : TE) (ρ : Env) (r : Except Str D) : Prop := ∀ (σ : L2.St) (F H : Hp) (A : List Addr) (Q : VK), WF F H A → Envs S.K F H σ ρ A →
  (match r with
    | .ok d => ∀ v F' H', Grow F H F' H' → Rep S.K F' v d → Q v H'
    | .error x => ∀ F' H', Grow F H F' H' → S.wx (.ref (He.ga S.K x)) none σ H') → t σ H Q
/-- what is only looked at -/
def EV (S : Sig) (t : TE) (ρ : Env) (d : D) : Prop := ∀ (σ : L2.St) (F H : Hp) (A : List Addr) (Q : VK), WF F H A → Envs S.K F H σ ρ A →
  (∀ v F' H', Grow F H F' H' → Rep S.K H' v d → Q v H') → t σ H Q
def ET (S : Sig) (t : TT) (ρ : Env) (b : Bool) : Prop := ∀ (σ : L2.St) (F H : Hp) (A : List Addr) (Q : Bool → Hp → Prop), WF F H A → Envs S.K F H σ ρ A →
  (∀ F' H', Grow F H F' H' → Q b H') → t σ H Q
/-- arguments: frozen; looked at -/
def EA (S : Sig) (t : TA) (ρ : Env) (ds : List D) : Prop := ∀ (σ : L2.St) (F H : Hp) (A : List Addr) (Q : List V → Hp → Prop), WF F H A → Envs S.K F H σ ρ A →
  (∀ vs F' H', Grow F H F' H' → Reps S.K F' vs ds → Q vs H') → t σ H Q
def EAV (S : Sig) (t : TA) (ρ : Env) (ds : List D) : Prop := ∀ (σ : L2.St) (F H : Hp) (A : List Addr) (Q : List V → Hp → Prop), WF F H A → Envs S.K F H σ ρ A →
  (∀ vs F' H', Grow F H F' H' → Reps S.K H' vs ds → Q vs H') → t σ H Q
inductive RE where
  | ok (o : O) (ρ : Env) | ex (x : Str) (ρ : Env)
def EX (S : Sig) (t : TE) (ρ : Env) (r : RE) : Prop := ∀ (σ : L2.St) (F H : Hp) (A : List Addr) (Q : VK), WF F H A → Envs S.K F H σ ρ A →
  (match r with
    | .ok o ρ' => ∀ v F' H' B A', WF F' H' (B ++ A') → Stp F H A F' H' (B ++ A') → Own S.K F' H' v o B → Envs S.K F' H' σ ρ' A' → Q v H'
    | .ex x ρ' => ∀ F' H' A', WF F' H' A' → Stp F H A F' H' A' → Envs S.K F' H' σ ρ' A' → S.wx (.ref (He.ga S.K x)) none σ H') → t σ H Q
inductive RS where
  | nx (ρ : Env) | rt (o : O) (ρ : Option Env) | bk (ρ : Env) | ct (ρ : Env) | ex (x : Str) (ρ : Option Env)
structure Pin (pin : List Nat) (σ σ' : L2.St) : Prop where
  len : σ'.length = σ.length
  at_ : ∀ i ∈ pin, σ'[i]? = σ[i]?
theorem Pin.refl {pin : List Nat} {σ : L2.St} : Pin pin σ σ := ⟨rfl, fun _ _ => rfl⟩
theorem Pin.trans {pin : List Nat} {σ σ1 σ2 : L2.St} (a : Pin pin σ σ1) (b : Pin pin σ1 σ2) : Pin pin σ σ2 := ⟨b.len.trans a.len, fun i h => (b.at_ i h).trans (a.at_ i h)⟩
theorem Pin.set {pin : List Nat} {σ : L2.St} {i : Nat} {x : Option V} (h : i ∉ pin) : Pin pin σ (σ.set i x) := ⟨by simp, fun j hj => List.getElem?_set_ne fun e => h (by rw [e]; exact hj)⟩
/-- what is said of the slots at the end; nothing perhaps -/
def EnvO (S : Sig) (F H : Hp) (σ : L2.St) (ρ : Option Env) (A : List Addr) : Prop := match ρ with
  | some ρ => Envs S.K F H σ ρ A
  | none => A = []
def EPost (S : Sig) (pin : List Nat) (D : Ends) (σ : L2.St) (F H : Hp) (A : List Addr) : RS → Prop
  | .nx ρ' => ∀ σ' F' H' A', WF F' H' A' → Stp F H A F' H' A' → Envs S.K F' H' σ' ρ' A' → Pin pin σ σ' → D.nx σ' H'
  | .bk ρ' => ∀ σ' F' H' A', WF F' H' A' → Stp F H A F' H' A' → Envs S.K F' H' σ' ρ' A' → Pin pin σ σ' → D.bk σ' H'
  | .ct ρ' => ∀ σ' F' H' A', WF F' H' A' → Stp F H A F' H' A' → Envs S.K F' H' σ' ρ' A' → Pin pin σ σ' → D.ct σ' H'
  | .rt o ρ' => ∀ v σ' F' H' B A', WF F' H' (B ++ A') → Stp F H A F' H' (B ++ A') → Own S.K F' H' v o B → EnvO S F' H' σ' ρ' A' → Pin pin σ σ' → D.rt v H'
  | .ex x ρ' => ∀ σ' F' H' A', WF F' H' A' → Stp F H A F' H' A' → EnvO S F' H' σ' ρ' A' → Pin pin σ σ' → S.wx (.ref (He.ga S.K x)) none σ' H'
def ES (S : Sig) (pin : List Nat) (t : TS) (ρ : Env) (r : RS) : Prop := ∀ (σ : L2.St) (F H : Hp) (A : List Addr) (D : Ends), WF F H A → Envs S.K F H σ ρ A → EPost S pin D σ F H A r → t D σ H

/-! ### the judgements -/
def XP (S : Sig) (ρ : Env) (e : Expr) (r : Except Str D) : Prop := ∃ t, (∀ q, S.Ok q → PE (S.cx q) e t) ∧ EP S t ρ r
def XV (S : Sig) (ρ : Env) (e : Expr) (d : D) : Prop := ∃ t, (∀ q, S.Ok q → PE (S.cx q) e t) ∧ EV S t ρ d
def XT (S : Sig) (ρ : Env) (e : Expr) (b : Bool) : Prop := ∃ t, (∀ q, S.Ok q → PT (S.cx q) e t) ∧ ET S t ρ b
def XA (S : Sig) (ρ : Env) (es : List Expr) (ds : List D) : Prop := ∃ t, (∀ q, S.Ok q → PA (S.cx q) es t) ∧ EA S t ρ ds
def XAV (S : Sig) (ρ : Env) (es : List Expr) (ds : List D) : Prop := ∃ t, (∀ q, S.Ok q → PA (S.cx q) es t) ∧ EAV S t ρ ds
def XX (S : Sig) (ρ : Env) (e : Expr) (r : RE) : Prop := ∃ t, (∀ q, S.Ok q → PE (S.cx q) e t) ∧ EX S t ρ r
def XS (S : Sig) (pin : List Nat) (ρ : Env) (s : Stmt) (r : RS) : Prop := ∃ t, (∀ q, S.Ok q → PS (S.cx q) s t) ∧ ES S pin t ρ r
def XB (S : Sig) (pin : List Nat) (ρ : Env) (s : List Stmt) (r : RS) : Prop := ∃ t, (∀ q, S.Ok q → PSs (S.cx q) s t) ∧ ES S pin t ρ r
section
variable {S : Sig} {ρ : Env} {a b e : Expr} {d d1 d2 : D} {pos : Pos} {pin : List Nat}
theorem EP.v {t : TE} (h : EP S t ρ (.ok d)) : EV S t ρ d := fun σ F H A Q w n q => h σ F H A Q w n fun v F' H' g r => q v F' H' g (r.mono g.ext)
theorem XP.v (h : XP S ρ e (.ok d)) : XV S ρ e d := let ⟨t, h1, h2⟩ := h; ⟨t, h1, h2.v⟩
theorem EP.x {t : TE} (h : EP S t ρ (.ok d)) : EX S t ρ (.ok (.fro d) ρ) := fun σ F H A Q w n q => h σ F H A Q w n fun v F' H' g r =>
  q v F' H' [] A (g.wf w) (g.stp.mono (by simp) |>.more (C := A) fun a h => .inl h) (.fro r) (g.envs n)
theorem XP.x (h : XP S ρ e (.ok d)) : XX S ρ e (.ok (.fro d) ρ) := let ⟨t, h1, h2⟩ := h; ⟨t, h1, h2.x⟩
theorem EP.xe {t : TE} {x : Str} (h : EP S t ρ (.error x)) : EX S t ρ (.ex x ρ) := fun σ F H A Q w n q => h σ F H A Q w n fun F' H' g =>
  q F' H' A (g.wf w) (g.stp.mono (by simp) |>.more (C := A) fun a h => .inl h) (g.envs n)
theorem XP.xe {x : Str} (h : XP S ρ e (.error x)) : XX S ρ e (.ex x ρ) := let ⟨t, h1, h2⟩ := h; ⟨t, h1, h2.xe⟩
/-- flat things need no heap -/
def Flat : D → Bool
  | .non => true | .bl _ => true | .int _ => true | .str _ => true | .obj _ => true | .ty _ => true
  | _ => false
theorem Rep.flat {K : PySem.W.Frag} {F F' : Hp} {v : V} (h : Rep K F v d) (f : Flat d = true) : Rep K F' v d := by
  cases h <;> first | (cases f; done) | constructor
theorem XV.p (h : XV S ρ e d) (f : Flat d = true := by rfl) : XP S ρ e (.ok d) := let ⟨t, h1, h2⟩ := h; ⟨t, h1, fun σ F H A Q w n q => h2 σ F H A Q w n fun v F' H' g r => q v F' H' g (r.flat f)⟩
theorem XP.cast {r r' : Except Str D} (h : XP S ρ e r) (q : r = r') : XP S ρ e r' := q ▸ h
theorem XV.cast {r r' : D} (h : XV S ρ e r) (q : r = r') : XV S ρ e r' := q ▸ h
theorem XT.cast {r r' : Bool} (h : XT S ρ e r) (q : r = r') : XT S ρ e r' := q ▸ h

/-! ### names, constants -/
theorem xp_var (i : Nat) {x : Str} (hρ : ρ[i]? = some (some (.fro d)) := by rfl) (hN : S.N[i]? = some x := by rfl) (hv : Vis S.scope x := by first | exact Or.inl rfl | exact Or.inr (Or.inl rfl) | exact Or.inr (Or.inr rfl))
    (hd : (x == ("__debug__" : Str)) = false := by decide) (hcd : (x == ("__classdict__" : Str)) = false := by decide) : XP S ρ (.Name x pos) (.ok d) :=
  ⟨tVar i, fun q _ => pe_var hN hv hd hcd, fun σ F H A Q w n q => by
    obtain ⟨v, B, A', h1, h2, h3, h4⟩ := n.get hρ
    cases h2 with
    | fro h2 => exact ⟨v, h1, q v F H (Grow.refl w.sub) h2⟩⟩
theorem xv_var (i : Nat) {x : Str} {o : O} (hρ : ρ[i]? = some (some o) := by rfl) (hN : S.N[i]? = some x := by rfl) (hv : Vis S.scope x := by first | exact Or.inl rfl | exact Or.inr (Or.inl rfl) | exact Or.inr (Or.inr rfl))
    (hd : (x == ("__debug__" : Str)) = false := by decide) (hcd : (x == ("__classdict__" : Str)) = false := by decide) : XV S ρ (.Name x pos) o.d :=
  ⟨tVar i, fun q _ => pe_var hN hv hd hcd, fun σ F H A Q w n q => by
    obtain ⟨v, B, A', h1, h2, h3, h4⟩ := n.get hρ
    exact ⟨v, h1, q v F H (Grow.refl w.sub) (h2.rep w.sub)⟩⟩
theorem ep_c {v : V} (h : ∀ F, Rep S.K F v d) : EP S (tC v) ρ (.ok d) := fun σ F H A Q w n q => q v F H (Grow.refl w.sub) (h F)
theorem xp_int {i : Int} {j} : XP S ρ (.Constant (.int i) j pos) (.ok (.int i)) := ⟨_, fun _ _ => pe_int, ep_c fun _ => .int⟩
theorem xp_bl {b : Bool} {j} : XP S ρ (.Constant (.bool b) j pos) (.ok (.bl b)) := ⟨_, fun _ _ => pe_bl, ep_c fun _ => .bl⟩
theorem xp_non {j} : XP S ρ (.Constant .none j pos) (.ok .non) := ⟨_, fun _ _ => pe_non, ep_c fun _ => .non⟩
theorem xp_str {x : Str} {j} : XP S ρ (.Constant (.str x) j pos) (.ok (.str x)) := ⟨_, fun _ _ => pe_str, ep_c fun _ => .str⟩
theorem xp_tx {x : Str} {j} (t : Tx) (h : x = t.s := by decide +kernel) : XP S ρ (.Constant (.str x) j pos) (.ok (enc t)) := by subst h; exact xp_str
theorem xp_glob {x : Str} {v : V} {u : Value} (hm : S.mg x = some u) (r : RelV v u) (h : ∀ F, Rep S.K F v d) (hg : S.scope.names.lookup x = some .globalImplicit := by rfl) (hd : (x == ("__debug__" : Str)) = false := by decide) : XP S ρ (.Name x pos) (.ok d) :=
  ⟨_, fun q _ => pe_glob (X := S.cx q) (show S.scope.names.lookup x = some .globalImplicit from hg) hm r hd, ep_c h⟩

/-! ### operators, by what they say of data -/
def OD (S : Sig) (r : R2) (d1 d2 d : D) : Prop := ∀ (x y : V) (F H : Hp) (Q : VK), Ext F H → Rep S.K H x d1 → Rep S.K H y d2 → (∀ v F' H', Grow F H F' H' → Rep S.K F' v d → Q v H') → r x y H Q
structure OB (S : Sig) (op : Operator) (d1 d2 d : D) : Prop where
  h : ∃ r, (∀ q, S.Ok q → OpR (S.cx q) (binaryOp op) r) ∧ OD S r d1 d2 d
structure OC (S : Sig) (op : CmpOp) (d1 d2 : D) (b : Bool) : Prop where
  h : ∃ r, (∀ q, S.Ok q → OpR (S.cx q) (compareOp op) r) ∧ OD S r d1 d2 (.bl b)
theorem ev_bin {r : R2} {ta tb : TE} (hr : OD S r d1 d2 d) (ha : EV S ta ρ d1) (hb : EV S tb ρ d2) : EP S (tOp r ta tb) ρ (.ok d) := fun σ F H A Q w n q =>
  ha σ F H A _ w n fun x F1 H1 g1 r1 => hb σ F1 H1 A _ (g1.wf w) (g1.envs n) fun y F2 H2 g2 r2 =>
    hr x y F2 H2 Q g2.ext (r1.mono g2.hh) r2 fun v F3 H3 g3 r3 => q v F3 H3 ((g1.trans g2).trans g3) r3
theorem xp_bin {op : Operator} (ho : OB S op d1 d2 d) (ha : XV S ρ a d1) (hb : XV S ρ b d2) : XP S ρ (.BinOp a op b pos) (.ok d) := by
  obtain ⟨r, h1, h2⟩ := ho.h
  obtain ⟨ta, a1, a2⟩ := ha
  obtain ⟨tb, b1, b2⟩ := hb
  exact ⟨_, fun q k => pe_op (h1 q k) (a1 q k) (b1 q k), ev_bin h2 a2 b2⟩
theorem xp_cmp {op : CmpOp} {c : Bool} (ho : OC S op d1 d2 c) (ha : XV S ρ a d1) (hb : XV S ρ b d2) (hm : behindInMarks op b = false := by first | exact nomark _ | rfl) : XP S ρ (.Compare a [op] [b] pos) (.ok (.bl c)) := by
  obtain ⟨r, h1, h2⟩ := ho.h
  obtain ⟨ta, a1, a2⟩ := ha
  obtain ⟨tb, b1, b2⟩ := hb
  exact ⟨_, fun q k => pe_cmpR (h1 q k) (a1 q k) (b1 q k) hm, ev_bin h2 a2 b2⟩
theorem et_test {t : TE} {c : Bool} (h : EP S t ρ (.ok (.bl c))) : ET S (tTest t) ρ c := fun σ F H A Q w n q => h σ F H A _ w n fun v F' H' g r => by
  cases r
  exact ⟨c, rfl, q F' H' g⟩
theorem et_B {t : TE} {c : Bool} (h : EP S t ρ (.ok (.bl c))) : ET S (tB t) ρ c := fun σ F H A Q w n q => h σ F H A _ w n fun v F' H' g r => by
  cases r
  exact ⟨c, rfl, q F' H' g⟩
theorem xt_cmp {op : CmpOp} {c : Bool} (ho : OC S op d1 d2 c) (ha : XV S ρ a d1) (hb : XV S ρ b d2) (hm : behindInMarks op b = false := by first | exact nomark _ | rfl) : XT S ρ (.Compare a [op] [b] pos) c := by
  obtain ⟨r, h1, h2⟩ := ho.h
  obtain ⟨ta, a1, a2⟩ := ha
  obtain ⟨tb, b1, b2⟩ := hb
  exact ⟨_, fun q k => pt_cmpR (h1 q k) (a1 q k) (b1 q k) hm, et_test (ev_bin h2 a2 b2)⟩
/-- a op b op' c -/
theorem ev_chain {r r' : R2} {d3 : D} {k k' : Bool} {ta tb tc : TE} (hr : OD S r d1 d2 (.bl k)) (hr' : k = true → OD S r' d2 d3 (.bl k')) (ha : EV S ta ρ d1) (hb : EV S tb ρ d2) (hc : k = true → EV S tc ρ d3) : EP S (tChain r r' ta tb tc) ρ (.ok (.bl (k && k'))) := fun σ F H A Q w n q =>
  ha σ F H A _ w n fun x F1 H1 g1 r1 => hb σ F1 H1 A _ (g1.wf w) (g1.envs n) fun y F2 H2 g2 r2 =>
    hr x y F2 H2 _ g2.ext (r1.mono g2.hh) r2 fun v F3 H3 g3 r3 => by
      cases r3
      refine ⟨k, rfl, ?_⟩
      cases k with
      | false => exact q _ F3 H3 ((g1.trans g2).trans g3) .bl
      | true =>
        have g := (g1.trans g2).trans g3
        exact hc rfl σ F3 H3 A _ (g.wf w) (g.envs n) fun z F4 H4 g4 r4 => hr' rfl y z F4 H4 Q g4.ext ((r2.mono g3.hh).mono g4.hh) r4 fun v F5 H5 g5 r5 => q v F5 H5 ((g.trans g4).trans g5) r5
theorem xp_chain {op op' : CmpOp} {c : Expr} {d3 : D} {k k' : Bool} (ho : OC S op d1 d2 k) (ho' : OC S op' d2 d3 k') (ha : XV S ρ a d1) (hb : XV S ρ b d2) (hc : XV S ρ c d3) (hm : lastMarks [op, op'] [b, c] = false := by with_unfolding_all rfl) :
    XP S ρ (.Compare a [op, op'] [b, c] pos) (.ok (.bl (k && k'))) := by
  obtain ⟨r, h1, h2⟩ := ho.h
  obtain ⟨r', h1', h2'⟩ := ho'.h
  obtain ⟨ta, a1, a2⟩ := ha
  obtain ⟨tb, b1, b2⟩ := hb
  obtain ⟨tc, c1, c2⟩ := hc
  exact ⟨_, fun q k => pe_chain (h1 q k) (h1' q k) (a1 q k) (b1 q k) (c1 q k) hm, ev_chain h2 (fun _ => h2') a2 b2 fun _ => c2⟩
theorem xt_chain {op op' : CmpOp} {c : Expr} {d3 : D} {k k' : Bool} (ho : OC S op d1 d2 k) (ho' : OC S op' d2 d3 k') (ha : XV S ρ a d1) (hb : XV S ρ b d2) (hc : XV S ρ c d3) (hm : lastMarks [op, op'] [b, c] = false := by with_unfolding_all rfl) :
    XT S ρ (.Compare a [op, op'] [b, c] pos) (k && k') := by
  obtain ⟨r, h1, h2⟩ := ho.h
  obtain ⟨r', h1', h2'⟩ := ho'.h
  obtain ⟨ta, a1, a2⟩ := ha
  obtain ⟨tb, b1, b2⟩ := hb
  obtain ⟨tc, c1, c2⟩ := hc
  exact ⟨_, fun q k => pt_chain (h1 q k) (h1' q k) (a1 q k) (b1 q k) (c1 q k) hm, et_test (ev_chain h2 (fun _ => h2') a2 b2 fun _ => c2)⟩
end
end G

namespace G
open PySem PySem.Spec PyProof.Rows L2
open PySem.W (Datum DatumOrd Tup T3)
open Enc (enc)
section
variable {S : Sig} {ρ : Env} {a b c e : Expr} {d d1 d2 d3 : D} {pos : Pos} {pin : List Nat} {op : Operator}

/-! ### and, or, not, if-else -/
theorem et_and {t u : TT} {k l : Bool} (h1 : ET S t ρ k) (h2 : k = true → ET S u ρ l) : ET S (tAnd t u) ρ (k && l) := fun σ F H A Q w n q =>
  h1 σ F H A _ w n fun F1 H1 g => by
    cases k with
    | true =>
      show u σ H1 Q
      exact h2 rfl σ F1 H1 A Q (g.wf w) (g.envs n) fun F2 H2 g2 => q F2 H2 (g.trans g2)
    | false =>
      show Q false H1
      exact q F1 H1 g
theorem et_or {t u : TT} {k l : Bool} (h1 : ET S t ρ k) (h2 : k = false → ET S u ρ l) : ET S (tOr t u) ρ (k || l) := fun σ F H A Q w n q =>
  h1 σ F H A _ w n fun F1 H1 g => by
    cases k with
    | false =>
      show u σ H1 Q
      exact h2 rfl σ F1 H1 A Q (g.wf w) (g.envs n) fun F2 H2 g2 => q F2 H2 (g.trans g2)
    | true =>
      show Q true H1
      exact q F1 H1 g
def XW (S : Sig) (ρ : Env) (e : Expr) (b : Bool) : Prop := ∃ t, (∀ q, S.Ok q → PW (S.cx q) e t) ∧ ET S t ρ b
theorem XW.t {k : Bool} (h : XW S ρ e k) : XT S ρ e k := let ⟨t, h1, h2⟩ := h; ⟨t, fun q o => (h1 q o).pt, h2⟩
theorem xw_and1 {k : Bool} (h : XT S ρ a k) : XW S ρ (.BoolOp .And [a] pos) k := let ⟨t, h1, h2⟩ := h; ⟨t, fun q o => pw_and1 (h1 q o), h2⟩
theorem xw_or1 {k : Bool} (h : XT S ρ a k) : XW S ρ (.BoolOp .Or [a] pos) k := let ⟨t, h1, h2⟩ := h; ⟨t, fun q o => pw_or1 (h1 q o), h2⟩
theorem xw_and {k l : Bool} {rest : List Expr} (h : XT S ρ a k) (h' : k = true → XW S ρ (.BoolOp .And (b :: rest) pos) l) : XW S ρ (.BoolOp .And (a :: b :: rest) pos) (k && l) := by
  obtain ⟨t, h1, h2⟩ := h
  cases k with
  | true =>
    obtain ⟨u, h3, h4⟩ := h' rfl
    exact ⟨_, fun q o => pw_and (h1 q o) (h3 q o), et_and h2 fun _ => h4⟩
  | false =>
    refine ⟨tAnd t fun _ _ _ => False, fun q o => pw_and (h1 q o) ⟨fun _ _ _ _ _ _ _ z => z.elim⟩, ?_⟩
    exact et_and (l := l) h2 fun z => nomatch z
theorem xw_or {k l : Bool} {rest : List Expr} (h : XT S ρ a k) (h' : k = false → XW S ρ (.BoolOp .Or (b :: rest) pos) l) : XW S ρ (.BoolOp .Or (a :: b :: rest) pos) (k || l) := by
  obtain ⟨t, h1, h2⟩ := h
  cases k with
  | false =>
    obtain ⟨u, h3, h4⟩ := h' rfl
    exact ⟨_, fun q o => pw_or (h1 q o) (h3 q o), et_or h2 fun _ => h4⟩
  | true =>
    refine ⟨tOr t fun _ _ _ => False, fun q o => pw_or (h1 q o) ⟨fun _ _ _ _ _ _ _ z => z.elim⟩, ?_⟩
    exact et_or (l := l) h2 fun z => nomatch z
theorem xt_not {k : Bool} (h : XT S ρ a k) : XT S ρ (.UnaryOp .Not a pos) (!k) := let ⟨t, h1, h2⟩ := h; ⟨_, fun q o => pt_not (h1 q o), fun σ F H A Q w n q => h2 σ F H A _ w n fun F' H' g => q F' H' g⟩
/-- a truth value, as a test -/
theorem xt_val {k : Bool} (h : XP S ρ e (.ok (.bl k))) (he : ∀ (env : PySem.Env) (whole : Sem Value), isTrue e env whole = (do let v ← whole; standAt e.pos; holding [v] (truthy v)) := by intro _ _; rfl) : XT S ρ e k :=
  let ⟨t, h1, h2⟩ := h; ⟨_, fun q o => pt_val (h1 q o) (he _), et_B h2⟩
theorem ep_andV {ta tb : TE} {k l : Bool} (h1 : EP S ta ρ (.ok (.bl k))) (h2 : k = true → EP S tb ρ (.ok (.bl l))) : EP S (tAndV ta tb) ρ (.ok (.bl (k && l))) := fun σ F H A Q w n q =>
  h1 σ F H A _ w n fun v F1 H1 g r => by
    cases r
    refine ⟨k, rfl, ?_⟩
    cases k with
    | true => exact h2 rfl σ F1 H1 A Q (g.wf w) (g.envs n) fun v F2 H2 g2 r => q v F2 H2 (g.trans g2) r
    | false => exact q _ F1 H1 g .bl
theorem ep_orV {ta tb : TE} {k l : Bool} (h1 : EP S ta ρ (.ok (.bl k))) (h2 : k = false → EP S tb ρ (.ok (.bl l))) : EP S (tOrV ta tb) ρ (.ok (.bl (k || l))) := fun σ F H A Q w n q =>
  h1 σ F H A _ w n fun v F1 H1 g r => by
    cases r
    refine ⟨k, rfl, ?_⟩
    cases k with
    | false => exact h2 rfl σ F1 H1 A Q (g.wf w) (g.envs n) fun v F2 H2 g2 r => q v F2 H2 (g.trans g2) r
    | true => exact q _ F1 H1 g .bl
theorem xp_one {op : BoolOp} {r} (h : XP S ρ a r) : XP S ρ (.BoolOp op [a] pos) r := let ⟨t, h1, h2⟩ := h; ⟨t, fun q o => pe_one (h1 q o), h2⟩
theorem xp_and {k l : Bool} {rest : List Expr} (h : XP S ρ a (.ok (.bl k))) (h' : k = true → XP S ρ (.BoolOp .And (b :: rest) pos) (.ok (.bl l))) : XP S ρ (.BoolOp .And (a :: b :: rest) pos) (.ok (.bl (k && l))) := by
  obtain ⟨t, h1, h2⟩ := h
  cases k with
  | true =>
    obtain ⟨u, h3, h4⟩ := h' rfl
    exact ⟨_, fun q o => pe_and (h1 q o) (h3 q o), ep_andV h2 fun _ => h4⟩
  | false => exact ⟨tAndV t fun _ _ _ => False, fun q o => pe_and (h1 q o) ⟨fun _ _ _ _ _ _ z => z.elim⟩, ep_andV (l := l) h2 fun z => nomatch z⟩
theorem xp_or {k l : Bool} {rest : List Expr} (h : XP S ρ a (.ok (.bl k))) (h' : k = false → XP S ρ (.BoolOp .Or (b :: rest) pos) (.ok (.bl l))) : XP S ρ (.BoolOp .Or (a :: b :: rest) pos) (.ok (.bl (k || l))) := by
  obtain ⟨t, h1, h2⟩ := h
  cases k with
  | false =>
    obtain ⟨u, h3, h4⟩ := h' rfl
    exact ⟨_, fun q o => pe_or (h1 q o) (h3 q o), ep_orV h2 fun _ => h4⟩
  | true => exact ⟨tOrV t fun _ _ _ => False, fun q o => pe_or (h1 q o) ⟨fun _ _ _ _ _ _ z => z.elim⟩, ep_orV (l := l) h2 fun z => nomatch z⟩
theorem xp_not {k : Bool} (h : XP S ρ a (.ok (.bl k))) : XP S ρ (.UnaryOp .Not a pos) (.ok (.bl (!k))) := let ⟨t, h1, h2⟩ := h; ⟨_, fun q o => pe_not (h1 q o), fun σ F H A Q w n q => h2 σ F H A _ w n fun v F' H' g r => by
  cases r
  exact ⟨k, rfl, q _ F' H' g .bl⟩⟩
theorem xp_if {k : Bool} {r : Except Str D} (ht : XT S ρ c k) (ha : k = true → XP S ρ a r) (hb : k = false → XP S ρ b r) : XP S ρ (.IfExp c a b pos) r := by
  obtain ⟨t, h1, h2⟩ := ht
  cases k with
  | true =>
    obtain ⟨u, h3, h4⟩ := ha rfl
    refine ⟨tIf t u fun _ _ _ => False, fun q o => pe_ifExp (h1 q o) (h3 q o) ⟨fun _ _ _ _ _ _ z => z.elim⟩, fun σ F H A Q w n q => h2 σ F H A _ w n fun F' H' g => ?_⟩
    show u σ H' Q
    refine h4 σ F' H' A Q (g.wf w) (g.envs n) ?_
    cases r with
    | ok d => exact fun v F2 H2 g2 r2 => q v F2 H2 (g.trans g2) r2
    | error x => exact fun F2 H2 g2 => q F2 H2 (g.trans g2)
  | false =>
    obtain ⟨u, h3, h4⟩ := hb rfl
    refine ⟨tIf t (fun _ _ _ => False) u, fun q o => pe_ifExp (h1 q o) ⟨fun _ _ _ _ _ _ z => z.elim⟩ (h3 q o), fun σ F H A Q w n q => h2 σ F H A _ w n fun F' H' g => ?_⟩
    show u σ H' Q
    refine h4 σ F' H' A Q (g.wf w) (g.envs n) ?_
    cases r with
    | ok d => exact fun v F2 H2 g2 r2 => q v F2 H2 (g.trans g2) r2
    | error x => exact fun F2 H2 g2 => q F2 H2 (g.trans g2)

/-! ### operators on ints -/
theorem od_I {C : Int → Int → Prop} {g : Int → Int → Int} {i j : Int} (hc : C i j) : OD S (rI C fun i j => .int (g i j)) (.int i) (.int j) (.int (g i j)) := fun x y F H Q e rx ry q => by
  cases rx; cases ry
  exact ⟨i, j, rfl, rfl, hc, q _ F H (Grow.refl e) .int⟩
theorem od_I0 {g : Int → Int → Int} {i j : Int} : OD S (rI0 fun i j => .int (g i j)) (.int i) (.int j) (.int (g i j)) := fun x y F H Q e rx ry q => by
  cases rx; cases ry
  exact ⟨i, j, rfl, rfl, q _ F H (Grow.refl e) .int⟩
theorem od_B0 {g : Int → Int → Bool} {i j : Int} : OD S (rI0 fun i j => .bl (g i j)) (.int i) (.int j) (.bl (g i j)) := fun x y F H Q e rx ry q => by
  cases rx; cases ry
  exact ⟨i, j, rfl, rfl, q _ F H (Grow.refl e) .bl⟩
theorem ob_add {i j : Int} : OB S .Add (.int i) (.int j) (.int (i + j)) := ⟨_, fun _ _ => op_add, od_I0⟩
theorem ob_sub {i j : Int} : OB S .Sub (.int i) (.int j) (.int (i - j)) := ⟨_, fun _ _ => op_sub, od_I0⟩
theorem ob_mul {i j : Int} (h : (-(2 ^ 64) < i ∧ i < 2 ^ 64) ∨ (-(2 ^ 64) < j ∧ j < 2 ^ 64)) : OB S .Mult (.int i) (.int j) (.int (i * j)) := ⟨_, fun _ _ => op_mul, od_I h⟩
theorem ob_div {i j : Int} (h : 0 < j ∧ j < 1073741824) : OB S .FloorDiv (.int i) (.int j) (.int (i / j)) := ⟨_, fun _ _ => op_fdiv, od_I h⟩
theorem ob_mod {i j : Int} (h : 0 < j) : OB S .Mod (.int i) (.int j) (.int (i % j)) := ⟨_, fun _ _ => op_mod, od_I h⟩
theorem ob_pow {i j : Int} (h : 0 ≤ j ∧ j ≤ 1000000 ∧ i.natAbs < 2 ^ 64) : OB S .Pow (.int i) (.int j) (.int (i ^ j.toNat)) := ⟨_, fun _ _ => op_pow, od_I h⟩
theorem oc_lt {i j : Int} : OC S .Lt (.int i) (.int j) (decide (i < j)) := ⟨_, fun _ _ => op_lt, od_B0⟩
theorem oc_le {i j : Int} : OC S .LtE (.int i) (.int j) (decide (i ≤ j)) := ⟨_, fun _ _ => op_le, od_B0⟩
theorem oc_gt {i j : Int} : OC S .Gt (.int i) (.int j) (decide (j < i)) := ⟨_, fun _ _ => op_gt, od_B0⟩
theorem oc_ge {i j : Int} : OC S .GtE (.int i) (.int j) (decide (j ≤ i)) := ⟨_, fun _ _ => op_ge, od_B0⟩
theorem xp_neg {i : Int} (h : XP S ρ a (.ok (.int i))) : XP S ρ (.UnaryOp .USub a pos) (.ok (.int (-i))) := let ⟨t, h1, h2⟩ := h; ⟨_, fun q o => pe_un un_neg (h1 q o), fun σ F H A Q w n q => h2 σ F H A _ w n fun v F' H' g r => by
  cases r
  exact ⟨i, rfl, q _ F' H' g .int⟩⟩

/-! ### ==, !=, <, in of typed data -/
section
variable {α : Type} [DecidableEq α] [Datum α] [Enc α]
theorem holds_of {X : Cx} {pins : List (Addr × Obj)} {σ : L2.St} {H : Hp} {s : Shared} (I : Inv X pins σ H s) {v : V} {u : Value} {x : α} (h : Rep X.K H v (enc x)) (r : RelV v u) : PySem.W.Holds s.heap u x := Dp.reads I _ _ _ (Enc.dp _ _ _ _ h) r
theorem holdAll_of {X : Cx} {pins : List (Addr × Obj)} {σ : L2.St} {H : Hp} {s : Shared} (I : Inv X pins σ H s) {vs : List V} {us : List Value} {xs : List α} (h : Reps X.K H vs (xs.map enc)) (r : Vals vs us) : PySem.W.HoldAll s.heap us xs := Dp.readsAll I _ _ _ (dp_all _ _ h) r
def rTyp (K : PySem.W.Frag) (x y : α) (k : Bool) : R2 := fun v u H Q => Rep K H v (enc x) ∧ Rep K H u (enc y) ∧ Q (.bl k) H
theorem od_typ {x y : α} {k : Bool} : OD S (rTyp S.K x y k) (enc x) (enc y) (.bl k) := fun v u F H Q e rx ry q => ⟨rx, ry, q _ F H (Grow.refl e) .bl⟩
theorem oc_eq {x y : α} (hd : Datum.depth α ≤ 64 := by decide) : OC S .Eq (enc x) (enc y) (decide (x = y)) := ⟨rTyp S.K x y _, fun q o pins s σ H v u vv uv Q I rv ru h => by
  obtain ⟨h1, h2, q1⟩ := h
  have := o.units
  exact PySem.W.eq_datum (holds_of I h1 rv) (holds_of I h2 ru) (by show q.A.units + _ < _; omega) ⟨.bl _, H, I, rfl, q1⟩, od_typ⟩
theorem oc_ne {x y : α} (hd : Datum.depth α ≤ 64 := by decide) : OC S .NotEq (enc x) (enc y) (!decide (x = y)) := ⟨rTyp S.K x y _, fun q o pins s σ H v u vv uv Q I rv ru h => by
  obtain ⟨h1, h2, q1⟩ := h
  have := o.units
  rw [← decide_not] at q1
  exact PySem.W.ne_datum (holds_of I h1 rv) (holds_of I h2 ru) (by show q.A.units + _ < _; omega) ⟨.bl _, H, I, rfl, q1⟩, od_typ⟩
def rInTy (K : PySem.W.Frag) (x : α) (xs : List α) (tup : Bool) (k : Bool) : R2 := fun v u H Q => Rep K H v (enc x) ∧ (∃ a vs, u = .ref a ∧ (if tup then SqT K H a vs else SqL K H a vs) ∧ Reps K H vs (xs.map enc)) ∧ Q (.bl k) H
theorem oc_in {x : α} {xs : List α} (hd : Datum.depth α ≤ 63 := by decide) : OC S .In (enc x) (enc xs) (decide (x ∈ xs)) := ⟨rInTy S.K x xs false _, fun q o pins s σ H v u vv uv Q I rv ru h => by
  obtain ⟨h1, ⟨a, vs, rfl, h2, h3⟩, q1⟩ := h
  have := o.units
  obtain ⟨its, r, ⟨o1, n, e1, e2, _, e3⟩, _⟩ := I.list h2
  cases ru
  exact PySem.W.in_list_datum (vs := its.toArray) ⟨o1, e1, e2, n, e3⟩ (holdAll_of I h3 (by simpa using r)) (holds_of I h1 rv) (by show q.A.units + 1 + _ < _; omega) ⟨.bl _, H, I, rfl, q1⟩,
  fun v u F H Q e rx ry q => by
    cases ry with
    | lst h r => exact ⟨rx, ⟨_, _, rfl, .of h, r⟩, q _ F H (Grow.refl e) .bl⟩⟩
theorem oc_notin {x : α} {xs : List α} (hd : Datum.depth α ≤ 63 := by decide) : OC S .NotIn (enc x) (enc xs) (!decide (x ∈ xs)) := ⟨rInTy S.K x xs false (!decide (x ∈ xs)), fun q o pins s σ H v u vv uv Q I rv ru h => by
  obtain ⟨h1, ⟨a, vs, rfl, h2, h3⟩, q1⟩ := h
  have := o.units
  obtain ⟨its, r, ⟨o1, n, e1, e2, _, e3⟩, _⟩ := I.list h2
  cases ru
  rw [← decide_not] at q1
  exact PySem.W.notIn_list_datum (vs := its.toArray) ⟨o1, e1, e2, n, e3⟩ (holdAll_of I h3 (by simpa using r)) (holds_of I h1 rv) (by show q.A.units + 1 + _ < _; omega) ⟨.bl _, H, I, rfl, q1⟩,
  fun v u F H Q e rx ry q => by
    cases ry with
    | lst h r => exact ⟨rx, ⟨_, _, rfl, .of h, r⟩, q _ F H (Grow.refl e) .bl⟩⟩
theorem oc_inT {x : α} {xs : List α} (hd : Datum.depth α ≤ 63 := by decide) : OC S .In (enc x) (.tup (xs.map enc)) (decide (x ∈ xs)) := ⟨rInTy S.K x xs true _, fun q o pins s σ H v u vv uv Q I rv ru h => by
  obtain ⟨h1, ⟨a, vs, rfl, h2, h3⟩, q1⟩ := h
  have := o.units
  obtain ⟨its, r, ⟨o1, e1, e2, n, e3⟩, _⟩ := I.tuple h2
  cases ru
  exact PySem.W.in_tuple_datum (vs := its.toArray) ⟨o1, e1, e2, n, e3⟩ (holdAll_of I h3 (by simpa using r)) (holds_of I h1 rv) (by show q.A.units + 1 + _ < _; omega) ⟨.bl _, H, I, rfl, q1⟩,
  fun v u F H Q e rx ry q => by
    cases ry with
    | tup h r => exact ⟨rx, ⟨_, _, rfl, .of h, r⟩, q _ F H (Grow.refl e) .bl⟩⟩
theorem oc_notinT {x : α} {xs : List α} (hd : Datum.depth α ≤ 63 := by decide) : OC S .NotIn (enc x) (.tup (xs.map enc)) (!decide (x ∈ xs)) := ⟨rInTy S.K x xs true (!decide (x ∈ xs)), fun q o pins s σ H v u vv uv Q I rv ru h => by
  obtain ⟨h1, ⟨a, vs, rfl, h2, h3⟩, q1⟩ := h
  have := o.units
  obtain ⟨its, r, ⟨o1, e1, e2, n, e3⟩, _⟩ := I.tuple h2
  cases ru
  rw [← decide_not] at q1
  exact PySem.W.notIn_tuple_datum (vs := its.toArray) ⟨o1, e1, e2, n, e3⟩ (holdAll_of I h3 (by simpa using r)) (holds_of I h1 rv) (by show q.A.units + 1 + _ < _; omega) ⟨.bl _, H, I, rfl, q1⟩,
  fun v u F H Q e rx ry q => by
    cases ry with
    | tup h r => exact ⟨rx, ⟨_, _, rfl, .of h, r⟩, q _ F H (Grow.refl e) .bl⟩⟩
end
section
variable {α : Type} [DecidableEq α] [DatumOrd α] [Enc α]
theorem oc_ltD {x y : α} (hd : Datum.depth α ≤ 64 := by decide) : OC S .Lt (enc x) (enc y) (DatumOrd.lt x y) := ⟨rTyp S.K x y _, fun q o pins s σ H v u vv uv Q I rv ru h => by
  obtain ⟨h1, h2, q1⟩ := h
  have := o.units
  exact PySem.W.lt_datum (holds_of I h1 rv) (holds_of I h2 ru) (by show q.A.units + _ < _; omega) ⟨.bl _, H, I, rfl, q1⟩, od_typ⟩
theorem oc_gtD {x y : α} (hd : Datum.depth α ≤ 64 := by decide) : OC S .Gt (enc x) (enc y) (DatumOrd.lt y x) := ⟨rTyp S.K x y _, fun q o pins s σ H v u vv uv Q I rv ru h => by
  obtain ⟨h1, h2, q1⟩ := h
  have := o.units
  exact PySem.W.gt_datum (holds_of I h1 rv) (holds_of I h2 ru) (by show q.A.units + _ < _; omega) ⟨.bl _, H, I, rfl, q1⟩, od_typ⟩
end
theorem oc_isN {x : D} (k : Bool) (h : ∀ v F, Rep S.K F v x → decide (v = .non) = k) : OC S .Is x .non k := ⟨_, fun _ _ => op_isN, fun v u F H Q e rx ry q => by
  cases ry
  exact ⟨rfl, by rw [h v H rx]; exact q _ F H (Grow.refl e) .bl⟩⟩
theorem oc_isnN {x : D} (k : Bool) (h : ∀ v F, Rep S.K F v x → decide (v = .non) = k) : OC S .IsNot x .non (!k) := ⟨_, fun _ _ => op_notN, fun v u F H Q e rx ry q => by
  cases ry
  exact ⟨rfl, by rw [h v H rx]; exact q _ F H (Grow.refl e) .bl⟩⟩
end
end G

namespace G
open PySem PySem.Spec PyProof.Rows L2
open PySem.W (Datum DatumOrd Tup T3)
open Enc (enc)
theorem sqT_ext {K : PySem.W.Frag} {F H : Hp} {a : Addr} {xs : List V} (e : Ext F H) (h : SqT K F a xs) : SqT K H a xs := e.t h
section
variable {S : Sig} {ρ : Env} {a b c e : Expr} {d d1 d2 d3 : D} {ds es' : List D} {pos : Pos} {pin : List Nat} {op : Operator} {es : List Expr}

/-! ### arguments, displays -/
theorem xa_nil : XA S ρ [] [] := ⟨_, fun _ _ => pa_nil, fun σ F H A Q w n q => q [] F H (Grow.refl w.sub) .nil⟩
theorem xa_cons (h : XP S ρ e (.ok d)) (r : XA S ρ es ds) (hs : ∀ env : PySem.Env, starEach (e :: es) env = (false, eval e env) :: starEach es env := by intro _; rfl) : XA S ρ (e :: es) (d :: ds) := by
  obtain ⟨t, h1, h2⟩ := h
  obtain ⟨u, r1, r2⟩ := r
  exact ⟨_, fun q o => pa_cons (h1 q o) (r1 q o) (hs _), fun σ F H A Q w n q => h2 σ F H A _ w n fun v F1 H1 g1 p1 => r2 σ F1 H1 A _ (g1.wf w) (g1.envs n) fun vs F2 H2 g2 p2 => q _ F2 H2 (g1.trans g2) (.cons (p1.mono g2.stp.fs) p2)⟩
theorem xav_nil : XAV S ρ [] [] := ⟨_, fun _ _ => pa_nil, fun σ F H A Q w n q => q [] F H (Grow.refl w.sub) .nil⟩
theorem xav_cons (h : XV S ρ e d) (r : XAV S ρ es ds) (hs : ∀ env : PySem.Env, starEach (e :: es) env = (false, eval e env) :: starEach es env := by intro _; rfl) : XAV S ρ (e :: es) (d :: ds) := by
  obtain ⟨t, h1, h2⟩ := h
  obtain ⟨u, r1, r2⟩ := r
  exact ⟨_, fun q o => pa_cons (h1 q o) (r1 q o) (hs _), fun σ F H A Q w n q => h2 σ F H A _ w n fun v F1 H1 g1 p1 => r2 σ F1 H1 A _ (g1.wf w) (g1.envs n) fun vs F2 H2 g2 p2 => q _ F2 H2 (g1.trans g2) (.cons (p1.mono g2.hh) p2)⟩
theorem reps_new {K : PySem.W.Frag} {F H : Hp} {p : Addr} {o : HO} {vs : List V} {ds : List D} (e : Ext F H) (h : H p = none) (r : Reps K F vs ds) : Reps K (upd F p o) vs ds := r.mono (Grow.new (o := o) e h).stp.fs
theorem xp_tup {k} (h : XA S ρ es ds) (hl : ds.length ≤ 1000000 := by simp) : XP S ρ (.Tuple es k pos) (.ok (.tup ds)) := by
  obtain ⟨t, h1, h2⟩ := h
  refine ⟨_, fun q o => pe_tup (h1 q o), fun σ F H A Q w n q => h2 σ F H A _ w n fun vs F1 H1 g r => ⟨?_, fun p hp => ?_⟩⟩
  · rw [r.length]; exact Nat.le_trans hl (by decide)
  · exact q _ _ _ (g.trans (Grow.new g.ext hp)) (.tup upd_same (reps_new g.ext hp r))
theorem xp_lst (h : XA S ρ es ds) (hl : ds.length ≤ 1000000 := by simp) : XP S ρ (.List es pos) (.ok (.lst ds)) := by
  obtain ⟨t, h1, h2⟩ := h
  refine ⟨_, fun q o => pe_lst (h1 q o), fun σ F H A Q w n q => h2 σ F H A _ w n fun vs F1 H1 g r => ⟨?_, fun p hp => ?_⟩⟩
  · rw [r.length]; exact Nat.le_trans hl (by decide)
  · exact q _ _ _ (g.trans (Grow.new g.ext hp)) (.lst upd_same (reps_new g.ext hp r))
/-- .. owned -/
theorem grow_own {K : PySem.W.Frag} {σ : L2.St} {F H F1 H1 : Hp} {A : List Addr} {ρ : Env} {p : Addr} {o : HO} (w : WF F H A) (n : Envs K F H σ ρ A) (g : Grow F H F1 H1) (hp : H1 p = none) (hi : ¬ Imm (some o) := by exact fun z => z) :
    WF F1 (upd H1 p o) ([p] ++ A) ∧ Stp F H A F1 (upd H1 p o) ([p] ++ A) ∧ Envs K F1 (upd H1 p o) σ ρ A := by
  obtain ⟨s1, w1⟩ := Grow.own1 (o := o) g.ext hp hi
  have w2 := g.wf w
  have np : p ∉ A := fun h => w2.on p h (imm_none hp)
  refine ⟨⟨w1.sub, ?_, ?_, ?_⟩, ?_, ?_⟩
  · rw [List.singleton_append]; exact List.nodup_cons.mpr ⟨np, w.nd⟩
  · intro a h
    rcases List.mem_append.mp h with h | h
    · exact w1.off a h
    · exact w2.off a h
  · intro a h
    rcases List.mem_append.mp h with h | h
    · exact w1.on a h
    · rw [upd_ne fun z => np (by rw [← z]; exact h)]; exact w2.on a h
  · have s2 : Stp F H [] F1 (upd H1 p o) [p] := g.stp.trans s1
    exact (s2.mono (by simp)).more fun a h => .inl h
  · refine (g.envs n).mono (Ext.refl _) (S := A) (fun a u e h => ?_) fun _ h => h
    rw [upd_ne fun z => np (by rw [← z]; exact h)]; exact e
theorem xx_lst (h : XA S ρ es ds) (hl : ds.length ≤ 1000000 := by simp) : XX S ρ (.List es pos) (.ok (.lst (ds.map O.fro)) ρ) := by
  obtain ⟨t, h1, h2⟩ := h
  refine ⟨_, fun q o => pe_lst (h1 q o), fun σ F H A Q w n q => h2 σ F H A _ w n fun vs F1 H1 g r => ⟨?_, fun p hp => ?_⟩⟩
  · rw [r.length]; exact Nat.le_trans hl (by decide)
  · obtain ⟨w3, s3, n3⟩ := grow_own (o := .lst vs) w n g hp
    exact q _ _ _ [p] A w3 s3 (.lst upd_same (Owns.fros r)) n3

/-! ### operators whose operands are frozen -/
def OF (S : Sig) (r : R2) (d1 d2 d : D) : Prop := ∀ (x y : V) (F H : Hp) (Q : VK), Ext F H → Rep S.K F x d1 → Rep S.K F y d2 → (∀ v F' H', Grow F H F' H' → Rep S.K F' v d → Q v H') → r x y H Q
structure OBF (S : Sig) (op : Operator) (d1 d2 d : D) : Prop where
  h : ∃ r, (∀ q, S.Ok q → OpR (S.cx q) (binaryOp op) r) ∧ OF S r d1 d2 d
theorem ep_binF {r : R2} {ta tb : TE} (hr : OF S r d1 d2 d) (ha : EP S ta ρ (.ok d1)) (hb : EP S tb ρ (.ok d2)) : EP S (tOp r ta tb) ρ (.ok d) := fun σ F H A Q w n q =>
  ha σ F H A _ w n fun x F1 H1 g1 r1 => hb σ F1 H1 A _ (g1.wf w) (g1.envs n) fun y F2 H2 g2 r2 =>
    hr x y F2 H2 Q g2.ext (r1.mono g2.stp.fs) r2 fun v F3 H3 g3 r3 => q v F3 H3 ((g1.trans g2).trans g3) r3
theorem xp_binF {op : Operator} (ho : OBF S op d1 d2 d) (ha : XP S ρ a (.ok d1)) (hb : XP S ρ b (.ok d2)) : XP S ρ (.BinOp a op b pos) (.ok d) := by
  obtain ⟨r, h1, h2⟩ := ho.h
  obtain ⟨ta, a1, a2⟩ := ha
  obtain ⟨tb, b1, b2⟩ := hb
  exact ⟨_, fun q k => pe_op (h1 q k) (a1 q k) (b1 q k), ep_binF h2 a2 b2⟩
theorem line_le {n : Nat} (h : n ≤ 1000000) : n ≤ sizeLine := Nat.le_trans h (by decide)
theorem line_lt {n : Nat} (h : n < 1000000) : n < sizeLine := Nat.lt_of_lt_of_le h (by decide)
theorem ob_cat {ds es : List D} (hl : ds.length + es.length ≤ 1000000) : OBF S .Add (.lst ds) (.lst es) (.lst (ds ++ es)) := ⟨_, fun _ _ => op_cat, fun x y F H Q e rx ry q => by
  cases rx with
  | lst h1 r1 =>
    cases ry with
    | lst h2 r2 => exact ⟨_, _, _, _, rfl, rfl, e _ _ h1, e _ _ h2, line_le (by rw [r1.length, r2.length]; exact hl), fun p hp => q _ _ _ (Grow.new e hp) (.lst upd_same (reps_new e hp (r1.append r2)))⟩⟩
theorem ob_catT {ds es : List D} (hl : ds.length + es.length ≤ 1000000) : OBF S .Add (.tup ds) (.tup es) (.tup (ds ++ es)) := ⟨rCatA S.K, fun _ _ => op_catA, fun x y F H Q e rx ry q => by
  cases rx with
  | tup h1 r1 =>
    cases ry with
    | tup h2 r2 =>
      refine ⟨_, _, _, _, rfl, rfl, .of (e _ _ h1), .of (e _ _ h2), line_le (by rw [r1.length, r2.length]; exact hl), fun z => ?_, fun _ z => ?_, fun _ _ p hp => q _ _ _ (Grow.new e hp) (.tup upd_same (reps_new e hp (r1.append r2)))⟩
      · subst z
        cases r1
        exact q _ F H (Grow.refl e) (.tup h2 r2)
      · subst z
        cases r2
        exact q _ F H (Grow.refl e) (by rw [List.append_nil]; exact .tup h1 r1)⟩
theorem Reps.flat_rep {K : PySem.W.Frag} {F : Hp} {vs : List V} {ds : List D} (r : Reps K F vs ds) : ∀ n : Nat, Reps K F (List.replicate n vs).flatten (List.replicate n ds).flatten
  | 0 => .nil
  | n + 1 => by
    rw [List.replicate_succ, List.replicate_succ, List.flatten_cons, List.flatten_cons]
    exact r.append (Reps.flat_rep r n)
theorem ob_rep {ds : List D} {k : Int} (hk : -(2 ^ 63) ≤ k ∧ k < 2 ^ 63) (hl : ds.length * k.toNat ≤ 1000000) : OBF S .Mult (.lst ds) (.int k) (.lst (List.replicate k.toNat ds).flatten) := ⟨_, fun _ _ => op_rep, fun x y F H Q e rx ry q => by
  cases rx with
  | lst h1 r1 =>
    cases ry
    exact ⟨_, _, _, rfl, rfl, e _ _ h1, hk.1, hk.2, line_le (by rw [r1.length]; exact hl), fun p hp => q _ _ _ (Grow.new e hp) (.lst upd_same (reps_new e hp (r1.flat_rep _)))⟩⟩
theorem Tx.app (t u : Tx) : t.s ++ u.s = (⟨t.l ++ u.l⟩ : Tx).s := by
  show (⟨(t.l.map Char.toNat).toArray ++ (u.l.map Char.toNat).toArray⟩ : Str) = ⟨((t.l ++ u.l).map Char.toNat).toArray⟩
  simp
theorem Tx.len (t : Tx) : t.s.length = t.l.length := by show ((t.l.map Char.toNat).toArray).size = _; simp
theorem ob_cats {t u : Tx} (hl : t.l.length + u.l.length ≤ 1000000) : OB S .Add (enc t) (enc u) (enc (⟨t.l ++ u.l⟩ : Tx)) := ⟨_, fun _ _ => op_add_str, fun x y F H Q e rx ry q => by
  cases rx; cases ry
  refine ⟨_, _, rfl, rfl, by rw [Tx.len, Tx.len]; exact line_le hl, ?_⟩
  rw [Tx.app]
  exact q _ F H (Grow.refl e) .str⟩

/-! ### subscripts -/
theorem atI_map {α β : Type} (f : α → β) (xs : List α) (i : Int) : atI (xs.map f) i = (atI xs i).map f := by
  unfold atI
  rw [List.length_map]
  cases ixN xs.length i with
  | none => rfl
  | some j => simp
theorem Reps.atI {K : PySem.W.Frag} {F : Hp} {vs : List V} {ds : List D} {i : Int} (r : Reps K F vs ds) (h : L2.atI ds i = some d) : ∃ v, L2.atI vs i = some v ∧ Rep K F v d := by
  unfold L2.atI at h ⊢
  rw [r.length]
  cases e : ixN ds.length i with
  | none => rw [e] at h; cases h
  | some j =>
    rw [e] at h
    exact r.get (i := j) h
structure OI (S : Sig) (d1 d2 d : D) : Prop where
  h : ∃ r, (∀ q, S.Ok q → IxR (S.cx q) r) ∧ OF S r d1 d2 d
theorem xp_ix (ho : OI S d1 d2 d) (ha : XP S ρ a (.ok d1)) (hb : XP S ρ b (.ok d2)) (hs : PlainIx b := by intro _ _; rfl) : XP S ρ (.Subscript a b pos) (.ok d) := by
  obtain ⟨r, h1, h2⟩ := ho.h
  obtain ⟨ta, a1, a2⟩ := ha
  obtain ⟨tb, b1, b2⟩ := hb
  exact ⟨_, fun q k => pe_ix (h1 q k) (a1 q k) (b1 q k) hs, ep_binF h2 a2 b2⟩
theorem oi_lst {ds : List D} {i : Int} (h : atI ds i = some d) : OI S (.lst ds) (.int i) d := ⟨rIxL S.K, fun _ _ => ix_list, fun x y F H Q e rx ry q => by
  cases rx with
  | lst h1 r1 =>
    cases ry
    obtain ⟨v, e1, e2⟩ := r1.atI h
    exact ⟨_, _, _, v, rfl, rfl, .of (e _ _ h1), e1, q _ F H (Grow.refl e) e2⟩⟩
theorem oi_scr {ds : List D} {i : Int} (h : atI ds i = some d) : OI S (.scr ds) (.int i) d := ⟨rIxL S.K, fun _ _ => ix_list, fun x y F H Q e rx ry q => by
  cases rx with
  | scr h1 r1 =>
    cases ry
    obtain ⟨v, e1, e2⟩ := r1.atI h
    exact ⟨_, _, _, v, rfl, rfl, e.l h1, e1, q _ F H (Grow.refl e) e2⟩⟩
theorem oi_tup {ds : List D} {i : Int} (h : atI ds i = some d) : OI S (.tup ds) (.int i) d := ⟨rIxT S.K, fun _ _ => ix_tup, fun x y F H Q e rx ry q => by
  cases rx with
  | tup h1 r1 =>
    cases ry
    obtain ⟨v, e1, e2⟩ := r1.atI h
    exact ⟨_, _, _, v, rfl, rfl, .of (e _ _ h1), e1, q _ F H (Grow.refl e) e2⟩⟩
theorem oi_tx {t : Tx} {i : Int} {c : Char} (h : atI t.l i = some c) (hl : t.l.length ≤ 1000000) : OI S (enc t) (.int i) (enc (⟨[c]⟩ : Tx)) := ⟨_, fun _ _ => ix_str, fun x y F H Q e rx ry q => by
  cases rx; cases ry
  refine ⟨_, i, c.toNat, rfl, rfl, by rw [Tx.len]; exact line_le hl, ?_, q _ F H (Grow.refl e) .str⟩
  show atI (t.l.map Char.toNat).toArray.toList i = _
  rw [show (t.l.map Char.toNat).toArray.toList = t.l.map Char.toNat from rfl, atI_map, h]
  rfl⟩

/-! ### slices -/
def cutL {α : Type} (xs : List α) (lo hi : Option Int) : List α := (xs.drop (HT.sIx xs.length 0 lo)).take (HT.sIx xs.length xs.length hi - HT.sIx xs.length 0 lo)
theorem cutL_map {α β : Type} (f : α → β) (xs : List α) (lo hi : Option Int) : cutL (xs.map f) lo hi = (cutL xs lo hi).map f := by
  unfold cutL
  rw [List.length_map, ← List.map_drop, ← List.map_take]
theorem Reps.cut {K : PySem.W.Frag} {F : Hp} {vs : List V} {ds : List D} (r : Reps K F vs ds) (lo hi : Option Int) : Reps K F (cutV vs lo hi) (cutL ds lo hi) := by
  unfold cutV cutL
  rw [r.length]
  exact (r.drop _).take _
def XO (S : Sig) (ρ : Env) (e : Option Expr) (i : Option Int) : Prop := ∃ t, (∀ q, S.Ok q → PO (S.cx q) e t) ∧ ∀ (σ : L2.St) (F H : Hp) (A : List Addr) (Q : Option Int → Hp → Prop), WF F H A → Envs S.K F H σ ρ A →
  (∀ F' H', Grow F H F' H' → Q i H') → t σ H Q
theorem xo_none : XO S ρ none none := ⟨_, fun _ _ => po_none, fun σ F H A Q w n q => q F H (Grow.refl w.sub)⟩
theorem xo_some {i : Int} (h : XP S ρ e (.ok (.int i))) : XO S ρ (some e) (some i) := let ⟨t, h1, h2⟩ := h; ⟨_, fun q o => po_some (h1 q o), fun σ F H A Q w n q => h2 σ F H A _ w n fun v F' H' g r => by
  cases r
  exact ⟨i, rfl, q F' H' g⟩⟩
def OSl (S : Sig) (r : V → Option Int → Option Int → Hp → VK → Prop) (d1 : D) (lo hi : Option Int) (d : D) : Prop := ∀ (x : V) (F H : Hp) (Q : VK), Ext F H → Rep S.K F x d1 → (∀ v F' H', Grow F H F' H' → Rep S.K F' v d → Q v H') → r x lo hi H Q
theorem xp_sl {r : V → Option Int → Option Int → Hp → VK → Prop} {el eh : Option Expr} {lo hi : Option Int} {p2 : Pos} (h1 : ∀ q, S.Ok q → SlR (S.cx q) r) (h2 : OSl S r d1 lo hi d) (ha : XP S ρ a (.ok d1)) (hl : XO S ρ el lo) (hh : XO S ρ eh hi) : XP S ρ (.Subscript a (.Slice el eh none p2) pos) (.ok d) := by
  obtain ⟨ta, a1, a2⟩ := ha
  obtain ⟨tl, l1, l2⟩ := hl
  obtain ⟨th, k1, k2⟩ := hh
  refine ⟨_, fun q o => pe_slice (h1 q o) (a1 q o) (l1 q o) (k1 q o), fun σ F H A Q w n q => a2 σ F H A _ w n fun x F1 H1 g1 r1 => l2 σ F1 H1 A _ (g1.wf w) (g1.envs n) fun F2 H2 g2 => ?_⟩
  refine k2 σ F2 H2 A _ ((g1.trans g2).wf w) ((g1.trans g2).envs n) fun F3 H3 g3 => ?_
  exact h2 x F3 H3 Q g3.ext ((r1.mono g2.stp.fs).mono g3.stp.fs) fun v F4 H4 g4 r4 => q v F4 H4 (((g1.trans g2).trans g3).trans g4) r4
theorem xp_slL {ds : List D} {el eh : Option Expr} {lo hi : Option Int} {p2 : Pos} (ha : XP S ρ a (.ok (.lst ds))) (hl : XO S ρ el lo) (hh : XO S ρ eh hi) : XP S ρ (.Subscript a (.Slice el eh none p2) pos) (.ok (.lst (cutL ds lo hi))) :=
  xp_sl (r := rSlL S.K) (fun _ _ => sl_list) (fun x F H Q e rx q => by
    cases rx with
    | lst h r => exact ⟨_, _, rfl, .of (e _ _ h), fun p hp => q _ _ _ (Grow.new e hp) (.lst upd_same (reps_new e hp (r.cut lo hi)))⟩) ha hl hh
theorem xp_slT {ds : List D} {el eh : Option Expr} {lo hi : Option Int} {p2 : Pos} (ha : XP S ρ a (.ok (.tup ds))) (hl : XO S ρ el lo) (hh : XO S ρ eh hi) : XP S ρ (.Subscript a (.Slice el eh none p2) pos) (.ok (.tup (cutL ds lo hi))) :=
  xp_sl (r := rSlA S.K) (fun _ _ => sl_tupA) (fun x F H Q e rx q => by
    cases rx with
    | tup h r =>
      refine ⟨_, _, rfl, .of (e _ _ h), fun z => q _ F H (Grow.refl e) (.tup h ?_), fun _ p hp => q _ _ _ (Grow.new e hp) (.tup upd_same (reps_new e hp (r.cut lo hi)))⟩
      rw [r.length] at z
      have : cutL ds lo hi = ds := by unfold cutL; rw [z.1, z.2]; simp
      rw [this]; exact r) ha hl hh

/-! ### calls of built-ins -/
def rLenQ (K : PySem.W.Frag) : List V → Hp → VK → Prop := fun xs H Q => ∃ p ys, xs = [.ref p] ∧ (SqL K H p ys ∨ SqT K H p ys) ∧ Q (.int ys.length) H
def rListQ (K : PySem.W.Frag) : List V → Hp → VK → Prop := fun xs H Q => ∃ p ys, xs = [.ref p] ∧ (SqL K H p ys ∨ SqT K H p ys) ∧ ∀ l, H l = none → Q (.ref l) (upd H l (.lst ys))
def rTupQ (K : PySem.W.Frag) : List V → Hp → VK → Prop := fun xs H Q => ∃ p ys, xs = [.ref p] ∧ ((SqL K H p ys ∧ ∀ l, H l = none → Q (.ref l) (upd H l (.tup ys))) ∨ (SqT K H p ys ∧ Q (.ref p) H))
structure CB (S : Sig) (id : String) (ds : List D) (d : D) : Prop where
  h : ∃ r : List V → Hp → VK → Prop, (∀ q, S.Ok q → CallR (S.cx q) (.builtin id) r) ∧ ∀ (vs : List V) (F H : Hp) (Q : VK), Ext F H → Reps S.K H vs ds → (∀ v F' H', Grow F H F' H' → Rep S.K F' v d → Q v H') → r vs H Q
structure CT (S : Sig) (id : String) (ds : List D) (d : D) : Prop where
  h : ∃ r : List V → Hp → VK → Prop, (∀ q, S.Ok q → CallR (S.cx q) (.type id) r) ∧ ∀ (vs : List V) (F H : Hp) (Q : VK), Ext F H → Reps S.K F vs ds → (∀ v F' H', Grow F H F' H' → Rep S.K F' v d → Q v H') → r vs H Q
structure CBF (S : Sig) (id : String) (ds : List D) (d : D) : Prop where
  h : ∃ r : List V → Hp → VK → Prop, (∀ q, S.Ok q → CallR (S.cx q) (.builtin id) r) ∧ ∀ (vs : List V) (F H : Hp) (Q : VK), Ext F H → Reps S.K F vs ds → (∀ v F' H', Grow F H F' H' → Rep S.K F' v d → Q v H') → r vs H Q
theorem xp_cb {x : Str} {id : String} {p : Pos} (hc : CB S id ds d) (hm : S.mg x = none) (ha : XAV S ρ (e :: es) ds) (hg : S.scope.names.lookup x = some .globalImplicit := by rfl) (hv : bootBuiltins x = some (.builtin id) := by decide +kernel) (hn : x ≠ "__name__" := by decide) (hdb : (x == ("__debug__" : Str)) = false := by decide)
    (he : ∀ env : PySem.Env, starEach (e :: es) env = (false, eval e env) :: starEach es env := by intro _; rfl) (hpl : ∀ env : PySem.Env, (backTo pos (starEach es env)).any (·.1) = false := by intro _; rfl) : XP S ρ (.Call (.Name x p) (e :: es) [] pos) (.ok d) := by
  obtain ⟨r, h1, h2⟩ := hc.h
  obtain ⟨t, a1, a2⟩ := ha
  exact ⟨_, fun q o => pe_callB (X := S.cx q) (h1 q o) (show S.scope.names.lookup x = some .globalImplicit from hg) hm hv (a1 q o) hn hdb (he _) (hpl _), fun σ F H A Q w n q => a2 σ F H A _ w n fun vs F1 H1 g r1 => h2 vs F1 H1 Q g.ext r1 fun v F2 H2 g2 r2 => q v F2 H2 (g.trans g2) r2⟩
theorem xp_cbF {x : Str} {id : String} {p : Pos} (hc : CBF S id ds d) (hm : S.mg x = none) (ha : XA S ρ (e :: es) ds) (hg : S.scope.names.lookup x = some .globalImplicit := by rfl) (hv : bootBuiltins x = some (.builtin id) := by decide +kernel) (hn : x ≠ "__name__" := by decide) (hdb : (x == ("__debug__" : Str)) = false := by decide)
    (he : ∀ env : PySem.Env, starEach (e :: es) env = (false, eval e env) :: starEach es env := by intro _; rfl) (hpl : ∀ env : PySem.Env, (backTo pos (starEach es env)).any (·.1) = false := by intro _; rfl) : XP S ρ (.Call (.Name x p) (e :: es) [] pos) (.ok d) := by
  obtain ⟨r, h1, h2⟩ := hc.h
  obtain ⟨t, a1, a2⟩ := ha
  exact ⟨_, fun q o => pe_callB (X := S.cx q) (h1 q o) (show S.scope.names.lookup x = some .globalImplicit from hg) hm hv (a1 q o) hn hdb (he _) (hpl _), fun σ F H A Q w n q => a2 σ F H A _ w n fun vs F1 H1 g r1 => h2 vs F1 H1 Q g.ext r1 fun v F2 H2 g2 r2 => q v F2 H2 (g.trans g2) r2⟩
theorem xp_ct {x : Str} {id : String} {p : Pos} (hc : CT S id ds d) (hm : S.mg x = none) (ha : XA S ρ (e :: es) ds) (hg : S.scope.names.lookup x = some .globalImplicit := by rfl) (hv : bootBuiltins x = some (.type id) := by decide +kernel) (hn : x ≠ "__name__" := by decide) (hdb : (x == ("__debug__" : Str)) = false := by decide)
    (he : ∀ env : PySem.Env, starEach (e :: es) env = (false, eval e env) :: starEach es env := by intro _; rfl) (hpl : ∀ env : PySem.Env, (backTo pos (starEach es env)).any (·.1) = false := by intro _; rfl) : XP S ρ (.Call (.Name x p) (e :: es) [] pos) (.ok d) := by
  obtain ⟨r, h1, h2⟩ := hc.h
  obtain ⟨t, a1, a2⟩ := ha
  exact ⟨_, fun q o => pe_callTy (X := S.cx q) (h1 q o) (show S.scope.names.lookup x = some .globalImplicit from hg) hm hv (a1 q o) hn hdb (he _) (hpl _), fun σ F H A Q w n q => a2 σ F H A _ w n fun vs F1 H1 g r1 => h2 vs F1 H1 Q g.ext r1 fun v F2 H2 g2 r2 => q v F2 H2 (g.trans g2) r2⟩
theorem reps1 {K : PySem.W.Frag} {F : Hp} {vs : List V} (r : Reps K F vs [d]) : ∃ v, vs = [v] ∧ Rep K F v d := by
  cases r with
  | cons h r => cases r; exact ⟨_, rfl, h⟩
theorem reps2 {K : PySem.W.Frag} {F : Hp} {vs : List V} (r : Reps K F vs [d1, d2]) : ∃ v w, vs = [v, w] ∧ Rep K F v d1 ∧ Rep K F w d2 := by
  cases r with
  | cons h r => obtain ⟨w, e, h2⟩ := reps1 r; exact ⟨_, w, by rw [e], h, h2⟩
theorem cb_len_lst {ds : List D} : CB S "len" [.lst ds] (.int ds.length) := ⟨rLenQ S.K, fun _ _ => call_len_seq, fun vs F H Q e rr q => by
  obtain ⟨v, rfl, r⟩ := reps1 rr
  cases r with
  | lst h r => exact ⟨_, _, rfl, .inl (.of h), by rw [r.length]; exact q _ F H (Grow.refl e) .int⟩⟩
theorem cb_len_scr {ds : List D} : CB S "len" [.scr ds] (.int ds.length) := ⟨rLenQ S.K, fun _ _ => call_len_seq, fun vs F H Q e rr q => by
  obtain ⟨v, rfl, r⟩ := reps1 rr
  cases r with
  | scr h r => exact ⟨_, _, rfl, .inl h, by rw [r.length]; exact q _ F H (Grow.refl e) .int⟩⟩
theorem cb_len_tup {ds : List D} : CB S "len" [.tup ds] (.int ds.length) := ⟨rLenQ S.K, fun _ _ => call_len_seq, fun vs F H Q e rr q => by
  obtain ⟨v, rfl, r⟩ := reps1 rr
  cases r with
  | tup h r => exact ⟨_, _, rfl, .inr (.of h), by rw [r.length]; exact q _ F H (Grow.refl e) .int⟩⟩
theorem cb_len_tx {t : Tx} (hl : t.l.length ≤ 1000000) : CB S "len" [enc t] (.int t.l.length) := ⟨_, fun _ _ => call_len_str, fun vs F H Q e rr q => by
  obtain ⟨v, rfl, r⟩ := reps1 rr
  cases r
  exact ⟨_, rfl, by rw [Tx.len]; exact line_le hl, by rw [Tx.len]; exact q _ F H (Grow.refl e) .int⟩⟩
theorem cb_abs {i : Int} : CB S "abs" [.int i] (.int (if i < 0 then -i else i)) := ⟨_, fun _ _ => call_abs, fun vs F H Q e rr q => by
  obtain ⟨v, rfl, r⟩ := reps1 rr
  cases r
  exact ⟨_, rfl, q _ F H (Grow.refl e) .int⟩⟩
theorem cb_max2 [Calm S] {i j : Int} : CB S "max" [.int i, .int j] (.int (if j > i then j else i)) := ⟨_, fun _ _ => call_max2 Calm.h, fun vs F H Q e rr q => by
  obtain ⟨v, w, rfl, r, r2⟩ := reps2 rr
  cases r; cases r2
  exact ⟨_, _, rfl, q _ F H (Grow.refl e) .int⟩⟩
theorem cb_min2 [Calm S] {i j : Int} : CB S "min" [.int i, .int j] (.int (if j < i then j else i)) := ⟨_, fun _ _ => call_min2 Calm.h, fun vs F H Q e rr q => by
  obtain ⟨v, w, rfl, r, r2⟩ := reps2 rr
  cases r; cases r2
  exact ⟨_, _, rfl, q _ F H (Grow.refl e) .int⟩⟩
theorem ct_int_bl {k : Bool} : CT S "int" [.bl k] (.int (if k then 1 else 0)) := ⟨_, fun _ _ => call_int1, fun vs F H Q e rr q => by
  obtain ⟨v, rfl, r⟩ := reps1 rr
  cases r
  exact .inr ⟨_, rfl, q _ F H (Grow.refl e) .int⟩⟩
theorem ct_list_lst {ds : List D} : CT S "list" [.lst ds] (.lst ds) := ⟨rListQ S.K, fun _ _ => call_list_of, fun vs F H Q e rr q => by
  obtain ⟨v, rfl, r⟩ := reps1 rr
  cases r with
  | lst h r => exact ⟨_, _, rfl, .inl (.of (e _ _ h)), fun l hl => q _ _ _ (Grow.new e hl) (.lst upd_same (reps_new e hl r))⟩⟩
theorem ct_list_tup {ds : List D} : CT S "list" [.tup ds] (.lst ds) := ⟨rListQ S.K, fun _ _ => call_list_of, fun vs F H Q e rr q => by
  obtain ⟨v, rfl, r⟩ := reps1 rr
  cases r with
  | tup h r => exact ⟨_, _, rfl, .inr (.of (e _ _ h)), fun l hl => q _ _ _ (Grow.new e hl) (.lst upd_same (reps_new e hl r))⟩⟩
theorem ct_tuple_lst {ds : List D} : CT S "tuple" [.lst ds] (.tup ds) := ⟨rTupQ S.K, fun _ _ => call_tuple_of, fun vs F H Q e rr q => by
  obtain ⟨v, rfl, r⟩ := reps1 rr
  cases r with
  | lst h r => exact ⟨_, _, rfl, .inl ⟨.of (e _ _ h), fun l hl => q _ _ _ (Grow.new e hl) (.tup upd_same (reps_new e hl r))⟩⟩⟩
theorem ct_tuple_tup {ds : List D} : CT S "tuple" [.tup ds] (.tup ds) := ⟨rTupQ S.K, fun _ _ => call_tuple_of, fun vs F H Q e rr q => by
  obtain ⟨v, rfl, r⟩ := reps1 rr
  cases r with
  | tup h r => exact ⟨_, _, rfl, .inr ⟨.of (e _ _ h), q _ F H (Grow.refl e) (.tup h r)⟩⟩⟩
theorem map_bl_reps {K : PySem.W.Frag} {F : Hp} : ∀ {vs : List V} {bs : List Bool}, Reps K F vs (bs.map D.bl) → vs = bs.map V.bl
  | _, [], h => by cases h; rfl
  | _, b :: bs, h => by
    cases h with
    | cons h r => cases h; rw [List.map_cons, map_bl_reps r]
theorem map_int_reps {K : PySem.W.Frag} {F : Hp} : ∀ {vs : List V} {bs : List Int}, Reps K F vs (bs.map D.int) → vs = bs.map V.int
  | _, [], h => by cases h; rfl
  | _, b :: bs, h => by
    cases h with
    | cons h r => cases h; rw [List.map_cons, map_int_reps r]
theorem cb_any [Calm S] {bs : List Bool} : CB S "any" [.lst (bs.map D.bl)] (.bl (bs.any id)) := ⟨rAny S.K, fun _ _ => cr_any Calm.h, fun vs F H Q e rr q => by
  obtain ⟨v, rfl, r⟩ := reps1 rr
  cases r with
  | lst h r => exact ⟨_, bs, rfl, by rw [← map_bl_reps r]; exact .of h, q _ F H (Grow.refl e) .bl⟩⟩
theorem cb_all [Calm S] {bs : List Bool} : CB S "all" [.lst (bs.map D.bl)] (.bl (bs.all id)) := ⟨rAll S.K, fun _ _ => cr_all Calm.h, fun vs F H Q e rr q => by
  obtain ⟨v, rfl, r⟩ := reps1 rr
  cases r with
  | lst h r => exact ⟨_, bs, rfl, by rw [← map_bl_reps r]; exact .of h, q _ F H (Grow.refl e) .bl⟩⟩
theorem cb_sum [Calm S] {ns : List Int} : CB S "sum" [.lst (ns.map D.int)] (.int ns.sum) := ⟨rSum S.K, fun _ _ => cr_sum Calm.h, fun vs F H Q e rr q => by
  obtain ⟨v, rfl, r⟩ := reps1 rr
  cases r with
  | lst h r => exact ⟨_, ns, rfl, by rw [← map_int_reps r]; exact .of h, q _ F H (Grow.refl e) .int⟩⟩
end
end G

namespace G
open PySem PySem.Spec PyProof.Rows L2
open PySem.W (Datum DatumOrd Tup T3)
open Enc (enc)
section
variable {S : Sig} {ρ ρ1 : Env} {a b c e : Expr} {d d1 d2 d3 : D} {ds : List D} {pos : Pos} {pin : List Nat} {es : List Expr} {st : Stmt} {ss : List Stmt} {r : RS}

/-! ### blocks -/
theorem xb_nil : XB S pin ρ [] (.nx ρ) := ⟨_, fun _ _ => pss_nil, fun σ F H A D w n q => q σ F H A w Stp.refl n Pin.refl⟩
theorem EPost.trans {D : Ends} {σ σ1 : L2.St} {F H F1 H1 : Hp} {A A1 : List Addr} (q : EPost S pin D σ F H A r) (s : Stp F H A F1 H1 A1) (p : Pin pin σ σ1) : EPost S pin D σ1 F1 H1 A1 r := by
  cases r with
  | nx ρ => exact fun σ' F' H' A' w t n k => q σ' F' H' A' w (s.trans t) n (p.trans k)
  | bk ρ => exact fun σ' F' H' A' w t n k => q σ' F' H' A' w (s.trans t) n (p.trans k)
  | ct ρ => exact fun σ' F' H' A' w t n k => q σ' F' H' A' w (s.trans t) n (p.trans k)
  | rt o ρ => exact fun v σ' F' H' B A' w t ow n k => q v σ' F' H' B A' w (s.trans t) ow n (p.trans k)
  | ex x ρ => exact fun σ' F' H' A' w t n k => q σ' F' H' A' w (s.trans t) n (p.trans k)
theorem EPost.nx {D : Ends} {σ : L2.St} {F H : Hp} {A : List Addr} {u : L2.St → Hp → Prop} (q : EPost S pin D σ F H A r) (h : ∀ ρ, r ≠ .nx ρ) : EPost S pin { D with nx := u } σ F H A r := by
  cases r with
  | nx ρ => exact absurd rfl (h ρ)
  | _ => exact q
theorem es_seq {t u : TS} (h : ES S pin t ρ (.nx ρ1)) (h' : ES S pin u ρ1 r) : ES S pin (tSeq t u) ρ r := fun σ F H A D w n q =>
  h σ F H A _ w n fun σ1 F1 H1 A1 w1 s1 n1 p1 => h' σ1 F1 H1 A1 D w1 n1 (q.trans s1 p1)
theorem xb_cons (h : XS S pin ρ st (.nx ρ1)) (h' : XB S pin ρ1 ss r) : XB S pin ρ (st :: ss) r := by
  obtain ⟨t, h1, h2⟩ := h
  obtain ⟨u, h3, h4⟩ := h'
  exact ⟨_, fun q o => pss_cons (h1 q o) (h3 q o), es_seq h2 h4⟩
/-- a statement that does not go on -/
theorem xb_stop (h : XS S pin ρ st r) (hr : ∀ ρ, r ≠ .nx ρ) : XB S pin ρ (st :: ss) r := by
  obtain ⟨t, h1, h2⟩ := h
  exact ⟨tSeq t tNever, fun q o => pss_cons (h1 q o) pss_never, fun σ F H A D w n q => h2 σ F H A _ w n (q.nx hr)⟩
theorem xb_one (h : XS S pin ρ st r) : XB S pin ρ [st] r := by
  obtain ⟨t, h1, h2⟩ := h
  exact ⟨t, fun q o => pss_one (h1 q o), h2⟩
theorem XB.cast {r' : RS} (h : XB S pin ρ ss r) (e : r = r') : XB S pin ρ ss r' := e ▸ h
theorem XS.cast {r' : RS} (h : XS S pin ρ st r) (e : r = r') : XS S pin ρ st r' := e ▸ h

/-! ### storing in a slot -/
theorem Envs.store {K : PySem.W.Frag} {F H : Hp} {σ : L2.St} {A B : List Addr} {v : V} {o : O} {i : Nat} (n : Envs K F H σ ρ A) (ow : Own K F H v o B) (hi : i < ρ.length) (w : WF F H (B ++ A)) :
    ∃ A', Envs K F H (σ.set i (some v)) (ρ.set i (some o)) A' ∧ WF F H A' ∧ ∀ a ∈ A', a ∈ B ++ A := by
  obtain ⟨C, A1, n1, p1⟩ := n.drop i
  have e1 : (ρ.set i none)[i]? = some none := by rw [List.getElem?_set_self hi]
  obtain ⟨A2, n2, p2⟩ := n1.put ow (i := i) e1
  rw [List.set_set] at n2
  have p3 : (B ++ A).Perm (C ++ (B ++ A1)) := by
    refine (List.Perm.append_left B p1).trans ?_
    rw [← List.append_assoc, ← List.append_assoc]
    exact List.Perm.append_right _ List.perm_append_comm
  refine ⟨A2, n2, ((w.perm p3).right).perm p2.symm, fun a h => ?_⟩
  exact p3.mem_iff.mpr (List.mem_append_right _ (p2.mem_iff.mp h))
/-- name = e -/
theorem xs_set (i : Nat) {x : Str} {p' : Pos} {o : O} (h : XX S ρ e (.ok o ρ1)) (hi : Nat.blt i ρ1.length = true := by rfl) (hp : i ∉ pin := by decide) (hN : S.N[i]? = some x := by rfl) (hx : Loc S.scope x := by first | exact .inl rfl | exact .inr rfl) (hst : S.st x = true ∨ S.scope.names.lookup x = some .local := by first | exact .inl rfl | exact .inr rfl)
    (hs : ∀ env : PySem.Env, swapsWith e (some (.Name x p')) pos.line { env with scope := S.scope } = pure false := by intro _; rfl) : XS S pin ρ (.Assign [.Name x p'] e pos) (.nx (ρ1.set i (some o))) := by
  obtain ⟨t, h1, h2⟩ := h
  refine ⟨_, fun q ok => ps_set (X := S.cx q) (i := i) ok.nd hN hx (h1 q ok) (hs _) (hst.elim (fun z => .inl (ok.fn x z)) .inr), fun σ F H A D w n q => h2 σ F H A _ w n fun v F1 H1 B A1 w1 s1 ow n1 => ?_⟩
  obtain ⟨A2, n2, w2, m2⟩ := n1.store ow (Nat.le_of_ble_eq_true hi) w1
  exact q _ _ _ A2 w2 (s1.perm (fun a => Iff.rfl) m2) n2 (Pin.set hp)
theorem xs_setF (i : Nat) {x : Str} {p' : Pos} (h : XP S ρ e (.ok d)) (hi : Nat.blt i ρ.length = true := by rfl) (hp : i ∉ pin := by decide) (hN : S.N[i]? = some x := by rfl) (hx : Loc S.scope x := by first | exact .inl rfl | exact .inr rfl) (hst : S.st x = true ∨ S.scope.names.lookup x = some .local := by first | exact .inl rfl | exact .inr rfl)
    (hs : ∀ env : PySem.Env, swapsWith e (some (.Name x p')) pos.line { env with scope := S.scope } = pure false := by intro _; rfl) : XS S pin ρ (.Assign [.Name x p'] e pos) (.nx (ρ.set i (some (.fro d)))) := xs_set i h.x hi hp hN hx hst hs
theorem xs_setE (i : Nat) {x y : Str} {p' : Pos} {ρ2 : Option Env} (h : XX S ρ e (.ex y ρ1)) (h2 : ρ2 = none ∨ ρ2 = some ρ1) (hN : S.N[i]? = some x := by rfl) (hx : Loc S.scope x := by first | exact .inl rfl | exact .inr rfl) (hst : S.st x = true ∨ S.scope.names.lookup x = some .local := by first | exact .inl rfl | exact .inr rfl)
    (hs : ∀ env : PySem.Env, swapsWith e (some (.Name x p')) pos.line { env with scope := S.scope } = pure false := by intro _; rfl) : XS S pin ρ (.Assign [.Name x p'] e pos) (.ex y ρ2) := by
  obtain ⟨t, h1, h3⟩ := h
  refine ⟨_, fun q ok => ps_set (X := S.cx q) (i := i) ok.nd hN hx (h1 q ok) (hs _) (hst.elim (fun z => .inl (ok.fn x z)) .inr), fun σ F H A D w n q => h3 σ F H A _ w n fun F1 H1 A1 w1 s1 n1 => ?_⟩
  rcases h2 with rfl | rfl
  · exact q σ F1 H1 [] (WF.none w1.sub) (s1.perm (fun a => Iff.rfl) (by simp)) rfl Pin.refl
  · exact q σ F1 H1 A1 w1 s1 n1 Pin.refl
/-- return e -/
theorem xs_ret {o : O} (h : XX S ρ e (.ok o ρ1)) : XS S pin ρ (.Return (some e) pos) (.rt o (some ρ1)) := by
  obtain ⟨t, h1, h2⟩ := h
  exact ⟨_, fun q ok => ps_ret (h1 q ok), fun σ F H A D w n q => h2 σ F H A _ w n fun v F1 H1 B A1 w1 s1 ow n1 => q v σ F1 H1 B A1 w1 s1 ow n1 Pin.refl⟩
theorem xs_ret0 {o : O} (h : XX S ρ e (.ok o ρ1)) : XS S pin ρ (.Return (some e) pos) (.rt o none) := by
  obtain ⟨t, h1, h2⟩ := h
  refine ⟨_, fun q ok => ps_ret (h1 q ok), fun σ F H A D w n q => h2 σ F H A _ w n fun v F1 H1 B A1 w1 s1 ow n1 => q v σ F1 H1 B [] ?_ ?_ ow rfl Pin.refl⟩
  · rw [List.append_nil]; exact w1.left
  · exact s1.perm (fun a => Iff.rfl) (by simp; exact fun a h => .inl h)
theorem xs_retF (h : XP S ρ e (.ok d)) : XS S pin ρ (.Return (some e) pos) (.rt (.fro d) none) := xs_ret0 h.x
theorem xs_retE {y : Str} {ρ2 : Option Env} (h : XX S ρ e (.ex y ρ1)) (h2 : ρ2 = none ∨ ρ2 = some ρ1) : XS S pin ρ (.Return (some e) pos) (.ex y ρ2) := by
  obtain ⟨t, h1, h3⟩ := h
  refine ⟨_, fun q ok => ps_ret (h1 q ok), fun σ F H A D w n q => h3 σ F H A _ w n fun F1 H1 A1 w1 s1 n1 => ?_⟩
  rcases h2 with rfl | rfl
  · exact q σ F1 H1 [] (WF.none w1.sub) (s1.perm (fun a => Iff.rfl) (by simp)) rfl Pin.refl
  · exact q σ F1 H1 A1 w1 s1 n1 Pin.refl
/-- an expression alone -/
theorem xs_expr {o : O} (h : XX S ρ e (.ok o ρ1)) (hs : ∀ env : PySem.Env, swapsWith e none pos.line env = pure false := by intro _; rfl) : XS S pin ρ (.Expr e pos) (.nx ρ1) := by
  obtain ⟨t, h1, h2⟩ := h
  exact ⟨_, fun q ok => ps_expr (h1 q ok) (hs _), fun σ F H A D w n q => h2 σ F H A _ w n fun v F1 H1 B A1 w1 s1 ow n1 => q σ F1 H1 A1 w1.right (s1.perm (fun a => Iff.rfl) fun a h => List.mem_append_right _ h) n1 Pin.refl⟩
theorem xs_exprE {y : Str} {ρ2 : Option Env} (h : XX S ρ e (.ex y ρ1)) (h2 : ρ2 = none ∨ ρ2 = some ρ1) (hs : ∀ env : PySem.Env, swapsWith e none pos.line env = pure false := by intro _; rfl) : XS S pin ρ (.Expr e pos) (.ex y ρ2) := by
  obtain ⟨t, h1, h3⟩ := h
  refine ⟨_, fun q ok => ps_expr (h1 q ok) (hs _), fun σ F H A D w n q => h3 σ F H A _ w n fun F1 H1 A1 w1 s1 n1 => ?_⟩
  rcases h2 with rfl | rfl
  · exact q σ F1 H1 [] (WF.none w1.sub) (s1.perm (fun a => Iff.rfl) (by simp)) rfl Pin.refl
  · exact q σ F1 H1 A1 w1 s1 n1 Pin.refl
/-- slot i is forgotten -/
theorem xs_forget (i : Nat) (h : XB S pin ρ ss (.nx ρ1)) : XB S pin ρ ss (.nx (ρ1.set i none)) := by
  obtain ⟨t, h1, h2⟩ := h
  refine ⟨t, h1, fun σ F H A D w n q => h2 σ F H A D w n fun σ1 F1 H1 A1 w1 s1 n1 p1 => ?_⟩
  obtain ⟨B, A2, n2, p2⟩ := n1.drop i
  exact q σ1 F1 H1 A2 ((w1.perm p2).right) (s1.perm (fun a => Iff.rfl) fun a h => p2.mem_iff.mpr (List.mem_append_right _ h)) n2 p1
/-- what slot i owns is frozen from here on -/
theorem xb_freeze (i : Nat) {o : O} (hρ : ρ[i]? = some (some o)) (h : XB S pin (ρ.set i (some (.fro o.d))) ss r) : XB S pin ρ ss r := by
  obtain ⟨t, h1, h2⟩ := h
  refine ⟨t, h1, fun σ F H A D w n q => ?_⟩
  obtain ⟨v, B, A', e1, ow, n1, p1⟩ := n.get hρ
  have w1 := w.perm p1
  have s1 := frz_stp w1
  have e2 : (ρ.set i none)[i]? = some none := by
    rw [List.getElem?_set_self]
    exact (List.getElem?_eq_some_iff.mp hρ).1
  have n2 : Envs S.K (frz F H B) H σ (ρ.set i none) A' := n1.mono s1.fs (S := A') (fun _ _ h _ => h) fun _ h => h
  have r1 : Rep S.K (frz F H B) v o.d := ow.frz (S := B) s1.fs fun _ h => h
  obtain ⟨A2, n3, p3⟩ := n2.back (.fro r1) e2 e1
  rw [List.set_set] at n3
  have s2 : Stp F H A (frz F H B) H A2 := s1.perm (fun a => p1.mem_iff.symm) fun a h => by simpa using p3.mem_iff.mp h
  exact h2 σ (frz F H B) H A2 D ((frz_wf w1).perm (by simpa using p3.symm)) n3 (q.trans s2 Pin.refl)

/-! ### if -/
theorem xs_if {k : Bool} {A B : List Stmt} (hc : XT S ρ c k) (ha : k = true → XB S pin ρ A r) (hb : k = false → XB S pin ρ B r) : XS S pin ρ (.If c A B pos) r := by
  obtain ⟨t, h1, h2⟩ := hc
  cases k with
  | true =>
    obtain ⟨u, h3, h4⟩ := ha rfl
    refine ⟨tIfS t u tNever, fun q ok => ps_if (h1 q ok) (h3 q ok) pss_never, fun σ F H A D w n q => h2 σ F H A _ w n fun F1 H1 g => ?_⟩
    show u D σ H1
    exact h4 σ F1 H1 A D (g.wf w) (g.envs n) (q.trans ((g.stp.mono (by simp)).more (C := A) fun a h => .inl h) Pin.refl)
  | false =>
    obtain ⟨u, h3, h4⟩ := hb rfl
    refine ⟨tIfS t tNever u, fun q ok => ps_if (h1 q ok) pss_never (h3 q ok), fun σ F H A D w n q => h2 σ F H A _ w n fun F1 H1 g => ?_⟩
    show u D σ H1
    exact h4 σ F1 H1 A D (g.wf w) (g.envs n) (q.trans ((g.stp.mono (by simp)).more (C := A) fun a h => .inl h) Pin.refl)
/-- two ways, two ends -/
theorem xs_if2 {k : Bool} {A B : List Stmt} {r1 r2 : RS} (hc : XT S ρ c k) (ha : k = true → XB S pin ρ A r1) (hb : k = false → XB S pin ρ B r2) : XS S pin ρ (.If c A B pos) (if k = true then r1 else r2) := by
  cases k with
  | true => exact xs_if hc ha fun z => nomatch z
  | false => exact xs_if hc (fun z => nomatch z) hb
/-- both ways go on -/
theorem xs_ifj {τ : Type} {k : Bool} {A B : List Stmt} (R : τ → Env) {s1 s2 : τ} (hc : XT S ρ c k) (ha : k = true → XB S pin ρ A (.nx (R s1))) (hb : k = false → XB S pin ρ B (.nx (R s2))) : XS S pin ρ (.If c A B pos) (.nx (R (if k = true then s1 else s2))) := by
  cases k with
  | true => exact xs_if hc ha fun z => nomatch z
  | false => exact xs_if hc (fun z => nomatch z) hb
/-- if c: (an end); what follows -/
theorem xb_if {k : Bool} {A : List Stmt} {r1 r2 : RS} (hc : XT S ρ c k) (ha : k = true → XB S pin ρ A r1) (hr : ∀ ρ, r1 ≠ .nx ρ) (hb : k = false → XB S pin ρ ss r2) : XB S pin ρ (.If c A [] pos :: ss) (if k = true then r1 else r2) := by
  cases k with
  | true => exact xb_stop (xs_if hc ha fun z => nomatch z) hr
  | false => exact xb_cons (xs_if hc (fun z => nomatch z) fun _ => xb_nil) (hb rfl)

/-! ### targets -/
def EG (S : Sig) (pin : List Nat) (g : TG) (ρ : Env) (d : D) (ρ1 : Env) : Prop := ∀ (σ : L2.St) (F H : Hp) (A : List Addr) (v : V) (Q : L2.St → Hp → Prop), WF F H A → Envs S.K F H σ ρ A → Rep S.K F v d →
  (∀ σ' A', WF F H A' → (∀ a ∈ A', a ∈ A) → Envs S.K F H σ' ρ1 A' → Pin pin σ σ' → Q σ' H) → g v σ H Q
/-- also what slots a target wipes: the comprehensions' own -/
structure XG (S : Sig) (pin : List Nat) (tg : Expr) (own : List Nat) (g : TG) : Prop where
  h : ∀ q, S.Ok q → PG (S.cx q) tg g
  wipe : ∀ v σ H Q, g v σ H Q → g v σ H fun σ' H' => Q σ' H' ∧ wipe σ' own = wipe σ own
theorem eg_name (i : Nat) (hi : Nat.blt i ρ.length = true := by rfl) (hp : i ∉ pin := by decide) : EG S pin (gName i) ρ d (ρ.set i (some (.fro d))) := fun σ F H A v Q w n r q => by
  obtain ⟨A2, n2, w2, m2⟩ := n.store (B := []) (.fro r) (Nat.le_of_ble_eq_true hi) w
  exact q _ A2 w2 m2 n2 (Pin.set hp)
def EGs (S : Sig) (pin : List Nat) (g : TGs) (ρ : Env) (ds : List D) (ρ1 : Env) : Prop := ∀ (σ : L2.St) (F H : Hp) (A : List Addr) (vs : List V) (Q : L2.St → Hp → Prop), WF F H A → Envs S.K F H σ ρ A → Reps S.K F vs ds →
  (∀ σ' A', WF F H A' → (∀ a ∈ A', a ∈ A) → Envs S.K F H σ' ρ1 A' → Pin pin σ σ' → Q σ' H) → g vs σ H Q
theorem egs_nil : EGs S pin gNil ρ [] ρ := fun σ F H A vs Q w n r q => by
  cases r
  exact ⟨rfl, q σ A w (fun _ h => h) n Pin.refl⟩
theorem egs_cons {t : TG} {u : TGs} {ρ2 : Env} (h : EG S pin t ρ d ρ1) (h' : EGs S pin u ρ1 ds ρ2) : EGs S pin (gCons t u) ρ (d :: ds) ρ2 := fun σ F H A vs Q w n r q => by
  cases r with
  | cons r rr => exact ⟨_, _, rfl, h σ F H A _ _ w n r fun σ1 A1 w1 m1 n1 p1 => h' σ1 F H A1 _ _ w1 n1 rr fun σ2 A2 w2 m2 n2 p2 => q σ2 A2 w2 (fun a h => m1 a (m2 a h)) n2 (p1.trans p2)⟩
theorem eg_tup {u : TGs} {n : Nat} (h : EGs S pin u ρ ds ρ1) (hn : ds.length = n := by rfl) : EG S pin (gTup S.K n u) ρ (.tup ds) ρ1 := fun σ F H A v Q w e r q => by
  cases r with
  | tup ht r => exact ⟨_, _, rfl, .of (w.sub _ _ ht), by rw [r.length]; exact hn, h σ F H A _ Q w e r q⟩
/-- a, b = e -/
theorem xs_unpack {tg : Expr} {g : TG} (hg : ∀ q, S.Ok q → PG (S.cx q) tg g) (h : XP S ρ e (.ok d)) (he : EG S pin g ρ d ρ1) (hs : ∀ env : PySem.Env, swapsWithSole [tg] e pos.line env = pure false := by intro _; rfl) (hw : ∀ env : PySem.Env, swappedStores [tg] e env = pure none := by intro _; rfl)
    (h1 : ∀ env : PySem.Env, (assignEach [tg] env).map (·.2) = [assign tg env] := by intro _; rfl) : XS S pin ρ (.Assign [tg] e pos) (.nx ρ1) := by
  obtain ⟨t, a1, a2⟩ := h
  refine ⟨_, fun q ok => ps_asg (a1 q ok) (hg q ok) (hs _) (hw _) (h1 _), fun σ F H A D w n q => a2 σ F H A _ w n fun v F1 H1 g1 r => he σ F1 H1 A v _ (g1.wf w) (g1.envs n) r fun σ' A' w' m n' p => ?_⟩
  exact q σ' F1 H1 A' w' ((g1.stp.mono (by simp) (A' := A)).more (C := A) (fun a h => .inl h) |>.perm (fun a => Iff.rfl) fun a h => List.mem_append_right _ (m a h)) n' p
end
end G

namespace G
open PySem PySem.Spec PyProof.Rows L2
open PySem.W (Datum DatumOrd Tup T3)
open Enc (enc)

/-! ### what a def promises -/
inductive RM where
  | ok (o : O) (os : List O) | ex (x : Str) (os : List O)
/-- args: what is handed in, frozen or owned; res: what is handed back, and what became of what was handed in -/
def RM.Post (K : PySem.W.Frag) (vs : List V) (F H : Hp) (A : List Addr) (Q : VK) (E : XK) : RM → Prop
  | .ok o os => ∀ v F' H' B A', WF F' H' (B ++ A') → Stp F H A F' H' (B ++ A') → Own K F' H' v o B → Owns K F' H' vs os A' → Q v H'
  | .ex e os => ∀ F' H' A', WF F' H' A' → Stp F H A F' H' A' → Owns K F' H' vs os A' → E (.ref (He.ga K e)) none H'
def spG (K : PySem.W.Frag) {τ : Type} (args : τ → List O) (pre : τ → Prop) (res : τ → RM) : Sp := fun vs H Q E => ∃ (x : τ) (F : Hp) (A : List Addr), WF F H A ∧ Owns K F H vs (args x) A ∧ pre x ∧
  (res x).Post K vs F H A Q E
/-- all that is handed in is frozen -/
def rmF (ds : List D) : Except Str O → RM
  | .ok o => .ok o (ds.map O.fro)
  | .error e => .ex e (ds.map O.fro)
abbrev spP (K : PySem.W.Frag) {τ : Type} (ds : τ → List D) (pre : τ → Prop) (res : τ → Except Str O) : Sp := spG K (fun x => (ds x).map O.fro) pre fun x => rmF (ds x) (res x)
/-- a def of the module, as its callers know it -/
structure FnG (P : Program) (w : World) (K : PySem.W.Frag) (mg : Str → Option Value) (base : Heap) (k : Nat) (x : Str) (ps : List Str) (sp : Sp) : Prop where
  h : ∃ f fd, FnOk P w K mg base (L2N.CX P w) k f fd ps sp ∧ mg x = some (.ref f) ∧ PySem.W.keepIn K (.ref f) = true ∧ Binds K fd ps []
section
variable {S : Sig} {ρ ρ1 : Env} {a b c e : Expr} {d d1 d2 d3 : D} {ds : List D} {pos p2 : Pos} {pin : List Nat} {es : List Expr} {st : Stmt} {ss : List Stmt} {r : RS} {x : Str} {ps : List Str} {k : Nat}
variable {τ : Type} {args : τ → List O} {dd : τ → List D} {pre : τ → Prop} {res : τ → RM} {rese : τ → Except Str O}
def exD : Except Str O → Except Str D
  | .ok o => .ok o.d
  | .error e => .error e
def exX (ρ : Env) : Except Str O → RE
  | .ok o => .ok o ρ
  | .error e => .ex e ρ
theorem ex_call (y : τ) {t : TA} (ha : EA S t ρ (dd y)) (hp : pre y) : EX S (tCallS (spP S.K dd pre rese) (WE S.wx) t) ρ (exX ρ (rese y)) := fun σ F H A Q w n q => ha σ F H A _ w n fun vs F1 H1 g r => by
  refine ⟨y, F1, [], WF.none g.ext, Owns.fros r, hp, ?_⟩
  show RM.Post _ _ _ _ _ _ _ (rmF (dd y) (rese y))
  cases e : rese y with
  | ok o =>
    rw [e] at q
    intro v F2 H2 B A' w2 s2 ow ows
    obtain ⟨_, rfl⟩ := Owns.fros_inv ows
    rw [List.append_nil] at w2 s2
    have w1 := g.wf w
    have nB : ∀ b ∈ B, H1 b = none := fun b hb => (s2.foot b hb).elim (fun z => nomatch z) id
    have keep : ∀ x o, H1 x = some o → H2 x = some o := fun x o h => s2.keep x o h (by simp)
    refine q v F2 H2 B A ⟨w2.sub, ?_, ?_, ?_⟩ ?_ ow ?_
    · refine List.nodup_append.mpr ⟨w2.nd, w.nd, fun x hx y hy e => ?_⟩
      subst e
      exact w1.on x hy (imm_none (nB x hx))
    · intro x hx
      rcases List.mem_append.mp hx with hx | hx
      · exact w2.off x hx
      · cases z : F2 x with
        | none => rfl
        | some o =>
          rcases s2.new x o z with z | z | z
          · rw [w1.off x hx] at z; cases z
          · cases z
          · exact absurd z (w1.on x hx)
    · intro x hx
      rcases List.mem_append.mp hx with hx | hx
      · exact w2.on x hx
      · exact s2.held (by simp) (w1.on x hx)
    · exact ((g.stp.trans s2).mono (by simp) (A' := A)).more fun a h => .inl h
    · exact (g.envs n).mono s2.fs (S := A) (fun x o h _ => keep x o h) fun _ h => h
  | error x =>
    rw [e] at q
    intro F2 H2 A' w2 s2 ows
    obtain ⟨_, rfl⟩ := Owns.fros_inv ows
    have g2 : Grow F1 H1 F2 H2 := ⟨s2, w2.sub⟩
    have g3 := g.trans g2
    exact q F2 H2 A (g3.wf w) ((g3.stp.mono (by simp) (A' := A)).more (C := A) fun a h => .inl h) (g3.envs n)
/-- f(a, ..), all frozen -/
theorem xx_call [Calm S] (hG : FnG S.P S.w S.K S.mg S.base k x ps (spP S.K dd pre rese)) (y : τ) (hp : pre y) (ha : XA S ρ (e :: es) (dd y)) (hk : k ≤ S.kk := by exact Nat.le_of_ble_eq_true rfl) (hg : S.scope.names.lookup x = some .globalImplicit := by rfl) (hdb : (x == ("__debug__" : Str)) = false := by decide)
    (he : ∀ env : PySem.Env, starEach (e :: es) env = (false, eval e env) :: starEach es env := by intro _; rfl) (hpl : ∀ env : PySem.Env, (backTo pos (starEach es env)).any (·.1) = false := by intro _; rfl) : XX S ρ (.Call (.Name x p2) (e :: es) [] pos) (exX ρ (rese y)) := by
  obtain ⟨f, fd, F, hm, kp, b⟩ := hG.h
  obtain ⟨t, a1, a2⟩ := ha
  exact ⟨_, fun q ok => pe_callS (X := S.cx q) F ((ok.calm Calm.h).mono hk) (show S.scope.names.lookup x = some .globalImplicit from hg) hm kp b (fun σ => L2N.passAt ok.tk σ) (a1 q ok) hdb (he _) (hpl _), ex_call y a2 hp⟩
theorem ep_call (y : τ) {t : TA} (ha : EA S t ρ (dd y)) (hp : pre y) : EP S (tCallS (spP S.K dd pre rese) (WE S.wx) t) ρ (exD (rese y)) := fun σ F H A Q w n q => ha σ F H A _ w n fun vs F1 H1 g r => by
  refine ⟨y, F1, [], WF.none g.ext, Owns.fros r, hp, ?_⟩
  show RM.Post _ _ _ _ _ _ _ (rmF (dd y) (rese y))
  cases e : rese y with
  | ok o =>
    rw [e] at q
    intro v F2 H2 B A' w2 s2 ow ows
    obtain ⟨_, rfl⟩ := Owns.fros_inv ows
    have s3 := frz_stp w2
    have w3 := frz_wf w2
    have s4 := s2.trans s3
    exact q v (frz F2 H2 B) H2 (g.trans ⟨s4, w3.sub⟩) (ow.frz (S := B) s3.fs fun _ h => h)
  | error x =>
    rw [e] at q
    intro F2 H2 A' w2 s2 ows
    obtain ⟨_, rfl⟩ := Owns.fros_inv ows
    exact q F2 H2 (g.trans ⟨s2, w2.sub⟩)
theorem xp_call [Calm S] (hG : FnG S.P S.w S.K S.mg S.base k x ps (spP S.K dd pre rese)) (y : τ) (hp : pre y) (ha : XA S ρ (e :: es) (dd y)) (hk : k ≤ S.kk := by exact Nat.le_of_ble_eq_true rfl) (hg : S.scope.names.lookup x = some .globalImplicit := by rfl) (hdb : (x == ("__debug__" : Str)) = false := by decide)
    (he : ∀ env : PySem.Env, starEach (e :: es) env = (false, eval e env) :: starEach es env := by intro _; rfl) (hpl : ∀ env : PySem.Env, (backTo pos (starEach es env)).any (·.1) = false := by intro _; rfl) : XP S ρ (.Call (.Name x p2) (e :: es) [] pos) (exD (rese y)) := by
  obtain ⟨f, fd, F, hm, kp, b⟩ := hG.h
  obtain ⟨t, a1, a2⟩ := ha
  exact ⟨_, fun q ok => pe_callS (X := S.cx q) F ((ok.calm Calm.h).mono hk) (show S.scope.names.lookup x = some .globalImplicit from hg) hm kp b (fun σ => L2N.passAt ok.tk σ) (a1 q ok) hdb (he _) (hpl _), ep_call y a2 hp⟩
/-- .. called with what is only looked at: the answer is only looked at, too -/
theorem xv_call [Calm S] (hG : FnG S.P S.w S.K S.mg S.base k x ps (spP S.K dd pre rese)) (y : τ) (hp : pre y) {o : O} (ho : rese y = .ok o) (ha : XAV S ρ (e :: es) (dd y)) (hk : k ≤ S.kk := by exact Nat.le_of_ble_eq_true rfl) (hg : S.scope.names.lookup x = some .globalImplicit := by rfl) (hdb : (x == ("__debug__" : Str)) = false := by decide)
    (he : ∀ env : PySem.Env, starEach (e :: es) env = (false, eval e env) :: starEach es env := by intro _; rfl) (hpl : ∀ env : PySem.Env, (backTo pos (starEach es env)).any (·.1) = false := by intro _; rfl) : XV S ρ (.Call (.Name x p2) (e :: es) [] pos) o.d := by
  obtain ⟨f, fd, F, hm, kp, b⟩ := hG.h
  obtain ⟨t, a1, a2⟩ := ha
  refine ⟨_, fun q ok => pe_callS (X := S.cx q) F ((ok.calm Calm.h).mono hk) (show S.scope.names.lookup x = some .globalImplicit from hg) hm kp b (fun σ => L2N.passAt ok.tk σ) (a1 q ok) hdb (he _) (hpl _), fun σ F H A Q w n q => a2 σ F H A _ w n fun vs F1 H1 g r => ?_⟩
  refine ⟨y, H1, [], WF.none (Ext.refl _), Owns.fros r, hp, ?_⟩
  show RM.Post _ _ _ _ _ _ _ (rmF (dd y) (rese y))
  rw [ho]
  intro v F2 H2 B A' w2 s2 ow ows
  obtain ⟨_, rfl⟩ := Owns.fros_inv ows
  refine q v F1 H2 (g.trans ⟨⟨Ext.refl _, fun x o h _ => s2.keep x o h (by simp), fun x o h => .inl h, by simp, s2.alive⟩, fun x o h => ?_⟩) (ow.rep w2.sub)
  exact s2.keep x o (g.ext x o h) (by simp)
end

/-! ### a def's body keeps its promise -/
/-- the end of the body, and what was promised -/
inductive Fits : RS → Except Str O → Prop
  | rt {o ρ r} (h : .ok o = r) : Fits (.rt o ρ) r
  | nx {ρ r} (h : .ok (.fro .non) = r) : Fits (.nx ρ) r
  | ex {x ρ r} (h : .error x = r) : Fits (.ex x ρ) r
def sigOf (P : Program) (w : World) (K : PySem.W.Frag) (mg : Str → Option Value) (base : Heap) (N : List Str) (sc : Scope) (k : Nat) (E : XK) : Sig := ⟨P, w, K, mg, base, N, sc, k, fun cls d _ H => E cls d H, fun _ => true, true, none, true⟩
instance {P : Program} {w : World} {K : PySem.W.Frag} {mg : Str → Option Value} {base : Heap} {N : List Str} {sc : Scope} {k : Nat} {E : XK} : Calm (sigOf P w K mg base N sc k E) := ⟨rfl⟩
section
variable {P : Program} {w : World} {K : PySem.W.Frag} {mg : Str → Option Value} {base : Heap}
theorem start_of {F H : Hp} {N : List Str} {vs : List V} {os : List O} {A : List Addr} (r : Owns K F H vs os A) : Envs K F H (L2.start N vs) (os.map some ++ List.replicate (N.length - os.length) none) A := by
  unfold L2.start
  rw [r.length]
  exact Envs.owns _ r
theorem sig_ok {N ps : List Str} {qual : Str} {scope : Scope} {f : Addr} {cd : Value} {A : Around} {outer : List PySem.Env} {s : Shared} {H : Hp} {E : XK} {k : Nat} (Sc : FnScope N ps scope) (hr : Room k (A.deeper (envOfC qual scope s.heap.objs.size f cd))) :
    ∃ q : Rest, (sigOf P w K mg base N scope k E).Ok q ∧ (sigOf P w K mg base N scope k E).cx q = cxOf (L2N.CX P w) P w K mg base N qual scope f cd A outer s H E := by
  refine ⟨⟨A.deeper (envOfC qual scope s.heap.objs.size f cd), s, H, envOfC qual scope s.heap.objs.size f cd, outer, envOfC qual scope s.heap.objs.size f cd :: outer, [], fun _ => true, [], (cxOf (L2N.CX P w) P w K mg base N qual scope f cd A outer s H E).xe⟩, ⟨L2H.roomH_of hr, fun _ => hr.hd, (fun _ _ z => nomatch z), fun _ => ⟨rfl, rfl⟩, ?_, fun _ _ => rfl, Sc.nd, ?_⟩, rfl⟩
  · show L2N.Takes (cxOf (L2N.CX P w) P w K mg base N qual scope f cd A outer s H E) fun cls d _ H => E cls d H
    exact L2N.takes_of rfl rfl rfl (by rfl)
  · show PassesOwn (model P w) (cxOf (L2N.CX P w) P w K mg base N qual scope f cd A outer s H E).A (cxOf (L2N.CX P w) P w K mg base N qual scope f cd A outer s H E).env (cxOf (L2N.CX P w) P w K mg base N qual scope f cd A outer s H E).xe
    exact PassesOwn.leaving
theorem def_pure {x qual : Str} {st : Stmt} {f : Addr} {fd : FuncData} {N ps : List Str} {k : Nat} {τ : Type} {ds : τ → List D} {pre : τ → Prop} {res : τ → Except Str O} (F : ∃ dvs kws, FunD K x qual (defArgs st) (defBody st) (defScope st) dvs kws f fd) (Sc : FnScope N ps (defScope st)) (hl : ∀ y, (ds y).length = ps.length)
    (body : ∀ (y : τ) (E : XK), pre y → ∃ r, XB (sigOf P w K mg base N (defScope st) k E) [] ((ds y).map (fun d => some (O.fro d)) ++ List.replicate (N.length - ps.length) none) (defBody st) r ∧ Fits r (res y)) :
    FnOk P w K mg base (L2N.CX P w) (k + 1) f fd ps (spP K ds pre res) := by
  obtain ⟨dvs, kws, F⟩ := F
  refine F.ok Sc (fun vs H Q E h => ?_) (fun cdv A outer s H vs Q E hr h => ?_)
  · obtain ⟨y, F1, A1, _, ow, _⟩ := h
    rw [ow.length, List.length_map, hl]
  · obtain ⟨y, F1, A1, w1, ow, hp, post⟩ := h
    obtain ⟨r, ⟨t, h1, h2⟩, fit⟩ := body y E hp
    obtain ⟨q, ok, e⟩ := sig_ok (P := P) (w := w) (K := K) (mg := mg) (base := base) (cd := cdv) (outer := outer) (H := H) (E := E) Sc hr
    refine ⟨t, by rw [← e]; exact h1 q ok, ?_⟩
    have n1 := start_of (N := N) ow
    rw [List.length_map, hl, List.map_map] at n1
    refine h2 _ F1 H A1 _ w1 n1 ?_
    have post' : RM.Post K vs F1 H A1 Q E (rmF (ds y) (res y)) := post
    obtain ⟨r0, e0⟩ := Owns.fros_inv ow
    subst e0
    cases fit with
    | rt z =>
      rw [← z] at post'
      intro v σ' F' H' B A' w' s' ow' n' p'
      refine post' v F' H' B [] (by rw [List.append_nil]; exact w'.left) (s'.perm (fun a => Iff.rfl) (by simp; exact fun a h => .inl h)) ow' (Owns.fros (r0.mono s'.fs))
    | nx z =>
      rw [← z] at post'
      intro σ' F' H' A' w' s' n' p'
      exact post' .non F' H' [] [] (WF.none w'.sub) (s'.perm (fun a => Iff.rfl) (by simp)) (.fro .non) (Owns.fros (r0.mono s'.fs))
    | ex z =>
      rw [← z] at post'
      intro σ' F' H' A' w' s' n' p'
      exact post' F' H' [] (WF.none w'.sub) (s'.perm (fun a => Iff.rfl) (by simp)) (Owns.fros (r0.mono s'.fs))
end
end G

namespace G
open PySem PySem.Spec PyProof.Rows L2
open PySem.W (Datum DatumOrd Tup T3)
open Enc (enc)

/-! ### one reading for all states -/
def tAnyB (S : Sig) (ss : List Stmt) : TS := fun D σ H => ∃ t, (∀ q, S.Ok q → PSs (S.cx q) ss t) ∧ t D σ H
def tAnyT (S : Sig) (e : Expr) : TT := fun σ H Q => ∃ t, (∀ q, S.Ok q → PT (S.cx q) e t) ∧ t σ H Q
def tAnyE (S : Sig) (e : Expr) : TE := fun σ H Q => ∃ t, (∀ q, S.Ok q → PE (S.cx q) e t) ∧ t σ H Q
theorem pss_any {S : Sig} {q : Rest} (ok : S.Ok q) (ss : List Stmt) : PSs (S.cx q) ss (tAnyB S ss) := ⟨fun pins s σ H D I ⟨t, h, z⟩ => (h q ok).run pins s σ H D I z⟩
theorem pt_any {S : Sig} {q : Rest} (ok : S.Ok q) (e : Expr) : PT (S.cx q) e (tAnyT S e) := ⟨fun pins s σ H Q I ⟨t, h, z⟩ => (h q ok).run pins s σ H Q I z⟩
theorem pe_any {S : Sig} {q : Rest} (ok : S.Ok q) (e : Expr) : PE (S.cx q) e (tAnyE S e) := ⟨fun pins s σ H Q I ⟨t, h, z⟩ => (h q ok).run pins s σ H Q I z⟩
section
variable {S : Sig} {ρ ρ1 : Env} {a b c e it tg : Expr} {d d1 d2 d3 : D} {ds : List D} {pos p2 : Pos} {pin : List Nat} {es : List Expr} {st : Stmt} {ss body : List Stmt} {r : RS} {x : Str}
theorem XB.any (h : XB S pin ρ ss r) : ES S pin (tAnyB S ss) ρ r := let ⟨t, h1, h2⟩ := h; fun σ F H A D w n q => ⟨t, h1, h2 σ F H A D w n q⟩
theorem XT.any {k : Bool} (h : XT S ρ e k) : ET S (tAnyT S e) ρ k := let ⟨t, h1, h2⟩ := h; fun σ F H A D w n q => ⟨t, h1, h2 σ F H A D w n q⟩

/-! ### what is walked -/
/-- the i-th thing that comes is ds[i]; all the while what is frozen stands -/
structure Src (K : PySem.W.Frag) (J : It) (F : Hp) (ds : List D) : Prop where
  h : ∃ (G : Hp → Prop) (Y : Nat → Hp → V → Hp → Prop), Walk J ds.length G Y ∧ (∀ H2, Ext F H2 → G H2) ∧
    ∀ i H2 x H3 F2, i < ds.length → Ext F F2 → Ext F2 H2 → Y i H2 x H3 → ∃ F3 d, ds[i]? = some d ∧ Grow F2 H2 F3 H3 ∧ Rep K F3 x d
def XI (S : Sig) (ρ : Env) (tg it : Expr) (ds : List D) : Prop := ∃ wi : TI, (∀ q, S.Ok q → PI (S.cx q) tg it wi) ∧
  ∀ (σ : L2.St) (F H : Hp) (A : List Addr) (R : It → Hp → Prop), WF F H A → Envs S.K F H σ ρ A → (∀ J F' H', Grow F H F' H' → Src S.K J F' ds → R J H') → wi σ H R
theorem src_at {K : PySem.W.Frag} {F : Hp} {J : It} {xs : List V} {G : Hp → Prop} (r : Reps K F xs ds) (w : Walk J xs.length G (YAt xs)) (g : ∀ H2, Ext F H2 → G H2) : Src K J F ds := by
  refine ⟨G, YAt xs, by rw [← r.length]; exact w, g, fun i H2 x H3 F2 hi e e2 y => ?_⟩
  obtain ⟨rfl, hx⟩ := y
  obtain ⟨d, h1, h2⟩ := r.get' hx
  exact ⟨F2, d, h1, Grow.refl e2, h2.mono e⟩
theorem xi_lst (h : XP S ρ it (.ok (.lst ds))) : XI S ρ tg it ds := by
  obtain ⟨t, h1, h2⟩ := h
  refine ⟨iList S.K t, fun q ok => pi_list (h1 q ok), fun σ F H A R w n k => h2 σ F H A _ w n fun v F1 H1 g r => ?_⟩
  cases r with
  | lst hl r => exact ⟨_, rfl, ⟨_, .of (g.ext _ _ hl)⟩, k _ F1 H1 g (src_at r walk_list fun H2 e => .of (e _ _ hl))⟩
theorem xi_tup (h : XP S ρ it (.ok (.tup ds))) : XI S ρ tg it ds := by
  obtain ⟨t, h1, h2⟩ := h
  refine ⟨iTup S.K t, fun q ok => pi_tup (h1 q ok), fun σ F H A R w n k => h2 σ F H A _ w n fun v F1 H1 g r => ?_⟩
  cases r with
  | tup hl r => exact ⟨_, rfl, ⟨_, .of (g.ext _ _ hl)⟩, k _ F1 H1 g (src_at r walk_tup fun H2 e => .of (e _ _ hl))⟩
/-- lo, lo + 1, .., below hi -/
def rng (lo hi : Int) : List Int := (List.range (hi - lo).toNat).map fun i => lo + (i : Nat)
theorem rng_len (lo hi : Int) : (rng lo hi).length = (hi - lo).toNat := by unfold rng; simp
theorem rng_get {lo hi : Int} {i : Nat} (h : i < (hi - lo).toNat) : (rng lo hi)[i]? = some (lo + (i : Nat)) := by unfold rng; simp [h]
theorem src_rng {K : PySem.W.Frag} {F : Hp} {lo hi : Int} : Src K (Itr lo (hi - lo).toNat) F ((rng lo hi).map D.int) := by
  refine ⟨_, _, by rw [List.length_map, rng_len]; exact walk_range, fun _ _ => trivial, fun i H2 x H3 F2 hh e e2 y => ?_⟩
  rw [List.length_map, rng_len] at hh
  obtain ⟨rfl, rfl⟩ := y
  exact ⟨F2, .int (lo + (i : Nat)), by rw [List.getElem?_map, rng_get hh]; rfl, Grow.refl e2, .int⟩
theorem xi_rng1 {hi : Int} (hm : S.mg "range" = none) (h : XP S ρ a (.ok (.int hi))) (hb : -(2 ^ 62) ≤ hi ∧ hi < 2 ^ 62) (hg : S.scope.names.lookup ("range" : Str) = some .globalImplicit := by rfl) (hs : ∀ env : PySem.Env, starEach [a] env = [(false, eval a env)] := by intro _; rfl) :
    XI S ρ tg (.Call (.Name "range" p2) [a] [] pos) ((rng 0 hi).map D.int) := by
  obtain ⟨t, h1, h2⟩ := xa_cons h xa_nil (fun env => hs env)
  refine ⟨_, fun q ok => pi_range1 (X := S.cx q) (show S.scope.names.lookup ("range" : Str) = some .globalImplicit from hg) hm (h1 q ok) (hs _), fun σ F H A R w n k => h2 σ F H A _ w n fun vs F1 H1 g rr => ?_⟩
  obtain ⟨v, rfl, r⟩ := reps1 rr
  cases r
  exact ⟨hi, rfl, hb.1, hb.2, k _ F1 H1 g (by have := src_rng (K := S.K) (F := F1) (lo := 0) (hi := hi); rw [Int.sub_zero] at this; exact this)⟩
theorem xi_rng2 {lo hi : Int} (hm : S.mg "range" = none) (h : XP S ρ a (.ok (.int lo))) (h' : XP S ρ b (.ok (.int hi))) (hb : -(2 ^ 62) ≤ lo ∧ lo < 2 ^ 62 ∧ -(2 ^ 62) ≤ hi ∧ hi < 2 ^ 62) (hg : S.scope.names.lookup ("range" : Str) = some .globalImplicit := by rfl)
    (hs : ∀ env : PySem.Env, starEach [a, b] env = [(false, eval a env), (false, eval b env)] := by intro _; rfl) (hs2 : ∀ env : PySem.Env, starEach [b] env = [(false, eval b env)] := by intro _; rfl) : XI S ρ tg (.Call (.Name "range" p2) [a, b] [] pos) ((rng lo hi).map D.int) := by
  obtain ⟨t, h1, h2⟩ := xa_cons h (xa_cons h' xa_nil (fun env => hs2 env)) (fun env => by rw [hs env, hs2 env])
  refine ⟨_, fun q ok => pi_range2 (X := S.cx q) (show S.scope.names.lookup ("range" : Str) = some .globalImplicit from hg) hm (h1 q ok) (hs _) (hs2 _), fun σ F H A R w n k => h2 σ F H A _ w n fun vs F1 H1 g rr => ?_⟩
  obtain ⟨v, u, rfl, r, r2⟩ := reps2 rr
  cases r; cases r2
  exact ⟨lo, hi, rfl, hb, k _ F1 H1 g src_rng⟩
/-- sign by sign -/
theorem xi_tx {t : Tx} (h : XP S ρ it (.ok (enc t))) : XI S ρ tg it (t.l.map fun c => enc (⟨[c]⟩ : Tx)) := by
  obtain ⟨u, h1, h2⟩ := h
  refine ⟨_, fun q ok => pi_str (h1 q ok), fun σ F H A R w n k => h2 σ F H A _ w n fun v F1 H1 g r => ?_⟩
  cases r
  refine ⟨_, rfl, k _ F1 H1 g ⟨_, _, by rw [List.length_map, ← Tx.len]; exact walk_str, fun _ _ => trivial, fun i H2 x H3 F2 hh e e2 y => ?_⟩⟩
  obtain ⟨rfl, c, hc, rfl⟩ := y
  have hc' : (t.l.map Char.toNat)[i]? = some c := by
    have : (t.l.map Char.toNat).toArray[i]? = some c := hc
    simpa using this
  rw [List.getElem?_map] at hc'
  cases z : t.l[i]? with
  | none => rw [z] at hc'; cases hc'
  | some ch =>
    rw [z] at hc'
    cases hc'
    exact ⟨F2, enc (⟨[ch]⟩ : Tx), by rw [List.getElem?_map, z]; rfl, Grow.refl e2, .str⟩
/-- pairs, new each time -/
theorem src_pair {K : PySem.W.Frag} {F : Hp} {J : It} {xs ys : Nat → Option V} {G : Hp → Prop} {n : Nat} (hn : n = ds.length) (w : Walk J n G (YPair xs ys)) (g : ∀ H2, Ext F H2 → G H2)
    (r : ∀ i x y, i < n → xs i = some x → ys i = some y → ∃ d1 d2, ds[i]? = some (.tup [d1, d2]) ∧ Rep K F x d1 ∧ Rep K F y d2) : Src K J F ds := by
  subst hn
  refine ⟨G, YPair xs ys, w, g, fun i H2 x H3 F2 hi e e2 y => ?_⟩
  obtain ⟨T, u, v, rfl, nT, rfl, hu, hv⟩ := y
  obtain ⟨d1, d2, h1, h2, h3⟩ := r i u v hi hu hv
  have gr : Grow F2 H2 (upd F2 T (.tup [u, v])) (upd H2 T (.tup [u, v])) := Grow.new e2 nT
  exact ⟨_, _, h1, gr, .tup upd_same (.cons ((h2.mono e).mono gr.stp.fs) (.cons ((h3.mono e).mono gr.stp.fs) .nil))⟩
def enumL {α : Type} (xs : List α) : List (Int × α) := (List.range xs.length).zip xs |>.map fun p => (((p.1 : Nat) : Int), p.2)
theorem enumL_len {α : Type} (xs : List α) : (enumL xs).length = xs.length := by unfold enumL; simp
theorem enumL_get {α : Type} {xs : List α} {i : Nat} {x : α} (h : xs[i]? = some x) : (enumL xs)[i]? = some (((i : Nat) : Int), x) := by
  have hi : i < xs.length := (List.getElem?_eq_some_iff.mp h).1
  unfold enumL
  have e : ((List.range xs.length).zip xs)[i]? = some (i, x) := List.getElem?_zip_eq_some.mpr ⟨by rw [List.getElem?_range hi], h⟩
  rw [List.getElem?_map, e]
  rfl
theorem xi_enum {elts : List Expr} {kk : Nat} {tpos : Pos} {α : Type} {f : α → D} {xs : List α} (hm : S.mg "enumerate" = none) (h : XP S ρ a (.ok (.lst (xs.map f)))) (hg : S.scope.names.lookup ("enumerate" : Str) = some .globalImplicit := by rfl) (hs : ∀ env : PySem.Env, starEach [a] env = [(false, eval a env)] := by intro _; rfl) :
    XI S ρ (.Tuple elts kk tpos) (.Call (.Name "enumerate" p2) [a] [] pos) ((enumL xs).map fun p => .tup [.int p.1, f p.2]) := by
  obtain ⟨t, h1, h2⟩ := xa_cons h xa_nil (fun env => hs env)
  refine ⟨iEnum S.K t, fun q ok => pi_enum (X := S.cx q) (show S.scope.names.lookup ("enumerate" : Str) = some .globalImplicit from hg) hm (h1 q ok) (hs _), fun σ F H A R w n k => h2 σ F H A _ w n fun vs F1 H1 g rr => ?_⟩
  obtain ⟨v, rfl, r⟩ := reps1 rr
  cases r with
  | lst hl r =>
    have len := r.length
    rw [List.length_map] at len
    refine ⟨_, _, rfl, .of (g.ext _ _ hl), k _ F1 H1 g (src_pair (by rw [List.length_map, enumL_len, len]) walk_enum (fun H2 e => .of (e _ _ hl)) fun i u v hi hu hv => ?_)⟩
    cases hu
    obtain ⟨d, e1, e2⟩ := r.get' hv
    rw [List.getElem?_map] at e1
    cases z : xs[i]? with
    | none => rw [z] at e1; cases e1
    | some y =>
      rw [z] at e1
      cases e1
      exact ⟨_, _, by rw [List.getElem?_map, enumL_get z]; rfl, .int, e2⟩
theorem xi_zip {elts : List Expr} {kk : Nat} {tpos : Pos} {α β : Type} {f : α → D} {f' : β → D} {xs : List α} {ys : List β} (hm : S.mg "zip" = none) (h : XP S ρ a (.ok (.lst (xs.map f)))) (h' : XP S ρ b (.ok (.lst (ys.map f')))) (hg : S.scope.names.lookup ("zip" : Str) = some .globalImplicit := by rfl)
    (hs : ∀ env : PySem.Env, starEach [a, b] env = (false, eval a env) :: starEach [b] env := by intro _; rfl) (hs2 : ∀ env : PySem.Env, starEach [b] env = (false, eval b env) :: starEach [] env := by intro _; rfl) (hpl : ∀ env : PySem.Env, (backTo pos (starEach [b] env)).any (·.1) = false := by intro _; rfl) :
    XI S ρ (.Tuple elts kk tpos) (.Call (.Name "zip" p2) [a, b] [] pos) ((xs.zip ys).map fun p => .tup [f p.1, f' p.2]) := by
  obtain ⟨t, h1, h2⟩ := xa_cons h (xa_cons h' xa_nil hs2) hs
  refine ⟨iZip S.K t, fun q ok => pi_zip (X := S.cx q) (show S.scope.names.lookup ("zip" : Str) = some .globalImplicit from hg) hm (h1 q ok) (hs _) (hpl _), fun σ F H A R w n k => h2 σ F H A _ w n fun vs F1 H1 g rr => ?_⟩
  obtain ⟨v, u, rfl, r, r2⟩ := reps2 rr
  cases r with
  | lst hl r =>
    cases r2 with
    | lst hl2 r2 =>
      have len := r.length
      have len2 := r2.length
      rw [List.length_map] at len len2
      refine ⟨_, _, _, _, rfl, .of (g.ext _ _ hl), .of (g.ext _ _ hl2), k _ F1 H1 g (src_pair (n := min xs.length ys.length) (by simp) (walk_zip (by rw [len, len2])) (fun H2 e => ⟨.of (e _ _ hl), .of (e _ _ hl2)⟩) fun i u v hi hu hv => ?_)⟩
      obtain ⟨d, e1, e2⟩ := r.get' hu
      obtain ⟨d', e1', e2'⟩ := r2.get' hv
      rw [List.getElem?_map] at e1 e1'
      cases z : xs[i]? with
      | none => rw [z] at e1; cases e1
      | some y =>
        rw [z] at e1
        cases e1
        cases z' : ys[i]? with
        | none => rw [z'] at e1'; cases e1'
        | some y' =>
          rw [z'] at e1'
          cases e1'
          exact ⟨_, _, by rw [List.getElem?_map, (List.getElem?_zip_eq_some (z := (y, y'))).mpr ⟨z, z'⟩]; rfl, e2, e2'⟩

/-! ### for -/
inductive LO (σ β : Type) where
  | nx (s : σ) | bk (s : σ) | rt (b : β)
def LO.rs {σ β : Type} (R : σ → Env) (fr : β → RS) : LO σ β → RS
  | .nx s => .nx (R s)
  | .bk s => .bk (R s)
  | .rt b => fr b
/-- what ends the def -/
def Term : RS → Prop
  | .rt _ _ => True
  | .ex _ _ => True
  | _ => False
/-- the loop over xs -/
def forL {α σ β : Type} (f : σ → α → LO σ β) : List α → σ → LO σ β
  | [], s => .nx s
  | x :: xs, s => match f s x with
    | .nx s' => forL f xs s'
    | .bk s' => .nx s'
    | .rt b => .rt b
theorem xs_for [Calm S] {α σ β : Type} (xs : List α) (g : α → D) (R : σ → Env) (f : σ → α → LO σ β) (fr : β → RS) (I : Nat → σ → Prop) {tgt : TG} (ρb : σ → α → Env) (s0 : σ)
    (hi : XI S (R s0) tg it (xs.map g)) (hg : ∀ q, S.Ok q → PG (S.cx q) tg tgt) (hG : ∀ s x, EG S pin tgt (R s) (g x) (ρb s x)) (h0 : I 0 s0) (hfr : ∀ b, Term (fr b))
    (hb : ∀ i s x, xs[i]? = some x → I i s → XB S pin (ρb s x) body ((f s x).rs R fr) ∧ ∀ s', f s x = .nx s' → I (i + 1) s')
    (hs : ∀ (env : PySem.Env) (x : Value), foldedSetIterable it env x = pure x := by intro _ _; rfl) : XS S pin (R s0) (.For tg it body [] pos) ((forL f xs s0).rs R fr) := by
  obtain ⟨wi, i1, i2⟩ := hi
  refine ⟨_, fun q ok => ps_for (X := S.cx q) ok.po Calm.h (i1 q ok) (hg q ok) (pss_any ok body) (hs _), fun σ F H A D w n post => i2 σ F H A _ w n fun J F1 H1 gr src => ?_⟩
  obtain ⟨G, Y, wk, hG1, hY⟩ := src.h
  rw [List.length_map] at wk hY
  have st1 : Stp F H A F1 H1 A := (gr.stp.mono (by simp)).more (C := A) fun a h => .inl h
  refine for_it wk (fun i σ' H' => ∃ F' A' s, WF F' H' A' ∧ Stp F H A F' H' A' ∧ Ext F1 F' ∧ Envs S.K F' H' σ' (R s) A' ∧ Pin pin σ σ' ∧ I i s ∧ forL f xs s0 = forL f (xs.drop i) s) ⟨F1, A, s0, gr.wf w, st1, Ext.refl _, gr.envs n, Pin.refl, h0, rfl⟩
    (fun i σ' H' hi ⟨F', A', s, w', s', e', _⟩ => hG1 H' (e'.trans w'.sub)) (fun i v σ' H' H'' hi ⟨F', A', s, w', s', e', n', p', hI, fe⟩ y => ?_) (fun σ' H' ⟨F', A', s, w', s', e', n', p', hI, fe⟩ => ?_)
  · obtain ⟨F2, d, hd, g2, rep⟩ := hY i H' v H'' F' hi e' w'.sub y
    rw [List.getElem?_map, List.getElem?_eq_getElem hi] at hd
    cases hd
    have hx : xs[i]? = some xs[i] := List.getElem?_eq_getElem hi
    have w2 := g2.wf w'
    have st2 : Stp F' H' A' F2 H'' A' := (g2.stp.mono (by simp)).more (C := A') fun a h => .inl h
    obtain ⟨hb1, hb2⟩ := hb i s xs[i] hx hI
    refine hG s xs[i] σ' F2 H'' A' v _ w2 (g2.envs n') rep fun σ3 A3 w3 m3 n3 p3 => ?_
    have st3 : Stp F H A F2 H'' A3 := (s'.trans st2).perm (fun a => Iff.rfl) m3
    have e3 : forL f xs s0 = (match f s xs[i] with
        | .nx s' => forL f (xs.drop (i + 1)) s'
        | .bk s' => .nx s'
        | .rt b => .rt b) := by
      rw [fe, List.drop_eq_getElem_cons hi]
      rfl
    refine hb1.any σ3 F2 H'' A3 _ w3 n3 ?_
    cases ef : f s xs[i] with
    | nx s2 =>
      rw [ef] at e3
      intro σ4 F4 H4 A4 w4 s4 n4 p4
      exact ⟨F4, A4, s2, w4, st3.trans s4, (e'.trans g2.stp.fs).trans s4.fs, n4, (p'.trans p3).trans p4, hb2 s2 ef, e3⟩
    | bk s2 =>
      rw [ef] at e3
      rw [e3] at post
      intro σ4 F4 H4 A4 w4 s4 n4 p4
      exact post σ4 F4 H4 A4 w4 (st3.trans s4) n4 ((p'.trans p3).trans p4)
    | rt b =>
      rw [ef] at e3
      rw [e3] at post
      have post' : EPost S pin D σ F H A (fr b) := post
      have tm := hfr b
      show EPost S pin _ σ3 F2 H'' A3 (fr b)
      cases ec : fr b with
      | nx _ => rw [ec] at tm; exact tm.elim
      | bk _ => rw [ec] at tm; exact tm.elim
      | ct _ => rw [ec] at tm; exact tm.elim
      | rt o ρ' =>
        rw [ec] at post'
        intro u σ4 F4 H4 B A4 w4 s4 ow n4 p4
        exact post' u σ4 F4 H4 B A4 w4 (st3.trans s4) ow n4 ((p'.trans p3).trans p4)
      | ex y ρ' =>
        rw [ec] at post'
        intro σ4 F4 H4 A4 w4 s4 n4 p4
        exact post' σ4 F4 H4 A4 w4 (st3.trans s4) n4 ((p'.trans p3).trans p4)
  · rw [List.drop_length] at fe
    rw [fe] at post
    exact post σ' F' H' A' w' s' n' p'

/-! ### while -/
def whL {σ β : Type} (c : σ → Bool) (f : σ → LO σ β) : Nat → σ → Option (LO σ β)
  | 0, _ => none
  | n + 1, s => if c s = true then (match f s with
    | .nx s' => whL c f n s'
    | .bk s' => some (.nx s')
    | .rt b => some (.rt b)) else some (.nx s)
theorem xs_while {σ β : Type} {cond : Expr} (R : σ → Env) (c : σ → Bool) (f : σ → LO σ β) (fr : β → RS) (I : σ → Prop) (s0 : σ) (n : Nat) {o : LO σ β} (ho : whL c f n s0 = some o) (h0 : I s0) (hfr : ∀ b, Term (fr b))
    (hc : ∀ s, I s → XT S (R s) cond (c s)) (hb : ∀ s, I s → c s = true → XB S pin (R s) body ((f s).rs R fr) ∧ ∀ s', f s = .nx s' → I s') : XS S pin (R s0) (.While cond body [] pos) (o.rs R fr) := by
  refine ⟨_, fun q ok => ps_while (X := S.cx q) ok.po (pt_any ok cond) (pss_any ok body), fun σ F H A D w nv post => ?_⟩
  refine ⟨fun m σ' H' => ∃ F' A' s, WF F' H' A' ∧ Stp F H A F' H' A' ∧ Envs S.K F' H' σ' (R s) A' ∧ Pin pin σ σ' ∧ I s ∧ whL c f m s = some o, ⟨n, F, A, s0, w, Stp.refl, nv, Pin.refl, h0, ho⟩, ?_⟩
  rintro m σ' H' ⟨F', A', s, w', s', n', p', hI, fe⟩
  cases m with
  | zero => cases fe
  | succ m =>
    refine (hc s hI).any σ' F' H' A' _ w' n' fun F2 H2 g => ?_
    have w2 := g.wf w'
    have n2 := g.envs n'
    have st2 : Stp F H A F2 H2 A' := s'.trans ((g.stp.mono (by simp)).more (C := A') fun a h => .inl h)
    unfold whL at fe
    cases ec : c s with
    | false =>
      rw [ec, if_neg (by simp)] at fe
      cases fe
      rw [if_neg (by simp)]
      exact post σ' F2 H2 A' w2 st2 n2 p'
    | true =>
      rw [ec, if_pos rfl] at fe
      rw [if_pos rfl]
      obtain ⟨hb1, hb2⟩ := hb s hI ec
      refine ⟨fun σ'' H'' => ∃ F' A' s, WF F' H'' A' ∧ Stp F H A F' H'' A' ∧ Envs S.K F' H'' σ'' (R s) A' ∧ Pin pin σ σ'' ∧ I s ∧ whL c f m s = some o, fun σ'' H'' h => ⟨m, Nat.lt_succ_self m, h⟩, ?_⟩
      refine hb1.any σ' F2 H2 A' _ w2 n2 ?_
      cases ef : f s with
      | nx s2 =>
        rw [ef] at fe
        intro σ4 F4 H4 A4 w4 s4 n4 p4
        exact ⟨F4, A4, s2, w4, st2.trans s4, n4, p'.trans p4, hb2 s2 ef, fe⟩
      | bk s2 =>
        rw [ef] at fe
        cases fe
        intro σ4 F4 H4 A4 w4 s4 n4 p4
        exact post σ4 F4 H4 A4 w4 (st2.trans s4) n4 (p'.trans p4)
      | rt b =>
        rw [ef] at fe
        cases fe
        have post' : EPost S pin D σ F H A (fr b) := post
        have tm := hfr b
        show EPost S pin _ σ' F2 H2 A' (fr b)
        cases ec : fr b with
        | nx _ => rw [ec] at tm; exact tm.elim
        | bk _ => rw [ec] at tm; exact tm.elim
        | ct _ => rw [ec] at tm; exact tm.elim
        | rt o ρ' =>
          rw [ec] at post'
          intro u σ4 F4 H4 B A4 w4 s4 ow n4 p4
          exact post' u σ4 F4 H4 B A4 w4 (st2.trans s4) ow n4 (p'.trans p4)
        | ex y ρ' =>
          rw [ec] at post'
          intro σ4 F4 H4 A4 w4 s4 n4 p4
          exact post' σ4 F4 H4 A4 w4 (st2.trans s4) n4 (p'.trans p4)
end
end G

namespace G
open PySem PySem.Spec PyProof.Rows L2
open PySem.W (Datum DatumOrd Tup T3)
open Enc (enc)

/-! ### new and owned, nothing else changed -/
def EN (S : Sig) (t : TE) (ρ : Env) (o : O) : Prop := ∀ (σ : L2.St) (F H : Hp) (A : List Addr) (Q : VK), WF F H A → Envs S.K F H σ ρ A →
  (∀ v F' H' B, Stp F H [] F' H' B → WF F' H' B → Own S.K F' H' v o B → Q v H') → t σ H Q
def XN (S : Sig) (ρ : Env) (e : Expr) (o : O) : Prop := ∃ t, (∀ q, S.Ok q → PE (S.cx q) e t) ∧ EN S t ρ o
section
variable {S : Sig} {ρ ρ1 : Env} {a b c e it tg elt : Expr} {d d1 d2 d3 : D} {ds : List D} {pos p2 : Pos} {pin : List Nat} {es : List Expr} {o : O}
theorem EN.p {t : TE} (h : EN S t ρ o) : EP S t ρ (.ok o.d) := fun σ F H A Q w n q => h σ F H A Q w n fun v F' H' B s w' ow => by
  have w0 : WF F' H' (B ++ []) := by rw [List.append_nil]; exact w'
  have s3 := frz_stp w0
  have s' : Stp F H [] F' H' (B ++ []) := by rw [List.append_nil]; exact s
  exact q v (frz F' H' B) H' ⟨s'.trans s3, (frz_wf w0).sub⟩ (ow.frz (S := B) s3.fs fun _ h => h)
theorem XN.p (h : XN S ρ e o) : XP S ρ e (.ok o.d) := let ⟨t, h1, h2⟩ := h; ⟨t, h1, h2.p⟩
theorem beside {K : PySem.W.Frag} {σ : L2.St} {F H F' H' : Hp} {A B : List Addr} (w : WF F H A) (n : Envs K F H σ ρ A) (s : Stp F H [] F' H' B) (w' : WF F' H' B) : WF F' H' (B ++ A) ∧ Stp F H A F' H' (B ++ A) ∧ Envs K F' H' σ ρ A := by
  have nB : ∀ b ∈ B, H b = none := fun b hb => (s.foot b hb).elim (fun z => nomatch z) id
  refine ⟨⟨w'.sub, ?_, ?_, ?_⟩, (s.mono (by simp)).more fun a h => .inl h, n.mono s.fs (S := A) (fun a o h _ => s.keep a o h (by simp)) fun _ h => h⟩
  · refine List.nodup_append.mpr ⟨w'.nd, w.nd, fun x hx y hy e => ?_⟩
    subst e
    exact w.on x hy (imm_none (nB x hx))
  · intro x hx
    rcases List.mem_append.mp hx with hx | hx
    · exact w'.off x hx
    · cases z : F' x with
      | none => rfl
      | some o =>
        rcases s.new x o z with z | z | z
        · rw [w.off x hx] at z; cases z
        · cases z
        · exact absurd z (w.on x hx)
  · intro x hx
    rcases List.mem_append.mp hx with hx | hx
    · exact w'.on x hx
    · exact s.held (by simp) (w.on x hx)
theorem EN.x {t : TE} (h : EN S t ρ o) : EX S t ρ (.ok o ρ) := fun σ F H A Q w n q => h σ F H A Q w n fun v F' H' B s w' ow => by
  obtain ⟨w2, s2, n2⟩ := beside w n s w'
  exact q v F' H' B A w2 s2 ow n2
theorem XN.x (h : XN S ρ e o) : XX S ρ e (.ok o ρ) := let ⟨t, h1, h2⟩ := h; ⟨t, h1, h2.x⟩

/-! ### slots wiped -/
def wipeE (ρ : Env) : List Nat → Env
  | [] => ρ
  | v :: vs => (wipeE ρ vs).set v none
theorem Envs.wipe {K : PySem.W.Frag} {σ : L2.St} {F H : Hp} {A : List Addr} (w : WF F H A) (n : Envs K F H σ ρ A) : ∀ vs : List Nat, ∃ A', Envs K F H (L2.wipe σ vs) (wipeE ρ vs) A' ∧ WF F H A' ∧ ∀ a ∈ A', a ∈ A
  | [] => ⟨A, n, w, fun _ h => h⟩
  | v :: vs => by
    obtain ⟨A1, n1, w1, m1⟩ := Envs.wipe w n vs
    obtain ⟨B, A2, n2, p2⟩ := n1.drop v
    refine ⟨A2, ?_, (w1.perm p2).right, fun a h => m1 a (p2.mem_iff.mpr (List.mem_append_right _ h))⟩
    show Envs K F H ((L2.wipe σ vs).set v none) ((wipeE ρ vs).set v none) A2
    by_cases hv : v < (wipeE ρ vs).length
    · exact n2.any (by rw [List.getElem?_set_self hv])
    · have hl := n2.length
      rw [List.length_set] at hl
      rw [List.set_eq_of_length_le (l := L2.wipe σ vs) (by omega)]
      exact n2

/-! ### a comprehension -/
def relS (scope sc : Scope) : Scope := { scope with names := scope.names.map fun (n, k) => if (k == .free && sc.kind == .function && sc.names.lookup n == some .cell) then (n, .cell) else (n, k) }
/-- where its block stands -/
@[reducible] def Sig.blk (S : Sig) (scope : Scope) : Sig := { S with scope := relS scope S.scope, wx := fun _ _ _ _ => False, st := fun x => scope.names.lookup x == some .cell, hot := none, top := false }
instance {S : Sig} {scope : Scope} [Calm S] : Calm (S.blk scope) := ⟨(Calm.h : S.calm = true)⟩
theorem blk_cx (S : Sig) (q : Rest) (ok : S.Ok q) (scope : Scope) (s : Shared) (H : Hp) (C : Addr) (cl : List (Str × Addr)) (fp : List Addr) :
    ∃ q', (S.blk scope).Ok q' ∧ (S.blk scope).cx q' = (S.cx q).blk s H scope (compEnvC scope cl C (S.cx q).env) fp := by
  refine ⟨⟨q.A, s, H, compEnvC scope cl C (S.cx q).env, (S.cx q).stack, q.stack, fp, fun x => scope.names.lookup x == some .cell, [], fun _ _ => False⟩, ⟨ok.room, ok.hd, (fun _ _ z => nomatch z), (fun z => nomatch z), (fun _ _ ⟨_, _, _, _, _, _, _, _, _, _, _, _, _, _, _, _, z⟩ => z), fun _ h => h, ok.nd, PassesOwn.never⟩, rfl⟩
/-- the tests of a clause -/
def XTs (S : Sig) (ρ : Env) (ifs : List Expr) (b : Bool) : Prop := ∃ t, (∀ q, S.Ok q → PTs (S.cx q) ifs t) ∧ ET S t ρ b
theorem xts_nil : XTs S ρ [] true := ⟨_, fun _ _ => pts_nil, fun σ F H A Q w n q => q F H (Grow.refl w.sub)⟩
theorem xts_one {k : Bool} (h : XT S ρ c k) : XTs S ρ [c] k := let ⟨t, h1, h2⟩ := h; ⟨t, fun q ok => pts_one (h1 q ok), h2⟩
def tAnyTs (S : Sig) (es : List Expr) : TT := fun σ H Q => ∃ t, (∀ q, S.Ok q → PTs (S.cx q) es t) ∧ t σ H Q
theorem pts_any {q : Rest} (ok : S.Ok q) (es : List Expr) : PTs (S.cx q) es (tAnyTs S es) := ⟨fun pins s σ H Q I ⟨t, h, z⟩ => (h q ok).run pins s σ H Q I z⟩
/-- what a target stores lies within own -/
def TgOwn (g : TG) (own : List Nat) : Prop := ∀ v σ H Q, g v σ H Q → g v σ H fun σ' H' => L2.wipe σ' own = L2.wipe σ own ∧ Q σ' H'
theorem wipe_set {σ : L2.St} {x : Option V} {i : Nat} : ∀ {vs : List Nat}, i ∈ vs → L2.wipe (σ.set i x) vs = L2.wipe σ vs
  | [], h => nomatch h
  | v :: vs, h => by
    show (L2.wipe (σ.set i x) vs).set v none = (L2.wipe σ vs).set v none
    by_cases hi : i ∈ vs
    · rw [wipe_set hi]
    · have e : i = v := (List.mem_cons.mp h).resolve_right hi
      subst e
      have comm : ∀ vs : List Nat, i ∉ vs → L2.wipe (σ.set i x) vs = (L2.wipe σ vs).set i x := by
        intro vs
        induction vs with
        | nil => intro _; rfl
        | cons u us ih =>
          intro hn
          have h1 : i ≠ u := fun e => hn (by simp [e])
          have h2 : i ∉ us := fun e => hn (by simp [e])
          show (L2.wipe (σ.set i x) us).set u none = ((L2.wipe σ us).set u none).set i x
          rw [ih h2, List.set_comm _ _ h1]
      rw [comm vs hi, List.set_set]
theorem to_name {i : Nat} {own : List Nat} (h : i ∈ own := by decide) : TgOwn (gName i) own := fun v σ H Q q => ⟨wipe_set h, q⟩
def TgsOwn (g : TGs) (own : List Nat) : Prop := ∀ vs σ H Q, g vs σ H Q → g vs σ H fun σ' H' => L2.wipe σ' own = L2.wipe σ own ∧ Q σ' H'
theorem tos_nil {own : List Nat} : TgsOwn gNil own := fun vs σ H Q ⟨e, q⟩ => ⟨e, rfl, q⟩
theorem tos_cons {i : Nat} {u : TGs} {own : List Nat} (h : i ∈ own) (h' : TgsOwn u own) : TgsOwn (gCons (gName i) u) own := fun vs σ H Q ⟨v, r, e, q⟩ => by
  refine ⟨v, r, e, ?_⟩
  have q1 := h' r _ H Q q
  have e1 : L2.wipe (σ.set i (some v)) own = L2.wipe σ own := wipe_set h
  rw [e1] at q1
  exact q1
theorem to_tup {u : TGs} {own : List Nat} {n : Nat} (h : TgsOwn u own) : TgOwn (gTup S.K n u) own := fun v σ H Q ⟨a, xs, e, ht, hn, q⟩ => ⟨a, xs, e, ht, hn, h xs σ H Q q⟩
theorem wipe_wipe {σ : L2.St} : ∀ {vs : List Nat} (ws : List Nat), (∀ v ∈ vs, v ∈ ws) → L2.wipe (L2.wipe σ vs) ws = L2.wipe σ ws
  | [], ws, _ => rfl
  | v :: vs, ws, h => by
    show L2.wipe ((L2.wipe σ vs).set v none) ws = L2.wipe σ ws
    rw [wipe_set (h v (by simp)), wipe_wipe ws fun u hu => h u (by simp [hu])]
theorem lc_own {J : It} {n : Nat} {G : Hp → Prop} {Y : Nat → Hp → V → Hp → Prop} (w : Walk J n G Y) {g : TG} {tt : TT} {te : TE} {vs : List Nat} {σ : L2.St} {H1 : Hp} {D : Addr} {Qd : Hp → Prop} (ho : TgOwn g vs) (Pv : Nat → Hp → Prop) (h0 : Pv 0 (upd H1 D (.lst []))) (hG : ∀ i H, i ≤ n → Pv i H → G H)
    (hs : ∀ i x H H', i < n → Pv i H → Y i H x H' → g x (L2.wipe σ vs) H' fun σ2 H2 => tt σ2 H2 fun b H3 =>
      if b = true then te σ2 H3 fun y H4 => ∃ acc, H4 D = some (.lst acc) ∧ acc.length < sizeLine ∧ Pv (i + 1) (upd H4 D (.lst (acc ++ [y]))) else Pv (i + 1) H3) (hd : ∀ H, Pv n H → Qd H) :
    ∃ W : Nat → Nat → Hp → Prop, (∃ m, W 0 m (upd H1 D (.lst []))) ∧ ∀ i m H, W i m H →
      (J.stop i H ∧ Qd H) ∨ (J.go i H ∧ ∃ Nx : Hp → Prop, (∀ H', Nx H' → ∃ m', m' < m ∧ W (i + 1) m' H') ∧ ∀ x H', J.yld i H x H' → g x (L2.wipe σ vs) H' fun σ2 H2 => L2.wipe σ2 vs = L2.wipe σ vs ∧ tt σ2 H2 fun b H3 =>
        if b = true then te σ2 H3 fun y H4 => ∃ acc, H4 D = some (.lst acc) ∧ acc.length < sizeLine ∧ Nx (upd H4 D (.lst (acc ++ [y]))) else Nx H3) :=
  lc_it w Pv h0 hG (fun i x H H' hi p y => by
    have z := ho _ _ _ _ (hs i x H H' hi p y)
    rw [wipe_wipe vs fun _ h => h] at z
    exact z) hd
theorem en_lc {α : Type} (xs : List α) (g : α → D) (p : α → Bool) (h : α → D) (own : List Nat) {wi : TI} {tgt : TG} {tt : TT} {te : TE} {S' : Sig} (hK : S'.K = S.K) (ρb : α → Env)
    (hi : ∀ (σ : L2.St) (F H : Hp) (A : List Addr) (R : It → Hp → Prop), WF F H A → Envs S.K F H σ ρ A → (∀ J F' H', Grow F H F' H' → Src S.K J F' (xs.map g) → R J H') → wi σ H R)
    (ho : TgOwn tgt own) (hG : ∀ x ∈ xs, EG S' [] tgt (wipeE ρ own) (g x) (ρb x)) (ht : ∀ x ∈ xs, ET S' tt (ρb x) (p x)) (he : ∀ x ∈ xs, p x = true → EP S' te (ρb x) (.ok (h x))) (hl : xs.length ≤ 1000000) :
    EN S (tLc wi tgt tt te own) ρ (.lst (((xs.filter p).map h).map O.fro)) := fun σ F H A Q w n q => hi σ F H A _ w n fun J F1 H1 gr src => by
  intro D hD
  obtain ⟨G, Y, wk, hG1, hY⟩ := src.h
  rw [List.length_map] at wk hY
  have w1 := gr.wf w
  obtain ⟨A1, n1, w2, m2⟩ := Envs.wipe w1 (gr.envs n) own
  have nDF : F1 D = none := by
    cases z : F1 D with
    | none => rfl
    | some u => rw [gr.ext D u z] at hD; cases hD
  refine lc_own wk ho (fun i H' => ∃ F' acc, WF F' H' [D] ∧ Stp F1 H1 [] F' H' [D] ∧ H' D = some (.lst acc) ∧ Reps S.K F' acc (((xs.take i).filter p).map h)) ?_ ?_ ?_ ?_
  · obtain ⟨s1, w3⟩ := Grow.own1 (o := .lst []) gr.ext hD
    exact ⟨F1, [], w3, s1, upd_same, .nil⟩
  · rintro i H' hi ⟨F', acc, w', s', hd, r'⟩
    exact hG1 H' (s'.fs.trans w'.sub)
  · rintro i v H' H'' hi ⟨F', acc, w', s', hd, r'⟩ y
    obtain ⟨F2, d, hd2, g2, rep⟩ := hY i H' v H'' F' hi s'.fs w'.sub y
    have hx : xs[i]? = some xs[i] := List.getElem?_eq_getElem hi
    have hm : xs[i] ∈ xs := List.getElem_mem hi
    rw [List.getElem?_map, hx] at hd2
    cases hd2
    -- the slots, the list made so far beside them
    have big : ∀ (F3 H3 : Hp), Grow F' H' F3 H3 → WF F3 H3 A1 ∧ Envs S.K F3 H3 (L2.wipe σ own) (wipeE ρ own) A1 ∧ H3 D = some (.lst acc) ∧ WF F3 H3 [D] := fun F3 H3 g3 => by
      obtain ⟨w5, s5, n5⟩ := beside w2 n1 s' w'
      have w6 := g3.wf w5
      exact ⟨w6.right, g3.envs n5, g3.hh _ _ hd, w6.left⟩
    have fin : ∀ (F3 H3 : Hp), Grow F' H' F3 H3 → H3 D = some (.lst acc) := fun F3 H3 g3 => g3.hh _ _ hd
    obtain ⟨w7, n7, _, _⟩ := big F2 H'' g2
    refine hG xs[i] hm (L2.wipe σ own) F2 H'' A1 v _ w7 (by rw [hK]; exact n7) (by rw [hK]; exact rep) fun σ3 A3 w8 m8 n8 p8 => ?_
    refine ht xs[i] hm σ3 F2 H'' A3 _ w8 n8 fun F4 H4 g4 => ?_
    have e1 : xs.take (i + 1) = xs.take i ++ [xs[i]] := by rw [List.take_add_one, hx]; rfl
    cases ep : p xs[i] with
    | false =>
      rw [if_neg (by simp)]
      obtain ⟨_, _, d4, w9⟩ := big F4 H4 (g2.trans g4)
      refine ⟨F4, acc, w9, s'.trans (((g2.trans g4).stp.mono (by simp) (A' := [D])).more (C := [D]) fun a h => .inl h), d4, ?_⟩
      rw [e1, List.filter_append, List.filter_cons_of_neg (by simp [ep]), List.filter_nil, List.append_nil]
      exact r'.mono (g2.trans g4).stp.fs
    | true =>
      rw [if_pos rfl]
      refine he xs[i] hm ep σ3 F4 H4 A3 _ (g4.wf w8) (g4.envs n8) fun y F5 H5 g5 r5 => ?_
      have g6 := (g2.trans g4).trans g5
      obtain ⟨_, _, d5, w9⟩ := big F5 H5 g6
      have rl := r'.length
      rw [List.length_map] at rl
      have rl2 := List.length_filter_le p (xs.take i)
      have rl3 : (xs.take i).length ≤ i := by rw [List.length_take]; omega
      refine ⟨acc, d5, line_lt (by omega), F5, acc ++ [y], ⟨?_, w9.nd, w9.off, ?_⟩, ?_, upd_same, ?_⟩
      · intro a u hu
        rw [upd_ne fun z => by rw [z, w9.off D (by simp)] at hu; cases hu]
        exact w9.sub a u hu
      · intro a ha
        rw [List.mem_singleton.mp ha, upd_same]
        exact fun z => z
      · have s6 : Stp F1 H1 [] F5 H5 [D] := s'.trans ((g6.stp.mono (by simp) (A' := [D])).more (C := [D]) fun a h => .inl h)
        refine ⟨s6.fs, fun a u hu _ => ?_, s6.new, s6.foot, fun a ha => ?_⟩
        · rw [upd_ne (ne_of_none hu hD)]
          exact s6.keep a u hu (by simp)
        · by_cases z : a = D
          · rw [z]; exact hD
          · rw [upd_ne z] at ha; exact s6.alive a ha
      · rw [e1, List.filter_append, List.filter_cons_of_pos ep, List.filter_nil, List.map_append]
        rw [hK] at r5
        exact (r'.mono g6.stp.fs).append (.cons r5 .nil)
  · rintro H' ⟨F', acc, w', s', hd, r'⟩
    rw [List.take_length] at r'
    exact q (.ref D) F' H' [D] (gr.stp.trans s') w' (.lst hd (Owns.fros r'))
section
variable {α : Type} (xs : List α) (g : α → D) (p : α → Bool) (h : α → D) (own : List (Str × Nat)) {scope : Scope} {tgt : TG} {ifs : List Expr} (ρb : α → Env)
theorem lc_of (hi : XI S ρ tg it (xs.map g)) (hg : ∀ q, (S.blk scope).Ok q → PG ((S.blk scope).cx q) tg tgt) (ho : TgOwn tgt (own.map (·.2)))
    (hG : ∀ x ∈ xs, EG (S.blk scope) [] tgt (wipeE ρ (own.map (·.2))) (g x) (ρb x)) (ht : ∀ x ∈ xs, XTs (S.blk scope) (ρb x) ifs (p x)) (he : ∀ x ∈ xs, p x = true → XP (S.blk scope) (ρb x) elt (.ok (h x))) (hl : xs.length ≤ 1000000) (bo : blkC S.N S.scope scope own = true)
    : ∃ (wi : TI) (tt : TT) (te : TE), (∀ q, S.Ok q → PI (S.cx q) tg it wi) ∧ (∀ q, S.Ok q → ∀ (s : Shared) (H : Hp) (C : Addr) (cl : List (Str × Addr)) (fp : List Addr), PG ((S.cx q).blk s H scope (compEnvC scope cl C (S.cx q).env) fp) tg tgt) ∧
      (∀ q, S.Ok q → ∀ (s : Shared) (H : Hp) (C : Addr) (cl : List (Str × Addr)) (fp : List Addr), PTs ((S.cx q).blk s H scope (compEnvC scope cl C (S.cx q).env) fp) ifs tt) ∧
      (∀ q, S.Ok q → ∀ (s : Shared) (H : Hp) (C : Addr) (cl : List (Str × Addr)) (fp : List Addr), PE ((S.cx q).blk s H scope (compEnvC scope cl C (S.cx q).env) fp) elt te) ∧
      EN S (tLc wi tgt tt te (own.map (·.2))) ρ (.lst (((xs.filter p).map h).map O.fro)) := by
  obtain ⟨wi, i1, i2⟩ := hi
  refine ⟨wi, tAnyTs (S.blk scope) ifs, tAnyE (S.blk scope) elt, i1, fun q ok s H C cl fp => ?_, fun q ok s H C cl fp => ?_, fun q ok s H C cl fp => ?_, en_lc (S := S) xs g p h (own.map Prod.snd) (S' := S.blk scope) rfl ρb i2 ho hG (fun x hx => ?_) (fun x hx hp => ?_) hl⟩
  · obtain ⟨q', ok', e⟩ := blk_cx S q ok scope s H C cl fp
    rw [← e]; exact hg q' ok'
  · obtain ⟨q', ok', e⟩ := blk_cx S q ok scope s H C cl fp
    rw [← e]; exact pts_any ok' ifs
  · obtain ⟨q', ok', e⟩ := blk_cx S q ok scope s H C cl fp
    rw [← e]; exact pe_any ok' elt
  · obtain ⟨t, h1, h2⟩ := ht x hx
    exact fun σ F H A Q w n q => ⟨t, h1, h2 σ F H A Q w n q⟩
  · obtain ⟨t, h1, h2⟩ := he x hx hp
    exact fun σ F H A Q w n q => ⟨t, h1, h2 σ F H A Q w n q⟩
theorem xn_lc [Calm S] (hi : XI S ρ tg it (xs.map g)) (hg : ∀ q, (S.blk scope).Ok q → PG ((S.blk scope).cx q) tg tgt) (ho : TgOwn tgt (own.map (·.2)))
    (hG : ∀ x ∈ xs, EG (S.blk scope) [] tgt (wipeE ρ (own.map (·.2))) (g x) (ρb x)) (ht : ∀ x ∈ xs, XTs (S.blk scope) (ρb x) ifs (p x)) (he : ∀ x ∈ xs, p x = true → XP (S.blk scope) (ρb x) elt (.ok (h x))) (hl : xs.length ≤ 1000000) (bo : blkC S.N S.scope scope own = true := by (try dsimp only [sigOf, Sig.blk]); decide +kernel)
    (hs : ∀ (env : PySem.Env) (x : Value), foldedSetIterable it env x = pure x := by intro _ _; rfl) : XN S ρ (.ListComp elt [⟨tg, it, ifs, 0⟩] scope pos) (.lst (((xs.filter p).map h).map O.fro)) := by
  obtain ⟨wi, tt, te, i1, g1, t1, e1, en⟩ := lc_of xs g p h own ρb hi hg ho hG ht he hl bo
  exact ⟨_, fun q ok => pe_lc (X := S.cx q) Calm.h ok.nd (i1 q ok) (blkOk_by bo) (g1 q ok) (t1 q ok) (e1 q ok) (hs _), en⟩
theorem es_set {t : TE} {i : Nat} (h : EX S t ρ (.ok o ρ1)) (hi : i < ρ1.length) (hp : i ∉ pin) : ES S pin (tAsg t (gName i)) ρ (.nx (ρ1.set i (some o))) := fun σ F H A D w n q => h σ F H A _ w n fun v F1 H1 B A1 w1 s1 ow n1 => by
  obtain ⟨A2, n2, w2, m2⟩ := n1.store ow hi w1
  exact q _ _ _ A2 w2 (s1.perm (fun a => Iff.rfl) m2) n2 (Pin.set hp)
/-- y = [..], a local name, on one line: owned; frozen -/
theorem ps_lcO [Calm S] (i : Nat) {y : Str} {py spos : Pos} (hi : XI S ρ tg it (xs.map g)) (hg : ∀ q, (S.blk scope).Ok q → PG ((S.blk scope).cx q) tg tgt) (ho : TgOwn tgt (own.map (·.2)))
    (hG : ∀ x ∈ xs, EG (S.blk scope) [] tgt (wipeE ρ (own.map (·.2))) (g x) (ρb x)) (ht : ∀ x ∈ xs, XTs (S.blk scope) (ρb x) ifs (p x)) (he : ∀ x ∈ xs, p x = true → XP (S.blk scope) (ρb x) elt (.ok (h x))) (hl : xs.length ≤ 1000000)
    (hn : Nat.blt i ρ.length = true := by rfl) (hp : i ∉ pin := by decide) (hN : S.N[i]? = some y := by rfl) (hy : S.scope.names.lookup y = some .local := by rfl) (hsw : ∀ env : PySem.Env, swapsWith (.ListComp elt [⟨tg, it, ifs, 0⟩] scope pos) (some (.Name y py)) spos.line { env with scope := S.scope } = pure true := by intro _; exact sw_true rfl rfl rfl (by decide +kernel)) (bo : blkC S.N S.scope scope own = true := by (try dsimp only [sigOf, Sig.blk]); decide +kernel)
    (hs : ∀ (env : PySem.Env) (x : Value), foldedSetIterable it env x = pure x := by intro _ _; rfl) : XS S pin ρ (.Assign [.Name y py] (.ListComp elt [⟨tg, it, ifs, 0⟩] scope pos) spos) (.nx (ρ.set i (some (.lst (((xs.filter p).map h).map O.fro))))) := by
  obtain ⟨wi, tt, te, i1, g1, t1, e1, en⟩ := lc_of xs g p h own ρb hi hg ho hG ht he hl bo
  exact ⟨_, fun q ok => ps_setLc (X := S.cx q) (i := i) Calm.h ok.nd hN hy (hsw _) (i1 q ok) (blkOk_by bo) (g1 q ok) (t1 q ok) (e1 q ok) (hs _), es_set en.x (Nat.le_of_ble_eq_true hn) hp⟩
theorem ps_lcF [Calm S] (i : Nat) {y : Str} {py spos : Pos} (hi : XI S ρ tg it (xs.map g)) (hg : ∀ q, (S.blk scope).Ok q → PG ((S.blk scope).cx q) tg tgt) (ho : TgOwn tgt (own.map (·.2)))
    (hG : ∀ x ∈ xs, EG (S.blk scope) [] tgt (wipeE ρ (own.map (·.2))) (g x) (ρb x)) (ht : ∀ x ∈ xs, XTs (S.blk scope) (ρb x) ifs (p x)) (he : ∀ x ∈ xs, p x = true → XP (S.blk scope) (ρb x) elt (.ok (h x))) (hl : xs.length ≤ 1000000)
    (hn : Nat.blt i ρ.length = true := by rfl) (hp : i ∉ pin := by decide) (hN : S.N[i]? = some y := by rfl) (hy : S.scope.names.lookup y = some .local := by rfl) (hsw : ∀ env : PySem.Env, swapsWith (.ListComp elt [⟨tg, it, ifs, 0⟩] scope pos) (some (.Name y py)) spos.line { env with scope := S.scope } = pure true := by intro _; exact sw_true rfl rfl rfl (by decide +kernel)) (bo : blkC S.N S.scope scope own = true := by (try dsimp only [sigOf, Sig.blk]); decide +kernel)
    (hs : ∀ (env : PySem.Env) (x : Value), foldedSetIterable it env x = pure x := by intro _ _; rfl) : XS S pin ρ (.Assign [.Name y py] (.ListComp elt [⟨tg, it, ifs, 0⟩] scope pos) spos) (.nx (ρ.set i (some (.fro (.lst ((xs.filter p).map h)))))) := by
  obtain ⟨wi, tt, te, i1, g1, t1, e1, en⟩ := lc_of xs g p h own ρb hi hg ho hG ht he hl bo
  have en2 := en.p.x
  have e2 : O.d (.lst (((xs.filter p).map h).map O.fro)) = .lst ((xs.filter p).map h) := by
    simp only [O.d]; rw [ds_fros]
  rw [e2] at en2
  exact ⟨_, fun q ok => ps_setLc (X := S.cx q) (i := i) Calm.h ok.nd hN hy (hsw _) (i1 q ok) (blkOk_by bo) (g1 q ok) (t1 q ok) (e1 q ok) (hs _), es_set en2 (Nat.le_of_ble_eq_true hn) hp⟩
theorem xp_lc [Calm S] (hi : XI S ρ tg it (xs.map g)) (hg : ∀ q, (S.blk scope).Ok q → PG ((S.blk scope).cx q) tg tgt) (ho : TgOwn tgt (own.map (·.2)))
    (hG : ∀ x ∈ xs, EG (S.blk scope) [] tgt (wipeE ρ (own.map (·.2))) (g x) (ρb x)) (ht : ∀ x ∈ xs, XTs (S.blk scope) (ρb x) ifs (p x)) (he : ∀ x ∈ xs, p x = true → XP (S.blk scope) (ρb x) elt (.ok (h x))) (hl : xs.length ≤ 1000000) (bo : blkC S.N S.scope scope own = true := by (try dsimp only [sigOf, Sig.blk]); decide +kernel)
    (hs : ∀ (env : PySem.Env) (x : Value), foldedSetIterable it env x = pure x := by intro _ _; rfl) : XP S ρ (.ListComp elt [⟨tg, it, ifs, 0⟩] scope pos) (.ok (.lst ((xs.filter p).map h))) := by
  have z := (xn_lc (pos := pos) xs g p h own ρb hi hg ho hG ht he hl bo hs).p
  have e2 : O.d (.lst (((xs.filter p).map h).map O.fro)) = .lst ((xs.filter p).map h) := by
    simp only [O.d]; rw [ds_fros]
  rw [e2] at z
  exact z
end
end
end G

namespace G
open PySem PySem.Spec PyProof.Rows L2
open PySem.W (Datum DatumOrd Tup T3)
open Enc (enc)

/-! ### ends of a def, typed -/
section
variable {T U : Type} [DecidableEq T] [Datum T] [Enc T]
def rF (v : T) : RS := .rt (.fro (enc v)) none
def rO (v : List T) : RS := .rt (.lst ((v.map enc).map O.fro)) none
def rE (f : U → RS) : Except Str U → RS
  | .ok v => f v
  | .error x => .ex x none
def oF (v : T) : Except Str O := .ok (.fro (enc v))
def oO (v : List T) : Except Str O := .ok (.lst ((v.map enc).map O.fro))
def oE (g : U → Except Str O) : Except Str U → Except Str O
  | .ok v => g v
  | .error x => .error x
theorem fits_F {v : T} : Fits (rF v) (oF v) := .rt rfl
theorem fits_O {v : List T} : Fits (rO v) (oO v) := .rt rfl
theorem fits_E {f : U → RS} {g : U → Except Str O} (h : ∀ v, Fits (f v) (g v)) : ∀ r, Fits (rE f r) (oE g r)
  | .ok v => h v
  | .error _ => .ex rfl
theorem term_F {v : T} : Term (rF v) := trivial
theorem term_O {v : List T} : Term (rO v) := trivial
theorem term_E {f : U → RS} (h : ∀ v, Term (f v)) : ∀ r, Term (rE f r)
  | .ok v => h v
  | .error _ => trivial
end
theorem Term.ne {r : RS} (h : Term r) : ∀ ρ, r ≠ .nx ρ := fun ρ e => by subst e; exact h
def bindE {T U : Type} : Except Str T → (T → Except Str U) → Except Str U
  | .ok v, k => k v
  | .error x, _ => .error x
def LO.fin {σ β : Type} (k : σ → β) : LO σ β → β
  | .nx s => k s
  | .bk s => k s
  | .rt b => b

section
variable {S : Sig} {ρ ρ1 : Env} {a b c e it tg : Expr} {d d1 d2 d3 : D} {ds : List D} {pos p2 : Pos} {pin : List Nat} {es : List Expr} {st : Stmt} {ss body : List Stmt} {r : RS} {x : Str}
variable {T U V' : Type}
/-! ### blocks, typed -/
theorem xb_let (f : U → RS) (ρ' : T → Env) (m : T → U) (v : T) (h : XS S pin ρ st (.nx (ρ' v))) (k : ∀ w, w = v → XB S pin (ρ' w) ss (f (m w))) : XB S pin ρ (st :: ss) (f (m v)) := xb_cons h (k v rfl)
theorem xb_ret (f : U → RS) (v : U) (h : XS S pin ρ st (f v)) (ht : Term (f v)) : XB S pin ρ (st :: ss) (f v) := xb_stop h ht.ne
/-- if c: (an end); what follows -/
theorem xb_ifR (f : U → RS) {k : Bool} {A : List Stmt} {v1 v2 : U} (hc : XT S ρ c k) (ha : k = true → XB S pin ρ A (f v1)) (ht : ∀ ρ, f v1 ≠ .nx ρ) (hb : k = false → XB S pin ρ ss (f v2)) : XB S pin ρ (.If c A [] pos :: ss) (f (if k = true then v1 else v2)) := by
  cases k with
  | true => exact xb_stop (xs_if hc ha fun z => nomatch z) ht
  | false => exact xb_cons (xs_if hc (fun z => nomatch z) fun _ => xb_nil) (hb rfl)
/-- if c: .. else: .., both ends -/
theorem xb_if2 (f : U → RS) {k : Bool} {A B : List Stmt} {v1 v2 : U} (hc : XT S ρ c k) (ha : k = true → XB S pin ρ A (f v1)) (hb : k = false → XB S pin ρ B (f v2)) : XB S pin ρ [.If c A B pos] (f (if k = true then v1 else v2)) := by
  cases k with
  | true => exact xb_one (xs_if hc ha fun z => nomatch z)
  | false => exact xb_one (xs_if hc (fun z => nomatch z) hb)
/-- if c: .. else: .., both go on -/
theorem xb_ifj (f : U → RS) (R : T → Env) (m : T → U) {k : Bool} {A B : List Stmt} {s1 s2 : T} (hc : XT S ρ c k) (ha : k = true → XB S pin ρ A (.nx (R s1))) (hb : k = false → XB S pin ρ B (.nx (R s2))) (hk : ∀ w, w = (if k = true then s1 else s2) → XB S pin (R w) ss (f (m w))) :
    XB S pin ρ (.If c A B pos :: ss) (f (m (if k = true then s1 else s2))) := xb_cons (xs_ifj R hc ha hb) (hk _ rfl)
theorem xb_nx (f : U → RS) (v : U) (h : f v = .nx ρ) : XB S pin ρ [] (f v) := h ▸ xb_nil
theorem nx_fr {σ : Type} {R : σ → Env} {fr : U → RS} {s : σ} : (LO.nx s : LO σ U).rs R fr = .nx (R s) := rfl
/-- a loop that is left by its end alone -/
theorem xs_forN [Calm S] {α σ : Type} (xs : List α) (g : α → D) (R : σ → Env) (f : σ → α → σ) (I : Nat → σ → Prop) {tgt : TG} (ρb : σ → α → Env) (s0 : σ)
    (hi : XI S (R s0) tg it (xs.map g)) (hg : ∀ q, S.Ok q → PG (S.cx q) tg tgt) (hG : ∀ s x, EG S pin tgt (R s) (g x) (ρb s x)) (h0 : I 0 s0)
    (hb : ∀ i s x, xs[i]? = some x → I i s → XB S pin (ρb s x) body (.nx (R (f s x))) ∧ I (i + 1) (f s x))
    (hs : ∀ (env : PySem.Env) (x : Value), foldedSetIterable it env x = pure x := by intro _ _; rfl) : XS S pin (R s0) (.For tg it body [] pos) (.nx (R (xs.foldl f s0))) := by
  have h := xs_for (β := Empty) (pos := pos) xs g R (fun s x => .nx (f s x)) (fun b => b.elim) I ρb s0 hi hg hG h0 (fun b => b.elim) (fun i s x hx hI => ⟨(hb i s x hx hI).1, fun s' e => by cases e; exact (hb i s x hx hI).2⟩) hs
  have e : ∀ (xs : List α) (s : σ), forL (β := Empty) (fun s x => .nx (f s x)) xs s = .nx (xs.foldl f s) := by
    intro xs
    induction xs with
    | nil => intro s; rfl
    | cons x xs ih => intro s; exact ih (f s x)
  rw [e] at h
  exact h
theorem inv_foldl {α σ : Type} (f : σ → α → σ) (I : Nat → σ → Prop) : ∀ (xs : List α) (n : Nat) (s : σ), I n s → (∀ i s x, xs[i]? = some x → I (n + i) s → I (n + i + 1) (f s x)) → I (n + xs.length) (xs.foldl f s)
  | [], n, s, h, _ => h
  | x :: xs, n, s, h, k => by
    have h1 := k 0 s x rfl h
    have z := inv_foldl f I xs (n + 1) (f s x) h1 fun i s' x' hx hI => by
      have e1 : n + 1 + i = n + (i + 1) := by omega
      rw [e1] at hI ⊢
      exact k (i + 1) s' x' (by simpa using hx) hI
    have e2 : n + 1 + xs.length = n + (x :: xs).length := by simp; omega
    rw [e2] at z
    exact z
theorem xb_forN [Calm S] (fr : U → RS) {α σ : Type} (xs : List α) (g : α → D) (R : σ → Env) (f : σ → α → σ) (I : Nat → σ → Prop) {tgt : TG} (ρb : σ → α → Env) (s0 : σ) (m : σ → U)
    (hi : XI S (R s0) tg it (xs.map g)) (hg : ∀ q, S.Ok q → PG (S.cx q) tg tgt) (hG : ∀ s x, EG S pin tgt (R s) (g x) (ρb s x)) (h0 : I 0 s0)
    (hI : ∀ i s x, xs[i]? = some x → I i s → I (i + 1) (f s x))
    (hb : ∀ i s x, xs[i]? = some x → I i s → XB S pin (ρb s x) body (.nx (R (f s x))))
    (hk : ∀ w, w = xs.foldl f s0 → I xs.length w → XB S pin (R w) ss (fr (m w)))
    (hs : ∀ (env : PySem.Env) (x : Value), foldedSetIterable it env x = pure x := by intro _ _; rfl) : XB S pin (R s0) (.For tg it body [] pos :: ss) (fr (m (xs.foldl f s0))) :=
  xb_cons (xs_forN xs g R f I ρb s0 hi hg hG h0 (fun i s x hx h => ⟨hb i s x hx h, hI i s x hx h⟩) hs) (hk _ rfl (by
    have := inv_foldl f I xs 0 s0 h0 (fun i s x hx h => by rw [Nat.zero_add] at h ⊢; exact hI i s x hx h)
    rw [Nat.zero_add] at this; exact this))
theorem inv_forL {α σ β : Type} (f : σ → α → LO σ β) (I : Nat → σ → Prop) (J : σ → Prop) (hJ : ∀ n s, I n s → J s) : ∀ (xs : List α) (n : Nat) (s : σ), I n s → (∀ i s x s', xs[i]? = some x → I (n + i) s → f s x = .nx s' → I (n + i + 1) s') → (∀ i s x s', xs[i]? = some x → I (n + i) s → f s x = .bk s' → J s') → ∀ s', forL f xs s = .nx s' → J s'
  | [], n, s, h, _, _, s', e => by cases e; exact hJ n s h
  | x :: xs, n, s, h, k, kb, s', e => by
    unfold forL at e
    cases ef : f s x with
    | nx s1 =>
      rw [ef] at e
      refine inv_forL f I J hJ xs (n + 1) s1 (k 0 s x s1 rfl h ef) (fun i s2 x2 s3 hx hI hf => ?_) (fun i s2 x2 s3 hx hI hf => ?_) s' e
      · have e1 : n + 1 + i = n + (i + 1) := by omega
        rw [e1] at hI ⊢
        exact k (i + 1) s2 x2 s3 (by simpa using hx) hI hf
      · have e1 : n + 1 + i = n + (i + 1) := by omega
        rw [e1] at hI
        exact kb (i + 1) s2 x2 s3 (by simpa using hx) hI hf
    | bk s1 =>
      rw [ef] at e
      cases e
      exact kb 0 s x s' rfl h ef
    | rt b => rw [ef] at e; cases e
/-- a loop that may end the def -/
theorem xb_for [Calm S] (fr : U → RS) (hfr : ∀ b, Term (fr b)) {α σ : Type} (xs : List α) (g : α → D) (R : σ → Env) (f : σ → α → LO σ U) (I : Nat → σ → Prop) {tgt : TG} (ρb : σ → α → Env) (s0 : σ) (m : σ → U)
    (hi : XI S (R s0) tg it (xs.map g)) (hg : ∀ q, S.Ok q → PG (S.cx q) tg tgt) (hG : ∀ s x, EG S pin tgt (R s) (g x) (ρb s x)) (h0 : I 0 s0)
    (hI : ∀ i s x s', xs[i]? = some x → I i s → f s x = .nx s' → I (i + 1) s')
    (hb : ∀ i s x, xs[i]? = some x → I i s → XB S pin (ρb s x) body ((f s x).rs R fr))
    (hk : ∀ w, forL f xs s0 = .nx w → XB S pin (R w) ss (fr (m w)))
    (hs : ∀ (env : PySem.Env) (x : Value), foldedSetIterable it env x = pure x := by intro _ _; rfl) : XB S pin (R s0) (.For tg it body [] pos :: ss) (fr ((forL f xs s0).fin m)) := by
  have h := xs_for (pos := pos) xs g R f fr I ρb s0 hi hg hG h0 hfr (fun i s x hx h => ⟨hb i s x hx h, fun s' e => hI i s x s' hx h e⟩) hs
  cases e : forL f xs s0 with
  | nx w =>
    rw [e] at h
    exact xb_cons h (hk w e)
  | bk w =>
    have nb : ∀ (xs : List α) (s : σ), forL f xs s ≠ .bk w := by
      intro xs
      induction xs with
      | nil => intro s z; cases z
      | cons x xs ih =>
        intro s z
        unfold forL at z
        cases ef : f s x with
        | nx s1 => rw [ef] at z; exact ih s1 z
        | bk s1 => rw [ef] at z; cases z
        | rt b => rw [ef] at z; cases z
    exact absurd e (nb xs s0)
  | rt b =>
    rw [e] at h
    exact xb_stop h (hfr b).ne
/-- while -/
theorem xb_while (fr : U → RS) (hfr : ∀ b, Term (fr b)) {σ : Type} {cond : Expr} (R : σ → Env) (cc : σ → Bool) (f : σ → LO σ U) (I : σ → Prop) (s0 : σ) (n : Nat) {o : LO σ U} (m : σ → U) (ho : whL cc f n s0 = some o) (h0 : I s0)
    (hc : ∀ s, I s → XT S (R s) cond (cc s)) (hI : ∀ s s', I s → cc s = true → f s = .nx s' → I s') (hb : ∀ s, I s → cc s = true → XB S pin (R s) body ((f s).rs R fr))
    (hk : ∀ w, o = .nx w → XB S pin (R w) ss (fr (m w))) : XB S pin (R s0) (.While cond body [] pos :: ss) (fr (o.fin m)) := by
  have h := xs_while (pos := pos) R cc f fr I s0 n ho h0 hfr hc fun s hs hcs => ⟨hb s hs hcs, fun s' e => hI s s' hs hcs e⟩
  cases o with
  | nx w => exact xb_cons h (hk w rfl)
  | bk w =>
    have nb : ∀ (n : Nat) (s : σ), whL cc f n s ≠ some (.bk w) := by
      intro n
      induction n with
      | zero => intro s z; cases z
      | succ n ih =>
        intro s z
        unfold whL at z
        split at z
        · cases ef : f s with
          | nx s1 => rw [ef] at z; exact ih s1 z
          | bk s1 => rw [ef] at z; cases z
          | rt b => rw [ef] at z; cases z
        · cases z
    exact absurd ho (nb n s0)
  | rt b => exact xb_stop h (hfr b).ne
/-- f(..), that may raise, alone -/
theorem xb_exprE (f : U → RS) (m : T → Except Str U) {r : Except Str T} {g : T → Except Str O} (h : XX S ρ e (exX ρ (oE g r))) (hg : ∀ v, ∃ o, g v = .ok o) (k : ∀ w, r = .ok w → XB S pin ρ ss (rE f (m w))) (hs : ∀ env : PySem.Env, swapsWith e none pos.line env = pure false := by intro _; rfl) :
    XB S pin ρ (.Expr e pos :: ss) (rE f (bindE r m)) := by
  cases r with
  | ok v =>
    obtain ⟨o, e1⟩ := hg v
    have h' : XX S ρ e (.ok o ρ) := by
      have : oE g (.ok v) = .ok o := e1
      rw [this] at h
      exact h
    exact xb_cons (xs_expr h' hs) (k v rfl)
  | error x => exact xb_stop (xs_exprE h (.inl rfl) hs) fun ρ z => nomatch z
/-- x = f(..), that may raise; the answer frozen -/
theorem xb_letE (f : U → RS) (i : Nat) {y : Str} {p' : Pos} (ρ' : T → Env) (m : T → Except Str U) {r : Except Str T} {g : T → Except Str D} (h : XP S ρ e (match r with | .ok v => g v | .error x => .error x)) (hg : ∀ v, ∃ d, g v = .ok d ∧ ρ' v = ρ.set i (some (.fro d))) (k : ∀ w, r = .ok w → XB S pin (ρ' w) ss (rE f (m w)))
    (hi : Nat.blt i ρ.length = true := by rfl) (hp : i ∉ pin := by decide) (hN : S.N[i]? = some y := by rfl) (hx : Loc S.scope y := by first | exact .inl rfl | exact .inr rfl) (hst : S.st y = true ∨ S.scope.names.lookup y = some .local := by first | exact .inl rfl | exact .inr rfl)
    (hs : ∀ env : PySem.Env, swapsWith e (some (.Name y p')) pos.line { env with scope := S.scope } = pure false := by intro _; rfl) : XB S pin ρ (.Assign [.Name y p'] e pos :: ss) (rE f (bindE r m)) := by
  cases r with
  | ok v =>
    obtain ⟨d, e1, e2⟩ := hg v
    have h' : XP S ρ e (.ok d) := h.cast e1
    exact xb_cons ((xs_setF (pin := pin) i h' hi hp hN hx hst hs).cast (by rw [e2])) (k v rfl)
  | error x => exact xb_stop (xs_setE i h.xe (.inl rfl) hN hx hst hs) fun ρ z => nomatch z
end

/-! ### targets, in short -/
section
variable {S : Sig} {pos : Pos}
abbrev TG1 (S : Sig) (tg : Expr) (g : TG) : Prop := ∀ q, S.Ok q → PG (S.cx q) tg g
abbrev TGN (S : Sig) (tgs : List Expr) (g : TGs) : Prop := ∀ q, S.Ok q → PGs (S.cx q) tgs g
theorem tg_n (i : Nat) {x : Str} (hN : S.N[i]? = some x := by rfl) (hx : Loc S.scope x := by first | exact .inl rfl | exact .inr rfl) (hst : S.st x = true ∨ S.scope.names.lookup x = some .local := by first | exact .inl rfl | exact .inr rfl) : TG1 S (.Name x pos) (gName i) := fun q ok => pg_name (X := S.cx q) (i := i) ok.nd hN hx (hst.elim (fun z => .inl (ok.fn x z)) .inr)
theorem tgs_0 : TGN S [] gNil := fun q ok => pgs_nil
theorem tgs_1 {e : Expr} {es : List Expr} {t : TG} {u : TGs} (h1 : TG1 S e t) (h2 : TGN S es u) (hs : ∀ env : PySem.Env, (assignEach (e :: es) env).map (·.2) = assign e env :: (assignEach es env).map (·.2) := by intro _; rfl) : TGN S (e :: es) (gCons t u) := fun q ok => pgs_cons (h1 q ok) (h2 q ok) (hs _)
theorem tg_t [Calm S] {es : List Expr} {k : Nat} {t : TGs} {n : Nat} (h : TGN S es t) (hn : ∀ env : PySem.Env, (assignEach es env).length = n := by intro _; rfl) (hst : ∀ env : PySem.Env, (assignEach es env).findIdx? (·.1) = none := by intro _; rfl) : TG1 S (.Tuple es k pos) (gTup S.K n t) := fun q ok => pg_tup (X := S.cx q) Calm.h (h q ok) (hn _) (hst _)
end
/-! ### expressions, typed -/
section
variable {S : Sig} {ρ ρ1 : Env} {a b c e it tg elt : Expr} {pos p2 : Pos} {pin : List Nat} {es : List Expr}
abbrev TP {T : Type} [DecidableEq T] [Datum T] [Enc T] (S : Sig) (ρ : Env) (e : Expr) (v : T) : Prop := XP S ρ e (.ok (enc v))
abbrev TV {T : Type} [DecidableEq T] [Datum T] [Enc T] (S : Sig) (ρ : Env) (e : Expr) (v : T) : Prop := XV S ρ e (enc v)
section
variable {i j : Int}
theorem tp_add (ha : TP S ρ a i) (hb : TP S ρ b j) : TP S ρ (.BinOp a .Add b pos) (i + j) := xp_bin ob_add ha.v hb.v
theorem tp_sub (ha : TP S ρ a i) (hb : TP S ρ b j) : TP S ρ (.BinOp a .Sub b pos) (i - j) := xp_bin ob_sub ha.v hb.v
theorem tp_mul (ha : TP S ρ a i) (hb : TP S ρ b j) (h : (-(2 ^ 64) < i ∧ i < 2 ^ 64) ∨ (-(2 ^ 64) < j ∧ j < 2 ^ 64)) : TP S ρ (.BinOp a .Mult b pos) (i * j) := xp_bin (ob_mul h) ha.v hb.v
theorem tp_div (ha : TP S ρ a i) (hb : TP S ρ b j) (h : 0 < j ∧ j < 1073741824) : TP S ρ (.BinOp a .FloorDiv b pos) (i / j) := xp_bin (ob_div h) ha.v hb.v
theorem tp_mod (ha : TP S ρ a i) (hb : TP S ρ b j) (h : 0 < j) : TP S ρ (.BinOp a .Mod b pos) (i % j) := xp_bin (ob_mod h) ha.v hb.v
theorem tp_pow (ha : TP S ρ a i) (hb : TP S ρ b j) (h : 0 ≤ j ∧ j ≤ 1000000 ∧ i.natAbs < 2 ^ 64) : TP S ρ (.BinOp a .Pow b pos) (i ^ j.toNat) := xp_bin (ob_pow h) ha.v hb.v
theorem tp_neg (ha : TP S ρ a i) : TP S ρ (.UnaryOp .USub a pos) (-i) := xp_neg ha
theorem tp_int {j} : TP S ρ (.Constant (.int i) j pos) i := xp_int
theorem tt_lt (ha : TP S ρ a i) (hb : TP S ρ b j) : XT S ρ (.Compare a [.Lt] [b] pos) (decide (i < j)) := xt_cmp oc_lt ha.v hb.v
theorem tt_le (ha : TP S ρ a i) (hb : TP S ρ b j) : XT S ρ (.Compare a [.LtE] [b] pos) (decide (i ≤ j)) := xt_cmp oc_le ha.v hb.v
theorem tt_gt (ha : TP S ρ a i) (hb : TP S ρ b j) : XT S ρ (.Compare a [.Gt] [b] pos) (decide (j < i)) := xt_cmp oc_gt ha.v hb.v
theorem tt_ge (ha : TP S ρ a i) (hb : TP S ρ b j) : XT S ρ (.Compare a [.GtE] [b] pos) (decide (j ≤ i)) := xt_cmp oc_ge ha.v hb.v
theorem tp_lt (ha : TP S ρ a i) (hb : TP S ρ b j) : TP S ρ (.Compare a [.Lt] [b] pos) (decide (i < j)) := xp_cmp oc_lt ha.v hb.v
theorem tp_le (ha : TP S ρ a i) (hb : TP S ρ b j) : TP S ρ (.Compare a [.LtE] [b] pos) (decide (i ≤ j)) := xp_cmp oc_le ha.v hb.v
theorem tp_gt (ha : TP S ρ a i) (hb : TP S ρ b j) : TP S ρ (.Compare a [.Gt] [b] pos) (decide (j < i)) := xp_cmp oc_gt ha.v hb.v
theorem tp_ge (ha : TP S ρ a i) (hb : TP S ρ b j) : TP S ρ (.Compare a [.GtE] [b] pos) (decide (j ≤ i)) := xp_cmp oc_ge ha.v hb.v
end
section
variable {T T' U : Type} [DecidableEq T] [Datum T] [Enc T] [DecidableEq T'] [Datum T'] [Enc T'] {u v : T}
theorem tt_eq (ha : TV S ρ a u) (hb : TV S ρ b v) (hd : Datum.depth T ≤ 64 := by decide) : XT S ρ (.Compare a [.Eq] [b] pos) (decide (u = v)) := xt_cmp (oc_eq hd) ha hb
theorem tt_ne (ha : TV S ρ a u) (hb : TV S ρ b v) (hd : Datum.depth T ≤ 64 := by decide) : XT S ρ (.Compare a [.NotEq] [b] pos) (!decide (u = v)) := xt_cmp (oc_ne hd) ha hb
theorem tp_eq (ha : TV S ρ a u) (hb : TV S ρ b v) (hd : Datum.depth T ≤ 64 := by decide) : TP S ρ (.Compare a [.Eq] [b] pos) (decide (u = v)) := xp_cmp (oc_eq hd) ha hb
theorem tp_ne (ha : TV S ρ a u) (hb : TV S ρ b v) (hd : Datum.depth T ≤ 64 := by decide) : TP S ρ (.Compare a [.NotEq] [b] pos) (!decide (u = v)) := xp_cmp (oc_ne hd) ha hb
theorem tt_in {xs : List T} (ha : TV S ρ a u) (hb : TV S ρ b xs) (hd : Datum.depth T ≤ 63 := by decide) (hm : behindInMarks .In b = false := by rfl) : XT S ρ (.Compare a [.In] [b] pos) (decide (u ∈ xs)) := xt_cmp (oc_in hd) ha hb hm
theorem tt_ni {xs : List T} (ha : TV S ρ a u) (hb : TV S ρ b xs) (hd : Datum.depth T ≤ 63 := by decide) (hm : behindInMarks .NotIn b = false := by rfl) : XT S ρ (.Compare a [.NotIn] [b] pos) (!decide (u ∈ xs)) := xt_cmp (oc_notin hd) ha hb hm
theorem tp_in {xs : List T} (ha : TV S ρ a u) (hb : TV S ρ b xs) (hd : Datum.depth T ≤ 63 := by decide) (hm : behindInMarks .In b = false := by rfl) : TP S ρ (.Compare a [.In] [b] pos) (decide (u ∈ xs)) := xp_cmp (oc_in hd) ha hb hm
theorem tp_ni {xs : List T} (ha : TV S ρ a u) (hb : TV S ρ b xs) (hd : Datum.depth T ≤ 63 := by decide) (hm : behindInMarks .NotIn b = false := by rfl) : TP S ρ (.Compare a [.NotIn] [b] pos) (!decide (u ∈ xs)) := xp_cmp (oc_notin hd) ha hb hm
theorem tt_inT {xs : Tup T} (ha : TV S ρ a u) (hb : TV S ρ b xs) (hd : Datum.depth T ≤ 63 := by decide) (hm : behindInMarks .In b = false := by rfl) : XT S ρ (.Compare a [.In] [b] pos) (decide (u ∈ xs.items)) := xt_cmp (oc_inT hd) ha hb hm
theorem tt_niT {xs : Tup T} (ha : TV S ρ a u) (hb : TV S ρ b xs) (hd : Datum.depth T ≤ 63 := by decide) (hm : behindInMarks .NotIn b = false := by rfl) : XT S ρ (.Compare a [.NotIn] [b] pos) (!decide (u ∈ xs.items)) := xt_cmp (oc_notinT hd) ha hb hm
theorem tp_inT {xs : Tup T} (ha : TV S ρ a u) (hb : TV S ρ b xs) (hd : Datum.depth T ≤ 63 := by decide) (hm : behindInMarks .In b = false := by rfl) : TP S ρ (.Compare a [.In] [b] pos) (decide (u ∈ xs.items)) := xp_cmp (oc_inT hd) ha hb hm
theorem tp_niT {xs : Tup T} (ha : TV S ρ a u) (hb : TV S ρ b xs) (hd : Datum.depth T ≤ 63 := by decide) (hm : behindInMarks .NotIn b = false := by rfl) : TP S ρ (.Compare a [.NotIn] [b] pos) (!decide (u ∈ xs.items)) := xp_cmp (oc_notinT hd) ha hb hm
/-- a op b op c -/
theorem tt_ch {op op' : CmpOp} {T'' : Type} [DecidableEq T''] [Datum T''] [Enc T''] {w : T'} {z : T''} {k k' : Bool} (ho : OC S op (enc u) (enc w) k) (ho' : OC S op' (enc w) (enc z) k') (ha : TP S ρ a u) (hb : TP S ρ b w) (hc : TP S ρ c z) (hm : lastMarks [op, op'] [b, c] = false := by with_unfolding_all rfl) : XT S ρ (.Compare a [op, op'] [b, c] pos) (k && k') := xt_chain ho ho' ha.v hb.v hc.v hm
theorem tp_ch {op op' : CmpOp} {T'' : Type} [DecidableEq T''] [Datum T''] [Enc T''] {w : T'} {z : T''} {k k' : Bool} (ho : OC S op (enc u) (enc w) k) (ho' : OC S op' (enc w) (enc z) k') (ha : TP S ρ a u) (hb : TP S ρ b w) (hc : TP S ρ c z) (hm : lastMarks [op, op'] [b, c] = false := by with_unfolding_all rfl) : TP S ρ (.Compare a [op, op'] [b, c] pos) (k && k') := xp_chain ho ho' ha.v hb.v hc.v hm
/-- items -/
theorem tp_ixL {xs : List T} {i : Int} (ha : TP S ρ a xs) (hb : TP S ρ b i) (h : atI xs i = some v) (hs : PlainIx b := by intro _ _; rfl) : TP S ρ (.Subscript a b pos) v := xp_ix (oi_lst (by rw [atI_map, h]; rfl)) ha hb hs
theorem tp_ixT {xs : Tup T} {i : Int} (ha : TP S ρ a xs) (hb : TP S ρ b i) (h : atI xs.items i = some v) (hs : PlainIx b := by intro _ _; rfl) : TP S ρ (.Subscript a b pos) v := xp_ix (oi_tup (by rw [atI_map, h]; rfl)) ha hb hs
theorem tp_ix2a {p : T × T'} (ha : TP S ρ a p) {j} {pos'} : TP S ρ (.Subscript a (.Constant (.int 0) j pos') pos) p.1 := xp_ix (oi_tup (i := 0) rfl) ha xp_int
theorem tp_ix2b {p : T × T'} (ha : TP S ρ a p) {j} {pos'} : TP S ρ (.Subscript a (.Constant (.int 1) j pos') pos) p.2 := xp_ix (oi_tup (i := 1) rfl) ha xp_int
theorem tp_ix3a {T'' : Type} [DecidableEq T''] [Datum T''] [Enc T''] {p : T3 T T' T''} (ha : TP S ρ a p) {j} {pos'} : TP S ρ (.Subscript a (.Constant (.int 0) j pos') pos) p.a := xp_ix (oi_tup (i := 0) rfl) ha xp_int
theorem tp_ix3b {T'' : Type} [DecidableEq T''] [Datum T''] [Enc T''] {p : T3 T T' T''} (ha : TP S ρ a p) {j} {pos'} : TP S ρ (.Subscript a (.Constant (.int 1) j pos') pos) p.b := xp_ix (oi_tup (i := 1) rfl) ha xp_int
theorem tp_ix3c {T'' : Type} [DecidableEq T''] [Datum T''] [Enc T''] {p : T3 T T' T''} (ha : TP S ρ a p) {j} {pos'} : TP S ρ (.Subscript a (.Constant (.int 2) j pos') pos) p.c := xp_ix (oi_tup (i := 2) rfl) ha xp_int
/-- made -/
theorem tp_2 {p : T} {q : T'} (h : XA S ρ es [enc p, enc q]) {k} : TP S ρ (.Tuple es k pos) (p, q) := xp_tup h
theorem tp_3 {T'' : Type} [DecidableEq T''] [Datum T''] [Enc T''] {p : T} {q : T'} {r : T''} (h : XA S ρ es [enc p, enc q, enc r]) {k} : TP S ρ (.Tuple es k pos) (T3.mk p q r) := xp_tup h
theorem tp_catL {xs ys : List T} (ha : TP S ρ a xs) (hb : TP S ρ b ys) (h : xs.length + ys.length ≤ 1000000) : TP S ρ (.BinOp a .Add b pos) (xs ++ ys) := (xp_binF (ob_cat (by simpa using h)) ha hb).cast (by show _ = Except.ok (D.lst ((xs ++ ys).map enc)); rw [List.map_append])
theorem tp_catT {xs ys : Tup T} (ha : TP S ρ a xs) (hb : TP S ρ b ys) (h : xs.items.length + ys.items.length ≤ 1000000) : TP S ρ (.BinOp a .Add b pos) (Tup.mk (xs.items ++ ys.items)) := (xp_binF (ob_catT (by simpa using h)) ha hb).cast (by show _ = Except.ok (D.tup ((xs.items ++ ys.items).map enc)); rw [List.map_append])
theorem tp_slL {xs : List T} {el eh : Option Expr} {lo hi : Option Int} (ha : TP S ρ a xs) (hl : XO S ρ el lo) (hh : XO S ρ eh hi) : TP S ρ (.Subscript a (.Slice el eh none p2) pos) (cutL xs lo hi) := (xp_slL ha hl hh).cast (by show _ = Except.ok (D.lst ((cutL xs lo hi).map enc)); rw [cutL_map])
theorem tp_slT {xs : Tup T} {el eh : Option Expr} {lo hi : Option Int} (ha : TP S ρ a xs) (hl : XO S ρ el lo) (hh : XO S ρ eh hi) : TP S ρ (.Subscript a (.Slice el eh none p2) pos) (Tup.mk (cutL xs.items lo hi)) := (xp_slT ha hl hh).cast (by show _ = Except.ok (D.tup ((cutL xs.items lo hi).map enc)); rw [cutL_map])
theorem tp_if {k : Bool} (ht : XT S ρ c k) (ha : k = true → TP S ρ a u) (hb : k = false → TP S ρ b v) : TP S ρ (.IfExp c a b pos) (if k = true then u else v) := by
  cases k with
  | true => exact xp_if ht ha fun z => nomatch z
  | false => exact xp_if ht (fun z => nomatch z) hb
end
section
variable {α T : Type} [DecidableEq T] [Datum T] [Enc T] (xs : List α) (g : α → D) (p : α → Bool) (f : α → T) (own : List (Str × Nat)) {scope : Scope} {tgt : TG} {ifs : List Expr} (ρb : α → Env)
theorem map_enc {l : List α} : l.map (fun x => enc (f x)) = (l.map f).map enc := by rw [List.map_map]; rfl
theorem tp_lc [Calm S] (hi : XI S ρ tg it (xs.map g)) (hg : ∀ q, (S.blk scope).Ok q → PG ((S.blk scope).cx q) tg tgt) (ho : TgOwn tgt (own.map (·.2)))
    (hG : ∀ x ∈ xs, EG (S.blk scope) [] tgt (wipeE ρ (own.map (·.2))) (g x) (ρb x)) (ht : ∀ x ∈ xs, XT (S.blk scope) (ρb x) c (p x)) (he : ∀ x ∈ xs, p x = true → TP (S.blk scope) (ρb x) elt (f x)) (hl : xs.length ≤ 1000000) (bo : blkC S.N S.scope scope own = true := by (try dsimp only [sigOf, Sig.blk]); decide +kernel)
    (hs : ∀ (env : PySem.Env) (x : Value), foldedSetIterable it env x = pure x := by intro _ _; rfl) : TP S ρ (.ListComp elt [⟨tg, it, [c], 0⟩] scope pos) ((xs.filter p).map f) :=
  (xp_lc xs g p (fun x => enc (f x)) own ρb hi hg ho hG (fun x hx => xts_one (ht x hx)) he hl bo hs).cast (by rw [map_enc]; rfl)
theorem tp_lcm [Calm S] (hi : XI S ρ tg it (xs.map g)) (hg : ∀ q, (S.blk scope).Ok q → PG ((S.blk scope).cx q) tg tgt) (ho : TgOwn tgt (own.map (·.2)))
    (hG : ∀ x ∈ xs, EG (S.blk scope) [] tgt (wipeE ρ (own.map (·.2))) (g x) (ρb x)) (he : ∀ x ∈ xs, TP (S.blk scope) (ρb x) elt (f x)) (hl : xs.length ≤ 1000000) (bo : blkC S.N S.scope scope own = true := by (try dsimp only [sigOf, Sig.blk]); decide +kernel)
    (hs : ∀ (env : PySem.Env) (x : Value), foldedSetIterable it env x = pure x := by intro _ _; rfl) : TP S ρ (.ListComp elt [⟨tg, it, [], 0⟩] scope pos) (xs.map f) :=
  (xp_lc xs g (fun _ => true) (fun x => enc (f x)) own ρb hi hg ho hG (fun x hx => xts_nil) (fun x hx _ => he x hx) hl bo hs).cast (by rw [map_enc, List.filter_eq_self.mpr (by simp)]; rfl)
theorem ts_lc [Calm S] (i : Nat) {y : Str} {py spos : Pos} (hi : XI S ρ tg it (xs.map g)) (hg : ∀ q, (S.blk scope).Ok q → PG ((S.blk scope).cx q) tg tgt) (ho : TgOwn tgt (own.map (·.2)))
    (hG : ∀ x ∈ xs, EG (S.blk scope) [] tgt (wipeE ρ (own.map (·.2))) (g x) (ρb x)) (ht : ∀ x ∈ xs, XT (S.blk scope) (ρb x) c (p x)) (he : ∀ x ∈ xs, p x = true → TP (S.blk scope) (ρb x) elt (f x)) (hl : xs.length ≤ 1000000)
    (hn : Nat.blt i ρ.length = true := by rfl) (hp : i ∉ pin := by decide) (hN : S.N[i]? = some y := by rfl) (hy : S.scope.names.lookup y = some .local := by rfl) (hsw : ∀ env : PySem.Env, swapsWith (.ListComp elt [⟨tg, it, [c], 0⟩] scope pos) (some (.Name y py)) spos.line { env with scope := S.scope } = pure true := by intro _; exact sw_true rfl rfl rfl (by decide +kernel)) (bo : blkC S.N S.scope scope own = true := by (try dsimp only [sigOf, Sig.blk]); decide +kernel)
    (hs : ∀ (env : PySem.Env) (x : Value), foldedSetIterable it env x = pure x := by intro _ _; rfl) : XS S pin ρ (.Assign [.Name y py] (.ListComp elt [⟨tg, it, [c], 0⟩] scope pos) spos) (.nx (ρ.set i (some (.fro (enc ((xs.filter p).map f)))))) :=
  (ps_lcF xs g p (fun x => enc (f x)) own ρb i hi hg ho hG (fun x hx => xts_one (ht x hx)) he hl hn hp hN hy hsw bo hs).cast (by rw [map_enc]; rfl)
theorem ts_lcm [Calm S] (i : Nat) {y : Str} {py spos : Pos} (hi : XI S ρ tg it (xs.map g)) (hg : ∀ q, (S.blk scope).Ok q → PG ((S.blk scope).cx q) tg tgt) (ho : TgOwn tgt (own.map (·.2)))
    (hG : ∀ x ∈ xs, EG (S.blk scope) [] tgt (wipeE ρ (own.map (·.2))) (g x) (ρb x)) (he : ∀ x ∈ xs, TP (S.blk scope) (ρb x) elt (f x)) (hl : xs.length ≤ 1000000)
    (hn : Nat.blt i ρ.length = true := by rfl) (hp : i ∉ pin := by decide) (hN : S.N[i]? = some y := by rfl) (hy : S.scope.names.lookup y = some .local := by rfl) (hsw : ∀ env : PySem.Env, swapsWith (.ListComp elt [⟨tg, it, [], 0⟩] scope pos) (some (.Name y py)) spos.line { env with scope := S.scope } = pure true := by intro _; exact sw_true rfl rfl rfl (by decide +kernel)) (bo : blkC S.N S.scope scope own = true := by (try dsimp only [sigOf, Sig.blk]); decide +kernel)
    (hs : ∀ (env : PySem.Env) (x : Value), foldedSetIterable it env x = pure x := by intro _ _; rfl) : XS S pin ρ (.Assign [.Name y py] (.ListComp elt [⟨tg, it, [], 0⟩] scope pos) spos) (.nx (ρ.set i (some (.fro (enc (xs.map f)))))) :=
  (ps_lcF xs g (fun _ => true) (fun x => enc (f x)) own ρb i hi hg ho hG (fun x hx => xts_nil) (fun x hx _ => he x hx) hl hn hp hN hy hsw bo hs).cast (by rw [map_enc, List.filter_eq_self.mpr (by simp)]; rfl)
/-- owned -/
theorem tn_lc [Calm S] (hi : XI S ρ tg it (xs.map g)) (hg : ∀ q, (S.blk scope).Ok q → PG ((S.blk scope).cx q) tg tgt) (ho : TgOwn tgt (own.map (·.2)))
    (hG : ∀ x ∈ xs, EG (S.blk scope) [] tgt (wipeE ρ (own.map (·.2))) (g x) (ρb x)) (ht : ∀ x ∈ xs, XT (S.blk scope) (ρb x) c (p x)) (he : ∀ x ∈ xs, p x = true → TP (S.blk scope) (ρb x) elt (f x)) (hl : xs.length ≤ 1000000) (bo : blkC S.N S.scope scope own = true := by (try dsimp only [sigOf, Sig.blk]); decide +kernel)
    (hs : ∀ (env : PySem.Env) (x : Value), foldedSetIterable it env x = pure x := by intro _ _; rfl) : XN S ρ (.ListComp elt [⟨tg, it, [c], 0⟩] scope pos) (.lst ((((xs.filter p).map f).map enc).map O.fro)) := by
  rw [← map_enc]; exact xn_lc xs g p (fun x => enc (f x)) own ρb hi hg ho hG (fun x hx => xts_one (ht x hx)) he hl bo hs
theorem tn_lcm [Calm S] (hi : XI S ρ tg it (xs.map g)) (hg : ∀ q, (S.blk scope).Ok q → PG ((S.blk scope).cx q) tg tgt) (ho : TgOwn tgt (own.map (·.2)))
    (hG : ∀ x ∈ xs, EG (S.blk scope) [] tgt (wipeE ρ (own.map (·.2))) (g x) (ρb x)) (he : ∀ x ∈ xs, TP (S.blk scope) (ρb x) elt (f x)) (hl : xs.length ≤ 1000000) (bo : blkC S.N S.scope scope own = true := by (try dsimp only [sigOf, Sig.blk]); decide +kernel)
    (hs : ∀ (env : PySem.Env) (x : Value), foldedSetIterable it env x = pure x := by intro _ _; rfl) : XN S ρ (.ListComp elt [⟨tg, it, [], 0⟩] scope pos) (.lst (((xs.map f).map enc).map O.fro)) := by
  rw [← map_enc]
  have := xn_lc (pos := pos) xs g (fun _ => true) (fun x => enc (f x)) own ρb hi hg ho hG (fun x hx => xts_nil) (fun x hx _ => he x hx) hl bo hs
  rw [List.filter_eq_self.mpr (by simp)] at this
  exact this
end
end
end G

namespace G
open PySem PySem.Spec PyProof.Rows L2
open PySem.W (Datum DatumOrd Tup T3)
open Enc (enc)
variable {K : PySem.W.Frag}

/-! ### places within what is owned -/
theorem perm_mid {A B C D : List Addr} (h : A.Perm (B ++ C)) : (D ++ A).Perm (B ++ (D ++ C)) := by
  refine (List.Perm.append_left D h).trans ?_
  rw [← List.append_assoc, ← List.append_assoc]
  exact List.Perm.append_right C List.perm_append_comm
theorem Owns.foc {F H : Hp} : ∀ {vs : List V} {os : List O} {A : List Addr} {j : Nat} {o : O}, Owns K F H vs os A → os[j]? = some o → ∃ v B C, vs[j]? = some v ∧ Own K F H v o B ∧ A.Perm (B ++ C) ∧
    ∀ F' H' o' B', Ext F F' → (∀ a u, H a = some u → a ∈ C → H' a = some u) → Own K F' H' v o' B' → ∃ A', Owns K F' H' vs (os.set j o') A' ∧ A'.Perm (B' ++ C)
  | _, _, _, _, _, .nil, e => by simp at e
  | _, _, _, 0, o, .cons (B := C) h r, e => by
    simp at e; subst e
    exact ⟨_, _, C, rfl, h, .refl _, fun F' H' o' B' e k ow => ⟨_, .cons ow (r.mono e (S := C) k fun _ h => h), .refl _⟩⟩
  | _, _, _, j + 1, o, .cons (A := A1) h r, e => by
    obtain ⟨v, B, C, h1, h2, h3, h4⟩ := r.foc (j := j) (o := o) (by simpa using e)
    refine ⟨v, B, A1 ++ C, by simpa using h1, h2, perm_mid h3, fun F' H' o' B' e k ow => ?_⟩
    obtain ⟨A', a1, a2⟩ := h4 F' H' o' B' e (fun a u h hc => k a u h (List.mem_append_right _ hc)) ow
    exact ⟨_, .cons (h.mono e (S := A1) (fun a u z hz => k a u z (List.mem_append_left _ hz)) fun _ h => h) a1, perm_mid a2⟩
structure Foc (K : PySem.W.Frag) (F H : Hp) (σ : L2.St) (A : List Addr) (v : V) (o : O) (up : O → Env) (B C : List Addr) : Prop where
  own : Own K F H v o B
  perm : A.Perm (B ++ C)
  back : ∀ F' H' o' B', Ext F F' → (∀ a u, H a = some u → a ∈ C → H' a = some u) → Own K F' H' v o' B' → ∃ A', Envs K F' H' σ (up o') A' ∧ A'.Perm (B' ++ C)
theorem Foc.grow {F H F1 H1 : Hp} {σ : L2.St} {A B C : List Addr} {v : V} {o : O} {up : O → Env} (f : Foc K F H σ A v o up B C) (g : Grow F H F1 H1) : Foc K F1 H1 σ A v o up B C :=
  ⟨g.own f.own, f.perm, fun F' H' o' B' e k ow => f.back F' H' o' B' (g.stp.fs.trans e) (fun a u h hc => k a u (g.hh a u h) hc) ow⟩
theorem Own.head {F H : Hp} {l : Addr} {o : O} {B : List Addr} (h : Own K F H (.ref l) o (l :: B)) : ¬ Imm (H l) := by
  cases h with
  | lst h _ => rw [h]; exact fun z => z
  | dt h _ _ => rw [h]; exact fun z => z
  | dk h _ _ => rw [h]; exact fun z => z
  | ins h _ _ => rw [h]; exact fun z => z
/-- one object changed, some new ones taken in, some left -/
theorem Foc.mut {F H : Hp} {σ : L2.St} {A A0 A1 B2 C X : List Addr} {l : Addr} {o o' : O} {up : O → Env} {u : HO} (w : WF F H (B2 ++ A)) (f : Foc K F H σ A (.ref l) o up (l :: A0) C) (p : ((l :: A1) ++ X).Perm ((l :: A0) ++ B2)) (ow : Own K F (upd H l u) (.ref l) o' (l :: A1)) :
    ∃ A', Envs K F (upd H l u) σ (up o') A' ∧ WF F (upd H l u) A' ∧ Stp F H (B2 ++ A) F (upd H l u) A' := by
  have w1 : WF F H ((l :: A0) ++ C) := w.right.perm f.perm
  have lC : l ∉ C := w1.dis (by simp)
  obtain ⟨A', e1, p1⟩ := f.back F (upd H l u) o' (l :: A1) (Ext.refl _) (fun a v h hc => by rw [upd_ne fun z => lC (by rw [← z]; exact hc)]; exact h) ow
  have pp : (B2 ++ A).Perm (X ++ A') := by
    refine (List.Perm.append_left B2 f.perm).trans ?_
    rw [← List.append_assoc]
    refine (List.Perm.append_right C (List.perm_append_comm.trans p.symm)).trans ?_
    refine (List.Perm.append_right C List.perm_append_comm).trans ?_
    rw [List.append_assoc]
    exact List.Perm.append_left X p1.symm
  have w2 : WF F H A' := (w.perm pp).right
  have lA : l ∈ A' := p1.mem_iff.mpr (by simp)
  refine ⟨A', e1, ⟨fun a v h => ?_, w2.nd, w2.off, fun a h => ?_⟩, ⟨Ext.refl _, fun a v h n => ?_, fun a v h => .inl h, fun a h => .inl (pp.mem_iff.mpr (List.mem_append_right _ h)), fun a h => ?_⟩⟩
  · rw [upd_ne fun z => by rw [z, w2.off l lA] at h; cases h]
    exact w2.sub a v h
  · by_cases z : a = l
    · subst z; exact ow.head
    · rw [upd_ne z]; exact w2.on a h
  · rw [upd_ne fun z => n (pp.mem_iff.mpr (List.mem_append_right _ (by rw [z]; exact lA)))]; exact h
  · by_cases z : a = l
    · subst z; rw [upd_same] at h; cases h
    · rw [upd_ne z] at h; exact h
/-- what stands beside is not touched -/
theorem frame {F H F' H' : Hp} {B C B' : List Addr} (w : WF F H (B ++ C)) (s : Stp F H B F' H' B') (w' : WF F' H' B') : WF F' H' (B' ++ C) ∧ Stp F H (B ++ C) F' H' (B' ++ C) ∧ ∀ a u, H a = some u → a ∈ C → H' a = some u := by
  have cB : ∀ a ∈ C, a ∉ B := fun a h z => w.dis z h
  refine ⟨⟨w'.sub, ?_, ?_, ?_⟩, (s.mono (fun a h => List.mem_append_left _ h)).more (fun a h => .inl (List.mem_append_right _ h)), fun a u h hc => s.keep a u h (cB a hc)⟩
  · refine List.nodup_append.mpr ⟨w'.nd, w.right.nd, fun x hx y hy e => ?_⟩
    subst e
    rcases s.foot x hx with q | q
    · exact cB x hy q
    · exact w.right.on x hy (imm_none q)
  · intro x hx
    rcases List.mem_append.mp hx with hx | hx
    · exact w'.off x hx
    · cases z : F' x with
      | none => rfl
      | some o =>
        rcases s.new x o z with q | q | q
        · rw [w.right.off x hx] at q; cases q
        · exact absurd q (cB x hx)
        · exact absurd q (w.right.on x hx)
  · intro x hx
    rcases List.mem_append.mp hx with hx | hx
    · exact w'.on x hx
    · exact s.held (cB x hx) (w.right.on x hx)
theorem Owns.append {F H : Hp} : ∀ {vs ws : List V} {os qs : List O} {A B : List Addr}, Owns K F H vs os A → Owns K F H ws qs B → Owns K F H (vs ++ ws) (os ++ qs) (A ++ B)
  | _, _, _, _, _, _, .nil, s => s
  | _, _, _, _, _, _, .cons h r, s => by rw [List.append_assoc]; exact .cons h (r.append s)

def XL (S : Sig) (ρ : Env) (e : Expr) (o : O) (up : O → Env) : Prop := ∃ t : TE, (∀ q, S.Ok q → PE (S.cx q) e t) ∧ ∀ (σ : L2.St) (F H : Hp) (A : List Addr) (Q : VK), WF F H A → Envs S.K F H σ ρ A → (∀ v B C, Foc S.K F H σ A v o up B C → Q v H) → t σ H Q
section
variable {S : Sig} {ρ ρ1 : Env} {a b c e : Expr} {d d1 d2 d3 : D} {ds : List D} {pos p2 : Pos} {pin : List Nat} {es : List Expr} {o : O} {up : O → Env}
theorem xl_var (i : Nat) {x : Str} (hρ : ρ[i]? = some (some o) := by rfl) (hN : S.N[i]? = some x := by rfl) (hv : Vis S.scope x := by first | exact Or.inl rfl | exact Or.inr (Or.inl rfl) | exact Or.inr (Or.inr rfl))
    (hd : (x == ("__debug__" : Str)) = false := by decide) (hcd : (x == ("__classdict__" : Str)) = false := by decide) : XL S ρ (.Name x pos) o (fun o' => ρ.set i (some o')) :=
  ⟨tVar i, fun q _ => pe_var hN hv hd hcd, fun σ F H A Q w n q => by
    obtain ⟨v, B, A', h1, h2, h3, h4⟩ := n.get hρ
    refine ⟨v, h1, q v B A' ⟨h2, h4, fun F' H' o' B' e k ow => ?_⟩⟩
    have e2 : (ρ.set i none)[i]? = some none := by
      rw [List.getElem?_set_self]
      exact (List.getElem?_eq_some_iff.mp hρ).1
    obtain ⟨A2, n3, p3⟩ := (h3.mono e (S := A') k fun _ h => h).back ow e2 h1
    rw [List.set_set] at n3
    exact ⟨A2, n3, p3⟩⟩
/-- the place of a field -/
def fidx (f : Str) : List Str → Option Nat
  | [] => none
  | g :: r => if f = g then some 0 else (fidx f r).map (· + 1)
theorem fidx_get {f : Str} : ∀ {fs : List (Str × V)} {j : Nat}, fidx f (fs.map (·.1)) = some j → fs.lookup f = (fs.map (·.2))[j]?
  | [], _, e => by cases e
  | (g, v) :: r, j, e => by
    simp only [List.map_cons, fidx] at e
    by_cases h : f = g
    · rw [if_pos h] at e
      cases e
      subst h
      simp [List.lookup]
    · rw [if_neg h] at e
      cases z : fidx f (r.map (·.1)) with
      | none => rw [z] at e; cases e
      | some k =>
        rw [z] at e
        cases e
        have := fidx_get z
        simp only [List.map_cons, List.getElem?_cons_succ, ← this, List.lookup]
        rw [beq_eq_false_iff_ne.mpr h]
theorem fidx_none {f : Str} : ∀ {fs : List (Str × V)}, fidx f (fs.map (·.1)) = none → fs.lookup f = none
  | [], _ => rfl
  | (g, v) :: r, e => by
    simp only [List.map_cons, fidx] at e
    by_cases h : f = g
    · rw [if_pos h] at e; cases e
    · rw [if_neg h] at e
      have : fidx f (r.map (·.1)) = none := by
        cases z : fidx f (r.map (·.1)) with
        | none => rfl
        | some k => rw [z] at e; cases e
      simp only [List.lookup]
      rw [beq_eq_false_iff_ne.mpr h]
      exact fidx_none this
theorem putF_new {f : Str} {v : V} : ∀ {fs : List (Str × V)}, fidx f (fs.map (·.1)) = none → putF f v fs = fs ++ [(f, v)]
  | [], _ => rfl
  | (g, x) :: r, e => by
    simp only [List.map_cons, fidx] at e
    by_cases h : f = g
    · rw [if_pos h] at e; cases e
    · rw [if_neg h] at e
      have z : fidx f (r.map (·.1)) = none := by
        cases z : fidx f (r.map (·.1)) with
        | none => rfl
        | some k => rw [z] at e; cases e
      show (if g = f then _ else _) = _
      rw [if_neg fun z => h z.symm, putF_new z]
      rfl
theorem putF_old {f : Str} {v : V} : ∀ {fs : List (Str × V)} {j : Nat}, fidx f (fs.map (·.1)) = some j → (putF f v fs).map (·.1) = fs.map (·.1) ∧ (putF f v fs).map (·.2) = (fs.map (·.2)).set j v
  | [], _, e => by cases e
  | (g, x) :: r, j, e => by
    simp only [List.map_cons, fidx] at e
    by_cases h : f = g
    · rw [if_pos h] at e
      cases e
      subst h
      show (if f = f then _ else _ : List (Str × V)).map _ = _ ∧ (if f = f then _ else _ : List (Str × V)).map _ = _
      rw [if_pos rfl]
      exact ⟨rfl, rfl⟩
    · rw [if_neg h] at e
      cases z : fidx f (r.map (·.1)) with
      | none => rw [z] at e; cases e
      | some k =>
        rw [z] at e
        cases e
        obtain ⟨h1, h2⟩ := putF_old (v := v) z
        show (if g = f then _ else _ : List (Str × V)).map _ = _ ∧ (if g = f then _ else _ : List (Str × V)).map _ = _
        rw [if_neg fun z => h z.symm]
        exact ⟨by rw [List.map_cons, h1]; rfl, by rw [List.map_cons, h2]; rfl⟩
theorem xl_fld {C : Addr} {ns : List Str} {os : List O} {f : Str} (j : Nat) (c : Cls S.K C) (na : NoAttr S.K C f) (h : XL S ρ e (.ins C ns os) up) (hf : fidx f ns = some j := by decide) (hj : os[j]? = some o := by rfl) (hb : ∀ env : PySem.Env, attributeBase e f env (eval e env) = eval e env := by intro _; rfl) :
    XL S ρ (.Attribute e f pos) o (fun o' => up (.ins C ns (os.set j o'))) := by
  obtain ⟨t, h1, h2⟩ := h
  refine ⟨tFld S.K t f, fun q ok => pe_fld (h1 q ok) (hb _), fun σ F H A Q w n q => h2 σ F H A _ w n fun v B C0 fo => ?_⟩
  cases fo with
  | mk ow p bk =>
  cases ow with
  | ins ha hn r =>
    rename_i a dx fs A0
    obtain ⟨v, B1, C1, g1, g2, g3, g4⟩ := r.foc hj
    subst hn
    refine ⟨a, C, dx, fs, v, rfl, ha, c, na, by rw [fidx_get hf]; exact g1, q v B1 (a :: C1 ++ C0) ⟨g2, ?_, fun F' H' o' B' e k ow => ?_⟩⟩
    · refine p.trans ?_
      rw [← List.append_assoc]
      exact List.Perm.append_right C0 (perm_mid (D := [a]) g3)
    · obtain ⟨A1, n1, p1⟩ := g4 F' H' o' B' e (fun x u h hc => k x u h (by simp [hc])) ow
      obtain ⟨A2, n2, p2⟩ := bk F' H' (.ins C (fs.map (·.1)) (os.set j o')) (a :: A1) e (fun x u h hc => k x u h (by simp [hc])) (.ins (k a _ ha (by simp)) rfl n1)
      refine ⟨A2, n2, p2.trans ?_⟩
      rw [← List.append_assoc]
      exact List.Perm.append_right C0 (perm_mid (D := [a]) p1)
theorem XL.p (h : XL S ρ e (.fro d) up) : XP S ρ e (.ok d) := by
  obtain ⟨t, h1, h2⟩ := h
  refine ⟨t, h1, fun σ F H A Q w n q => h2 σ F H A _ w n fun v B C fo => ?_⟩
  cases fo with
  | mk ow p bk =>
  cases ow with
  | fro r => exact q v F H (Grow.refl w.sub) r
theorem XL.v (h : XL S ρ e o up) : XV S ρ e o.d := by
  obtain ⟨t, h1, h2⟩ := h
  exact ⟨t, h1, fun σ F H A Q w n q => h2 σ F H A _ w n fun v B C fo => q v F H (Grow.refl w.sub) (fo.own.rep w.sub)⟩
/-- a field of a frozen instance -/
theorem xp_fld {C : Addr} {ns : List Str} {f : Str} (j : Nat) (c : Cls S.K C) (na : NoAttr S.K C f) (h : XP S ρ e (.ok (.ins C ns ds))) (hf : fidx f ns = some j := by decide) (hj : ds[j]? = some d := by rfl) (hb : ∀ env : PySem.Env, attributeBase e f env (eval e env) = eval e env := by intro _; rfl) :
    XP S ρ (.Attribute e f pos) (.ok d) := by
  obtain ⟨t, h1, h2⟩ := h
  refine ⟨tFld S.K t f, fun q ok => pe_fld (h1 q ok) (hb _), fun σ F H A Q w n q => h2 σ F H A _ w n fun v F1 H1 g r => ?_⟩
  cases r with
  | ins ha hn r =>
    subst hn
    obtain ⟨v, g1, g2⟩ := r.get hj
    exact ⟨_, _, _, _, v, rfl, g.ext _ _ ha, c, na, by rw [fidx_get hf]; exact g1, q v F1 H1 g g2⟩
theorem xv_fld {C : Addr} {ns : List Str} {f : Str} (j : Nat) (c : Cls S.K C) (na : NoAttr S.K C f) (h : XV S ρ e (.ins C ns ds)) (hf : fidx f ns = some j := by decide) (hj : ds[j]? = some d := by rfl) (hb : ∀ env : PySem.Env, attributeBase e f env (eval e env) = eval e env := by intro _; rfl) :
    XV S ρ (.Attribute e f pos) d := by
  obtain ⟨t, h1, h2⟩ := h
  refine ⟨tFld S.K t f, fun q ok => pe_fld (h1 q ok) (hb _), fun σ F H A Q w n q => h2 σ F H A _ w n fun v F1 H1 g r => ?_⟩
  cases r with
  | ins ha hn r =>
    subst hn
    obtain ⟨v, g1, g2⟩ := r.get hj
    exact ⟨_, _, _, _, v, rfl, ha, c, na, by rw [fidx_get hf]; exact g1, q v F1 H1 g g2⟩

/-! ### lists: append, extend -/
theorem xx_append {os : List O} {apos cpos : Pos} (hl : XL S ρ a (.lst os) up) (he : XP S ρ e (.ok d)) (hn : os.length < 1000000)
    (hbase : ∀ env : PySem.Env, attributeBase a "append" env (eval a env) = eval a env := by intro _; rfl)
    (hfew : ∀ env : PySem.Env, ((backTo cpos (starEach [e] env)).all (fun x => !x.1) && (backToKw cpos (keywordEach [] env)).all (fun x => x.1.isSome) && decide ([e].length + ([] : List Keyword).length + (if ([] : List Keyword).isEmpty then 0 else 1) < 30)) = true := by intro _; rfl)
    (hline : (apos.endLine == cpos.line) = true := by rfl) (hs : ∀ env : PySem.Env, starEach [e] env = (false, eval e env) :: starEach [] env := by intro _; rfl) (hplain : ∀ env : PySem.Env, (backTo cpos (starEach [] env)).any (·.1) = false := by intro _; rfl) :
    XX S ρ (.Call (.Attribute a "append" apos) [e] [] cpos) (.ok (.fro .non) (up (.lst (os ++ [.fro d])))) := by
  obtain ⟨t, h1, h2⟩ := hl
  obtain ⟨ta, a1, a2⟩ := xa_cons he xa_nil hs
  refine ⟨tBM S.K "list" rAppend t ta, fun q ok => pe_bm PySem.F.plainAttrs_list PySem.F.slot_list_append PySem.F.type_list_append mt_append (h1 q ok) (a1 q ok) (hbase _) (hfew _) hline (hs _) (hplain _), fun σ F H A Q w n q => h2 σ F H A _ w n fun v B C fo => ?_⟩
  cases fo with
  | mk ow p bk =>
  cases ow with
  | lst hx r =>
    rename_i l xs A0
    refine ⟨.inl ⟨rfl, _, SqL.of hx⟩, a2 σ F H A _ w n fun vs F1 H1 g rr => ?_⟩
    obtain ⟨y, rfl, ry⟩ := reps1 rr
    have len := r.length
    have fo := (Foc.mk (.lst hx r) p bk : Foc S.K F H σ A (.ref l) (.lst os) up (l :: A0) C).grow g
    have w1 := g.wf w
    have lA : l ∉ A0 := fun z => by
      have := (w1.perm fo.perm).left.nd
      exact (List.nodup_cons.mp this).1 z
    refine ⟨l, xs, y, rfl, rfl, g.hh _ _ hx, line_lt (by omega), ?_⟩
    obtain ⟨A', n', w', s'⟩ := Foc.mut (B2 := []) (A1 := A0 ++ []) (X := []) (u := .lst (xs ++ [y])) (o' := .lst (os ++ [.fro d])) w1 fo (by simp) (.lst upd_same (Owns.append ((g.owns r).mono (Ext.refl _) (S := A0) (fun x u h hx => by rw [upd_ne fun z => lA (by rw [← z]; exact hx)]; exact h) fun _ h => h) (Owns.fros (ds := [d]) (.cons ry .nil))))
    refine q .non F1 _ [] A' w' (Stp.trans ((g.stp.mono (by simp) (A' := A)).more (C := A) fun a h => .inl h) s') (.fro .non) n'
theorem xx_extend {os : List O} {apos cpos : Pos} (hl : XL S ρ a (.lst os) up) (he : XP S ρ e (.ok (.lst ds))) (hn : os.length + ds.length ≤ 1000000)
    (hbase : ∀ env : PySem.Env, attributeBase a "extend" env (eval a env) = eval a env := by intro _; rfl)
    (hfew : ∀ env : PySem.Env, ((backTo cpos (starEach [e] env)).all (fun x => !x.1) && (backToKw cpos (keywordEach [] env)).all (fun x => x.1.isSome) && decide ([e].length + ([] : List Keyword).length + (if ([] : List Keyword).isEmpty then 0 else 1) < 30)) = true := by intro _; rfl)
    (hline : (apos.endLine == cpos.line) = true := by rfl) (hs : ∀ env : PySem.Env, starEach [e] env = (false, eval e env) :: starEach [] env := by intro _; rfl) (hplain : ∀ env : PySem.Env, (backTo cpos (starEach [] env)).any (·.1) = false := by intro _; rfl) :
    XX S ρ (.Call (.Attribute a "extend" apos) [e] [] cpos) (.ok (.fro .non) (up (.lst (os ++ ds.map .fro)))) := by
  obtain ⟨t, h1, h2⟩ := hl
  obtain ⟨ta, a1, a2⟩ := xa_cons he xa_nil hs
  refine ⟨tBM S.K "list" rExtend t ta, fun q ok => pe_bm PySem.F.plainAttrs_list PySem.F.slot_list_extend PySem.F.type_list_extend mt_extend (h1 q ok) (a1 q ok) (hbase _) (hfew _) hline (hs _) (hplain _), fun σ F H A Q w n q => h2 σ F H A _ w n fun v B C fo => ?_⟩
  cases fo with
  | mk ow p bk =>
  cases ow with
  | lst hx r =>
    rename_i l xs A0
    refine ⟨.inl ⟨rfl, _, SqL.of hx⟩, a2 σ F H A _ w n fun vs F1 H1 g rr => ?_⟩
    obtain ⟨y, rfl, ry⟩ := reps1 rr
    cases ry with
    | lst hz rz =>
    rename_i b zs
    have len := r.length
    have len2 := rz.length
    have fo := (Foc.mk (.lst hx r) p bk : Foc S.K F H σ A (.ref l) (.lst os) up (l :: A0) C).grow g
    have w1 := g.wf w
    have lA : l ∉ A0 := fun z => by
      have := (w1.perm fo.perm).left.nd
      exact (List.nodup_cons.mp this).1 z
    refine ⟨l, b, xs, zs, rfl, rfl, g.hh _ _ hx, g.ext _ _ hz, line_le (by omega), ?_⟩
    obtain ⟨A', n', w', s'⟩ := Foc.mut (B2 := []) (A1 := A0 ++ []) (X := []) (u := .lst (xs ++ zs)) (o' := .lst (os ++ ds.map .fro)) w1 fo (by simp) (.lst upd_same (Owns.append ((g.owns r).mono (Ext.refl _) (S := A0) (fun x u h hx => by rw [upd_ne fun z => lA (by rw [← z]; exact hx)]; exact h) fun _ h => h) (Owns.fros rz)))
    refine q .non F1 _ [] A' w' (Stp.trans ((g.stp.mono (by simp) (A' := A)).more (C := A) fun a h => .inl h) s') (.fro .non) n'

/-! ### e.f = v -/
theorem xs_fldN {C : Addr} {ns : List Str} {os : List O} {f : Str} {value : Expr} {pos' : Pos} {o2 : O} (c : Cls S.K C) (na : NoAttr S.K C f) (hv : XX S ρ value (.ok o2 ρ1)) (h : XL S ρ1 e (.ins C ns os) up) (hf : fidx f ns = none := by decide) (hl : ns.length < 900 := by decide)
    (hs : ∀ env : PySem.Env, swapsWith value (some (.Attribute e f pos')) pos.line env = pure false := by intro _; rfl) : XS S pin ρ (.Assign [.Attribute e f pos'] value pos) (.nx (up (.ins C (ns ++ [f]) (os ++ [o2])))) := by
  obtain ⟨tv, v1, v2⟩ := hv
  obtain ⟨t, h1, h2⟩ := h
  refine ⟨sFld S.K t tv f, fun q ok => ps_fld (h1 q ok) (v1 q ok) (hs _), fun σ F H A D w n q => v2 σ F H A _ w n fun y F1 H1 B2 A1 w1 s1 ow n1 => h2 σ F1 H1 A1 _ w1.right n1 fun v B C0 fo => ?_⟩
  cases fo with
  | mk ow1 p bk =>
  cases ow1 with
  | ins ha hn r =>
    rename_i l dx fs A0
    subst hn
    have fo : Foc S.K F1 H1 σ A1 (.ref l) (.ins C (fs.map (·.1)) os) up (l :: A0) C0 := .mk (.ins ha rfl r) p bk
    have lA : l ∉ A0 := fun z => (List.nodup_cons.mp (w1.right.perm p).left.nd).1 z
    have lB : l ∉ B2 := fun z => w1.dis z (p.mem_iff.mpr (by simp))
    have kp : ∀ {S' : List Addr}, l ∉ S' → ∀ x u', H1 x = some u' → x ∈ S' → upd H1 l (.ins C dx (fs ++ [(f, y)])) x = some u' := fun hS x u' h hx => by rw [upd_ne fun z => hS (by rw [← z]; exact hx)]; exact h
    rw [List.length_map] at hl
    have e0 := putF_new (v := y) hf
    obtain ⟨A', n', w', s'⟩ := Foc.mut (B2 := B2) (A1 := A0 ++ (B2 ++ [])) (X := []) (u := .ins C dx (fs ++ [(f, y)])) (o' := .ins C (fs.map (·.1) ++ [f]) (os ++ [o2])) w1 fo (by simp) (.ins upd_same (by rw [List.map_append]; rfl) (by
      rw [List.map_append]
      exact Owns.append (r.mono (Ext.refl _) (S := A0) (kp lA) fun _ h => h) (.cons (ow.mono (Ext.refl _) (S := B2) (kp lB) fun _ h => h) .nil)))
    exact ⟨l, C, dx, fs, rfl, ha, c, na, by omega, by rw [e0]; exact q σ F1 _ A' w' (s1.trans s') n' Pin.refl⟩
theorem Owns.set {F H : Hp} {v : V} {o : O} {B : List Addr} (h : Own K F H v o B) : ∀ {vs : List V} {os : List O} {A : List Addr} {j : Nat}, Owns K F H vs os A → j < os.length → ∃ A' X, Owns K F H (vs.set j v) (os.set j o) A' ∧ (A' ++ X).Perm (A ++ B)
  | _, _, _, _, .nil, e => by simp at e
  | _, _, _, 0, .cons (A := A1) (B := A2) g r, _ => ⟨_, A1, .cons h r, List.perm_iff_count.mpr fun a => by simp only [List.count_append]; omega⟩
  | _, _, _, j + 1, .cons (A := A1) (B := A2) g r, e => by
    obtain ⟨A', X, h1, h2⟩ := r.set h (j := j) (by simpa using e)
    exact ⟨_, X, .cons g h1, by rw [List.append_assoc, List.append_assoc]; exact List.Perm.append_left A1 h2⟩
theorem xs_fldO {C : Addr} {ns : List Str} {os : List O} {f : Str} {value : Expr} {pos' : Pos} {o2 : O} (j : Nat) (c : Cls S.K C) (na : NoAttr S.K C f) (hv : XX S ρ value (.ok o2 ρ1)) (h : XL S ρ1 e (.ins C ns os) up) (hf : fidx f ns = some j := by decide) (hl : ns.length < 900 := by decide) (hj : j < os.length := by decide)
    (hs : ∀ env : PySem.Env, swapsWith value (some (.Attribute e f pos')) pos.line env = pure false := by intro _; rfl) : XS S pin ρ (.Assign [.Attribute e f pos'] value pos) (.nx (up (.ins C ns (os.set j o2)))) := by
  obtain ⟨tv, v1, v2⟩ := hv
  obtain ⟨t, h1, h2⟩ := h
  refine ⟨sFld S.K t tv f, fun q ok => ps_fld (h1 q ok) (v1 q ok) (hs _), fun σ F H A D w n q => v2 σ F H A _ w n fun y F1 H1 B2 A1 w1 s1 ow n1 => h2 σ F1 H1 A1 _ w1.right n1 fun v B C0 fo => ?_⟩
  cases fo with
  | mk ow1 p bk =>
  cases ow1 with
  | ins ha hn r =>
    rename_i l dx fs A0
    subst hn
    have fo : Foc S.K F1 H1 σ A1 (.ref l) (.ins C (fs.map (·.1)) os) up (l :: A0) C0 := .mk (.ins ha rfl r) p bk
    have lA : l ∉ A0 := fun z => (List.nodup_cons.mp (w1.right.perm p).left.nd).1 z
    have lB : l ∉ B2 := fun z => w1.dis z (p.mem_iff.mpr (by simp))
    have kp : ∀ {S' : List Addr}, l ∉ S' → ∀ x u', H1 x = some u' → x ∈ S' → upd H1 l (.ins C dx (putF f y fs)) x = some u' := fun hS x u' h hx => by rw [upd_ne fun z => hS (by rw [← z]; exact hx)]; exact h
    rw [List.length_map] at hl
    obtain ⟨e1, e2⟩ := putF_old (v := y) hf
    obtain ⟨A1', X, ows, pp⟩ := Owns.set (ow.mono (Ext.refl _) (S := B2) (kp lB) fun _ h => h) (r.mono (Ext.refl _) (S := A0) (kp lA) fun _ h => h) hj
    obtain ⟨A', n', w', s'⟩ := Foc.mut (B2 := B2) (A1 := A1') (X := X) (u := .ins C dx (putF f y fs)) (o' := .ins C (fs.map (·.1)) (os.set j o2)) w1 fo (by exact pp.cons l) (.ins upd_same e1 (by rw [e2]; exact ows))
    exact ⟨l, C, dx, fs, rfl, ha, c, na, by omega, q σ F1 _ A' w' (s1.trans s') n' Pin.refl⟩
end

/-! ### methods -/
def rmM (ds : List D) : Except Str O × O → RM
  | (.ok o, s) => .ok o (s :: ds.map O.fro)
  | (.error x, s) => .ex x (s :: ds.map O.fro)
/-- the receiver is owned, all else is frozen -/
abbrev spM (K : PySem.W.Frag) {τ : Type} (dd : τ → List D) (slf : τ → O) (pre : τ → Prop) (res : τ → Except Str O × O) : Sp := spG K (fun x => slf x :: (dd x).map O.fro) pre fun x => rmM (dd x) (res x)
structure MeG (P : Program) (w : World) (K : PySem.W.Frag) (mg : Str → Option Value) (base : Heap) (k : Nat) (C : Addr) (m : Str) (ps : List Str) (sp : Sp) : Prop where
  h : ∃ f fd, FnOk P w K mg base (L2N.CX P w) k f fd ps sp ∧ Meth K C m f ∧ Binds K fd ps []
  c : Cls K C
structure MkG (P : Program) (w : World) (K : PySem.W.Frag) (mg : Str → Option Value) (base : Heap) (k : Nat) (x : Str) (C : Addr) (ps : List Str) (sp : Sp) : Prop where
  h : ∃ f fd, FnOk P w K mg base (L2N.CX P w) k f fd ps sp ∧ Mk K C f ∧ Binds K fd ps [] ∧ mg x = some (.ref C)
def tMethS (C : Addr) (m : Str) (sp : Sp) (E : L2.St → XK) (ta : TE) (t : TA) : TE := fun σ H Q => ta σ H fun x H1 => ∃ a dx fs, x = .ref a ∧ H1 a = some (.ins C dx fs) ∧ fs.lookup m = none ∧ t σ H1 fun vs H2 => sp (x :: vs) H2 Q (E σ)
theorem pe_methS {X : Cx} {CX : CXT} {k : Nat} {f C : Addr} {fd : FuncData} {ps : List Str} {sp : Sp} {E : L2.St → XK} {m : Str} {pos apos : Pos} {e o : Expr} {es : List Expr} {ta : TE} {t : TA} {pl : Sem Bool} (he : PE X o ta) (c : Cls X.K C) (hm : Meth X.K C m f)
    (F : FnOk X.prog X.w X.K X.mg X.base CX k f fd ps sp) (hr : Room k X.A) (hb : Binds X.K fd ps []) (hx : ∀ σ, PassesAt CX X σ (E σ)) (ha : PA X (e :: es) t)
    (hst : starEach (e :: es) X.env = (false, eval e X.env) :: starEach es X.env) (hpl : (backTo pos (starEach es X.env)).any (·.1) = false)
    (ht : eval (.Call (.Attribute o m apos) (e :: es) [] pos) X.env = (do
      let ov ← eval o X.env
      standAt apos.atName
      let (f, first) ← holding [ov] (getMethod ov m pl)
      callWith pos f first (backTo pos (starEach (e :: es) X.env)) (backToKw pos (keywordEach [] X.env)))) :
    PE X (.Call (.Attribute o m apos) (e :: es) [] pos) (tMethS C m sp E ta t) := by
  refine ⟨fun pins s σ H Q I h => ?_⟩
  refine PySem.W.methodCall_KW (pl := pl) (thn (he.run pins s σ H _ I h) fun u s1 ⟨x, H1, I1, rx, a, dx, fs, ex, ea, l, q⟩ => ?_) ht
  subst ex
  obtain rfl : u = Value.ref a := rx
  refine getmeth_ok I1 ea c hm l ?_
  refine PySem.W.callWith_K (first := [.ref a]) (h₀ := X.base) I.ok.mod.kin hm.kp (thn (ha.run pos pins s1 σ H1 _ I1 q) fun us s2 ⟨vs, H2, I2, r, q2⟩ => ⟨I2.kIn, ?_⟩) hst hpl
  exact run_fnS (us := .ref a :: us) (vs := .ref a :: vs) F hr hb (hx σ) I2 (.cons rfl r) q2
theorem pe_methS0 {X : Cx} {CX : CXT} {k : Nat} {f C : Addr} {fd : FuncData} {ps : List Str} {sp : Sp} {E : L2.St → XK} {m : Str} {pos apos : Pos} {o : Expr} {ta : TE} {pl : Sem Bool} (he : PE X o ta) (c : Cls X.K C) (hm : Meth X.K C m f)
    (F : FnOk X.prog X.w X.K X.mg X.base CX k f fd ps sp) (hr : Room k X.A) (hb : Binds X.K fd ps []) (hx : ∀ σ, PassesAt CX X σ (E σ))
    (ht : eval (.Call (.Attribute o m apos) [] [] pos) X.env = (do
      let ov ← eval o X.env
      standAt apos.atName
      let (f, first) ← holding [ov] (getMethod ov m pl)
      callWith pos f first (backTo pos (starEach [] X.env)) (backToKw pos (keywordEach [] X.env)))) :
    PE X (.Call (.Attribute o m apos) [] [] pos) (tMethS C m sp E ta tNil) := by
  refine ⟨fun pins s σ H Q I h => ?_⟩
  refine PySem.W.methodCall_KW (pl := pl) (thn (he.run pins s σ H _ I h) fun u s1 ⟨x, H1, I1, rx, a, dx, fs, ex, ea, l, q⟩ => ?_) ht
  subst ex
  obtain rfl : u = Value.ref a := rx
  refine getmeth_ok I1 ea c hm l ?_
  exact PySem.W.callWith_K0 (first := [.ref a]) I1.kIn hm.kp (run_fnS (us := [.ref a]) (vs := [.ref a]) F hr hb (hx σ) I1 (.cons rfl .nil) q)
theorem run_makeS {X : Cx} {CX : CXT} {k : Nat} {f C : Addr} {fd : FuncData} {ps : List Str} {sp : Sp} {E : L2.St → XK} {pins : List (Addr × Obj)} {σ : L2.St} {H : Hp} {s : Shared} {Q : VK} {us : List Value} {vs : List V} (M : Mk X.K C f) (F : FnOk X.prog X.w X.K X.mg X.base CX k f fd ps sp) (hr : Room (k + 1) X.A) (hb : Binds X.K fd ps [])
    (hx : PassesAt CX X σ (E σ)) (I : Inv X pins σ H s) (r : Vals vs us)
    (h : ∀ x dx, H x = none → H dx = none → dx ≠ x → sp (.ref x :: vs) (upd (upd H dx (.own x)) x (.ins C dx [])) (fun v H2 => v = .non ∧ Q (.ref x) H2) (E σ)) :
    wpAny (model X.prog X.w) X.A (call (.ref C) us) (L2.EP X pins σ Q) X.xe s := by
  have hq := h (s.heap.objs.size + 1) s.heap.objs.size (I.hok.fresh (Nat.le_succ _)) (I.hok.fresh (Nat.le_refl _)) (Nat.ne_of_lt (Nat.lt_succ_self _))
  have I2 := Inv.made (C := C) I
  have r2 : Vals (V.ref (s.heap.objs.size + 1) :: vs) (Value.ref (s.heap.objs.size + 1) :: us) := .cons rfl r
  have hl : (Value.ref (s.heap.objs.size + 1) :: us).length = ps.length := by
    have e := r2.length
    rw [F.len _ _ _ _ hq] at e
    exact e.symm
  have b := hb _ (Value.ref (s.heap.objs.size + 1) :: us) I2.kIn (by rw [List.append_nil]; exact hl)
  rw [List.append_nil] at b
  refine wpAny_call (make_map (f := f) I.kIn M.makes M.init (beq_iff_eq.mp M.fn) (codeAny_mono (F.run _ X.stack _ _ ⟨Value.ref (s.heap.objs.size + 1) :: us, []⟩ (Value.ref (s.heap.objs.size + 1) :: us) _ _ (E σ) (hr.make C us [])
    (I2.env0.make C us []) b r2 hq) fun r s' hq' => ?_))
  cases r with
  | error e => exact hx pins _ _ e s' I2 hq'
  | ok fl =>
    cases fl with
    | ret u =>
      obtain ⟨v, H', I3, rv, ev, q3⟩ := I2.after hq'
      subst ev
      exact ⟨rv, ⟨V.ref (s.heap.objs.size + 1), H', I3, rfl, q3⟩⟩
    | next => exact False.elim hq'
    | brk => exact False.elim hq'
    | cont => exact False.elim hq'
def tMakeS (C : Addr) (sp : Sp) (E : L2.St → XK) (t : TA) : TE := fun σ H Q => t σ H fun vs H1 => ∀ x dx, H1 x = none → H1 dx = none → dx ≠ x →
  sp (.ref x :: vs) (upd (upd H1 dx (.own x)) x (.ins C dx [])) (fun v H2 => v = .non ∧ Q (.ref x) H2) (E σ)
theorem pe_makeS {X : Cx} {CX : CXT} {k : Nat} {f C : Addr} {fd : FuncData} {ps : List Str} {sp : Sp} {E : L2.St → XK} {x : Str} {p pos : Pos} {e : Expr} {es : List Expr} {t : TA} (M : Mk X.K C f) (F : FnOk X.prog X.w X.K X.mg X.base CX k f fd ps sp) (hr : Room (k + 1) X.A) (hg : Gl X x) (hm : X.mg x = some (.ref C)) (hb : Binds X.K fd ps []) (hx : ∀ σ, PassesAt CX X σ (E σ))
    (ha : PA X (e :: es) t) (hdb : (x == ("__debug__" : Str)) = false) (he : starEach (e :: es) X.env = (false, eval e X.env) :: starEach es X.env) (hpl : (backTo pos (starEach es X.env)).any (·.1) = false) :
    PE X (.Call (.Name x p) (e :: es) [] pos) (tMakeS C sp E t) := by
  refine ⟨fun pins s σ H Q I h => ?_⟩
  refine wpAny_Call_Name_kw (ld_glob I hg hm ?_ hdb)
  refine PySem.W.callWith_K (h₀ := X.base) I.ok.mod.kin M.kp (thn (ha.run pos pins s σ H _ I h) fun us s1 ⟨vs, H1, I1, r, q⟩ => ⟨I1.kIn, ?_⟩) he hpl
  exact run_makeS M F hr hb (hx σ) I1 r q
section
variable {S : Sig} {ρ ρ1 : Env} {a b c e : Expr} {d d1 d2 d3 : D} {ds : List D} {pos p2 : Pos} {pin : List Nat} {es : List Expr} {o : O} {up : O → Env} {x m : Str} {ps : List Str} {k : Nat} {C : Addr}
variable {τ : Type} {dd : τ → List D} {pre : τ → Prop} {slf : τ → O} {res : τ → Except Str O × O}
def exM (up : O → Env) : Except Str O × O → RE
  | (.ok o, s) => .ok o (up s)
  | (.error x, s) => .ex x (up s)
theorem ex_meth {t : TE} {ta : TA} (y : τ) (hp : pre y) {ns : List Str} {os : List O} (hC : slf y = .ins C ns os) (hm : fidx m ns = none)
    (hl : ∀ (σ : L2.St) (F H : Hp) (A : List Addr) (Q : VK), WF F H A → Envs S.K F H σ ρ A → (∀ v B C, Foc S.K F H σ A v (slf y) up B C → Q v H) → t σ H Q) (ha : EA S ta ρ (dd y)) :
    EX S (tMethS C m (spM S.K dd slf pre res) (WE S.wx) t ta) ρ (exM up (res y)) := fun σ F H A Q w n q => hl σ F H A _ w n fun v B C0 fo => by
  have ow1 := fo.own
  rw [hC] at ow1
  cases ow1 with
  | ins hx hn r =>
    rename_i l dx fs A0
    subst hn
    refine ⟨l, dx, fs, rfl, hx, fidx_none hm, ha σ F H A _ w n fun vs F1 H1 g rr => ?_⟩
    have fo := fo.grow g
    have w1 := (g.wf w).perm fo.perm
    refine ⟨y, F1, (l :: A0) ++ [], by rw [List.append_nil]; exact w1.left, .cons fo.own (Owns.fros rr), hp, ?_⟩
    rw [List.append_nil]
    show RM.Post _ _ _ _ _ _ _ (rmM (dd y) (res y))
    have s0 : Stp F H A F1 H1 ((l :: A0) ++ C0) := ((g.stp.mono (by simp) (A' := A)).more (C := A) fun a h => .inl h).perm (fun _ => Iff.rfl) fun a h => by simpa using fo.perm.mem_iff.mpr h
    rcases hr : res y with ⟨z | z, s⟩
    · rw [hr] at q
      intro F2 H2 A2 w2 s2 ows
      cases ows with
      | cons ow r2 =>
        rename_i B1 B2
        obtain ⟨_, rfl⟩ := Owns.fros_inv r2
        rw [List.append_nil] at w2 s2
        obtain ⟨w3, s3, k3⟩ := frame w1 s2 w2
        obtain ⟨A', n', p'⟩ := fo.back F2 H2 s B1 s2.fs k3 ow
        exact q F2 H2 A' (w3.perm p'.symm) ((s0.trans s3).perm (fun _ => Iff.rfl) fun a h => p'.mem_iff.mp h) n'
    · rw [hr] at q
      intro v F2 H2 Bo A2 w2 s2 ow2 ows
      cases ows with
      | cons ow r2 =>
        rename_i B1 B2
        obtain ⟨_, rfl⟩ := Owns.fros_inv r2
        rw [List.append_nil] at w2 s2
        obtain ⟨w3, s3, k3⟩ := frame w1 s2 w2
        obtain ⟨A', n', p'⟩ := fo.back F2 H2 s B1 s2.fs k3 ow
        have p2 : (Bo ++ B1 ++ C0).Perm (Bo ++ A') := by
          rw [List.append_assoc]
          exact List.Perm.append_left Bo p'.symm
        exact q v F2 H2 Bo A' (w3.perm p2) ((s0.trans s3).perm (fun _ => Iff.rfl) fun a h => p2.mem_iff.mpr h) ow2 n'
/-- e.m(a, ..) -/
theorem xx_meth [Calm S] {apos : Pos} {pl : PySem.Env → Sem Bool} (hG : MeG S.P S.w S.K S.mg S.base k C m ps (spM S.K dd slf pre res)) (y : τ) (hp : pre y) (hl : XL S ρ a (slf y) up) {ns : List Str} {os : List O} (hC : slf y = .ins C ns os) (ha : XA S ρ (e :: es) (dd y)) (hk : k ≤ S.kk := by exact Nat.le_of_ble_eq_true rfl) (hm : fidx m ns = none := by decide)
    (he : ∀ env : PySem.Env, starEach (e :: es) env = (false, eval e env) :: starEach es env := by intro _; rfl) (hpl : ∀ env : PySem.Env, (backTo pos (starEach es env)).any (·.1) = false := by intro _; rfl)
    (ht : ∀ env : PySem.Env, eval (.Call (.Attribute a m apos) (e :: es) [] pos) env = (do
      let ov ← eval a env
      standAt apos.atName
      let (f, first) ← holding [ov] (getMethod ov m (pl env))
      callWith pos f first (backTo pos (starEach (e :: es) env)) (backToKw pos (keywordEach [] env))) := by intro _; rfl) : XX S ρ (.Call (.Attribute a m apos) (e :: es) [] pos) (exM up (res y)) := by
  obtain ⟨f, fd, F, me, b⟩ := hG.h
  obtain ⟨t, h1, h2⟩ := hl
  obtain ⟨ta, a1, a2⟩ := ha
  exact ⟨_, fun q ok => pe_methS (X := S.cx q) (h1 q ok) hG.c me F ((ok.calm Calm.h).mono hk) b (fun σ => L2N.passAt ok.tk σ) (a1 q ok) (he _) (hpl _) (ht _), ex_meth y hp hC hm h2 a2⟩
/-- e.m() -/
theorem xx_meth0 [Calm S] {apos : Pos} {pl : PySem.Env → Sem Bool} (hG : MeG S.P S.w S.K S.mg S.base k C m ps (spM S.K dd slf pre res)) (y : τ) (hp : pre y) (hl : XL S ρ a (slf y) up) {ns : List Str} {os : List O} (hC : slf y = .ins C ns os) (hd : dd y = []) (hk : k ≤ S.kk := by exact Nat.le_of_ble_eq_true rfl) (hm : fidx m ns = none := by decide)
    (ht : ∀ env : PySem.Env, eval (.Call (.Attribute a m apos) [] [] pos) env = (do
      let ov ← eval a env
      standAt apos.atName
      let (f, first) ← holding [ov] (getMethod ov m (pl env))
      callWith pos f first (backTo pos (starEach [] env)) (backToKw pos (keywordEach [] env))) := by intro _; rfl) : XX S ρ (.Call (.Attribute a m apos) [] [] pos) (exM up (res y)) := by
  obtain ⟨f, fd, F, me, b⟩ := hG.h
  obtain ⟨t, h1, h2⟩ := hl
  exact ⟨_, fun q ok => pe_methS0 (X := S.cx q) (h1 q ok) hG.c me F ((ok.calm Calm.h).mono hk) b (fun σ => L2N.passAt ok.tk σ) (ht _), ex_meth y hp hC hm h2 (by rw [hd]; exact fun σ F H A Q w n q => q [] F H (Grow.refl w.sub) .nil)⟩
/-- C(a, ..) -/
theorem en_make {t : TA} (y : τ) (hp : pre y) (hs : slf y = .ins C [] []) {s : O} (hr : res y = (.ok (.fro .non), s)) (ha : EA S t ρ (dd y)) : EN S (tMakeS C (spM S.K dd slf pre res) (WE S.wx) t) ρ s := fun σ F H A Q w n q => ha σ F H A _ w n fun vs F1 H1 g rr => by
  intro x dx hx hdx hne
  have g0 := g.ext
  have s1 : Stp F1 H1 [] F1 (upd (upd H1 dx (.own x)) x (.ins C dx [])) [x] := by
    refine ⟨Ext.refl _, fun a u h _ => ?_, fun a u h => .inl h, fun a h => ?_, fun a h => ?_⟩
    · rw [upd_ne (ne_of_none h hx), upd_ne (ne_of_none h hdx)]; exact h
    · rw [List.mem_singleton.mp h]; exact .inr hx
    · by_cases z : a = x
      · subst z; exact hx
      · rw [upd_ne z] at h
        by_cases z2 : a = dx
        · subst z2; exact hdx
        · rw [upd_ne z2] at h; exact h
  have w1 : WF F1 (upd (upd H1 dx (.own x)) x (.ins C dx [])) [x] := by
    refine ⟨fun a u h => ?_, by simp, fun a h => ?_, fun a h => ?_⟩
    · exact s1.keep a u (g0 a u h) (by simp)
    · rw [List.mem_singleton.mp h]
      cases z : F1 x with
      | none => rfl
      | some u => rw [g0 x u z] at hx; cases hx
    · rw [List.mem_singleton.mp h, upd_same]; exact fun z => z
  refine ⟨y, F1, [x] ++ [], by simpa using w1, .cons (by rw [hs]; exact .ins (dx := dx) (fs := []) upd_same rfl .nil) (Owns.fros rr), hp, ?_⟩
  show RM.Post _ _ _ _ _ _ _ (rmM (dd y) (res y))
  rw [hr]
  intro v F2 H2 Bo A2 w2 s2 ow2 ows
  cases ow2 with
  | fro r0 =>
  cases r0
  refine ⟨rfl, ?_⟩
  cases ows with
  | cons ow r2 =>
    rename_i B1 B2
    obtain ⟨_, rfl⟩ := Owns.fros_inv r2
    simp only [List.nil_append, List.append_nil] at w2 s2
    exact q (.ref x) F2 H2 B1 ((g.stp.trans s1).trans s2) w2 ow
theorem ex_makeE {t : TA} (y : τ) (hp : pre y) (hs : slf y = .ins C [] []) {s : O} {z : Str} (hr : res y = (.error z, s)) (ha : EA S t ρ (dd y)) : EX S (tMakeS C (spM S.K dd slf pre res) (WE S.wx) t) ρ (.ex z ρ) := fun σ F H A Q w n q => ha σ F H A _ w n fun vs F1 H1 g rr => by
  intro x dx hx hdx hne
  have g0 := g.ext
  have s1 : Stp F1 H1 [] F1 (upd (upd H1 dx (.own x)) x (.ins C dx [])) [x] := by
    refine ⟨Ext.refl _, fun a u h _ => ?_, fun a u h => .inl h, fun a h => ?_, fun a h => ?_⟩
    · rw [upd_ne (ne_of_none h hx), upd_ne (ne_of_none h hdx)]; exact h
    · rw [List.mem_singleton.mp h]; exact .inr hx
    · by_cases z : a = x
      · subst z; exact hx
      · rw [upd_ne z] at h
        by_cases z2 : a = dx
        · subst z2; exact hdx
        · rw [upd_ne z2] at h; exact h
  have w1 : WF F1 (upd (upd H1 dx (.own x)) x (.ins C dx [])) [x] := by
    refine ⟨fun a u h => ?_, by simp, fun a h => ?_, fun a h => ?_⟩
    · exact s1.keep a u (g0 a u h) (by simp)
    · rw [List.mem_singleton.mp h]
      cases z : F1 x with
      | none => rfl
      | some u => rw [g0 x u z] at hx; cases hx
    · rw [List.mem_singleton.mp h, upd_same]; exact fun z => z
  refine ⟨y, F1, [x] ++ [], by simpa using w1, .cons (by rw [hs]; exact .ins (dx := dx) (fs := []) upd_same rfl .nil) (Owns.fros rr), hp, ?_⟩
  show RM.Post _ _ _ _ _ _ _ (rmM (dd y) (res y))
  rw [hr]
  intro F2 H2 A2 w2 s2 ows
  cases ows with
  | cons ow r2 =>
    rename_i B1 B2
    obtain ⟨_, rfl⟩ := Owns.fros_inv r2
    simp only [List.nil_append, List.append_nil] at w2 s2
    obtain ⟨w3, s3, n3⟩ := beside (g.wf w) (g.envs n) (s1.trans s2) w2
    exact q F2 H2 A w3.right (((g.stp.mono (by simp) (A' := A)).more (C := A) (fun a h => .inl h)).trans (s3.perm (fun _ => by simp) fun a h => List.mem_append_right _ h)) n3
theorem xn_make [Calm S] (hG : MkG S.P S.w S.K S.mg S.base k x C ps (spM S.K dd slf pre res)) (y : τ) (hp : pre y) (hs : slf y = .ins C [] []) {s : O} (hr : res y = (.ok (.fro .non), s)) (ha : XA S ρ (e :: es) (dd y)) (hk : k + 1 ≤ S.kk := by exact Nat.le_of_ble_eq_true rfl) (hg : S.scope.names.lookup x = some .globalImplicit := by rfl) (hdb : (x == ("__debug__" : Str)) = false := by decide)
    (he : ∀ env : PySem.Env, starEach (e :: es) env = (false, eval e env) :: starEach es env := by intro _; rfl) (hpl : ∀ env : PySem.Env, (backTo pos (starEach es env)).any (·.1) = false := by intro _; rfl) : XN S ρ (.Call (.Name x p2) (e :: es) [] pos) s := by
  obtain ⟨f, fd, F, M, b, hm⟩ := hG.h
  obtain ⟨t, a1, a2⟩ := ha
  exact ⟨_, fun q ok => pe_makeS (X := S.cx q) M F ((ok.calm Calm.h).mono hk) (show S.scope.names.lookup x = some .globalImplicit from hg) hm b (fun σ => L2N.passAt ok.tk σ) (a1 q ok) hdb (he _) (hpl _), en_make y hp hs hr a2⟩
theorem xx_makeE [Calm S] (hG : MkG S.P S.w S.K S.mg S.base k x C ps (spM S.K dd slf pre res)) (y : τ) (hp : pre y) (hs : slf y = .ins C [] []) {s : O} {z : Str} (hr : res y = (.error z, s)) (ha : XA S ρ (e :: es) (dd y)) (hk : k + 1 ≤ S.kk := by exact Nat.le_of_ble_eq_true rfl) (hg : S.scope.names.lookup x = some .globalImplicit := by rfl) (hdb : (x == ("__debug__" : Str)) = false := by decide)
    (he : ∀ env : PySem.Env, starEach (e :: es) env = (false, eval e env) :: starEach es env := by intro _; rfl) (hpl : ∀ env : PySem.Env, (backTo pos (starEach es env)).any (·.1) = false := by intro _; rfl) : XX S ρ (.Call (.Name x p2) (e :: es) [] pos) (.ex z ρ) := by
  obtain ⟨f, fd, F, M, b, hm⟩ := hG.h
  obtain ⟨t, a1, a2⟩ := ha
  exact ⟨_, fun q ok => pe_makeS (X := S.cx q) M F ((ok.calm Calm.h).mono hk) (show S.scope.names.lookup x = some .globalImplicit from hg) hm b (fun σ => L2N.passAt ok.tk σ) (a1 q ok) hdb (he _) (hpl _), ex_makeE y hp hs hr a2⟩
end

/-! ### a method's body keeps its promise -/
inductive FitsM : RS → Except Str O × O → Prop
  | rt {o ρ s r} (h0 : ρ[0]? = some (some s)) (h : (.ok o, s) = r) : FitsM (.rt o (some ρ)) r
  | nx {ρ s r} (h0 : ρ[0]? = some (some s)) (h : (.ok (.fro .non), s) = r) : FitsM (.nx ρ) r
  | ex {x ρ s r} (h0 : ρ[0]? = some (some s)) (h : (.error x, s) = r) : FitsM (.ex x (some ρ)) r
section
variable {P : Program} {w : World} {K : PySem.W.Frag} {mg : Str → Option Value} {base : Heap}
theorem self_out {F H : Hp} {σ σ0 : L2.St} {ρ : Env} {A : List Addr} {v : V} {s : O} (n : Envs K F H σ ρ A) (h0 : ρ[0]? = some (some s)) (e0 : σ0[0]? = some (some v)) (p : Pin [0] σ0 σ) : ∃ B A', Own K F H v s B ∧ A.Perm (B ++ A') := by
  obtain ⟨v', B, A', h1, h2, h3, h4⟩ := n.get h0
  have := p.at_ 0 (by simp)
  rw [h1, e0] at this
  cases this
  exact ⟨B, A', h2, h4⟩
theorem def_meth {x qual : Str} {st : Stmt} {f : Addr} {fd : FuncData} {N ps : List Str} {k : Nat} {τ : Type} {dd : τ → List D} {slf : τ → O} {pre : τ → Prop} {res : τ → Except Str O × O} (F : ∃ dvs kws, FunD K x qual (defArgs st) (defBody st) (defScope st) dvs kws f fd) (Sc : FnScope N ps (defScope st)) (hl : ∀ y, (dd y).length + 1 = ps.length)
    (body : ∀ (y : τ) (E : XK), pre y → ∃ r, XB (sigOf P w K mg base N (defScope st) k E) [0] (some (slf y) :: ((dd y).map (fun d => some (O.fro d)) ++ List.replicate (N.length - ps.length) none)) (defBody st) r ∧ FitsM r (res y)) :
    FnOk P w K mg base (L2N.CX P w) (k + 1) f fd ps (spM K dd slf pre res) := by
  obtain ⟨dvs, kws, F⟩ := F
  refine F.ok Sc (fun vs H Q E h => ?_) (fun cdv A outer s H vs Q E hr h => ?_)
  · obtain ⟨y, F1, A1, _, ow, _⟩ := h
    rw [ow.length, List.length_cons, List.length_map, hl]
  · obtain ⟨y, F1, A1, w1, ow, hp, post⟩ := h
    obtain ⟨r, ⟨t, h1, h2⟩, fit⟩ := body y E hp
    obtain ⟨q, ok, e⟩ := sig_ok (P := P) (w := w) (K := K) (mg := mg) (base := base) (cd := cdv) (outer := outer) (H := H) (E := E) Sc hr
    refine ⟨t, by rw [← e]; exact h1 q ok, ?_⟩
    have n1 := start_of (N := N) ow
    rw [List.length_cons, List.length_map, hl, List.map_cons, List.map_map] at n1
    refine h2 _ F1 H A1 _ w1 n1 ?_
    have post' : RM.Post K vs F1 H A1 Q E (rmM (dd y) (res y)) := post
    cases ow with
    | cons ow0 ow1 =>
    rename_i v0 vs B0 C0
    obtain ⟨r0, e0⟩ := Owns.fros_inv ow1
    subst e0
    have z0 : (L2.start N (v0 :: vs))[0]? = some (some v0) := rfl
    cases fit with
    | rt h0 z =>
      rw [← z] at post'
      intro v σ' F' H' B A' w' s' ow' n' p'
      obtain ⟨B1, A2, o1, p1⟩ := self_out n' h0 z0 p'
      have p2 : (B ++ A').Perm ((B ++ (B1 ++ [])) ++ A2) := by
        rw [List.append_nil, List.append_assoc]
        exact List.Perm.append_left B p1
      exact post' v F' H' B (B1 ++ []) (w'.perm p2).left (s'.perm (fun a => Iff.rfl) fun a h => p2.mem_iff.mpr (List.mem_append_left _ h)) ow' (.cons o1 (Owns.fros (r0.mono s'.fs)))
    | nx h0 z =>
      rw [← z] at post'
      intro σ' F' H' A' w' s' n' p'
      obtain ⟨B1, A2, o1, p1⟩ := self_out n' h0 z0 p'
      have p2 : A'.Perm (([] ++ (B1 ++ [])) ++ A2) := by
        rw [List.append_nil, List.nil_append]
        exact p1
      exact post' .non F' H' [] (B1 ++ []) (w'.perm p2).left (s'.perm (fun a => Iff.rfl) fun a h => p2.mem_iff.mpr (List.mem_append_left _ h)) (.fro .non) (.cons o1 (Owns.fros (r0.mono s'.fs)))
    | ex h0 z =>
      rw [← z] at post'
      intro σ' F' H' A' w' s' n' p'
      obtain ⟨B1, A2, o1, p1⟩ := self_out n' h0 z0 p'
      have p2 : A'.Perm ((B1 ++ []) ++ A2) := by
        rw [List.append_nil]
        exact p1
      exact post' F' H' (B1 ++ []) (w'.perm p2).left (s'.perm (fun a => Iff.rfl) fun a h => p2.mem_iff.mpr (List.mem_append_left _ h)) (.cons o1 (Owns.fros (r0.mono s'.fs)))
end
/-! ### as statements -/
section
variable {S : Sig} {ρ ρ1 ρ2 : Env} {e : Expr} {pos : Pos} {pin : List Nat} {o : O} {r : RE}
/-- x = (whatever it is) -/
theorem xs_setM (i : Nat) {x : Str} {p' : Pos} (h : XX S ρ e r) (hr : r = .ok o ρ1 := by rfl) (hq : ρ1.set i (some o) = ρ2 := by rfl) (hi : Nat.blt i ρ1.length = true := by rfl) (hp : i ∉ pin := by decide) (hN : S.N[i]? = some x := by rfl) (hx : Loc S.scope x := by first | exact .inl rfl | exact .inr rfl) (hst : S.st x = true ∨ S.scope.names.lookup x = some .local := by first | exact .inl rfl | exact .inr rfl)
    (hs : ∀ env : PySem.Env, swapsWith e (some (.Name x p')) pos.line { env with scope := S.scope } = pure false := by intro _; rfl) : XS S pin ρ (.Assign [.Name x p'] e pos) (.nx ρ2) := by
  subst hr; subst hq
  exact xs_set i h hi hp hN hx hst hs
theorem xs_exprM (h : XX S ρ e r) (hr : r = .ok o ρ1 := by rfl) (hq : ρ1 = ρ2 := by rfl) (hs : ∀ env : PySem.Env, swapsWith e none pos.line env = pure false := by intro _; rfl) : XS S pin ρ (.Expr e pos) (.nx ρ2) := by
  subst hr; subst hq
  exact xs_expr h hs
theorem xs_fldM {C : Addr} {ns : List Str} {os : List O} {f : Str} {value b : Expr} {pos' : Pos} {o2 : O} {up : O → Env} (c : Cls S.K C) (na : NoAttr S.K C f) (hv : XX S ρ value r) (h : XL S ρ b (.ins C ns os) up) (hr : r = .ok o2 ρ := by rfl) (hf : fidx f ns = none := by decide) (hl : ns.length < 900 := by decide) (hq : up (.ins C (ns ++ [f]) (os ++ [o2])) = ρ2 := by rfl)
    (hs : ∀ env : PySem.Env, swapsWith value (some (.Attribute b f pos')) pos.line env = pure false := by intro _; rfl) : XS S pin ρ (.Assign [.Attribute b f pos'] value pos) (.nx ρ2) := by
  subst hr; subst hq
  exact xs_fldN c na hv h hf hl hs
end
end G

namespace G
open PySem PySem.Spec PyProof.Rows L2
open PySem.W (Datum DatumOrd Tup T3 EachIs)
open Enc (enc)

/-! ### sorted -/
def sortT {T : Type} [DecidableEq T] [DatumOrd T] (xs : List T) : List T := xs.mergeSort fun a b => !DatumOrd.lt b a
/-- what the sort asks of the items' kind -/
class SortK (T : Type) [DecidableEq T] [Datum T] : Prop where
  h : (∀ b : T, ∃ x r, Datum.toD b = .tuple (x :: r)) ∨ (∀ b : T, Datum.toD b ≠ .none ∧ ∀ xs, Datum.toD b ≠ .tuple xs)
  d : Datum.depth T ≤ 60
instance : SortK Int := ⟨.inr fun b => ⟨fun z => (nomatch z), fun xs z => (nomatch z)⟩, by decide⟩
instance : SortK (Int × Int) := ⟨.inl fun b => ⟨_, _, rfl⟩, by decide⟩
instance : SortK (Int × (Int × Int)) := ⟨.inl fun b => ⟨_, _, rfl⟩, by decide⟩
instance : SortK ((Int × Int) × (Int × Int)) := ⟨.inl fun b => ⟨_, _, rfl⟩, by decide⟩
section
variable {T : Type} [DecidableEq T] [DatumOrd T] [Enc T] [SortK T]
def rSortD (K : PySem.W.Frag) (T : Type) [DecidableEq T] [DatumOrd T] [Enc T] : List V → Hp → VK → Prop := fun vs H Q => ∃ (F : Hp) (a : Addr) (xs : List V) (bs : List T), vs = [.ref a] ∧ Ext F H ∧ SqL K H a xs ∧ Reps K F xs (bs.map enc) ∧
  ∀ ys p, Reps K F ys ((sortT bs).map enc) → H p = none → Q (.ref p) (upd H p (.lst ys))
theorem each_of {X : Cx} {pins : List (Addr × Obj)} {σ : L2.St} {H F : Hp} {s : Shared} (I : Inv X pins σ H s) (e : Ext F H) : ∀ {xs : List V} {us : List Value} {bs : List T}, Reps X.K F xs (bs.map enc) → Vals xs us →
    EachIs (fun u b => ∃ v, RelV v u ∧ Rep X.K F v (enc b)) us bs ∧ EachIs (fun u b => ∃ as, Reads s.heap u (Datum.toD b) as) us bs
  | [], _, [], _, .nil => ⟨.nil, .nil⟩
  | v :: xs, u :: us, b :: bs, .cons h r, .cons rv rr => by
    obtain ⟨h1, h2⟩ := each_of I e r rr
    exact ⟨.cons ⟨v, rv, h⟩ h1, .cons (holds_of I (h.mono e) rv) h2⟩
  | [], _, b :: bs, r, _ => by cases r
  | v :: xs, _, [], r, _ => by cases r
theorem each_back {K : PySem.W.Frag} {F : Hp} : ∀ {us : List Value} {bs : List T}, EachIs (fun u b => ∃ v, RelV v u ∧ Rep K F v (enc b)) us bs → ∃ ys, Vals ys us ∧ Reps K F ys (bs.map enc)
  | _, _, .nil => ⟨[], .nil, .nil⟩
  | _, _, .cons ⟨v, r, h⟩ t => by
    obtain ⟨ys, h1, h2⟩ := each_back t
    exact ⟨v :: ys, .cons r h1, .cons h h2⟩
theorem cr_sortD {X : Cx} (hu : X.A.units + 100 < cLine) : CallR X (.builtin "sorted") (rSortD X.K T) := by
  intro pins s σ H vs us Q I r h
  obtain ⟨F, a, xs, bs, rfl, e, hs, rs, q⟩ := h
  obtain ⟨its, rv, hl, hz⟩ := I.list hs
  obtain ⟨u, rfl, ru⟩ := vals1 r
  obtain rfl : u = Value.ref a := ru
  obtain ⟨e1, e2⟩ := each_of I e rs rv
  have len1 := rs.length
  rw [List.length_map] at len1
  have len2 := rv.length
  refine PySem.W.sorted_data (vs := its) (bs := bs) (enc := Datum.toD) hl.isList e1 e2 (PySem.W.AllAlike.of fun a b => DatumOrd.alike a b) ?_ (by omega) (fun b _ => ?_) fun out ho eo => ?_
  · rcases (inferInstance : SortK T).h with h | h
    · exact PySem.W.Sortable.tuples h
    · exact PySem.W.Sortable.others h
  · have := Datum.depth_le b
    have := (inferInstance : SortK T).d
    omega
  · obtain ⟨ys, h1, h2⟩ := each_back eo
    obtain ⟨ep, he'⟩ := PyProof.Rows.sortedAll_at s.heap its out.toArray
    have hlen : ys.length ≤ sizeLine := by rw [h1.length, ho]; omega
    have e3 : bs.mergeSort (PySem.W.dataLe false Datum.toD) = sortT bs := by
      unfold sortT
      rw [PySem.W.dataLe_eq]
      congr 1
      funext a b
      show (!PySem.W.dataLt (Datum.toD b) (Datum.toD a)) = _
      rw [DatumOrd.lt_eq]
    rw [e3] at h2
    exact ⟨.ref _, upd H (s.heap.objs.size + 1) (.lst ys), I.laid (t' := s.toks) (fun _ _ => PyProof.Rows.sortedAll_old) (Nat.le_succ _) ⟨hlen, out.toArray.toList, ep, by simpa using h1, he'⟩, rfl, q ys _ h2 (I.hok.fresh (Nat.le_succ _))⟩
variable {S : Sig} {ρ : Env} {a b c e : Expr} {d d1 d2 d3 : D} {ds : List D} {pos p2 : Pos} {es : List Expr}
theorem cb_sorted {xs : List T} : CBF S "sorted" [enc xs] (enc (sortT xs)) := ⟨rSortD S.K T, fun q o => cr_sortD (X := S.cx q) (by have := o.room.un; show q.A.units + 100 < cLine; omega), fun vs F H Q e rr q => by
  obtain ⟨v, rfl, r⟩ := reps1 rr
  cases r with
  | lst h r =>
    refine ⟨F, _, _, xs, rfl, e, .of (e _ _ h), r, fun ys p hy hp => ?_⟩
    have g := Grow.new (o := .lst ys) e hp
    exact q (.ref p) _ _ g (.lst upd_same (hy.mono g.stp.fs))⟩
theorem tp_sorted {xs : List T} (hm : S.mg "sorted" = none) (h : TP S ρ a xs) (hg : S.scope.names.lookup ("sorted" : Str) = some .globalImplicit := by rfl) (he : ∀ env : PySem.Env, starEach [a] env = (false, eval a env) :: starEach [] env := by intro _; rfl) : TP S ρ (.Call (.Name "sorted" p2) [a] [] pos) (sortT xs) := by
  refine xp_cbF cb_sorted hm (xa_cons h xa_nil he) hg ?_ ?_ ?_ he ?_ <;> first | (intro _; rfl) | decide +kernel | rfl
end

/-! ### min, max of a list of ints -/
def minL : List Int → Int
  | [] => 0
  | x :: r => r.foldl (fun m y => if y < m then y else m) x
def maxL : List Int → Int
  | [] => 0
  | x :: r => r.foldl (fun m y => if m < y then y else m) x
theorem minL_of {ns : List Int} {m : Int} (h : m ∈ ns) (h2 : ∀ y ∈ ns, m ≤ y) : minL ns = m := by
  cases ns with
  | nil => cases h
  | cons x r =>
    show r.foldl _ x = m
    have key : ∀ (r : List Int) (x : Int), (x = m ∨ m ∈ r) → m ≤ x → (∀ y ∈ r, m ≤ y) → r.foldl (fun m y => if y < m then y else m) x = m := by
      intro r
      induction r with
      | nil => intro x h _ _; simpa using h
      | cons z r ih =>
        intro x h hx hr
        rw [List.foldl_cons]
        have hz := hr z (by simp)
        refine ih _ ?_ ?_ fun y hy => hr y (by simp [hy])
        · by_cases c : z < x
          · rw [if_pos c]
            rcases h with h | h
            · omega
            · rcases List.mem_cons.mp h with h | h
              · exact .inl h.symm
              · exact .inr h
          · rw [if_neg c]
            rcases h with h | h
            · exact .inl h
            · rcases List.mem_cons.mp h with h | h
              · exact .inl (by omega)
              · exact .inr h
        · split <;> omega
    exact key r x ((List.mem_cons.mp h).imp Eq.symm id) (h2 x (by simp)) fun y hy => h2 y (by simp [hy])
theorem maxL_of {ns : List Int} {m : Int} (h : m ∈ ns) (h2 : ∀ y ∈ ns, y ≤ m) : maxL ns = m := by
  cases ns with
  | nil => cases h
  | cons x r =>
    show r.foldl _ x = m
    have key : ∀ (r : List Int) (x : Int), (x = m ∨ m ∈ r) → x ≤ m → (∀ y ∈ r, y ≤ m) → r.foldl (fun m y => if m < y then y else m) x = m := by
      intro r
      induction r with
      | nil => intro x h _ _; simpa using h
      | cons z r ih =>
        intro x h hx hr
        rw [List.foldl_cons]
        have hz := hr z (by simp)
        refine ih _ ?_ ?_ fun y hy => hr y (by simp [hy])
        · by_cases c : x < z
          · rw [if_pos c]
            rcases h with h | h
            · omega
            · rcases List.mem_cons.mp h with h | h
              · exact .inl h.symm
              · exact .inr h
          · rw [if_neg c]
            rcases h with h | h
            · exact .inl h
            · rcases List.mem_cons.mp h with h | h
              · exact .inl (by omega)
              · exact .inr h
        · split <;> omega
    exact key r x ((List.mem_cons.mp h).imp Eq.symm id) (h2 x (by simp)) fun y hy => h2 y (by simp [hy])
section
variable {S : Sig} {ρ : Env} {a b c e : Expr} {d d1 d2 d3 : D} {ds : List D} {pos p2 : Pos} {es : List Expr}
theorem cb_minL [Calm S] {ns : List Int} (hn : 0 < ns.length) : CB S "min" [.lst (ns.map D.int)] (.int (minL ns)) := ⟨rMin S.K, fun _ _ => cr_min Calm.h, fun vs F H Q e rr q => by
  obtain ⟨v, rfl, r⟩ := reps1 rr
  cases r with
  | lst h r => exact ⟨_, ns, rfl, by rw [← map_int_reps r]; exact .of h, hn, fun m h1 h2 => by rw [← minL_of h1 h2]; exact q _ F H (Grow.refl e) .int⟩⟩
theorem cb_maxL [Calm S] {ns : List Int} (hn : 0 < ns.length) : CB S "max" [.lst (ns.map D.int)] (.int (maxL ns)) := ⟨rMax S.K, fun _ _ => cr_max Calm.h, fun vs F H Q e rr q => by
  obtain ⟨v, rfl, r⟩ := reps1 rr
  cases r with
  | lst h r => exact ⟨_, ns, rfl, by rw [← map_int_reps r]; exact .of h, hn, fun m h1 h2 => by rw [← maxL_of h1 h2]; exact q _ F H (Grow.refl e) .int⟩⟩
theorem tp_minL [Calm S] {ns : List Int} (hm : S.mg "min" = none) (h : TP S ρ a ns) (hn : 0 < ns.length) (hg : S.scope.names.lookup ("min" : Str) = some .globalImplicit := by rfl) (he : ∀ env : PySem.Env, starEach [a] env = (false, eval a env) :: starEach [] env := by intro _; rfl) : TP S ρ (.Call (.Name "min" p2) [a] [] pos) (minL ns) := by
  refine xp_cb (cb_minL hn) hm (xav_cons h.v xav_nil he) hg ?_ ?_ ?_ he ?_ <;> first | (intro _; rfl) | decide +kernel | rfl
theorem tp_maxL [Calm S] {ns : List Int} (hm : S.mg "max" = none) (h : TP S ρ a ns) (hn : 0 < ns.length) (hg : S.scope.names.lookup ("max" : Str) = some .globalImplicit := by rfl) (he : ∀ env : PySem.Env, starEach [a] env = (false, eval a env) :: starEach [] env := by intro _; rfl) : TP S ρ (.Call (.Name "max" p2) [a] [] pos) (maxL ns) := by
  refine xp_cb (cb_maxL hn) hm (xav_cons h.v xav_nil he) hg ?_ ?_ ?_ he ?_ <;> first | (intro _; rfl) | decide +kernel | rfl

/-! ### isinstance, built-in classes -/
def D.cls : D → Option String
  | .non => some "NoneType" | .bl _ => some "bool" | .int _ => some "int" | .str _ => some "str" | .lst _ => some "list" | .tup _ => some "tuple"
  | _ => none
theorem tyx_of {K : PySem.W.Frag} {H : Hp} {v : V} {d : D} {c : String} (h : Rep K H v d) (hc : d.cls = some c) : TyX K H v (.type c) := by
  cases h with
  | non => cases hc; exact .base .non
  | bl => cases hc; exact .base (.bl _)
  | int => cases hc; exact .base (.int _)
  | str => cases hc; exact .base (.str _)
  | lst h _ => cases hc; exact .base (.lst h)
  | tup h _ =>
    cases hc
    exact .base (.tup h)
  | _ => cases hc
theorem cb_isi {c n : String} {k : Bool} (hc : d.cls = some c) (hk : kitB c n = some k) : CB S "isinstance" [d, .ty n] (.bl k) := ⟨rIsi S.K, fun _ _ => call_isi, fun vs F H Q e rr q => by
  obtain ⟨v, w, rfl, r, r2⟩ := reps2 rr
  cases r2
  exact ⟨v, _, _, _, k, rfl, .ty n, tyx_of r hc, kit_ty hk, q _ F H (Grow.refl e) .bl⟩⟩
theorem xp_ty {n : String} {x : Str} (hm : S.mg x = none) (hg : S.scope.names.lookup x = some .globalImplicit := by rfl) (hv : bootBuiltins x = some (.type n) := by decide +kernel) (hn : x ≠ "__name__" := by decide) (hd : (x == ("__debug__" : Str)) = false := by decide) : XP S ρ (.Name x pos) (.ok (.ty n)) :=
  ⟨_, fun q _ => pe_bltn (X := S.cx q) (show S.scope.names.lookup x = some .globalImplicit from hg) hm hv (show RelV (.ty n) (.type n) from rfl) hn hd, ep_c fun _ => .ty⟩
theorem xt_cb {x : Str} {id : String} {p : Pos} {k : Bool} (h : XP S ρ (.Call (.Name x p) (e :: es) [] pos) (.ok (.bl k))) : XT S ρ (.Call (.Name x p) (e :: es) [] pos) k := xt_val h
/-- isinstance(a, T) -/
theorem tp_isi {x : Str} {c n : String} (k : Bool) {p3 : Pos} (hm : S.mg "isinstance" = none) (hm2 : S.mg x = none) (ha : XV S ρ a d) (hc : d.cls = some c := by rfl) (hk : kitB c n = some k := by decide +kernel) (hv : bootBuiltins x = some (.type n) := by decide +kernel) (hg : S.scope.names.lookup ("isinstance" : Str) = some .globalImplicit := by rfl) (hg2 : S.scope.names.lookup x = some .globalImplicit := by rfl) (hn : x ≠ "__name__" := by decide) (hd : (x == ("__debug__" : Str)) = false := by decide) (he : ∀ env : PySem.Env, starEach [a, .Name x p3] env = (false, eval a env) :: starEach [.Name x p3] env := by intro _; rfl) :
    XP S ρ (.Call (.Name "isinstance" p2) [a, .Name x p3] [] pos) (.ok (.bl k)) := by
  refine xp_cb (cb_isi hc hk) hm (xav_cons ha (xav_cons (XP.v (xp_ty hm2 hg2 hv hn hd)) xav_nil ?_) he) hg ?_ ?_ ?_ he ?_ <;> first | (intro _; rfl) | decide +kernel | rfl
end
end G

namespace G
open PySem PySem.Spec PyProof.Rows L2
open PySem.W (Datum DatumOrd Tup T3 EachIs)
open Enc (enc)
abbrev Cell := Int × Int
abbrev Floor := T3 Int Int (Tup Cell)
abbrev FnF (K : PySem.W.Frag) (x q : Str) (st : Stmt) (f : Addr) (fd : FuncData) : Prop := ∃ dvs kws, FunD K x q (defArgs st) (defBody st) (defScope st) dvs kws f fd
/-! ### sorting, as it can be reckoned -/
class LOrd (T : Type) [DecidableEq T] [DatumOrd T] : Prop where
  tr : ∀ a b c : T, DatumOrd.lt b a = false → DatumOrd.lt c b = false → DatumOrd.lt c a = false
  tot : ∀ a b : T, DatumOrd.lt b a = false ∨ DatumOrd.lt a b = false
  anti : ∀ a b : T, DatumOrd.lt b a = false → DatumOrd.lt a b = false → a = b
theorem lt_int (a b : Int) : (DatumOrd.lt a b) = decide (a < b) := rfl
instance : LOrd Int := ⟨fun a b c h h' => by rw [lt_int] at *; simp at *; omega, fun a b => by simp only [lt_int]; simp; omega, fun a b h h' => by rw [lt_int] at *; simp at *; omega⟩
section
variable {α β : Type} [DecidableEq α] [DatumOrd α] [DecidableEq β] [DatumOrd β]
theorem lt_pair (p q : α × β) : DatumOrd.lt p q = if p.1 = q.1 then DatumOrd.lt p.2 q.2 else DatumOrd.lt p.1 q.1 := rfl
theorem lt_self [LOrd α] (a : α) : DatumOrd.lt a a = false := (LOrd.tot a a).elim id id
instance [LOrd α] [LOrd β] : LOrd (α × β) where
  tr a b c h h' := by
    rw [lt_pair] at *
    by_cases e : b.1 = a.1
    · rw [if_pos e] at h
      by_cases e' : c.1 = b.1
      · rw [if_pos e'] at h'
        rw [if_pos (e'.trans e)]
        exact LOrd.tr _ _ _ h h'
      · rw [if_neg e'] at h'
        rw [if_neg fun z => e' (z.trans e.symm), ← e]
        exact h'
    · rw [if_neg e] at h
      by_cases e' : c.1 = b.1
      · rw [if_neg fun z => e (e'.symm.trans z), e']
        exact h
      · rw [if_neg e'] at h'
        have h2 := LOrd.tr _ _ _ h h'
        by_cases z : c.1 = a.1
        · rw [z] at h'
          exact absurd (LOrd.anti _ _ h h') fun w => e w.symm
        · rw [if_neg z]; exact h2
  tot a b := by
    rw [lt_pair, lt_pair]
    by_cases e : a.1 = b.1
    · rw [if_pos e, if_pos e.symm]; exact LOrd.tot _ _
    · rw [if_neg e, if_neg fun z => e z.symm]; exact LOrd.tot _ _
  anti a b h h' := by
    rw [lt_pair] at *
    by_cases e : a.1 = b.1
    · rw [if_pos e] at h'
      rw [if_pos e.symm] at h
      exact Prod.ext e (LOrd.anti _ _ h h')
    · rw [if_neg e] at h'
      rw [if_neg fun z => e z.symm] at h
      exact absurd (LOrd.anti _ _ h h') e
end
section
variable {T : Type} [DecidableEq T] [DatumOrd T]
def insT (x : T) : List T → List T
  | [] => [x]
  | y :: r => if DatumOrd.lt y x = true then y :: insT x r else x :: y :: r
def isortT : List T → List T
  | [] => []
  | x :: r => insT x (isortT r)
theorem insT_perm (x : T) : ∀ r : List T, (insT x r).Perm (x :: r)
  | [] => .refl _
  | y :: r => by
    unfold insT
    split
    · exact ((insT_perm x r).cons y).trans (.swap x y r)
    · exact .refl _
theorem isortT_perm : ∀ r : List T, (isortT r).Perm r
  | [] => .refl _
  | x :: r => (insT_perm x _).trans ((isortT_perm r).cons x)
abbrev SrtT (xs : List T) : Prop := xs.Pairwise fun a b => DatumOrd.lt b a = false
theorem insT_srt [LOrd T] (x : T) : ∀ r : List T, SrtT r → SrtT (insT x r)
  | [], _ => by unfold insT; exact List.pairwise_singleton _ _
  | y :: r, h => by
    unfold insT
    rw [SrtT, List.pairwise_cons] at h
    by_cases c : DatumOrd.lt y x = true
    · rw [if_pos c]
      refine List.pairwise_cons.mpr ⟨fun z hz => ?_, insT_srt x r h.2⟩
      rcases List.mem_cons.mp ((insT_perm x r).mem_iff.mp hz) with rfl | hz
      · rcases LOrd.tot y z with w | w
        · exact w
        · rw [w] at c; cases c
      · exact h.1 z hz
    · rw [if_neg c]
      have c' : DatumOrd.lt y x = false := by simpa using c
      refine List.pairwise_cons.mpr ⟨fun z hz => ?_, List.pairwise_cons.mpr h⟩
      rcases List.mem_cons.mp hz with rfl | hz
      · exact c'
      · exact LOrd.tr _ _ _ c' (h.1 z hz)
theorem isortT_srt [LOrd T] : ∀ r : List T, SrtT (isortT r)
  | [] => List.Pairwise.nil
  | x :: r => insT_srt x _ (isortT_srt r)
theorem srt_unique [LOrd T] : ∀ (xs ys : List T), SrtT xs → SrtT ys → xs.Perm ys → xs = ys
  | [], ys, _, _, p => by rw [List.nil_perm.mp p]
  | x :: xs, [], _, _, p => by cases (List.perm_nil.mp p)
  | x :: xs, y :: ys, h, h', p => by
    have hx := List.pairwise_cons.mp h
    have hy := List.pairwise_cons.mp h'
    have e : x = y := by
      have m1 : x ∈ y :: ys := p.mem_iff.mp (by simp)
      have m2 : y ∈ x :: xs := p.mem_iff.mpr (by simp)
      rcases List.mem_cons.mp m1 with e | m1
      · exact e
      · rcases List.mem_cons.mp m2 with e | m2
        · exact e.symm
        · exact LOrd.anti _ _ (hx.1 y m2) (hy.1 x m1)
    subst e
    rw [srt_unique xs ys hx.2 hy.2 (List.Perm.cons_inv p)]
theorem sortT_perm (xs : List T) : (sortT xs).Perm xs := List.mergeSort_perm _ _
theorem sortT_srt [LOrd T] (xs : List T) : SrtT (sortT xs) := by
  have := List.pairwise_mergeSort (le := fun a b : T => !DatumOrd.lt b a) (fun a b c h h' => by simp at *; exact LOrd.tr _ _ _ h h') (fun a b => by simp; exact LOrd.tot a b) xs
  exact this.imp fun h => by simpa using h
theorem sortT_eq [LOrd T] (xs : List T) : sortT xs = isortT xs := srt_unique _ _ (sortT_srt xs) (isortT_srt xs) ((sortT_perm xs).trans (isortT_perm xs).symm)
theorem sortT_of [LOrd T] {xs ys : List T} (h : SrtT ys) (p : ys.Perm xs) : sortT xs = ys := srt_unique _ _ (sortT_srt xs) h ((sortT_perm xs).trans p.symm)
/-- two of them in their order -/
def two (a b : T) : T × T := if DatumOrd.lt b a = true then (b, a) else (a, b)
theorem sortT_two [LOrd T] (a b : T) : sortT [a, b] = [(two a b).1, (two a b).2] := by
  rw [sortT_eq]
  show insT a (insT b []) = _
  unfold two insT
  show (if DatumOrd.lt b a = true then b :: insT a [] else _) = _
  split <;> rfl
end

/-! ### the script -/
section
variable {S : Sig} {ρ : Env} {a b c e : Expr} {pos p2 : Pos}
def rEqS (K : PySem.W.Frag) (x : Scr) (y : List Int) (k : Bool) : R2 := fun v u H Q => Rep K H v (enc x) ∧ Rep K H u (enc y) ∧ Q (.bl k) H
theorem oc_eqS {x : Scr} {y : List Int} : OC S .Eq (enc x) (enc y) (decide (x.l = y)) := ⟨rEqS S.K x y _, fun q o pins s σ H v u vv uv Q I rv ru h => by
  obtain ⟨h1, h2, q1⟩ := h
  have := o.units
  have hd : Datum.depth (List Int) ≤ 64 := by decide
  have hu : q.A.units + Datum.depth (List Int) < cLine := by omega
  exact PySem.W.eq_datum (x := x.l) (y := y) (show PySem.W.Holds s.heap _ x.l from Dp.reads I _ _ _ (Enc.dp _ _ _ x h1) rv) (holds_of I h2 ru) hu ⟨.bl _, H, I, rfl, q1⟩, fun v u F H Q e rx ry q => ⟨rx, ry, q _ F H (Grow.refl e) .bl⟩⟩
theorem tt_eqS {x : Scr} {y : List Int} (ha : TV S ρ a x) (hb : TV S ρ b y) : XT S ρ (.Compare a [.Eq] [b] pos) (decide (x.l = y)) := xt_cmp oc_eqS ha hb
theorem atI_ok {α : Type} {xs : List α} {i : Int} (h : 0 ≤ i ∧ i < xs.length) : ∃ x, atI xs i = some x := by
  have h2 : xs[i.toNat]? = some (xs[i.toNat]'(by omega)) := List.getElem?_eq_getElem _
  exact ⟨_, by
    have := atI_nat h2
    rwa [Int.toNat_of_nonneg h.1] at this⟩
theorem tp_ixS {x : Scr} {i v : Int} (ha : TP S ρ a x) (hb : TP S ρ b i) (h : atI x.l i = some v) (hs : PlainIx b := by intro _ _; rfl) : TP S ρ (.Subscript a b pos) v := xp_ix (oi_scr (by rw [atI_map, h]; rfl)) ha hb hs
theorem tp_lenS {x : Scr} (hm : S.mg "len" = none) (h : TV S ρ a x) (hg : S.scope.names.lookup ("len" : Str) = some .globalImplicit := by rfl) (he : ∀ env : PySem.Env, starEach [a] env = (false, eval a env) :: starEach [] env := by intro _; rfl) : TP S ρ (.Call (.Name "len" p2) [a] [] pos) ((x.l.length : Nat) : Int) := by
  have := xp_cb (p := p2) (pos := pos) (cb_len_scr (S := S) (ds := x.l.map enc)) hm (xav_cons h xav_nil he) hg (by decide +kernel) (by decide) (by decide) he (by intro _; rfl)
  rw [List.length_map] at this
  exact this
theorem tp_lenL {T : Type} [DecidableEq T] [Datum T] [Enc T] {x : List T} (hm : S.mg "len" = none) (h : TV S ρ a x) (hg : S.scope.names.lookup ("len" : Str) = some .globalImplicit := by rfl) (he : ∀ env : PySem.Env, starEach [a] env = (false, eval a env) :: starEach [] env := by intro _; rfl) : TP S ρ (.Call (.Name "len" p2) [a] [] pos) ((x.length : Nat) : Int) := by
  have := xp_cb (p := p2) (pos := pos) (cb_len_lst (S := S) (ds := x.map enc)) hm (xav_cons h xav_nil he) hg (by decide +kernel) (by decide) (by decide) he (by intro _; rfl)
  rw [List.length_map] at this
  exact this
theorem tp_abs {i : Int} (hm : S.mg "abs" = none) (h : TP S ρ a i) (hg : S.scope.names.lookup ("abs" : Str) = some .globalImplicit := by rfl) (he : ∀ env : PySem.Env, starEach [a] env = (false, eval a env) :: starEach [] env := by intro _; rfl) : TP S ρ (.Call (.Name "abs" p2) [a] [] pos) (if i < 0 then -i else i) :=
  xp_cb (p := p2) (pos := pos) (cb_abs (S := S)) hm (xav_cons h.v xav_nil he) hg (by decide +kernel) (by decide) (by decide) he (by intro _; rfl)
theorem tp_intb {k : Bool} (hm : S.mg "int" = none) (h : TP S ρ a k) (hg : S.scope.names.lookup ("int" : Str) = some .globalImplicit := by rfl) (he : ∀ env : PySem.Env, starEach [a] env = (false, eval a env) :: starEach [] env := by intro _; rfl) : TP S ρ (.Call (.Name "int" p2) [a] [] pos) (if k then (1 : Int) else 0) :=
  xp_ct (p := p2) (pos := pos) (ct_int_bl (S := S)) hm (xa_cons h xa_nil he) hg (by decide +kernel) (by decide) (by decide) he (by intro _; rfl)
theorem tp_max2 [Calm S] {i j : Int} (hm : S.mg "max" = none) (h : TP S ρ a i) (h' : TP S ρ b j) (hg : S.scope.names.lookup ("max" : Str) = some .globalImplicit := by rfl) (he : ∀ env : PySem.Env, starEach [a, b] env = (false, eval a env) :: starEach [b] env := by intro _; rfl) (he2 : ∀ env : PySem.Env, starEach [b] env = (false, eval b env) :: starEach [] env := by intro _; rfl) (hpl : ∀ env : PySem.Env, (backTo pos (starEach [b] env)).any (·.1) = false := by intro _; rfl) : TP S ρ (.Call (.Name "max" p2) [a, b] [] pos) (if j > i then j else i) :=
  xp_cb (p := p2) (pos := pos) (cb_max2 (S := S)) hm (xav_cons h.v (xav_cons h'.v xav_nil he2) he) hg (by decide +kernel) (by decide) (by decide) he hpl
theorem tp_min2 [Calm S] {i j : Int} (hm : S.mg "min" = none) (h : TP S ρ a i) (h' : TP S ρ b j) (hg : S.scope.names.lookup ("min" : Str) = some .globalImplicit := by rfl) (he : ∀ env : PySem.Env, starEach [a, b] env = (false, eval a env) :: starEach [b] env := by intro _; rfl) (he2 : ∀ env : PySem.Env, starEach [b] env = (false, eval b env) :: starEach [] env := by intro _; rfl) (hpl : ∀ env : PySem.Env, (backTo pos (starEach [b] env)).any (·.1) = false := by intro _; rfl) : TP S ρ (.Call (.Name "min" p2) [a, b] [] pos) (if j < i then j else i) :=
  xp_cb (p := p2) (pos := pos) (cb_min2 (S := S)) hm (xav_cons h.v (xav_cons h'.v xav_nil he2) he) hg (by decide +kernel) (by decide) (by decide) he hpl
/-- tuple(sorted([a, b])) -/
theorem tp_tupL {T : Type} [DecidableEq T] [Datum T] [Enc T] {x : List T} (hm : S.mg "tuple" = none) (h : TP S ρ a x) (hg : S.scope.names.lookup ("tuple" : Str) = some .globalImplicit := by rfl) (he : ∀ env : PySem.Env, starEach [a] env = (false, eval a env) :: starEach [] env := by intro _; rfl) : TP S ρ (.Call (.Name "tuple" p2) [a] [] pos) (Tup.mk x) :=
  xp_ct (p := p2) (pos := pos) (ct_tuple_lst (S := S)) hm (xa_cons h xa_nil he) hg (by decide +kernel) (by decide) (by decide) he (by intro _; rfl)
theorem tp_tup2 {T : Type} [DecidableEq T] [Datum T] [Enc T] {x y : T} (hm : S.mg "tuple" = none) (h : TP S ρ a [x, y]) (hg : S.scope.names.lookup ("tuple" : Str) = some .globalImplicit := by rfl) (he : ∀ env : PySem.Env, starEach [a] env = (false, eval a env) :: starEach [] env := by intro _; rfl) : TP S ρ (.Call (.Name "tuple" p2) [a] [] pos) (x, y) :=
  xp_ct (p := p2) (pos := pos) (ct_tuple_lst (S := S)) hm (xa_cons h xa_nil he) hg (by decide +kernel) (by decide) (by decide) he (by intro _; rfl)
theorem tp_lst2 {T : Type} [DecidableEq T] [Datum T] [Enc T] {x y : T} (h : XA S ρ [a, b] [enc x, enc y]) : TP S ρ (.List [a, b] pos) [x, y] := xp_lst h
theorem tp_nilL {T : Type} [DecidableEq T] [Datum T] [Enc T] : TP S ρ (.List [] pos) ([] : List T) := xp_lst xa_nil
theorem tp_tsort2 {T : Type} [DecidableEq T] [DatumOrd T] [Enc T] [SortK T] [LOrd T] {x y : T} {p3 pos2 : Pos} (hm : S.mg "tuple" = none) (hm2 : S.mg "sorted" = none) (h : TP S ρ a [x, y]) (hg : S.scope.names.lookup ("tuple" : Str) = some .globalImplicit := by rfl) (hg2 : S.scope.names.lookup ("sorted" : Str) = some .globalImplicit := by rfl) (he : ∀ env : PySem.Env, starEach [a] env = (false, eval a env) :: starEach [] env := by intro _; rfl) :
    TP S ρ (.Call (.Name "tuple" p2) [.Call (.Name "sorted" p3) [a] [] pos2] [] pos) (two x y) :=
  (tp_tup2 hm ((tp_sorted hm2 h hg2 he).cast (by rw [sortT_two])) hg (by intro _; rfl)).cast (by rfl)
end
/-! ### lists that grow, typed -/
section
variable {T : Type} [DecidableEq T] [Datum T] [Enc T]
def oL (xs : List T) : O := .lst ((xs.map enc).map .fro)
theorem oL_d (xs : List T) : (oL xs).d = enc xs := by show O.d (.lst _) = D.lst _; simp only [O.d]; rw [ds_fros]
theorem oL_nil : O.lst (([] : List D).map .fro) = oL ([] : List T) := rfl
variable {S : Sig} {ρ : Env} {a e : Expr} {up : O → Env}
theorem xx_app {xs : List T} {x : T} {apos cpos : Pos} (hl : XL S ρ a (oL xs) up) (he : TP S ρ e x) (hn : xs.length < 1000000)
    (hbase : ∀ env : PySem.Env, attributeBase a "append" env (eval a env) = eval a env := by intro _; rfl)
    (hfew : ∀ env : PySem.Env, ((backTo cpos (starEach [e] env)).all (fun x => !x.1) && (backToKw cpos (keywordEach [] env)).all (fun x => x.1.isSome) && decide ([e].length + ([] : List Keyword).length + (if ([] : List Keyword).isEmpty then 0 else 1) < 30)) = true := by intro _; rfl)
    (hline : (apos.endLine == cpos.line) = true := by rfl) (hs : ∀ env : PySem.Env, starEach [e] env = (false, eval e env) :: starEach [] env := by intro _; rfl) (hplain : ∀ env : PySem.Env, (backTo cpos (starEach [] env)).any (·.1) = false := by intro _; rfl) :
    XX S ρ (.Call (.Attribute a "append" apos) [e] [] cpos) (.ok (.fro .non) (up (oL (xs ++ [x])))) := by
  have h := xx_append hl he (by simpa using hn) hbase hfew hline hs hplain
  have e1 : oL (xs ++ [x]) = .lst (((xs.map enc).map O.fro) ++ [.fro (enc x)]) := by unfold oL; rw [List.map_append, List.map_append]; rfl
  rw [e1]; exact h
theorem xx_ext {xs ys : List T} {apos cpos : Pos} (hl : XL S ρ a (oL xs) up) (he : TP S ρ e ys) (hn : xs.length + ys.length ≤ 1000000)
    (hbase : ∀ env : PySem.Env, attributeBase a "extend" env (eval a env) = eval a env := by intro _; rfl)
    (hfew : ∀ env : PySem.Env, ((backTo cpos (starEach [e] env)).all (fun x => !x.1) && (backToKw cpos (keywordEach [] env)).all (fun x => x.1.isSome) && decide ([e].length + ([] : List Keyword).length + (if ([] : List Keyword).isEmpty then 0 else 1) < 30)) = true := by intro _; rfl)
    (hline : (apos.endLine == cpos.line) = true := by rfl) (hs : ∀ env : PySem.Env, starEach [e] env = (false, eval e env) :: starEach [] env := by intro _; rfl) (hplain : ∀ env : PySem.Env, (backTo cpos (starEach [] env)).any (·.1) = false := by intro _; rfl) :
    XX S ρ (.Call (.Attribute a "extend" apos) [e] [] cpos) (.ok (.fro .non) (up (oL (xs ++ ys)))) := by
  have h := xx_extend hl he (by simpa using hn) hbase hfew hline hs hplain
  have e1 : oL (xs ++ ys) = .lst (((xs.map enc).map O.fro) ++ (ys.map enc).map .fro) := by unfold oL; rw [List.map_append, List.map_append]
  rw [e1]; exact h
end
section
variable {S : Sig} {ρ ρ1 : Env} {pin : List Nat} {ss : List Stmt}
/-- some slots are forgotten -/
theorem xb_forgets : ∀ (is : List Nat) {ρ1 ρ2 : Env}, XB S pin ρ ss (.nx ρ1) → is.foldl (fun r i => r.set i none) ρ1 = ρ2 → XB S pin ρ ss (.nx ρ2)
  | [], _, _, h, e => by subst e; exact h
  | i :: is, _, _, h, e => xb_forgets is (xs_forget i h) e
theorem xb_last {st : Stmt} {r : RS} (h : XS S pin ρ st r) : XB S pin ρ [st] r := xb_one h
end
section
variable {S : Sig} {ρ : Env} {e : Expr} {es : List Expr} {pos p2 : Pos} {x : Str} {ps : List Str} {k : Nat} {T : Type} [DecidableEq T] [Datum T] [Enc T]
variable {τ : Type} {dd : τ → List D} {pre : τ → Prop} {rese : τ → Except Str O}
theorem tp_call [Calm S] {v : T} (hG : FnG S.P S.w S.K S.mg S.base k x ps (spP S.K dd pre rese)) (y : τ) (hp : pre y) (ha : XA S ρ (e :: es) (dd y)) (hr : rese y = oF v := by rfl) (hk : k ≤ S.kk := by exact Nat.le_of_ble_eq_true rfl) (hg : S.scope.names.lookup x = some .globalImplicit := by rfl) (hdb : (x == ("__debug__" : Str)) = false := by decide)
    (he : ∀ env : PySem.Env, starEach (e :: es) env = (false, eval e env) :: starEach es env := by intro _; rfl) (hpl : ∀ env : PySem.Env, (backTo pos (starEach es env)).any (·.1) = false := by intro _; rfl) : TP S ρ (.Call (.Name x p2) (e :: es) [] pos) v :=
  (xp_call hG y hp ha hk hg hdb he hpl).cast (by rw [hr]; rfl)
theorem tp_callO [Calm S] {v : List T} (hG : FnG S.P S.w S.K S.mg S.base k x ps (spP S.K dd pre rese)) (y : τ) (hp : pre y) (ha : XA S ρ (e :: es) (dd y)) (hr : rese y = oO v := by rfl) (hk : k ≤ S.kk := by exact Nat.le_of_ble_eq_true rfl) (hg : S.scope.names.lookup x = some .globalImplicit := by rfl) (hdb : (x == ("__debug__" : Str)) = false := by decide)
    (he : ∀ env : PySem.Env, starEach (e :: es) env = (false, eval e env) :: starEach es env := by intro _; rfl) (hpl : ∀ env : PySem.Env, (backTo pos (starEach es env)).any (·.1) = false := by intro _; rfl) : TP S ρ (.Call (.Name x p2) (e :: es) [] pos) v :=
  (xp_call hG y hp ha hk hg hdb he hpl).cast (by rw [hr]; show Except.ok (O.d (.lst ((v.map enc).map O.fro))) = _; rw [show O.d (.lst ((v.map enc).map O.fro)) = _ from oL_d v])
end
end G

namespace G
open PySem PySem.Spec PyProof.Rows L2
open PySem.W (Datum DatumOrd Tup T3 EachIs)
open Enc (enc)
/-! ### raising -/
abbrev ExcF (K : PySem.W.Frag) (x : Str) : Prop := PySem.W.excIn K (He.ga K x) He.veBase "ValueError.__new__" = true ∧ PySem.W.keepIn K (.ref (He.ga K x)) = true ∧ PySem.W.subIn K (.ref (He.ga K x)) (.type "BaseException") = some true ∧ PySem.W.typeIn K (.ref (He.ga K x)) = some (.type "type")
section
variable {S : Sig} {ρ ρ1 : Env} {a b c e : Expr} {pos p p2 pos2 : Pos} {pin : List Nat} {A B ss : List Stmt} {x : Str}
theorem xs_raise [Calm S] {m : Str} {j} {ρ2 : Option Env} (hx : ExcF S.K x) (g : S.mg x = some (.ref (He.ga S.K x))) (h2 : ρ2 = none ∨ ρ2 = some ρ := by first | exact .inl rfl | exact .inr rfl) (hg : S.scope.names.lookup x = some .globalImplicit := by rfl) (hdb : (x == ("__debug__" : Str)) = false := by decide) :
    XS S pin ρ (.Raise (some (.Call (.Name x p) [.Constant (.str m) j p2] [] pos2)) none pos) (.ex x ρ2) := by
  refine ⟨_, fun q ok => L2N.ps_raise (X := S.cx q) Calm.h ok.tk (L2N.pmk_own (X := S.cx q) PySem.F.excBase_ValueError hx.1 g hx.2.1 (raises_own hx.2.2.1 hx.2.2.2) (show S.scope.names.lookup x = some .globalImplicit from hg) hdb), fun σ F H A D w n q => ?_⟩
  rcases h2 with rfl | rfl
  · exact q σ F H [] (WF.none w.sub) (Stp.refl.perm (fun a => Iff.rfl) (by simp)) rfl Pin.refl
  · exact q σ F H A w Stp.refl n Pin.refl
/-- if c: .., the test itself raises -/
theorem xs_ifX {ρ2 : Option Env} (h : XP S ρ c (.error x)) (h2 : ρ2 = none ∨ ρ2 = some ρ := by first | exact .inl rfl | exact .inr rfl) (he : ∀ (env : PySem.Env) (whole : Sem Value), isTrue c env whole = (do let v ← whole; standAt c.pos; holding [v] (truthy v)) := by intro _ _; rfl) : XS S pin ρ (.If c A B pos) (.ex x ρ2) := by
  obtain ⟨t, h1, h3⟩ := h
  refine ⟨tIfS (tB t) tNever tNever, fun q ok => ps_if (pt_val (h1 q ok) (he _)) pss_never pss_never, fun σ F H A D w n q => h3 σ F H A _ w n fun F1 H1 g => ?_⟩
  rcases h2 with rfl | rfl
  · exact q σ F1 H1 [] (WF.none g.ext) ((g.stp.mono (by simp) (A' := A)).perm (fun _ => Iff.rfl) (by simp)) rfl Pin.refl
  · exact q σ F1 H1 A (g.wf w) ((g.stp.mono (by simp) (A' := A)).more (C := A) fun a h => .inl h) (g.envs n) Pin.refl
/-- return e, that may raise -/
theorem xs_retX {T : Type} [DecidableEq T] [Datum T] [Enc T] {r : Except Str T} (h : XP S ρ e (exD (oE oF r))) : XS S pin ρ (.Return (some e) pos) (rE rF r) := by
  cases r with
  | ok v => exact xs_retF h
  | error x => exact xs_retE h.xe (.inl rfl)
theorem xs_rt {T : Type} [DecidableEq T] [Datum T] [Enc T] {v : T} (h : TP S ρ e v) : XS S pin ρ (.Return (some e) pos) (rE rF (.ok v)) := xs_retF h
theorem term_rE {T : Type} [DecidableEq T] [Datum T] [Enc T] (r : Except Str T) : Term (rE rF r) := term_E (fun _ => term_F) r
/-- f(..) alone, that may raise -/
theorem xb_doE {T U : Type} [DecidableEq T] [Datum T] [Enc T] (f : U → RS) (m : T → Except Str U) {r : Except Str T} (h : XX S ρ e (exX ρ (oE oF r))) (k : ∀ v, r = .ok v → XB S pin ρ ss (rE f (m v))) (hs : ∀ env : PySem.Env, swapsWith e none pos.line env = pure false := by intro _; rfl) :
    XB S pin ρ (.Expr e pos :: ss) (rE f (bindE r m)) := xb_exprE f m h (fun v => ⟨_, rfl⟩) k hs
/-- if f(..): an end; what follows; f may raise -/
theorem xb_ifRE {U : Type} (f : U → RS) {r : Except Str Bool} {v1 v2 : Except Str U} (h : XP S ρ c (exD (oE oF r))) (ha : r = .ok true → XB S pin ρ A (rE f v1)) (ht : ∀ ρ, rE f v1 ≠ .nx ρ) (hb : r = .ok false → XB S pin ρ ss (rE f v2)) (he : ∀ (env : PySem.Env) (whole : Sem Value), isTrue c env whole = (do let v ← whole; standAt c.pos; holding [v] (truthy v)) := by intro _ _; rfl) :
    XB S pin ρ (.If c A [] pos :: ss) (rE f (bindE r fun k => if k = true then v1 else v2)) := by
  cases r with
  | error x => exact xb_stop (xs_ifX h (.inl rfl) he) fun ρ z => nomatch z
  | ok k =>
    have h' : XT S ρ c k := xt_val h he
    cases k with
    | true => exact xb_stop (xs_if h' (fun _ => ha rfl) fun z => nomatch z) ht
    | false => exact xb_cons (xs_if h' (fun z => nomatch z) fun _ => xb_nil) (hb rfl)
theorem fits_EF {T : Type} [DecidableEq T] [Datum T] [Enc T] (r : Except Str T) : Fits (rE rF r) (oE oF r) := fits_E (fun _ => fits_F) r
theorem tp_any [Calm S] {bs : List Bool} (hm : S.mg "any" = none) (h : TP S ρ a bs) (hg : S.scope.names.lookup ("any" : Str) = some .globalImplicit := by rfl) (he : ∀ env : PySem.Env, starEach [a] env = (false, eval a env) :: starEach [] env := by intro _; rfl) : TP S ρ (.Call (.Name "any" p2) [a] [] pos) (bs.any id) :=
  xp_cb (p := p2) (pos := pos) (cb_any (S := S)) hm (xav_cons h.v xav_nil he) hg (by decide +kernel) (by decide) (by decide) he (by intro _; rfl)
theorem tp_all [Calm S] {bs : List Bool} (hm : S.mg "all" = none) (h : TP S ρ a bs) (hg : S.scope.names.lookup ("all" : Str) = some .globalImplicit := by rfl) (he : ∀ env : PySem.Env, starEach [a] env = (false, eval a env) :: starEach [] env := by intro _; rfl) : TP S ρ (.Call (.Name "all" p2) [a] [] pos) (bs.all id) :=
  xp_cb (p := p2) (pos := pos) (cb_all (S := S)) hm (xav_cons h.v xav_nil he) hg (by decide +kernel) (by decide) (by decide) he (by intro _; rfl)
/-- a truth value, typed -/
theorem tt_b {k : Bool} (h : TP S ρ e k) (he : ∀ (env : PySem.Env) (whole : Sem Value), isTrue e env whole = (do let v ← whole; standAt e.pos; holding [v] (truthy v)) := by intro _ _; rfl) : XT S ρ e k := xt_val h he
theorem tp_not {k : Bool} (h : TP S ρ a k) : TP S ρ (.UnaryOp .Not a pos) (!k) := xp_not h
theorem tp_one {op : BoolOp} {k : Bool} (h : TP S ρ a k) : TP S ρ (.BoolOp op [a] pos) k := xp_one h
theorem tp_and {k l : Bool} {rest : List Expr} (h : TP S ρ a k) (h' : k = true → TP S ρ (.BoolOp .And (b :: rest) pos) l) : TP S ρ (.BoolOp .And (a :: b :: rest) pos) (k && l) := xp_and h h'
theorem tp_or {k l : Bool} {rest : List Expr} (h : TP S ρ a k) (h' : k = false → TP S ρ (.BoolOp .Or (b :: rest) pos) l) : TP S ρ (.BoolOp .Or (a :: b :: rest) pos) (k || l) := xp_or h h'
end
section
variable {S : Sig} {ρ : Env} {e : Expr} {es : List Expr} {pos p2 : Pos} {x : Str} {ps : List Str} {k : Nat} {T : Type} [DecidableEq T] [Datum T] [Enc T]
variable {τ : Type} {dd : τ → List D} {pre : τ → Prop} {rese : τ → Except Str O}
theorem xx_callE [Calm S] {r : Except Str T} (hG : FnG S.P S.w S.K S.mg S.base k x ps (spP S.K dd pre rese)) (y : τ) (hp : pre y) (ha : XA S ρ (e :: es) (dd y)) (hr : rese y = oE oF r := by rfl) (hk : k ≤ S.kk := by exact Nat.le_of_ble_eq_true rfl) (hg : S.scope.names.lookup x = some .globalImplicit := by rfl) (hdb : (x == ("__debug__" : Str)) = false := by decide)
    (he : ∀ env : PySem.Env, starEach (e :: es) env = (false, eval e env) :: starEach es env := by intro _; rfl) (hpl : ∀ env : PySem.Env, (backTo pos (starEach es env)).any (·.1) = false := by intro _; rfl) : XX S ρ (.Call (.Name x p2) (e :: es) [] pos) (exX ρ (oE oF r)) := by
  rw [← hr]; exact xx_call hG y hp ha hk hg hdb he hpl
theorem xp_callE [Calm S] {r : Except Str T} (hG : FnG S.P S.w S.K S.mg S.base k x ps (spP S.K dd pre rese)) (y : τ) (hp : pre y) (ha : XA S ρ (e :: es) (dd y)) (hr : rese y = oE oF r := by rfl) (hk : k ≤ S.kk := by exact Nat.le_of_ble_eq_true rfl) (hg : S.scope.names.lookup x = some .globalImplicit := by rfl) (hdb : (x == ("__debug__" : Str)) = false := by decide)
    (he : ∀ env : PySem.Env, starEach (e :: es) env = (false, eval e env) :: starEach es env := by intro _; rfl) (hpl : ∀ env : PySem.Env, (backTo pos (starEach es env)).any (·.1) = false := by intro _; rfl) : XP S ρ (.Call (.Name x p2) (e :: es) [] pos) (exD (oE oF r)) := by
  rw [← hr]; exact xp_call hG y hp ha hk hg hdb he hpl
theorem xp_callX [Calm S] {z : Str} (hG : FnG S.P S.w S.K S.mg S.base k x ps (spP S.K dd pre rese)) (y : τ) (hp : pre y) (ha : XA S ρ (e :: es) (dd y)) (hr : rese y = .error z) (hk : k ≤ S.kk := by exact Nat.le_of_ble_eq_true rfl) (hg : S.scope.names.lookup x = some .globalImplicit := by rfl) (hdb : (x == ("__debug__" : Str)) = false := by decide)
    (he : ∀ env : PySem.Env, starEach (e :: es) env = (false, eval e env) :: starEach es env := by intro _; rfl) (hpl : ∀ env : PySem.Env, (backTo pos (starEach es env)).any (·.1) = false := by intro _; rfl) : XP S ρ (.Call (.Name x p2) (e :: es) [] pos) (.error z) :=
  (xp_call hG y hp ha hk hg hdb he hpl).cast (by rw [hr]; rfl)
end
/-! ### membership, by one instance -/
def memB {T : Type} [DecidableEq T] (x : T) (xs : List T) : Bool := decide (x ∈ xs)
theorem memB_iff {T : Type} [DecidableEq T] {x : T} {xs : List T} : memB x xs = true ↔ x ∈ xs := by unfold memB; exact decide_eq_true_iff
theorem memB_no {T : Type} [DecidableEq T] {x : T} {xs : List T} : memB x xs = false ↔ x ∉ xs := by unfold memB; exact decide_eq_false_iff_not
section
variable {S : Sig} {ρ : Env} {a b : Expr} {pos : Pos} {T : Type} [DecidableEq T] [Datum T] [Enc T] {u : T}
theorem tt_mem {xs : List T} (ha : TV S ρ a u) (hb : TV S ρ b xs) (hd : Datum.depth T ≤ 63 := by decide) (hm : behindInMarks .In b = false := by rfl) : XT S ρ (.Compare a [.In] [b] pos) (memB u xs) := tt_in ha hb hd hm
theorem tt_nmem {xs : List T} (ha : TV S ρ a u) (hb : TV S ρ b xs) (hd : Datum.depth T ≤ 63 := by decide) (hm : behindInMarks .NotIn b = false := by rfl) : XT S ρ (.Compare a [.NotIn] [b] pos) (!memB u xs) := tt_ni ha hb hd hm
theorem tp_mem {xs : List T} (ha : TV S ρ a u) (hb : TV S ρ b xs) (hd : Datum.depth T ≤ 63 := by decide) (hm : behindInMarks .In b = false := by rfl) : TP S ρ (.Compare a [.In] [b] pos) (memB u xs) := tp_in ha hb hd hm
theorem tp_nmem {xs : List T} (ha : TV S ρ a u) (hb : TV S ρ b xs) (hd : Datum.depth T ≤ 63 := by decide) (hm : behindInMarks .NotIn b = false := by rfl) : TP S ρ (.Compare a [.NotIn] [b] pos) (!memB u xs) := tp_ni ha hb hd hm
theorem tt_memT {xs : Tup T} (ha : TV S ρ a u) (hb : TV S ρ b xs) (hd : Datum.depth T ≤ 63 := by decide) (hm : behindInMarks .In b = false := by rfl) : XT S ρ (.Compare a [.In] [b] pos) (memB u xs.items) := tt_inT ha hb hd hm
theorem tt_nmemT {xs : Tup T} (ha : TV S ρ a u) (hb : TV S ρ b xs) (hd : Datum.depth T ≤ 63 := by decide) (hm : behindInMarks .NotIn b = false := by rfl) : XT S ρ (.Compare a [.NotIn] [b] pos) (!memB u xs.items) := tt_niT ha hb hd hm
theorem tp_memT {xs : Tup T} (ha : TV S ρ a u) (hb : TV S ρ b xs) (hd : Datum.depth T ≤ 63 := by decide) (hm : behindInMarks .In b = false := by rfl) : TP S ρ (.Compare a [.In] [b] pos) (memB u xs.items) := tp_inT ha hb hd hm
theorem tp_nmemT {xs : Tup T} (ha : TV S ρ a u) (hb : TV S ρ b xs) (hd : Datum.depth T ≤ 63 := by decide) (hm : behindInMarks .NotIn b = false := by rfl) : TP S ρ (.Compare a [.NotIn] [b] pos) (!memB u xs.items) := tp_niT ha hb hd hm
end
section
variable {S : Sig} {ρ : Env} {it tg : Expr} {T : Type} [DecidableEq T] [Datum T] [Enc T]
theorem xi_lt {xs : List T} (h : TP S ρ it xs) : XI S ρ tg it (xs.map enc) := xi_lst h
theorem xi_tt {xs : Tup T} (h : TP S ρ it xs) : XI S ρ tg it (xs.items.map enc) := xi_tup h
end
end G

namespace G
open PySem PySem.Spec PyProof.Rows L2
open PySem.W (Datum DatumOrd Tup T3 EachIs)
open Enc (enc)
/-! ### sorted(set(..)) of few cells -/
def nub {T : Type} [DecidableEq T] : List T → List T
  | [] => []
  | x :: r => if memB x r = true then nub r else x :: nub r
theorem mem_nub {T : Type} [DecidableEq T] {v : T} : ∀ {xs : List T}, v ∈ nub xs ↔ v ∈ xs
  | [] => Iff.rfl
  | x :: r => by
    unfold nub
    by_cases h : memB x r = true
    · rw [if_pos h, mem_nub, List.mem_cons]
      exact ⟨.inr, fun q => q.elim (fun e => by rw [e]; exact memB_iff.mp h) id⟩
    · rw [if_neg h, List.mem_cons, List.mem_cons, mem_nub]
theorem nodup_nub {T : Type} [DecidableEq T] : ∀ (xs : List T), (nub xs).Nodup
  | [] => List.nodup_nil
  | x :: r => by
    unfold nub
    by_cases h : memB x r = true
    · rw [if_pos h]; exact nodup_nub r
    · rw [if_neg h]
      refine List.nodup_cons.mpr ⟨fun q => h (memB_iff.mpr (mem_nub.mp q)), nodup_nub r⟩
def sset {T : Type} [DecidableEq T] [DatumOrd T] (xs : List T) : List T := isortT (nub xs)
theorem sset_of {T : Type} [DecidableEq T] [DatumOrd T] [LOrd T] {xs ys : List T} (s : SrtT ys) (n : ys.Nodup) (m : ∀ v, v ∈ ys ↔ v ∈ xs) : ys = sset xs := by
  unfold sset
  refine srt_unique _ _ s (isortT_srt _) (((List.perm_ext_iff_of_nodup n (nodup_nub xs)).mpr fun v => ?_).trans (isortT_perm _).symm)
  rw [m, mem_nub]
theorem Grow.side {F H : Hp} {p : Addr} {o : HO} (e : Ext F H) (h : H p = none) : Grow F H F (upd H p o) := by
  refine ⟨⟨Ext.refl F, fun a u q _ => ?_, fun a u q => .inl q, by simp, fun a q => ?_⟩, fun a u q => ?_⟩
  · rw [upd_ne (ne_of_none q h)]; exact q
  · by_cases z : a = p
    · subst z; exact h
    · rw [upd_ne z] at q; exact q
  · rw [upd_ne (ne_of_none (e a u q) h)]; exact e a u q
def cel (k : List Int) : Cell := (k.getD 0 0, k.getD 1 0)
theorem cells_ks {K : PySem.W.Frag} {F : Hp} : ∀ {vs : List V} {xs : List Cell}, Reps K F vs (xs.map enc) → ∃ ks : List (Addr × List Int), vs = ks.map (fun p => V.ref p.1) ∧ (∀ p ∈ ks, F p.1 = some (.tup (p.2.map V.int))) ∧ ks.map (·.2) = xs.map fun c => [c.1, c.2]
  | _, [], h => by cases h; exact ⟨[], rfl, by simp, rfl⟩
  | _, x :: xs, h => by
    cases h with
    | cons h r =>
      obtain ⟨ks, h1, h2, h3⟩ := cells_ks r
      subst h1
      cases h with
      | tup ht rr =>
        rename_i a ws
        cases rr with
        | cons g1 rr =>
          cases rr with
          | cons g2 rr =>
            cases rr
            cases g1
            cases g2
            refine ⟨(a, [x.1, x.2]) :: ks, rfl, fun p hp => ?_, by rw [List.map_cons, h3]; rfl⟩
            rcases List.mem_cons.mp hp with rfl | hp
            · exact ht
            · exact h2 p hp
theorem code_lt {x y : Cell} (h : TS.code 64 [x.1, x.2] ≤ TS.code 64 [y.1, y.2]) (ne : ([x.1, x.2] : List Int) ≠ [y.1, y.2]) (b1 : (0 ≤ x.1 ∧ x.1 < 64) ∧ 0 ≤ x.2 ∧ x.2 < 64) (b2 : (0 ≤ y.1 ∧ y.1 < 64) ∧ 0 ≤ y.2 ∧ y.2 < 64) : DatumOrd.lt y x = false := by
  have z := L2.pair_lt h ne b1.1 b1.2 b2.1 b2.2
  rw [lt_pair]
  simp only [G.lt_int]
  split
  · rename_i e; exact decide_eq_false (by omega)
  · rename_i e; exact decide_eq_false (by omega)
section
variable {S : Sig} {ρ : Env} {a : Expr} {pos p2 p3 pos2 : Pos}
theorem tp_sset [Calm S] {xs : List Cell} (hm : S.mg "sorted" = none) (hm2 : S.mg "set" = none) (h : TP S ρ a xs) (hb : ∀ c ∈ xs, (0 ≤ c.1 ∧ c.1 < 64) ∧ 0 ≤ c.2 ∧ c.2 < 64) (hl : xs.length < 64) (hg : S.scope.names.lookup ("sorted" : Str) = some .globalImplicit := by rfl) (hg2 : S.scope.names.lookup ("set" : Str) = some .globalImplicit := by rfl) (he : ∀ env : PySem.Env, starEach [a] env = (false, eval a env) :: starEach [] env := by intro _; rfl) :
    TP S ρ (.Call (.Name "sorted" p2) [.Call (.Name "set" p3) [a] [] pos2] [] pos) (sset xs) := by
  obtain ⟨t, h1, h2⟩ := h
  refine ⟨tCB (rSortedT S.K S.P S.w) (tCons (tCB (rSetOfT S.K S.P S.w) (tCons t tNil)) tNil), fun q ok => ?_, fun σ F H A Q w n qq => ?_⟩
  · have hu : (S.cx q).A.units + 64 < cLine := by have := ok.room.un; show q.A.units + 64 < cLine; omega
    exact pe_callB (X := S.cx q) (cr_sortedT (X := S.cx q) Calm.h) (show S.scope.names.lookup _ = some .globalImplicit from hg) hm (by decide +kernel) (pa_cons (pe_callTy (X := S.cx q) (cr_setOfT (X := S.cx q) Calm.h hu) (show S.scope.names.lookup _ = some .globalImplicit from hg2) hm2 (by decide +kernel) (pa_cons (h1 q ok) pa_nil (he _)) (by decide) (by decide) (he _) (by rfl)) pa_nil) (by decide) (by decide) (by rfl) (by rfl)
  · refine h2 σ F H A _ w n fun v F1 H1 g r => ?_
    cases r with
    | lst hv r =>
      rename_i l vs
      obtain ⟨ks, e1, e2, e3⟩ := cells_ks r
      subst e1
      have len : ks.length = xs.length := by simpa using congrArg List.length e3
      refine ⟨l, ks, rfl, .of (g.ext _ _ hv), fun p hp => .of (g.ext _ _ (e2 p hp)), by omega, fun s L hs hL hK => ?_⟩
      have g2 := g.trans (Grow.side (o := SetTO S.P S.w s L) g.ext hs)
      have inks : ∀ p ∈ ks, ∃ c ∈ xs, p.2 = [c.1, c.2] := fun p hp => by
        have : p.2 ∈ ks.map (·.2) := List.mem_map.mpr ⟨p, hp, rfl⟩
        rw [e3] at this
        obtain ⟨c, hc, e⟩ := List.mem_map.mp this
        exact ⟨c, hc, e.symm⟩
      refine ⟨s, L, 2, 64, rfl, upd_same, fun p hp => .of (g2.ext _ _ (e2 p (hL p hp))), by decide, fun p hp => ?_, fun L' p pm nd fw pw hp => ?_⟩
      · obtain ⟨c, hc, e⟩ := inks p (hL p hp)
        rw [e]
        refine ⟨rfl, fun n hn => ?_⟩
        have := hb c hc
        rcases List.mem_cons.mp hn with rfl | hn
        · exact this.1
        · rw [List.mem_singleton.mp hn]; exact this.2
      · have inL : ∀ q ∈ L', ∃ c ∈ xs, q.2 = [c.1, c.2] := fun q hq => inks q (hL q (pm.mem_iff.mp hq))
        have ys : L'.map (fun q => cel q.2) = sset xs := by
          refine sset_of ?_ ?_ fun v => ?_
          · refine List.pairwise_map.mpr ?_
            have nd2 : L'.Pairwise fun q r => q.2 ≠ r.2 := List.pairwise_map.mp nd
            refine (List.pairwise_iff_forall_sublist.mpr fun {q r} hs => ?_)
            have hq : q ∈ L' := hs.subset (by simp)
            have hr : r ∈ L' := hs.subset (by simp)
            obtain ⟨c, hc, ec⟩ := inL q hq
            obtain ⟨d, hd, ed⟩ := inL r hr
            have c1 := List.pairwise_iff_forall_sublist.mp pw hs
            have c2 := List.pairwise_iff_forall_sublist.mp nd2 hs
            rw [ec, ed] at c1 c2 ⊢
            exact code_lt (x := c) (y := d) c1 c2 (hb c hc) (hb d hd)
          · refine List.pairwise_map.mpr ?_
            have nd2 : L'.Pairwise fun q r => q.2 ≠ r.2 := List.pairwise_map.mp nd
            refine (List.pairwise_iff_forall_sublist.mpr fun {q r} hs e => ?_)
            have hq : q ∈ L' := hs.subset (by simp)
            have hr : r ∈ L' := hs.subset (by simp)
            obtain ⟨c, hc, ec⟩ := inL q hq
            obtain ⟨d, hd, ed⟩ := inL r hr
            have c2 := List.pairwise_iff_forall_sublist.mp nd2 hs
            rw [ec, ed] at e c2
            have e' : c = d := e
            exact c2 (by rw [e'])
          · rw [List.mem_map]
            constructor
            · rintro ⟨q, hq, rfl⟩
              obtain ⟨c, hc, ec⟩ := inL q hq
              rw [ec]; exact hc
            · intro hv
              have : [v.1, v.2] ∈ ks.map (·.2) := by rw [e3]; exact List.mem_map.mpr ⟨v, hv, rfl⟩
              obtain ⟨p', hp', e'⟩ := List.mem_map.mp this
              have := hK p' hp'
              obtain ⟨q, hq, eq⟩ := List.mem_map.mp this
              refine ⟨q, pm.mem_iff.mpr hq, ?_⟩
              show cel q.2 = v
              have eq' : q.2 = p'.2 := eq
              rw [eq', e']; rfl
        have rep : Reps S.K F1 (L'.map fun q => V.ref q.1) ((sset xs).map enc) := by
          rw [← ys, List.map_map]
          have all : ∀ q ∈ L', Rep S.K F1 (.ref q.1) (enc (cel q.2)) := fun q hq => by
            obtain ⟨c, hc, ec⟩ := inL q hq
            have ht := e2 q (hL q (pm.mem_iff.mp hq))
            rw [ec] at ht ⊢
            exact .tup ht (.cons .int (.cons .int .nil))
          clear ys nd pw pm fw inL
          induction L' with
          | nil => exact .nil
          | cons q L' ih => exact .cons (all q (by simp)) (ih fun r hr => all r (by simp [hr]))
        have g3 := Grow.new (o := .lst (L'.map fun q => V.ref q.1)) g2.ext hp
        exact qq (.ref p) _ _ (g2.trans g3) (.lst upd_same (rep.mono g3.stp.fs))
end
end G

namespace G
open PySem PySem.Spec PyProof.Rows L2
open PySem.W (Datum DatumOrd Tup T3 EachIs)
open Enc (enc)
/-! ### sorted of a tuple -/
section
open PySem.W PySem.Calls
variable {prog : Program} {w : World} {A : Around} {E : Value → Shared → Prop} {s : Shared} {β : Type} {R : Value → β → Prop} {en : β → PyData} {vs : List Value} {bs : List β}
theorem sorted_dataT {l : Addr} {o : Obj} {n : Nat} {Q : Value → Shared → Prop} (ho : s.heap.get? l = some o) (hc : o.cls = .type "tuple") (hd : o.data = .seq vs.toArray n) (e : EachIs R vs bs) (er : EachIs (fun v b => ∃ as, Reads s.heap v (en b) as) vs bs) (hal : AllAlike (bs.map en)) (hk : Sortable (bs.map en)) (hL : bs.length ≤ sizeLine)
    (hu : ∀ b, b ∈ bs → A.units + 2 + (en b).depth < cLine) (h : ∀ (h2 : Heap) (p : Addr) (c : Nat) (out : List Value), (∀ b o, s.heap.get? b = some o → h2.get? b = some o) → s.heap.get? p = none → h2.get? p = some (seqObj "list" out.toArray c) → out.length = bs.length → EachIs R out (bs.mergeSort (dataLe false en)) → Q (.ref p) { s with heap := h2 }) :
    wpAny (model prog w) A (call (.builtin "sorted") [.ref l]) Q E s := by
  have hlen : vs.length = bs.length := e.length
  refine call_function_entry kind_sorted plain_sorted entry_sorted (args_sorted1 _) ?_
  unfold Builtin.«sorted»
  refine wpAny_bind (m := checkCount "sorted" 1 1 _) (wpAny_pure ?_)
  refine wpAny_bind (wpAny_collect_seq (T := "tuple") l (.inr rfl) ho hc hd (fun h1 k1 => ?_) (by rw [List.size_toArray]; omega))
  refine wpAny_bind (wpAny_newList ?_ (Nat.le_trans (Nat.le_of_eq (by simp [hlen])) hL))
  rw [List.toList_toArray]
  have hp : (h1.push (seqObj "list" vs.toArray 0)).get? h1.objs.size = some (seqObj "list" vs.toArray 0) := Heap.get?_push_size _ rfl
  have keep1 : ∀ b o, s.heap.get? b = some o → (h1.push (seqObj "list" vs.toArray 0)).get? b = some o := fun b o q => Heap.get?_push_of_some _ (k1 b o q)
  have lt1 : ∀ b o, s.heap.get? b = some o → b ≠ h1.objs.size := fun b o q => Nat.ne_of_lt (Heap.lt_size (k1 b o q))
  have er' : EachIs (fun v b => ∃ as, Reads (sortingHeap (h1.push (seqObj "list" vs.toArray 0)) h1.objs.size vs) v (en b) as) vs bs := er.mono fun _ _ ⟨as, r⟩ => ⟨as, PyProof.Rows.Reads.keeps (fun b o q => sortingHeap_old (lt1 b o q) (keep1 b o q)) r⟩
  have S : SortsAt prog w A.in1.in1 { s with heap := sortingHeap (h1.push (seqObj "list" vs.toArray 0)) h1.objs.size vs } (dataKind (sortingHeap (h1.push (seqObj "list" vs.toArray 0)) h1.objs.size vs) (bs.map en)) vs :=
    SortsAt.data (each_map (R := fun v d => ∃ as, Reads (sortingHeap (h1.push (seqObj "list" vs.toArray 0)) h1.objs.size vs) v d as) en er') hal hk (bound_map hu)
  refine wpAny_bind (wpAny_holding (wpAny_call_entry slot_list_sort ⟨_, hp, rfl⟩ entry_list_sort (wpAny_mono (list_sort_vals (s := { s with heap := h1.push (seqObj "list" vs.toArray 0) }) (P := fun f s' => f = .done (.ret .none) ∧ s' = { s with heap := sortedHeap (h1.push (seqObj "list" vs.toArray 0)) h1.objs.size vs (sortVals (dataKind (sortingHeap (h1.push (seqObj "list" vs.toArray 0)) h1.objs.size vs) (bs.map en)) false vs vs).toArray }) hp S (by rw [hlen]; exact hL) ⟨rfl, rfl⟩) (fun f s' hf => ?_) fun _ _ e => e) (args_list_sort _)))
  obtain ⟨rfl, rfl⟩ := hf
  refine ⟨_, rfl, wpAny_pure ⟨_, rfl, ?_⟩⟩
  obtain ⟨c, hc2⟩ := sortedHeap_at (vs := vs) (out := (sortVals (dataKind (sortingHeap (h1.push (seqObj "list" vs.toArray 0)) h1.objs.size vs) (bs.map en)) false vs vs).toArray) hp
  have le1 : s.heap.get? h1.objs.size = none := by
    cases q : s.heap.get? h1.objs.size with
    | none => rfl
    | some o => exact absurd rfl (lt1 _ _ q)
  exact h _ h1.objs.size c _ (fun b o q => (sortedHeap_old (lt1 b o q) (Heap.lt_size (keep1 b o q))).trans (keep1 b o q)) le1 hc2 (by rw [sortVals_length false rfl]; exact hlen) (sortVals_data false e er' hal)
end
section
variable {T : Type} [DecidableEq T] [DatumOrd T] [Enc T] [SortK T]
def rSortDT (K : PySem.W.Frag) (T : Type) [DecidableEq T] [DatumOrd T] [Enc T] : List V → Hp → VK → Prop := fun vs H Q => ∃ (F : Hp) (a : Addr) (xs : List V) (bs : List T), vs = [.ref a] ∧ Ext F H ∧ SqT K H a xs ∧ Reps K F xs (bs.map enc) ∧
  ∀ ys p, Reps K F ys ((sortT bs).map enc) → H p = none → Q (.ref p) (upd H p (.lst ys))
theorem cr_sortDT {X : Cx} (hu : X.A.units + 100 < cLine) : CallR X (.builtin "sorted") (rSortDT X.K T) := by
  intro pins s σ H vs us Q I r h
  obtain ⟨F, a, xs, bs, rfl, e, hs, rs, q⟩ := h
  obtain ⟨its, rv, ⟨o, ho, hc, n, hd⟩, hz⟩ := I.tuple hs
  obtain ⟨u, rfl, ru⟩ := vals1 r
  obtain rfl : u = Value.ref a := ru
  obtain ⟨e1, e2⟩ := each_of I e rs rv
  have len1 := rs.length
  rw [List.length_map] at len1
  have len2 := rv.length
  refine sorted_dataT (vs := its) (bs := bs) (en := Datum.toD) ho hc hd e1 e2 (PySem.W.AllAlike.of fun a b => DatumOrd.alike a b) ?_ (by rw [← len1]; exact hz) (fun b _ => ?_) fun h2 p c out kp hp hp2 hlo eo => ?_
  · rcases (inferInstance : SortK T).h with h | h
    · exact PySem.W.Sortable.tuples h
    · exact PySem.W.Sortable.others h
  · have := Datum.depth_le b
    have := (inferInstance : SortK T).d
    omega
  · obtain ⟨ys, h1, h3⟩ := each_back eo
    have hlen : ys.length ≤ sizeLine := by rw [h1.length, hlo, ← len1]; exact hz
    have e3 : bs.mergeSort (PySem.W.dataLe false Datum.toD) = sortT bs := by
      unfold sortT
      rw [PySem.W.dataLe_eq]
      congr 1
      funext a b
      show (!PySem.W.dataLt (Datum.toD b) (Datum.toD a)) = _
      rw [DatumOrd.lt_eq]
    rw [e3] at h3
    have hn : H p = none := I.hok.gone hp
    exact ⟨.ref _, upd H p (.lst ys), I.laidN (t' := s.toks) kp hp hn ⟨hlen, out.toArray.toList, c, by simpa using h1, hp2⟩, rfl, q ys _ h3 hn⟩
variable {S : Sig} {ρ : Env} {a : Expr} {pos p2 : Pos}
theorem cb_sortedT {xs : Tup T} : CBF S "sorted" [enc xs] (enc (sortT xs.items)) := ⟨rSortDT S.K T, fun q o => cr_sortDT (X := S.cx q) (by have := o.room.un; show q.A.units + 100 < cLine; omega), fun vs F H Q e rr q => by
  obtain ⟨v, rfl, r⟩ := reps1 rr
  cases r with
  | tup h r =>
    refine ⟨F, _, _, xs.items, rfl, e, .of (e _ _ h), r, fun ys p hy hp => ?_⟩
    have g := Grow.new (o := .lst ys) e hp
    exact q (.ref p) _ _ g (.lst upd_same (hy.mono g.stp.fs))⟩
theorem tp_sortedT {xs : Tup T} (hm : S.mg "sorted" = none) (h : TP S ρ a xs) (hg : S.scope.names.lookup ("sorted" : Str) = some .globalImplicit := by rfl) (he : ∀ env : PySem.Env, starEach [a] env = (false, eval a env) :: starEach [] env := by intro _; rfl) : TP S ρ (.Call (.Name "sorted" p2) [a] [] pos) (sortT xs.items) :=
  xp_cbF (p := p2) (pos := pos) cb_sortedT hm (xa_cons h xa_nil he) hg (by decide +kernel) (by decide) (by decide) he (by intro _; rfl)
end
end G

namespace G
open PySem PySem.Spec PyProof.Rows L2
open PySem.W (Datum DatumOrd Tup T3 EachIs)
open Enc (enc)
/-! ### isinstance of the error that a suite holds -/
theorem call_isE' {X : Cx} {a D : Addr} {oe : Obj} (hp : (a, oe) ∈ X.pn) (C : ExcC X.K D) (hz : L2N.Zn (.ref D) none oe) (hf : ∃ vs, oe.data = .fields vs) : CallR X (.builtin "isinstance") (rIsE X.K D a) := by
  intro pins s σ H xs us Q I r h
  obtain ⟨c, cv, b, rfl, hcv, e, q⟩ := h
  cases r with
  | cons rx rr =>
    cases rr with
    | cons rt rr =>
      cases rr
      cases rx
      have ec := hcv _ rt
      subst ec
      obtain ⟨hget, _⟩ := I.pin (a, oe) (List.mem_append_left _ hp)
      obtain ⟨vs, hv⟩ := hf
      have J : PySem.W.InstAt s.heap a oe D none := by
        obtain ⟨oc, od, oda, osl⟩ := oe
        obtain ⟨h1, h2, _⟩ := hz
        dsimp only at h1 h2 hv
        subst h1 h2 hv
        exact ⟨hget, rfl, rfl, trivial⟩
      exact PySem.W.kia_one (PySem.W.handS_kitx_exc C.hg C.hk C.hs C.hd C.ha C.hn C.ht C.hm) I.kIn J e (fun z => nomatch z) fun tk => ⟨.bl b, H, I.kept (t' := tk) fun _ _ z => z, rfl, q⟩
section
variable {S : Sig} {ρ ρ1 : Env} {a b c e : Expr} {d d1 d2 d3 : D} {ds : List D} {pos p2 p3 : Pos} {pin : List Nat} {es : List Expr} {x y : Str} {ad : Addr}
theorem xp_cls {u : Addr} (g : S.mg x = some (.ref u)) (hg : S.scope.names.lookup x = some .globalImplicit := by rfl) (hd : (x == ("__debug__" : Str)) = false := by decide) : XP S ρ (.Name x pos) (.ok (.obj u)) := xp_glob (v := .ref u) g rfl (fun _ => .obj) hg hd
theorem xp_isE {k : Bool} {cd : D} {cv : Value} (hS : S.hot = some (ad, y)) (E : ExcC S.K (He.ga S.K y)) (he : XP S ρ e (.ok (.obj ad))) (hc : XP S ρ c (.ok cd)) (hcv : ∀ F v u, Rep S.K F v cd → RelV v u → u = cv) (hk : PySem.W.kitOne S.K (.ref (He.ga S.K y)) cv = some k) (hm : S.mg "isinstance" = none) (hg : S.scope.names.lookup ("isinstance" : Str) = some .globalImplicit := by rfl)
    (hs : ∀ env : PySem.Env, starEach [e, c] env = (false, eval e env) :: starEach [c] env := by intro _; rfl) (hs2 : ∀ env : PySem.Env, starEach [c] env = (false, eval c env) :: starEach [] env := by intro _; rfl) (hpl : ∀ env : PySem.Env, (backTo pos (starEach [c] env)).any (·.1) = false := by intro _; rfl) :
    XP S ρ (.Call (.Name "isinstance" p2) [e, c] [] pos) (.ok (.bl k)) := by
  obtain ⟨t, a1, a2⟩ := xa_cons he (xa_cons hc xa_nil hs2) hs
  refine ⟨tCB (rIsE S.K (He.ga S.K y) ad) t, fun q ok => ?_, fun σ F H A Q w n q => a2 σ F H A _ w n fun vs F1 H1 g r => ?_⟩
  · obtain ⟨_, oe, h1, h2, h3⟩ := ok.hot ad y hS
    exact pe_callB (X := S.cx q) (call_isE' (X := S.cx q) (show (ad, oe) ∈ q.pn from h1) E h2 h3) (show S.scope.names.lookup ("isinstance" : Str) = some .globalImplicit from hg) hm (by decide +kernel) (a1 q ok) (by decide) (by decide) (hs _) (hpl _)
  · obtain ⟨v, u, rfl, r1, r2⟩ := reps2 r
    cases r1
    exact ⟨u, cv, k, rfl, fun z hz => hcv _ _ _ r2 hz, hk, q _ F1 H1 g .bl⟩
/-- isinstance(e, C), C of the program -/
theorem tp_isC {k : Bool} (hS : S.hot = some (ad, y)) (E : ExcC S.K (He.ga S.K y)) (he : XP S ρ e (.ok (.obj ad))) (g : S.mg x = some (.ref (He.ga S.K x))) (hk : PySem.W.kitOne S.K (.ref (He.ga S.K y)) (.ref (He.ga S.K x)) = some k) (hm : S.mg "isinstance" = none) (hg : S.scope.names.lookup ("isinstance" : Str) = some .globalImplicit := by rfl) (hg2 : S.scope.names.lookup x = some .globalImplicit := by rfl) (hd2 : (x == ("__debug__" : Str)) = false := by decide)
    (hs : ∀ env : PySem.Env, starEach [e, .Name x p3] env = (false, eval e env) :: starEach [.Name x p3] env := by intro _; rfl) :
    TP S ρ (.Call (.Name "isinstance" p2) [e, .Name x p3] [] pos) k := xp_isE hS E he (xp_cls g hg2 hd2) (fun F v u r z => by cases r; exact z) hk hm hg hs (by intro _; rfl) (by intro _; rfl)
/-- isinstance(e, ValueError) -/
theorem tp_isB {k : Bool} {n : String} (hS : S.hot = some (ad, y)) (E : ExcC S.K (He.ga S.K y)) (he : XP S ρ e (.ok (.obj ad))) (hk : PySem.W.kitOne S.K (.ref (He.ga S.K y)) (.type n) = some k) (hm : S.mg "isinstance" = none) (hm2 : S.mg x = none) (hv : bootBuiltins x = some (.type n) := by decide +kernel) (hg : S.scope.names.lookup ("isinstance" : Str) = some .globalImplicit := by rfl) (hg2 : S.scope.names.lookup x = some .globalImplicit := by rfl) (hn : x ≠ "__name__" := by decide) (hd2 : (x == ("__debug__" : Str)) = false := by decide)
    (hs : ∀ env : PySem.Env, starEach [e, .Name x p3] env = (false, eval e env) :: starEach [.Name x p3] env := by intro _; rfl) :
    TP S ρ (.Call (.Name "isinstance" p2) [e, .Name x p3] [] pos) k := xp_isE hS E he (xp_ty hm2 hg2 hv hn hd2) (fun F v u r z => by cases r; exact z) hk hm hg hs (by intro _; rfl) (by intro _; rfl)

/-! ### xs.count(x), xs.index(x) -/
section
variable {T : Type} [DecidableEq T] [Datum T] [Enc T]
def rCountT (K : PySem.W.Frag) (xs : List T) (x : T) : V → List V → Hp → VK → Prop := fun v vs H Q => ∃ l ys u, v = .ref l ∧ vs = [u] ∧ SqL K H l ys ∧ Reps K H ys (xs.map enc) ∧ Rep K H u (enc x) ∧ Q (.int ((xs.countP fun y => decide (y = x) : Nat) : Int)) H
theorem mt_countT {X : Cx} (hu : X.A.units + 64 < cLine) {xs : List T} {x : T} (hd : Datum.depth T ≤ 60) : MtR X "list.count" (rCountT X.K xs x) := by
  intro pins s σ H v vs u us Q I rv rvs h
  obtain ⟨l, ys, w, rfl, rfl, hs, r1, r2, q⟩ := h
  cases rv
  obtain ⟨u1, rfl, ru⟩ := vals1 rvs
  obtain ⟨its, r, ⟨o1, n, e1, e2, _, e3⟩, _⟩ := I.list hs
  exact PySem.W.count_list_datum (vs := its.toArray) ⟨o1, e1, e2, n, e3⟩ (holdAll_of I r1 (by simpa using r)) (holds_of I r2 ru) (by omega) ⟨.int _, H, I.kept (t' := s.toks + 1) fun _ _ z => z, ⟨_, rfl⟩, q⟩
def rIndexT (K : PySem.W.Frag) (xs : List T) (x : T) : V → List V → Hp → VK → Prop := fun v vs H Q => ∃ l ys u, v = .ref l ∧ vs = [u] ∧ SqL K H l ys ∧ Reps K H ys (xs.map enc) ∧ Rep K H u (enc x) ∧ x ∈ xs ∧ Q (.int ((xs.idxOf x : Nat) : Int)) H
theorem mt_indexT {X : Cx} (hu : X.A.units + 64 < cLine) {xs : List T} {x : T} (hd : Datum.depth T ≤ 60) : MtR X "list.index" (rIndexT X.K xs x) := by
  intro pins s σ H v vs u us Q I rv rvs h
  obtain ⟨l, ys, w, rfl, rfl, hs, r1, r2, hx, q⟩ := h
  cases rv
  obtain ⟨u1, rfl, ru⟩ := vals1 rvs
  obtain ⟨its, r, ⟨o1, n, e1, e2, _, e3⟩, hz⟩ := I.list hs
  have len := r1.length
  rw [List.length_map] at len
  exact PySem.W.index_list_datum (vs := its) ⟨o1, e1, e2, n, e3⟩ (holdAll_of I r1 r) (holds_of I r2 ru) (by omega) (by rw [← len]; exact hz) hx ⟨.int _, H, I.kept (t' := s.toks + 1) fun _ _ z => z, ⟨_, rfl⟩, q⟩
variable {xs : List T} {v : T}
theorem tp_count {apos : Pos} (ha : TV S ρ a xs) (he : TP S ρ e v) (hd : Datum.depth T ≤ 60 := by decide)
    (hbase : ∀ env : PySem.Env, attributeBase a "count" env (eval a env) = eval a env := by intro _; rfl)
    (hfew : ∀ env : PySem.Env, ((backTo pos (starEach [e] env)).all (fun x => !x.1) && (backToKw pos (keywordEach [] env)).all (fun x => x.1.isSome) && decide ([e].length + ([] : List Keyword).length + (if ([] : List Keyword).isEmpty then 0 else 1) < 30)) = true := by intro _; rfl)
    (hline : (apos.endLine == pos.line) = true := by rfl) (hs : ∀ env : PySem.Env, starEach [e] env = (false, eval e env) :: starEach [] env := by intro _; rfl) (hplain : ∀ env : PySem.Env, (backTo pos (starEach [] env)).any (·.1) = false := by intro _; rfl) :
    TP S ρ (.Call (.Attribute a "count" apos) [e] [] pos) ((xs.countP fun y => decide (y = v) : Nat) : Int) := by
  obtain ⟨t, h1, h2⟩ := ha
  obtain ⟨ta, a1, a2⟩ := xa_cons he xa_nil hs
  refine ⟨tBM S.K "list" (rCountT S.K xs v) t ta, fun q ok => pe_bm PySem.F.plainAttrs_list PySem.F.slot_list_count PySem.F.type_list_count (mt_countT (X := S.cx q) ok.units hd) (h1 q ok) (a1 q ok) (hbase _) (hfew _) hline (hs _) (hplain _), fun σ F H A Q w n q => h2 σ F H A _ w n fun u F1 H1 g r => ?_⟩
  cases r with
  | lst hx r =>
    refine ⟨.inl ⟨rfl, _, SqL.of hx⟩, a2 σ F1 H1 A _ (g.wf w) (g.envs n) fun vs F2 H2 g2 rr => ?_⟩
    obtain ⟨y, rfl, ry⟩ := reps1 rr
    exact ⟨_, _, y, rfl, rfl, .of (g2.hh _ _ hx), r.mono g2.hh, ry.mono g2.ext, q _ F2 H2 (g.trans g2) .int⟩
theorem tp_index {apos : Pos} (ha : TV S ρ a xs) (he : TP S ρ e v) (hm : v ∈ xs) (hd : Datum.depth T ≤ 60 := by decide)
    (hbase : ∀ env : PySem.Env, attributeBase a "index" env (eval a env) = eval a env := by intro _; rfl)
    (hfew : ∀ env : PySem.Env, ((backTo pos (starEach [e] env)).all (fun x => !x.1) && (backToKw pos (keywordEach [] env)).all (fun x => x.1.isSome) && decide ([e].length + ([] : List Keyword).length + (if ([] : List Keyword).isEmpty then 0 else 1) < 30)) = true := by intro _; rfl)
    (hline : (apos.endLine == pos.line) = true := by rfl) (hs : ∀ env : PySem.Env, starEach [e] env = (false, eval e env) :: starEach [] env := by intro _; rfl) (hplain : ∀ env : PySem.Env, (backTo pos (starEach [] env)).any (·.1) = false := by intro _; rfl) :
    TP S ρ (.Call (.Attribute a "index" apos) [e] [] pos) ((xs.idxOf v : Nat) : Int) := by
  obtain ⟨t, h1, h2⟩ := ha
  obtain ⟨ta, a1, a2⟩ := xa_cons he xa_nil hs
  refine ⟨tBM S.K "list" (rIndexT S.K xs v) t ta, fun q ok => pe_bm PySem.F.plainAttrs_list PySem.F.slot_list_index PySem.F.type_list_index (mt_indexT (X := S.cx q) ok.units hd) (h1 q ok) (a1 q ok) (hbase _) (hfew _) hline (hs _) (hplain _), fun σ F H A Q w n q => h2 σ F H A _ w n fun u F1 H1 g r => ?_⟩
  cases r with
  | lst hx r =>
    refine ⟨.inl ⟨rfl, _, SqL.of hx⟩, a2 σ F1 H1 A _ (g.wf w) (g.envs n) fun vs F2 H2 g2 rr => ?_⟩
    obtain ⟨y, rfl, ry⟩ := reps1 rr
    exact ⟨_, _, y, rfl, rfl, .of (g2.hh _ _ hx), r.mono g2.hh, ry.mono g2.ext, hm, q _ F2 H2 (g.trans g2) .int⟩
end

/-! ### a def that is called within a suite, with the error that is held -/
structure FnR (P : Program) (w : World) (K : PySem.W.Frag) (mg : Str → Option Value) (base : Heap) (k : Nat) (f : Addr) (fd : FuncData) (par y : Str) (d : D) : Prop where
  run : ∀ (A : Around) (outer : List PySem.Env) (s : Shared) (H : Hp) (args : Args) (Q : VK) (E : XK) (p : Addr × Obj), L2H.RoomH k A → L2H.Hot1 A p → L2H.PinOk outer H s p → L2N.Zn (.ref (He.ga K y)) none p.2 → L2.Env0 P w K mg base A outer s H → BindsTo s fd args [(par, .ref p.1)] →
    (∃ F, Ext F H ∧ ∀ v F' H', Grow F H F' H' → Rep K F' v d → Q v H') → codeAny (model P w) A (.call (.ref f) args) (CR (L2N.CX P w) outer P w H s Q E) s
def sigR (P : Program) (w : World) (K : PySem.W.Frag) (mg : Str → Option Value) (base : Heap) (N : List Str) (sc : Scope) (k : Nat) (E : XK) (a : Addr) (y : Str) : Sig := ⟨P, w, K, mg, base, N, sc, k, fun cls d _ H => E cls d H, fun _ => true, false, some (a, y), true⟩
theorem def_hot {P : Program} {w : World} {K : PySem.W.Frag} {mg : Str → Option Value} {base : Heap} {x qual : Str} {st : Stmt} {f : Addr} {fd : FuncData} {N : List Str} {par y : Str} {k : Nat} {d : D} (F : ∃ dvs kws, FunD K x qual (defArgs st) (defBody st) (defScope st) dvs kws f fd) (Sc : FnScope N [par] (defScope st))
    (body : ∀ (E : XK) (a : Addr), XB (sigR P w K mg base N (defScope st) k E a y) [] (some (O.fro (.obj a)) :: List.replicate (N.length - 1) none) (defBody st) (.rt (.fro d) none)) : FnR P w K mg base (k + 1) f fd par y d := by
  obtain ⟨dvs, kws, F⟩ := F
  obtain ⟨oc, od, dV, kV, doc, pm, an, cdv, ct, osl, rfl, lk, hcd, hd1, hd2⟩ := F.1
  refine ⟨fun A outer s H args Q E p hr hot hpin hz e0 hb ⟨F0, e00, hq⟩ => ?_⟩
  have KX : K.In s.heap := e0.mod.kin.keeps fun b o e => (e0.bs b o e).1
  have lim : s.heap.NoLimit := e0.mod.nolimit.keeps fun b o e => (e0.bs b o e).1
  have hkind : ∀ z ∈ [par].zip [Value.ref p.1], (defScope st).names.lookup z.1 = some .local ∨ ((defScope st).names.lookup z.1 = some .cell ∧ ((cellsFrom (s.heap.objs.size + 1) (defScope st).names []).lookup z.1).isSome = true) := fun ⟨n, v⟩ hy => by
    rcases Sc.par n (List.of_mem_zip hy).1 with q | q
    · exact .inl q
    · exact .inr ⟨q, PySem.W.cellsFrom_some _ _ _ (.inl q)⟩
  refine codeAny_call_function hr.depth (KX _ _ lk) rfl Sc.co Sc.gen rfl (PySem.W.codeRec_of KX hcd) (hb _ _ _ _ ?_)
  refine wpAny_newFunctionEnv_cells Sc.kind hkind fun env he s1 x => ?_
  subst he
  refine ⟨lim.keeps x.toInCall.keep, codeAny_func ?_⟩
  have I : Inv (L2H.cxH (L2N.CX P w) P w K mg base N qual (defScope st) f cdv A outer s H E p) [] (L2.start N [V.ref p.1]) H s1 := L2H.inv_startH (us := [.ref p.1]) Sc hpin e0 rfl (.cons rfl .nil) x
  obtain ⟨t, ht, h2⟩ := body E p.1
  have rm := hr.deeper (envOfC qual (defScope st) s.heap.objs.size f cdv)
  have ok : (sigR P w K mg base N (defScope st) k E p.1 y).Ok ⟨A.deeper (envOfC qual (defScope st) s.heap.objs.size f cdv), s, H, envOfC qual (defScope st) s.heap.objs.size f cdv, outer, envOfC qual (defScope st) s.heap.objs.size f cdv :: outer, [], fun _ => true, [p], (cxOf (L2N.CX P w) P w K mg base N qual (defScope st) f cdv A outer s H E).xe⟩ := by
    refine ⟨rm, (fun z => nomatch z), fun a y' z => ?_, fun _ => ⟨rfl, rfl⟩, ?_, fun _ _ => rfl, Sc.nd, ?_⟩
    · cases z
      obtain ⟨hh, vs, e, _⟩ := hot
      exact ⟨hh, p.2, by simp, hz, vs, e⟩
    · exact L2N.takes_of (X := L2H.cxH (L2N.CX P w) P w K mg base N qual (defScope st) f cdv A outer s H E p) rfl rfl rfl (by rfl)
    · show PassesOwn (model P w) (cxOf (L2N.CX P w) P w K mg base N qual (defScope st) f cdv A outer s H E).A (cxOf (L2N.CX P w) P w K mg base N qual (defScope st) f cdv A outer s H E).env (cxOf (L2N.CX P w) P w K mg base N qual (defScope st) f cdv A outer s H E).xe
      exact PassesOwn.leaving
  have n1 := start_of (K := K) (F := F0) (H := H) (N := N) (vs := [V.ref p.1]) (os := [O.fro (.obj p.1)]) (A := []) (Owns.fros (ds := [.obj p.1]) (.cons .obj .nil))
  have run := (ht _ ok).run [] s1 (L2.start N [V.ref p.1]) H { nx := fun _ H' => Q .non H', rt := Q } I (h2 _ F0 H [] _ (WF.none e00) n1 (by
    intro v σ' F' H' B A' w' s' ow n' p'
    cases ow with
    | fro r =>
      obtain rfl : A' = [] := n'
      exact hq v F' H' ⟨s', w'.sub⟩ r))
  refine wpAny_mono run (fun fl s' hs => ?_) fun e s' hs => hs
  have fin : ∀ {σ' : L2.St} {H' : Hp} {v : V} {u : Value}, Inv (L2H.cxH (L2N.CX P w) P w K mg base N qual (defScope st) f cdv A outer s H E p) [] σ' H' s' → RelV v u → Q v H' → CE outer P w H s Q u s' :=
    fun {σ' H' v u} J rv q => ⟨v, H', J.os, J.bare, J.base, J.hok, rv, q⟩
  cases fl with
  | ret u =>
    obtain ⟨v, σ', H', J, rv, q⟩ := hs
    exact fin J rv q
  | next =>
    obtain ⟨σ', H', J, q⟩ := hs
    exact fin (v := V.non) (u := Value.none) J rfl q
  | brk =>
    obtain ⟨_, _, _, q⟩ := hs
    exact False.elim q
  | cont =>
    obtain ⟨_, _, _, q⟩ := hs
    exact False.elim q
structure FnRG (P : Program) (w : World) (K : PySem.W.Frag) (mg : Str → Option Value) (base : Heap) (k : Nat) (x par y : Str) (d : D) : Prop where
  h : ∃ f fd, FnR P w K mg base k f fd par y d ∧ mg x = some (.ref f) ∧ PySem.W.keepIn K (.ref f) = true ∧ Binds K fd [par] []
section
variable {k : Nat} {par : Str}
theorem xp_callR (hS : S.hot = some (ad, y)) (hG : FnRG S.P S.w S.K S.mg S.base k x par y d) (he : XP S ρ e (.ok (.obj ad))) (hk : k ≤ S.kk := by exact Nat.le_of_ble_eq_true rfl) (hg : S.scope.names.lookup x = some .globalImplicit := by rfl) (hdb : (x == ("__debug__" : Str)) = false := by decide)
    (hs : ∀ env : PySem.Env, starEach [e] env = (false, eval e env) :: starEach [] env := by intro _; rfl) (hpl : ∀ env : PySem.Env, (backTo pos (starEach [] env)).any (·.1) = false := by intro _; rfl) : XP S ρ (.Call (.Name x p2) [e] [] pos) (.ok d) := by
  obtain ⟨f, fd, FR, hm, kp, b⟩ := hG.h
  obtain ⟨t, a1, a2⟩ := xa_cons he xa_nil hs
  refine ⟨fun σ H Q => t σ H fun vs H1 => vs = [V.ref ad] ∧ ∃ F, Ext F H1 ∧ ∀ v F' H', Grow F H1 F' H' → Rep S.K F' v d → Q v H', fun q ok => ⟨fun pins s σ H Q I h => ?_⟩, fun σ F H A Q w n q => a2 σ F H A _ w n fun vs F1 H1 g r => ?_⟩
  · obtain ⟨hh, oe, h1, h2, vs0, h3⟩ := ok.hot ad y hS
    refine wpAny_Call_Name_kw (ld_glob (X := S.cx q) I (show S.scope.names.lookup x = some .globalImplicit from hg) hm ?_ hdb)
    refine PySem.W.callWith_K (h₀ := S.base) I.ok.mod.kin kp (thn ((a1 q ok).run pos pins s σ H _ I h) fun us s1 ⟨vs, H1, I1, r, e1, q1⟩ => ⟨I1.kIn, ?_⟩) (hs _) (hpl _)
    subst e1
    obtain ⟨u1, rfl, ru⟩ := vals1 r
    obtain rfl : u1 = Value.ref ad := ru
    have P1 := I1.pin (ad, oe) (List.mem_append_left _ (show (ad, oe) ∈ q.pn from h1))
    have hpin : L2H.PinOk q.stack H1 s1 (ad, oe) := ⟨P1.1, P1.2.1, fun hm => (List.mem_cons.mp (I1.stkSub ad hm)).elim P1.2.2.1 P1.2.2.2.1, P1.2.2.2.2⟩
    have b1 := b s1 [.ref ad] I1.kIn (by rfl)
    rw [List.append_nil] at b1
    refine wpAny_call (codeAny_mono (FR.run q.A q.stack s1 H1 ⟨[.ref ad], []⟩ Q (fun _ _ _ => False) (ad, oe) (ok.room.mono hk) ⟨hh, vs0, h3, h2.2.2 vs0 h3⟩ hpin h2 I1.env0 b1 q1) fun r s' hq => ?_)
    cases r with
    | error e => exact absurd hq (fun ⟨_, _, _, _, _, _, _, _, _, _, _, _, z⟩ => z)
    | ok fl =>
      cases fl with
      | ret u => exact I1.after hq
      | next => exact False.elim hq
      | brk => exact False.elim hq
      | cont => exact False.elim hq
  · obtain ⟨v, rfl, r1⟩ := reps1 r
    cases r1
    exact ⟨rfl, F1, g.ext, fun v F' H' g2 r2 => q v F' H' (g.trans g2) r2⟩
end
end

/-! ### try -/
@[reducible] def Sig.tr (S : Sig) (W : WX) : Sig := { S with wx := W }
@[reducible] def Sig.suite (S : Sig) (a : Addr) (y : Str) : Sig := { S with wx := fun _ _ _ _ => False, calm := false, hot := some (a, y) }
instance {S : Sig} {W : WX} [h : Calm S] : Calm (S.tr W) := ⟨(h.h : S.calm = true)⟩
theorem envs_none {K : PySem.W.Frag} {F H : Hp} : ∀ σ : L2.St, Envs K F H σ (List.replicate σ.length none) []
  | [] => .nil
  | _ :: σ => .no (envs_none σ)
theorem suite_ok {S : Sig} {q : Rest} (ok : S.Ok q) {a : Addr} {oe : Obj} {y : Str} {pn : List (Addr × Obj)} (hz : L2N.Zn (.ref (He.ga S.K y)) none oe) (hf : ∃ vs, oe.data = .fields vs) :
    (S.suite a y).Ok { q with A := q.A.mark (some (.ref a)), pn := (a, oe) :: pn, xe := fun _ _ => False } :=
  ⟨⟨ok.room.dp, ok.room.un⟩, (fun z => nomatch z), (fun a' y' z => by cases z; exact ⟨rfl, oe, by simp, hz, hf⟩), ok.top, (fun _ _ ⟨_, _, _, _, _, _, _, _, _, _, _, _, _, _, _, _, z⟩ => z), ok.fn, ok.nd, PassesOwn.never⟩
theorem tr_ok {S : Sig} {q : Rest} (ok : S.Ok q) (hh : S.hot = none) {W : WX} {pn : List (Addr × Obj)} {xe : Value → Shared → Prop} (tk : L2N.Takes ((S.cx q).tr pn xe) W) (po : PassesOwn (model S.P S.w) q.A { q.env with scope := S.scope } xe) : (S.tr W).Ok { q with pn := pn, xe := xe } :=
  ⟨ok.room, ok.hd, (fun a y z => by rw [show (S.tr W).hot = S.hot from rfl, hh] at z; cases z), ok.top, tk, ok.fn, ok.nd, po⟩
section
variable {S : Sig} {ρ ρ1 : Env} {pos pos' np : Pos} {pin : List Nat} {body suite : List Stmt} {b0 : Stmt} {x y n : Str} {r : RS} {o : O}
/-- the end of try: the body's own, or the suite's, which hands back -/
def TryEnd (S : Sig) (pin : List Nat) (x : Str) (ρs : Addr → Env) (su : List Stmt) : RS → RS → Prop
  | .ex y _, r => PySem.W.exmOne S.K (.ref (He.ga S.K y)) (.ref (He.ga S.K x)) = some true ∧ ∃ o, r = .rt o none ∧ ∀ a, XB (S.suite a y) pin (ρs a) su (.rt o none)
  | rb, r => r = rb
theorem EPost.pinW {D : Ends} {σ : L2.St} {F H : Hp} {A : List Addr} {i : Nat} (q : EPost S pin D σ F H A r) : EPost S (i :: pin) D σ F H A r := by
  have h : ∀ {σ' : L2.St}, Pin (i :: pin) σ σ' → Pin pin σ σ' := fun p => ⟨p.len, fun j hj => p.at_ j (List.mem_cons_of_mem _ hj)⟩
  cases r with
  | nx ρ => exact fun σ' F' H' A' w t n k => q σ' F' H' A' w t n (h k)
  | bk ρ => exact fun σ' F' H' A' w t n k => q σ' F' H' A' w t n (h k)
  | ct ρ => exact fun σ' F' H' A' w t n k => q σ' F' H' A' w t n (h k)
  | rt o ρ => exact fun v σ' F' H' B A' w t ow n k => q v σ' F' H' B A' w t ow n (h k)
  | ex x ρ => exact fun σ' F' H' A' w t n k => q σ' F' H' A' w t n (h k)
theorem xs_try_as {rb : RS} (i : Nat) (hb : ∀ W, XB (S.tr W) pin ρ body rb) (he : TryEnd S pin x (fun a => (List.replicate ρ.length none).set i (some (.fro (.obj a)))) (b0 :: suite) rb r) (g : S.mg x = some (.ref (He.ga S.K x)))
    (hi : Nat.blt i ρ.length = true := by rfl) (hh : S.hot = none := by rfl) (ht : S.top = true := by rfl) (hN : S.N[i]? = some n := by rfl) (hln : S.scope.names.lookup n = some .local := by rfl) (hg : S.scope.names.lookup x = some .globalImplicit := by rfl) (hdb : (x == ("__debug__" : Str)) = false := by decide) (hpi : i ∉ pin := by decide) :
    XS S pin ρ (.Try body [.ExceptHandler (some (.Name x np)) (some n) (b0 :: suite) pos'] [] [] pos) r := by
  have hb' : ∀ W, ∃ t, (∀ q, (S.tr W).Ok q → PSs ((S.tr W).cx q) body t) ∧ ES (S.tr W) pin t ρ rb := hb
  obtain ⟨ts, hts1, hts2⟩ : ∃ ts : Addr → Value → Option Addr → TS, (∀ q, S.Ok q → ∀ (a : Addr) (oe : Obj) (cls : Value) (d : Option Addr) (pn : List (Addr × Obj)), L2N.Zn cls d oe → (∃ vs, oe.data = .fields vs) → PSs ((S.cx q).suite a ((a, oe) :: pn)) (b0 :: suite) (ts a cls d)) ∧
      ∀ y ρo, rb = .ex y ρo → ∀ a D σ H, tAnyB (S.suite a y) (b0 :: suite) D σ H → ts a (.ref (He.ga S.K y)) none D σ H := by
    refine ⟨fun a cls d D σ H => ∃ y, cls = .ref (He.ga S.K y) ∧ d = none ∧ tAnyB (S.suite a y) (b0 :: suite) D σ H, fun q ok a oe cls d pn hz hf => ⟨fun pins s σ H D I ⟨y, e1, e2, t, h, z⟩ => ?_⟩, fun y ρo e a D σ H h => ⟨y, rfl, rfl, h⟩⟩
    subst e1 e2
    exact (h _ (suite_ok ok hz hf)).run pins s σ H D I z
  refine ⟨fun D σ H => Classical.choose (hb' (wAs S.K (.ref (He.ga S.K x)) i ts S.wx D)) D σ H, fun q ok => ?_, fun σ F H A D w nv post => ?_⟩
  · obtain ⟨st, sf⟩ := ok.top ht
    exact L2N.ps_try_as (X := S.cx q) (tb := fun W => Classical.choose (hb' W)) (ts := ts) (Wout := S.wx) st sf ok.nd hN hln ⟨hg, hdb, .inl g⟩ ok.tk
      (fun W pn xe tk po => (Classical.choose_spec (hb' W)).1 _ (tr_ok ok hh tk po)) fun a oe cls d pn hz hf => hts1 q ok a oe cls d pn hz hf
  · refine (Classical.choose_spec (hb' _)).2 σ F H A D w nv ?_
    cases rb with
    | nx ρ' => obtain rfl : r = _ := he; exact post
    | bk ρ' => obtain rfl : r = _ := he; exact post
    | ct ρ' => obtain rfl : r = _ := he; exact post
    | rt o ρ' => obtain rfl : r = _ := he; exact post
    | ex y ρ' =>
      obtain ⟨e1, o, rfl, hsu⟩ := he
      intro σ' F' H' A' w' s' n' p'
      refine ⟨true, e1, fun _ a na => hts2 y ρ' rfl a _ _ _ ?_, fun z => nomatch z⟩
      have lσ : σ'.length = ρ.length := p'.len.trans nv.length
      have n2 : Envs S.K F' H' (σ'.set i (some (.ref a))) ((List.replicate ρ.length none).set i (some (.fro (.obj a)))) [] := by
        obtain ⟨A2, n3, p3⟩ := (envs_none (K := S.K) (F := F') (H := H') σ').put (.fro (.obj (a := a))) (i := i) (by rw [List.getElem?_replicate, if_pos (by rw [lσ]; exact Nat.le_of_ble_eq_true hi)])
        rw [lσ] at n3
        have : A2 = [] := by simpa using p3
        rw [← this]; exact n3
      refine (hsu a).any _ F' H' [] _ (WF.none w'.sub) n2 ?_
      intro v σ2 F2 H2 B A2 w2 s2 ow n4 p4
      exact post v (σ2.set i (σ'[i]?.getD none)) F2 H2 B A2 w2 ((s'.perm (fun a => Iff.rfl) (by simp)).trans s2) ow n4 ⟨by rw [List.length_set, p4.len, List.length_set, p'.len], fun j hj => by
        have ne : i ≠ j := fun e => hpi (by rw [e]; exact hj)
        rw [List.getElem?_set_ne ne, p4.at_ j hj, List.getElem?_set_ne ne, p'.at_ j hj]⟩
end
end G

namespace G
open PySem PySem.Spec PyProof.Rows L2
open PySem.W (Datum DatumOrd Tup T3 EachIs)
open Enc (enc)
/-! ### except X: .. without a name -/
section
variable {S : Sig} {ρ ρ1 : Env} {pos pos' np : Pos} {pin : List Nat} {body suite : List Stmt} {b0 : Stmt} {x y : Str} {r : RS} {o : O}
theorem xs_try_only {rb : RS} (hb : ∀ W, XB (S.tr W) pin ρ body rb) (he : TryEnd S pin x (fun _ => List.replicate ρ.length none) (b0 :: suite) rb r) (g : S.mg x = some (.ref (He.ga S.K x)))
    (hh : S.hot = none := by rfl) (ht : S.top = true := by rfl) (hg : S.scope.names.lookup x = some .globalImplicit := by rfl) (hdb : (x == ("__debug__" : Str)) = false := by decide) :
    XS S pin ρ (.Try body [.ExceptHandler (some (.Name x np)) none (b0 :: suite) pos'] [] [] pos) r := by
  have hb' : ∀ W, ∃ t, (∀ q, (S.tr W).Ok q → PSs ((S.tr W).cx q) body t) ∧ ES (S.tr W) pin t ρ rb := hb
  obtain ⟨ts, hts1, hts2⟩ : ∃ ts : Addr → Value → Option Addr → TS, (∀ q, S.Ok q → ∀ (a : Addr) (oe : Obj) (cls : Value) (d : Option Addr) (pn : List (Addr × Obj)), L2N.Zn cls d oe → (∃ vs, oe.data = .fields vs) → PSs ((S.cx q).suite a ((a, oe) :: pn)) (b0 :: suite) (ts a cls d)) ∧
      ∀ y ρo, rb = .ex y ρo → ∀ a D σ H, tAnyB (S.suite a y) (b0 :: suite) D σ H → ts a (.ref (He.ga S.K y)) none D σ H := by
    refine ⟨fun a cls d D σ H => ∃ y, cls = .ref (He.ga S.K y) ∧ d = none ∧ tAnyB (S.suite a y) (b0 :: suite) D σ H, fun q ok a oe cls d pn hz hf => ⟨fun pins s σ H D I ⟨y, e1, e2, t, h, z⟩ => ?_⟩, fun y ρo e a D σ H h => ⟨y, rfl, rfl, h⟩⟩
    subst e1 e2
    exact (h _ (suite_ok ok hz hf)).run pins s σ H D I z
  refine ⟨fun D σ H => Classical.choose (hb' (wMany S.K S.wx D [(.ref (He.ga S.K x), ts)])) D σ H, fun q ok => ?_, fun σ F H A D w nv post => ?_⟩
  · obtain ⟨st, sf⟩ := ok.top ht
    exact L2N.ps_try_many (X := S.cx q) (tb := fun W => Classical.choose (hb' W)) (l := [(.ref (He.ga S.K x), ts)]) (Wout := S.wx) st sf ok.tk
      (fun W pn xe tk po => (Classical.choose_spec (hb' W)).1 _ (tr_ok ok hh tk po)) (.cons ⟨hg, hdb, .inl g⟩ (fun a oe cls d pn hz hf => hts1 q ok a oe cls d pn hz hf) .nil)
  · refine (Classical.choose_spec (hb' _)).2 σ F H A D w nv ?_
    cases rb with
    | nx ρ' => obtain rfl : r = _ := he; exact post
    | bk ρ' => obtain rfl : r = _ := he; exact post
    | ct ρ' => obtain rfl : r = _ := he; exact post
    | rt o ρ' => obtain rfl : r = _ := he; exact post
    | ex y ρ' =>
      obtain ⟨e1, o, rfl, hsu⟩ := he
      intro σ' F' H' A' w' s' n' p'
      refine ⟨true, e1, fun _ a na => hts2 y ρ' rfl a _ _ _ ?_, fun z => nomatch z⟩
      have lσ : σ'.length = ρ.length := p'.len.trans nv.length
      have n2 : Envs S.K F' H' σ' (List.replicate ρ.length none) [] := by rw [← lσ]; exact envs_none σ'
      refine (hsu a).any _ F' H' [] _ (WF.none w'.sub) n2 ?_
      intro v σ2 F2 H2 B A2 w2 s2 ow n4 p4
      exact post v σ2 F2 H2 B A2 w2 ((s'.perm (fun a => Iff.rfl) (by simp)).trans s2) ow n4 (p'.trans p4)
end
/-! ### a comprehension whose source raises -/
section
variable {S : Sig} {ρ ρ1 : Env} {a b c e it tg elt : Expr} {pos p2 : Pos} {pin : List Nat} {es : List Expr} {x : Str}
theorem xp_lcX {own : List (Str × Nat)} {scope : Scope} {tgt : TG} {ifs : List Expr} [Calm S] (hi : XP S ρ it (.error x)) (hg : ∀ q, (S.blk scope).Ok q → PG ((S.blk scope).cx q) tg tgt) (bo : blkC S.N S.scope scope own = true := by (try dsimp only [sigOf, Sig.blk]); decide +kernel)
    (hs : ∀ (env : PySem.Env) (x : Value), foldedSetIterable it env x = pure x := by intro _ _; rfl) : XP S ρ (.ListComp elt [⟨tg, it, ifs, 0⟩] scope pos) (.error x) := by
  obtain ⟨t, h1, h2⟩ := hi
  refine ⟨tLc (iList S.K t) tgt (tAnyTs (S.blk scope) ifs) (tAnyE (S.blk scope) elt) (own.map (·.2)), fun q ok => pe_lc (X := S.cx q) Calm.h ok.nd (pi_list (h1 q ok)) (blkOk_by bo) (fun s H C cl fp => ?_) (fun s H C cl fp => ?_) (fun s H C cl fp => ?_) (hs _), fun σ F H A Q w n q => h2 σ F H A _ w n q⟩
  · obtain ⟨q', ok', e⟩ := blk_cx S q ok scope s H C cl fp
    rw [← e]; exact hg q' ok'
  · obtain ⟨q', ok', e⟩ := blk_cx S q ok scope s H C cl fp
    rw [← e]; exact pts_any ok' ifs
  · obtain ⟨q', ok', e⟩ := blk_cx S q ok scope s H C cl fp
    rw [← e]; exact pe_any ok' elt
end
/-! ### facts of the top, some more -/
abbrev AlX : Type := Bool × He.AlD
abbrev KF := PySem.W.Frag → Bool
def obsX (ex : List KF) (fa : List He.Fa) (fn : List He.DefD) (K : PySem.W.Frag) : AlX := (ex.all fun f => f K, He.obsD fa fn K)
def valX (fn : List He.DefD) : AlX := (true, He.valD fn)
def SaysX (ex : List KF) (fa : List He.Fa) (fn : List He.DefD) (K : PySem.W.Frag) : Prop := obsX ex fa fn K = valX fn
def obsXG (n : Nat) (ex : List KF) (fa : List He.Fa) (fn : List He.DefD) (g : Addr → Option Obj) : AlX := obsX ex fa fn (He.frG g (He.asD g n))
def hookX (n : Nat) (ex : List KF) (fa : List He.Fa) (fn : List He.DefD) : PySem.W.Hook where
  α := AlX
  obs := fun s => obsXG n ex fa fn s.heap.get?
  val := fun _ => valX fn
  says := fun _ h => ∃ K : PySem.W.Frag, K.In h ∧ SaysX ex fa fn K
  of := fun _ _ e => ⟨_, He.frG_in, e⟩
  keeps := fun _ _ _ ⟨K, hK, c⟩ k => ⟨K, PySem.W.Frag.In.keeps hK k, c⟩
theorem obsXG_eq {n : Nat} {ex : List KF} {fa : List He.Fa} {fn : List He.DefD} {g : Addr → Option Obj} {s : Shared} (h : ∀ a, g a = s.heap.get? a) : obsXG n ex fa fn g = (hookX n ex fa fn).obs s := by
  have e : g = s.heap.get? := funext h
  rw [e] <;> rfl
section
variable {ex : List KF} {fa : List He.Fa} {fn : List He.DefD} {K : PySem.W.Frag}
theorem SaysX.d (c : SaysX ex fa fn K) : He.SaysD fa fn K := congrArg (fun z : AlX => z.2) c
theorem SaysX.fact (c : SaysX ex fa fn K) (i : Nat) {f : KF} (h : ex[i]? = some f := by rfl) : f K = true :=
  List.all_eq_true.mp (show (ex.all fun f => f K) = true from congrArg (fun z : AlX => z.1) c) f (List.mem_of_getElem? h)
end
def kfExc (x : Str) : KF := fun K =>
  He.eqO (PySem.W.findIn K (.ref (He.ga K x)) "__getattribute__") (some (some (.builtin "BaseException.__getattribute__"))) && (He.eqO (PySem.W.findIn K (.ref (He.ga K x)) "__getattr__") (some none) &&
  (decide (PySem.W.subIn K (.ref (He.ga K x)) (.type "BaseException") = some true) && (PySem.W.hasDictIn K (He.ga K x) && (He.eqO (PySem.W.findIn K (.ref (He.ga K x)) "__class__") (some (some (.builtin "object.__class__"))) &&
  (He.eqO (PySem.W.specialIn K (.builtin "object.__class__") "__get__") (some (some (.builtin "getset_descriptor.__get__"))) && (decide (PySem.W.takesIn K (.builtin "object.__class__") = some true) && decide (PySem.W.mroIn K (He.ga K x) (.type "object") = some true)))))))
theorem kfExc_ok {K : PySem.W.Frag} {x : Str} (h : kfExc x K = true) : ExcC K (He.ga K x) := by
  obtain ⟨h1, h⟩ := He.ba h
  obtain ⟨h2, h⟩ := He.ba h
  obtain ⟨h3, h⟩ := He.ba h
  obtain ⟨h4, h⟩ := He.ba h
  obtain ⟨h5, h⟩ := He.ba h
  obtain ⟨h6, h⟩ := He.ba h
  obtain ⟨h7, h8⟩ := He.ba h
  exact ⟨He.eqO_ok h1, He.eqO_ok h2, of_decide_eq_true h3, h4, He.eqO_ok h5, He.eqO_ok h6, of_decide_eq_true h7, of_decide_eq_true h8⟩
def kfIs (x y : Str) (b : Bool) : KF := fun K => decide (PySem.W.kitOne K (.ref (He.ga K x)) (.ref (He.ga K y)) = some b)
theorem kfIs_ok {K : PySem.W.Frag} {x y : Str} {b : Bool} (h : kfIs x y b K = true) : PySem.W.kitOne K (.ref (He.ga K x)) (.ref (He.ga K y)) = some b := of_decide_eq_true h
def kfIsT (x : Str) (n : String) (b : Bool) : KF := fun K => decide (PySem.W.kitOne K (.ref (He.ga K x)) (.type n) = some b)
theorem kfIsT_ok {K : PySem.W.Frag} {x : Str} {n : String} {b : Bool} (h : kfIsT x n b K = true) : PySem.W.kitOne K (.ref (He.ga K x)) (.type n) = some b := of_decide_eq_true h
/-! ### what _law_refused tells -/
def m_refused (bs : List Bool) : Tx × Int := if (bs.countP fun y => decide (y = true)) = 1 then (⟨['r', 'e', 'f', 'u', 's', 'e', 'd']⟩, ((bs.idxOf true : Nat) : Int)) else (⟨['r', 'e', 'f', 'u', 's', 'e', 'd']⟩, -1)
end G

namespace G
open PySem PySem.Spec PyProof.Rows L2
open PySem.W (Datum DatumOrd Tup T3 EachIs)
open Enc (enc)
/-! ### what gen.py prints -/
def bnd {T U : Type} (v : T) (m : T → U) : U := m v
def eqB {T : Type} [DecidableEq T] (x y : T) : Bool := decide (x = y)
theorem eqB_iff {T : Type} [DecidableEq T] {x y : T} : eqB x y = true ↔ x = y := by unfold eqB; exact decide_eq_true_iff
theorem eqB_no {T : Type} [DecidableEq T] {x y : T} : eqB x y = false ↔ x ≠ y := by unfold eqB; exact decide_eq_false_iff_not
theorem eqB_self {T : Type} [DecidableEq T] (x : T) : eqB x x = true := eqB_iff.mpr rfl
def atD {T : Type} [Inhabited T] (xs : List T) (i : Int) : T := (atI xs i).getD default
class Sm {α : Type} (xs : List α) : Prop where
  h : xs.length ≤ 1000000
class Ft (p : Prop) : Prop where
  h : p
instance Sm.i1 {α : Type} (p : α → Bool) (xs : List α) [h : Sm xs] : Sm (xs.filter p) := ⟨Nat.le_trans (List.length_filter_le _ _) h.h⟩
instance Sm.i2 {α β : Type} (f : α → β) (xs : List α) [h : Sm xs] : Sm (xs.map f) := ⟨by rw [List.length_map]; exact h.h⟩
instance Sm.i3 {α : Type} : Sm ([] : List α) := ⟨by simp⟩
instance Sm.i4 {α : Type} (a : α) : Sm [a] := ⟨by simp⟩
instance Sm.i5 {α : Type} (a b : α) : Sm [a, b] := ⟨by simp⟩
instance Sm.i6 {α : Type} (a b c : α) : Sm [a, b, c] := ⟨by simp⟩
instance Sm.i7 {α : Type} (a b c d : α) : Sm [a, b, c, d] := ⟨by simp⟩
instance Sm.i8 {α : Type} (a b c d e : α) : Sm [a, b, c, d, e] := ⟨by simp⟩
instance Sm.i9 {α : Type} (a b c d e f : α) : Sm [a, b, c, d, e, f] := ⟨by simp⟩
theorem cutL_len {α : Type} (xs : List α) (lo hi : Option Int) : (cutL xs lo hi).length ≤ xs.length := by
  unfold cutL
  rw [List.length_take, List.length_drop]
  omega
instance Sm.i10 {α : Type} (xs : List α) (lo hi : Option Int) [h : Sm xs] : Sm (cutL xs lo hi) := ⟨Nat.le_trans (cutL_len _ _ _) h.h⟩
instance Sm.i11 {α β : Type} (xs : List α) (ys : List β) [h : Sm xs] : Sm (xs.zip ys) := ⟨by rw [List.length_zip]; have := h.h; omega⟩
instance Sm.i12 {α : Type} (xs : List α) [h : Sm xs] : Sm (enumL xs) := ⟨by rw [enumL_len]; exact h.h⟩
instance Sm.i13 {α : Type} (xs : List α) [h : Sm xs] : Sm xs.reverse := ⟨by rw [List.length_reverse]; exact h.h⟩
instance Sm.i14 {T : Type} [DecidableEq T] [DatumOrd T] (xs : List T) [h : Sm xs] : Sm (sortT xs) := ⟨by rw [(sortT_perm xs).length_eq]; exact h.h⟩
theorem sm_rng {lo hi : Int} (h : hi - lo ≤ 1000000) : Sm (rng lo hi) := ⟨by rw [rng_len]; omega⟩
section
variable {T : Type} [DecidableEq T] [Datum T] [Enc T]
abbrev fv (x : T) : Option O := some (.fro (enc x))
abbrev ov (xs : List T) : Option O := some (oL xs)
end
section
variable {S : Sig} {ρ ρ1 : Env} {a b c e it tg elt : Expr} {pos p2 p' : Pos} {pin : List Nat} {es : List Expr} {st : Stmt} {ss body : List Stmt} {x y : Str}
variable {T U V' : Type}
/-! ### blocks -/
theorem xb_stp (f : U → RS) (R : T → Env) {v : T} {m : T → U} (h : XS S pin ρ st (.nx (R v))) (k : ∀ w, w = v → XB S pin (R w) ss (f (m w))) : XB S pin ρ (st :: ss) (f (bnd v m)) := xb_cons h (k v rfl)
/-- a statement that changes no known slot -/
theorem xb_un (f : U → RS) {v : U} (h : XS S pin ρ st (.nx ρ)) (k : XB S pin ρ ss (f v)) : XB S pin ρ (st :: ss) (f v) := xb_cons h k
theorem xb_fn (f : U → RS) {v : T} {m : T → U} (R : T → Env) {A : List Stmt} {k : Bool} {s1 s2 : T} (hv : v = if k = true then s1 else s2) (hc : XT S ρ c k) (ha : k = true → XB S pin ρ A (.nx (R s1))) (hb : k = false → ρ = R s2) (hk : ∀ w, w = v → XB S pin (R w) ss (f (m w))) :
    XB S pin ρ (.If c A [] pos :: ss) (f (bnd v m)) := by
  subst hv
  cases k with
  | true => exact xb_cons (xs_if hc ha fun z => nomatch z) (hk _ rfl)
  | false => exact xb_cons (xs_if hc (fun z => nomatch z) fun _ => by rw [hb rfl]; exact xb_nil) (hk _ rfl)
def fN (R : T → Env) : T → RS := fun s => .nx (R s)
def fL {σ β : Type} (R : σ → Env) (fr : β → RS) : LO σ β → RS := LO.rs R fr
/-- if c: .. [else: ..], both go on -/
theorem xb_ij (f : U → RS) (R : T → Env) {A B : List Stmt} {k : Bool} {s1 s2 : T} {m : T → U} (hc : XT S ρ c k) (ha : k = true → XB S pin ρ A (fN R s1)) (hb : k = false → XB S pin ρ B (fN R s2)) (hk : ∀ w, w = (if k = true then s1 else s2) → XB S pin (R w) ss (f (m w))) :
    XB S pin ρ (.If c A B pos :: ss) (f (bnd (if k = true then s1 else s2) m)) := xb_cons (xs_ifj R hc ha hb) (hk _ rfl)
/-- the end of a branch that goes on -/
theorem xb_go (is : List Nat) {ρ2 : Env} (hq : is.foldl (fun r i => r.set i none) ρ = ρ2 := by rfl) : XB S pin ρ [] (.nx ρ2) := xb_forgets is xb_nil hq
theorem xb_goN (R : T → Env) (is : List Nat) (s : T) (hq : is.foldl (fun r i => r.set i none) ρ = R s := by rfl) : XB S pin ρ [] (fN R s) := xb_forgets is xb_nil hq
theorem xb_goL {σ β : Type} (R : σ → Env) (fr : β → RS) (is : List Nat) (s : σ) (hq : is.foldl (fun r i => r.set i none) ρ = R s := by rfl) : XB S pin ρ [] (fL R fr (.nx s)) := xb_forgets is xb_nil hq
theorem xb_rtF [DecidableEq T] [Datum T] [Enc T] {v : T} (h : TP S ρ e v) : XB S pin ρ (.Return (some e) pos :: ss) (rF v) := xb_stop (xs_retF h) fun _ z => nomatch z
theorem xb_rtE [DecidableEq T] [Datum T] [Enc T] {v : T} (h : TP S ρ e v) : XB S pin ρ (.Return (some e) pos :: ss) (rE rF (.ok v)) := xb_stop (xs_retF h) fun _ z => nomatch z
theorem xb_rtL {σ β : Type} (R : σ → Env) (fr : β → RS) {v : β} (h : XB S pin ρ (st :: ss) (fr v)) : XB S pin ρ (st :: ss) (fL R fr (.rt v)) := h
theorem xb_rtX [DecidableEq T] [Datum T] [Enc T] {r : Except Str T} (h : XP S ρ e (exD (oE oF r))) : XB S pin ρ (.Return (some e) pos :: ss) (rE rF r) := xb_stop (xs_retX h) (Term.ne (term_rE _))
/-- for, left by its end alone -/
theorem xb_fo [Calm S] (fr : U → RS) {α σ : Type} (xs : List α) (g : α → D) (R : σ → Env) {f : σ → α → σ} (I : Nat → σ → Prop) {tgt : TG} (ρb : σ → α → Env) {s0 : σ} {m : σ → U}
    (hi : XI S ρ tg it (xs.map g)) (hg : ∀ q, S.Ok q → PG (S.cx q) tg tgt) (hG : ∀ s x, EG S pin tgt (R s) (g x) (ρb s x)) (h0 : I 0 s0)
    (hI : ∀ i s x, xs[i]? = some x → I i s → I (i + 1) (f s x))
    (hb : ∀ i s x, xs[i]? = some x → I i s → XB S pin (ρb s x) body (fN R (f s x)))
    (hk : ∀ w, w = xs.foldl f s0 → I xs.length w → XB S pin (R w) ss (fr (m w))) (hq : ρ = R s0 := by rfl)
    (hs : ∀ (env : PySem.Env) (x : Value), foldedSetIterable it env x = pure x := by intro _ _; rfl) : XB S pin ρ (.For tg it body [] pos :: ss) (fr (bnd (xs.foldl f s0) m)) := by
  subst hq
  exact xb_forN fr xs g R f I ρb s0 m hi hg hG h0 hI hb hk hs
/-- for, that may end the def -/
theorem xb_fe [Calm S] (fr : U → RS) (hfr : ∀ b, Term (fr b)) {α σ : Type} (xs : List α) (g : α → D) (R : σ → Env) {f : σ → α → LO σ U} (I : Nat → σ → Prop) {tgt : TG} (ρb : σ → α → Env) {s0 : σ} {m : σ → U}
    (hi : XI S ρ tg it (xs.map g)) (hg : ∀ q, S.Ok q → PG (S.cx q) tg tgt) (hG : ∀ s x, EG S pin tgt (R s) (g x) (ρb s x)) (h0 : I 0 s0)
    (hI : ∀ i s x s', xs[i]? = some x → I i s → f s x = .nx s' → I (i + 1) s')
    (hb : ∀ i s x, xs[i]? = some x → I i s → XB S pin (ρb s x) body (fL R fr (f s x)))
    (hk : ∀ w, forL f xs s0 = .nx w → XB S pin (R w) ss (fr (m w))) (hq : ρ = R s0 := by rfl)
    (hs : ∀ (env : PySem.Env) (x : Value), foldedSetIterable it env x = pure x := by intro _ _; rfl) : XB S pin ρ (.For tg it body [] pos :: ss) (fr ((forL f xs s0).fin m)) := by
  subst hq
  exact xb_for fr hfr xs g R f I ρb s0 m hi hg hG h0 hI hb hk hs
/-- while, left by its end alone -/
def whD {σ : Type} (c : σ → Bool) (f : σ → σ) (n : Nat) (s : σ) : σ := match whL (β := Empty) c (fun s => .nx (f s)) n s with
  | some (.nx w) => w
  | _ => s
theorem whL_nx {σ : Type} (c : σ → Bool) (f : σ → σ) : ∀ (n : Nat) (s : σ) {o : LO σ Empty}, whL c (fun s => .nx (f s)) n s = some o → ∃ w, o = .nx w
  | 0, _, _, h => by cases h
  | n + 1, s, o, h => by
    unfold whL at h
    split at h
    · exact whL_nx c f n _ h
    · cases h; exact ⟨_, rfl⟩
theorem xb_wh (fr : U → RS) {σ : Type} {cond : Expr} (R : σ → Env) {cc : σ → Bool} {f : σ → σ} (I : σ → Prop) {s0 : σ} {n : Nat} {m : σ → U} (ho : (whL (β := Empty) cc (fun s => .nx (f s)) n s0).isSome = true) (h0 : I s0)
    (hI : ∀ s, I s → cc s = true → I (f s)) (hc : ∀ s, I s → XT S (R s) cond (cc s)) (hb : ∀ s, I s → cc s = true → XB S pin (R s) body (fN R (f s)))
    (hk : ∀ w, w = whD cc f n s0 → I w → cc w = false → XB S pin (R w) ss (fr (m w))) (hq : ρ = R s0 := by rfl) : XB S pin ρ (.While cond body [] pos :: ss) (fr (bnd (whD cc f n s0) m)) := by
  subst hq
  obtain ⟨o, ho⟩ := Option.isSome_iff_exists.mp ho
  obtain ⟨w, rfl⟩ := whL_nx cc f n s0 ho
  have e : whD cc f n s0 = w := by unfold whD; rw [ho]
  have key : ∀ (n : Nat) (s : σ), whL (β := Empty) cc (fun s => .nx (f s)) n s = some (.nx w) → I s → I w ∧ cc w = false := by
    intro n
    induction n with
    | zero => intro s h; cases h
    | succ n ih =>
      intro s h hs
      unfold whL at h
      by_cases q : cc s = true
      · rw [if_pos q] at h
        exact ih _ h (hI s hs q)
      · rw [if_neg q] at h
        cases h
        exact ⟨hs, by simpa using q⟩
  obtain ⟨k1, k2⟩ := key n s0 ho h0
  have h := xs_while (pos := pos) (β := Empty) R cc (fun s => .nx (f s)) (fun b => b.elim) I s0 n ho h0 (fun b => b.elim) hc fun s hs hcs => ⟨hb s hs hcs, fun s' z => by cases z; exact hI s hs hcs⟩
  exact xb_cons h (by have := hk w e.symm k1 k2; rw [← e] at this; show XB S pin (R w) ss (fr (m (whD cc f n s0))); rw [e] at this ⊢; exact this)
/-! ### expressions -/
section
variable [DecidableEq T] [Datum T] [Enc T] {u v : T}
theorem te_eq (ha : TV S ρ a u) (hb : TV S ρ b v) (hd : Datum.depth T ≤ 64 := by decide) : XT S ρ (.Compare a [.Eq] [b] pos) (eqB u v) := tt_eq ha hb hd
theorem te_ne (ha : TV S ρ a u) (hb : TV S ρ b v) (hd : Datum.depth T ≤ 64 := by decide) : XT S ρ (.Compare a [.NotEq] [b] pos) (!eqB u v) := tt_ne ha hb hd
theorem tv_eq (ha : TV S ρ a u) (hb : TV S ρ b v) (hd : Datum.depth T ≤ 64 := by decide) : TP S ρ (.Compare a [.Eq] [b] pos) (eqB u v) := tp_eq ha hb hd
theorem tv_ne (ha : TV S ρ a u) (hb : TV S ρ b v) (hd : Datum.depth T ≤ 64 := by decide) : TP S ρ (.Compare a [.NotEq] [b] pos) (!eqB u v) := tp_ne ha hb hd
theorem te_in {xs : List T} (ha : TV S ρ a u) (hb : TV S ρ b xs) (hd : Datum.depth T ≤ 63 := by decide) (hm : behindInMarks .In b = false := by rfl) : XT S ρ (.Compare a [.In] [b] pos) (memB u xs) := tt_in ha hb hd hm
theorem te_ni {xs : List T} (ha : TV S ρ a u) (hb : TV S ρ b xs) (hd : Datum.depth T ≤ 63 := by decide) (hm : behindInMarks .NotIn b = false := by rfl) : XT S ρ (.Compare a [.NotIn] [b] pos) (!memB u xs) := tt_ni ha hb hd hm
theorem tv_in {xs : List T} (ha : TV S ρ a u) (hb : TV S ρ b xs) (hd : Datum.depth T ≤ 63 := by decide) (hm : behindInMarks .In b = false := by rfl) : TP S ρ (.Compare a [.In] [b] pos) (memB u xs) := tp_in ha hb hd hm
theorem tv_ni {xs : List T} (ha : TV S ρ a u) (hb : TV S ρ b xs) (hd : Datum.depth T ≤ 63 := by decide) (hm : behindInMarks .NotIn b = false := by rfl) : TP S ρ (.Compare a [.NotIn] [b] pos) (!memB u xs) := tp_ni ha hb hd hm
theorem te_inT {xs : Tup T} (ha : TV S ρ a u) (hb : TV S ρ b xs) (hd : Datum.depth T ≤ 63 := by decide) (hm : behindInMarks .In b = false := by rfl) : XT S ρ (.Compare a [.In] [b] pos) (memB u xs.items) := tt_inT ha hb hd hm
theorem te_niT {xs : Tup T} (ha : TV S ρ a u) (hb : TV S ρ b xs) (hd : Datum.depth T ≤ 63 := by decide) (hm : behindInMarks .NotIn b = false := by rfl) : XT S ρ (.Compare a [.NotIn] [b] pos) (!memB u xs.items) := tt_niT ha hb hd hm
theorem tv_inT {xs : Tup T} (ha : TV S ρ a u) (hb : TV S ρ b xs) (hd : Datum.depth T ≤ 63 := by decide) (hm : behindInMarks .In b = false := by rfl) : TP S ρ (.Compare a [.In] [b] pos) (memB u xs.items) := tp_inT ha hb hd hm
theorem tv_niT {xs : Tup T} (ha : TV S ρ a u) (hb : TV S ρ b xs) (hd : Datum.depth T ≤ 63 := by decide) (hm : behindInMarks .NotIn b = false := by rfl) : TP S ρ (.Compare a [.NotIn] [b] pos) (!memB u xs.items) := tp_niT ha hb hd hm
theorem atD_ok [Inhabited T] {xs : List T} {i : Int} (h : (0 ≤ i ∧ i < xs.length) ∨ (i < 0 ∧ 0 ≤ i + xs.length)) : atI xs i = some (atD xs i) := by
  unfold atD
  have : ∃ z, atI xs i = some z := by
    rcases h with h | h
    · exact atI_ok h
    · unfold atI ixN
      rw [if_neg (by omega), if_pos (by omega)]
      exact ⟨xs[(i + xs.length).toNat]'(by omega), List.getElem?_eq_getElem _⟩
  obtain ⟨z, e⟩ := this
  rw [e]; rfl
theorem tv_ix [Inhabited T] {xs : List T} {i : Int} (ha : TP S ρ a xs) (hb : TP S ρ b i) (h : (0 ≤ i ∧ i < xs.length) ∨ (i < 0 ∧ 0 ≤ i + xs.length)) (hs : PlainIx b := by intro _ _; rfl) : TP S ρ (.Subscript a b pos) (atD xs i) := tp_ixL ha hb (atD_ok h) hs
theorem tv_ixT [Inhabited T] {xs : Tup T} {i : Int} (ha : TP S ρ a xs) (hb : TP S ρ b i) (h : (0 ≤ i ∧ i < xs.items.length) ∨ (i < 0 ∧ 0 ≤ i + xs.items.length)) (hs : PlainIx b := by intro _ _; rfl) : TP S ρ (.Subscript a b pos) (atD xs.items i) := tp_ixT ha hb (atD_ok h) hs
end
section
variable {α : Type} [DecidableEq T] [Datum T] [Enc T] [Calm S] (own : List (Str × Nat)) {scope : Scope} {tgt : TG} {ifs : List Expr}
/-- [x for x in xs if c] -/
theorem tp_lcf (xs : List T) (p : T → Bool) (ρb : T → Env) (hi : XI S ρ tg it (xs.map enc)) (hg : ∀ q, (S.blk scope).Ok q → PG ((S.blk scope).cx q) tg tgt) (ho : TgOwn tgt (own.map (·.2)))
    (hG : ∀ x ∈ xs, EG (S.blk scope) [] tgt (wipeE ρ (own.map (·.2))) (enc x) (ρb x)) (ht : ∀ x ∈ xs, XT (S.blk scope) (ρb x) c (p x)) (he : ∀ x ∈ xs, p x = true → TP (S.blk scope) (ρb x) elt x) (hl : xs.length ≤ 1000000) (bo : blkC S.N S.scope scope own = true := by (try dsimp only [sigOf, Sig.blk]); decide +kernel)
    (hs : ∀ (env : PySem.Env) (x : Value), foldedSetIterable it env x = pure x := by intro _ _; rfl) : TP S ρ (.ListComp elt [⟨tg, it, [c], 0⟩] scope pos) (xs.filter p) :=
  (tp_lc xs enc p (fun x => x) own ρb hi hg ho hG ht he hl bo hs).cast (by rw [List.map_id'])
theorem ts_lcf (xs : List T) (p : T → Bool) (ρb : T → Env) (i : Nat) {y : Str} {py spos : Pos} (hi : XI S ρ tg it (xs.map enc)) (hg : ∀ q, (S.blk scope).Ok q → PG ((S.blk scope).cx q) tg tgt) (ho : TgOwn tgt (own.map (·.2)))
    (hG : ∀ x ∈ xs, EG (S.blk scope) [] tgt (wipeE ρ (own.map (·.2))) (enc x) (ρb x)) (ht : ∀ x ∈ xs, XT (S.blk scope) (ρb x) c (p x)) (he : ∀ x ∈ xs, p x = true → TP (S.blk scope) (ρb x) elt x) (hl : xs.length ≤ 1000000)
    (hn : Nat.blt i ρ.length = true := by rfl) (hp : i ∉ pin := by decide) (hN : S.N[i]? = some y := by rfl) (hy : S.scope.names.lookup y = some .local := by rfl) (hsw : ∀ env : PySem.Env, swapsWith (.ListComp elt [⟨tg, it, [c], 0⟩] scope pos) (some (.Name y py)) spos.line { env with scope := S.scope } = pure true := by intro _; exact sw_true rfl rfl rfl (by decide +kernel)) (bo : blkC S.N S.scope scope own = true := by (try dsimp only [sigOf, Sig.blk]); decide +kernel)
    (hs : ∀ (env : PySem.Env) (x : Value), foldedSetIterable it env x = pure x := by intro _ _; rfl) : XS S pin ρ (.Assign [.Name y py] (.ListComp elt [⟨tg, it, [c], 0⟩] scope pos) spos) (.nx (ρ.set i (some (.fro (enc (xs.filter p)))))) :=
  (ts_lc xs enc p (fun x => x) own ρb i hi hg ho hG ht he hl hn hp hN hy hsw bo hs).cast (by rw [List.map_id'])
end
/-- a, b = e : the slots by R -/
theorem xs_un {tgt : Expr} {g : TG} {d : D} {ρ2 : Env} (hg : ∀ q, S.Ok q → PG (S.cx q) tgt g) (h : XP S ρ e (.ok d)) (he : EG S pin g ρ d ρ1) (hq : ρ1 = ρ2 := by rfl) (hs : ∀ env : PySem.Env, swapsWithSole [tgt] e pos.line env = pure false := by intro _; rfl) (hw : ∀ env : PySem.Env, swappedStores [tgt] e env = pure none := by intro _; rfl)
    (h1 : ∀ env : PySem.Env, (assignEach [tgt] env).map (·.2) = [assign tgt env] := by intro _; rfl) : XS S pin ρ (.Assign [tgt] e pos) (.nx ρ2) := by
  subst hq
  exact xs_unpack hg h he hs hw h1
theorem xs_unC {tgt : Expr} {g : TG} {d : D} {ρ2 : Env} (hg : ∀ q, S.Ok q → PG (S.cx q) tgt g) (h : XP S ρ e (.ok d)) (he : EG S pin g ρ d ρ1) (hq : ρ1 = ρ2 := by rfl) (hs : ∀ env : PySem.Env, swapsWithSole [tgt] e pos.line { env with scope := S.scope } = pure false := by intro _; rfl) (hw : ∀ env : PySem.Env, swappedStores [tgt] e { env with scope := S.scope } = pure none := by intro _; rfl)
    (h1 : ∀ env : PySem.Env, (assignEach [tgt] env).map (·.2) = [assign tgt env] := by intro _; rfl) : XS S pin ρ (.Assign [tgt] e pos) (.nx ρ2) := by
  subst hq
  obtain ⟨t, a1, a2⟩ := h
  refine ⟨_, fun q ok => ps_asg (a1 q ok) (hg q ok) (hs _) (hw _) (h1 _), fun σ F H A D w n q => a2 σ F H A _ w n fun v F1 H1 g1 r => he σ F1 H1 A v _ (g1.wf w) (g1.envs n) r fun σ' A' w' m n' p => ?_⟩
  exact q σ' F1 H1 A' w' ((g1.stp.mono (by simp) (A' := A)).more (C := A) (fun a h => .inl h) |>.perm (fun a => Iff.rfl) fun a h => List.mem_append_right _ (m a h)) n' p
theorem xs_sF [DecidableEq T] [Datum T] [Enc T] {v : T} {ρ2 : Env} (i : Nat) {x : Str} {p' : Pos} (h : TP S ρ e v) (hq : ρ.set i (fv v) = ρ2 := by rfl) (hi : Nat.blt i ρ.length = true := by rfl) (hp : i ∉ pin := by decide) (hN : S.N[i]? = some x := by rfl) (hx : Loc S.scope x := by first | exact .inl rfl | exact .inr rfl) (hst : S.st x = true ∨ S.scope.names.lookup x = some .local := by first | exact .inl rfl | exact .inr rfl)
    (hs : ∀ env : PySem.Env, swapsWith e (some (.Name x p')) pos.line { env with scope := S.scope } = pure false := by intro _; rfl) : XS S pin ρ (.Assign [.Name x p'] e pos) (.nx ρ2) := by
  subst hq
  exact xs_setF i h hi hp hN hx hst hs
/-- x = [] | [..], owned -/
theorem xs_sO [DecidableEq T] [Datum T] [Enc T] {v : List T} {ρ2 : Env} (i : Nat) {x : Str} {p' : Pos} (h : XA S ρ es (v.map enc)) (hl : v.length ≤ 1000000) (hq : ρ.set i (ov v) = ρ2 := by rfl) (hi : Nat.blt i ρ.length = true := by rfl) (hp : i ∉ pin := by decide) (hN : S.N[i]? = some x := by rfl) (hx : Loc S.scope x := by first | exact .inl rfl | exact .inr rfl) (hst : S.st x = true ∨ S.scope.names.lookup x = some .local := by first | exact .inl rfl | exact .inr rfl)
    (hs : ∀ env : PySem.Env, swapsWith (.List es p2) (some (.Name x p')) pos.line { env with scope := S.scope } = pure false := by intro _; rfl) : XS S pin ρ (.Assign [.Name x p'] (.List es p2) pos) (.nx ρ2) := by
  subst hq
  exact xs_set i (xx_lst h (by simpa using hl)) hi hp hN hx hst hs
/-- some slots are forgotten ahead -/
theorem xb_drop (is : List Nat) {r : RS} {ρ2 : Env} (h : XB S pin ρ2 ss r) (hq : is.foldl (fun r i => r.set i none) ρ = ρ2 := by rfl) : XB S pin ρ ss r := by
  have one : ∀ (i : Nat) (ρ : Env), XB S pin (ρ.set i none) ss r → XB S pin ρ ss r := fun i ρ h => by
    obtain ⟨t, h1, h2⟩ := h
    refine ⟨t, h1, fun σ F H A D w n q => ?_⟩
    obtain ⟨B, A2, n2, p2⟩ := n.drop i
    exact h2 σ F H A2 D (w.perm p2).right n2 (q.trans (Stp.refl.perm (fun _ => Iff.rfl) fun a h => p2.mem_iff.mpr (List.mem_append_right _ h)) Pin.refl)
  have all : ∀ (is : List Nat) (ρ : Env), XB S pin (is.foldl (fun r i => r.set i none) ρ) ss r → XB S pin ρ ss r := by
    intro is
    induction is with
    | nil => intro ρ h; exact h
    | cons i is ih => intro ρ h; exact one i ρ (ih _ h)
  subst hq
  exact all is ρ h
/-- a loop within a loop -/
def LO.thn {σ σ' β : Type} (r : LO σ β) (k : σ → LO σ' β) : LO σ' β := match r with
  | .nx s => k s
  | .bk s => k s
  | .rt b => .rt b
theorem xb_feL [Calm S] {σ' β : Type} {R' : σ' → Env} {fr : β → RS} (hfr : ∀ b, Term (fr b)) {α σ : Type} (xs : List α) (g : α → D) (R : σ → Env) {f : σ → α → LO σ β} (I : Nat → σ → Prop) {tgt : TG} (ρb : σ → α → Env) {s0 : σ} {m : σ → LO σ' β}
    (hi : XI S ρ tg it (xs.map g)) (hg : ∀ q, S.Ok q → PG (S.cx q) tg tgt) (hG : ∀ s x, EG S pin tgt (R s) (g x) (ρb s x)) (h0 : I 0 s0)
    (hI : ∀ i s x s', xs[i]? = some x → I i s → f s x = .nx s' → I (i + 1) s')
    (hb : ∀ i s x, xs[i]? = some x → I i s → XB S pin (ρb s x) body (fL R fr (f s x)))
    (hk : ∀ w, forL f xs s0 = .nx w → XB S pin (R w) ss (fL R' fr (m w))) (hq : ρ = R s0 := by rfl)
    (hs : ∀ (env : PySem.Env) (x : Value), foldedSetIterable it env x = pure x := by intro _ _; rfl) : XB S pin ρ (.For tg it body [] pos :: ss) (fL R' fr ((forL f xs s0).thn m)) := by
  subst hq
  have h := xs_for (pos := pos) xs g R f fr I ρb s0 hi hg hG h0 hfr (fun i s x hx h => ⟨hb i s x hx h, fun s' e => hI i s x s' hx h e⟩) hs
  cases e : forL f xs s0 with
  | nx w =>
    rw [e] at h
    exact xb_cons h (hk w e)
  | bk w =>
    have nb : ∀ (xs : List α) (s : σ), forL f xs s ≠ .bk w := by
      intro xs
      induction xs with
      | nil => intro s z; cases z
      | cons x xs ih =>
        intro s z
        unfold forL at z
        cases ef : f s x with
        | nx s1 => rw [ef] at z; exact ih s1 z
        | bk s1 => rw [ef] at z; cases z
        | rt b => rw [ef] at z; cases z
    exact absurd e (nb xs s0)
  | rt b =>
    rw [e] at h
    exact xb_stop h (hfr b).ne
/-- a, b = x, y -/
theorem xs_par [Calm S] {T' : Type} [DecidableEq T] [Datum T] [Enc T] [DecidableEq T'] [Datum T'] [Enc T'] {u : T} {v : T'} {ρ2 : Env} (i j : Nat) {x y : Str} {px py pt pt2 : Pos} {kt k2 : Nat} (ha : TP S ρ a u) (hb : TP S ρ b v) (hq : (ρ.set i (fv u)).set j (fv v) = ρ2 := by rfl) (hi : Nat.blt i ρ.length = true := by rfl) (hj : Nat.blt j ρ.length = true := by rfl) (hp : i ∉ pin := by decide) (hp2 : j ∉ pin := by decide) (hN : S.N[i]? = some x := by rfl) (hN2 : S.N[j]? = some y := by rfl) (hij : i ≠ j := by decide)
    (hx : S.scope.names.lookup x = some .local := by rfl) (hy : S.scope.names.lookup y = some .local := by rfl) (he : ∀ env : PySem.Env, starEach [a, b] env = (false, eval a env) :: starEach [b] env := by intro _; rfl) (he2 : ∀ env : PySem.Env, starEach [b] env = (false, eval b env) :: starEach [] env := by intro _; rfl)
    (hw : ∀ env : PySem.Env, swappedStores [.Tuple [.Name x px, .Name y py] kt pt] (.Tuple [a, b] k2 pt2) { env with scope := S.scope } = pure (some [x, y]) := by intro _; rfl)
    (hs : ∀ env : PySem.Env, swapsWithSole [.Tuple [.Name x px, .Name y py] kt pt] (.Tuple [a, b] k2 pt2) pos.line { env with scope := S.scope } = pure false := by intro _; rfl) : XS S pin ρ (.Assign [.Tuple [.Name x px, .Name y py] kt pt] (.Tuple [a, b] k2 pt2) pos) (.nx ρ2) := by
  subst hq
  obtain ⟨t, a1, a2⟩ := xa_cons ha (xa_cons hb xa_nil he2) he
  refine ⟨_, fun q ok => ps_par (X := S.cx q) Calm.h ok.nd hN hN2 hij hx hy (a1 q ok) (hw _) (hs _), fun σ F H A D w n q => a2 σ F H A _ w n fun vs F1 H1 g r => ?_⟩
  obtain ⟨v1, v2, rfl, r1, r2⟩ := reps2 r
  have w1 := g.wf w
  obtain ⟨A2, n2, w2, m2⟩ := (g.envs n).store (B := []) (.fro r1) (Nat.le_of_ble_eq_true hi) w1
  obtain ⟨A3, n3, w3, m3⟩ := n2.store (B := []) (.fro r2) (by rw [List.length_set]; exact Nat.le_of_ble_eq_true hj) w2
  exact ⟨v1, v2, rfl, q _ F1 H1 A3 w3 (((g.stp.mono (by simp) (A' := A)).more (C := A) fun a h => .inl h).perm (fun _ => Iff.rfl) fun a h => by simpa using m2 a (by simpa using m3 a h)) n3 ((Pin.set hp).trans (Pin.set hp2))⟩
/-- freeze -/
theorem xb_fz [DecidableEq T] [Datum T] [Enc T] (i : Nat) {r : RS} {v : List T} {ρ2 : Env} (hρ : ρ[i]? = some (ov v)) (h : XB S pin ρ2 ss r) (hq : ρ.set i (fv v) = ρ2 := by rfl) : XB S pin ρ ss r := by
  subst hq
  refine xb_freeze i hρ ?_
  rw [oL_d]
  exact h
theorem tp_len2 {T' : Type} [DecidableEq T] [Datum T] [Enc T] [DecidableEq T'] [Datum T'] [Enc T'] {x : T × T'} (hm : S.mg "len" = none) (h : TV S ρ a x) (hg : S.scope.names.lookup ("len" : Str) = some .globalImplicit := by rfl) (he : ∀ env : PySem.Env, starEach [a] env = (false, eval a env) :: starEach [] env := by intro _; rfl) : TP S ρ (.Call (.Name "len" p2) [a] [] pos) (2 : Int) :=
  xp_cb (p := p2) (pos := pos) (cb_len_tup (S := S) (ds := [enc x.1, enc x.2])) hm (xav_cons h xav_nil he) hg (by decide +kernel) (by decide) (by decide) he (by intro _; rfl)
theorem tp_len3 {T' T'' : Type} [DecidableEq T] [Datum T] [Enc T] [DecidableEq T'] [Datum T'] [Enc T'] [DecidableEq T''] [Datum T''] [Enc T''] {x : T3 T T' T''} (hm : S.mg "len" = none) (h : TV S ρ a x) (hg : S.scope.names.lookup ("len" : Str) = some .globalImplicit := by rfl) (he : ∀ env : PySem.Env, starEach [a] env = (false, eval a env) :: starEach [] env := by intro _; rfl) : TP S ρ (.Call (.Name "len" p2) [a] [] pos) (3 : Int) :=
  xp_cb (p := p2) (pos := pos) (cb_len_tup (S := S) (ds := [enc x.a, enc x.b, enc x.c])) hm (xav_cons h xav_nil he) hg (by decide +kernel) (by decide) (by decide) he (by intro _; rfl)
theorem walk_zipT {K : PySem.W.Frag} {a b : Addr} {xs ys : List V} {n : Nat} (hn : n = min xs.length ys.length) : Walk (RZ.ItzT K a b) n (fun H => SqT K H a xs ∧ SqT K H b ys) (YPair (fun i => xs[i]?) (fun i => ys[i]?)) := by
  subst hn
  refine ⟨fun i _ hi q => ?_, fun _ q => ⟨xs, ys, q.1, q.2, by omega⟩, fun i H v H' _ q y => ?_⟩
  · have h1 : i < xs.length := by omega
    have h2 : i < ys.length := by omega
    exact ⟨xs, ys, xs[i], ys[i], q.1, q.2, by simp [h1], by simp [h2]⟩
  · obtain ⟨T, x, z, h1, h2, h3, h4, h5⟩ := y
    exact ⟨T, x, z, h1, h2, h3, h4 xs q.1, h5 ys q.2⟩
theorem xi_zpT {T' : Type} [DecidableEq T] [Datum T] [Enc T] [DecidableEq T'] [Datum T'] [Enc T'] {elts : List Expr} {kk : Nat} {tpos : Pos} {xs : Tup T} {ys : Tup T'} (hm : S.mg "zip" = none) (h : TP S ρ a xs) (h' : TP S ρ b ys) (hg : S.scope.names.lookup ("zip" : Str) = some .globalImplicit := by rfl)
    (hs : ∀ env : PySem.Env, starEach [a, b] env = (false, eval a env) :: starEach [b] env := by intro _; rfl) (hs2 : ∀ env : PySem.Env, starEach [b] env = (false, eval b env) :: starEach [] env := by intro _; rfl) (hpl : ∀ env : PySem.Env, (backTo pos (starEach [b] env)).any (·.1) = false := by intro _; rfl) :
    XI S ρ (.Tuple elts kk tpos) (.Call (.Name "zip" p2) [a, b] [] pos) ((xs.items.zip ys.items).map enc) := by
  obtain ⟨t, h1, h2⟩ := xa_cons h (xa_cons h' xa_nil hs2) hs
  refine ⟨RZ.iZipA S.K t, fun q ok => RZ.pi_zipA (X := S.cx q) (show S.scope.names.lookup ("zip" : Str) = some .globalImplicit from hg) hm (h1 q ok) (hs _) (hpl _), fun σ F H A R w n k => h2 σ F H A _ w n fun vs F1 H1 g rr => ?_⟩
  obtain ⟨v, u, rfl, r, r2⟩ := reps2 rr
  cases r with
  | tup hl r =>
    cases r2 with
    | tup hl2 r2 =>
      have len := r.length
      have len2 := r2.length
      rw [List.length_map] at len len2
      refine ⟨_, _, _, _, rfl, .inr ⟨.of (g.ext _ _ hl), .of (g.ext _ _ hl2), k _ F1 H1 g (src_pair (n := min xs.items.length ys.items.length) (by simp) (walk_zipT (by rw [len, len2])) (fun H2 e => ⟨.of (e _ _ hl), .of (e _ _ hl2)⟩) fun i u v hi hu hv => ?_)⟩⟩
      obtain ⟨d, e1, e2⟩ := r.get' hu
      obtain ⟨d', e1', e2'⟩ := r2.get' hv
      rw [List.getElem?_map] at e1 e1'
      cases z : xs.items[i]? with
      | none => rw [z] at e1; cases e1
      | some y =>
        rw [z] at e1
        cases e1
        cases z' : ys.items[i]? with
        | none => rw [z'] at e1'; cases e1'
        | some y' =>
          rw [z'] at e1'
          cases e1'
          exact ⟨_, _, by rw [List.getElem?_map, (List.getElem?_zip_eq_some (z := (y, y'))).mpr ⟨z, z'⟩]; rfl, e2, e2'⟩
/-! ### more expressions -/
section
variable [DecidableEq T] [Datum T] [Enc T] {u v : T}
theorem tv_own {xs : List T} (i : Nat) {x : Str} (hρ : ρ[i]? = some (ov xs) := by rfl) (hN : S.N[i]? = some x := by rfl) (hv : Vis S.scope x := by first | exact Or.inl rfl | exact Or.inr (Or.inl rfl) | exact Or.inr (Or.inr rfl))
    (hd : (x == ("__debug__" : Str)) = false := by decide) (hcd : (x == ("__classdict__" : Str)) = false := by decide) : TV S ρ (.Name x pos) xs := by
  have := xv_var (S := S) (pos := pos) i hρ hN hv hd hcd
  rw [oL_d] at this
  exact this
theorem xi_en {elts : List Expr} {kk : Nat} {tpos : Pos} {xs : List T} (hm : S.mg "enumerate" = none) (h : TP S ρ a xs) (hg : S.scope.names.lookup ("enumerate" : Str) = some .globalImplicit := by rfl) (hs : ∀ env : PySem.Env, starEach [a] env = [(false, eval a env)] := by intro _; rfl) :
    XI S ρ (.Tuple elts kk tpos) (.Call (.Name "enumerate" p2) [a] [] pos) ((enumL xs).map enc) := xi_enum (f := enc) hm h hg hs
theorem xi_zp {T' : Type} [DecidableEq T'] [Datum T'] [Enc T'] {elts : List Expr} {kk : Nat} {tpos : Pos} {xs : List T} {ys : List T'} (hm : S.mg "zip" = none) (h : TP S ρ a xs) (h' : TP S ρ b ys) (hg : S.scope.names.lookup ("zip" : Str) = some .globalImplicit := by rfl)
    (hs : ∀ env : PySem.Env, starEach [a, b] env = (false, eval a env) :: starEach [b] env := by intro _; rfl) (hs2 : ∀ env : PySem.Env, starEach [b] env = (false, eval b env) :: starEach [] env := by intro _; rfl) (hpl : ∀ env : PySem.Env, (backTo pos (starEach [b] env)).any (·.1) = false := by intro _; rfl) :
    XI S ρ (.Tuple elts kk tpos) (.Call (.Name "zip" p2) [a, b] [] pos) ((xs.zip ys).map enc) := xi_zip (f := enc) (f' := enc) hm h h' hg hs hs2 hpl
theorem xi_p2 {p : T × T} (h : TP S ρ it p) : XI S ρ tg it ([p.1, p.2].map enc) := xi_tup h
theorem tp_lenT {x : Tup T} (hm : S.mg "len" = none) (h : TV S ρ a x) (hg : S.scope.names.lookup ("len" : Str) = some .globalImplicit := by rfl) (he : ∀ env : PySem.Env, starEach [a] env = (false, eval a env) :: starEach [] env := by intro _; rfl) : TP S ρ (.Call (.Name "len" p2) [a] [] pos) ((x.items.length : Nat) : Int) := by
  have := xp_cb (p := p2) (pos := pos) (cb_len_tup (S := S) (ds := x.items.map enc)) hm (xav_cons h xav_nil he) hg (by decide +kernel) (by decide) (by decide) he (by intro _; rfl)
  rw [List.length_map] at this
  exact this
theorem tp_lstL {x : List T} (hm : S.mg "list" = none) (h : TP S ρ a x) (hg : S.scope.names.lookup ("list" : Str) = some .globalImplicit := by rfl) (he : ∀ env : PySem.Env, starEach [a] env = (false, eval a env) :: starEach [] env := by intro _; rfl) : TP S ρ (.Call (.Name "list" p2) [a] [] pos) x :=
  xp_ct (p := p2) (pos := pos) (ct_list_lst (S := S)) hm (xa_cons h xa_nil he) hg (by decide +kernel) (by decide) (by decide) he (by intro _; rfl)
theorem tp_lstT {x : Tup T} (hm : S.mg "list" = none) (h : TP S ρ a x) (hg : S.scope.names.lookup ("list" : Str) = some .globalImplicit := by rfl) (he : ∀ env : PySem.Env, starEach [a] env = (false, eval a env) :: starEach [] env := by intro _; rfl) : TP S ρ (.Call (.Name "list" p2) [a] [] pos) x.items :=
  xp_ct (p := p2) (pos := pos) (ct_list_tup (S := S)) hm (xa_cons h xa_nil he) hg (by decide +kernel) (by decide) (by decide) he (by intro _; rfl)
end
section
variable [DecidableEq T] [DatumOrd T] [Enc T] {u v : T}
theorem tt_ltD (ha : TP S ρ a u) (hb : TP S ρ b v) (hd : Datum.depth T ≤ 64 := by decide) : XT S ρ (.Compare a [.Lt] [b] pos) (DatumOrd.lt u v) := xt_cmp (oc_ltD hd) ha.v hb.v
theorem tt_gtD (ha : TP S ρ a u) (hb : TP S ρ b v) (hd : Datum.depth T ≤ 64 := by decide) : XT S ρ (.Compare a [.Gt] [b] pos) (DatumOrd.lt v u) := xt_cmp (oc_gtD hd) ha.v hb.v
theorem tp_ltD (ha : TP S ρ a u) (hb : TP S ρ b v) (hd : Datum.depth T ≤ 64 := by decide) : TP S ρ (.Compare a [.Lt] [b] pos) (DatumOrd.lt u v) := xp_cmp (oc_ltD hd) ha.v hb.v
theorem tp_gtD (ha : TP S ρ a u) (hb : TP S ρ b v) (hd : Datum.depth T ≤ 64 := by decide) : TP S ρ (.Compare a [.Gt] [b] pos) (DatumOrd.lt v u) := xp_cmp (oc_gtD hd) ha.v hb.v
end
theorem tp_sum [Calm S] {xs : List Int} (hm : S.mg "sum" = none) (h : TP S ρ a xs) (hg : S.scope.names.lookup ("sum" : Str) = some .globalImplicit := by rfl) (he : ∀ env : PySem.Env, starEach [a] env = (false, eval a env) :: starEach [] env := by intro _; rfl) : TP S ρ (.Call (.Name "sum" p2) [a] [] pos) xs.sum :=
  xp_cb (p := p2) (pos := pos) (cb_sum (S := S)) hm (xav_cons h.v xav_nil he) hg (by decide +kernel) (by decide) (by decide) he (by intro _; rfl)
theorem xp_gint {i : Int} {x : Str} (h : ∃ t, S.mg x = some (.int i t)) (hg : S.scope.names.lookup x = some .globalImplicit := by rfl) (hd : (x == ("__debug__" : Str)) = false := by decide) : TP S ρ (.Name x pos) i := by
  obtain ⟨t, h⟩ := h
  exact xp_glob (v := .int i) h ⟨t, rfl⟩ (fun _ => .int) hg hd
def minI (i j : Int) : Int := if j < i then j else i
def maxI (i j : Int) : Int := if j > i then j else i
def absI (i : Int) : Int := if i < 0 then -i else i
end
end G

namespace G
open PySem PySem.Spec PyProof.Rows L2
open PySem.W (Datum DatumOrd Tup T3 EachIs)
open Enc (enc)
section
variable {S : Sig} {ρ ρ1 : Env} {a b c e : Expr} {pos p2 p3 pos2 p' : Pos} {pin : List Nat}
/-! ### len(set(..)) of few cells -/
def rLenSet (P : Program) (w : World) : List V → Hp → VK → Prop := fun vs H Q => ∃ (a : Addr) (L : List (Addr × List Int)), vs = [V.ref a] ∧ H a = some (SetTO P w a L) ∧ ((L.map (·.2)).Nodup → Q (.int (L.length : Nat)) H)
theorem cr_lenSet {X : Cx} : CallR X (.builtin "len") (rLenSet X.prog X.w) := by
  intro pins s σ H vs us Q I r h
  obtain ⟨a, L, rfl, ha, q⟩ := h
  obtain ⟨u, rfl, ru⟩ := vals1 r
  obtain rfl : u = Value.ref a := ru
  have R : SetT0 X.prog X.w s.heap a L := (I.hok a _ ha).1
  obtain ⟨es, ep, t, ⟨o, h1, hex, hd⟩, hr, tab, nd, h5, h6, h7, h8⟩ := R.ex
  have hsz : es.size = L.length := by
    have h := congrArg List.length hr
    unfold rowsOf at h
    rw [Array.length_toList, List.length_map] at h
    exact h
  have hf : t.fits es.size = true := by
    have h1 := tab.sz
    rw [List.length_map] at h1
    unfold SetTable.fits SetTable.fill
    rw [tab.dm, Bool.and_eq_true, beq_iff_eq, decide_eq_true_eq]
    show t.place.size = es.size ∧ t.place.size + 0 ≤ t.mask
    omega
  refine call_len_set h1 hex hd hf (by rw [hsz]; omega) ⟨.int (L.length : Nat), H, (I.kept (t' := s.toks + 1 + 1) fun _ _ z => z), ⟨_, by rw [hsz]⟩, q nd⟩
theorem nub_len {T : Type} [DecidableEq T] {xs ys : List T} (n : ys.Nodup) (m : ∀ v, v ∈ ys ↔ v ∈ xs) : ys.length = (nub xs).length :=
  ((List.perm_ext_iff_of_nodup n (nodup_nub xs)).mpr fun v => by rw [m, mem_nub]).length_eq
theorem tp_lenSet [Calm S] {xs : List Cell} (hm : S.mg "len" = none) (hm2 : S.mg "set" = none) (h : TP S ρ a xs) (hl : xs.length < 64) (hg : S.scope.names.lookup ("len" : Str) = some .globalImplicit := by rfl) (hg2 : S.scope.names.lookup ("set" : Str) = some .globalImplicit := by rfl) (he : ∀ env : PySem.Env, starEach [a] env = (false, eval a env) :: starEach [] env := by intro _; rfl) :
    TP S ρ (.Call (.Name "len" p2) [.Call (.Name "set" p3) [a] [] pos2] [] pos) (((nub xs).length : Nat) : Int) := by
  obtain ⟨t, h1, h2⟩ := h
  refine ⟨tCB (rLenSet S.P S.w) (tCons (tCB (rSetOfT S.K S.P S.w) (tCons t tNil)) tNil), fun q ok => ?_, fun σ F H A Q w n qq => ?_⟩
  · have hu : (S.cx q).A.units + 64 < cLine := by have := ok.room.un; show q.A.units + 64 < cLine; omega
    exact pe_callB (X := S.cx q) (cr_lenSet (X := S.cx q)) (show S.scope.names.lookup _ = some .globalImplicit from hg) hm (by decide +kernel) (pa_cons (pe_callTy (X := S.cx q) (cr_setOfT (X := S.cx q) Calm.h hu) (show S.scope.names.lookup _ = some .globalImplicit from hg2) hm2 (by decide +kernel) (pa_cons (h1 q ok) pa_nil (he _)) (by decide) (by decide) (he _) (by rfl)) pa_nil) (by decide) (by decide) (by rfl) (by rfl)
  · refine h2 σ F H A _ w n fun v F1 H1 g r => ?_
    cases r with
    | lst hv r =>
      rename_i l vs
      obtain ⟨ks, e1, e2, e3⟩ := cells_ks r
      subst e1
      have len : ks.length = xs.length := by simpa using congrArg List.length e3
      refine ⟨l, ks, rfl, .of (g.ext _ _ hv), fun p hp => .of (g.ext _ _ (e2 p hp)), by omega, fun s L hs hL hK => ?_⟩
      have g2 := g.trans (Grow.side (o := SetTO S.P S.w s L) g.ext hs)
      refine ⟨s, L, rfl, upd_same, fun nd => ?_⟩
      have inL : ∀ q ∈ L, ∃ c ∈ xs, q.2 = [c.1, c.2] := fun q hq => by
        have : q.2 ∈ ks.map (·.2) := List.mem_map.mpr ⟨q, hL q hq, rfl⟩
        rw [e3] at this
        obtain ⟨c, hc, e⟩ := List.mem_map.mp this
        exact ⟨c, hc, e.symm⟩
      have e4 : L.length = (nub xs).length := by
        have := nub_len (xs := xs) (ys := L.map fun q => cel q.2) ?_ fun v => ?_
        · simpa using this
        · refine List.pairwise_map.mpr ((List.pairwise_iff_forall_sublist.mpr fun {q r} hs e => ?_))
          obtain ⟨c, hc, ec⟩ := inL q (hs.subset (by simp))
          obtain ⟨d, hd, ed⟩ := inL r (hs.subset (by simp))
          have c2 := List.pairwise_iff_forall_sublist.mp (List.pairwise_map.mp nd) hs
          rw [ec, ed] at e c2
          have e' : c = d := e
          exact c2 (by rw [e'])
        · rw [List.mem_map]
          constructor
          · rintro ⟨q, hq, rfl⟩
            obtain ⟨c, hc, ec⟩ := inL q hq
            rw [ec]; exact hc
          · intro hv
            have : [v.1, v.2] ∈ ks.map (·.2) := by rw [e3]; exact List.mem_map.mpr ⟨v, hv, rfl⟩
            obtain ⟨p', hp', e'⟩ := List.mem_map.mp this
            obtain ⟨q, hq, eq⟩ := List.mem_map.mp (hK p' hp')
            refine ⟨q, hq, ?_⟩
            show cel q.2 = v
            have eq' : q.2 = p'.2 := eq
            rw [eq', e']; rfl
      rw [e4]
      exact qq _ _ _ g2 .int
/-- xs[::-1] -/
theorem tp_rev {T : Type} [DecidableEq T] [Datum T] [Enc T] {xs : List T} {k : Nat} (h : TP S ρ a xs) : TP S ρ (.Subscript a (.Slice none none (some (.UnaryOp .USub (.Constant (.int 1) k p2) p3)) pos2) pos) xs.reverse := by
  obtain ⟨t, h1, h2⟩ := h
  refine ⟨tRevL S.K t, fun q ok => pe_revL (h1 q ok), fun σ F H A Q w n q => h2 σ F H A _ w n fun v F1 H1 g r => ?_⟩
  cases r with
  | lst hv r =>
    refine ⟨_, _, rfl, .of (g.ext _ _ hv), fun p hp => q _ _ _ (g.trans (Grow.new g.ext hp)) ?_⟩
    have := r.reverse
    rw [← List.map_reverse] at this
    exact .lst upd_same (reps_new g.ext hp this)
/-- y = [..], owned -/
theorem ts_lcmO {α T : Type} [DecidableEq T] [Datum T] [Enc T] [Calm S] {it tg elt : Expr} (xs : List α) (g : α → D) (f : α → T) (own : List (Str × Nat)) {scope : Scope} {tgt : TG} (ρb : α → Env) (i : Nat) {y : Str} {py spos : Pos} (hi : XI S ρ tg it (xs.map g)) (hg : ∀ q, (S.blk scope).Ok q → PG ((S.blk scope).cx q) tg tgt) (ho : TgOwn tgt (own.map (·.2)))
    (hG : ∀ x ∈ xs, EG (S.blk scope) [] tgt (wipeE ρ (own.map (·.2))) (g x) (ρb x)) (he : ∀ x ∈ xs, TP (S.blk scope) (ρb x) elt (f x)) (hl : xs.length ≤ 1000000)
    (hn : Nat.blt i ρ.length = true := by rfl) (hp : i ∉ pin := by decide) (hN : S.N[i]? = some y := by rfl) (hy : S.scope.names.lookup y = some .local := by rfl) (hsw : ∀ env : PySem.Env, swapsWith (.ListComp elt [⟨tg, it, [], 0⟩] scope pos) (some (.Name y py)) spos.line { env with scope := S.scope } = pure true := by intro _; exact sw_true rfl rfl rfl (by decide +kernel)) (bo : blkC S.N S.scope scope own = true := by (try dsimp only [sigOf, Sig.blk]); decide +kernel)
    (hs : ∀ (env : PySem.Env) (x : Value), foldedSetIterable it env x = pure x := by intro _ _; rfl) : XS S pin ρ (.Assign [.Name y py] (.ListComp elt [⟨tg, it, [], 0⟩] scope pos) spos) (.nx (ρ.set i (ov (xs.map f)))) :=
  (ps_lcO xs g (fun _ => true) (fun x => enc (f x)) own ρb i hi hg ho hG (fun x hx => xts_nil) (fun x hx _ => he x hx) hl hn hp hN hy hsw bo hs).cast (by rw [map_enc, List.filter_eq_self.mpr (by simp)]; rfl)
/-! ### if c: .., that may end the def, or go on -/
theorem xb_im {U σ : Type} {ss body : List Stmt} (fr : U → RS) (hfr : ∀ b, Term (fr b)) (R : σ → Env) {k : Bool} {A : LO σ U} {s2 : σ} {m : σ → U} (hA : ∀ w, A ≠ .bk w) (hc : XT S ρ c k) (ha : k = true → XB S pin ρ body (fL R fr A)) (hb : k = false → ρ = R s2)
    (hk : ∀ w, (if k = true then A else LO.nx s2) = .nx w → XB S pin (R w) ss (fr (m w))) : XB S pin ρ (.If c body [] pos :: ss) (fr ((if k = true then A else LO.nx s2).fin m)) := by
  cases k with
  | false =>
    have h := hk s2 rfl
    rw [← hb rfl] at h
    exact xb_cons (xs_if hc (fun z => nomatch z) fun _ => xb_nil) h
  | true =>
    have h := ha rfl
    cases A with
    | nx w => exact xb_cons (xs_if hc (fun _ => h) fun z => nomatch z) (hk w rfl)
    | bk w => exact absurd rfl (hA w)
    | rt b => exact xb_stop (xs_if hc (fun _ => h) fun z => nomatch z) (hfr b).ne
theorem xb_imL {β σ σ' : Type} {ss body : List Stmt} {R' : σ' → Env} {fr : β → RS} (hfr : ∀ b, Term (fr b)) (R : σ → Env) {k : Bool} {A : LO σ β} {s2 : σ} {m : σ → LO σ' β} (hA : ∀ w, A ≠ .bk w) (hc : XT S ρ c k) (ha : k = true → XB S pin ρ body (fL R fr A)) (hb : k = false → ρ = R s2)
    (hk : ∀ w, (if k = true then A else LO.nx s2) = .nx w → XB S pin (R w) ss (fL R' fr (m w))) : XB S pin ρ (.If c body [] pos :: ss) (fL R' fr ((if k = true then A else LO.nx s2).thn m)) := by
  cases k with
  | false =>
    have h := hk s2 rfl
    rw [← hb rfl] at h
    exact xb_cons (xs_if hc (fun z => nomatch z) fun _ => xb_nil) h
  | true =>
    have h := ha rfl
    cases A with
    | nx w => exact xb_cons (xs_if hc (fun _ => h) fun z => nomatch z) (hk w rfl)
    | bk w => exact absurd rfl (hA w)
    | rt b => exact xb_stop (xs_if hc (fun _ => h) fun z => nomatch z) (hfr b).ne
end
instance {α β γ : Type} [Inhabited α] [Inhabited β] [Inhabited γ] : Inhabited (T3 α β γ) := ⟨⟨default, default, default⟩⟩
instance {α : Type} : Inhabited (Tup α) := ⟨⟨[]⟩⟩
def okv {T : Type} [Inhabited T] (r : Except Str T) : T := match r with
  | .ok v => v
  | .error _ => default
theorem okF {T : Type} [DecidableEq T] [Datum T] [Enc T] [Inhabited T] {r : Except Str T} {w : T} (h : r = .ok w) : oE oF r = oF (okv r) := by rw [h]; rfl
theorem okv_eq {T : Type} [Inhabited T] {r : Except Str T} {w : T} (h : r = .ok w) : okv r = w := by rw [h]; rfl
end G

namespace G
open PySem PySem.Spec PyProof.Rows L2
open PySem.W (Datum DatumOrd Tup T3 EachIs)
open Enc (enc)
instance Calm.blk2 {S : Sig} {a b : Scope} [Calm S] : Calm ((S.blk a).blk b) := ⟨(Calm.h : S.calm = true)⟩
section
variable {S : Sig} {ρ ρ1 : Env} {a b c e : Expr} {pos p2 p3 pos2 p' : Pos} {pin : List Nat}
/-! ### a thing, or None -/
variable {T : Type} [DecidableEq T] [Datum T] [Enc T] [PySem.W.SomeDatum T]
theorem rep_some {K : PySem.W.Frag} {F : Hp} {v : V} {x : T} (h : Rep K F v (enc x)) : v ≠ .non := by
  rintro rfl
  have d := Enc.dp K F .non x h
  generalize e : Datum.toD x = z at d
  cases d
  have := PySem.W.SomeDatum.left x
  rw [e] at this
  simp [PyData.eqv] at this
theorem is_opt {K : PySem.W.Frag} (o : Option T) : ∀ v F, Rep K F v (enc o) → decide (v = .non) = o.isNone := fun v F h => by
  cases o with
  | none => cases h; rfl
  | some x => exact decide_eq_false (rep_some (x := x) h)
theorem te_isn {o : Option T} (ha : TP S ρ a o) {k : Nat} (hm : behindInMarks .Is (.Constant .none k p2) = false := by first | exact nomark _ | rfl) : XT S ρ (.Compare a [.Is] [.Constant .none k p2] pos) o.isNone := xt_cmp (oc_isN _ (is_opt o)) (XP.v ha) (XP.v xp_non) hm
theorem tv_isn {o : Option T} (ha : TP S ρ a o) {k : Nat} (hm : behindInMarks .Is (.Constant .none k p2) = false := by first | exact nomark _ | rfl) : TP S ρ (.Compare a [.Is] [.Constant .none k p2] pos) o.isNone := xp_cmp (oc_isN _ (is_opt o)) (XP.v ha) (XP.v xp_non) hm
theorem te_isnn {o : Option T} (ha : TP S ρ a o) {k : Nat} (hm : behindInMarks .IsNot (.Constant .none k p2) = false := by first | exact nomark _ | rfl) : XT S ρ (.Compare a [.IsNot] [.Constant .none k p2] pos) (!o.isNone) := xt_cmp (oc_isnN _ (is_opt o)) (XP.v ha) (XP.v xp_non) hm
theorem tv_isnn {o : Option T} (ha : TP S ρ a o) {k : Nat} (hm : behindInMarks .IsNot (.Constant .none k p2) = false := by first | exact nomark _ | rfl) : TP S ρ (.Compare a [.IsNot] [.Constant .none k p2] pos) (!o.isNone) := xp_cmp (oc_isnN _ (is_opt o)) (XP.v ha) (XP.v xp_non) hm
def unO {T : Type} [Inhabited T] (o : Option T) : T := o.getD default
theorem unO_eq {T : Type} [Inhabited T] {o : Option T} (h : o ≠ none) : o = some (unO o) := by
  cases o with
  | none => exact absurd rfl h
  | some x => rfl
theorem tp_unO [Inhabited T] {o : Option T} (ha : TP S ρ a o) (h : o ≠ none) : TP S ρ a (unO o) := by
  cases o with
  | none => exact absurd rfl h
  | some x => exact ha
theorem tp_some {x : T} (ha : TP S ρ a x) : TP S ρ a (some x) := ha
end
section
variable {S : Sig} {ρ ρ1 : Env} {a b c e : Expr} {pos p2 p3 pos2 p' : Pos} {pin : List Nat} {tg : Expr}
theorem xi_r1 {hi : Int} (hm : S.mg "range" = none) (h : TP S ρ a hi) (hb : -(2 ^ 62) ≤ hi ∧ hi < 2 ^ 62) (hg : S.scope.names.lookup ("range" : Str) = some .globalImplicit := by rfl) (hs : ∀ env : PySem.Env, starEach [a] env = [(false, eval a env)] := by intro _; rfl) :
    XI S ρ tg (.Call (.Name "range" p2) [a] [] pos) ((rng 0 hi).map enc) := xi_rng1 hm h hb hg hs
end
/-! ### while, whose measure sinks -/
theorem whL_some {σ : Type} {cc : σ → Bool} {f : σ → σ} (I : σ → Prop) (μ : σ → Nat) (h : ∀ s, I s → cc s = true → I (f s) ∧ μ (f s) < μ s) : ∀ (n : Nat) (s : σ), I s → μ s < n → (whL (β := Empty) cc (fun s => .nx (f s)) n s).isSome = true
  | 0, _, _, hn => by omega
  | n + 1, s, hI, hn => by
    unfold whL
    split
    · rename_i hc
      have := h s hI hc
      exact whL_some I μ h n _ this.1 (by omega)
    · rfl
theorem whL_inv {σ : Type} {cc : σ → Bool} {f : σ → σ} (I : σ → Prop) (h : ∀ s, I s → cc s = true → I (f s)) : ∀ (n : Nat) (s : σ) {o : LO σ Empty}, I s → whL (β := Empty) cc (fun s => .nx (f s)) n s = some o → ∃ w, o = .nx w ∧ I w ∧ cc w = false
  | 0, _, _, _, hn => by cases hn
  | n + 1, s, o, hI, hn => by
    unfold whL at hn
    cases hc : cc s with
    | false =>
      rw [hc, if_neg (by simp)] at hn
      cases hn
      exact ⟨s, rfl, hI, hc⟩
    | true =>
      rw [hc, if_pos rfl] at hn
      exact whL_inv I h n _ (h s hI hc) hn
theorem whD_inv {σ : Type} {cc : σ → Bool} {f : σ → σ} (I : σ → Prop) (h : ∀ s, I s → cc s = true → I (f s)) (n : Nat) (s : σ) (hI : I s) (ho : (whL (β := Empty) cc (fun s => .nx (f s)) n s).isSome = true) : I (whD cc f n s) ∧ cc (whD cc f n s) = false := by
  obtain ⟨o, ho⟩ := Option.isSome_iff_exists.mp ho
  obtain ⟨w, rfl, h1, h2⟩ := whL_inv I h n s hI ho
  unfold whD
  rw [ho]
  exact ⟨h1, h2⟩
end G

namespace G
open PySem PySem.Spec PyProof.Rows L2
open PySem.W (Datum DatumOrd Tup T3 EachIs)
open Enc (enc)
/-! ### dicts of typed keys and typed things -/
class DKey (κ : Type) [DecidableEq κ] [Datum κ] [Enc κ] where
  tk : Bool
  k1 : κ → Key
  kt : κ → List Key
  rep1 : tk = false → ∀ {K : PySem.W.Frag} {F : Hp} {v : V} (x : κ), Rep K F v (enc x) → v = kV (k1 x)
  rept : tk = true → ∀ {K : PySem.W.Frag} {F : Hp} {v : V} (x : κ), Rep K F v (enc x) → ∃ b, v = .ref b ∧ F b = some (.tup ((kt x).map kV))
  inj1 : tk = false → ∀ x y, k1 x = k1 y → x = y
  injt : tk = true → ∀ x y, kt x = kt y → x = y
instance : DKey Int where
  tk := false
  k1 := Sum.inl
  kt := fun _ => []
  rep1 := fun _ => fun x h => by cases h; rfl
  rept := fun z => nomatch z
  inj1 := fun _ x y e => Sum.inl.inj e
  injt := fun z => nomatch z
instance : DKey Tx where
  tk := false
  k1 := fun t => Sum.inr t.s
  kt := fun _ => []
  rep1 := fun _ => fun x h => by cases h; rfl
  rept := fun z => nomatch z
  inj1 := fun _ x y e => Tx.s_inj (Sum.inr.inj e)
  injt := fun z => nomatch z
instance : DKey (Int × Int) where
  tk := true
  k1 := fun _ => .inl 0
  kt := fun p => [.inl p.1, .inl p.2]
  rep1 := fun z => nomatch z
  rept := fun _ => fun x h => by
    cases h with
    | tup h r =>
      cases r with
      | cons h1 r =>
        cases h1
        cases r with
        | cons h2 r =>
          cases h2
          cases r
          exact ⟨_, rfl, h⟩
  inj1 := fun z => nomatch z
  injt := fun _ x y e => by
    injection e with a b
    injection b with b c
    exact Prod.ext (Sum.inl.inj a) (Sum.inl.inj b)
section
variable {κ β : Type} [DecidableEq κ]
def dGet (d : List (κ × β)) (k : κ) : Option β := (d.find? fun p => decide (p.1 = k)).map (·.2)
def dPut (d : List (κ × β)) (k : κ) (x : β) : List (κ × β) := if (d.any fun p => decide (p.1 = k)) = true then d.map (fun p => if p.1 = k then (p.1, x) else p) else d ++ [(k, x)]
def dHas (d : List (κ × β)) (k : κ) : Bool := (dGet d k).isSome
theorem dGet_any (d : List (κ × β)) (k : κ) : (d.any fun p => decide (p.1 = k)) = (dGet d k).isSome := by
  unfold dGet
  induction d with
  | nil => rfl
  | cons p r ih =>
    rw [List.any_cons, List.find?_cons]
    by_cases h : p.1 = k
    · simp [h]
    · rw [decide_eq_false h]; exact ih
theorem dGet_put (d : List (κ × β)) (k j : κ) (x : β) : dGet (dPut d k x) j = if j = k then some x else dGet d j := by
  unfold dPut
  split
  · rename_i h
    induction d with
    | nil => cases h
    | cons p r ih =>
      rw [List.map_cons]
      unfold dGet at *
      rw [List.find?_cons, List.find?_cons]
      by_cases e : p.1 = k
      · rw [if_pos e]
        dsimp only
        by_cases ej : j = k
        · rw [if_pos ej, decide_eq_true (e.trans ej.symm)]; rfl
        · rw [if_neg ej, decide_eq_false (fun z => ej (z.symm.trans e))]
          dsimp only
          by_cases h2 : (r.any fun p => decide (p.1 = k)) = true
          · have := ih h2
            rw [if_neg ej] at this
            exact this
          · have : r.map (fun p => if p.1 = k then (p.1, x) else p) = r := by
              conv => rhs; rw [← List.map_id r]
              refine List.map_congr_left fun q hq => ?_
              rw [if_neg fun z => h2 (List.any_eq_true.mpr ⟨q, hq, decide_eq_true z⟩)]
              rfl
            rw [this]
      · rw [if_neg e]
        have h2 : (r.any fun p => decide (p.1 = k)) = true := by
          rw [List.any_cons, decide_eq_false e] at h
          exact h
        by_cases ej : p.1 = j
        · rw [decide_eq_true ej]
          dsimp only
          rw [if_neg fun z => e (ej.trans z)]
        · rw [decide_eq_false ej]
          exact ih h2
  · rename_i h
    rw [dGet_any] at h
    have h : dGet d k = none := by simpa using h
    unfold dGet at *
    rw [List.find?_append]
    by_cases ej : j = k
    · rw [if_pos ej, ej]
      cases z : d.find? fun p => decide (p.1 = k) with
      | some q => rw [z] at h; cases h
      | none => simp
    · rw [if_neg ej]
      cases z : d.find? fun p => decide (p.1 = j) with
      | some q => rfl
      | none => simp [ej, Ne.symm ej]
end
section
variable {κ β : Type} [DecidableEq κ] [Datum κ] [Enc κ] [DKey κ] [DecidableEq β] [Datum β] [Enc β]
def oD (d : List (κ × β)) : O := if DKey.tk κ = true then .dt (d.map fun p => DKey.kt p.1) ((d.map fun p => enc p.2).map O.fro) else .dk (d.map fun p => DKey.k1 p.1) ((d.map fun p => enc p.2).map O.fro)
def fD (d : List (κ × β)) : D := if DKey.tk κ = true then .dt (d.map fun p => DKey.kt p.1) (d.map fun p => enc p.2) else .dk (d.map fun p => DKey.k1 p.1) (d.map fun p => enc p.2)
abbrev od (d : List (κ × β)) : Option O := some (oD d)
abbrev fd (d : List (κ × β)) : Option O := some (.fro (fD d))
theorem oD_d (d : List (κ × β)) : (oD d).d = fD d := by
  unfold oD fD
  split
  · show D.dt _ (O.ds _) = _; rw [ds_fros]
  · show D.dk _ (O.ds _) = _; rw [ds_fros]
/-- how it lies in H, its things in F -/
def DLay (K : PySem.W.Frag) (F H : Hp) (a : Addr) (d : List (κ × β)) : Prop :=
  (DKey.tk κ = true ∧ ∃ kvs, H a = some (.dT kvs) ∧ kvs.map (·.1) = d.map (fun p => DKey.kt p.1) ∧ Reps K F (kvs.map (·.2)) (d.map fun p => enc p.2)) ∨
  (DKey.tk κ = false ∧ ∃ kvs, H a = some (.dK kvs) ∧ kvs.map (·.1) = d.map (fun p => DKey.k1 p.1) ∧ Reps K F (kvs.map (·.2)) (d.map fun p => enc p.2))
theorem DLay.of_rep {K : PySem.W.Frag} {F : Hp} {v : V} {d : List (κ × β)} (h : Rep K F v (fD d)) : ∃ a, v = .ref a ∧ DLay K F F a d := by
  unfold fD at h
  split at h
  · rename_i t
    cases h with
    | dt h k r => exact ⟨_, rfl, .inl ⟨t, _, h, k, r⟩⟩
  · rename_i t
    cases h with
    | dk h k r => exact ⟨_, rfl, .inr ⟨by simpa using t, _, h, k, r⟩⟩
theorem DLay.of_own {K : PySem.W.Frag} {F H : Hp} {v : V} {B : List Addr} {d : List (κ × β)} (h : Own K F H v (oD d) B) : ∃ a, v = .ref a ∧ B = [a] ∧ DLay K F H a d := by
  unfold oD at h
  split at h
  · rename_i t
    cases h with
    | dt h k r =>
      obtain ⟨r2, e⟩ := Owns.fros_inv r
      subst e
      exact ⟨_, rfl, rfl, .inl ⟨t, _, h, k, r2⟩⟩
  · rename_i t
    cases h with
    | dk h k r =>
      obtain ⟨r2, e⟩ := Owns.fros_inv r
      subst e
      exact ⟨_, rfl, rfl, .inr ⟨by simpa using t, _, h, k, r2⟩⟩
theorem DLay.own {K : PySem.W.Frag} {F H : Hp} {a : Addr} {d : List (κ × β)} (h : DLay K F H a d) : Own K F H (.ref a) (oD d) [a] := by
  unfold oD
  rcases h with ⟨t, kvs, h, k, r⟩ | ⟨t, kvs, h, k, r⟩
  · rw [if_pos t]; exact .dt h k (Owns.fros r)
  · rw [if_neg (by rw [t]; simp)]; exact .dk h k (Owns.fros r)
theorem DLay.mono {K : PySem.W.Frag} {F H F' H' : Hp} {a : Addr} {d : List (κ × β)} (h : DLay K F H a d) (e : Ext F F') (k : ∀ u, H a = some u → H' a = some u) : DLay K F' H' a d := by
  rcases h with ⟨t, kvs, h, q, r⟩ | ⟨t, kvs, h, q, r⟩
  · exact .inl ⟨t, kvs, k _ h, q, r.mono e⟩
  · exact .inr ⟨t, kvs, k _ h, q, r.mono e⟩
theorem DLay.isD {K : PySem.W.Frag} {F H : Hp} {a : Addr} {d : List (κ × β)} (h : DLay K F H a d) : IsD H a := by
  rcases h with ⟨_, kvs, h, _⟩ | ⟨_, kvs, h, _⟩
  · exact .inr ⟨kvs, .inl h⟩
  · exact .inl ⟨kvs, .inl h⟩
section
variable {ι : Type} [DecidableEq ι] {g : κ → ι} (inj : ∀ x y, g x = g y → x = y) {K : PySem.W.Frag} {F : Hp}
include inj
theorem val_rel (k : κ) : ∀ {d : List (κ × β)} {kvs : List (ι × V)}, kvs.map (·.1) = d.map (fun p => g p.1) → Reps K F (kvs.map (·.2)) (d.map fun p => enc p.2) →
    (∀ x, dGet d k = some x → ∃ v, valV kvs (g k) = some v ∧ Rep K F v (enc x)) ∧ (dGet d k = none → valV kvs (g k) = none)
  | [], [], _, _ => ⟨fun x z => (nomatch z), fun _ => rfl⟩
  | [], _ :: _, h, _ => by cases h
  | _ :: _, [], h, _ => by cases h
  | p :: d, q :: kvs, h, r => by
    rw [List.map_cons, List.map_cons] at h
    injection h with h1 h2
    rw [List.map_cons, List.map_cons] at r
    cases r with
    | cons r1 r2 =>
      have ih := val_rel k h2 r2
      unfold dGet
      rw [List.find?_cons]
      by_cases e : p.1 = k
      · rw [decide_eq_true e]
        refine ⟨fun x z => ?_, fun z => (nomatch z)⟩
        cases z
        exact ⟨q.2, valV_pos (by rw [h1, e]), r1⟩
      · rw [decide_eq_false e]
        have en : ¬ q.1 = g k := fun z => e (inj _ _ (h1.symm.trans z))
        rw [valV_neg en]
        exact ih
theorem put_rel (k : κ) {x : β} {v : V} (hv : Rep K F v (enc x)) {d : List (κ × β)} {kvs : List (ι × V)} (h : kvs.map (·.1) = d.map (fun p => g p.1)) (r : Reps K F (kvs.map (·.2)) (d.map fun p => enc p.2)) :
    (putK kvs (g k) v).map (·.1) = (dPut d k x).map (fun p => g p.1) ∧ Reps K F ((putK kvs (g k) v).map (·.2)) ((dPut d k x).map fun p => enc p.2) := by
  have ea : (kvs.any fun kv => decide (kv.1 = g k)) = d.any fun p => decide (p.1 = k) := by
    have a1 : (kvs.any fun kv => decide (kv.1 = g k)) = (kvs.map (·.1)).any fun z => decide (z = g k) := by rw [List.any_map]; rfl
    have a2 : (d.any fun p => decide (p.1 = k)) = (d.map fun p => g p.1).any fun z => decide (z = g k) := by
      rw [List.any_map]
      congr 1
      funext p
      exact decide_eq_decide.mpr ⟨fun e => congrArg g e, inj _ _⟩
    rw [a1, a2, h]
  unfold putK dPut
  rw [ea]
  split
  · have all : ∀ {d : List (κ × β)} {kvs : List (ι × V)}, kvs.map (·.1) = d.map (fun p => g p.1) → Reps K F (kvs.map (·.2)) (d.map fun p => enc p.2) →
        (kvs.map (fun kv => if kv.1 = g k then (kv.1, v) else kv)).map (·.1) = (d.map (fun p => if p.1 = k then (p.1, x) else p)).map (fun p => g p.1) ∧ Reps K F ((kvs.map (fun kv => if kv.1 = g k then (kv.1, v) else kv)).map (·.2)) ((d.map (fun p => if p.1 = k then (p.1, x) else p)).map fun p => enc p.2) := by
      intro d
      induction d with
      | nil => intro kvs h r; cases kvs with
        | nil => exact ⟨rfl, .nil⟩
        | cons _ _ => cases h
      | cons p d ih =>
        intro kvs h r
        cases kvs with
        | nil => cases h
        | cons q kvs =>
          rw [List.map_cons, List.map_cons] at h
          injection h with h1 h2
          rw [List.map_cons, List.map_cons] at r
          cases r with
          | cons r1 r2 =>
            obtain ⟨i1, i2⟩ := ih h2 r2
            simp only [List.map_cons]
            by_cases e : p.1 = k
            · rw [if_pos e, if_pos (show q.1 = g k by rw [h1, e])]
              exact ⟨by rw [i1]; exact congrArg (· :: _) h1, .cons hv i2⟩
            · rw [if_neg e, if_neg fun z => e (inj _ _ (h1.symm.trans z))]
              exact ⟨by rw [i1]; exact congrArg (· :: _) h1, .cons r1 i2⟩
    exact all h r
  · rw [List.map_append, List.map_append, List.map_append, List.map_append]
    exact ⟨by rw [h]; rfl, r.append (.cons hv .nil)⟩
end
theorem DLay.get {K : PySem.W.Frag} {F H F' : Hp} {a : Addr} {d : List (κ × β)} (h : DLay K F H a d) {y : V} {k : κ} (hy : Rep K F' y (enc k)) (e : Ext F' H) : ∃ o, DGet H a y o ∧ (∀ x, dGet d k = some x → ∃ v, o = some v ∧ Rep K F v (enc x)) ∧ (dGet d k = none → o = none) := by
  rcases h with ⟨t, kvs, h, q, r⟩ | ⟨t, kvs, h, q, r⟩
  · obtain ⟨b, rfl, hb⟩ := DKey.rept t k hy
    exact ⟨_, DGet.t h (e _ _ hb), val_rel (DKey.injt t) k q r⟩
  · obtain rfl := DKey.rep1 t k hy
    exact ⟨_, DGet.k h, val_rel (DKey.inj1 t) k q r⟩
theorem DLay.put {K : PySem.W.Frag} {F H F' : Hp} {a : Addr} {d : List (κ × β)} (h : DLay K F H a d) {y : V} {k : κ} (hy : Rep K F' y (enc k)) (e : Ext F' H) {v : V} {x : β} (hv : Rep K F v (enc x)) (hl : d.length < 1000000) : ∃ u, DPut H a y v (upd H a u) ∧ DLay K F (upd H a u) a (dPut d k x) := by
  rcases h with ⟨t, kvs, h, q, r⟩ | ⟨t, kvs, h, q, r⟩
  · obtain ⟨b, rfl, hb⟩ := DKey.rept t k hy
    obtain ⟨p1, p2⟩ := put_rel (DKey.injt t) k hv q r
    have len : kvs.length = d.length := by have := congrArg List.length q; rwa [List.length_map, List.length_map] at this
    exact ⟨_, DPut.t h (e _ _ hb) (line_lt (by omega)), .inl ⟨t, _, upd_same, p1, p2⟩⟩
  · obtain rfl := DKey.rep1 t k hy
    obtain ⟨p1, p2⟩ := put_rel (DKey.inj1 t) k hv q r
    have len : kvs.length = d.length := by have := congrArg List.length q; rwa [List.length_map, List.length_map] at this
    exact ⟨_, DPut.k h (line_lt (by omega)), .inr ⟨t, _, upd_same, p1, p2⟩⟩
end
section
variable {κ β : Type} [DecidableEq κ] [Datum κ] [Enc κ] [DKey κ] [DecidableEq β] [Datum β] [Enc β]
variable {S : Sig} {ρ ρ1 : Env} {a b c e f : Expr} {pos p2 p3 pos2 p' : Pos} {pin : List Nat} {up : O → Env} {d : List (κ × β)} {k : κ} {x : β}
def NoSlx (i : Expr) : Prop := ∀ ov iv, subscripted i false ov iv = operate [ov, iv] (getItem ov iv)
/-- d[k], d owned -/
theorem tp_dgO (ha : XL S ρ a (oD d) up) (hb : TP S ρ b k) (hg : dGet d k = some x) (hs : NoSl b := by intro _ _; rfl) : TP S ρ (.Subscript a b pos) x := by
  obtain ⟨t, h1, h2⟩ := ha
  obtain ⟨tb, b1, b2⟩ := hb
  refine ⟨tDGet t tb, fun q ok => pe_dget (X := S.cx q) (by have := ok.units; show q.A.units + 1 < cLine; omega) (h1 q ok) (b1 q ok) hs, fun σ F H A Q w n q => h2 σ F H A _ w n fun v B C fo => b2 σ F H A _ w n fun y F1 H1 g r => ?_⟩
  obtain ⟨l, rfl, rfl, ly⟩ := DLay.of_own fo.own
  obtain ⟨o, g1, g2, _⟩ := (ly.mono g.stp.fs fun u hu => g.hh _ _ hu).get r g.ext
  obtain ⟨u, rfl, ru⟩ := g2 x hg
  exact ⟨l, u, rfl, g1, q _ _ _ g ru⟩
/-- d[k], d frozen -/
theorem tp_dgF (ha : XP S ρ a (.ok (fD d))) (hb : TP S ρ b k) (hg : dGet d k = some x) (hs : NoSl b := by intro _ _; rfl) : TP S ρ (.Subscript a b pos) x := by
  obtain ⟨t, h1, h2⟩ := ha
  obtain ⟨tb, b1, b2⟩ := hb
  refine ⟨tDGet t tb, fun q ok => pe_dget (X := S.cx q) (by have := ok.units; show q.A.units + 1 < cLine; omega) (h1 q ok) (b1 q ok) hs, fun σ F H A Q w n q => h2 σ F H A _ w n fun v F0 H0 g0 r0 => b2 σ F0 H0 A _ (g0.wf w) (g0.envs n) fun y F1 H1 g r => ?_⟩
  obtain ⟨l, rfl, ly⟩ := DLay.of_rep r0
  obtain ⟨o, g1, g2, _⟩ := (ly.mono g.stp.fs fun u hu => g.hh _ _ (g0.ext _ _ hu)).get r g.ext
  obtain ⟨u, rfl, ru⟩ := g2 x hg
  exact ⟨l, u, rfl, g1, q _ _ _ (g0.trans g) ru⟩
/-- d.get(k, y) -/
theorem tp_dg2O {y : β} {apos : Pos} (ha : XL S ρ a (oD d) up) (hb : TP S ρ e k) (hc : TP S ρ f y) (hbase : ∀ env : PySem.Env, attributeBase a "get" env (eval a env) = eval a env := by intro _; rfl)
    (hfew : ∀ env : PySem.Env, ((backTo pos (starEach [e, f] env)).all (fun x => !x.1) && (backToKw pos (keywordEach [] env)).all (fun x => x.1.isSome) && decide (([e, f] : List Expr).length + ([] : List Keyword).length + (if ([] : List Keyword).isEmpty then 0 else 1) < 30)) = true := by intro _; rfl)
    (hline : (apos.endLine == pos.line) = true := by rfl) (ht : ∀ env : PySem.Env, backTo pos (starEach [e, f] env) = [(false, eval e env), (false, eval f env)] := by intro _; rfl) : TP S ρ (.Call (.Attribute a "get" apos) [e, f] [] pos) ((dGet d k).getD y) := by
  obtain ⟨t, h1, h2⟩ := ha
  obtain ⟨tb, b1, b2⟩ := hb
  obtain ⟨tc, c1, c2⟩ := hc
  refine ⟨tDGet2 t tb tc, fun q ok => pe_dget2 (X := S.cx q) (by have := ok.units; show q.A.units + 1 < cLine; omega) (h1 q ok) (b1 q ok) (c1 q ok) ⟨hbase _, hfew _, hline, ht _⟩, fun σ F H A Q w n q => h2 σ F H A _ w n fun v B C fo => ?_⟩
  obtain ⟨l, rfl, rfl, ly⟩ := DLay.of_own fo.own
  refine ⟨l, rfl, ly.isD, b2 σ F H A _ w n fun y0 F1 H1 g r => c2 σ F1 H1 A _ (g.wf w) (g.envs n) fun z F2 H2 g2 r2 => ?_⟩
  obtain ⟨o, g3, g4, g5⟩ := (ly.mono (g.stp.fs.trans g2.stp.fs) fun u hu => g2.hh _ _ (g.hh _ _ hu)).get (r.mono g2.stp.fs) g2.ext
  refine ⟨o, g3, q _ _ _ (g.trans g2) ?_⟩
  cases hd : dGet d k with
  | none => rw [g5 hd]; exact r2
  | some x =>
    obtain ⟨u, rfl, ru⟩ := g4 x hd
    exact ru
theorem tp_dg2F {y : β} {apos : Pos} (ha : XP S ρ a (.ok (fD d))) (hb : TP S ρ e k) (hc : TP S ρ f y) (hbase : ∀ env : PySem.Env, attributeBase a "get" env (eval a env) = eval a env := by intro _; rfl)
    (hfew : ∀ env : PySem.Env, ((backTo pos (starEach [e, f] env)).all (fun x => !x.1) && (backToKw pos (keywordEach [] env)).all (fun x => x.1.isSome) && decide (([e, f] : List Expr).length + ([] : List Keyword).length + (if ([] : List Keyword).isEmpty then 0 else 1) < 30)) = true := by intro _; rfl)
    (hline : (apos.endLine == pos.line) = true := by rfl) (ht : ∀ env : PySem.Env, backTo pos (starEach [e, f] env) = [(false, eval e env), (false, eval f env)] := by intro _; rfl) : TP S ρ (.Call (.Attribute a "get" apos) [e, f] [] pos) ((dGet d k).getD y) := by
  obtain ⟨t, h1, h2⟩ := ha
  obtain ⟨tb, b1, b2⟩ := hb
  obtain ⟨tc, c1, c2⟩ := hc
  refine ⟨tDGet2 t tb tc, fun q ok => pe_dget2 (X := S.cx q) (by have := ok.units; show q.A.units + 1 < cLine; omega) (h1 q ok) (b1 q ok) (c1 q ok) ⟨hbase _, hfew _, hline, ht _⟩, fun σ F H A Q w n q => h2 σ F H A _ w n fun v F0 H0 g0 r0 => ?_⟩
  obtain ⟨l, rfl, ly⟩ := DLay.of_rep r0
  refine ⟨l, rfl, (ly.mono (Ext.refl _) fun u hu => g0.ext _ _ hu).isD, b2 σ F0 H0 A _ (g0.wf w) (g0.envs n) fun y0 F1 H1 g r => c2 σ F1 H1 A _ (g.wf (g0.wf w)) (g.envs (g0.envs n)) fun z F2 H2 g2 r2 => ?_⟩
  obtain ⟨o, g3, g4, g5⟩ := (ly.mono (g.stp.fs.trans g2.stp.fs) fun u hu => g2.hh _ _ (g.hh _ _ (g0.ext _ _ hu))).get (r.mono g2.stp.fs) g2.ext
  refine ⟨o, g3, q _ _ _ ((g0.trans g).trans g2) ?_⟩
  cases hd : dGet d k with
  | none => rw [g5 hd]; exact r2
  | some x =>
    obtain ⟨u, rfl, ru⟩ := g4 x hd
    exact ru
/-- k in d -/
theorem ev_din {ty td : TE} (ha : EP S ty ρ (.ok (enc k))) (hb : EV S td ρ (fD d)) : EP S (tDIn ty td) ρ (.ok (.bl (dHas d k))) := fun σ F H A Q w n q => ha σ F H A _ w n fun y F1 H1 g r => hb σ F1 H1 A _ (g.wf w) (g.envs n) fun v F2 H2 g2 r2 => by
  obtain ⟨l, rfl, ly⟩ := DLay.of_rep r2
  obtain ⟨o, g3, g4, g5⟩ := ly.get (r.mono g2.stp.fs) g2.ext
  refine ⟨l, o, rfl, g3, q _ _ _ (g.trans g2) ?_⟩
  have : o.isSome = dHas d k := by
    unfold dHas
    cases hd : dGet d k with
    | none => rw [g5 hd]; rfl
    | some x => obtain ⟨u, rfl, _⟩ := g4 x hd; rfl
  rw [this]
  exact .bl
theorem ev_dni {ty td : TE} (ha : EP S ty ρ (.ok (enc k))) (hb : EV S td ρ (fD d)) : EP S (tDNotIn ty td) ρ (.ok (.bl (!dHas d k))) := fun σ F H A Q w n q => ha σ F H A _ w n fun y F1 H1 g r => hb σ F1 H1 A _ (g.wf w) (g.envs n) fun v F2 H2 g2 r2 => by
  obtain ⟨l, rfl, ly⟩ := DLay.of_rep r2
  obtain ⟨o, g3, g4, g5⟩ := ly.get (r.mono g2.stp.fs) g2.ext
  refine ⟨l, o, rfl, g3, q _ _ _ (g.trans g2) ?_⟩
  have : o.isSome = dHas d k := by
    unfold dHas
    cases hd : dGet d k with
    | none => rw [g5 hd]; rfl
    | some x => obtain ⟨u, rfl, _⟩ := g4 x hd; rfl
  rw [this]
  exact .bl
theorem tp_din (ha : TP S ρ a k) (hb : XV S ρ b (fD d)) (hm : behindInMarks .In b = false := by rfl) : TP S ρ (.Compare a [.In] [b] pos) (dHas d k) := by
  obtain ⟨ta, a1, a2⟩ := ha
  obtain ⟨tb, b1, b2⟩ := hb
  exact ⟨tDIn ta tb, fun q ok => pe_cmp (pc_din (X := S.cx q) (by have := ok.units; show q.A.units + 1 < cLine; omega) (a1 q ok) (b1 q ok)) hm, ev_din a2 b2⟩
theorem tp_dni (ha : TP S ρ a k) (hb : XV S ρ b (fD d)) (hm : behindInMarks .NotIn b = false := by rfl) : TP S ρ (.Compare a [.NotIn] [b] pos) (!dHas d k) := by
  obtain ⟨ta, a1, a2⟩ := ha
  obtain ⟨tb, b1, b2⟩ := hb
  exact ⟨tDNotIn ta tb, fun q ok => pe_cmp (pc_dnotin (X := S.cx q) (by have := ok.units; show q.A.units + 1 < cLine; omega) (a1 q ok) (b1 q ok)) hm, ev_dni a2 b2⟩
theorem tt_din (ha : TP S ρ a k) (hb : XV S ρ b (fD d)) (hm : behindInMarks .In b = false := by rfl) : XT S ρ (.Compare a [.In] [b] pos) (dHas d k) := by
  obtain ⟨ta, a1, a2⟩ := ha
  obtain ⟨tb, b1, b2⟩ := hb
  exact ⟨tB (tDIn ta tb), fun q ok => pt_cmp (pc_din (X := S.cx q) (by have := ok.units; show q.A.units + 1 < cLine; omega) (a1 q ok) (b1 q ok)) hm, fun σ F H A Q w n q => ev_din a2 b2 σ F H A _ w n fun v F' H' g r => by cases r; exact ⟨_, rfl, q _ _ g⟩⟩
theorem tt_dni (ha : TP S ρ a k) (hb : XV S ρ b (fD d)) (hm : behindInMarks .NotIn b = false := by rfl) : XT S ρ (.Compare a [.NotIn] [b] pos) (!dHas d k) := by
  obtain ⟨ta, a1, a2⟩ := ha
  obtain ⟨tb, b1, b2⟩ := hb
  exact ⟨tB (tDNotIn ta tb), fun q ok => pt_cmp (pc_dnotin (X := S.cx q) (by have := ok.units; show q.A.units + 1 < cLine; omega) (a1 q ok) (b1 q ok)) hm, fun σ F H A Q w n q => ev_dni a2 b2 σ F H A _ w n fun v F' H' g r => by cases r; exact ⟨_, rfl, q _ _ g⟩⟩
theorem xv_od (i : Nat) {x : Str} (hρ : ρ[i]? = some (od d) := by rfl) (hN : S.N[i]? = some x := by rfl) (hv : Vis S.scope x := by first | exact Or.inl rfl | exact Or.inr (Or.inl rfl) | exact Or.inr (Or.inr rfl))
    (hd : (x == ("__debug__" : Str)) = false := by decide) (hcd : (x == ("__classdict__" : Str)) = false := by decide) : XV S ρ (.Name x pos) (fD d) := by
  have := xv_var (S := S) (pos := pos) i hρ hN hv hd hcd
  rw [oD_d] at this
  exact this
/-- {} -/
theorem xx_dnew (hk : DKey.tk κ = true ∨ DKey.tk κ = false) : XX S ρ (.Dict [] [] pos) (.ok (oD ([] : List (κ × β))) ρ) := by
  cases h : DKey.tk κ with
  | true =>
    refine ⟨tDNewT, fun q ok => pe_dnewT, fun σ F H A Q w n q p hp => ?_⟩
    obtain ⟨w3, s3, n3⟩ := grow_own (o := .dT []) w n (Grow.refl w.sub) hp
    refine q _ _ _ [p] A w3 s3 (DLay.own (.inl ⟨h, [], upd_same, rfl, .nil⟩)) n3
  | false =>
    refine ⟨tDNewK, fun q ok => pe_dnewK, fun σ F H A Q w n q p hp => ?_⟩
    obtain ⟨w3, s3, n3⟩ := grow_own (o := .dK []) w n (Grow.refl w.sub) hp
    refine q _ _ _ [p] A w3 s3 (DLay.own (.inr ⟨h, [], upd_same, rfl, .nil⟩)) n3
/-- d[k] = v -/
theorem xs_dput {ρ2 : Env} {tpos : Pos} (hl : XL S ρ a (oD d) up) (hk : TP S ρ b k) (hv : TP S ρ e x) (hn : d.length < 1000000) (hq : up (oD (dPut d k x)) = ρ2 := by rfl)
    (hs : ∀ env : PySem.Env, swapsWith e (some (.Subscript a b tpos)) pos.line { env with scope := S.scope } = pure false := by intro _; rfl) : XS S pin ρ (.Assign [.Subscript a b tpos] e pos) (.nx ρ2) := by
  subst hq
  obtain ⟨t, h1, h2⟩ := hl
  obtain ⟨tb, b1, b2⟩ := hk
  obtain ⟨tv, v1, v2⟩ := hv
  refine ⟨sDPut t tb tv, fun q ok => ps_dput (X := S.cx q) (by have := ok.units; show q.A.units + 1 < cLine; omega) (h1 q ok) (b1 q ok) (v1 q ok) (hs _), fun σ F H A D w n q => v2 σ F H A _ w n fun v F1 H1 g1 r1 => h2 σ F1 H1 A _ (g1.wf w) (g1.envs n) fun z B C fo => b2 σ F1 H1 A _ (g1.wf w) (g1.envs n) fun y F2 H2 g2 r2 => ?_⟩
  have fo2 := fo.grow g2
  obtain ⟨l, rfl, rfl, ly⟩ := DLay.of_own fo2.own
  obtain ⟨u, p1, p2⟩ := ly.put r2 g2.ext (r1.mono g2.stp.fs) hn
  have w2 := g2.wf (g1.wf w)
  obtain ⟨A', n', w', s'⟩ := Foc.mut (B2 := []) (A0 := []) (A1 := []) (X := []) (u := u) (o' := oD (dPut d k x)) w2 fo2 (by simp) p2.own
  refine ⟨l, _, rfl, p1, q _ _ _ A' w' (Stp.trans (((g1.trans g2).stp.mono (by simp) (A' := A)).more (C := A) fun a h => .inl h) s') n' Pin.refl⟩
end
end G

namespace G
open PySem PySem.Spec PyProof.Rows L2
open PySem.W (Datum DatumOrd Tup T3 EachIs)
open Enc (enc)
section
variable {κ β : Type} [DecidableEq κ] [Datum κ] [Enc κ] [DKey κ] [DecidableEq β] [Datum β] [Enc β]
variable {S : Sig} {ρ ρ1 : Env} {a b c e f : Expr} {pos p2 p3 pos2 p' : Pos} {pin : List Nat} {up : O → Env} {d : List (κ × β)} {k : κ} {x : β} {ss : List Stmt}
def dgD [Inhabited β] (d : List (κ × β)) (k : κ) : β := (dGet d k).getD default
theorem dgD_ok [Inhabited β] {d : List (κ × β)} {k : κ} (h : dHas d k = true) : dGet d k = some (dgD d k) := by
  unfold dgD dHas at *
  cases e : dGet d k with
  | none => rw [e] at h; cases h
  | some x => rfl
theorem tv_dgO [Inhabited β] (ha : XL S ρ a (oD d) up) (hb : TP S ρ b k) (hg : dHas d k = true) (hs : NoSl b := by intro _ _; rfl) : TP S ρ (.Subscript a b pos) (dgD d k) := tp_dgO ha hb (dgD_ok hg) hs
theorem tv_dgF [Inhabited β] (ha : XP S ρ a (.ok (fD d))) (hb : TP S ρ b k) (hg : dHas d k = true) (hs : NoSl b := by intro _ _; rfl) : TP S ρ (.Subscript a b pos) (dgD d k) := tp_dgF ha hb (dgD_ok hg) hs
theorem xs_dnew {ρ2 : Env} (i : Nat) {x : Str} {p' : Pos} (hq : ρ.set i (od ([] : List (κ × β))) = ρ2 := by rfl) (hi : Nat.blt i ρ.length = true := by rfl) (hp : i ∉ pin := by decide) (hN : S.N[i]? = some x := by rfl) (hx : Loc S.scope x := by first | exact .inl rfl | exact .inr rfl) (hst : S.st x = true ∨ S.scope.names.lookup x = some .local := by first | exact .inl rfl | exact .inr rfl)
    (hs : ∀ env : PySem.Env, swapsWith (.Dict [] [] p2) (some (.Name x p')) pos.line { env with scope := S.scope } = pure false := by intro _; rfl) : XS S pin ρ (.Assign [.Name x p'] (.Dict [] [] p2) pos) (.nx ρ2) := by
  subst hq
  exact xs_set i (xx_dnew (by cases DKey.tk κ <;> simp)) hi hp hN hx hst hs
theorem xb_fzD (i : Nat) {r : RS} {ρ2 : Env} (hρ : ρ[i]? = some (od d)) (h : XB S pin ρ2 ss r) (hq : ρ.set i (fd d) = ρ2 := by rfl) : XB S pin ρ ss r := by
  subst hq
  refine xb_freeze i hρ ?_
  rw [oD_d]
  exact h
theorem cb_sortedDI {d : List (Int × β)} [Calm S] (hn : d.length < 64) : CB S "sorted" [fD d] (enc (sortT (d.map (·.1)))) := ⟨_, fun q ok => call_sortedDI (X := S.cx q) Calm.h, fun vs F H Q e rr q => by
  obtain ⟨v, rfl, r⟩ := reps1 rr
  obtain ⟨l, rfl, ly⟩ := DLay.of_rep r
  rcases ly with ⟨t, _⟩ | ⟨_, kvs, h, hk, _⟩
  · cases t
  · refine ⟨l, kvs, d.map (·.1), rfl, .inl h, by rw [hk, List.map_map]; rfl, by rw [List.length_map]; exact hn, fun ys p hp hs hf => ?_⟩
    have es : sortT (d.map (·.1)) = ys := sortT_of (hs.imp fun {x y} h => by rw [G.lt_int]; exact decide_eq_false (by omega)) hp
    refine q _ _ _ (Grow.new e hf) ?_
    rw [es]
    refine .lst upd_same ?_
    have : ∀ zs : List Int, Reps S.K (upd F p (.lst (ys.map V.int))) (zs.map V.int) (zs.map enc) := by
      intro zs
      induction zs with
      | nil => exact .nil
      | cons z zs ih => exact .cons .int ih
    exact this ys⟩
theorem tp_sortedDI {d : List (Int × β)} [Calm S] (hm : S.mg "sorted" = none) (h : XV S ρ a (fD d)) (hn : d.length < 64) (hg : S.scope.names.lookup ("sorted" : Str) = some .globalImplicit := by rfl) (he : ∀ env : PySem.Env, starEach [a] env = (false, eval a env) :: starEach [] env := by intro _; rfl) : TP S ρ (.Call (.Name "sorted" p2) [a] [] pos) (sortT (d.map (·.1))) :=
  xp_cb (p := p2) (pos := pos) (cb_sortedDI hn) hm (xav_cons h xav_nil he) hg (by decide +kernel) (by decide) (by decide) he (by intro _; rfl)
end
end G

namespace G
open PySem PySem.Spec PyProof.Rows L2
open PySem.W (Datum DatumOrd Tup T3 EachIs)
open Enc (enc)
/-! ### facts of the top, with tables of text keys -/
abbrev AlY : Type := Bool × He.AlT
def obsY (ex : List KF) (fa : List He.Fa) (fn : List He.DefD) (ts : List He.Tab) (K : PySem.W.Frag) : AlY := (ex.all fun f => f K, He.obsT fa fn ts K)
def valY (fn : List He.DefD) (ts : List He.Tab) (w : World) : AlY := (true, He.valT fn ts w)
def SaysY (ex : List KF) (fa : List He.Fa) (fn : List He.DefD) (ts : List He.Tab) (w : World) (K : PySem.W.Frag) : Prop := obsY ex fa fn ts K = valY fn ts w
def obsYG (n : Nat) (ex : List KF) (fa : List He.Fa) (fn : List He.DefD) (ts : List He.Tab) (g : Addr → Option Obj) : AlY := obsY ex fa fn ts (He.frG g (He.asD g n))
def hookY (n : Nat) (ex : List KF) (fa : List He.Fa) (fn : List He.DefD) (ts : List He.Tab) : PySem.W.Hook where
  α := AlY
  obs := fun s => obsYG n ex fa fn ts s.heap.get?
  val := fun w => valY fn ts w
  says := fun w h => ∃ K : PySem.W.Frag, K.In h ∧ SaysY ex fa fn ts w K
  of := fun _ _ e => ⟨_, He.frG_in, e⟩
  keeps := fun _ _ _ ⟨K, hK, c⟩ k => ⟨K, PySem.W.Frag.In.keeps hK k, c⟩
theorem obsYG_eq {n : Nat} {ex : List KF} {fa : List He.Fa} {fn : List He.DefD} {ts : List He.Tab} {g : Addr → Option Obj} {s : Shared} (h : ∀ a, g a = s.heap.get? a) : obsYG n ex fa fn ts g = (hookY n ex fa fn ts).obs s := by
  have e : g = s.heap.get? := funext h
  rw [e] <;> rfl
section
variable {ex : List KF} {fa : List He.Fa} {fn : List He.DefD} {ts : List He.Tab} {w : World} {K : PySem.W.Frag}
theorem SaysY.t (c : SaysY ex fa fn ts w K) : He.SaysT fa fn ts w K := congrArg (fun z : AlY => z.2) c
theorem SaysY.d (c : SaysY ex fa fn ts w K) : He.SaysD fa fn K := c.t.d
theorem SaysY.fact (c : SaysY ex fa fn ts w K) (i : Nat) {f : KF} (h : ex[i]? = some f := by rfl) : f K = true :=
  List.all_eq_true.mp (show (ex.all fun f => f K) = true from congrArg (fun z : AlY => z.1) c) f (List.mem_of_getElem? h)
end
/-! ### a table of the top: texts to pairs of ints -/
def kfRow (x : Str) (p : Tx × (Int × Int)) : KF := fun K => match PySem.W.nsIn K (He.ga K x) p.1.s with
  | some (some (.ref a)) => (match K.lookup a with
    | some ⟨.type c, _, .seq its _, _⟩ => decide (c = "tuple") && (decide (its.size ≤ sizeLine) && He.relAll [.int p.2.1, .int p.2.2] its.toList)
    | _ => false)
  | _ => false
theorem kfRow_ok {K : PySem.W.Frag} {x : Str} {p : Tx × (Int × Int)} (h : kfRow x p K = true) : ∃ a, PySem.W.nsIn K (He.ga K x) p.1.s = some (some (.ref a)) ∧ ∀ H : Hp, SqT K H a [.int p.2.1, .int p.2.2] := by
  unfold kfRow at h
  split at h
  · rename_i a e
    refine ⟨a, e, fun H => ?_⟩
    split at h
    · rename_i c od its n sl q
      obtain ⟨h1, h2⟩ := He.ba h
      obtain ⟨h3, h4⟩ := He.ba h2
      exact .inr ⟨_, its, n, q, congrArg Value.type (of_decide_eq_true h1), rfl, of_decide_eq_true h3, He.relAll_ok h4⟩
    · cases h
  · cases h
def TabK (K : PySem.W.Frag) (w : World) (x : Str) (l : List (Tx × (Int × Int))) : Prop := ∀ p ∈ l, ∃ a, KDct K w (He.ga K x) p.1.s (.ref a) ∧ ∀ H : Hp, SqT K H a [.int p.2.1, .int p.2.2]
theorem tabK_ok {K : PySem.W.Frag} {w : World} {x : Str} {l : List (Tx × (Int × Int))} (D : ∃ es n, KDict K w (He.ga K x) es n) (h : (l.all fun p => kfRow x p K) = true) : TabK K w x l := fun p hp => by
  obtain ⟨es, n, D⟩ := D
  obtain ⟨a, h1, h2⟩ := kfRow_ok (List.all_eq_true.mp h p hp)
  exact ⟨a, ⟨es, n, .ref a, D.at_, D.lit, h1, rfl⟩, h2⟩
def tkD (p : Int × Int) : D := .tk [.int p.1, .int p.2]
abbrev tkv (p : Int × Int) : Option O := some (.fro (tkD p))
section
variable {S : Sig} {ρ ρ1 : Env} {a b c e f : Expr} {pos p2 p3 pos2 p' : Pos} {pin : List Nat}
theorem oi_kd {x : Str} {l : List (Tx × (Int × Int))} (T : TabK S.K S.w x l) {k : Tx} {v : Int × Int} (hm : (k, v) ∈ l) : OI S (.obj (He.ga S.K x)) (enc k) (tkD v) := ⟨rIxD S.K S.w, fun _ _ => ix_kdict, fun u y F H Q e rx ry q => by
  obtain ⟨a, h1, h2⟩ := T _ hm
  cases rx
  cases ry
  exact ⟨_, _, _, rfl, rfl, h1, q _ F H (Grow.refl e) (.tk (h2 F) (.cons .int (.cons .int .nil)))⟩⟩
theorem oi_tk {ds : List D} {i : Int} {d : D} (h : atI ds i = some d) : OI S (.tk ds) (.int i) d := ⟨rIxT S.K, fun _ _ => ix_tup, fun x y F H Q e rx ry q => by
  cases rx with
  | tk h1 r1 =>
    cases ry
    obtain ⟨v, e1, e2⟩ := r1.atI h
    exact ⟨_, _, _, v, rfl, rfl, e.t h1, e1, q _ F H (Grow.refl e) e2⟩⟩
theorem dget_mem {κ β : Type} [DecidableEq κ] {d : List (κ × β)} {k : κ} {x : β} (h : dGet d k = some x) : (k, x) ∈ d := by
  unfold dGet at h
  cases e : d.find? fun p => decide (p.1 = k) with
  | none => rw [e] at h; cases h
  | some p =>
    rw [e] at h
    cases h
    have h1 := List.mem_of_find?_eq_some e
    have h2 : decide (p.1 = k) = true := List.find?_some (p := fun p : κ × β => decide (p.1 = k)) e
    have h2 := of_decide_eq_true h2
    rw [← h2]
    exact h1
/-- TABLE[word] -/
theorem xp_tab {x : Str} {l : List (Tx × (Int × Int))} {k : Tx} (T : TabK S.K S.w x l) (g : S.mg x = some (.ref (He.ga S.K x))) (hb : TP S ρ b k) (hm : dHas l k = true) (hs : PlainIx b := by intro _ _; rfl) (hg : S.scope.names.lookup x = some .globalImplicit := by rfl) (hd : (x == ("__debug__" : Str)) = false := by decide) :
    XP S ρ (.Subscript (.Name x p2) b pos) (.ok (tkD (dgD l k))) := xp_ix (oi_kd T (dget_mem (dgD_ok hm))) (xp_cls g hg hd) hb hs
theorem tp_tka {p : Int × Int} (ha : XP S ρ a (.ok (tkD p))) {j : Nat} {pos' : Pos} : TP S ρ (.Subscript a (.Constant (.int 0) j pos') pos) p.1 := xp_ix (oi_tk (i := 0) rfl) ha xp_int
theorem tp_tkb {p : Int × Int} (ha : XP S ρ a (.ok (tkD p))) {j : Nat} {pos' : Pos} : TP S ρ (.Subscript a (.Constant (.int 1) j pos') pos) p.2 := xp_ix (oi_tk (i := 1) rfl) ha xp_int
/-! ### texts -/
def chD (t : Tx) (i : Int) : Tx := ⟨[((ixN t.l.length i).bind fun j => t.l[j]?).getD 'x']⟩
def chs (t : Tx) : List Tx := t.l.map fun c => ⟨[c]⟩
theorem chD_ok {t : Tx} {i : Int} (h : (0 ≤ i ∧ i < t.l.length) ∨ (i < 0 ∧ 0 ≤ i + t.l.length)) : ∃ c, atI t.l i = some c ∧ chD t i = ⟨[c]⟩ := by
  have : ∃ c, atI t.l i = some c := by
    rcases h with h | h
    · exact atI_ok h
    · unfold atI ixN
      rw [if_neg (by omega), if_pos (by omega)]
      exact ⟨t.l[(i + t.l.length).toNat]'(by omega), List.getElem?_eq_getElem _⟩
  obtain ⟨c, hc⟩ := this
  refine ⟨c, hc, ?_⟩
  unfold chD
  unfold atI at hc
  rw [hc]
  rfl
theorem tp_ixX {t : Tx} {i : Int} (ha : TP S ρ a t) (hb : TP S ρ b i) (h : (0 ≤ i ∧ i < t.l.length) ∨ (i < 0 ∧ 0 ≤ i + t.l.length)) (hl : t.l.length ≤ 1000000 := by decide) (hs : PlainIx b := by intro _ _; rfl) : TP S ρ (.Subscript a b pos) (chD t i) := by
  obtain ⟨c, h1, h2⟩ := chD_ok h
  rw [h2]
  exact xp_ix (oi_tx h1 hl) ha hb hs
theorem xi_txs {t : Tx} {tg : Expr} (h : TP S ρ a t) : XI S ρ tg a ((chs t).map enc) := by
  have := xi_tx (tg := tg) h
  unfold chs
  rw [List.map_map]
  exact this
theorem tp_lenX {t : Tx} (hm : S.mg "len" = none) (h : TV S ρ a t) (hl : t.l.length ≤ 1000000) (hg : S.scope.names.lookup ("len" : Str) = some .globalImplicit := by rfl) (he : ∀ env : PySem.Env, starEach [a] env = (false, eval a env) :: starEach [] env := by intro _; rfl) : TP S ρ (.Call (.Name "len" p2) [a] [] pos) ((t.l.length : Nat) : Int) :=
  xp_cb (p := p2) (pos := pos) (cb_len_tx (S := S) hl) hm (xav_cons h xav_nil he) hg (by decide +kernel) (by decide) (by decide) he (by intro _; rfl)
theorem xp_gstr {t : Tx} {x z : Str} (h : ∃ k, S.mg x = some (.str z k)) (hz : z = t.s := by decide +kernel) (hg : S.scope.names.lookup x = some .globalImplicit := by rfl) (hd : (x == ("__debug__" : Str)) = false := by decide) : TP S ρ (.Name x pos) t := by
  obtain ⟨k, h⟩ := h
  subst hz
  exact xp_glob (v := .str t.s) h ⟨k, rfl⟩ (fun _ => .str) hg hd
def occX (t u : Tx) : List Nat := Builtin.Str.occurrences t.s u.s 0 t.s.length 1
def ixX (t u : Tx) : Int := (((occX t u).head?.getD 0 : Nat) : Int)
theorem mt_indexX : MtR X "str.index" (fun x xs H Q => ∃ a b i rest, x = .str a ∧ xs = [.str b] ∧ Builtin.Str.occurrences a b 0 a.length 1 = i :: rest ∧ Q (.int ((i : Nat) : Int)) H) := by
  intro pins s σ H v vs u us Q I rv rvs h
  obtain ⟨a, b, i, rest, rfl, rfl, ho, q⟩ := h
  obtain ⟨t, rfl⟩ := rv
  obtain ⟨u1, rfl, ru⟩ := vals1 rvs
  obtain ⟨t2, rfl⟩ := ru
  exact PySem.SC.index ho ⟨.int ((i : Nat) : Int), H, I.tok _, ⟨_, rfl⟩, q⟩
theorem tp_indexX {t u : Tx} {apos : Pos} (ha : TP S ρ a t) (he : TP S ρ e u) (hn : occX t u ≠ [])
    (hbase : ∀ env : PySem.Env, attributeBase a "index" env (eval a env) = eval a env := by intro _; rfl)
    (hline : (apos.endLine == pos.line) = true := by rfl) (ht : ∀ env : PySem.Env, starEach [e] env = [(false, eval e env)] := by intro _; rfl) :
    TP S ρ (.Call (.Attribute a "index" apos) [e] [] pos) (ixX t u) := by
  obtain ⟨ta, h1, h2⟩ := ha
  obtain ⟨te, e1, e2⟩ := he
  refine ⟨_, fun q ok => pe_m1 (X := S.cx q) PySem.F.slot_str_index PySem.F.type_str_index mt_indexX (h1 q ok) (e1 q ok) (ht _) (hbase _) hline, fun σ F H A Q w n q => h2 σ F H A _ w n fun v F1 H1 g r => ?_⟩
  cases r
  refine ⟨⟨_, rfl⟩, e2 σ F1 H1 A _ (g.wf w) (g.envs n) fun y F2 H2 g2 r2 => ?_⟩
  cases r2
  cases ho : occX t u with
  | nil => exact absurd ho hn
  | cons i rest =>
    refine ⟨t.s, u.s, i, rest, rfl, rfl, ho, ?_⟩
    have : ixX t u = ((i : Nat) : Int) := by unfold ixX; rw [ho]; rfl
    rw [← this]
    exact q _ _ _ (g.trans g2) .int
end
end G

namespace G
open PySem PySem.Spec PyProof.Rows L2
open PySem.W (Datum DatumOrd Tup T3 EachIs)
open Enc (enc)
instance : DatumOrd Tx where
  lt a b := decide (a.s.cps.toList < b.s.cps.toList)
  alike a b := by show PySem.W.alike (.str _) (.str _) = true; simp only [PySem.W.alike]
  notNone a := fun e => by cases e
  lt_eq a b := (DatumOrd.lt_eq a.s b.s)
theorem tx_le {a b : Tx} : DatumOrd.lt b a = false ↔ a.s.cps.toList ≤ b.s.cps.toList := by
  show decide _ = false ↔ _
  rw [decide_eq_false_iff_not]
  exact Iff.rfl
instance : LOrd Tx := ⟨fun a b c h h' => by rw [tx_le] at *; exact List.le_trans h h', fun a b => by rw [tx_le, tx_le]; exact List.le_total _ _, fun a b h h' => by
  rw [tx_le] at *
  have e := List.le_antisymm h h'
  refine Tx.s_inj ?_
  have : a.s.cps = b.s.cps := by
    rw [← Array.toList_inj]; exact e
  cases ha : a.s
  cases hb : b.s
  rw [ha, hb] at this
  exact congrArg Str.mk this⟩
instance : SortK Tx := ⟨.inr fun b => ⟨fun z => (nomatch z), fun xs z => (nomatch z)⟩, by decide⟩
section
variable {S : Sig} {ρ ρ1 : Env} {a b c e f : Expr} {pos p2 p3 pos2 p' : Pos} {pin : List Nat} {up : O → Env} {T : Type} [DecidableEq T] [Datum T] [Enc T]
/-- xs[i], xs owned -/
theorem tv_ixO [Inhabited T] {xs : List T} {i : Int} (ha : XL S ρ a (oL xs) up) (hb : TP S ρ b i) (h : (0 ≤ i ∧ i < xs.length) ∨ (i < 0 ∧ 0 ≤ i + xs.length)) (hs : PlainIx b := by intro _ _; rfl) : TP S ρ (.Subscript a b pos) (atD xs i) := by
  obtain ⟨t, h1, h2⟩ := ha
  obtain ⟨tb, b1, b2⟩ := hb
  refine ⟨tOp (rIxL S.K) t tb, fun q ok => pe_ix (X := S.cx q) ix_list (h1 q ok) (b1 q ok) hs, fun σ F H A Q w n q => h2 σ F H A _ w n fun v B C fo => b2 σ F H A _ w n fun y F1 H1 g r => ?_⟩
  obtain ⟨ow, pm, bk⟩ := fo
  unfold oL at ow
  cases ow with
  | lst hx rr =>
    obtain ⟨rr, e⟩ := Owns.fros_inv rr
    cases r
    have e1 : atI (xs.map enc) i = some (enc (atD xs i)) := by rw [atI_map, atD_ok h]; rfl
    obtain ⟨u, e2, e3⟩ := rr.atI e1
    exact ⟨_, _, _, u, rfl, rfl, .of (g.hh _ _ hx), e2, q _ _ _ g (e3.mono g.stp.fs)⟩
/-- x = e, of any frozen kind -/
theorem xs_sD {d : D} {ρ2 : Env} (i : Nat) {x : Str} {p' : Pos} (h : XP S ρ e (.ok d)) (hq : ρ.set i (some (.fro d)) = ρ2 := by rfl) (hi : Nat.blt i ρ.length = true := by rfl) (hp : i ∉ pin := by decide) (hN : S.N[i]? = some x := by rfl) (hx : Loc S.scope x := by first | exact .inl rfl | exact .inr rfl) (hst : S.st x = true ∨ S.scope.names.lookup x = some .local := by first | exact .inl rfl | exact .inr rfl)
    (hs : ∀ env : PySem.Env, swapsWith e (some (.Name x p')) pos.line { env with scope := S.scope } = pure false := by intro _; rfl) : XS S pin ρ (.Assign [.Name x p'] e pos) (.nx ρ2) := by
  subst hq
  exact xs_setF i h hi hp hN hx hst hs
end
end G

namespace G
open PySem PySem.Spec PyProof.Rows L2
open PySem.W (Datum DatumOrd Tup T3 EachIs)
open Enc (enc)
/-! ### {k: v}, k a tuple -/
def tDisp1 (tk tv : TE) : TE := fun σ H Q => ∀ p, H p = none → tPairs [(tk, tv)] σ (upd H p (.dT [])) fun ps H2 => H2 p = some (.dT []) ∧ ∃ (ks : List Key) (b : Addr) (y : V), ps = [(.ref b, y)] ∧ H2 b = some (.tup (ks.map kV)) ∧ Q (.ref p) (upd H2 p (.dT [(ks, y)]))
theorem pe_disp1 {X : Cx} {k v : Expr} {tk tv : TE} {pos : Pos} (hu : X.A.units + 1 < cLine) (hk : PE X k tk) (hv : PE X v tv) : PE X (.Dict [some k] [v] pos) (tDisp1 tk tv) := by
  refine ⟨fun pins s σ H Q I q => ?_⟩
  have hn := I.hok.fresh (Nat.le_refl s.heap.objs.size)
  have I1 := I.laid (a := s.heap.objs.size) (o := .dT []) (h' := s.heap.push { cls := .type "dict", data := .dict #[] }) (t' := s.toks) (fun _ _ q => Heap.get?_push_of_some _ q) (Nat.le_refl _) (dt_empty s.heap I.big)
  have hp : PPs X pos [some k] [v] [(tk, tv)] := pps_cons hk hv pps_nil
  have hsh := zip_pairTrees [some k] [v] X.env pos rfl rfl
  have hlen := pairTrees_length [some k] [v] X.env pos rfl rfl
  rw [arm_eval_Dict, hsh, dictDisplay_pairs (pairTrees [some k] [v] X.env pos) (fun he => by rw [he] at hlen; cases hlen) (by rw [hlen]; show 1 < 17; decide)]
  refine wpAny_bind (wpAny_standAt (wpAny_bind (wpAny_subDictH (knd := tupleKind (mixKind X.prog X.w)) (Q := fun d s' => wpAny (model X.prog X.w) X.A (pure (Value.ref d)) (L2.EP X pins σ Q) X.xe s') (show X.A.units < cLine by omega) (by rw [hlen]; show 1 ≤ 15; decide) ?_)))
  refine thn (hp.run pins _ σ _ _ I1 (q _ hn)) fun ws s2 ⟨ps, H2, I2, rel, e, ks, b, y, ep, eb, q2⟩ => ?_
  subst ep
  cases rel with
  | @cons a0 w0 as0 ws0 h r =>
    cases r
    obtain ⟨wk, wv⟩ := w0
    obtain ⟨h1, h2⟩ := h
    cases (show wk = Value.ref b from h1)
    obtain ⟨z, hd, xs, rx, dd⟩ := dt_of I2.hok e
    have hx : xs = [] := by
      cases xs with
      | nil => rfl
      | cons _ _ => cases rx
    subst hx
    refine ⟨[(ks, b, wv)], ⟨rfl, rfl, key_of I2.hok eb, trivial⟩, dd, fun h' tk' dd' hs => wpAny_pure ?_⟩
    refine ⟨.ref s.heap.objs.size, _, ?_, rfl, q2⟩
    obtain ⟨q0, es, epo, hq, g2, g3, g4, g5, g6⟩ := dd'
    refine d_write I2 (by rw [e]; exact True.intro) hs ⟨q0, hq⟩ ⟨by show 1 ≤ sizeLine; rw [sizeLine_eq]; omega, hd, [(ks, b, wv)], .cons ⟨rfl, by rw [upd_ne (ne_of eb e (fun z => nomatch z))]; exact eb, h2⟩ .nil, q0, es, epo, hq, g2, g3, g4, g6⟩
section
variable {κ β : Type} [DecidableEq κ] [Datum κ] [Enc κ] [DKey κ] [DecidableEq β] [Datum β] [Enc β]
variable {S : Sig} {ρ ρ1 : Env} {a b c e f : Expr} {pos p2 p3 pos2 p' : Pos} {pin : List Nat} {up : O → Env} {d : List (κ × β)} {k : κ} {x : β} {ss : List Stmt}
/-- {k: v}, k a tuple -/
theorem xx_d1 (ht : DKey.tk κ = true) (hk : TP S ρ a k) (hv : TP S ρ b x) : XX S ρ (.Dict [some a] [b] pos) (.ok (oD [(k, x)]) ρ) := by
  obtain ⟨tk, k1, k2⟩ := hk
  obtain ⟨tv, v1, v2⟩ := hv
  refine ⟨tDisp1 tk tv, fun q ok => pe_disp1 (X := S.cx q) (by have := ok.units; show q.A.units + 1 < cLine; omega) (k1 q ok) (v1 q ok), fun σ F H A Q w n q p hp => ?_⟩
  obtain ⟨w3, s3, n3⟩ := grow_own (o := .dT []) w n (Grow.refl w.sub) hp
  refine k2 σ F _ A _ w3.right n3 fun y F1 H1 g1 r1 => v2 σ F1 H1 A _ (g1.wf w3.right) (g1.envs n3) fun z F2 H2 g2 r2 => ?_
  have g := g1.trans g2
  have hp2 : H2 p = some (.dT []) := g.hh _ _ upd_same
  obtain ⟨bb, rfl, hb⟩ := DKey.rept ht k r1
  have w4 : WF F2 H2 ([p] ++ A) := g.wf w3
  have n4 := g.envs n3
  have pA : p ∉ A := fun h => w.on p h (imm_none hp)
  have u5 : WF F2 (upd H2 p (.dT [(DKey.kt k, z)])) ([p] ++ A) ∧ Stp F2 H2 ([p] ++ A) F2 (upd H2 p (.dT [(DKey.kt k, z)])) ([p] ++ A) := by
    refine ⟨⟨fun a v h => ?_, w4.nd, w4.off, fun a h => ?_⟩, ⟨Ext.refl _, fun a v h n => ?_, fun a v h => .inl h, fun a h => .inl h, fun a h => ?_⟩⟩
    · rw [upd_ne fun z => by rw [z, w4.off p (by simp)] at h; cases h]
      exact w4.sub a v h
    · by_cases z : a = p
      · subst z; rw [upd_same]; exact fun z => z
      · rw [upd_ne z]; exact w4.on a h
    · rw [upd_ne fun z => n (by rw [z]; simp)]; exact h
    · by_cases z : a = p
      · subst z; rw [upd_same] at h; cases h
      · rw [upd_ne z] at h; exact h
  refine ⟨hp2, DKey.kt k, bb, z, rfl, g2.ext _ _ (g2.stp.fs _ _ hb), q _ F2 _ [p] A u5.1 ((s3.trans ((g.stp.mono (by simp) (A' := [p] ++ A)).more (C := [p] ++ A) fun a h => .inl h)).trans u5.2) ?_ ?_⟩
  · exact DLay.own (.inl ⟨ht, _, upd_same, rfl, .cons r2 .nil⟩)
  · exact n4.mono (Ext.refl _) (S := A) (fun a u e h => by rw [upd_ne fun z => pA (by rw [← z]; exact h)]; exact e) fun _ h => h
end
end G

namespace G
open PySem PySem.Spec PyProof.Rows L2
open PySem.W (Datum DatumOrd Tup T3)
open Enc (enc)
/-! ### a callee that is reckoned -/
theorem pe_callE {X : Cx} {CX : CXT} {k : Nat} {f : Addr} {fd : FuncData} {ps : List Str} {sp : Sp} {E : L2.St → XK} {pos : Pos} {g e : Expr} {es : List Expr} {tg : TE} {t : TA} (hgE : PE X g tg) (F : FnOk X.prog X.w X.K X.mg X.base CX k f fd ps sp) (hr : Room k X.A) (hk : PySem.W.keepIn X.K (.ref f) = true) (hb : Binds X.K fd ps []) (hx : ∀ σ, PassesAt CX X σ (E σ))
    (ha : PA X (e :: es) t) (he : starEach (e :: es) X.env = (false, eval e X.env) :: starEach es X.env) (hpl : (backTo pos (starEach es X.env)).any (·.1) = false)
    (hc : eval (.Call g (e :: es) [] pos) X.env = (do callWith pos (← eval g X.env) [] (backTo pos (starEach (e :: es) X.env)) (backToKw pos (keywordEach [] X.env)))) :
    PE X (.Call g (e :: es) [] pos) (fun σ H Q => tg σ H fun v H1 => v = .ref f ∧ t σ H1 fun vs H2 => sp vs H2 Q (E σ)) := by
  refine ⟨fun pins s σ H Q I h => ?_⟩
  rw [hc]
  refine wpAny_bind (thn (hgE.run pins s σ H _ I h) fun u s1 ⟨v, H1, I1, rv, ev, q⟩ => ?_)
  subst ev
  obtain rfl : u = Value.ref f := rv
  refine PySem.W.callWith_K (h₀ := X.base) I.ok.mod.kin hk (thn (ha.run pos pins s1 σ H1 _ I1 q) fun us s2 ⟨vs, H2, I2, r, q2⟩ => ⟨I2.kIn, ?_⟩) he hpl
  exact run_fnS F hr hb (hx σ) I2 r q2
section
variable {S : Sig} {ρ ρ1 : Env} {a b c e g : Expr} {d d1 d2 d3 : D} {ds : List D} {pos p2 : Pos} {pin : List Nat} {es : List Expr} {x : Str} {ps : List Str} {k : Nat} {f : Addr}
variable {τ : Type} {dd : τ → List D} {pre : τ → Prop} {rese : τ → Except Str O}
theorem xx_callEx [Calm S] (hg : XP S ρ g (.ok (.obj f))) (hG : FnG S.P S.w S.K S.mg S.base k x ps (spP S.K dd pre rese)) (hf : S.mg x = some (.ref f)) (y : τ) (hp : pre y) (ha : XA S ρ (e :: es) (dd y)) (hk : k ≤ S.kk := by exact Nat.le_of_ble_eq_true rfl)
    (he : ∀ env : PySem.Env, starEach (e :: es) env = (false, eval e env) :: starEach es env := by intro _; rfl) (hpl : ∀ env : PySem.Env, (backTo pos (starEach es env)).any (·.1) = false := by intro _; rfl)
    (hc : ∀ env : PySem.Env, eval (.Call g (e :: es) [] pos) env = (do callWith pos (← eval g env) [] (backTo pos (starEach (e :: es) env)) (backToKw pos (keywordEach [] env))) := by intro _; rfl) : XX S ρ (.Call g (e :: es) [] pos) (exX ρ (rese y)) := by
  obtain ⟨f', fd, F, hm, kp, b⟩ := hG.h
  rw [hf] at hm
  obtain rfl : f = f' := by injection hm with hm; injection hm
  obtain ⟨t, a1, a2⟩ := ha
  obtain ⟨tg, g1, g2⟩ := hg
  refine ⟨_, fun q ok => pe_callE (X := S.cx q) (g1 q ok) F ((ok.calm Calm.h).mono hk) kp b (fun σ => L2N.passAt ok.tk σ) (a1 q ok) (he _) (hpl _) (hc _), fun σ F0 H A Q w n q => g2 σ F0 H A _ w n fun v F1 H1 g r => ?_⟩
  cases r
  refine ⟨rfl, ex_call y a2 hp σ F1 H1 A Q (g.wf w) (g.envs n) ?_⟩
  cases hz : rese y with
  | ok o =>
    rw [hz] at q
    exact fun v F' H' B A' w' s' ow n' => q v F' H' B A' w' (((g.stp.mono (by simp) (A' := A)).more (C := A) fun a h => .inl h).trans s') ow n'
  | error z =>
    rw [hz] at q
    exact fun F' H' A' w' s' n' => q F' H' A' w' (((g.stp.mono (by simp) (A' := A)).more (C := A) fun a h => .inl h).trans s') n'
end
/-! ### results that are frozen, while what is owned changes -/
theorem Grow.stpA {F H F' H' : Hp} {A : List Addr} (g : Grow F H F' H') : Stp F H A F' H' A := (g.stp.mono (by simp) (A' := A)).more (C := A) fun a h => .inl h
abbrev XM (S : Sig) (ρ : Env) (e : Expr) (d : D) (ρ1 : Env) : Prop := XX S ρ e (.ok (.fro d) ρ1)
section
variable {S : Sig} {ρ ρ1 ρ2 : Env} {a b c e : Expr} {d d1 d2 d3 : D} {ds : List D} {pos p2 : Pos} {pin : List Nat} {es : List Expr} {ss : List Stmt} {r : RS}
theorem exm {t : TE} (h : EX S t ρ (.ok (.fro d) ρ1)) (σ : L2.St) (F H : Hp) (A : List Addr) (Q : VK) (w : WF F H A) (n : Envs S.K F H σ ρ A) (q : ∀ v F' H' A', WF F' H' A' → Stp F H A F' H' A' → Rep S.K F' v d → Envs S.K F' H' σ ρ1 A' → Q v H') : t σ H Q :=
  h σ F H A Q w n fun v F' H' B A' w' s' ow n' => by
    cases ow with
    | fro r => exact q v F' H' A' w' s' r n'
theorem exm_of {t : TE} (h : ∀ (σ : L2.St) (F H : Hp) (A : List Addr) (Q : VK), WF F H A → Envs S.K F H σ ρ A → (∀ v F' H' A', WF F' H' A' → Stp F H A F' H' A' → Rep S.K F' v d → Envs S.K F' H' σ ρ1 A' → Q v H') → t σ H Q) : EX S t ρ (.ok (.fro d) ρ1) :=
  fun σ F H A Q w n q => h σ F H A Q w n fun v F' H' A' w' s' r n' => q v F' H' [] A' w' s' (.fro r) n'
theorem XM.cast {d' : D} (h : XM S ρ e d ρ1) (q : d = d') : XM S ρ e d' ρ1 := q ▸ h
theorem exm_bin {r : R2} {ta tb : TE} (hr : OD S r d1 d2 d) (ha : EX S ta ρ (.ok (.fro d1) ρ1)) (hb : EX S tb ρ1 (.ok (.fro d2) ρ2)) : EX S (tOp r ta tb) ρ (.ok (.fro d) ρ2) :=
  exm_of fun σ F H A Q w n q => exm ha σ F H A _ w n fun x F1 H1 A1 w1 s1 r1 n1 => exm hb σ F1 H1 A1 _ w1 n1 fun y F2 H2 A2 w2 s2 r2 n2 =>
    hr x y F2 H2 Q w2.sub ((r1.mono s2.fs).mono w2.sub) (r2.mono w2.sub) fun v F3 H3 g r3 => q v F3 H3 A2 (g.wf w2) ((s1.trans s2).trans g.stpA) r3 (g.envs n2)
theorem xm_bin {op : Operator} (ho : OB S op d1 d2 d) (ha : XM S ρ a d1 ρ1) (hb : XM S ρ1 b d2 ρ2) : XM S ρ (.BinOp a op b pos) d ρ2 := by
  obtain ⟨r, h1, h2⟩ := ho.h
  obtain ⟨ta, a1, a2⟩ := ha
  obtain ⟨tb, b1, b2⟩ := hb
  exact ⟨_, fun q k => pe_op (h1 q k) (a1 q k) (b1 q k), exm_bin h2 a2 b2⟩
theorem xm_cmp {op : CmpOp} {c : Bool} (ho : OC S op d1 d2 c) (ha : XM S ρ a d1 ρ1) (hb : XM S ρ1 b d2 ρ2) (hm : behindInMarks op b = false := by first | exact nomark _ | rfl) : XM S ρ (.Compare a [op] [b] pos) (.bl c) ρ2 := by
  obtain ⟨r, h1, h2⟩ := ho.h
  obtain ⟨ta, a1, a2⟩ := ha
  obtain ⟨tb, b1, b2⟩ := hb
  exact ⟨_, fun q k => pe_cmpR (h1 q k) (a1 q k) (b1 q k) hm, exm_bin h2 a2 b2⟩
/-- tests -/
def ETM (S : Sig) (t : TT) (ρ : Env) (b : Bool) (ρ1 : Env) : Prop := ∀ (σ : L2.St) (F H : Hp) (A : List Addr) (Q : Bool → Hp → Prop), WF F H A → Envs S.K F H σ ρ A →
  (∀ F' H' A', WF F' H' A' → Stp F H A F' H' A' → Envs S.K F' H' σ ρ1 A' → Q b H') → t σ H Q
def XTM (S : Sig) (ρ : Env) (e : Expr) (b : Bool) (ρ1 : Env) : Prop := ∃ t, (∀ q, S.Ok q → PT (S.cx q) e t) ∧ ETM S t ρ b ρ1
def XWM (S : Sig) (ρ : Env) (e : Expr) (b : Bool) (ρ1 : Env) : Prop := ∃ t, (∀ q, S.Ok q → PW (S.cx q) e t) ∧ ETM S t ρ b ρ1
theorem XT.m {k : Bool} (h : XT S ρ e k) : XTM S ρ e k ρ := let ⟨t, h1, h2⟩ := h; ⟨t, h1, fun σ F H A Q w n q => h2 σ F H A Q w n fun F' H' g => q F' H' A (g.wf w) g.stpA (g.envs n)⟩
theorem XTM.cast {k k' : Bool} (h : XTM S ρ e k ρ1) (q : k = k') : XTM S ρ e k' ρ1 := q ▸ h
theorem XWM.t {k : Bool} (h : XWM S ρ e k ρ1) : XTM S ρ e k ρ1 := let ⟨t, h1, h2⟩ := h; ⟨t, fun q o => (h1 q o).pt, h2⟩
theorem xtm_cmp {op : CmpOp} {c : Bool} (ho : OC S op d1 d2 c) (ha : XM S ρ a d1 ρ1) (hb : XM S ρ1 b d2 ρ2) (hm : behindInMarks op b = false := by first | exact nomark _ | rfl) : XTM S ρ (.Compare a [op] [b] pos) c ρ2 := by
  obtain ⟨r, h1, h2⟩ := ho.h
  obtain ⟨ta, a1, a2⟩ := ha
  obtain ⟨tb, b1, b2⟩ := hb
  refine ⟨_, fun q k => pt_cmpR (h1 q k) (a1 q k) (b1 q k) hm, fun σ F H A Q w n q => exm (exm_bin h2 a2 b2) σ F H A _ w n fun v F' H' A' w' s' r n' => ?_⟩
  cases r
  exact ⟨c, rfl, q F' H' A' w' s' n'⟩
theorem xtm_not {k : Bool} (h : XTM S ρ a k ρ1) : XTM S ρ (.UnaryOp .Not a pos) (!k) ρ1 := let ⟨t, h1, h2⟩ := h; ⟨_, fun q o => pt_not (h1 q o), fun σ F H A Q w n q => h2 σ F H A _ w n fun F' H' A' w' s' n' => q F' H' A' w' s' n'⟩
theorem xtm_val {k : Bool} (h : XM S ρ e (.bl k) ρ1) (he : ∀ (env : PySem.Env) (whole : Sem Value), isTrue e env whole = (do let v ← whole; standAt e.pos; holding [v] (truthy v)) := by intro _ _; rfl) : XTM S ρ e k ρ1 := by
  obtain ⟨t, h1, h2⟩ := h
  refine ⟨_, fun q o => pt_val (h1 q o) (he _), fun σ F H A Q w n q => exm h2 σ F H A _ w n fun v F' H' A' w' s' r n' => ?_⟩
  cases r
  exact ⟨k, rfl, q F' H' A' w' s' n'⟩
theorem xwm_or1 {k : Bool} (h : XTM S ρ a k ρ1) : XWM S ρ (.BoolOp .Or [a] pos) k ρ1 := let ⟨t, h1, h2⟩ := h; ⟨t, fun q o => pw_or1 (h1 q o), h2⟩
theorem xwm_and1 {k : Bool} (h : XTM S ρ a k ρ1) : XWM S ρ (.BoolOp .And [a] pos) k ρ1 := let ⟨t, h1, h2⟩ := h; ⟨t, fun q o => pw_and1 (h1 q o), h2⟩
theorem xwm_or {l : Bool} {rest : List Expr} (h : XTM S ρ a false ρ1) (h' : XWM S ρ1 (.BoolOp .Or (b :: rest) pos) l ρ2) : XWM S ρ (.BoolOp .Or (a :: b :: rest) pos) l ρ2 := by
  obtain ⟨t, h1, h2⟩ := h
  obtain ⟨u, h3, h4⟩ := h'
  refine ⟨_, fun q o => pw_or (h1 q o) (h3 q o), fun σ F H A Q w n q => h2 σ F H A _ w n fun F1 H1 A1 w1 s1 n1 => ?_⟩
  show u σ H1 Q
  exact h4 σ F1 H1 A1 Q w1 n1 fun F' H' A' w' s' n' => q F' H' A' w' (s1.trans s') n'
theorem xwm_orT {rest : List Expr} (h : XTM S ρ a true ρ1) : XWM S ρ (.BoolOp .Or (a :: b :: rest) pos) true ρ1 := by
  obtain ⟨t, h1, h2⟩ := h
  refine ⟨L2.tOr t fun _ _ _ => False, fun q o => pw_or (h1 q o) ⟨fun _ _ _ _ _ _ _ z => z.elim⟩, fun σ F H A Q w n q => h2 σ F H A _ w n fun F1 H1 A1 w1 s1 n1 => ?_⟩
  show Q true H1
  exact q F1 H1 A1 w1 s1 n1
theorem xwm_and {l : Bool} {rest : List Expr} (h : XTM S ρ a true ρ1) (h' : XWM S ρ1 (.BoolOp .And (b :: rest) pos) l ρ2) : XWM S ρ (.BoolOp .And (a :: b :: rest) pos) l ρ2 := by
  obtain ⟨t, h1, h2⟩ := h
  obtain ⟨u, h3, h4⟩ := h'
  refine ⟨_, fun q o => pw_and (h1 q o) (h3 q o), fun σ F H A Q w n q => h2 σ F H A _ w n fun F1 H1 A1 w1 s1 n1 => ?_⟩
  show u σ H1 Q
  exact h4 σ F1 H1 A1 Q w1 n1 fun F' H' A' w' s' n' => q F' H' A' w' (s1.trans s') n'
theorem xwm_andF {rest : List Expr} (h : XTM S ρ a false ρ1) : XWM S ρ (.BoolOp .And (a :: b :: rest) pos) false ρ1 := by
  obtain ⟨t, h1, h2⟩ := h
  refine ⟨L2.tAnd t fun _ _ _ => False, fun q o => pw_and (h1 q o) ⟨fun _ _ _ _ _ _ _ z => z.elim⟩, fun σ F H A Q w n q => h2 σ F H A _ w n fun F1 H1 A1 w1 s1 n1 => ?_⟩
  show Q false H1
  exact q F1 H1 A1 w1 s1 n1
/-- values: a and b -/
theorem xm_one {op : BoolOp} {r} (h : XX S ρ a r) : XX S ρ (.BoolOp op [a] pos) r := let ⟨t, h1, h2⟩ := h; ⟨t, fun q o => pe_one (h1 q o), h2⟩
theorem xm_and {l : Bool} {rest : List Expr} (h : XM S ρ a (.bl true) ρ1) (h' : XM S ρ1 (.BoolOp .And (b :: rest) pos) (.bl l) ρ2) : XM S ρ (.BoolOp .And (a :: b :: rest) pos) (.bl l) ρ2 := by
  obtain ⟨t, h1, h2⟩ := h
  obtain ⟨u, h3, h4⟩ := h'
  refine ⟨_, fun q o => pe_and (h1 q o) (h3 q o), exm_of fun σ F H A Q w n q => exm h2 σ F H A _ w n fun v F1 H1 A1 w1 s1 r1 n1 => ?_⟩
  cases r1
  refine ⟨true, rfl, ?_⟩
  exact exm h4 σ F1 H1 A1 Q w1 n1 fun v F' H' A' w' s' r' n' => q v F' H' A' w' (s1.trans s') r' n'
/-- arguments, displays -/
def EAM (S : Sig) (t : TA) (ρ : Env) (ds : List D) (ρ1 : Env) : Prop := ∀ (σ : L2.St) (F H : Hp) (A : List Addr) (Q : List V → Hp → Prop), WF F H A → Envs S.K F H σ ρ A →
  (∀ vs F' H' A', WF F' H' A' → Stp F H A F' H' A' → Reps S.K F' vs ds → Envs S.K F' H' σ ρ1 A' → Q vs H') → t σ H Q
def XAM (S : Sig) (ρ : Env) (es : List Expr) (ds : List D) (ρ1 : Env) : Prop := ∃ t, (∀ q, S.Ok q → PA (S.cx q) es t) ∧ EAM S t ρ ds ρ1
theorem XA.m (h : XA S ρ es ds) : XAM S ρ es ds ρ := let ⟨t, h1, h2⟩ := h; ⟨t, h1, fun σ F H A Q w n q => h2 σ F H A Q w n fun vs F' H' g r => q vs F' H' A (g.wf w) g.stpA r (g.envs n)⟩
theorem xam_nil : XAM S ρ [] [] ρ := xa_nil.m
theorem xam_cons (h : XM S ρ e d ρ1) (r : XAM S ρ1 es ds ρ2) (hs : ∀ env : PySem.Env, starEach (e :: es) env = (false, eval e env) :: starEach es env := by intro _; rfl) : XAM S ρ (e :: es) (d :: ds) ρ2 := by
  obtain ⟨t, h1, h2⟩ := h
  obtain ⟨u, h3, h4⟩ := r
  exact ⟨_, fun q k => pa_cons (h1 q k) (h3 q k) (hs _), fun σ F H A Q w n q => exm h2 σ F H A _ w n fun v F1 H1 A1 w1 s1 r1 n1 => h4 σ F1 H1 A1 _ w1 n1 fun vs F2 H2 A2 w2 s2 r2 n2 => q (v :: vs) F2 H2 A2 w2 (s1.trans s2) (.cons (r1.mono s2.fs) r2) n2⟩
theorem xm_tup {k} (h : XAM S ρ es ds ρ1) (hl : ds.length ≤ 1000000 := by simp) : XM S ρ (.Tuple es k pos) (.tup ds) ρ1 := by
  obtain ⟨t, h1, h2⟩ := h
  refine ⟨_, fun q k => pe_tup (h1 q k), exm_of fun σ F H A Q w n q => h2 σ F H A _ w n fun vs F1 H1 A1 w1 s1 r n1 => ⟨line_le (by rw [r.length]; exact hl), fun p hp => ?_⟩⟩
  have g : Grow F1 H1 (upd F1 p (.tup vs)) (upd H1 p (.tup vs)) := Grow.new w1.sub hp
  exact q (.ref p) _ _ A1 (g.wf w1) (s1.trans g.stpA) (.tup upd_same (reps_new w1.sub hp r)) (g.envs n1)
/-! if -/
theorem xb_ifF {A : List Stmt} (hc : XTM S ρ c false ρ1) (h : XB S pin ρ1 ss r) : XB S pin ρ (.If c A [] pos :: ss) r := by
  obtain ⟨t, h1, h2⟩ := hc
  refine xb_cons ⟨tIfS t tNever (fun D => D.nx), fun q ok => ps_if (h1 q ok) pss_never pss_nil, fun σ F H A D w n q => h2 σ F H A _ w n fun F1 H1 A1 w1 s1 n1 => ?_⟩ h
  show D.nx σ H1
  exact q σ F1 H1 A1 w1 s1 n1 Pin.refl
theorem xb_ifE {A B : List Stmt} {ρ2 : Env} (hc : XTM S ρ c false ρ1) (hB : XB S pin ρ1 B (.nx ρ2)) (h : XB S pin ρ2 ss r) : XB S pin ρ (.If c A B pos :: ss) r := by
  obtain ⟨t, h1, h2⟩ := hc
  obtain ⟨u, h3, h4⟩ := hB
  refine xb_cons ⟨tIfS t tNever u, fun q ok => ps_if (h1 q ok) pss_never (h3 q ok), fun σ F H A D w n q => h2 σ F H A _ w n fun F1 H1 A1 w1 s1 n1 => ?_⟩ h
  show u D σ H1
  exact h4 σ F1 H1 A1 D w1 n1 (EPost.trans q s1 Pin.refl)
theorem xb_ifT {A B : List Stmt} (hc : XTM S ρ c true ρ1) (h : XB S pin ρ1 A r) (hr : ∀ ρ, r ≠ .nx ρ) : XB S pin ρ (.If c A B pos :: ss) r := by
  obtain ⟨t, h1, h2⟩ := hc
  obtain ⟨u, h3, h4⟩ := h
  refine xb_stop ⟨tIfS t u tNever, fun q ok => ps_if (h1 q ok) (h3 q ok) pss_never, fun σ F H A D w n q => h2 σ F H A _ w n fun F1 H1 A1 w1 s1 n1 => ?_⟩ hr
  show u D σ H1
  exact h4 σ F1 H1 A1 D w1 n1 (EPost.trans q s1 Pin.refl)
theorem xb_ifN {A B : List Stmt} {ρ2 : Env} (hc : XTM S ρ c true ρ1) (hA : XB S pin ρ1 A (.nx ρ2)) (h : XB S pin ρ2 ss r) : XB S pin ρ (.If c A B pos :: ss) r := by
  obtain ⟨t, h1, h2⟩ := hc
  obtain ⟨u, h3, h4⟩ := hA
  refine xb_cons ⟨tIfS t u tNever, fun q ok => ps_if (h1 q ok) (h3 q ok) pss_never, fun σ F H A D w n q => h2 σ F H A _ w n fun F1 H1 A1 w1 s1 n1 => ?_⟩ h
  show u D σ H1
  exact h4 σ F1 H1 A1 D w1 n1 (EPost.trans q s1 Pin.refl)
/-! an owned name, handed on -/
theorem xx_own (i : Nat) {x : Str} {o : O} (hρ : ρ[i]? = some (some o) := by rfl) (hN : S.N[i]? = some x := by rfl) (hv : Vis S.scope x := by first | exact Or.inl rfl | exact Or.inr (Or.inl rfl) | exact Or.inr (Or.inr rfl))
    (hd : (x == ("__debug__" : Str)) = false := by decide) (hcd : (x == ("__classdict__" : Str)) = false := by decide) : XX S ρ (.Name x pos) (.ok o (ρ.set i none)) :=
  ⟨tVar i, fun q _ => pe_var hN hv hd hcd, fun σ F H A Q w n q => by
    obtain ⟨v, B, A', h1, h2, h3, h4⟩ := n.get hρ
    exact ⟨v, h1, q v F H B A' (w.perm h4) (Stp.refl.perm (fun _ => Iff.rfl) fun a h => h4.mem_iff.mpr h) h2 h3⟩⟩
/-! x.append(e), where e changes what is owned -/
theorem xx_appM (i : Nat) {x : Str} {apos cpos : Pos} {os0 os : List O} (he : XM S ρ e d ρ1) (h0 : ρ[i]? = some (some (.lst os0)) := by rfl) (hl : ρ1[i]? = some (some (.lst os)) := by rfl) (hn : os.length < 1000000 := by simp; omega) (hN : S.N[i]? = some x := by rfl) (hv : Vis S.scope x := by first | exact Or.inl rfl | exact Or.inr (Or.inl rfl) | exact Or.inr (Or.inr rfl))
    (hd : (x == ("__debug__" : Str)) = false := by decide) (hcd : (x == ("__classdict__" : Str)) = false := by decide)
    (hbase : ∀ env : PySem.Env, attributeBase (.Name x p2) "append" env (eval (.Name x p2) env) = eval (.Name x p2) env := by intro _; rfl)
    (hfew : ∀ env : PySem.Env, ((backTo cpos (starEach [e] env)).all (fun x => !x.1) && (backToKw cpos (keywordEach [] env)).all (fun x => x.1.isSome) && decide ([e].length + ([] : List Keyword).length + (if ([] : List Keyword).isEmpty then 0 else 1) < 30)) = true := by intro _; rfl)
    (hline : (apos.endLine == cpos.line) = true := by rfl) (hs : ∀ env : PySem.Env, starEach [e] env = (false, eval e env) :: starEach [] env := by intro _; rfl) (hplain : ∀ env : PySem.Env, (backTo cpos (starEach [] env)).any (·.1) = false := by intro _; rfl) :
    XX S ρ (.Call (.Attribute (.Name x p2) "append" apos) [e] [] cpos) (.ok (.fro .non) (ρ1.set i (some (.lst (os ++ [.fro d]))))) := by
  obtain ⟨ta, a1, a2⟩ := xam_cons he xam_nil hs
  refine ⟨tBM S.K "list" rAppend (tVar i) ta, fun q ok => pe_bm PySem.F.plainAttrs_list PySem.F.slot_list_append PySem.F.type_list_append mt_append (pe_var hN hv hd hcd) (a1 q ok) (hbase _) (hfew _) hline (hs _) (hplain _), fun σ F H A Q w n q => ?_⟩
  obtain ⟨v, B, A', g1, g2, g3, g4⟩ := n.get h0
  cases g2 with
  | lst hx0 r0 =>
  rename_i l xs0 B0
  refine ⟨_, g1, .inl ⟨rfl, _, SqL.of hx0⟩, a2 σ F H A _ w n fun vs F1 H1 A1 w1 s1 rr n1 => ?_⟩
  obtain ⟨y, rfl, ry⟩ := reps1 rr
  obtain ⟨v', B', A'', k1, k2, k3, k4⟩ := n1.get hl
  rw [g1] at k1
  obtain rfl : V.ref l = v' := by injection k1 with k1; injection k1
  cases k2 with
  | lst hx r =>
  rename_i xs A0
  have fo : Foc S.K F1 H1 σ A1 (.ref l) (.lst os) (fun o' => ρ1.set i (some o')) (l :: A0) A'' := ⟨.lst hx r, k4, fun F' H' o' B' e k ow => by
    have e2 : (ρ1.set i none)[i]? = some none := by
      rw [List.getElem?_set_self]
      exact (List.getElem?_eq_some_iff.mp hl).1
    obtain ⟨A2, n3, p3⟩ := (k3.mono e (S := A'') k fun _ h => h).back ow e2 g1
    rw [List.set_set] at n3
    exact ⟨A2, n3, p3⟩⟩
  have len := r.length
  have lA : l ∉ A0 := fun z => (List.nodup_cons.mp (w1.perm k4).left.nd).1 z
  refine ⟨l, xs, y, rfl, rfl, hx, line_lt (by omega), ?_⟩
  obtain ⟨A3, n', w', s'⟩ := Foc.mut (B2 := []) (A1 := A0 ++ []) (X := []) (u := .lst (xs ++ [y])) (o' := .lst (os ++ [.fro d])) w1 fo (by simp) (.lst upd_same (Owns.append (r.mono (Ext.refl _) (S := A0) (fun x u h hx => by rw [upd_ne fun z => lA (by rw [← z]; exact hx)]; exact h) fun _ h => h) (Owns.fros (ds := [d]) (.cons ry .nil))))
  exact q .non F1 _ [] A3 w' (s1.trans s') (.fro .non) n'
end
/-! ### a def of which one argument is owned -/
theorem Owns.splitW {K : PySem.W.Frag} {F H : Hp} {ds2 : List D} {s : O} : ∀ {ds1 : List D} {vs : List V} {A : List Addr}, Owns K F H vs (ds1.map O.fro ++ s :: ds2.map O.fro) A → ∃ vs1 v vs2, vs = vs1 ++ v :: vs2 ∧ Reps K F vs1 ds1 ∧ Reps K F vs2 ds2 ∧ Own K F H v s A
  | [], vs, A, h => by
    cases h with
    | cons ow r =>
      obtain ⟨r2, rfl⟩ := Owns.fros_inv r
      exact ⟨[], _, _, rfl, .nil, r2, by rw [List.append_nil]; exact ow⟩
  | d :: ds1, vs, A, h => by
    cases h with
    | cons ow r =>
      cases ow with
      | fro r0 =>
        obtain ⟨vs1, v, vs2, rfl, r1, r2, ow⟩ := r.splitW
        exact ⟨_ :: vs1, v, vs2, rfl, .cons r0 r1, r2, ow⟩
theorem Owns.joinW {K : PySem.W.Frag} {F H : Hp} {ds2 : List D} {s : O} {v : V} {vs2 : List V} {A : List Addr} (r2 : Reps K F vs2 ds2) (ow : Own K F H v s A) : ∀ {ds1 : List D} {vs1 : List V}, Reps K F vs1 ds1 → Owns K F H (vs1 ++ v :: vs2) (ds1.map O.fro ++ s :: ds2.map O.fro) A
  | [], _, .nil => by
    have := Owns.cons ow (Owns.fros (H := H) r2)
    rw [List.append_nil] at this
    exact this
  | d :: ds1, _, .cons r0 r1 => Owns.cons (A := []) (B := A) (.fro r0) (Owns.joinW r2 ow r1)
def rmW (ds1 ds2 : List D) : Except Str O × O → RM
  | (.ok o, s) => .ok o (ds1.map O.fro ++ s :: ds2.map O.fro)
  | (.error x, s) => .ex x (ds1.map O.fro ++ s :: ds2.map O.fro)
abbrev spW (K : PySem.W.Frag) {τ : Type} (dd1 : τ → List D) (slf : τ → O) (dd2 : τ → List D) (pre : τ → Prop) (res : τ → Except Str O × O) : Sp := spG K (fun x => (dd1 x).map O.fro ++ slf x :: (dd2 x).map O.fro) pre fun x => rmW (dd1 x) (dd2 x) (res x)
section
variable {S : Sig} {ρ ρ1 : Env} {a b c e : Expr} {d : D} {ds ds1 ds2 : List D} {pos p2 : Pos} {pin : List Nat} {es : List Expr} {x : Str} {ps : List Str} {k : Nat}
variable {τ : Type} {dd1 dd2 : τ → List D} {pre : τ → Prop} {slf : τ → O} {res : τ → Except Str O × O}
def EAW (S : Sig) (t : TA) (ρ : Env) (ds1 : List D) (i : Nat) (ds2 : List D) : Prop := ∀ (σ : L2.St) (F H : Hp) (A : List Addr) (Q : List V → Hp → Prop), WF F H A → Envs S.K F H σ ρ A →
  (∀ vs1 v vs2 F' H', Grow F H F' H' → Reps S.K F' vs1 ds1 → Reps S.K F' vs2 ds2 → σ[i]? = some (some v) → Q (vs1 ++ v :: vs2) H') → t σ H Q
def XAW (S : Sig) (ρ : Env) (es : List Expr) (ds1 : List D) (i : Nat) (ds2 : List D) : Prop := ∃ t, (∀ q, S.Ok q → PA (S.cx q) es t) ∧ EAW S t ρ ds1 i ds2
theorem xaw_here (i : Nat) {x : Str} {o : O} (r : XA S ρ es ds) (hρ : ρ[i]? = some (some o) := by rfl) (hN : S.N[i]? = some x := by rfl) (hv : Vis S.scope x := by first | exact Or.inl rfl | exact Or.inr (Or.inl rfl) | exact Or.inr (Or.inr rfl))
    (hd : (x == ("__debug__" : Str)) = false := by decide) (hcd : (x == ("__classdict__" : Str)) = false := by decide) (hs : ∀ env : PySem.Env, starEach (.Name x pos :: es) env = (false, eval (.Name x pos) env) :: starEach es env := by intro _; rfl) : XAW S ρ (.Name x pos :: es) [] i ds := by
  obtain ⟨t, a1, a2⟩ := r
  refine ⟨_, fun q ok => pa_cons (pe_var hN hv hd hcd) (a1 q ok) (hs _), fun σ F H A Q w n q => ?_⟩
  obtain ⟨v, B, A', h1, h2, h3, h4⟩ := n.get hρ
  exact ⟨v, h1, a2 σ F H A _ w n fun vs F1 H1 g rr => q [] v vs F1 H1 g .nil rr h1⟩
theorem xaw_cons {i : Nat} (h : XP S ρ e (.ok d)) (r : XAW S ρ es ds1 i ds2) (hs : ∀ env : PySem.Env, starEach (e :: es) env = (false, eval e env) :: starEach es env := by intro _; rfl) : XAW S ρ (e :: es) (d :: ds1) i ds2 := by
  obtain ⟨t, h1, h2⟩ := h
  obtain ⟨u, r1, r2⟩ := r
  exact ⟨_, fun q o => pa_cons (h1 q o) (r1 q o) (hs _), fun σ F H A Q w n q => h2 σ F H A _ w n fun v F1 H1 g1 p1 => r2 σ F1 H1 A _ (g1.wf w) (g1.envs n) fun vs1 v' vs2 F2 H2 g2 q1 q2 z => q (v :: vs1) v' vs2 F2 H2 (g1.trans g2) (.cons (p1.mono g2.stp.fs) q1) q2 z⟩
theorem ex_callW {t : TA} (y : τ) {i : Nat} (hρ : ρ[i]? = some (some (slf y))) (ha : EAW S t ρ (dd1 y) i (dd2 y)) (hp : pre y) : EX S (tCallS (spW S.K dd1 slf dd2 pre res) (WE S.wx) t) ρ (exM (fun s => ρ.set i (some s)) (res y)) := fun σ F H A Q w n q => ha σ F H A _ w n fun vs1 v vs2 F1 H1 g r1 r2 hv => by
  obtain ⟨v', B, C0, h1, h2, h3, h4⟩ := n.get hρ
  rw [hv] at h1
  obtain rfl : v = v' := by injection h1 with h1; injection h1
  have fo : Foc S.K F1 H1 σ A v (slf y) (fun o' => ρ.set i (some o')) B C0 := (Foc.mk h2 h4 fun F' H' o' B' e k ow => by
    have e2 : (ρ.set i none)[i]? = some none := by
      rw [List.getElem?_set_self]
      exact (List.getElem?_eq_some_iff.mp hρ).1
    obtain ⟨A2, n3, p3⟩ := (h3.mono e (S := C0) k fun _ h => h).back ow e2 hv
    rw [List.set_set] at n3
    exact ⟨A2, n3, p3⟩ : Foc S.K F H σ A v (slf y) (fun o' => ρ.set i (some o')) B C0).grow g
  have w1 := (g.wf w).perm fo.perm
  refine ⟨y, F1, B, w1.left, Owns.joinW r2 fo.own r1, hp, ?_⟩
  show RM.Post _ _ _ _ _ _ _ (rmW (dd1 y) (dd2 y) (res y))
  have s0 : Stp F H A F1 H1 (B ++ C0) := (g.stpA (A := A)).perm (fun _ => Iff.rfl) fun a h => fo.perm.mem_iff.mpr h
  have lenE : ∀ {F2 H2 A2 s}, Owns S.K F2 H2 (vs1 ++ v :: vs2) ((dd1 y).map O.fro ++ s :: (dd2 y).map O.fro) A2 → Own S.K F2 H2 v s A2 := fun {F2 H2 A2 s} ows => by
    obtain ⟨u1, u, u2, e, q1, q2, ow⟩ := ows.splitW
    obtain ⟨_, e2⟩ := List.append_inj e (by rw [r1.length, q1.length])
    injection e2 with e3 e4
    rw [e3]; exact ow
  rcases hr : res y with ⟨z | z, s⟩
  · rw [hr] at q
    intro F2 H2 A2 w2 s2 ows
    obtain ⟨w3, s3, k3⟩ := frame w1 s2 w2
    obtain ⟨A', n', p'⟩ := fo.back F2 H2 s A2 s2.fs k3 (lenE ows)
    exact q F2 H2 A' (w3.perm p'.symm) ((s0.trans s3).perm (fun _ => Iff.rfl) fun a h => p'.mem_iff.mp h) n'
  · rw [hr] at q
    intro u F2 H2 Bo A2 w2 s2 ow2 ows
    obtain ⟨w3, s3, k3⟩ := frame w1 s2 w2
    obtain ⟨A', n', p'⟩ := fo.back F2 H2 s A2 s2.fs k3 (lenE ows)
    have p2 : (Bo ++ A2 ++ C0).Perm (Bo ++ A') := by
      rw [List.append_assoc]
      exact List.Perm.append_left Bo p'.symm
    exact q u F2 H2 Bo A' (w3.perm p2) ((s0.trans s3).perm (fun _ => Iff.rfl) fun a h => p2.mem_iff.mpr h) ow2 n'
/-- f(.., x, ..), x owned -/
theorem xx_callW [Calm S] (hG : FnG S.P S.w S.K S.mg S.base k x ps (spW S.K dd1 slf dd2 pre res)) (y : τ) (hp : pre y) (i : Nat) (ha : XAW S ρ (e :: es) (dd1 y) i (dd2 y)) (hρ : ρ[i]? = some (some (slf y)) := by rfl) (hk : k ≤ S.kk := by exact Nat.le_of_ble_eq_true rfl) (hg : S.scope.names.lookup x = some .globalImplicit := by rfl) (hdb : (x == ("__debug__" : Str)) = false := by decide)
    (he : ∀ env : PySem.Env, starEach (e :: es) env = (false, eval e env) :: starEach es env := by intro _; rfl) (hpl : ∀ env : PySem.Env, (backTo pos (starEach es env)).any (·.1) = false := by intro _; rfl) : XX S ρ (.Call (.Name x p2) (e :: es) [] pos) (exM (fun s => ρ.set i (some s)) (res y)) := by
  obtain ⟨f, fd, F, hm, kp, b⟩ := hG.h
  obtain ⟨t, a1, a2⟩ := ha
  exact ⟨_, fun q ok => pe_callS (X := S.cx q) F ((ok.calm Calm.h).mono hk) (show S.scope.names.lookup x = some .globalImplicit from hg) hm kp b (fun σ => L2N.passAt ok.tk σ) (a1 q ok) hdb (he _) (hpl _), ex_callW y hρ a2 hp⟩
end
inductive FitsW (j : Nat) : RS → Except Str O × O → Prop
  | rt {o ρ s r} (h0 : ρ[j]? = some (some s)) (h : (.ok o, s) = r) : FitsW j (.rt o (some ρ)) r
  | nx {ρ s r} (h0 : ρ[j]? = some (some s)) (h : (.ok (.fro .non), s) = r) : FitsW j (.nx ρ) r
  | ex {x ρ s r} (h0 : ρ[j]? = some (some s)) (h : (.error x, s) = r) : FitsW j (.ex x (some ρ)) r
section
variable {P : Program} {w : World} {K : PySem.W.Frag} {mg : Str → Option Value} {base : Heap}
theorem self_outW {j : Nat} {F H : Hp} {σ σ0 : L2.St} {ρ : Env} {A : List Addr} {v : V} {s : O} (n : Envs K F H σ ρ A) (h0 : ρ[j]? = some (some s)) (e0 : σ0[j]? = some (some v)) (p : Pin [j] σ0 σ) : ∃ B A', Own K F H v s B ∧ A.Perm (B ++ A') := by
  obtain ⟨v', B, A', h1, h2, h3, h4⟩ := n.get h0
  have := p.at_ j (by simp)
  rw [h1, e0] at this
  cases this
  exact ⟨B, A', h2, h4⟩
theorem def_W {x qual : Str} {st : Stmt} {f : Addr} {fd : FuncData} {N ps : List Str} {k : Nat} {τ : Type} {dd1 dd2 : τ → List D} {slf : τ → O} {pre : τ → Prop} {res : τ → Except Str O × O} (j : Nat) (F : ∃ dvs kws, FunD K x qual (defArgs st) (defBody st) (defScope st) dvs kws f fd) (Sc : FnScope N ps (defScope st)) (hl : ∀ y, (dd1 y).length + ((dd2 y).length + 1) = ps.length) (hj : ∀ y, (dd1 y).length = j)
    (body : ∀ (y : τ) (E : XK), pre y → ∃ r, XB (sigOf P w K mg base N (defScope st) k E) [j] (((dd1 y).map (fun d => some (O.fro d)) ++ some (slf y) :: (dd2 y).map (fun d => some (O.fro d))) ++ List.replicate (N.length - ps.length) none) (defBody st) r ∧ FitsW j r (res y)) :
    FnOk P w K mg base (L2N.CX P w) (k + 1) f fd ps (spW K dd1 slf dd2 pre res) := by
  obtain ⟨dvs, kws, F⟩ := F
  refine F.ok Sc (fun vs H Q E h => ?_) (fun cdv A outer s H vs Q E hr h => ?_)
  · obtain ⟨y, F1, A1, _, ow, _⟩ := h
    rw [ow.length, List.length_append, List.length_cons, List.length_map, List.length_map, hl]
  · obtain ⟨y, F1, A1, w1, ow, hp, post⟩ := h
    obtain ⟨r, ⟨t, h1, h2⟩, fit⟩ := body y E hp
    obtain ⟨q, ok, e⟩ := sig_ok (P := P) (w := w) (K := K) (mg := mg) (base := base) (cd := cdv) (outer := outer) (H := H) (E := E) Sc hr
    refine ⟨t, by rw [← e]; exact h1 q ok, ?_⟩
    have n1 := start_of (N := N) ow
    rw [List.length_append, List.length_cons, List.length_map, List.length_map, hl, List.map_append, List.map_cons, List.map_map, List.map_map] at n1
    refine h2 _ F1 H A1 _ w1 n1 ?_
    have post' : RM.Post K vs F1 H A1 Q E (rmW (dd1 y) (dd2 y) (res y)) := post
    obtain ⟨vs1, v0, vs2, rfl, r1, r2, ow0⟩ := ow.splitW
    have z0 : (L2.start N (vs1 ++ v0 :: vs2))[j]? = some (some v0) := by
      unfold L2.start
      rw [← hj y, ← r1.length, List.getElem?_append_left (by simp), List.getElem?_map, List.getElem?_append_right (Nat.le_refl _), Nat.sub_self]
      rfl
    cases fit with
    | rt h0 z =>
      rw [← z] at post'
      intro v σ' F' H' B A' w' s' ow' n' p'
      obtain ⟨B1, A2, o1, p1⟩ := self_outW n' h0 z0 p'
      have p2 : (B ++ A').Perm ((B ++ B1) ++ A2) := by
        rw [List.append_assoc]
        exact List.Perm.append_left B p1
      exact post' v F' H' B B1 (w'.perm p2).left (s'.perm (fun a => Iff.rfl) fun a h => p2.mem_iff.mpr (List.mem_append_left _ h)) ow' (Owns.joinW (r2.mono s'.fs) o1 (r1.mono s'.fs))
    | nx h0 z =>
      rw [← z] at post'
      intro σ' F' H' A' w' s' n' p'
      obtain ⟨B1, A2, o1, p1⟩ := self_outW n' h0 z0 p'
      exact post' .non F' H' [] B1 (w'.perm p1).left (s'.perm (fun a => Iff.rfl) fun a h => p1.mem_iff.mpr (List.mem_append_left _ h)) (.fro .non) (Owns.joinW (r2.mono s'.fs) o1 (r1.mono s'.fs))
    | ex h0 z =>
      rw [← z] at post'
      intro σ' F' H' A' w' s' n' p'
      obtain ⟨B1, A2, o1, p1⟩ := self_outW n' h0 z0 p'
      exact post' F' H' B1 (w'.perm p1).left (s'.perm (fun a => Iff.rfl) fun a h => p1.mem_iff.mpr (List.mem_append_left _ h)) (Owns.joinW (r2.mono s'.fs) o1 (r1.mono s'.fs))
end
end G

namespace G
open PySem PySem.Spec PyProof.Rows L2
open PySem.W (Datum DatumOrd Tup T3)
open Enc (enc)
section
variable {S : Sig} {ρ ρ1 ρ2 : Env} {a b c e it tg : Expr} {d d1 d2 d3 : D} {ds : List D} {pos p2 : Pos} {pin : List Nat} {es : List Expr} {ss body : List Stmt} {r : RS}
/-! range, downward -/
def rngD (lo hi : Int) : List Int := (List.range (lo - hi).toNat).map fun i => lo - (i : Nat)
theorem rngD_len (lo hi : Int) : (rngD lo hi).length = (lo - hi).toNat := by unfold rngD; simp
theorem rngD_get {lo hi : Int} {i : Nat} {x : Int} (h : (rngD lo hi)[i]? = some x) : i < (lo - hi).toNat ∧ x = lo - (i : Nat) := by
  unfold rngD at h
  rw [List.getElem?_map] at h
  by_cases hi' : i < (lo - hi).toNat
  · rw [List.getElem?_range hi'] at h
    exact ⟨hi', by injection h with h; exact h.symm⟩
  · rw [List.getElem?_eq_none (by simp; omega)] at h
    cases h
theorem rng_get' {lo hi : Int} {i : Nat} {x : Int} (h : (rng lo hi)[i]? = some x) : i < (hi - lo).toNat ∧ x = lo + (i : Nat) := by
  have := (List.getElem?_eq_some_iff.mp h).1
  rw [rng_len] at this
  rw [rng_get this] at h
  exact ⟨this, by injection h with h; exact h.symm⟩
theorem src_rngD {K : PySem.W.Frag} {F : Hp} {lo hi : Int} : Src K (Itc lo (-1) (lo - hi).toNat) F ((rngD lo hi).map enc) := by
  refine ⟨_, _, by rw [List.length_map, rngD_len]; exact walk_rangeC, fun _ _ => trivial, fun i H2 x H3 F2 hh e e2 y => ?_⟩
  rw [List.length_map, rngD_len] at hh
  obtain ⟨rfl, rfl⟩ := y
  refine ⟨F2, .int (lo + (i : Nat) * (-1)), ?_, Grow.refl e2, .int⟩
  unfold rngD
  rw [List.getElem?_map, List.getElem?_map, List.getElem?_range hh]
  show some (D.int _) = some (D.int _)
  congr 2
  dsimp only
  omega
theorem xi_rngD {lo hi : Int} (hm : S.mg "range" = none) (h : TP S ρ a lo) (h' : TP S ρ b hi) (h'' : TP S ρ c (-1)) (hb : -(2 ^ 62) ≤ lo ∧ lo < 2 ^ 62 ∧ -(2 ^ 62) ≤ hi ∧ hi < 2 ^ 62) (hg : S.scope.names.lookup ("range" : Str) = some .globalImplicit := by rfl)
    (hs : ∀ env : PySem.Env, starEach [a, b, c] env = (false, eval a env) :: starEach [b, c] env := by intro _; rfl) (hs2 : ∀ env : PySem.Env, starEach [b, c] env = (false, eval b env) :: starEach [c] env := by intro _; rfl) (hs3 : ∀ env : PySem.Env, starEach [c] env = (false, eval c env) :: starEach [] env := by intro _; rfl)
    (hpl : ∀ env : PySem.Env, (backTo pos (starEach [b, c] env)).any (·.1) = false := by intro _; rfl) : XI S ρ tg (.Call (.Name "range" p2) [a, b, c] [] pos) ((rngD lo hi).map enc) := by
  obtain ⟨t, h1, h2⟩ := xa_cons h (xa_cons h' (xa_cons h'' xa_nil hs3) hs2) hs
  refine ⟨_, fun q ok => pi_range3 (X := S.cx q) (show S.scope.names.lookup ("range" : Str) = some .globalImplicit from hg) hm (h1 q ok) (hs _) (hpl _), fun σ F H A R w n k => h2 σ F H A _ w n fun vs F1 H1 g rr => ?_⟩
  cases rr with
  | cons r rr => cases rr with
    | cons r' rr => cases rr with
      | cons r'' rr =>
        cases rr
        cases r; cases r'; cases r''
        exact ⟨lo, hi, -1, _, rfl, RgC.neg hb.1 hb.2.1 hb.2.2.1 hb.2.2.2, k _ F1 H1 g src_rngD⟩
/-! a loop whose state is the turn's number -/
theorem xb_forC [Calm S] {α : Type} (xs : List α) (g : α → D) (R : Nat → Env) {tgt : TG} (ρb : Nat → α → Env) (hi : XI S (R 0) tg it (xs.map g)) (hg : ∀ q, S.Ok q → PG (S.cx q) tg tgt) (hG : ∀ s x, EG S pin tgt (R s) (g x) (ρb s x))
    (hb : ∀ i x, xs[i]? = some x → XB S pin (ρb i x) body (.nx (R (i + 1)))) (h : XB S pin (R xs.length) ss r) (hq : ρ = R 0 := by rfl)
    (hs : ∀ (env : PySem.Env) (x : Value), foldedSetIterable it env x = pure x := by intro _ _; rfl) : XB S pin ρ (.For tg it body [] pos :: ss) r := by
  subst hq
  have z := xs_forN (pin := pin) (body := body) (pos := pos) xs g R (fun i _ => i + 1) (fun i s => s = i) ρb 0 hi hg hG rfl (fun i s x hx e => by subst e; exact ⟨hb _ x hx, rfl⟩) hs
  have e : ∀ (xs : List α) (n : Nat), xs.foldl (fun i _ => i + 1) n = n + xs.length := by
    intro xs
    induction xs with
    | nil => intro n; rfl
    | cons x xs ih => intro n; rw [List.foldl_cons, ih, List.length_cons]; omega
  rw [e, Nat.zero_add] at z
  exact xb_cons z h
/-- e.f = v, of a field that is there -/
theorem xs_fldR {C : Addr} {ns : List Str} {os : List O} {f : Str} {value : Expr} {pos' : Pos} {o2 : O} {up : O → Env} (j : Nat) (c : Cls S.K C) (na : NoAttr S.K C f) (hv : XX S ρ value (.ok o2 ρ1)) (h : XL S ρ1 e (.ins C ns os) up) (hf : fidx f ns = some j := by decide) (hl : ns.length < 900 := by decide) (hj : Nat.blt j os.length = true := by rfl) (hq : up (.ins C ns (os.set j o2)) = ρ2 := by rfl)
    (hs : ∀ env : PySem.Env, swapsWith value (some (.Attribute e f pos')) pos.line env = pure false := by intro _; rfl) : XS S pin ρ (.Assign [.Attribute e f pos'] value pos) (.nx ρ2) := by
  subst hq
  exact xs_fldO j c na hv h hf hl (Nat.le_of_ble_eq_true hj) hs
theorem xm_r {q : RE} (h : XX S ρ e q) (hr : q = .ok (.fro d) ρ1 := by rfl) : XM S ρ e d ρ1 := by subst hr; exact h
theorem xs_retM {q : RE} {o : O} (h : XX S ρ e q) (hr : q = .ok o ρ1 := by rfl) : XS S pin ρ (.Return (some e) pos) (.rt o (some ρ1)) := by
  subst hr
  exact xs_ret h
end
section
variable {S : Sig} {ρ ρ1 ρ2 : Env} {a b : Expr} {pos : Pos} {T : Type} [DecidableEq T] [Datum T] [Enc T] {u v : T}
theorem xtm_neF (ha : XM S ρ a (enc u) ρ1) (hb : XM S ρ1 b (enc v) ρ2) (e : u = v) (hd : Datum.depth T ≤ 64 := by decide) : XTM S ρ (.Compare a [.NotEq] [b] pos) false ρ2 := (xtm_cmp (oc_ne hd) ha hb).cast (by rw [decide_eq_true e]; rfl)
theorem xtm_neT (ha : XM S ρ a (enc u) ρ1) (hb : XM S ρ1 b (enc v) ρ2) (e : u ≠ v) (hd : Datum.depth T ≤ 64 := by decide) : XTM S ρ (.Compare a [.NotEq] [b] pos) true ρ2 := (xtm_cmp (oc_ne hd) ha hb).cast (by rw [decide_eq_false e]; rfl)
theorem xtm_eqF (ha : XM S ρ a (enc u) ρ1) (hb : XM S ρ1 b (enc v) ρ2) (e : u ≠ v) (hd : Datum.depth T ≤ 64 := by decide) : XTM S ρ (.Compare a [.Eq] [b] pos) false ρ2 := (xtm_cmp (oc_eq hd) ha hb).cast (decide_eq_false e)
theorem xtm_eqT (ha : XM S ρ a (enc u) ρ1) (hb : XM S ρ1 b (enc v) ρ2) (e : u = v) (hd : Datum.depth T ≤ 64 := by decide) : XTM S ρ (.Compare a [.Eq] [b] pos) true ρ2 := (xtm_cmp (oc_eq hd) ha hb).cast (decide_eq_true e)
theorem xm_eqT (ha : XM S ρ a (enc u) ρ1) (hb : XM S ρ1 b (enc v) ρ2) (e : u = v) (hd : Datum.depth T ≤ 64 := by decide) : XM S ρ (.Compare a [.Eq] [b] pos) (.bl true) ρ2 := (xm_cmp (oc_eq hd) ha hb).cast (by rw [decide_eq_true e])
end
section
variable {S : Sig} {ρ ρ1 ρ2 : Env} {a b e : Expr} {pos p2 : Pos} {T : Type} [DecidableEq T] [Datum T] [Enc T]
theorem xx_appMT (i : Nat) {x : Str} {apos cpos : Pos} {xs0 xs : List T} {v : T} (he : XM S ρ e (enc v) ρ1) (h0 : ρ[i]? = some (ov xs0) := by rfl) (hl : ρ1[i]? = some (ov xs) := by rfl) (hn : xs.length < 1000000) (hN : S.N[i]? = some x := by rfl) (hv : Vis S.scope x := by first | exact Or.inl rfl | exact Or.inr (Or.inl rfl) | exact Or.inr (Or.inr rfl))
    (hd : (x == ("__debug__" : Str)) = false := by decide) (hcd : (x == ("__classdict__" : Str)) = false := by decide)
    (hbase : ∀ env : PySem.Env, attributeBase (.Name x p2) "append" env (eval (.Name x p2) env) = eval (.Name x p2) env := by intro _; rfl)
    (hfew : ∀ env : PySem.Env, ((backTo cpos (starEach [e] env)).all (fun x => !x.1) && (backToKw cpos (keywordEach [] env)).all (fun x => x.1.isSome) && decide ([e].length + ([] : List Keyword).length + (if ([] : List Keyword).isEmpty then 0 else 1) < 30)) = true := by intro _; rfl)
    (hline : (apos.endLine == cpos.line) = true := by rfl) (hs : ∀ env : PySem.Env, starEach [e] env = (false, eval e env) :: starEach [] env := by intro _; rfl) (hplain : ∀ env : PySem.Env, (backTo cpos (starEach [] env)).any (·.1) = false := by intro _; rfl) :
    XX S ρ (.Call (.Attribute (.Name x p2) "append" apos) [e] [] cpos) (.ok (.fro .non) (ρ1.set i (ov (xs ++ [v])))) := by
  have z := xx_appM (apos := apos) (cpos := cpos) (p2 := p2) i he h0 hl (by simpa using hn) hN hv hd hcd hbase hfew hline hs hplain
  rw [show ov (xs ++ [v]) = some (.lst ((xs.map enc).map O.fro ++ [.fro (enc v)])) by show some (O.lst (((xs ++ [v]).map enc).map O.fro)) = _; rw [List.map_append, List.map_append]; rfl]
  exact z
end
section
variable {S : Sig} {ρ ρ1 ρ2 : Env} {pos : Pos} {es : List Expr} {ds : List D}
theorem xx_lstM (h : XAM S ρ es ds ρ1) (hl : ds.length ≤ 1000000 := by simp) : XX S ρ (.List es pos) (.ok (.lst (ds.map O.fro)) ρ1) := by
  obtain ⟨t, h1, h2⟩ := h
  refine ⟨_, fun q o => pe_lst (h1 q o), fun σ F H A Q w n q => h2 σ F H A _ w n fun vs F1 H1 A1 w1 s1 r n1 => ⟨?_, fun p hp => ?_⟩⟩
  · rw [r.length]; exact Nat.le_trans hl (by decide)
  · obtain ⟨w3, s3, n3⟩ := grow_own (o := .lst vs) w1 n1 (Grow.refl w1.sub) hp
    exact q _ _ _ [p] A1 w3 (s1.trans s3) (.lst upd_same (Owns.fros r)) n3
end
theorem cut_init {α : Type} (xs : List α) (x : α) : cutL (xs ++ [x]) none (some (-1)) = xs := by
  have h1 : HT.sIx (xs ++ [x]).length 0 none = 0 := rfl
  have h2 : HT.sIx (xs ++ [x]).length (xs ++ [x]).length (some (-1)) = xs.length := by
    rw [List.length_append, List.length_singleton]
    show (if (-1 : Int) < 0 then ((-1 : Int) + ((xs.length + 1 : Nat) : Int)).toNat else min (-1 : Int).toNat (xs.length + 1)) = xs.length
    rw [if_pos (by decide)]
    omega
  unfold cutL
  rw [h1, h2]
  simp
theorem at_last {α : Type} (xs : List α) (x : α) : atI (xs ++ [x]) (-1) = some x := by
  unfold atI
  rw [List.length_append, List.length_singleton]
  have : ixN (xs.length + 1) (-1) = some xs.length := by
    unfold ixN
    rw [if_neg (by decide), if_pos (by omega)]
    congr 1
    omega
  rw [this]
  simp
end G

namespace G
open PySem PySem.Spec PyProof.Rows L2
open PySem.W (Datum DatumOrd Tup T3)
open Enc (enc)
section
variable {S : Sig} {ρ ρ1 ρ2 : Env} {a b c e : Expr} {d d1 d2 d3 : D} {ds : List D} {pos p2 : Pos} {pin : List Nat} {es : List Expr} {ss : List Stmt} {r : RS} {x : Str} {ps : List Str} {k : Nat}
/-! subscripts, built-in calls, calls, of what changes what is owned -/
theorem xm_ix (ho : OI S d1 d2 d) (ha : XM S ρ a d1 ρ1) (hb : XM S ρ1 b d2 ρ2) (hs : PlainIx b := by intro _ _; rfl) : XM S ρ (.Subscript a b pos) d ρ2 := by
  obtain ⟨r, h1, h2⟩ := ho.h
  obtain ⟨ta, a1, a2⟩ := ha
  obtain ⟨tb, b1, b2⟩ := hb
  refine ⟨_, fun q k => pe_ix (h1 q k) (a1 q k) (b1 q k) hs, ?_⟩
  exact exm_of fun σ F H A Q w n q => exm a2 σ F H A _ w n fun x F1 H1 A1 w1 s1 r1 n1 => exm b2 σ F1 H1 A1 _ w1 n1 fun y F2 H2 A2 w2 s2 r2 n2 =>
    h2 x y F2 H2 Q w2.sub (r1.mono s2.fs) r2 fun v F3 H3 g r3 => q v F3 H3 A2 (g.wf w2) ((s1.trans s2).trans g.stpA) r3 (g.envs n2)
theorem xm_cb {id : String} {p : Pos} (hc : CB S id ds d) (hm : S.mg x = none) (ha : XAM S ρ (e :: es) ds ρ1) (hg : S.scope.names.lookup x = some .globalImplicit := by rfl) (hv : bootBuiltins x = some (.builtin id) := by decide +kernel) (hn : x ≠ "__name__" := by decide) (hdb : (x == ("__debug__" : Str)) = false := by decide)
    (he : ∀ env : PySem.Env, starEach (e :: es) env = (false, eval e env) :: starEach es env := by intro _; rfl) (hpl : ∀ env : PySem.Env, (backTo pos (starEach es env)).any (·.1) = false := by intro _; rfl) : XM S ρ (.Call (.Name x p) (e :: es) [] pos) d ρ1 := by
  obtain ⟨r, h1, h2⟩ := hc.h
  obtain ⟨t, a1, a2⟩ := ha
  refine ⟨_, fun q o => pe_callB (X := S.cx q) (h1 q o) (show S.scope.names.lookup x = some .globalImplicit from hg) hm hv (a1 q o) hn hdb (he _) (hpl _), ?_⟩
  exact exm_of fun σ F H A Q w n q => a2 σ F H A _ w n fun vs F1 H1 A1 w1 s1 r1 n1 => h2 vs F1 H1 Q w1.sub (r1.mono w1.sub) fun v F2 H2 g r2 => q v F2 H2 A1 (g.wf w1) (s1.trans g.stpA) r2 (g.envs n1)
variable {τ : Type} {dd : τ → List D} {pre : τ → Prop} {rese : τ → Except Str O}
theorem ex_callM (y : τ) {t : TA} (ha : EAM S t ρ (dd y) ρ1) (hp : pre y) : EX S (tCallS (spP S.K dd pre rese) (WE S.wx) t) ρ (exX ρ1 (rese y)) := fun σ F H A Q w0 n0 q => ha σ F H A _ w0 n0 fun vs F1 H1 A1 w s1 r n => by
  refine ⟨y, F1, [], WF.none w.sub, Owns.fros r, hp, ?_⟩
  show RM.Post _ _ _ _ _ _ _ (rmF (dd y) (rese y))
  cases e : rese y with
  | ok o =>
    rw [e] at q
    intro v F2 H2 B A' w2 s2 ow ows
    obtain ⟨_, rfl⟩ := Owns.fros_inv ows
    rw [List.append_nil] at w2 s2
    obtain ⟨w3, s3, n3⟩ := beside w n s2 w2
    exact q v F2 H2 B A1 w3 (s1.trans s3) ow n3
  | error x =>
    rw [e] at q
    intro F2 H2 A' w2 s2 ows
    obtain ⟨_, rfl⟩ := Owns.fros_inv ows
    have g : Grow F1 H1 F2 H2 := ⟨s2, w2.sub⟩
    exact q F2 H2 A1 (g.wf w) (s1.trans g.stpA) (g.envs n)
theorem xx_callM [Calm S] (hG : FnG S.P S.w S.K S.mg S.base k x ps (spP S.K dd pre rese)) (y : τ) (hp : pre y) (ha : XAM S ρ (e :: es) (dd y) ρ1) (hk : k ≤ S.kk := by exact Nat.le_of_ble_eq_true rfl) (hg : S.scope.names.lookup x = some .globalImplicit := by rfl) (hdb : (x == ("__debug__" : Str)) = false := by decide)
    (he : ∀ env : PySem.Env, starEach (e :: es) env = (false, eval e env) :: starEach es env := by intro _; rfl) (hpl : ∀ env : PySem.Env, (backTo pos (starEach es env)).any (·.1) = false := by intro _; rfl) : XX S ρ (.Call (.Name x p2) (e :: es) [] pos) (exX ρ1 (rese y)) := by
  obtain ⟨f, fd, F, hm, kp, b⟩ := hG.h
  obtain ⟨t, a1, a2⟩ := ha
  exact ⟨_, fun q ok => pe_callS (X := S.cx q) F ((ok.calm Calm.h).mono hk) (show S.scope.names.lookup x = some .globalImplicit from hg) hm kp b (fun σ => L2N.passAt ok.tk σ) (a1 q ok) hdb (he _) (hpl _), ex_callM y a2 hp⟩
theorem xs_ifMT {A B : List Stmt} (hc : XTM S ρ c true ρ1) (hA : XB S pin ρ1 A r) : XS S pin ρ (.If c A B pos) r := by
  obtain ⟨t, h1, h2⟩ := hc
  obtain ⟨u, h3, h4⟩ := hA
  refine ⟨tIfS t u tNever, fun q ok => ps_if (h1 q ok) (h3 q ok) pss_never, fun σ F H A D w n q => h2 σ F H A _ w n fun F1 H1 A1 w1 s1 n1 => ?_⟩
  show u D σ H1
  exact h4 σ F1 H1 A1 D w1 n1 (EPost.trans q s1 Pin.refl)
theorem xs_ifMF {A B : List Stmt} (hc : XTM S ρ c false ρ1) (hB : XB S pin ρ1 B r) : XS S pin ρ (.If c A B pos) r := by
  obtain ⟨t, h1, h2⟩ := hc
  obtain ⟨u, h3, h4⟩ := hB
  refine ⟨tIfS t tNever u, fun q ok => ps_if (h1 q ok) pss_never (h3 q ok), fun σ F H A D w n q => h2 σ F H A _ w n fun F1 H1 A1 w1 s1 n1 => ?_⟩
  show u D σ H1
  exact h4 σ F1 H1 A1 D w1 n1 (EPost.trans q s1 Pin.refl)
theorem xb_forI [Calm S] {tg it : Expr} {body : List Stmt} {α σ : Type} (xs : List α) (g : α → D) (R : σ → Env) (f : σ → α → σ) (I : Nat → σ → Prop) {tgt : TG} (ρb : σ → α → Env) (s0 : σ)
    (hi : XI S (R s0) tg it (xs.map g)) (hg : ∀ q, S.Ok q → PG (S.cx q) tg tgt) (hG : ∀ s x, EG S pin tgt (R s) (g x) (ρb s x)) (h0 : I 0 s0)
    (hb : ∀ i s x, xs[i]? = some x → I i s → XB S pin (ρb s x) body (.nx (R (f s x))) ∧ I (i + 1) (f s x))
    (hk : ∀ w, I xs.length w → XB S pin (R w) ss r) (hq : ρ = R s0 := by rfl)
    (hs : ∀ (env : PySem.Env) (x : Value), foldedSetIterable it env x = pure x := by intro _ _; rfl) : XB S pin ρ (.For tg it body [] pos :: ss) r := by
  subst hq
  refine xb_cons (xs_forN xs g R f I ρb s0 hi hg hG h0 hb hs) (hk _ ?_)
  have := inv_foldl f I xs 0 s0 h0 (fun i s x hx h => by rw [Nat.zero_add] at h ⊢; exact (hb i s x hx h).2)
  rw [Nat.zero_add] at this
  exact this
/-! list(e), owned -/
theorem xn_lstO {T : Type} [DecidableEq T] [Datum T] [Enc T] {xs : List T} (hm : S.mg "list" = none) (h : TP S ρ a xs) (hg : S.scope.names.lookup ("list" : Str) = some .globalImplicit := by rfl) (he : ∀ env : PySem.Env, starEach [a] env = (false, eval a env) :: starEach [] env := by intro _; rfl)
    (hpl : ∀ env : PySem.Env, (backTo pos (starEach [] env)).any (·.1) = false := by intro _; rfl) : XX S ρ (.Call (.Name "list" p2) [a] [] pos) (.ok (oL xs) ρ) := by
  obtain ⟨t, a1, a2⟩ := xa_cons h xa_nil he
  refine ⟨_, fun q o => pe_callTy (X := S.cx q) (r := rListQ S.K) call_list_of (show S.scope.names.lookup ("list" : Str) = some .globalImplicit from hg) hm (by decide +kernel) (a1 q o) (by decide) (by decide) (he _) (hpl _), fun σ F H A Q w n q => a2 σ F H A _ w n fun vs F1 H1 g rr => ?_⟩
  obtain ⟨v, rfl, r⟩ := reps1 rr
  cases r with
  | lst h r =>
    refine ⟨_, _, rfl, .inl (.of (g.ext _ _ h)), fun l hl => ?_⟩
    obtain ⟨w3, s3, n3⟩ := grow_own (o := .lst _) w n g hl
    exact q _ _ _ [l] A w3 s3 (.lst upd_same (Owns.fros r)) n3
theorem tp_lstP {T : Type} [DecidableEq T] [Datum T] [Enc T] {p : T × T} (hm : S.mg "list" = none) (h : TP S ρ a p) (hg : S.scope.names.lookup ("list" : Str) = some .globalImplicit := by rfl) (he : ∀ env : PySem.Env, starEach [a] env = (false, eval a env) :: starEach [] env := by intro _; rfl) : TP S ρ (.Call (.Name "list" p2) [a] [] pos) [p.1, p.2] :=
  xp_ct (p := p2) (pos := pos) (ct_list_tup (S := S) (ds := [enc p.1, enc p.2])) hm (xa_cons h xa_nil he) hg (by decide +kernel) (by decide) (by decide) he (by intro _; rfl)
theorem xm_len {T : Type} [DecidableEq T] [Datum T] [Enc T] {xs : List T} (hm : S.mg "len" = none) (h : XM S ρ a (enc xs) ρ1) (hg : S.scope.names.lookup ("len" : Str) = some .globalImplicit := by rfl) (he : ∀ env : PySem.Env, starEach [a] env = (false, eval a env) :: starEach [] env := by intro _; rfl) : XM S ρ (.Call (.Name "len" p2) [a] [] pos) (enc ((xs.length : Nat) : Int)) ρ1 := by
  have := xm_cb (p := p2) (pos := pos) (cb_len_lst (S := S) (ds := xs.map enc)) hm (xam_cons h xam_nil he) hg (by decide +kernel) (by decide) (by decide) he (by intro _; rfl)
  rw [List.length_map] at this
  exact this
theorem xtm_isnnF {j} {pos2 : Pos} (ha : XM S ρ a .non ρ1) : XTM S ρ (.Compare a [.IsNot] [.Constant .none j p2] pos2) false ρ1 := (xtm_cmp (oc_isnN true (by intro v F h; cases h; rfl)) ha (XP.x xp_non)).cast rfl
end
section
variable {S : Sig} {ρ ρ1 ρ2 : Env} {a b : Expr} {pos p2 : Pos}
theorem xm_ix3c {T T' T'' : Type} [DecidableEq T] [Datum T] [Enc T] [DecidableEq T'] [Datum T'] [Enc T'] [DecidableEq T''] [Datum T''] [Enc T''] {p : T3 T T' T''} (ha : XM S ρ a (enc p) ρ1) {j} {pos'} : XM S ρ (.Subscript a (.Constant (.int 2) j pos') pos) (enc p.c) ρ1 := xm_ix (oi_tup (i := 2) rfl) ha (XP.x xp_int)
end
section
variable {S : Sig} {ρ ρ1 ρ2 : Env} {a b : Expr} {pos : Pos} {T : Type} [DecidableEq T] [Datum T] [Enc T] {u : T} {xs : Tup T} {ys : List T}
theorem xtm_inTT (ha : XM S ρ a (enc u) ρ1) (hb : XM S ρ1 b (enc xs) ρ2) (h : u ∈ xs.items) (hd : Datum.depth T ≤ 63 := by decide) (hm : behindInMarks .In b = false := by rfl) : XTM S ρ (.Compare a [.In] [b] pos) true ρ2 := (xtm_cmp (oc_inT hd) ha hb hm).cast (decide_eq_true h)
theorem xtm_inTF (ha : XM S ρ a (enc u) ρ1) (hb : XM S ρ1 b (enc xs) ρ2) (h : u ∉ xs.items) (hd : Datum.depth T ≤ 63 := by decide) (hm : behindInMarks .In b = false := by rfl) : XTM S ρ (.Compare a [.In] [b] pos) false ρ2 := (xtm_cmp (oc_inT hd) ha hb hm).cast (decide_eq_false h)
end
end G

namespace G
open PySem PySem.Spec PyProof.Rows L2
open PySem.W (Datum DatumOrd Tup T3 EachIs)
open Enc (enc)
/-! ### enumerate over a text -/
def ItX (x : Str) : It where
  go := fun i _ => i < x.cps.size
  yld := fun i H v H' => ∃ T c, v = V.ref T ∧ H T = none ∧ H' = upd H T (.tup [.int (i : Nat), .str ⟨#[c]⟩]) ∧ x.cps[i]? = some c
  stop := fun i _ => i = x.cps.size
theorem turn_enumS {P : Program} {w : World} {K : PySem.W.Frag} {elts : List Expr} {kk : Nat} {tpos : Pos} (x : Str) (t : Tok) (ty : String) (hty : ty = "str_ascii_iterator" ∨ ty = "str_iterator") (e it : Addr) :
    Turn P w K (.Tuple elts kk tpos) (ItX x) [e, it] e (fun i h => (∃ old, IsEnum h e it (i : Nat) old) ∧ h.IsStrIter it ty x t i ∧ e ≠ it) where
  mem := by simp
  obj := fun i h st b hb => by
    obtain ⟨⟨old, he⟩, ⟨o, ho, hc, hd⟩, ne⟩ := st
    have hb' : b = e ∨ b = it := by simpa using hb
    rcases hb' with z | z
    · rw [z]; exact ⟨_, he, fun v q => nomatch q⟩
    · rw [z]; exact ⟨o, ho, fun v q => by rw [hd] at q; cases q⟩
  keep := fun i h h' st k => by
    obtain ⟨⟨old, he⟩, ⟨o, ho, hc, hd⟩, ne⟩ := st
    exact ⟨⟨old, k e (by simp) _ he⟩, ⟨o, k it (by simp) _ ho, hc, hd⟩, ne⟩
  item := fun X hP hw hK hc i pins s σ H E I hf st hg => by
    subst hP hw hK
    obtain ⟨⟨old, he⟩, hit, ne⟩ := st
    have hel := Heap.lt_size he
    have hil : it < s.heap.objs.size := by obtain ⟨o, ho, _⟩ := hit; exact Heap.lt_size ho
    have D : Draws X.prog X.w X.A.in1 it [it] x.cps.size (fun i v => ∃ c u, x.cps[i]? = some c ∧ v = Value.str ⟨#[c]⟩ u) (fun i h => h.IsStrIter it ty x t i) := by
      rcases hty with z | z
      · rw [z]; exact Draws.strAscii (A := X.A.in1) (show X.A.in1.handled = none from I.ok.hd hc) it x t
      · rw [z]; exact Draws.strWide (A := X.A.in1) (show X.A.in1.handled = none from I.ok.hd hc) it x t
    refine wpAny_pyNext_enum_itemD D he hit hg ne (by simpa using ne) fun v h' tk ⟨c, u, hcx, hv⟩ ho hit' hT hsz hk => ⟨Value.ref s.heap.objs.size, rfl, wpAny_letOwnedTupleGo_enum ho fun h'' he' sb => ?_⟩
    subst hv
    have hT2 := (sb.2 _ (Nat.ne_of_gt hel)).trans hT
    have new : ObjOk X.prog X.w (upd H s.heap.objs.size (.tup [.int (i : Nat), .str ⟨#[c]⟩])) h'' s.heap.objs.size (.tup [.int (i : Nat), .str ⟨#[c]⟩]) := ⟨by show 2 ≤ sizeLine; decide, [Value.int (i : Nat) tk, Value.str ⟨#[c]⟩ u], .cons ⟨tk, rfl⟩ (.cons ⟨u, rfl⟩ .nil), _, hT2, rfl, 0, rfl⟩
    have I1 := Inv.turnedNew (ch := [e, it]) (t' := tk + 1) I (fun b ob hb q => by
      have n1 : b ≠ e := fun z => hb (by rw [z]; simp)
      have n2 : b ≠ it := fun z => hb (by rw [z]; simp)
      exact (sb.2 b n1).trans (hk b ob n1 n2 q)) hf (Nat.le_refl _) new
    have e1 : ((i : Nat) : Int) + 1 = ((i + 1 : Nat) : Int) := by omega
    refine ⟨.ref s.heap.objs.size, _, I1, rfl, ⟨_, c, rfl, I.hok.fresh (Nat.le_refl _), rfl, hcx⟩, ⟨⟨_, by rw [← e1]; exact he'⟩, ?_, ne⟩, fun b hb => ?_⟩
    · obtain ⟨o, ho2, h3, h4⟩ := hit'
      exact ⟨o, (sb.2 it (Ne.symm ne)).trans ho2, h3, h4⟩
    · have hb' : b = e ∨ b = it := by simpa using hb
      have lt : b < s.heap.objs.size := by rcases hb' with z | z <;> rw [z] <;> assumption
      rw [upd_ne (Nat.ne_of_lt lt)]
      exact (hf b hb).1
  done := fun X hP hw hK hc i pins s σ H E I hf st hg => by
    subst hP hw hK
    obtain ⟨⟨old, he⟩, hit, ne⟩ := st
    have hg' : i = x.cps.size := hg
    rw [hg'] at hit
    have D : Draws X.prog X.w X.A.in1 it [it] x.cps.size (fun i v => ∃ c u, x.cps[i]? = some c ∧ v = Value.str ⟨#[c]⟩ u) (fun i h => h.IsStrIter it ty x t i) := by
      rcases hty with z | z
      · rw [z]; exact Draws.strAscii (A := X.A.in1) (show X.A.in1.handled = none from I.ok.hd hc) it x t
      · rw [z]; exact Draws.strWide (A := X.A.in1) (show X.A.in1.handled = none from I.ok.hd hc) it x t
    obtain ⟨f0, f1, f2, f3, f4, f5⟩ := hf it (by simp)
    exact wpAny_pyNext_enum_endD D he hit fun h' eb => ⟨rfl, Inv.turned I (fun b o hb q => eb b o hb q) f0 f1 f3 f4 f5⟩
  self := fun A i s Q E st h => by
    obtain ⟨⟨old, he⟩, _⟩ := st
    exact wpAny_pyIter_enum he h
def iEnumS (ta : TA) : TI := fun σ H R => ta σ H fun vs H1 => ∃ z, vs = [.str z] ∧ R (ItX z) H1
theorem pi_enumS {X : Cx} {e : Expr} {ta : TA} {p pos tpos : Pos} {elts : List Expr} {kk : Nat} (hg : Gl X ("enumerate" : Str)) (hm : X.mg ("enumerate" : Str) = none) (ha : PA X [e] ta) (hs : starEach [e] X.env = [(false, eval e X.env)]) :
    PI X (.Tuple elts kk tpos) (.Call (.Name "enumerate" p) [e] [] pos) (iEnumS ta) := by
  refine ⟨fun pins s σ H R I h => PyProof.Rows.Call_ (ld_blt I hg hm PyProof.Rows.boot_enumerate (PyProof.Rows.callWith_type1 (thn (ha.run pos pins s σ H _ I h) fun us s1 ⟨vs, H1, I1, r1, z, ex, q⟩ => ?_) hs rfl) (by decide) (by decide)) rfl⟩
  subst ex
  cases r1 with
  | cons r rr =>
    cases rr
    obtain ⟨t, rfl⟩ := r
    refine call_enumerate_str fun h' he hit hsz hk => wpAny_pyIter_enum he ⟨s1.heap.objs.size + 1, [s1.heap.objs.size + 1, s1.heap.objs.size], _, ItX z, H1, rfl, Inv.kept I1 hk, turn_enumS z t (strIterType z) ?_ (s1.heap.objs.size + 1) s1.heap.objs.size, ⟨⟨_, he⟩, hit, Nat.succ_ne_self _⟩, fun b hb => ?_, q⟩
    · unfold strIterType
      split
      · exact .inl rfl
      · exact .inr rfl
    · have hb' : b = s1.heap.objs.size + 1 ∨ b = s1.heap.objs.size := by simpa using hb
      have le : s1.heap.objs.size ≤ b := by
        rcases hb' with z | z
        · rw [z]; exact Nat.le_succ _
        · rw [z]; exact Nat.le_refl _
      exact I1.fpOk le (I1.hok.fresh le)
theorem walk_enumS {z : Str} : Walk (ItX z) z.cps.size (fun _ => True) (YPair (fun i => some (V.int (i : Nat))) fun i => (z.cps[i]?).map fun c => V.str ⟨#[c]⟩) :=
  ⟨fun i _ hi _ => hi, fun _ _ => rfl, fun i H v H' _ _ y => by
    obtain ⟨T, c, h1, h2, h3, h4⟩ := y
    exact ⟨T, _, _, h1, h2, h3, rfl, by show (z.cps[i]?).map _ = _; rw [h4]; rfl⟩⟩
section
variable {S : Sig} {ρ ρ1 : Env} {a b c e f : Expr} {pos p2 p3 pos2 p' : Pos} {pin : List Nat}
theorem xi_enX {elts : List Expr} {kk : Nat} {tpos : Pos} {t : Tx} (hm : S.mg "enumerate" = none) (h : TP S ρ a t) (hg : S.scope.names.lookup ("enumerate" : Str) = some .globalImplicit := by rfl) (hs : ∀ env : PySem.Env, starEach [a] env = [(false, eval a env)] := by intro _; rfl) :
    XI S ρ (.Tuple elts kk tpos) (.Call (.Name "enumerate" p2) [a] [] pos) ((enumL (chs t)).map enc) := by
  obtain ⟨u, h1, h2⟩ := xa_cons h xa_nil (fun env => hs env)
  refine ⟨iEnumS u, fun q ok => pi_enumS (X := S.cx q) (show S.scope.names.lookup ("enumerate" : Str) = some .globalImplicit from hg) hm (h1 q ok) (hs _), fun σ F H A R w n k => h2 σ F H A _ w n fun vs F1 H1 g rr => ?_⟩
  obtain ⟨v, rfl, r⟩ := reps1 rr
  cases r
  have len : (enumL (chs t)).length = t.s.cps.size := by rw [enumL_len]; unfold chs Tx.s; simp
  refine ⟨_, rfl, k _ F1 H1 g (src_pair (by rw [List.length_map, len]) walk_enumS (fun H2 e => trivial) fun i u v hi hu hv => ?_)⟩
  cases hu
  cases z : t.l[i]? with
  | none =>
    have : t.s.cps[i]? = none := by unfold Tx.s; simp [z]
    rw [this] at hv; cases hv
  | some ch =>
    have : t.s.cps[i]? = some ch.toNat := by unfold Tx.s; simp [z]
    rw [this] at hv
    cases hv
    have z2 : (chs t)[i]? = some ⟨[ch]⟩ := by unfold chs; rw [List.getElem?_map, z]; rfl
    exact ⟨_, _, by rw [List.getElem?_map, enumL_get z2]; rfl, .int, .str⟩
end
/-! ### split, join -/
def spC (S : List Char) : Nat → List Char → List Char → List (List Char)
  | _, acc, [] => [acc]
  | 0, acc, c :: r => if S.isPrefixOf (c :: r) = true then acc :: spC S (S.length - 1) [] r else spC S 0 (acc ++ [c]) r
  | k + 1, acc, _ :: r => spC S k acc r
def jnC (s : List Char) : List (List Char) → List Char
  | [] => []
  | [p] => p
  | p :: q :: r => p ++ (s ++ jnC s (q :: r))
def splitX (y t : Tx) : List Tx := (spC y.l 0 [] t.l).map Tx.mk
def joinX (y : Tx) (ts : List Tx) : Tx := ⟨jnC y.l (ts.map Tx.l)⟩
theorem toNat_inj {c d : Char} (h : c.toNat = d.toNat) : c = d := Char.ext (UInt32.toNat.inj h)
theorem pre_chars : ∀ (S L : List Char), TL.pre (S.map Char.toNat) (L.map Char.toNat) = S.isPrefixOf L
  | [], L => by simp [TL.pre]
  | c :: S, [] => by simp [TL.pre, List.isPrefixOf]
  | c :: S, d :: L => by
    have ih := pre_chars S L
    unfold TL.pre at ih ⊢
    simp only [List.map_cons, List.length_cons, List.take_succ_cons, List.isPrefixOf]
    rw [← ih]
    by_cases e : c = d
    · subst e; simp
    · have : ¬ d.toNat = c.toNat := fun z => e (toNat_inj z).symm
      have e1 : (d.toNat == c.toNat) = false := by simpa using this
      have e2 : (c == d) = false := by simpa using e
      simp only [List.length_map, List.cons_beq_cons]
      rw [e1, e2]
theorem spl_chars (S : List Char) : ∀ (L : List Char) (k : Nat) (acc : List Char), TL.spl (S.map Char.toNat) k (acc.map Char.toNat) (L.map Char.toNat) = (spC S k acc L).map (List.map Char.toNat)
  | [], k, acc => by
    rw [List.map_nil, TL.spl_nil]
    cases k <;> rfl
  | c :: r, 0, acc => by
    have p := pre_chars S (c :: r)
    rw [List.map_cons] at p ⊢
    unfold spC
    by_cases e : S.isPrefixOf (c :: r) = true
    · rw [if_pos e, TL.spl_hit (by rw [p]; exact e), List.length_map, List.map_cons]
      have := spl_chars S r (S.length - 1) []
      rw [List.map_nil] at this
      rw [this]
    · rw [if_neg e, TL.spl_miss (by rw [p]; exact Bool.eq_false_iff.mpr e)]
      have := spl_chars S r 0 (acc ++ [c])
      rw [List.map_append, List.map_cons, List.map_nil] at this
      rw [this]
  | c :: r, k + 1, acc => by
    rw [List.map_cons, TL.spl_pass]
    unfold spC
    rw [List.drop_succ_cons, ← TL.spl_pass]
    exact spl_chars S r k acc
theorem tl_s (t : Tx) : TL.tl t.s = t.l.map Char.toNat := by unfold Tx.s; simp [TL.tl]
theorem split_s {y t : Tx} (hn : y.l ≠ []) (hk : (y.l.all fun c => decide (c.toNat < 256)) = true) : Txt.split t.s y.s = (splitX y t).map Tx.s := by
  refine TL.map_tl_inj ?_
  rw [TL.split_spl _ _ (by rw [tl_s]; simpa using hn) (TL.kind_ok (by unfold Tx.s; rw [List.all_toArray, List.all_map]; exact hk)), tl_s, tl_s]
  have := spl_chars y.l t.l 0 []
  rw [List.map_nil] at this
  rw [this]
  unfold splitX
  rw [List.map_map, List.map_map]
  exact List.map_congr_left fun l _ => (tl_s ⟨l⟩).symm
theorem joinL_chars (s : List Char) : ∀ ps : List (List Char), TL.joinL (s.map Char.toNat) (ps.map (List.map Char.toNat)) = (jnC s ps).map Char.toNat
  | [] => rfl
  | [p] => rfl
  | p :: q :: r => by
    have ih := joinL_chars s (q :: r)
    show p.map Char.toNat ++ (s.map Char.toNat ++ TL.joinL _ ((q :: r).map (List.map Char.toNat))) = _
    rw [ih]
    show _ = (p ++ (s ++ jnC s (q :: r))).map Char.toNat
    rw [List.map_append, List.map_append]
theorem join_s (y : Tx) (ts : List Tx) : Txt.join y.s (ts.map Tx.s) = (joinX y ts).s := by
  refine TL.ext_tl ?_
  rw [TL.join_eq, TL.tl_join, tl_s, tl_s, List.map_map]
  have : ts.map (TL.tl ∘ Tx.s) = (ts.map Tx.l).map (List.map Char.toNat) := by
    rw [List.map_map]; exact List.map_congr_left fun t _ => tl_s t
  rw [this, joinL_chars]
  rfl
theorem reps_strs {K : PySem.W.Frag} {F : Hp} : ∀ ts : List Tx, Reps K F ((ts.map Tx.s).map V.str) (ts.map enc)
  | [] => .nil
  | t :: ts => .cons .str (reps_strs ts)
theorem strs_reps {K : PySem.W.Frag} {F : Hp} : ∀ {ts : List Tx} {vs : List V}, Reps K F vs (ts.map enc) → vs = (ts.map Tx.s).map V.str
  | [], _, r => by cases r; rfl
  | t :: ts, _, r => by
    cases r with
    | cons h r =>
      cases h
      rw [strs_reps r]
      rfl
section
variable {S : Sig} {ρ ρ1 : Env} {a b c e f : Expr} {pos p2 p3 pos2 p' : Pos} {pin : List Nat}
theorem tp_split {t y : Tx} {apos : Pos} (ha : TP S ρ a t) (he : TP S ρ e y) (hl : t.l.length ≤ 1000000) (hn : y.l ≠ [] := by decide) (hk : (y.l.all fun c => decide (c.toNat < 256)) = true := by decide)
    (hbase : ∀ env : PySem.Env, attributeBase a "split" env (eval a env) = eval a env := by intro _; rfl)
    (hline : (apos.endLine == pos.line) = true := by rfl) (ht : ∀ env : PySem.Env, starEach [e] env = [(false, eval e env)] := by intro _; rfl) :
    TP S ρ (.Call (.Attribute a "split" apos) [e] [] pos) (splitX y t) := by
  obtain ⟨ta, h1, h2⟩ := ha
  obtain ⟨te, e1, e2⟩ := he
  refine ⟨_, fun q ok => pe_split (X := S.cx q) (h1 q ok) (e1 q ok) (ht _) (hbase _) hline, fun σ F H A Q w n q => h2 σ F H A _ w n fun v F1 H1 g r => ?_⟩
  cases r
  refine ⟨⟨_, rfl⟩, e2 σ F1 H1 A _ (g.wf w) (g.envs n) fun u F2 H2 g2 r2 => ?_⟩
  cases r2
  refine ⟨t.s, y.s, rfl, rfl, ?_, ?_, fun p hp => ?_⟩
  · rw [TL.len_tl, tl_s, List.length_map]
    simpa using hn
  · rw [TL.len_tl, tl_s, List.length_map]
    exact Nat.le_trans (Nat.add_le_add_right hl 2) (by decide)
  · rw [split_s hn hk]
    have g3 := (g.trans g2).trans (Grow.new (o := .lst (((splitX y t).map Tx.s).map V.str)) g2.ext hp)
    exact q (.ref p) _ _ g3 (.lst upd_same (reps_strs _))
def rJoinQ (K : PySem.W.Frag) : V → List V → Hp → VK → Prop := fun x xs H Q => ∃ a p, ∃ ys : List Str, x = .str a ∧ xs = [.ref p] ∧ (SqL K H p (ys.map V.str) ∨ SqT K H p (ys.map V.str)) ∧ (ys.map fun x => x.length).sum + ys.length * a.length ≤ 16777216 ∧ Q (.str (Txt.join a ys)) H
theorem tp_join {y : Tx} {ts : List Tx} {apos : Pos} (ha : TP S ρ a y) (he : TP S ρ e ts) (hl : (ts.map fun t => t.l.length).sum + ts.length * y.l.length ≤ 16777216)
    (hbase : ∀ env : PySem.Env, attributeBase a "join" env (eval a env) = eval a env := by intro _; rfl)
    (hline : (apos.endLine == pos.line) = true := by rfl) (ht : ∀ env : PySem.Env, starEach [e] env = [(false, eval e env)] := by intro _; rfl) :
    TP S ρ (.Call (.Attribute a "join" apos) [e] [] pos) (joinX y ts) := by
  obtain ⟨ta, h1, h2⟩ := ha
  obtain ⟨te, e1, e2⟩ := he
  refine ⟨tM1 (rJoinQ S.K) ta te, fun q ok => pe_join (X := S.cx q) (h1 q ok) (e1 q ok) (ht _) (hbase _) hline, fun σ F H A Q w n q => h2 σ F H A _ w n fun v F1 H1 g r => ?_⟩
  cases r
  refine ⟨⟨_, rfl⟩, e2 σ F1 H1 A _ (g.wf w) (g.envs n) fun u F2 H2 g2 r2 => ?_⟩
  cases r2 with
  | lst hx r2 =>
    rename_i l vs
    have ev := strs_reps r2
    subst ev
    refine ⟨y.s, l, ts.map Tx.s, rfl, rfl, .inl (.of (g2.ext _ _ hx)), ?_, ?_⟩
    · rw [List.map_map, List.length_map, TL.len_tl, tl_s, List.length_map]
      have : ts.map ((fun x => x.length) ∘ Tx.s) = ts.map fun t => t.l.length := List.map_congr_left fun t _ => by show t.s.length = _; rw [TL.len_tl, tl_s, List.length_map]
      rw [this]
      exact hl
    · rw [join_s]
      exact q _ _ _ (g.trans g2) .str
end
end G

namespace G
open PySem PySem.Spec PyProof.Rows L2
open PySem.W (Datum DatumOrd Tup T3 EachIs)
open Enc (enc)
/-! ### t * k, of a text -/
def repX (t : Tx) (k : Int) : Tx := ⟨(List.replicate k.toNat t.l).flatten⟩
theorem fold_rep (z : Array Nat) : ∀ (n : Nat) (acc : Array Nat), ((List.replicate n z).foldl (fun x1 x2 => x1 ++ x2) acc).toList = acc.toList ++ (List.replicate n z.toList).flatten
  | 0, acc => by simp
  | n + 1, acc => by
    rw [List.replicate_succ, List.foldl_cons, fold_rep z n, List.replicate_succ, List.flatten_cons]
    simp
theorem mul_s (t : Tx) (k : Int) : Txt.mul t.s k = (repX t k).s := by
  refine TL.ext_tl ?_
  rw [tl_s]
  unfold Txt.mul repX
  split
  · rename_i h
    have : k.toNat = 0 := by omega
    rw [this]; rfl
  · split
    · rename_i h h2
      rw [tl_s]
      rcases Bool.or_eq_true_iff.mp h2 with z | z
      · have : k = 1 := by simpa using z
        rw [this]
        simp
      · have : t.l = [] := by
          have : t.s.length = 0 := by simpa using z
          rw [Tx.len] at this
          exact List.length_eq_zero_iff.mp this
        rw [this]
        simp
    · rename_i h h2
      show TL.tl ⟨_⟩ = _
      unfold TL.tl
      dsimp only
      rw [fold_rep]
      have : t.s.cps.toList = t.l.map Char.toNat := tl_s t
      rw [this, List.map_flatten, List.map_replicate]
      rfl
def rMulX : R2 := fun x y H Q => ∃ i k, x = .str i ∧ y = .int k ∧ MulOk i k ∧ Q (.str (Txt.mul i k)) H
theorem op_mulX {X : Cx} : OpR X (binaryOp .Mult) rMulX := by
  intro pins s σ H x y v u Q I rx ry h
  obtain ⟨i, k, rfl, rfl, ok, q⟩ := h
  obtain ⟨t, rfl⟩ := rx
  obtain ⟨t2, rfl⟩ := ry
  exact SB.mul ok fun t' k' => ⟨.str _, H, I.tok _, ⟨_, rfl⟩, q⟩
theorem mul_ok {x : Str} {k : Int} (h1 : x.length ≤ 100) (h2 : k ≤ 1000) (h3 : -1000 ≤ k) : MulOk x k := by
  refine ⟨?_, fun a _ => ?_, fun a _ => ?_⟩
  · rw [Bool.or_eq_false_iff]
    exact ⟨decide_eq_false (by omega), decide_eq_false (by omega)⟩
  · have hk : 0 < k := by omega
    have : (100 : Int) ≤ (2 ^ 63 - 1) / k := Int.le_ediv_of_mul_le hk (by omega)
    omega
  · have : x.length * k.toNat ≤ 100 * 1000 := Nat.mul_le_mul h1 (by omega)
    unfold Builtin.Str.tooLong
    simp
    exact Nat.le_trans this (by decide)
theorem ob_mulX {t : Tx} {k : Int} (h1 : t.l.length ≤ 100) (h2 : k ≤ 1000) (h3 : -1000 ≤ k) : OB S .Mult (enc t) (.int k) (enc (repX t k)) := ⟨_, fun _ _ => op_mulX, fun x y F H Q e rx ry q => by
  cases rx; cases ry
  refine ⟨_, _, rfl, rfl, mul_ok (by rw [Tx.len]; exact h1) h2 h3, ?_⟩
  rw [mul_s]
  exact q _ F H (Grow.refl e) .str⟩
/-! ### a sign in a text -/
def inX (u t : Tx) : Bool := !(Builtin.Str.occurrences t.s u.s 0 t.s.length 1).isEmpty
theorem inX_one (c : Char) (t : Tx) : inX ⟨[c]⟩ t = decide (c ∈ t.l) := by
  unfold inX
  have := PySem.StrLaws.found_one t.s c.toNat
  rw [show (⟨[c]⟩ : Tx).s = ⟨#[c.toNat]⟩ from rfl, this]
  refine decide_eq_decide.mpr ?_
  rw [show t.s.cps.toList = t.l.map Char.toNat from tl_s t, List.mem_map]
  constructor
  · rintro ⟨d, hd, e⟩
    rw [← toNat_inj e]; exact hd
  · intro h
    exact ⟨c, h, rfl⟩
theorem oc_inX {S : Sig} {u t : Tx} : OC S .In (enc u) (enc t) (inX u t) := ⟨_, fun _ _ => op_in_str, fun x y F H Q e rx ry q => by
  cases rx; cases ry
  exact ⟨_, _, rfl, rfl, q _ F H (Grow.refl e) .bl⟩⟩
theorem oc_niX {S : Sig} {u t : Tx} : OC S .NotIn (enc u) (enc t) (!inX u t) := ⟨_, fun _ _ => op_notin_str, fun x y F H Q e rx ry q => by
  cases rx; cases ry
  exact ⟨_, _, rfl, rfl, q _ F H (Grow.refl e) .bl⟩⟩
section
variable {S : Sig} {ρ ρ1 : Env} {a b c e f : Expr} {pos p2 p3 pos2 p' : Pos} {pin : List Nat}
theorem tp_mulX {t : Tx} {k : Int} (ha : TP S ρ a t) (hb : TP S ρ b k) (h1 : t.l.length ≤ 100) (h2 : k ≤ 1000) (h3 : -1000 ≤ k) : TP S ρ (.BinOp a .Mult b pos) (repX t k) := xp_bin (ob_mulX h1 h2 h3) ha.v hb.v
theorem te_inX {u t : Tx} (ha : TV S ρ a u) (hb : TV S ρ b t) (hm : behindInMarks .In b = false := by first | exact nomark _ | rfl) : XT S ρ (.Compare a [.In] [b] pos) (inX u t) := xt_cmp oc_inX ha hb hm
theorem te_niX {u t : Tx} (ha : TV S ρ a u) (hb : TV S ρ b t) (hm : behindInMarks .NotIn b = false := by first | exact nomark _ | rfl) : XT S ρ (.Compare a [.NotIn] [b] pos) (!inX u t) := xt_cmp oc_niX ha hb hm
theorem cut_s (t : Tx) (lo hi : Option Int) : cutS t.s lo hi = (⟨cutL t.l lo hi⟩ : Tx).s := by
  refine TL.ext_tl ?_
  rw [tl_s]
  unfold cutS
  rw [TL.tl_mk, Tx.len, show t.s.cps.toList = t.l.map Char.toNat from tl_s t, ← List.map_drop, ← List.map_take]
  rfl
theorem tp_slX {t : Tx} {el eh : Option Expr} {lo hi : Option Int} (ha : TP S ρ a t) (hl : XO S ρ el lo) (hh : XO S ρ eh hi) (hn : t.l.length ≤ 1000000) : TP S ρ (.Subscript a (.Slice el eh none p2) pos) (⟨cutL t.l lo hi⟩ : Tx) :=
  xp_sl (r := rSlS) (fun _ _ => sl_str) (fun x F H Q e rx q => by
    cases rx
    refine ⟨_, rfl, by rw [Tx.len]; exact line_le hn, ?_⟩
    rw [cut_s]
    exact q _ F H (Grow.refl e) .str) ha hl hh
/-- a + b, a new list that is owned -/
theorem xx_catO {T : Type} [DecidableEq T] [Datum T] [Enc T] {xs ys : List T} (ha : TP S ρ a xs) (hb : TP S ρ b ys) (hl : xs.length + ys.length ≤ 1000000) : XX S ρ (.BinOp a .Add b pos) (.ok (oL (xs ++ ys)) ρ) := by
  obtain ⟨ta, a1, a2⟩ := ha
  obtain ⟨tb, b1, b2⟩ := hb
  refine ⟨tOp rCat ta tb, fun q k => pe_op op_cat (a1 q k) (b1 q k), fun σ F H A Q w n q => a2 σ F H A _ w n fun x F1 H1 g1 r1 => b2 σ F1 H1 A _ (g1.wf w) (g1.envs n) fun y F2 H2 g2 r2 => ?_⟩
  cases r1 with
  | lst h1 r1 =>
    cases r2 with
    | lst h2 r2 =>
      refine ⟨_, _, _, _, rfl, rfl, g2.hh _ _ (g1.ext _ _ h1), g2.ext _ _ h2, ?_, fun p hp => ?_⟩
      · have l1 := r1.length
        have l2 := r2.length
        rw [List.length_map] at l1 l2
        exact line_le (by omega)
      · obtain ⟨w3, s3, n3⟩ := grow_own (o := .lst _) w n (g1.trans g2) hp
        refine q _ _ _ [p] A w3 s3 (.lst upd_same ?_) n3
        have r3 := (r1.mono g2.stp.fs).append r2
        rw [← List.map_append] at r3
        exact Owns.fros r3
theorem xs_sOX {T : Type} [DecidableEq T] [Datum T] [Enc T] {v : List T} {ρ2 : Env} (i : Nat) {x : Str} (h : XX S ρ e (.ok (oL v) ρ)) (hq : ρ.set i (ov v) = ρ2 := by rfl) (hi : Nat.blt i ρ.length = true := by rfl) (hp : i ∉ pin := by decide) (hN : S.N[i]? = some x := by rfl) (hx : Loc S.scope x := by first | exact .inl rfl | exact .inr rfl) (hst : S.st x = true ∨ S.scope.names.lookup x = some .local := by first | exact .inl rfl | exact .inr rfl)
    (hs : ∀ env : PySem.Env, swapsWith e (some (.Name x p')) pos.line { env with scope := S.scope } = pure false := by intro _; rfl) : XS S pin ρ (.Assign [.Name x p'] e pos) (.nx ρ2) := by
  subst hq
  exact xs_set i h hi hp hN hx hst hs
end
end G

namespace G
open PySem PySem.Spec PyProof.Rows L2
open PySem.W (Datum DatumOrd Tup T3 EachIs)
open Enc (enc)
/-! ### one kind or another -/
section
variable {α β : Type} [DecidableEq α] [Datum α] [Enc α] [DecidableEq β] [Datum β] [Enc β] [Apart α β] {S : Sig} {ρ : Env} {e : Expr}
theorem tp_inl {x : α} (h : TP S ρ e x) : TP S ρ e (Sum.inl x : α ⊕ β) := h
theorem tp_inr {x : β} (h : TP S ρ e x) : TP S ρ e (Sum.inr x : α ⊕ β) := h
end
instance {α β γ δ ε : Type} [DecidableEq α] [Datum α] [DecidableEq β] [Datum β] [DecidableEq γ] [Datum γ] [DecidableEq δ] [Datum δ] [DecidableEq ε] [Datum ε] : Apart (α × β) (T3 γ δ ε) where
  ne x y := by
    show PyData.eqv (.tuple [_, _]) (.tuple [_, _, _]) = false
    simp [PyData.eqv, PyData.eqvAll]
  ne' x y := by
    show PyData.eqv (.tuple [_, _, _]) (.tuple [_, _]) = false
    simp [PyData.eqv, PyData.eqvAll]
instance {α β γ : Type} [DecidableEq α] [Datum α] [DecidableEq β] [Datum β] [DecidableEq γ] [Datum γ] : Apart (α × β) (List γ) where
  ne x y := by
    show PyData.eqv (.tuple [_, _]) (.list _) = false
    simp [PyData.eqv]
  ne' x y := by
    show PyData.eqv (.list _) (.tuple [_, _]) = false
    simp [PyData.eqv]
end G

namespace G
open PySem PySem.Spec PyProof.Rows L2
open PySem.W (Datum DatumOrd Tup T3 EachIs)
open Enc (enc)
/-! [x] * n, for laws that do without S15 -/
section
variable {T : Type} [DecidableEq T] [Datum T] [Enc T] {S : Sig} {ρ : Env} {a b : Expr} {pos : Pos}
theorem tp_repL {xs : List T} {k : Int} (ha : TP S ρ a xs) (hb : TP S ρ b k) (hk : -(2 ^ 63) ≤ k ∧ k < 2 ^ 63) (hl : xs.length * k.toNat ≤ 1000000) : TP S ρ (.BinOp a .Mult b pos) (List.replicate k.toNat xs).flatten :=
  (xp_binF (ob_rep hk (by simpa using hl)) ha hb).cast (by show _ = Except.ok (D.lst ((List.replicate k.toNat xs).flatten.map enc)); rw [List.map_flatten, List.map_replicate])
end
end G

namespace G
open PySem PySem.Spec PyProof.Rows L2
open PySem.W (Datum DatumOrd Tup T3 EachIs)
open Enc (enc)
/-! ### a comprehension whose elements are new and owned -/
section
variable {S : Sig} {ρ ρ1 : Env} {a b c e f it tg elt : Expr} {d : D} {ds : List D} {pos p2 p3 pos2 p' : Pos} {pin : List Nat} {es : List Expr}
theorem xn_lst (h : XA S ρ es ds) (hl : ds.length ≤ 1000000 := by simp) : XN S ρ (.List es pos) (.lst (ds.map O.fro)) := by
  obtain ⟨t, h1, h2⟩ := h
  refine ⟨_, fun q o => pe_lst (h1 q o), fun σ F H A Q w n q => h2 σ F H A _ w n fun vs F1 H1 g r => ⟨?_, fun p hp => ?_⟩⟩
  · rw [r.length]; exact Nat.le_trans hl (by decide)
  · obtain ⟨s1, w1⟩ := Grow.own1 (o := .lst vs) g.ext hp
    exact q _ F1 _ [p] (g.stp.trans s1) w1 (.lst upd_same (Owns.fros r))
theorem en_lcO {α : Type} (xs : List α) (g : α → D) (h : α → O) (own : List Nat) {wi : TI} {tgt : TG} {tt : TT} {te : TE} {S' : Sig} (hK : S'.K = S.K) (ρb : α → Env)
    (hi : ∀ (σ : L2.St) (F H : Hp) (A : List Addr) (R : It → Hp → Prop), WF F H A → Envs S.K F H σ ρ A → (∀ J F' H', Grow F H F' H' → Src S.K J F' (xs.map g) → R J H') → wi σ H R)
    (ho : TgOwn tgt own) (hG : ∀ x ∈ xs, EG S' [] tgt (wipeE ρ own) (g x) (ρb x)) (ht : ∀ x ∈ xs, ET S' tt (ρb x) true) (he : ∀ x ∈ xs, EN S' te (ρb x) (h x)) (hl : xs.length ≤ 1000000) :
    EN S (tLc wi tgt tt te own) ρ (.lst (xs.map h)) := fun σ F H A Q w n q => hi σ F H A _ w n fun J F1 H1 gr src => by
  intro D hD
  obtain ⟨G, Y, wk, hG1, hY⟩ := src.h
  rw [List.length_map] at wk hY
  have w1 := gr.wf w
  obtain ⟨A1, n1, w2, m2⟩ := Envs.wipe w1 (gr.envs n) own
  refine lc_own wk ho (fun i H' => ∃ F' acc B, WF F' H' (D :: B) ∧ Stp F1 H1 [] F' H' (D :: B) ∧ H' D = some (.lst acc) ∧ Owns S.K F' H' acc ((xs.take i).map h) B) ?_ ?_ ?_ ?_
  · obtain ⟨s1, w3⟩ := Grow.own1 (o := .lst []) gr.ext hD
    exact ⟨F1, [], [], w3, s1, upd_same, .nil⟩
  · rintro i H' hi ⟨F', acc, B, w', s', hd, r'⟩
    exact hG1 H' (s'.fs.trans w'.sub)
  · rintro i v H' H'' hi ⟨F', acc, B, w', s', hd, r'⟩ y
    obtain ⟨F2, d, hd2, g2, rep⟩ := hY i H' v H'' F' hi s'.fs w'.sub y
    have hx : xs[i]? = some xs[i] := List.getElem?_eq_getElem hi
    have hm : xs[i] ∈ xs := List.getElem_mem hi
    rw [List.getElem?_map, hx] at hd2
    cases hd2
    have big : ∀ (F3 H3 : Hp), Grow F' H' F3 H3 → WF F3 H3 A1 ∧ Envs S.K F3 H3 (L2.wipe σ own) (wipeE ρ own) A1 ∧ H3 D = some (.lst acc) ∧ WF F3 H3 (D :: B) := fun F3 H3 g3 => by
      obtain ⟨w5, s5, n5⟩ := beside w2 n1 s' w'
      have w6 := g3.wf w5
      exact ⟨w6.right, g3.envs n5, g3.hh _ _ hd, w6.left⟩
    obtain ⟨w7, n7, _, _⟩ := big F2 H'' g2
    refine hG xs[i] hm (L2.wipe σ own) F2 H'' A1 v _ w7 (by rw [hK]; exact n7) (by rw [hK]; exact rep) fun σ3 A3 w8 m8 n8 p8 => ?_
    refine ht xs[i] hm σ3 F2 H'' A3 _ w8 n8 fun F4 H4 g4 => ?_
    have e1 : xs.take (i + 1) = xs.take i ++ [xs[i]] := by rw [List.take_add_one, hx]; rfl
    rw [if_pos rfl]
    refine he xs[i] hm σ3 F4 H4 A3 _ (g4.wf w8) (g4.envs n8) fun y F5 H5 B5 s5 w5 ow5 => ?_
    have g6 := g2.trans g4
    obtain ⟨_, _, d4, w9⟩ := big F4 H4 g6
    obtain ⟨w10, s10, k10⟩ := frame (B := []) (C := D :: B) w9 s5 w5
    have d5 : H5 D = some (.lst acc) := k10 D _ d4 (by simp)
    have pm : (B5 ++ (D :: B)).Perm (D :: (B ++ B5)) := by
      refine List.perm_append_comm.trans ?_
      exact List.Perm.refl _
    have w11 := w10.perm pm
    have nd := w11.nd
    have nDB : D ∉ B ++ B5 := (List.nodup_cons.mp nd).1
    have nD1 : D ∉ B := fun z => nDB (List.mem_append_left _ z)
    have nD2 : D ∉ B5 := fun z => nDB (List.mem_append_right _ z)
    have rl := r'.length
    rw [List.length_map, List.length_take] at rl
    refine ⟨acc, d5, line_lt (by omega), F5, acc ++ [y], B ++ B5, ⟨fun a u hu => ?_, nd, w11.off, fun a ha => ?_⟩, ?_, upd_same, ?_⟩
    · rw [upd_ne fun z => by rw [z, w11.off D (by simp)] at hu; cases hu]
      exact w11.sub a u hu
    · by_cases z : a = D
      · rw [z, upd_same]; exact fun z => z
      · rw [upd_ne z]; exact w11.on a ha
    · have s6 : Stp F1 H1 [] F5 H5 (D :: (B ++ B5)) := ((s'.trans ((g6.stp.mono (by simp) (A' := D :: B)).more (C := D :: B) fun a h => .inl h)).trans s10).perm (fun a => Iff.rfl) fun a h => pm.mem_iff.mpr h
      refine ⟨s6.fs, fun a u hu _ => ?_, s6.new, s6.foot, fun a ha => ?_⟩
      · rw [upd_ne (ne_of_none hu hD)]
        exact s6.keep a u hu (by simp)
      · by_cases z : a = D
        · rw [z]; exact hD
        · rw [upd_ne z] at ha; exact s6.alive a ha
    · rw [e1, List.map_append]
      have ow6 : Own S.K F5 H5 y (h xs[i]) B5 := by rw [← hK]; exact ow5
      have r5 : Owns S.K F5 H5 acc ((xs.take i).map h) B := (g6.owns r').mono s5.fs (S := B) (fun a u hu hb => k10 a u hu (by simp [hb])) fun _ h => h
      refine Owns.append (r5.mono (Ext.refl _) (S := B) (fun a u hu hb => by rw [upd_ne fun z => nD1 (by rw [← z]; exact hb)]; exact hu) fun _ h => h) ?_
      have o7 := ow6.mono (Ext.refl _) (S := B5) (H' := upd H5 D (.lst (acc ++ [y]))) (fun a u hu hb => by rw [upd_ne fun z => nD2 (by rw [← z]; exact hb)]; exact hu) fun _ h => h
      have := Owns.cons o7 (Owns.nil (K := S.K) (F := F5) (H := upd H5 D (.lst (acc ++ [y]))))
      rw [List.append_nil] at this
      exact this
  · rintro H' ⟨F', acc, B, w', s', hd, r'⟩
    rw [List.take_length] at r'
    exact q (.ref D) F' H' (D :: B) (gr.stp.trans s') w' (.lst hd r')
def tAnyN (S : Sig) (e : Expr) (o : O) (ρ : Env) : TE := fun σ H Q => ∃ t, (∀ q, S.Ok q → PE (S.cx q) e t) ∧ t σ H Q
section
variable {α : Type} (xs : List α) (g : α → D) (h : α → O) (own : List (Str × Nat)) {scope : Scope} {tgt : TG} (ρb : α → Env)
/-- y = [e for ..], e new and owned -/
theorem ps_lcOO [Calm S] (i : Nat) {y : Str} {py spos : Pos} (hi : XI S ρ tg it (xs.map g)) (hg : ∀ q, (S.blk scope).Ok q → PG ((S.blk scope).cx q) tg tgt) (ho : TgOwn tgt (own.map (·.2)))
    (hG : ∀ x ∈ xs, EG (S.blk scope) [] tgt (wipeE ρ (own.map (·.2))) (g x) (ρb x)) (he : ∀ x ∈ xs, XN (S.blk scope) (ρb x) elt (h x)) (hl : xs.length ≤ 1000000)
    (hn : Nat.blt i ρ.length = true := by rfl) (hp : i ∉ pin := by decide) (hN : S.N[i]? = some y := by rfl) (hy : S.scope.names.lookup y = some .local := by rfl) (hsw : ∀ env : PySem.Env, swapsWith (.ListComp elt [⟨tg, it, [], 0⟩] scope pos) (some (.Name y py)) spos.line { env with scope := S.scope } = pure true := by intro _; exact sw_true rfl rfl rfl (by decide +kernel)) (bo : blkC S.N S.scope scope own = true := by (try dsimp only [sigOf, Sig.blk]); decide +kernel)
    (hs : ∀ (env : PySem.Env) (x : Value), foldedSetIterable it env x = pure x := by intro _ _; rfl) : XS S pin ρ (.Assign [.Name y py] (.ListComp elt [⟨tg, it, [], 0⟩] scope pos) spos) (.nx (ρ.set i (some (.lst (xs.map h))))) := by
  obtain ⟨wi, i1, i2⟩ := hi
  have en : EN S (tLc wi tgt (tAnyTs (S.blk scope) []) (tAnyE (S.blk scope) elt) (own.map (·.2))) ρ (.lst (xs.map h)) := en_lcO (S := S) xs g h (own.map Prod.snd) (S' := S.blk scope) rfl ρb i2 ho hG (fun x hx => by
      obtain ⟨t, h1, h2⟩ := xts_nil (S := S.blk scope) (ρ := ρb x)
      exact fun σ F H A Q w n q => ⟨t, h1, h2 σ F H A Q w n q⟩) (fun x hx => by
      obtain ⟨t, h1, h2⟩ := he x hx
      exact fun σ F H A Q w n q => ⟨t, h1, h2 σ F H A Q w n q⟩) hl
  refine ⟨_, fun q ok => ps_setLc (X := S.cx q) (i := i) Calm.h ok.nd hN hy (hsw _) (i1 q ok) (blkOk_by bo) (fun s H C cl fp => ?_) (fun s H C cl fp => ?_) (fun s H C cl fp => ?_) (hs _), es_set en.x (Nat.le_of_ble_eq_true hn) hp⟩
  · obtain ⟨q', ok', e⟩ := blk_cx S q ok scope s H C cl fp
    rw [← e]; exact hg q' ok'
  · obtain ⟨q', ok', e⟩ := blk_cx S q ok scope s H C cl fp
    rw [← e]; exact pts_any ok' []
  · obtain ⟨q', ok', e⟩ := blk_cx S q ok scope s H C cl fp
    rw [← e]; exact pe_any ok' elt
end
/-! ### the place of an item of an owned list -/
def XLG (S : Sig) (ρ : Env) (e : Expr) (o : O) (up : O → Env) : Prop := ∃ t : TE, (∀ q, S.Ok q → PE (S.cx q) e t) ∧ ∀ (σ : L2.St) (F H : Hp) (A : List Addr) (Q : VK), WF F H A → Envs S.K F H σ ρ A → (∀ v B C F1 H1, Grow F H F1 H1 → Foc S.K F1 H1 σ A v o up B C → Q v H1) → t σ H Q
theorem Owns.get {K : PySem.W.Frag} {F H : Hp} : ∀ {vs : List V} {os : List O} {A : List Addr}, Owns K F H vs os A → vs.length = os.length
  | [], _, _, .nil => rfl
  | _ :: _, _, _, .cons _ r => by rw [List.length_cons, List.length_cons, r.get]
theorem xlg_ix {os : List O} {o : O} {up : O → Env} {i : Int} (j : Nat) (ha : XL S ρ a (.lst os) up) (hb : TP S ρ b i) (hij : i = (j : Int)) (ho : os[j]? = some o) (hs : PlainIx b := by intro _ _; rfl) :
    XLG S ρ (.Subscript a b pos) o (fun o' => up (.lst (os.set j o'))) := by
  subst hij
  obtain ⟨t, h1, h2⟩ := ha
  obtain ⟨tb, b1, b2⟩ := hb
  refine ⟨tOp (rIxL S.K) t tb, fun q ok => pe_ix (X := S.cx q) ix_list (h1 q ok) (b1 q ok) hs, fun σ F H A Q w n q => h2 σ F H A _ w n fun v B C0 fo => b2 σ F H A _ w n fun y F1 H1 g r => ?_⟩
  have fo := fo.grow g
  obtain ⟨ow, p, bk⟩ := fo
  cases ow with
  | lst hx rr =>
    rename_i l vs A0
    obtain ⟨u, B1, C1, g1, g2, g3, g4⟩ := rr.foc ho
    cases r
    have e2 : atI vs (j : Int) = some u := by
      unfold atI ixN
      have lt : j < vs.length := (List.getElem?_eq_some_iff.mp g1).1
      rw [if_pos (by omega), if_pos (by omega)]
      exact g1
    refine ⟨_, _, _, u, rfl, rfl, .of hx, e2, q u B1 (l :: C1 ++ C0) F1 H1 g ⟨g2, ?_, fun F' H' o' B' e k ow => ?_⟩⟩
    · refine p.trans ?_
      rw [← List.append_assoc]
      exact List.Perm.append_right C0 (perm_mid (D := [l]) g3)
    · obtain ⟨A1, n1, p1⟩ := g4 F' H' o' B' e (fun x u h hc => k x u h (by simp [hc])) ow
      obtain ⟨A2, n2, p2⟩ := bk F' H' (.lst (os.set j o')) (l :: A1) e (fun x u h hc => k x u h (by simp [hc])) (.lst (k l _ hx (by simp)) n1)
      refine ⟨A2, n2, p2.trans ?_⟩
      rw [← List.append_assoc]
      exact List.Perm.append_right C0 (perm_mid (D := [l]) p1)
/-- a[i].append(e) -/
theorem xx_appG {os : List O} {up : O → Env} {apos cpos : Pos} (hl : XLG S ρ a (.lst os) up) (he : XP S ρ e (.ok d)) (hn : os.length < 1000000)
    (hbase : ∀ env : PySem.Env, attributeBase a "append" env (eval a env) = eval a env := by intro _; rfl)
    (hfew : ∀ env : PySem.Env, ((backTo cpos (starEach [e] env)).all (fun x => !x.1) && (backToKw cpos (keywordEach [] env)).all (fun x => x.1.isSome) && decide ([e].length + ([] : List Keyword).length + (if ([] : List Keyword).isEmpty then 0 else 1) < 30)) = true := by intro _; rfl)
    (hline : (apos.endLine == cpos.line) = true := by rfl) (hs : ∀ env : PySem.Env, starEach [e] env = (false, eval e env) :: starEach [] env := by intro _; rfl) (hplain : ∀ env : PySem.Env, (backTo cpos (starEach [] env)).any (·.1) = false := by intro _; rfl) :
    XX S ρ (.Call (.Attribute a "append" apos) [e] [] cpos) (.ok (.fro .non) (up (.lst (os ++ [.fro d])))) := by
  obtain ⟨t, h1, h2⟩ := hl
  obtain ⟨ta, a1, a2⟩ := xa_cons he xa_nil hs
  refine ⟨tBM S.K "list" rAppend t ta, fun q ok => pe_bm PySem.F.plainAttrs_list PySem.F.slot_list_append PySem.F.type_list_append mt_append (h1 q ok) (a1 q ok) (hbase _) (hfew _) hline (hs _) (hplain _), fun σ F H A Q w n q => h2 σ F H A _ w n fun v B C F0 H0 g0 fo => ?_⟩
  cases fo with
  | mk ow p bk =>
  cases ow with
  | lst hx r =>
    rename_i l xs A0
    refine ⟨.inl ⟨rfl, _, SqL.of hx⟩, a2 σ F0 H0 A _ (g0.wf w) (g0.envs n) fun vs F1 H1 g rr => ?_⟩
    obtain ⟨y, rfl, ry⟩ := reps1 rr
    have len := r.length
    have fo := (Foc.mk (.lst hx r) p bk : Foc S.K F0 H0 σ A (.ref l) (.lst os) up (l :: A0) C).grow g
    have gg := g0.trans g
    have w1 := gg.wf w
    have lA : l ∉ A0 := fun z => by
      have := (w1.perm fo.perm).left.nd
      exact (List.nodup_cons.mp this).1 z
    refine ⟨l, xs, y, rfl, rfl, g.hh _ _ hx, line_lt (by omega), ?_⟩
    obtain ⟨A', n', w', s'⟩ := Foc.mut (B2 := []) (A1 := A0 ++ []) (X := []) (u := .lst (xs ++ [y])) (o' := .lst (os ++ [.fro d])) w1 fo (by simp) (.lst upd_same (Owns.append ((g.owns r).mono (Ext.refl _) (S := A0) (fun x u h hx => by rw [upd_ne fun z => lA (by rw [← z]; exact hx)]; exact h) fun _ h => h) (Owns.fros (ds := [d]) (.cons ry .nil))))
    refine q .non F1 _ [] A' w' (Stp.trans ((gg.stp.mono (by simp) (A' := A)).more (C := A) fun a h => .inl h) s') (.fro .non) n'
end
end G

namespace G
open PySem PySem.Spec PyProof.Rows L2
open PySem.W (Datum DatumOrd Tup T3 EachIs)
open Enc (enc)
section
variable {S : Sig} {ρ ρ1 : Env} {a b c e f it tg elt : Expr} {pos p2 p3 pos2 p' : Pos} {pin : List Nat} {es : List Expr}
theorem rgV_eq (k : Int) : rgV 0 k = (rng 0 k).map V.int := by
  unfold rgV rng
  rw [List.map_map]
  rfl
theorem tp_lstR [Calm S] {n : Int} (hm : S.mg "list" = none) (hm2 : S.mg "range" = none) (h : TP S ρ a n) (hb : -1000000 ≤ n ∧ n ≤ 1000000) (hg : S.scope.names.lookup ("list" : Str) = some .globalImplicit := by rfl) (hg2 : S.scope.names.lookup ("range" : Str) = some .globalImplicit := by rfl)
    (he : ∀ env : PySem.Env, starEach [.Call (.Name "range" p3) [a] [] pos2] env = (false, eval (.Call (.Name "range" p3) [a] [] pos2) env) :: starEach [] env := by intro _; rfl) (he2 : ∀ env : PySem.Env, starEach [a] env = (false, eval a env) :: starEach [] env := by intro _; rfl) :
    TP S ρ (.Call (.Name "list" p2) [.Call (.Name "range" p3) [a] [] pos2] [] pos) (rng 0 n) := by
  obtain ⟨t, h1, h2⟩ := h
  refine ⟨tLstRg (tRg1 t), fun q ok => pe_listRg (X := S.cx q) Calm.h (show S.scope.names.lookup ("list" : Str) = some .globalImplicit from hg) hm (prg_1 (show S.scope.names.lookup ("range" : Str) = some .globalImplicit from hg2) hm2 (h1 q ok) (he2 _)) (he _), fun σ F H A Q w n q => h2 σ F H A _ w n fun v F1 H1 g r => ?_⟩
  cases r
  refine ⟨_, rfl, ⟨by omega, by omega, by omega, by omega, by omega⟩, fun p hp => ?_⟩
  rw [rgV_eq]
  exact q _ _ _ (g.trans (Grow.new g.ext hp)) (.lst upd_same (Reps.ints _))
/-- for x in reversed(xs) -/
theorem xi_rev {T : Type} [DecidableEq T] [Datum T] [Enc T] {xs : List T} (hm : S.mg "reversed" = none) (h : TP S ρ a xs) (hg : S.scope.names.lookup ("reversed" : Str) = some .globalImplicit := by rfl) (hs : ∀ env : PySem.Env, starEach [a] env = [(false, eval a env)] := by intro _; rfl) :
    XI S ρ tg (.Call (.Name "reversed" p2) [a] [] pos) (xs.reverse.map enc) := by
  obtain ⟨t, h1, h2⟩ := xa_cons h xa_nil (fun env => hs env)
  refine ⟨iRev S.K t, fun q ok => pi_reversed (X := S.cx q) (show S.scope.names.lookup ("reversed" : Str) = some .globalImplicit from hg) hm (h1 q ok) (hs _), fun σ F H A R w n k => h2 σ F H A _ w n fun vs F1 H1 g rr => ?_⟩
  obtain ⟨v, rfl, r⟩ := reps1 rr
  cases r with
  | lst hl r =>
    rename_i l ys
    have len := r.length
    rw [List.length_map] at len
    refine ⟨_, _, rfl, .of (g.ext _ _ hl), k _ F1 H1 g ⟨fun H => SqL S.K H l ys, fun i H x H' => H' = H ∧ ys[ys.length - 1 - i]? = some x, by rw [List.length_map, List.length_reverse, ← len]; exact walk_rev, fun H2 e => SqL.of (e _ _ hl), fun i H2 x H3 F2 hi e e2 y => ?_⟩⟩
    obtain ⟨e3, hx⟩ := y
    subst e3
    rw [List.length_map, List.length_reverse] at hi
    obtain ⟨d, d1, d2⟩ := r.get' hx
    refine ⟨F2, d, ?_, Grow.refl e2, d2.mono e⟩
    rw [List.getElem?_map, List.getElem?_reverse (by omega), ← d1, List.getElem?_map, len]
/-- rows of rows, owned -/
def oLL {T : Type} [DecidableEq T] [Datum T] [Enc T] (ms : List (List T)) : O := .lst (ms.map oL)
theorem oLL_d {T : Type} [DecidableEq T] [Datum T] [Enc T] (ms : List (List T)) : (oLL ms).d = enc ms := by
  show O.d (.lst _) = D.lst _
  simp only [O.d]
  congr 1
  induction ms with
  | nil => rfl
  | cons m ms ih =>
    simp only [List.map_cons, O.ds]
    rw [oL_d, ih]
theorem xx_appIx {T : Type} [DecidableEq T] [Datum T] [Enc T] {ms : List (List T)} {up : O → Env} {x : List T} {v : T} {apos cpos pos1 : Pos} (j : Nat) (ha : XL S ρ a (oLL ms) up) (hb : TP S ρ b ((j : Nat) : Int)) (hj : ms[j]? = some x) (he : TP S ρ e v) (hn : x.length < 1000000) (hs1 : PlainIx b := by intro _ _; rfl)
    (hbase : ∀ env : PySem.Env, attributeBase (.Subscript a b pos1) "append" env (eval (.Subscript a b pos1) env) = eval (.Subscript a b pos1) env := by intro _; rfl)
    (hfew : ∀ env : PySem.Env, ((backTo cpos (starEach [e] env)).all (fun x => !x.1) && (backToKw cpos (keywordEach [] env)).all (fun x => x.1.isSome) && decide ([e].length + ([] : List Keyword).length + (if ([] : List Keyword).isEmpty then 0 else 1) < 30)) = true := by intro _; rfl)
    (hline : (apos.endLine == cpos.line) = true := by rfl) (hs : ∀ env : PySem.Env, starEach [e] env = (false, eval e env) :: starEach [] env := by intro _; rfl) (hplain : ∀ env : PySem.Env, (backTo cpos (starEach [] env)).any (·.1) = false := by intro _; rfl) :
    XX S ρ (.Call (.Attribute (.Subscript a b pos1) "append" apos) [e] [] cpos) (.ok (.fro .non) (up (oLL (ms.set j (x ++ [v]))))) := by
  have ho : (ms.map oL)[j]? = some (O.lst ((x.map enc).map .fro)) := by rw [List.getElem?_map, hj]; rfl
  have z := xx_appG (apos := apos) (cpos := cpos) (xlg_ix (pos := pos1) j ha hb rfl ho hs1) he (by simpa using hn) hbase hfew hline hs hplain
  have e1 : O.lst ((ms.map oL).set j (O.lst (((x.map enc).map O.fro) ++ [.fro (enc v)]))) = oLL (ms.set j (x ++ [v])) := by
    unfold oLL
    rw [List.map_set]
    unfold oL
    rw [List.map_append, List.map_append]
    rfl
  rw [e1] at z
  exact z
end
/-! xs.index(x), by a word of one's own -/
def idxD {T : Type} [DecidableEq T] (xs : List T) (x : T) : Nat := xs.findIdx fun y => decide (y = x)
theorem idxD_eq {T : Type} [DecidableEq T] (x : T) : ∀ xs : List T, xs.idxOf x = idxD xs x
  | [] => rfl
  | y :: r => by
    unfold idxD
    rw [List.idxOf_cons, List.findIdx_cons, idxD_eq x r]
    unfold idxD
    by_cases h : y = x
    · simp [h]
    · have h2 : (y == x) = false := by simpa using h
      rw [h2, decide_eq_false h]
theorem idxD_lt {T : Type} [DecidableEq T] {xs : List T} {x : T} (h : x ∈ xs) : idxD xs x < xs.length := List.findIdx_lt_length_of_exists ⟨x, h, decide_eq_true rfl⟩
theorem idxD_get {T : Type} [DecidableEq T] {xs : List T} {x : T} (h : x ∈ xs) : xs[idxD xs x]? = some x := by
  have lt := idxD_lt h
  rw [List.getElem?_eq_getElem lt]
  have := List.findIdx_getElem (xs := xs) (p := fun y => decide (y = x)) (w := lt)
  have e : xs[idxD xs x] = x := of_decide_eq_true this
  rw [e]
section
variable {S : Sig} {ρ : Env} {a e : Expr} {pos : Pos} {T : Type} [DecidableEq T] [Datum T] [Enc T] {xs : List T} {v : T}
theorem tp_ixOf {apos : Pos} (ha : TV S ρ a xs) (he : TP S ρ e v) (hm : v ∈ xs) (hd : Datum.depth T ≤ 60 := by decide)
    (hbase : ∀ env : PySem.Env, attributeBase a "index" env (eval a env) = eval a env := by intro _; rfl)
    (hfew : ∀ env : PySem.Env, ((backTo pos (starEach [e] env)).all (fun x => !x.1) && (backToKw pos (keywordEach [] env)).all (fun x => x.1.isSome) && decide ([e].length + ([] : List Keyword).length + (if ([] : List Keyword).isEmpty then 0 else 1) < 30)) = true := by intro _; rfl)
    (hline : (apos.endLine == pos.line) = true := by rfl) (hs : ∀ env : PySem.Env, starEach [e] env = (false, eval e env) :: starEach [] env := by intro _; rfl) (hplain : ∀ env : PySem.Env, (backTo pos (starEach [] env)).any (·.1) = false := by intro _; rfl) :
    TP S ρ (.Call (.Attribute a "index" apos) [e] [] pos) ((idxD xs v : Nat) : Int) := by
  have := tp_index (apos := apos) (pos := pos) ha he hm hd hbase hfew hline hs hplain
  rw [idxD_eq] at this
  exact this
end
end G

namespace G
open PySem PySem.Spec PyProof.Rows L2
open PySem.W (Datum DatumOrd Tup T3 EachIs)
open Enc (enc)
/-! ### the keys of a dict with tuple keys: list(d), sorted(d) -/
section
open PySem.W PySem.Calls
variable {prog : Program} {w : World} {A : Around} {E : Value → Shared → Prop} {s : Shared} {β : Type} {R : Value → β → Prop} {en : β → PyData} {vs : List Value} {bs : List β}
theorem sorted_dataC {v0 : Value} {Q : Value → Shared → Prop} (hcol : ∀ (R : List Value → Shared → Prop), (∀ (h1 : Heap) (tk : Nat), (∀ b o, s.heap.get? b = some o → h1.get? b = some o) → R vs { s with heap := h1, toks := tk }) → wpAny (model prog w) A.in1 (collect v0) R E s) (e : EachIs R vs bs) (er : EachIs (fun v b => ∃ as, Reads s.heap v (en b) as) vs bs) (hal : AllAlike (bs.map en)) (hk : Sortable (bs.map en)) (hL : bs.length ≤ sizeLine)
    (hu : ∀ b, b ∈ bs → A.units + 2 + (en b).depth < cLine) (h : ∀ (h2 : Heap) (tk : Nat) (p : Addr) (c : Nat) (out : List Value), (∀ b o, s.heap.get? b = some o → h2.get? b = some o) → s.heap.get? p = none → h2.get? p = some (seqObj "list" out.toArray c) → out.length = bs.length → EachIs R out (bs.mergeSort (dataLe false en)) → Q (.ref p) { s with heap := h2, toks := tk }) :
    wpAny (model prog w) A (call (.builtin "sorted") [v0]) Q E s := by
  have hlen : vs.length = bs.length := e.length
  refine call_function_entry kind_sorted plain_sorted entry_sorted (args_sorted1 _) ?_
  unfold Builtin.«sorted»
  refine wpAny_bind (m := checkCount "sorted" 1 1 _) (wpAny_pure ?_)
  refine wpAny_bind (hcol _ fun h1 tk k1 => ?_)
  refine wpAny_bind (wpAny_newList ?_ (Nat.le_trans (Nat.le_of_eq (by simp [hlen])) hL))
  have hp : (h1.push (seqObj "list" vs.toArray 0)).get? h1.objs.size = some (seqObj "list" vs.toArray 0) := Heap.get?_push_size _ rfl
  have keep1 : ∀ b o, s.heap.get? b = some o → (h1.push (seqObj "list" vs.toArray 0)).get? b = some o := fun b o q => Heap.get?_push_of_some _ (k1 b o q)
  have lt1 : ∀ b o, s.heap.get? b = some o → b ≠ h1.objs.size := fun b o q => Nat.ne_of_lt (Heap.lt_size (k1 b o q))
  have er' : EachIs (fun v b => ∃ as, Reads (sortingHeap (h1.push (seqObj "list" vs.toArray 0)) h1.objs.size vs) v (en b) as) vs bs := er.mono fun _ _ ⟨as, r⟩ => ⟨as, PyProof.Rows.Reads.keeps (fun b o q => sortingHeap_old (lt1 b o q) (keep1 b o q)) r⟩
  have S : SortsAt prog w A.in1.in1 { s with toks := tk, heap := sortingHeap (h1.push (seqObj "list" vs.toArray 0)) h1.objs.size vs } (dataKind (sortingHeap (h1.push (seqObj "list" vs.toArray 0)) h1.objs.size vs) (bs.map en)) vs :=
    SortsAt.data (each_map (R := fun v d => ∃ as, Reads (sortingHeap (h1.push (seqObj "list" vs.toArray 0)) h1.objs.size vs) v d as) en er') hal hk (bound_map hu)
  refine wpAny_bind (wpAny_holding (wpAny_call_entry slot_list_sort ⟨_, hp, rfl⟩ entry_list_sort (wpAny_mono (list_sort_vals (s := { s with toks := tk, heap := h1.push (seqObj "list" vs.toArray 0) }) (P := fun f s' => f = .done (.ret .none) ∧ s' = { s with toks := tk, heap := sortedHeap (h1.push (seqObj "list" vs.toArray 0)) h1.objs.size vs (sortVals (dataKind (sortingHeap (h1.push (seqObj "list" vs.toArray 0)) h1.objs.size vs) (bs.map en)) false vs vs).toArray }) hp S (by rw [hlen]; exact hL) ⟨rfl, rfl⟩) (fun f s' hf => ?_) fun _ _ e => e) (args_list_sort _)))
  obtain ⟨rfl, rfl⟩ := hf
  refine ⟨_, rfl, wpAny_pure ⟨_, rfl, ?_⟩⟩
  obtain ⟨c, hc2⟩ := sortedHeap_at (vs := vs) (out := (sortVals (dataKind (sortingHeap (h1.push (seqObj "list" vs.toArray 0)) h1.objs.size vs) (bs.map en)) false vs vs).toArray) hp
  have le1 : s.heap.get? h1.objs.size = none := by
    cases q : s.heap.get? h1.objs.size with
    | none => rfl
    | some o => exact absurd rfl (lt1 _ _ q)
  exact h _ _ h1.objs.size c _ (fun b o q => (sortedHeap_old (lt1 b o q) (Heap.lt_size (keep1 b o q))).trans (keep1 b o q)) le1 hc2 (by rw [sortVals_length false rfl]; exact hlen) (sortVals_data false e er' hal)
end
section
variable {β : Type} [DecidableEq β] [Datum β] [Enc β]
theorem keys_grow {K : PySem.W.Frag} {F H : Hp} {bs : List Addr} (e : Ext F H) : ∀ {kvs : List (List Key × V)} {cs : List (Int × Int)}, kvs.map (·.1) = cs.map (DKey.kt (κ := Int × Int)) → IsKeys H kvs bs →
    Grow F H (frz F H bs) H ∧ Reps K (frz F H bs) (bs.map V.ref) (cs.map enc) := fun {kvs cs} hk k => by
  have tups : ∀ b ∈ bs, ∃ xs, H b = some (.tup xs) := by
    unfold IsKeys at k
    induction k generalizing cs with
    | nil => intro b hb; cases hb
    | cons h _ ih =>
      cases cs with
      | nil => cases hk
      | cons c cs =>
        intro b hb
        rcases List.mem_cons.mp hb with rfl | hb
        · exact ⟨_, h⟩
        · exact ih (by rw [List.map_cons, List.map_cons] at hk; exact (List.cons.inj hk).2) b hb
  have xF : Ext F (frz F H bs) := fun a o h => by
    by_cases q : a ∈ bs
    · rw [frz_in q]; exact e a o h
    · rw [frz_out q]; exact h
  refine ⟨⟨⟨xF, fun _ _ h _ => h, fun a o h => ?_, fun _ h => (by cases h), fun _ h => h⟩, fun a o h => ?_⟩, ?_⟩
  · by_cases q : a ∈ bs
    · obtain ⟨xs, z⟩ := tups a q; exact .inr (.inr (imm_tup z))
    · rw [frz_out q] at h; exact .inl h
  · by_cases q : a ∈ bs
    · rw [frz_in q] at h; exact h
    · rw [frz_out q] at h; exact e a o h
  · have sub : ∀ b ∈ bs, frz F H bs b = H b := fun b hb => frz_in hb
    generalize frz F H bs = F' at sub
    clear tups xF e
    unfold IsKeys at k
    induction k generalizing cs with
    | nil =>
      cases cs with
      | nil => exact .nil
      | cons _ _ => cases hk
    | @cons p b ps bs h _ ih =>
      cases cs with
      | nil => cases hk
      | cons c cs =>
        rw [List.map_cons, List.map_cons] at hk
        obtain ⟨h1, h2⟩ := List.cons.inj hk
        refine .cons ?_ (ih h2 fun b hb => sub b (by simp [hb]))
        have : F' b = some (.tup ((DKey.kt c).map kV)) := by rw [sub b (by simp), h, h1]
        exact .tup this (.cons .int (.cons .int .nil))
def rSortDC (K : PySem.W.Frag) : List V → Hp → VK → Prop := fun vs H Q => ∃ (F : Hp) (a : Addr) (kvs : List (List Key × V)) (cs : List (Int × Int)), vs = [.ref a] ∧ Ext F H ∧ H a = some (.dT kvs) ∧ kvs.map (·.1) = cs.map (DKey.kt (κ := Int × Int)) ∧
  ∀ bs ys p, IsKeys H kvs bs → Reps K (frz F H bs) ys ((sortT cs).map enc) → H p = none → Q (.ref p) (upd H p (.lst ys))
theorem cr_sortDC {X : Cx} (hc : X.calm = true) (hu : X.A.units + 100 < cLine) : CallR X (.builtin "sorted") (rSortDC X.K) := by
  intro pins s σ H vs us Q I r h
  obtain ⟨F, a, kvs, cs, rfl, e, hd, hk, q⟩ := h
  obtain ⟨u, rfl, ru⟩ := vals1 r
  obtain rfl : u = Value.ref a := ru
  obtain ⟨z, hs, ks, pr, o, es, ep, ho, hx, hdt, he, hn⟩ := (show ObjOk X.prog X.w H s.heap a (.dT kvs) from I.hok a _ hd)
  have l1 : es.size = ks.length := size_of_entries he
  have l2 : kvs.length = ks.length := Paired.length pr
  have lc : cs.length = ks.length := by
    have := congrArg List.length hk
    rw [List.length_map, List.length_map] at this
    omega
  obtain ⟨g, rr⟩ := keys_grow (K := X.K) (F := F) e hk (isKeys_of pr)
  obtain ⟨e1, e2⟩ := each_of (T := Int × Int) I g.ext rr (vals_refs _)
  refine sorted_dataC (vs := (ks.map fun x => x.2.1).map Value.ref) (bs := cs) (en := Datum.toD) (fun R hR => ?_) e1 e2 (PySem.W.AllAlike.of fun a b => DatumOrd.alike a b) ?_ (by omega) (fun b _ => ?_) fun h2 tk p c out kp hp hp2 hlo eo => ?_
  · refine PySem.W.kdu_collect (kdl_raw hs hx hdt) (I.ok.hd hc) ho (by omega) fun h' tk acc' kp it => ?_
    have ea : acc'.toList = (ks.map fun x => x.2.1).map Value.ref := by
      have hl : acc'.toList.length = ks.length := by rw [Array.length_toList, it.1]; exact l1
      apply List.ext_getElem?
      intro j
      rw [List.getElem?_map, List.getElem?_map]
      cases hj : acc'.toList[j]? with
      | none =>
        have h1 := List.getElem?_eq_none_iff.mp hj
        rw [List.getElem?_eq_none (by omega)]
        rfl
      | some v =>
        obtain ⟨en, hen, hv⟩ := it.2 j v (by rw [← Array.getElem?_toList]; exact hj)
        have qe := entry_at he j
        rw [hen] at qe
        cases hb : ks[j]? with
        | none =>
          rw [hb] at qe
          exact nomatch (show some en = none from qe)
        | some b =>
          rw [hb] at qe
          have e2 : en = entryOfKey (tupleKind (mixKind X.prog X.w)) b := Option.some.inj qe
          rw [hv, e2]
          rfl
    rw [ea]
    exact hR h' tk kp
  · rcases (inferInstance : SortK (Int × Int)).h with h | h
    · exact PySem.W.Sortable.tuples h
    · exact PySem.W.Sortable.others h
  · have := Datum.depth_le b
    have := (inferInstance : SortK (Int × Int)).d
    omega
  · obtain ⟨ys, h1, h3⟩ := each_back eo
    have hlen : ys.length ≤ sizeLine := by rw [h1.length, hlo]; omega
    have e3 : cs.mergeSort (PySem.W.dataLe false Datum.toD) = sortT cs := by
      unfold sortT
      rw [PySem.W.dataLe_eq]
      congr 1
      funext a b
      show (!PySem.W.dataLt (Datum.toD b) (Datum.toD a)) = _
      rw [DatumOrd.lt_eq]
    rw [e3] at h3
    have hn : H p = none := I.hok.gone hp
    exact ⟨.ref _, upd H p (.lst ys), I.laidN (t' := tk) kp hp hn ⟨hlen, out.toArray.toList, c, by simpa using h1, hp2⟩, rfl, q _ ys _ (isKeys_of pr) h3 hn⟩
variable {S : Sig} {ρ : Env} {a e : Expr} {es : List Expr} {pos p2 : Pos}
theorem cb_sortedDC [Calm S] {d : List ((Int × Int) × β)} : CB S "sorted" [fD d] (enc (sortT (d.map (·.1)))) := ⟨rSortDC S.K, fun q o => cr_sortDC (X := S.cx q) Calm.h (by have := o.room.un; show q.A.units + 100 < cLine; omega), fun vs F H Q e rr q => by
  obtain ⟨v, rfl, r⟩ := reps1 rr
  obtain ⟨l, rfl, ly⟩ := DLay.of_rep r
  rcases ly with ⟨_, kvs, h, hk, _⟩ | ⟨t, _⟩
  · have hk2 : kvs.map (·.1) = (d.map (·.1)).map (DKey.kt (κ := Int × Int)) := by rw [hk, List.map_map]; rfl
    refine ⟨F, l, kvs, d.map (·.1), rfl, e, h, hk2, fun bs ys p ik hy hp => ?_⟩
    obtain ⟨g, _⟩ := keys_grow (K := S.K) (F := F) e hk2 ik
    have g2 := Grow.new (o := .lst ys) g.ext hp
    exact q (.ref p) _ _ (g.trans g2) (.lst upd_same (hy.mono g2.stp.fs))
  · cases t⟩
theorem tp_sortedDC [Calm S] {d : List ((Int × Int) × β)} (hm : S.mg "sorted" = none) (h : XV S ρ a (fD d)) (hg : S.scope.names.lookup ("sorted" : Str) = some .globalImplicit := by rfl) (he : ∀ env : PySem.Env, starEach [a] env = (false, eval a env) :: starEach [] env := by intro _; rfl) : TP S ρ (.Call (.Name "sorted" p2) [a] [] pos) (sortT (d.map (·.1))) :=
  xp_cb (p := p2) (pos := pos) cb_sortedDC hm (xav_cons h xav_nil he) hg (by decide +kernel) (by decide) (by decide) he (by intro _; rfl)
theorem tp_listDC [Calm S] {d : List ((Int × Int) × β)} (hm : S.mg "list" = none) (ha : XV S ρ a (fD d)) (hg : S.scope.names.lookup ("list" : Str) = some .globalImplicit := by rfl) (he : ∀ env : PySem.Env, starEach [a] env = (false, eval a env) :: starEach [] env := by intro _; rfl) (hpl : ∀ env : PySem.Env, (backTo pos (starEach [] env)).any (·.1) = false := by intro _; rfl) : TP S ρ (.Call (.Name "list" p2) [a] [] pos) (d.map (·.1)) := by
  obtain ⟨t, a1, a2⟩ := xav_cons ha xav_nil he
  refine ⟨_, fun q o => pe_callTy (X := S.cx q) (call_list_dT (X := S.cx q) Calm.h) (show S.scope.names.lookup ("list" : Str) = some .globalImplicit from hg) hm (by decide +kernel) (a1 q o) (by decide) (by decide) (he _) (hpl _), fun σ F H A Q w n q => a2 σ F H A _ w n fun vs F1 H1 g r1 => ?_⟩
  obtain ⟨v, rfl, r⟩ := reps1 r1
  obtain ⟨l, rfl, ly⟩ := DLay.of_rep r
  rcases ly with ⟨_, kvs, h, hk, _⟩ | ⟨t, _⟩
  · have hk2 : kvs.map (·.1) = (d.map (·.1)).map (DKey.kt (κ := Int × Int)) := by rw [hk, List.map_map]; rfl
    refine ⟨l, kvs, rfl, .inl h, fun p bs hp ik => ?_⟩
    obtain ⟨g2, hy⟩ := keys_grow (K := S.K) (F := F1) g.ext hk2 ik
    have g3 := Grow.new (o := .lst (bs.map V.ref)) g2.ext hp
    exact q (.ref p) _ _ ((g.trans g2).trans g3) (.lst upd_same (hy.mono g3.stp.fs))
  · cases t
end
end G

namespace G
open PySem PySem.Spec PyProof.Rows L2
open PySem.W (Datum DatumOrd Tup T3 EachIs)
open Enc (enc)
/-! ### d.get(k, x) where k may be None, d's keys couples of small numbers -/
def noneH : Int := reduceHash 0xFCA86420
theorem cell_hash (P : Program) (w : World) : ∀ {x y : Int}, 0 ≤ x → x < 8 → 0 ≤ y → y < 8 → tupleKeyHash (mixKind P w) [(.inl x : Key), .inl y] ≠ noneH := by
  have all : ∀ x : Fin 8, ∀ y : Fin 8, reduceHash (Builtin.Tuple.tupleHashOf [hashInt (x.val : Int), hashInt (y.val : Int)]) ≠ noneH := by decide +kernel
  intro x y h1 h2 h3 h4
  have := all ⟨x.toNat, by omega⟩ ⟨y.toNat, by omega⟩
  dsimp only at this
  rw [Int.toNat_of_nonneg h1, Int.toNat_of_nonneg h3] at this
  exact this
section
variable {prog : Program} {w : World} {A : Around} {E : Value → Shared → Prop} {s : Shared}
theorem find_none {d : Addr} {o : Obj} {es ep} {Q : Option Nat → Shared → Prop} (ho : s.heap.get? d = some o) (hd : o.data = .dict es ep) (hh : ∀ e ∈ es, e.hash ≠ noneH) (h : Q none s) : wpAny (model prog w) A (dictFind d .none noneH) Q E s := by
  have pl : placesWithHash es.size (fun i => es[i]?.map (·.hash)) noneH = [] := by
    unfold placesWithHash
    refine List.filter_eq_nil_iff.mpr fun i _ z => ?_
    cases e : es[i]? with
    | none => dsimp only at z; rw [e] at z; cases z
    | some v =>
      dsimp only at z
      rw [e] at z
      exact hh v (Array.mem_of_getElem? e) (by simpa using z)
  unfold dictFind
  try with_reducible refine wpAny_holding ?_
  refine wpAny_bind (wpAny_dictEntries ho hd ?_)
  dsimp only
  rw [pl]
  rw [if_pos (by rfl)]
  unfold dictWalkPlain
  simp only [List.forIn_nil]
  first | exact wpAny_bind (wpAny_bind (wpAny_pure (wpAny_pure (wpAny_pure h)))) | exact wpAny_bind (wpAny_pure (wpAny_pure h)) | exact wpAny_pure h
theorem get_none {d : Addr} {o : Obj} {es ep} {Q : Option Value → Shared → Prop} (ho : s.heap.get? d = some o) (hd : o.data = .dict es ep) (hh : ∀ e ∈ es, e.hash ≠ noneH) (h : Q none { s with toks := s.toks + 1 }) : wpAny (model prog w) A (dictGet d .none) Q E s := by
  unfold dictGet
  try with_reducible refine wpAny_holding ?_
  refine wpAny_bind ((noneKind prog w).pyHash (k := none) (v := .none) rfl (wpAny_bind (find_none (s := { s with toks := s.toks + 1 }) ho hd hh (wpAny_pure h))))
theorem meets_get_none (d : Addr) (hd : (d == sysModules) = false) (dflt : Value) :
    MeetsIn prog w (Builtin.«dict.get» ⟨[.ref d, .none, dflt], []⟩) (fun _ R s => ∃ o es ep, s.heap.get? d = some o ∧ o.data = .dict es ep ∧ (∀ e ∈ es, e.hash ≠ noneH) ∧ R (.ok (.ret dflt)) { s with toks := s.toks + 1 }) :=
  .of_wp fun A R s ⟨o, es, ep, ho, he, hh, h⟩ => by
    show wpAny _ _ (dictGet d .none >>= _) _ _ s
    refine wpAny_bind (get_none ho he hh ?_)
    show wpAny _ _ (Builtin.Dict.missed d .none >>= _) _ _ _
    exact wpAny_bind (wpAny_missed_other hd (wpAny_pure ⟨dflt, rfl, h⟩))
end
def CellKeys (kvs : List (List Key × V)) : Prop := ∀ kv ∈ kvs, ∃ x y : Int, kv.1 = [.inl x, .inl y] ∧ (0 ≤ x ∧ x < 8) ∧ 0 ≤ y ∧ y < 8
theorem d_getN {X : Cx} {pins : List (Addr × Obj)} {σ : L2.St} {H : Hp} {s : Shared} {a : Addr} {r : Value} {A : Around} {E : Value → Shared → Prop} {Q : Value → Shared → Prop} {kvs : List (List Key × V)} (I : Inv X pins σ H s) (e : Rd H a (.dT kvs)) (hk : CellKeys kvs) (h : ∀ s', Inv X pins σ H s' → Q r s') :
    wpAny (model X.prog X.w) A (call (.builtin "dict.get") [.ref a, .none, r]) Q E s := by
  obtain ⟨z, hd, xs, rel, dd⟩ := dt_rd I.hok e
  obtain ⟨o, es, ep, h1, h2, h3, h4, h5⟩ := id dd
  refine call_meetsIn PySem.F.slot_dict_get dd.typeIs PySem.F.entry_dict_get (PySem.F.args_dict_get_3 _ _ _) (meets_get_none a hd r) ⟨o, es, ep, h1, h3, fun e he => ?_, h _ (I.tok _)⟩
  have : e ∈ xs.map (entryOfKey (tupleKind (mixKind X.prog X.w))) := h4 ▸ Array.mem_toList_iff.mpr he
  obtain ⟨x, hx, rfl⟩ := List.mem_map.mp this
  have key : ∀ {kvs : List (List Key × V)} {xs : List (List Key × Addr × Value)}, KT H kvs xs → ∀ x ∈ xs, ∃ kv ∈ kvs, kv.1 = x.1 := by
    intro l m q
    induction q with
    | nil => intro x hx; exact nomatch hx
    | @cons p q ps qs hq t ih =>
      intro x hx
      rcases List.mem_cons.mp hx with e | hx
      · subst e; exact ⟨p, by simp, hq.1⟩
      · obtain ⟨kv, h1, h2⟩ := ih x hx; exact ⟨kv, by simp [h1], h2⟩
  obtain ⟨kv, k1, k2⟩ := key rel x hx
  obtain ⟨u, v, e1, b1, b2⟩ := hk kv k1
  have ex : x.1 = [.inl u, .inl v] := k2.symm.trans e1
  show tupleKeyHash (mixKind X.prog X.w) x.1 ≠ noneH
  rw [ex]
  exact cell_hash _ _ b1.1 b1.2 b2.1 b2.2
def tDGetN (td ty tx : TE) : TE := fun σ H Q => td σ H fun x H1 => ∃ a, x = .ref a ∧ IsD H1 a ∧ ty σ H1 fun y H2 => tx σ H2 fun z H3 => (∃ o, DGet H3 a y o ∧ Q (o.getD z) H3) ∨ (y = .non ∧ ∃ kvs, Rd H3 a (.dT kvs) ∧ CellKeys kvs ∧ Q z H3)
theorem pe_dgetN {X : Cx} {o e f : Expr} {apos cpos : Pos} {td ty tx : TE} (hu : X.A.units + 1 < cLine) (ho : PE X o td) (he : PE X e ty) (hf : PE X f tx) (m : M2 X o "get" apos e f cpos) : PE X (.Call (.Attribute o "get" apos) [e, f] [] cpos) (tDGetN td ty tx) := by
  refine ⟨fun pins s σ H Q I h => ?_⟩
  refine wpAny_Call_method m.base m.few m.line PySem.F.plainAttrs_dict PySem.F.slot_dict_get PySem.F.type_dict_get (thn (ho.run pins s σ H _ I h) fun u s1 ⟨x, H1, I1, rx, a, ex, d, q1⟩ => ?_)
  subst ex
  obtain rfl : u = Value.ref a := rx
  obtain ⟨t1, t2, _⟩ := isD_at I1 d
  refine ⟨t1, t2, ?_⟩
  rw [m.trees]
  refine Calls.callWith_builtin rfl (Calls.evalArgs_plain (Calls.spliced_cons (thn (he.run pins s1 σ H1 _ I1 q1) fun iv s2 ⟨y, H2, I2, ry, q2⟩ =>
    Calls.spliced_cons (thn (hf.run pins s2 σ H2 _ I2 q2) fun fv s3 ⟨z, H3, I3, rz, q3⟩ => Calls.spliced_nil ?_))))
  rcases q3 with ⟨ov, g, q3⟩ | ⟨ey, kvs, g, ck, q3⟩
  · exact d_get2 hu I3 g ry rz fun w' s4 I4 rw' => ⟨_, H3, I4, rw', q3⟩
  · subst ey
    obtain rfl : iv = Value.none := ry
    exact d_getN I3 g ck fun s4 I4 => ⟨_, H3, I4, rz, q3⟩
section
variable {β : Type} [DecidableEq β] [Datum β] [Enc β]
variable {S : Sig} {ρ ρ1 : Env} {a b c e f : Expr} {pos p2 p3 pos2 p' : Pos} {pin : List Nat} {d : List ((Int × Int) × β)} {k : Option (Int × Int)} {x : β}
def CellD (d : List ((Int × Int) × β)) : Prop := ∀ p ∈ d, (0 ≤ p.1.1 ∧ p.1.1 < 8) ∧ 0 ≤ p.1.2 ∧ p.1.2 < 8
def dgN (d : List ((Int × Int) × β)) (k : Option (Int × Int)) (y : β) : β := match k with
  | none => y
  | some k => (dGet d k).getD y
theorem keys_cell {kvs : List (List Key × V)} : ∀ {d : List ((Int × Int) × β)} {kvs : List (List Key × V)}, CellD d → kvs.map (·.1) = d.map (fun p => DKey.kt p.1) → CellKeys kvs := fun {d kvs} h e kv hkv => by
  have : kv.1 ∈ d.map (fun p => DKey.kt p.1) := by rw [← e]; exact List.mem_map.mpr ⟨kv, hkv, rfl⟩
  obtain ⟨p, hp, z⟩ := List.mem_map.mp this
  exact ⟨p.1.1, p.1.2, z.symm, h p hp⟩
theorem tp_dg2NF {y : β} {apos : Pos} (ha : XP S ρ a (.ok (fD d))) (hb : TP S ρ e k) (hc : TP S ρ f y) (hk : CellD d) (hbase : ∀ env : PySem.Env, attributeBase a "get" env (eval a env) = eval a env := by intro _; rfl)
    (hfew : ∀ env : PySem.Env, ((backTo pos (starEach [e, f] env)).all (fun x => !x.1) && (backToKw pos (keywordEach [] env)).all (fun x => x.1.isSome) && decide (([e, f] : List Expr).length + ([] : List Keyword).length + (if ([] : List Keyword).isEmpty then 0 else 1) < 30)) = true := by intro _; rfl)
    (hline : (apos.endLine == pos.line) = true := by rfl) (ht : ∀ env : PySem.Env, backTo pos (starEach [e, f] env) = [(false, eval e env), (false, eval f env)] := by intro _; rfl) : TP S ρ (.Call (.Attribute a "get" apos) [e, f] [] pos) (dgN d k y) := by
  obtain ⟨t, h1, h2⟩ := ha
  obtain ⟨tb, b1, b2⟩ := hb
  obtain ⟨tc, c1, c2⟩ := hc
  refine ⟨tDGetN t tb tc, fun q ok => pe_dgetN (X := S.cx q) (by have := ok.units; show q.A.units + 1 < cLine; omega) (h1 q ok) (b1 q ok) (c1 q ok) ⟨hbase _, hfew _, hline, ht _⟩, fun σ F H A Q w n q => h2 σ F H A _ w n fun v F0 H0 g0 r0 => ?_⟩
  obtain ⟨l, rfl, ly⟩ := DLay.of_rep r0
  refine ⟨l, rfl, (ly.mono (Ext.refl _) fun u hu => g0.ext _ _ hu).isD, b2 σ F0 H0 A _ (g0.wf w) (g0.envs n) fun y0 F1 H1 g r => c2 σ F1 H1 A _ (g.wf (g0.wf w)) (g.envs (g0.envs n)) fun z F2 H2 g2 r2 => ?_⟩
  have ly2 := ly.mono (g.stp.fs.trans g2.stp.fs) (H' := H2) fun u hu => g2.hh _ _ (g.hh _ _ (g0.ext _ _ hu))
  cases k with
  | none =>
    cases r with
    | non =>
      rcases ly2 with ⟨t, kvs, h, q3, _⟩ | ⟨t, _⟩
      · exact .inr ⟨rfl, kvs, .inl h, keys_cell (kvs := kvs) hk q3, q _ _ _ ((g0.trans g).trans g2) r2⟩
      · cases t
  | some k =>
    obtain ⟨o, g3, g4, g5⟩ := ly2.get (k := k) (Rep.mono g2.stp.fs r) g2.ext
    refine .inl ⟨o, g3, q _ _ _ ((g0.trans g).trans g2) ?_⟩
    show Rep S.K F2 (o.getD z) (enc ((dGet d k).getD y))
    cases hd : dGet d k with
    | none => rw [g5 hd]; exact r2
    | some x =>
      obtain ⟨u, rfl, ru⟩ := g4 x hd
      exact ru
end
/-! ### {"x": y, ..} -/
section
variable {β : Type} [DecidableEq β] [Datum β] [Enc β]
variable {S : Sig} {ρ ρ1 : Env} {a b c e f : Expr} {pos p2 p3 pos2 p' : Pos} {pin : List Nat} {keys : List (Option Expr)} {values : List Expr}
def XD (S : Sig) (ρ : Env) (pos : Pos) (keys : List (Option Expr)) (values : List Expr) (d : List (Tx × β)) : Prop := ∃ trs, (∀ q, S.Ok q → PPs (S.cx q) pos keys values trs) ∧ ∀ (σ : L2.St) (F H : Hp) (A : List Addr) (Q : List (V × V) → Hp → Prop), WF F H A → Envs S.K F H σ ρ A →
  (∀ (kvs : List (Key × V)) F' H', Grow F H F' H' → kvs.map (·.1) = d.map (fun p => DKey.k1 p.1) → Reps S.K F' (kvs.map (·.2)) (d.map fun p => enc p.2) → Q (kvs.map fun kv => (kV kv.1, kv.2)) H') → tPairs trs σ H Q
theorem xd_nil : XD S ρ pos [] [] ([] : List (Tx × β)) := ⟨[], fun _ _ => pps_nil, fun σ F H A Q w n q => q [] F H (Grow.refl w.sub) rfl .nil⟩
theorem xd_cons {k : Tx} {x : β} {d : List (Tx × β)} (hk : TP S ρ a k) (hv : TP S ρ b x) (h : XD S ρ pos keys values d) : XD S ρ pos (some a :: keys) (b :: values) ((k, x) :: d) := by
  obtain ⟨tk, k1, k2⟩ := hk
  obtain ⟨tv, v1, v2⟩ := hv
  obtain ⟨tr, r1, r2⟩ := h
  refine ⟨(tk, tv) :: tr, fun q o => pps_cons (k1 q o) (v1 q o) (r1 q o), fun σ F H A Q w n q => k2 σ F H A _ w n fun y F1 H1 g1 ry => v2 σ F1 H1 A _ (g1.wf w) (g1.envs n) fun z F2 H2 g2 rz => r2 σ F2 H2 A _ (g2.wf (g1.wf w)) (g2.envs (g1.envs n)) fun kvs F3 H3 g3 ek rs => ?_⟩
  have ey : y = kV (DKey.k1 k) := DKey.rep1 rfl k ry
  subst ey
  exact q ((DKey.k1 k, z) :: kvs) F3 H3 ((g1.trans g2).trans g3) (by rw [List.map_cons, List.map_cons, ek]) (.cons (rz.mono g3.stp.fs) rs)
theorem merge_nodup : ∀ {kvs acc : List (Key × V)}, (kvs.map (·.1)).Nodup → (∀ p ∈ acc, p.1 ∉ kvs.map (·.1)) → mergeK acc kvs = acc ++ kvs
  | [], acc, _, _ => by show acc = acc ++ []; rw [List.append_nil]
  | p :: r, acc, nd, dis => by
    rw [List.map_cons, List.nodup_cons] at nd
    have e : putK acc p.1 p.2 = acc ++ [p] := by
      unfold putK
      rw [if_neg]
      intro z
      obtain ⟨u, hu, e⟩ := List.any_eq_true.mp z
      exact dis u hu (by rw [of_decide_eq_true e]; simp)
    show mergeK (putK acc p.1 p.2) r = _
    rw [e, merge_nodup nd.2 fun u hu => ?_, List.append_assoc]
    · rfl
    · rcases List.mem_append.mp hu with h | h
      · exact fun z => dis u h (by simp [z])
      · rw [List.mem_singleton.mp h]; exact nd.1
theorem xn_disp {d : List (Tx × β)} (h : XD S ρ pos keys values d) (hnd : (d.map fun p => DKey.k1 p.1).Nodup) (hall : keys.all (·.isSome) = true := by rfl) (hl : keys.length = values.length := by rfl) (h0 : keys ≠ [] := by simp) (h15 : keys.length ≤ 15 := by simp) (hd15 : d.length ≤ 15 := by simp) : XN S ρ (.Dict keys values pos) (oD d) := by
  obtain ⟨trs, t1, t2⟩ := h
  refine ⟨tDisp trs, fun q o => pe_disp (X := S.cx q) (t1 q o) hall hl h0 h15, fun σ F H A Q w n q p hp => ?_⟩
  obtain ⟨w3, s3, n3⟩ := grow_own (o := .dK []) w n (Grow.refl w.sub) hp
  obtain ⟨s1, w1⟩ := Grow.own1 (o := .dK []) w.sub hp
  refine t2 σ F _ A _ w3.right n3 fun kvs F2 H2 g ek rs => ?_
  have hp2 : H2 p = some (.dK []) := g.hh _ _ upd_same
  have len : kvs.length = d.length := by
    have := congrArg List.length ek
    rw [List.length_map, List.length_map] at this
    exact this
  refine ⟨hp2, kvs, rfl, by omega, ?_⟩
  have em : mergeK [] kvs = kvs := by
    rw [merge_nodup (by rw [ek]; exact hnd) (fun p hp => by cases hp)]
    rfl
  rw [em]
  have w4 : WF F2 H2 [p] := g.wf w1
  have u5 : WF F2 (upd H2 p (.dK kvs)) [p] ∧ Stp F2 H2 [p] F2 (upd H2 p (.dK kvs)) [p] := by
    refine ⟨⟨fun a v h => ?_, w4.nd, w4.off, fun a h => ?_⟩, ⟨Ext.refl _, fun a v h n => ?_, fun a v h => .inl h, fun a h => .inl h, fun a h => ?_⟩⟩
    · rw [upd_ne fun z => by rw [z, w4.off p (by simp)] at h; cases h]
      exact w4.sub a v h
    · by_cases z : a = p
      · subst z; rw [upd_same]; exact fun z => z
      · rw [upd_ne z]; exact w4.on a h
    · rw [upd_ne fun z => n (by rw [z]; simp)]; exact h
    · by_cases z : a = p
      · subst z; rw [upd_same] at h; cases h
      · rw [upd_ne z] at h; exact h
  refine q (.ref p) F2 _ [p] ((s1.trans ((g.stp.mono (by simp) (A' := [p])).more (C := [p]) fun a h => .inl h)).trans u5.2) u5.1 ?_
  exact DLay.own (.inr ⟨rfl, _, upd_same, ek, rs⟩)
theorem xp_disp {d : List (Tx × β)} (h : XD S ρ pos keys values d) (hnd : (d.map fun p => DKey.k1 p.1).Nodup) (hall : keys.all (·.isSome) = true := by rfl) (hl : keys.length = values.length := by rfl) (h0 : keys ≠ [] := by simp) (h15 : keys.length ≤ 15 := by simp) (hd15 : d.length ≤ 15 := by simp) : XP S ρ (.Dict keys values pos) (.ok (fD d)) := by
  have := (xn_disp h hnd hall hl h0 h15 hd15).p
  rw [oD_d] at this
  exact this
end
/-! ### things, or None, in lists -/
section
variable {S : Sig} {ρ : Env} {a b : Expr}
variable {T : Type} [DecidableEq T] [Datum T] [Enc T] [PySem.W.SomeDatum T]
theorem enc_somes (xs : List T) : enc (xs.map some) = enc xs := by
  show D.lst _ = D.lst _
  rw [List.map_map]
  rfl
theorem tv_somes {xs : List T} (h : TV S ρ a xs) : TV S ρ a (xs.map some) := by
  have h : XV S ρ a (enc xs) := h
  show XV S ρ a (enc (xs.map some))
  rw [enc_somes]
  exact h
theorem tp_unOL [Inhabited T] {xs : List (Option T)} (h : TP S ρ a xs) (hn : ∀ o ∈ xs, o ≠ none) : TP S ρ a (xs.map unO) := by
  have e : xs = (xs.map unO).map some := by
    rw [List.map_map]
    conv => lhs; rw [← List.map_id xs]
    exact List.map_congr_left fun o ho => unO_eq (hn o ho)
  have h : XP S ρ a (.ok (enc xs)) := h
  show XP S ρ a (.ok (enc (xs.map unO)))
  rw [← enc_somes, ← e]
  exact h
end
end G

namespace G
open PySem PySem.Spec PyProof.Rows L2
open PySem.W (Datum DatumOrd Tup T3 EachIs)
open Enc (enc)
/-! ### dicts as results -/
section
variable {κ β : Type} [DecidableEq κ] [Datum κ] [Enc κ] [DKey κ] [DecidableEq β] [Datum β] [Enc β]
abbrev rFD (d : List (κ × β)) : RS := .rt (.fro (fD d)) none
abbrev oFD (d : List (κ × β)) : Except Str O := .ok (.fro (fD d))
theorem fits_FD {d : List (κ × β)} : Fits (rFD d) (oFD d) := .rt rfl
theorem term_FD {d : List (κ × β)} : Term (rFD d) := trivial
variable {S : Sig} {ρ ρ1 : Env} {a b c e f : Expr} {es : List Expr} {pos p2 p3 pos2 p' : Pos} {pin : List Nat} {up : O → Env} {d : List (κ × β)} {k : κ} {x : β} {ss : List Stmt} {τ : Type} {dd : τ → List D} {pre : τ → Prop} {rese : τ → Except Str O} {ps : List Str} {n : Nat}
theorem xb_rtFD (h : XP S ρ e (.ok (fD d))) : XB S pin ρ (.Return (some e) pos :: ss) (rFD d) := xb_stop (xs_retF h) fun _ z => nomatch z
theorem xp_callD [Calm S] {x : Str} (hG : FnG S.P S.w S.K S.mg S.base n x ps (spP S.K dd pre rese)) (y : τ) (hp : pre y) (ha : XA S ρ (e :: es) (dd y)) (hr : rese y = oFD d := by rfl) (hk : n ≤ S.kk := by exact Nat.le_of_ble_eq_true rfl) (hg : S.scope.names.lookup x = some .globalImplicit := by rfl) (hdb : (x == ("__debug__" : Str)) = false := by decide)
    (he : ∀ env : PySem.Env, starEach (e :: es) env = (false, eval e env) :: starEach es env := by intro _; rfl) (hpl : ∀ env : PySem.Env, (backTo pos (starEach es env)).any (·.1) = false := by intro _; rfl) : XP S ρ (.Call (.Name x p2) (e :: es) [] pos) (.ok (fD d)) :=
  (xp_call hG y hp ha hk hg hdb he hpl).cast (by rw [hr]; rfl)
/-- x = a dict that is not changed -/
theorem xs_sFD {ρ2 : Env} (i : Nat) {x : Str} {p' : Pos} (h : XP S ρ e (.ok (fD d))) (hq : ρ.set i (G.fd d) = ρ2 := by rfl) (hi : Nat.blt i ρ.length = true := by rfl) (hp : i ∉ pin := by decide) (hN : S.N[i]? = some x := by rfl) (hx : Loc S.scope x := by first | exact .inl rfl | exact .inr rfl) (hst : S.st x = true ∨ S.scope.names.lookup x = some .local := by first | exact .inl rfl | exact .inr rfl)
    (hs : ∀ env : PySem.Env, swapsWith e (some (.Name x p')) pos.line { env with scope := S.scope } = pure false := by intro _; rfl) : XS S pin ρ (.Assign [.Name x p'] e pos) (.nx ρ2) := by
  subst hq
  exact xs_setF i h hi hp hN hx hst hs
/-- x = {k: v}, changed later -/
theorem xs_d1 {ρ2 : Env} (i : Nat) {z : Str} {p' : Pos} {u v : Expr} (hk : TP S ρ u k) (hv : TP S ρ v x) (hq : ρ.set i (od [(k, x)]) = ρ2 := by rfl) (ht : DKey.tk κ = true := by rfl) (hi : Nat.blt i ρ.length = true := by rfl) (hp : i ∉ pin := by decide) (hN : S.N[i]? = some z := by rfl) (hx : Loc S.scope z := by first | exact .inl rfl | exact .inr rfl) (hst : S.st z = true ∨ S.scope.names.lookup z = some .local := by first | exact .inl rfl | exact .inr rfl)
    (hs : ∀ env : PySem.Env, swapsWith (.Dict [some u] [v] p2) (some (.Name z p')) pos.line { env with scope := S.scope } = pure false := by intro _; rfl) : XS S pin ρ (.Assign [.Name z p'] (.Dict [some u] [v] p2) pos) (.nx ρ2) := by
  subst hq
  exact xs_set i (xx_d1 ht hk hv) hi hp hN hx hst hs
end
theorem memO_ne {T : Type} [DecidableEq T] {o : Option T} {xs : List T} (h : memB o (xs.map some) = true) : o ≠ none := by
  rintro rfl
  obtain ⟨x, _, e⟩ := List.mem_map.mp (memB_iff.mp h)
  cases e
theorem memO_ne2 {T : Type} [DecidableEq T] {o : Option T} {xs : List T} {b : Bool} (h : (memB o (xs.map some) && b) = true) : o ≠ none := memO_ne (Bool.and_eq_true_iff.mp h).1
end G

namespace G
open PySem PySem.Spec PyProof.Rows L2
open PySem.W (Datum DatumOrd Tup T3 EachIs)
open Enc (enc)
/-! ### o or t, texts -/
def orX (o : Option Tx) (x : Tx) : Tx := match o with
  | some t => if t.l = [] then x else t
  | none => x
theorem tp_orX {S : Sig} {ρ : Env} {a b : Expr} {pos : Pos} {o : Option Tx} {x : Tx} (ha : TP S ρ a o) (hb : TP S ρ b x) (hl : ∀ t, o = some t → t.l.length ≤ 1000000) : TP S ρ (.BoolOp .Or [a, b] pos) (orX o x) := by
  obtain ⟨t, h1, h2⟩ := ha
  obtain ⟨u, h3, h4⟩ := (xp_one hb : XP S ρ (.BoolOp .Or [b] pos) (.ok (enc x)))
  refine ⟨tOrT S.K t u, fun q o => pe_orT (X := S.cx q) (h1 q o) (h3 q o), fun σ F H A Q w n q => h2 σ F H A _ w n fun v F1 H1 g r => ?_⟩
  have fall : ∀ (k : Bool), k = false → TruV S.K v H1 k → Rep S.K F1 v (enc o) → (∀ y F' H', Grow F H F' H' → Rep S.K F' y (enc x) → Q y H') → ∃ k, TruV S.K v H1 k ∧ if k = true then Q v H1 else u σ H1 Q := fun k hk tr _ q => ⟨k, tr, by
    rw [hk, if_neg Bool.false_ne_true]
    exact h4 σ F1 H1 A Q (g.wf w) (g.envs n) fun y F2 H2 g2 r2 => q y F2 H2 (g.trans g2) r2⟩
  cases o with
  | none =>
    have r0 := r
    cases r with
    | non => exact fall false rfl rfl r0 q
  | some z =>
    have r0 := r
    cases r with
    | str =>
      have hz := hl z rfl
      have len : z.s.length = z.l.length := Tx.len z
      by_cases e : z.l = []
      · refine fall false rfl ⟨by rw [len]; exact line_le hz, ?_⟩ r0 ?_
        · rw [len, e]
          rfl
        · have : orX (some z) x = x := by show (if z.l = [] then x else z) = x; rw [if_pos e]
          rw [this] at q
          exact q
      · refine ⟨true, ⟨by rw [len]; exact line_le hz, ?_⟩, ?_⟩
        · rw [len]
          have := List.length_pos_iff.mpr e
          have h : (z.l.length : Int) ≠ 0 := by omega
          exact (bne_iff_ne.mpr h).symm
        · rw [if_pos rfl]
          have : orX (some z) x = z := by show (if z.l = [] then x else z) = z; rw [if_neg e]
          rw [this] at q
          exact q _ F1 H1 g .str
theorem tv_some {S : Sig} {ρ : Env} {a : Expr} {T : Type} [DecidableEq T] [Datum T] [Enc T] [PySem.W.SomeDatum T] {x : T} (h : TV S ρ a x) : TV S ρ a (some x) := h
end G

namespace G
open PySem PySem.Spec PyProof.Rows L2
open PySem.W (Datum DatumOrd Tup T3 EachIs)
open Enc (enc)
/-! ### a test that looks at an owned list as if it stood still -/
section
variable {S : Sig} {ρ ρ2 : Env} {a e : Expr} {pos p2 : Pos} {T : Type} [DecidableEq T] [Datum T] [Enc T]
theorem xt_look {xs : List T} {k : Bool} (i : Nat) (h : XT S ρ2 e k) (hρ : ρ[i]? = some (ov xs) := by rfl) (hq : ρ.set i (fv xs) = ρ2 := by rfl) : XT S ρ e k := by
  subst hq
  obtain ⟨t, h1, h2⟩ := h
  refine ⟨t, h1, fun σ F H A Q w n q => ?_⟩
  obtain ⟨v, B, A', e1, ow, n1, p1⟩ := n.get hρ
  have w1 := w.perm p1
  have s1 := frz_stp w1
  have e2 : (ρ.set i none)[i]? = some none := by
    rw [List.getElem?_set_self]
    exact (List.getElem?_eq_some_iff.mp hρ).1
  have n2 : Envs S.K (frz F H B) H σ (ρ.set i none) A' := n1.mono s1.fs (S := A') (fun _ _ h _ => h) fun _ h => h
  have r1 : Rep S.K (frz F H B) v (oL xs).d := ow.frz (S := B) s1.fs fun _ h => h
  obtain ⟨A2, n3, p3⟩ := n2.back (.fro r1) e2 e1
  rw [List.set_set, oL_d] at n3
  refine h2 σ (frz F H B) H A2 Q ((frz_wf w1).perm (by simpa using p3.symm)) n3 fun F2 H2 g => ?_
  refine q (fun x => if x ∈ B then none else F2 x) H2 ⟨⟨fun x o hx => ?_, g.stp.keep, fun x o hx => ?_, (fun x hx => by cases hx), g.stp.alive⟩, fun x o hx => ?_⟩
  · have nb : x ∉ B := fun z => by rw [w1.off x (List.mem_append_left _ z)] at hx; cases hx
    show (if x ∈ B then none else F2 x) = some o
    rw [if_neg nb]
    exact g.stp.fs x o (s1.fs x o hx)
  · have hx : (if x ∈ B then none else F2 x) = some o := hx
    by_cases nb : x ∈ B
    · rw [if_pos nb] at hx; cases hx
    · rw [if_neg nb] at hx
      rcases g.stp.new x o hx with z | z | z
      · rw [frz_out nb] at z; exact .inl z
      · cases z
      · exact .inr (.inr z)
  · have hx : (if x ∈ B then none else F2 x) = some o := hx
    by_cases nb : x ∈ B
    · rw [if_pos nb] at hx; cases hx
    · rw [if_neg nb] at hx; exact g.ext x o hx
end
/-! ### len of what may raise -/
def lenE (r : Except Str Tx) : Except Str Int := match r with
  | .ok t => .ok ((t.l.length : Nat) : Int)
  | .error x => .error x
theorem xp_lenE {S : Sig} {ρ : Env} {a : Expr} {pos p2 : Pos} {r : Except Str Tx} (hm : S.mg "len" = none) (h : XP S ρ a (exD (oE oF r))) (hl : ∀ t, r = .ok t → t.l.length ≤ 1000000) (hg : S.scope.names.lookup ("len" : Str) = some .globalImplicit := by rfl) (he : ∀ env : PySem.Env, starEach [a] env = (false, eval a env) :: starEach [] env := by intro _; rfl) (hpl : ∀ env : PySem.Env, (backTo pos (starEach [] env)).any (·.1) = false := by intro _; rfl) :
    XP S ρ (.Call (.Name "len" p2) [a] [] pos) (exD (oE oF (lenE r))) := by
  cases r with
  | ok t => exact tp_lenX hm (XP.v h) (hl t rfl) hg he
  | error x =>
    obtain ⟨t, h1, h2⟩ := h
    obtain ⟨r, c1, _⟩ := (cb_len_tx (S := S) (t := ⟨[]⟩) (Nat.zero_le _)).h
    exact ⟨_, fun q o => pe_callB (X := S.cx q) (c1 q o) (show S.scope.names.lookup ("len" : Str) = some .globalImplicit from hg) hm (by decide +kernel) (pa_cons (h1 q o) pa_nil (he _)) (by decide) (by decide) (he _) (hpl _), fun σ F H A Q w n q => h2 σ F H A _ w n fun F' H' g => q F' H' g⟩
end G

namespace G
open PySem PySem.Spec PyProof.Rows L2
open PySem.W (Datum DatumOrd Tup T3 EachIs)
open Enc (enc)
/-! ### dict(pairs), the keys couples -/
def DPair (K : PySem.W.Frag) (H : Hp) : List Addr → List (List Key × V) → Prop := Paired fun t kv => ∃ b, H t = some (.tup [.ref b, kv.2]) ∧ H b = some (.tup (kv.1.map kV))
theorem dpairs_of {X : Cx} {pins : List (Addr × Obj)} {σ : L2.St} {H : Hp} {s : Shared} (I : Inv X pins σ H s) : ∀ {ts : List Addr} {kvs : List (List Key × V)}, DPair X.K H ts kvs →
    ∃ ks : List (List Key × Addr × Value), KT H kvs ks ∧ ks.length = ts.length ∧ ∀ (j : Nat) (q : List Key × Addr × Value), ks[j]? = some q → ∃ t, ts[j]? = some t ∧ IsTup s.heap t #[.ref q.2.1, q.2.2]
  | _, _, .nil => ⟨[], .nil, rfl, fun j q e => by simp at e⟩
  | _, _, .cons (a := p) (b := kv) h t => by
    obtain ⟨ks, r, hl, hp⟩ := dpairs_of I t
    obtain ⟨b, h1, h2⟩ := h
    obtain ⟨its, rv, ht, _⟩ := I.tuple (.of h1)
    obtain ⟨u, y, ei, ru, ry⟩ := vals2 rv
    subst ei
    cases (show u = Value.ref b from ru)
    refine ⟨(kv.1, b, y) :: ks, .cons ⟨rfl, h2, ry⟩ r, by rw [List.length_cons, List.length_cons, hl], fun j q e => ?_⟩
    cases j with
    | zero =>
      have e' : (kv.1, b, y) = q := Option.some.inj e
      subst e'
      exact ⟨p, rfl, ht⟩
    | succ j =>
      obtain ⟨t, e1, e2⟩ := hp j q (by simpa using e)
      exact ⟨t, by simpa using e1, e2⟩
theorem kt_keys {H : Hp} {kvs : List (List Key × V)} {ks : List (List Key × Addr × Value)} (rel : KT H kvs ks) : ks.map (·.1) = kvs.map (·.1) := by
  induction rel with
  | nil => rfl
  | cons h _ ih => rw [List.map_cons, List.map_cons, ih, h.1]
theorem kt_in {H : Hp} {kvs : List (List Key × V)} {ks : List (List Key × Addr × Value)} (rel : KT H kvs ks) : ∀ x ∈ ks, H x.2.1 = some (.tup (x.1.map kV)) := by
  induction rel with
  | nil => intro x hx; cases hx
  | cons h _ ih =>
    intro x hx
    rcases List.mem_cons.mp hx with rfl | hx
    · rw [← h.1]; exact h.2.1
    · exact ih x hx
theorem kt_upd {H : Hp} {p : Addr} {o : HO} (fr : H p = none) {kvs : List (List Key × V)} {ks : List (List Key × Addr × Value)} (rel : KT H kvs ks) : KT (upd H p o) kvs ks := by
  induction rel with
  | nil => exact .nil
  | cons h _ ih => exact .cons ⟨h.1, by rw [upd_ne (ne_of_none h.2.1 fr)]; exact h.2.1, h.2.2⟩ ih
theorem dp_mono {K : PySem.W.Frag} {F H : Hp} (e : Ext F H) {ts : List Addr} {kvs : List (List Key × V)} (d : DPair K F ts kvs) : DPair K H ts kvs := by
  unfold DPair at *
  induction d with
  | nil => exact .nil
  | cons h _ ih => exact .cons (let ⟨b, h1, h2⟩ := h; ⟨b, e _ _ h1, e _ _ h2⟩) ih
def rDictC (K : PySem.W.Frag) : List V → Hp → VK → Prop := fun xs H Q => ∃ (a : Addr) (ts : List Addr) (kvs : List (List Key × V)), xs = [.ref a] ∧ SqL K H a (ts.map V.ref) ∧ DPair K H ts kvs ∧ (kvs.map (·.1)).Nodup ∧
    ∀ p, H p = none → Q (.ref p) (upd H p (.dT kvs))
theorem call_dictC {X : Cx} (hcalm : X.calm = true) (hu : X.A.units + 4 < cLine) : CallR X (.type "dict") (rDictC X.K) := by
  intro pins s σ H xs us Q I r q
  obtain ⟨a, ts, kvs, ex, hq, hp, nd, q⟩ := q
  subst ex
  obtain ⟨u, eu, rx⟩ := vals1 r
  subst eu
  cases rx
  obtain ⟨its, rv, pl, hz⟩ := I.list hq
  have ei := refs_at rv
  subst ei
  rw [List.length_map] at hz
  obtain ⟨ks, rel, hl, hpr⟩ := dpairs_of I hp
  obtain ⟨o, n, ho, hc, hd, hdat⟩ := pl
  have ek : ks.map (·.1) = kvs.map (·.1) := by
    exact kt_keys rel
  have kin : ∀ x ∈ ks, H x.2.1 = some (.tup (x.1.map kV)) := by
    exact kt_in rel
  have hlen : (ks.map fun q => ((Value.ref q.2.1, q.2.2) : Value × Value)).length = ts.length := by rw [List.length_map, hl]
  refine PySem.call_dict_pairsH (knd := tupleKind (mixKind X.prog X.w)) (ps := ks) (PySem.PairArg.list a (ts.map Value.ref).toArray (fun j => (ts[j]?).getD 0) (ks.map fun q => (.ref q.2.1, q.2.2))) (I.ok.hd hcalm) (show X.A.units + 2 < cLine by omega) ⟨⟨o, n, ho, hc, hd, hdat⟩, ?_, ?_⟩ ⟨?_, ?_⟩ ?_ (by rw [hlen]; exact hz) fun h' tk dd k => ?_
  · simp [hl]
  · intro j key v hj
    rw [List.getElem?_map] at hj
    cases e : ks[j]? with
    | none => rw [e] at hj; cases hj
    | some x =>
      rw [e] at hj
      have hj : (Value.ref x.2.1, x.2.2) = (key, v) := Option.some.inj hj
      cases hj
      obtain ⟨t, e1, e2⟩ := hpr j x e
      dsimp only
      rw [e1]
      exact ⟨by simp [e1], .inl e2⟩
  · simp
  · intro i key v hj
    have hj : (ks.map fun q => ((Value.ref q.2.1, q.2.2) : Value × Value))[i]? = some (key, v) := hj
    rw [List.getElem?_map] at hj
    cases e : ks[i]? with
    | none => rw [e] at hj; cases hj
    | some x =>
      rw [e] at hj
      have hj : (Value.ref x.2.1, x.2.2) = (key, v) := Option.some.inj hj
      cases hj
      exact ⟨x.1, x.2.1, rfl, rfl⟩
  · intro h' hk x hx
    obtain ⟨o2, it2, n2, h1, rest⟩ := key_of I.hok (kin x hx)
    exact ⟨o2, it2, n2, hk _ _ (Nat.ne_of_lt (Heap.lt_size h1)) (by simp) h1, rest⟩
  · rw [PySem.storedAllH_nil_of_nodup ks (by rw [ek]; exact nd)] at dd
    have hm : (s.heap.objs.size == sysModules) = false := beq_eq_false_iff_ne.mpr (Nat.ne_of_gt I.big)
    have fr := I.hok.fresh (Nat.le_refl s.heap.objs.size)
    have kl : kvs.length = ks.length := by
      have := congrArg List.length ek
      rw [List.length_map, List.length_map] at this
      exact this.symm
    obtain ⟨q0, es, epo, g1, g2, g3, g4, g5, g6⟩ := dd
    have rel2 : KT (upd H s.heap.objs.size (.dT kvs)) kvs ks := by
      exact kt_upd fr rel
    exact ⟨.ref s.heap.objs.size, upd H s.heap.objs.size (.dT kvs), I.laid (t' := tk) (fun b o e => k b o (by simp) e) (Nat.le_refl _) (show ObjOk X.prog X.w _ _ _ (.dT kvs) from ⟨by rw [kl, hl]; exact hz, hm, ks, rel2, q0, es, epo, g1, g2, g3, g4, g6⟩), rfl, q _ fr⟩
section
variable {β : Type} [DecidableEq β] [Datum β] [Enc β]
theorem dpairs_lay {K : PySem.W.Frag} {F : Hp} : ∀ {ps : List ((Int × Int) × β)} {vs : List V}, Reps K F vs (ps.map enc) →
    ∃ (ts : List Addr) (kvs : List (List Key × V)), vs = ts.map V.ref ∧ DPair K F ts kvs ∧ kvs.map (·.1) = ps.map (fun p => DKey.kt p.1) ∧ Reps K F (kvs.map (·.2)) (ps.map fun p => enc p.2)
  | [], _, r => by cases r; exact ⟨[], [], rfl, .nil, rfl, .nil⟩
  | p :: ps, _, r => by
    cases r with
    | cons h r =>
      obtain ⟨ts, kvs, rfl, dp, hk, rr⟩ := dpairs_lay r
      cases h with
      | tup ht h2 =>
        cases h2 with
        | cons h1 h2 =>
          cases h2 with
          | cons h2 h3 =>
            cases h3
            obtain ⟨b, rfl, hb⟩ := DKey.rept (κ := Int × Int) rfl p.1 h1
            exact ⟨_ :: ts, (DKey.kt p.1, _) :: kvs, rfl, .cons ⟨b, ht, hb⟩ dp, by rw [List.map_cons, List.map_cons, hk], .cons h2 rr⟩
variable {S : Sig} {ρ : Env} {a : Expr} {pos p2 : Pos}
theorem xp_dictP [Calm S] {ps : List ((Int × Int) × β)} (hm : S.mg "dict" = none) (h : TP S ρ a ps) (nd : (ps.map (·.1)).Nodup) (hg : S.scope.names.lookup ("dict" : Str) = some .globalImplicit := by rfl) (he : ∀ env : PySem.Env, starEach [a] env = (false, eval a env) :: starEach [] env := by intro _; rfl) (hpl : ∀ env : PySem.Env, (backTo pos (starEach [] env)).any (·.1) = false := by intro _; rfl) : XP S ρ (.Call (.Name "dict" p2) [a] [] pos) (.ok (fD ps)) := by
  obtain ⟨t, a1, a2⟩ := xa_cons h xa_nil he
  refine ⟨_, fun q o => pe_callTy (X := S.cx q) (show CallR (S.cx q) (.type "dict") (rDictC S.K) from call_dictC (X := S.cx q) Calm.h (by have := o.room.un; show q.A.units + 4 < cLine; omega)) (show S.scope.names.lookup ("dict" : Str) = some .globalImplicit from hg) hm (by decide +kernel) (a1 q o) (by decide) (by decide) (he _) (hpl _), fun σ F H A Q w n q => a2 σ F H A _ w n fun vs F1 H1 g r1 => ?_⟩
  obtain ⟨v, rfl, r⟩ := reps1 r1
  cases r with
  | lst hv r =>
    obtain ⟨ts, kvs, rfl, dp, hk, rr⟩ := dpairs_lay r
    refine ⟨_, ts, kvs, rfl, .of (g.ext _ _ hv), ?_, ?_, fun p hp => ?_⟩
    · exact dp_mono g.ext dp
    · rw [hk]
      have : (ps.map fun p => DKey.kt p.1) = (ps.map (·.1)).map (DKey.kt (κ := Int × Int)) := by rw [List.map_map]; rfl
      rw [this, List.nodup_iff_pairwise_ne, List.pairwise_map]
      exact (List.nodup_iff_pairwise_ne.mp nd).imp fun {x y} z e => z (DKey.injt rfl x y e)
    · have g3 := Grow.new (o := .dT kvs) g.ext hp
      refine q (.ref p) _ _ (g.trans g3) ?_
      unfold fD
      rw [if_pos (show DKey.tk (Int × Int) = true from rfl)]
      exact .dt upd_same hk (rr.mono g3.stp.fs)
end
end G

namespace G
open PySem PySem.Spec PyProof.Rows L2
open PySem.W (Datum DatumOrd Tup T3 EachIs)
open Enc (enc)
/-! ### a comprehension whose element raises: what is in the air of its block -/
section
variable {M : Model} {A : Around} {E E₁ : Value → Shared → Prop} {B : Heap} {env cenv : PySem.Env} {outer l : List PySem.Env} {a L C : Addr} {Z : Obj → Prop} {s : Shared}
theorem looks_otherZ {Q : Unit → Shared → Prop} (hZ : PXN.Steady1 Z) (hfr : A.frames = some (env :: outer)) (hf : env.frame = some L) (hCL : C ≠ L) (hfl : HandSPX.HeldZ B (env :: outer) a Z C s.heap)
    (hQ : ∀ h', HandSPX.HeldZ B (env :: outer) a Z L h' → s.heap.UpToSlots h' → Q () { s with heap := h' }) : wpAny M A (noteFrame (.ref a) env) Q E₁ s := by
  obtain ⟨hkb, hen, hl, oe, vs, T, oT, ts, he, hz, hd, h1, hnT, hTe, hT, hdT, h3⟩ := hfl
  unfold noteFrame
  simp only [hf]
  refine wpAny_bind (wpAny_field he hd h1 ?_)
  rw [if_pos (show (Value.ref T != Value.none) = true from by simp)]
  refine wpAny_bind (wpAny_field hT hdT h3 ?_)
  rw [if_neg (show ¬ ((rawInt C == rawInt L) = true) from fun z => by
    rw [beq_iff_eq] at z
    unfold rawInt at z
    injection z with z1
    exact hCL (Int.ofNat.inj z1))]
  refine wpAny_bind (wpAny_setField hT hdT (Array.getElem?_eq_some_iff.mp h3).1 ?_)
  have other : ∀ b, b ≠ T → (s.heap.update T (Obj.mapFields (·.setIfInBounds 3 Value.none))).get? b = s.heap.get? b := fun b hb => Heap.get?_update_other _ _ (Ne.symm hb)
  have noRecord : ∀ b o, s.heap.get? b = some o → (∀ vs, o.data ≠ .fields vs) → b ≠ T := fun b o hb hnf q => by
    rw [q, hT] at hb; injection hb with hb; subst hb; exact hnf ts hdT
  refine PXN.wpAny_entryZ hZ hfr (hl.of_keeps fun b o hb hnf => ⟨o, (other b (noRecord b o hb hnf)).trans hb, rfl⟩) hf ((other a (Ne.symm hTe)).trans he)
    (fun b o hbo => (other b fun q => by rw [q, hnT] at hbo; cases hbo).trans (hkb b o hbo)) hen hd (Array.getElem?_eq_some_iff.mp h1).1 hz fun h' hN => ?_
  obtain ⟨x1, x2, x3, x4⟩ := hN
  exact hQ h' ⟨x1, hen, x2, x3⟩ fun b o hb hnf => x4 b o ((other b (noRecord b o hb hnf)).trans hb) hnf
/-- noted by the frame around the block -/
theorem note_sky {Q : Unit → Shared → Prop} (hZ : PXN.Steady1 Z) (hfr : A.frames = some (env :: outer)) (hcf : cenv.frame = env.frame) (hf : env.frame = some L) (x : Sky B (env :: outer) a Z L s.heap ∨ (C ≠ L ∧ HandSPX.HeldZ B (env :: outer) a Z C s.heap))
    (hQ : ∀ h1, HandSPX.HeldZ B (env :: outer) a Z L h1 → s.heap.UpToSlots h1 → Q () { s with heap := h1 }) : wpAny M A (noteFrame (.ref a) cenv) Q E₁ s := by
  rw [noteFrame_env _ hcf]
  rcases x with (⟨hB, hn, hl, oe, vs, he, hz, hd, h1⟩ | fl | hh) | ⟨hCL, hh⟩
  · exact PXN.look_newZ hZ hfr hl hf he hB hn hd h1 hz hQ
  · exact PXN.looks_onZ hZ hfr hf fl hQ
  · exact HandSPX.againZ hf hh.2.2.2 (hQ s.heap hh (Heap.UpToSlots.refl _))
  · exact looks_otherZ hZ hfr hf hCL hh hQ
theorem compFails_Z {m : Str → Option Value} (hf : cenv.frame = some L) (hbC : B.get? cenv.locals = none) (hn : s.heap.Ns cenv.locals m) (hh : HandSPX.HeldZ B l a Z L s.heap)
    (hQ : ∀ h', HandSPX.HeldZ B l a Z L h' → (∀ b o, s.heap.get? b = some o → b ≠ cenv.locals → (∀ vs, o.data ≠ .fields vs) → ∃ sl, h'.get? b = some { o with slots := sl }) → E (.ref a) { s with heap := h' }) : CompFails M A E cenv (.ref a) s := by
  refine ⟨m, hn, fun h₂ m₂ hn₂ hs₂ => ?_⟩
  obtain ⟨b1, b0, f1, oe, vs, T, oT, ts, he, hz, hd, h1, hnT, hTe, hT, hdT, h3⟩ := hh
  obtain ⟨oL, _, _, hoL, hdL, _⟩ := hn
  have neF : ∀ b o vs, s.heap.get? b = some o → o.data = .fields vs → b ≠ cenv.locals := fun b o vs e d q => by
    rw [q, hoL] at e
    cases e
    rw [hdL] at d
    cases d
  have he2 : h₂.get? a = some oe := (hs₂.2 a (neF _ _ _ he hd)).trans he
  have hT2 : h₂.get? T = some oT := (hs₂.2 T (neF _ _ _ hT hdT)).trans hT
  have b2 : B.StaysIn h₂ := fun b o hb => (hs₂.2 b fun q => by rw [q, hbC] at hb; cases hb).trans (b1 b o hb)
  have f2 : h₂.FunFrames B l := Heap.FunFrames.sameBut hs₂ hn₂ f1
  have hh2 : HandSPX.HeldZ B l a Z L h₂ := ⟨b2, b0, f2, oe, vs, T, oT, ts, he2, hz, hd, h1, hnT, hTe, hT2, hdT, h3⟩
  unfold PySem.passOn
  refine wpAny_bind (wpAny_field he2 hd h1 ?_)
  rw [if_neg (show ¬ ((Value.ref T == Value.none) = true) from by simp)]
  rw [hf]
  refine wpAny_bind (HandSPX.setFlight_onZ hh2 fun h₃ hh3 k3 => ?_)
  refine wpAny_throw ?_
  exact hQ h₃ hh3 fun b o hb hbL hnf => k3 b o ((hs₂.2 b hbL).trans hb) hnf
end
section
variable {X : Cx} {W : WX} {C : Addr} {cenv : PySem.Env} {σ : L2.St} {u : Value} {s s' : Shared} {pins : List (Addr × Obj)} {H : Hp}
/-- an exception in the air of a block of X whose names lie at C -/
structure XCd (X : Cx) (W : WX) (C : Addr) (σ : L2.St) (u : Value) (s' : Shared) (P : Heap → Addr → (Obj → Prop) → Heap → Prop) : Prop where
  ex : ∃ (a : Addr) (B : Heap) (sI : Shared) (pins : List (Addr × Obj)) (H : Hp) (cls : Value) (d : Option Addr) (m : Str → Option Value),
    u = .ref a ∧ Inv X pins σ H sI ∧ (∀ b o, sI.heap.get? b = some o → b ∉ frs X.stack → B.get? b = some o) ∧ (∀ b o, sI.heap.get? b = some o → (∀ vs, o.data ≠ .fields vs) → ∃ sl, s'.heap.get? b = some { o with slots := sl }) ∧
      sI.heap.get? C = none ∧ B.get? C = none ∧ s'.heap.Ns C m ∧ P B a (L2N.Zn cls d) s'.heap ∧ H a = none ∧ s'.os = sI.os ∧ AllBare s'.gens ∧ W cls d σ H
def XC (X : Cx) (W : WX) (C : Addr) (σ : L2.St) (u : Value) (s' : Shared) : Prop := XCd X W C σ u s' fun B a Z h => Sky B X.stack a Z X.env.locals h ∨ (C ≠ X.env.locals ∧ HandSPX.HeldZ B X.stack a Z C h)
def XH (X : Cx) (W : WX) (C : Addr) (σ : L2.St) (u : Value) (s' : Shared) : Prop := XCd X W C σ u s' fun B a Z h => HandSPX.HeldZ B X.stack a Z X.env.locals h
theorem XH.c (h : XH X W C σ u s') : XC X W C σ u s' := let ⟨a, B, sI, pins, H, cls, d, m, e, I, nb, up, c1, c2, n, p, r⟩ := h.ex
  ⟨a, B, sI, pins, H, cls, d, m, e, I, nb, up, c1, c2, n, .inl (.inr (.inr p)), r⟩
theorem XC.note {M : Model} {E₁ : Value → Shared → Prop} {Q : Unit → Shared → Prop} (hs : X.stack = X.env :: X.outer) (hf : X.env.frame = some X.env.locals) (hcf : cenv.frame = X.env.frame) (x : XC X W C σ u s') (hQ : ∀ s'', XH X W C σ u s'' → Q () s'') : wpAny M X.A (noteFrame u cenv) Q E₁ s' := by
  obtain ⟨a, B, sI, pins, H, cls, d, m, rfl, I, nb, up, c1, c2, n, p, na, os, ag, w⟩ := x.ex
  have hfr : X.A.frames = some (X.env :: X.outer) := by rw [I.ok.frames, hs]
  rw [hs] at p
  refine note_sky L2N.Zn.steady hfr hcf hf p fun h1 hh k => hQ _ ⟨a, B, sI, pins, H, cls, d, m, rfl, I, nb, fun b o e hn => ?_, c1, c2, n.upToSlots k, ?_, na, os, ag, w⟩
  · obtain ⟨sl, e1⟩ := up b o e hn
    obtain ⟨sl2, e2⟩ := k b _ e1 hn
    exact ⟨sl2, e2⟩
  · show HandSPX.HeldZ B X.stack a _ _ h1
    rw [hs]
    exact hh
theorem XH.back {M : Model} (hf : X.env.frame = some X.env.locals) (hcf : cenv.frame = X.env.frame) (x : XH X W C σ u s') : cameBackBy M X.A cenv (XC X W C σ) u s' := by
  obtain ⟨a, B, sI, pins, H, cls, d, m, rfl, I, nb, up, c1, c2, n, p, na, os, ag, w⟩ := x.ex
  have p0 := p
  obtain ⟨_, _, _, oe, vs, T, oT, ts, he, hz, hd, h1, _⟩ := p
  unfold cameBackBy
  refine wpAny_bind (wpAny_field he hd h1 ?_)
  rw [if_neg (show ¬ ((Value.ref T == Value.none) = true) from by simp), hcf, hf]
  refine HandSPX.setFlight_onZ p0 fun h' hh k => (XH.c ⟨a, B, sI, pins, H, cls, d, m, rfl, I, nb, fun b o e hn => ?_, c1, c2, n.upToSlots k, hh, na, os, ag, w⟩)
  obtain ⟨sl, e1⟩ := up b o e hn
  obtain ⟨sl2, e2⟩ := k b _ e1 hn
  exact ⟨sl2, e2⟩
theorem XC.passes {M : Model} (hs : X.stack = X.env :: X.outer) (hf : X.env.frame = some X.env.locals) (hcf : cenv.frame = X.env.frame) : PassesOwn M X.A cenv (XC X W C σ) := fun e s' x =>
  x.note hs hf hcf fun s'' h => h.back hf hcf
theorem XH.fails {M : Model} (tk : L2N.Takes X W) (hs : X.stack = X.env :: X.outer) (hf : X.env.frame = some X.env.locals) (hcf : cenv.frame = X.env.frame) (hC : cenv.locals = C) (x : XH X W C σ u s') : CompFails M X.A X.xe cenv u s' := by
  obtain ⟨a, B, sI, pins, H, cls, d, m, rfl, I, nb, up, c1, c2, n, p, na, os, ag, w⟩ := x.ex
  refine compFails_Z (m := m) (hcf.trans hf) (by rw [hC]; exact c2) (by rw [hC]; exact n) p fun h' hh k => ?_
  refine tk _ _ ⟨a, B, sI, pins, σ, H, cls, d, rfl, I, nb, fun b o e hn => ?_, .inr (.inr hh), na, os, ag, w⟩
  obtain ⟨sl, e1⟩ := up b o e hn
  obtain ⟨sl2, e2⟩ := k b _ e1 (by rw [hC]; exact fun z => by rw [z, c1] at e; cases e) hn
  exact ⟨sl2, e2⟩
theorem XC.noted {M : Model} (tk : L2N.Takes X W) (hs : X.stack = X.env :: X.outer) (hf : X.env.frame = some X.env.locals) (hcf : cenv.frame = X.env.frame) (hC : cenv.locals = C) (x : XC X W C σ u s') : notedBy M X.A cenv (CompFails M X.A X.xe cenv) u s' :=
  x.note hs hf hcf fun s'' h => h.fails tk hs hf hcf hC
/-- the context of a block that may raise -/
@[reducible] def blkX (X : Cx) (W : WX) (σ : L2.St) (s : Shared) (H : Hp) (scope : Scope) (ce : PySem.Env) (fp : List Addr) : Cx := { X.blk s H scope ce fp with xe := XC X W ce.locals σ }
theorem inv_toX {X : Cx} {e : Value → Shared → Prop} (I : Inv X pins σ H s) : Inv { X with xe := e } pins σ H s := by
  obtain ⟨⟨a1, a2, a3, a4, a5, a6, a7, a8, a9, a10, a11, a12, a13, a14, a15, a16, a17, a18⟩, b1, b2, b3, b4, b5, b6, b7, b8, b9, b10⟩ := I
  exact ⟨⟨a1, a2, a3, a4, a5, a6, a7, a8, a9, a10, a11, a12, a13, a14, a15, a16, a17, a18⟩, b1, b2, b3, b4, b5, b6, b7, b8, b9, b10⟩
/-- what a call in the block lets out -/
theorem XC.of_block {s3 : Shared} {H3 : Hp} {scope : Scope} {ce : PySem.Env} {fp : List Addr} (hs : X.stack = X.env :: X.outer) (I3 : Inv X pins σ H3 s3) (hC : ce.locals = s3.heap.objs.size) (f3 : ∀ b ∈ fp, FpOk X pins H3 b ∧ b < s3.heap.objs.size) (x : L2N.XE (blkX X W σ s3 H3 scope ce fp) (fun c d _ H => W c d σ H) u s') :
    XC X W ce.locals σ u s' := by
  obtain ⟨a, B, sI, pins', σ', H', cls, d, rfl, I', nb, up, sky, na, os, ag, w⟩ := x
  have I7 : Inv X pins σ H' sI := I3.call' (ch := fp) I'.os I'.base I'.hok I'.bare fun b hb => ⟨(f3 b hb).1.2.2.2.1, (f3 b hb).1.2.1, (f3 b hb).1.2.2.2.2.1, (f3 b hb).1.2.2.2.2.2⟩
  have nC : H' s3.heap.objs.size = none := by
    have z : H' ce.locals = none := I'.free
    rw [hC] at z
    exact z
  obtain ⟨f0, f1, f2, f3', f4, f5⟩ := I3.fpOk (Nat.le_refl _) nC
  obtain ⟨m, hn, _⟩ := I'.loc
  have hn : sI.heap.Ns ce.locals m := hn
  have I8 := I7.turned (t' := sI.toks) (it := ce.locals) (h' := PySem.W.hideAll sI.heap [ce.locals]) (fun b o hb e => PySem.W.hideAll_get [ce.locals] e (by simp [hb])) (by rw [hC]; exact f0) (by rw [hC]; exact f1) (by rw [hC]; exact f3') (by rw [hC]; exact f4) (by rw [hC]; exact f5)
  have cs : ce.locals ∉ frs X.stack := by
    rw [hs, hC]
    intro z
    rcases List.mem_cons.mp (I7.stkSub _ (by rw [hs]; exact z)) with q | q
    · exact f1 q
    · exact f2 q
  have hB : ∀ b o, (PySem.W.hideAll B [ce.locals]).get? b = some o → B.get? b = some o := fun b o e => PySem.W.of_hideAll _ e
  have cB : (PySem.W.hideAll B [ce.locals]).get? ce.locals = none := PySem.W.hideAll_none _ (by simp)
  have st : ∀ {h : Heap}, B.StaysIn h → (PySem.W.hideAll B [ce.locals]).StaysIn h := fun k b o e => k b o (hB b o e)
  have no : ∀ {b : Addr}, B.get? b = none → (PySem.W.hideAll B [ce.locals]).get? b = none := fun {b} e => by
    cases q : (PySem.W.hideAll B [ce.locals]).get? b with
    | none => rfl
    | some o => rw [hB b o q] at e; cases e
  have fun' : ∀ {h : Heap}, h.FunFrames B X.stack → h.FunFrames (PySem.W.hideAll B [ce.locals]) X.stack := fun {h} k => funFrames_none k fun b hb => no ((Heap.FunFrames.mem k hb).1)
  have tr : ∀ {h : Heap} {fl : Value}, HandSPX.TracedZ h B a (L2N.Zn cls d) fl → HandSPX.TracedZ h (PySem.W.hideAll B [ce.locals]) a (L2N.Zn cls d) fl := fun ⟨oe, vs, T, oT, ts, he, hz, hd, h1, hnT, r⟩ => ⟨oe, vs, T, oT, ts, he, hz, hd, h1, no hnT, r⟩
  refine ⟨a, PySem.W.hideAll B [ce.locals], { sI with heap := PySem.W.hideAll sI.heap [ce.locals] }, pins, H', cls, d, m, rfl, I8, fun b o e hb => ?_, fun b o e hnf => ?_, PySem.W.hideAll_none _ (by simp), cB, hn.upToSlots up, ?_, na, os, ag, w⟩
  · have e' := PySem.W.of_hideAll _ e
    refine PySem.W.hideAll_get _ (nb b o e' hb) ?_
    intro z
    rw [List.mem_singleton.mp z, PySem.W.hideAll_none _ (by simp)] at e
    cases e
  · exact up b o (PySem.W.of_hideAll _ e) hnf
  · rcases sky with ⟨k1, k2, k3, k4⟩ | ⟨k1, k2, k3, k4⟩ | ⟨k1, k2, k3, k4⟩
    · exact .inl (.inl ⟨st k1, no k2, fun' k3, k4⟩)
    · exact .inl (.inr (.inl ⟨st k1, no k2, fun' k3, tr k4⟩))
    · exact .inr ⟨by rw [hC]; exact f1, st k1, no k2, fun' k3, tr k4⟩
end
section
variable {X : Cx} {W : WX} {pins : List (Addr × Obj)} {s : Shared} {σ : L2.St} {H : Hp} {Q : VK} {elt tg iter : Expr} {scope : Scope} {own : List (Str × Nat)} {pos pos' : Pos} {wi : TI} {g : TG} {te : TE} {use : Option (Value → Sem Unit)} {Qf : Value → Shared → Prop}
theorem lc_coreX (hc : X.calm = true) (hN : X.N.Nodup) (hst : X.stack = X.env :: X.outer) (hfr : X.env.frame = some X.env.locals) (tk : L2N.Takes X W) (I : Inv X pins σ H s) (hi : PI X tg iter wi) (ok : BlkOk X.N X.env.scope scope own)
    (hg : ∀ (s : Shared) (H : Hp) (C : Addr) (cl : List (Str × Addr)) (fp : List Addr), L2N.Takes (blkX X W σ s H scope (compEnvC scope cl C X.env) fp) (fun c d _ H => W c d σ H) → PassesOwn (model X.prog X.w) X.A (compEnvC scope cl C X.env) (XC X W C σ) → PG (blkX X W σ s H scope (compEnvC scope cl C X.env) fp) tg g)
    (he : ∀ (s : Shared) (H : Hp) (C : Addr) (cl : List (Str × Addr)) (fp : List Addr), L2N.Takes (blkX X W σ s H scope (compEnvC scope cl C X.env) fp) (fun c d _ H => W c d σ H) → PassesOwn (model X.prog X.w) X.A (compEnvC scope cl C X.env) (XC X W C σ) → PE (blkX X W σ s H scope (compEnvC scope cl C X.env) fp) elt te) (hs : ∀ x, foldedSetIterable iter X.env x = pure x)
    (h : tLc wi g tYes te (own.map (·.2)) σ H Q)
    (hRR : ∀ D ce s' m H', Inv X pins σ H' s' → Q (.ref D) H' → s'.heap.Ns ce.locals m → FpOk X pins H' ce.locals → compEnds (model X.prog X.w) X.A X.xe use Qf (.ref D) ce (.ok .next) s') :
    wpAny (model X.prog X.w) X.A (comprehension (.ListComp elt [⟨tg, iter, [], 0⟩] scope pos) scope X.env pos' (newList []) false (eval iter X.env) use) Qf X.xe s := by
  have hfree : ∀ y ∈ scope.names, y.2 = .free → ∃ c, X.env.cells.lookup y.1 = some c := fun y hy e => by
    rcases ok.free y hy e with k | k
    · exact I.ok.has _ (.inl k)
    · exact I.ok.has _ (.inr k)
  refine comprehension_at (use := use) rfl hs (closure_ok hfree) ok.kind (fun y hy e => by rw [ok.uniq y hy, e])
    (thn (hi.run pins s σ H _ I h) fun xv s1 hx => thn hx fun itv s2 h2 => ?_)
  obtain ⟨it, fp, tn, J, H2, e, I2, T, st2, f2, q⟩ := h2
  subst e
  refine wpAny_newObj_type (newEnv_comp ?_) (by show 0 ≤ sizeLine; decide)
  generalize hD : s2.heap.objs.size = D
  have hDn : H2 D = none := I2.hok.fresh (Nat.le_of_eq hD)
  obtain ⟨Wk, ⟨m0, w0⟩, turn⟩ := q D hDn
  generalize hs3 : ({ s2 with heap := s2.heap.push { cls := .type "list", data := .seq ([] : List Value).toArray } } : Shared) = s3
  have I3 : Inv X pins σ (upd H2 D (.lst [])) s3 := by
    rw [← hs3]
    refine I2.laid (t' := s2.toks) (fun b o e => Heap.get?_push_of_some _ e) (Nat.le_of_eq hD) ⟨Nat.zero_le _, [], 0, .nil, ?_⟩
    rw [← hD]
    exact Heap.get?_push_size _ rfl
  have h3 : s3.heap = s2.heap.push { cls := .type "list", data := .seq ([] : List Value).toArray } := by rw [← hs3]
  have sz : ∀ b ∈ fp, b < s2.heap.objs.size := fun b hb => by
    obtain ⟨o, e, _⟩ := T.obj _ _ st2 b hb
    exact Heap.lt_size e
  have f3 : ∀ b ∈ fp, FpOk X pins (upd H2 D (.lst [])) b ∧ b < s3.heap.objs.size := fun b hb => by
    have hlt := sz b hb
    refine ⟨⟨?_, (f2 b hb).2⟩, by rw [h3, Heap.size_push]; exact Nat.lt_succ_of_lt hlt⟩
    rw [upd_ne (by rw [← hD]; exact Nat.ne_of_lt hlt)]
    exact (f2 b hb).1
  have st3 : tn 0 s3.heap := T.keep _ _ _ st2 fun b _ o e => by rw [h3]; exact Heap.get?_push_of_some _ e
  have tkb : L2N.Takes (blkX X W σ s3 (upd H2 D (.lst [])) scope (compEnvC scope (cellsFrom (s3.heap.objs.size + 1) scope.names (cloFrom X.env.cells scope.names [])) s3.heap.objs.size X.env) fp) (fun c d _ H => W c d σ H) := fun u s' x => XC.of_block hst I3 rfl f3 x
  have pob : PassesOwn (model X.prog X.w) X.A (compEnvC scope (cellsFrom (s3.heap.objs.size + 1) scope.names (cloFrom X.env.cells scope.names [])) s3.heap.objs.size X.env) (XC X W s3.heap.objs.size σ) := XC.passes hst hfr rfl
  have I4 := inv_toX (e := XC X W s3.heap.objs.size σ) (block_start I3 ok hN f3)
  have pg := hg s3 (upd H2 D (.lst [])) s3.heap.objs.size (cellsFrom (s3.heap.objs.size + 1) scope.names (cloFrom X.env.cells scope.names [])) fp tkb pob
  have pe := he s3 (upd H2 D (.lst [])) s3.heap.objs.size (cellsFrom (s3.heap.objs.size + 1) scope.names (cloFrom X.env.cells scope.names [])) fp tkb pob
  show codeAny _ _ (.compStart (.ListComp elt [⟨tg, iter, [], 0⟩] scope pos) 0 (.ref it) (.ref D) (compEnvC scope (cellsFrom (s3.heap.objs.size + 1) scope.names (cloFrom X.env.cells scope.names [])) s3.heap.objs.size X.env)) (compEnds (model X.prog X.w) X.A X.xe use Qf (.ref D) (compEnvC scope (cellsFrom (s3.heap.objs.size + 1) scope.names (cloFrom X.env.cells scope.names [])) s3.heap.objs.size X.env)) { s3 with heap := pushCells (s3.heap.push { cls := .type "dict", data := .dict #[] }) scope.names }
  have nfp : ∀ b ∈ fp, (upd H2 D (.lst [])) b = none := fun b hb => (f3 b hb).1.1
  have err : ∀ e s', XC X W s3.heap.objs.size σ e s' → notedBy (model X.prog X.w) X.A (compEnvC scope (cellsFrom (s3.heap.objs.size + 1) scope.names (cloFrom X.env.cells scope.names [])) s3.heap.objs.size X.env) (fun e s' => compEnds (model X.prog X.w) X.A X.xe use Qf (.ref D) (compEnvC scope (cellsFrom (s3.heap.objs.size + 1) scope.names (cloFrom X.env.cells scope.names [])) s3.heap.objs.size X.env) (.error e) s') e s' := fun e s' x =>
    XC.note hst hfr rfl x fun s'' z => by
      have zz := z.fails (M := model X.prog X.w) (cenv := compEnvC scope (cellsFrom (s3.heap.objs.size + 1) scope.names (cloFrom X.env.cells scope.names [])) s3.heap.objs.size X.env) tk hst hfr rfl rfl
      cases use <;> exact zz
  generalize hce : compEnvC scope (cellsFrom (s3.heap.objs.size + 1) scope.names (cloFrom X.env.cells scope.names [])) s3.heap.objs.size X.env = ce at I4 pg pe err ⊢
  have cL : ce.locals = s3.heap.objs.size := by subst hce; rfl
  rw [← cL] at I4 err
  generalize hH3 : upd H2 D (.lst []) = H3 at I3 I4 pg pe w0 nfp f3
  generalize hs4 : ({ s3 with heap := pushCells (s3.heap.push { cls := .type "dict", data := .dict #[] }) scope.names } : Shared) = s4 at I4 ⊢
  have st4 : tn 0 s4.heap := T.keep _ _ _ st3 fun b _ o e => by rw [← hs4]; exact pushCells_keeps _ _ _ _ (Heap.get?_push_of_some _ e)
  have stat : ∀ {σ' : L2.St} {H' : Hp} {s' : Shared}, Inv (blkX X W σ s3 H3 scope ce fp) [] σ' H' s' → (∀ b ∈ fp, H' b = none) → ∀ b ∈ fp, FpOk (blkX X W σ s3 H3 scope ce fp) [] H' b := fun {σ' H' s'} I' hn b hb =>
    ⟨hn b hb, (I'.ok.exf b hb).1, I'.ok.exfs b hb, .inl hb, fun x c e => (I'.ok.exf b hb).2 x c e, fun p hp => absurd (show p ∈ ([] : List (Addr × Obj)) ++ [] from hp) (by simp)⟩
  have loop : codeAny (model X.prog X.w) X.A (.compLoop (.ListComp elt [⟨tg, iter, [], 0⟩] scope pos) 0 (.ref it) (.ref D) ce) (compEnds (model X.prog X.w) X.A X.xe use Qf (.ref D) ce) s4 := by
    refine compLoop_any (fun n s' => ∃ i H', Inv (blkX X W σ s3 H3 scope ce fp) [] (L2.wipe σ (own.map (·.2))) H' s' ∧ tn i s'.heap ∧ (∀ b ∈ fp, H' b = none) ∧ Wk i n H') ?_ m0 ⟨0, H3, I4, st4, nfp, w0⟩
    rintro n s5 ⟨i, H5, I5, st5, n5, w5⟩
    rcases turn i n H5 w5 with ⟨stop, qq⟩ | ⟨go, Nx, hNx, step⟩
    · have td := T.done (blkX X W σ s3 H3 scope ce fp) rfl rfl rfl hc i [] s5 _ H5 (fun _ _ => False) I5 (stat I5 n5) st5 stop
      refine thnF td fun r s6 ⟨hr, I6⟩ => ?_
      subst hr
      have I7 : Inv X pins σ H5 s6 := I3.call' (ch := fp) I6.os I6.base I6.hok I6.bare fun b hb => ⟨(f3 b hb).1.2.2.2.1, (f3 b hb).1.2.1, (f3 b hb).1.2.2.2.2.1, (f3 b hb).1.2.2.2.2.2⟩
      have nC : H5 s3.heap.objs.size = none := by
        have z : H5 ce.locals = none := I6.free
        rw [cL] at z
        exact z
      obtain ⟨m, hn, _⟩ := I6.loc
      have hn : s6.heap.Ns ce.locals m := hn
      exact hRR D ce s6 m H5 I7 qq hn (by rw [cL]; exact I3.fpOk (Nat.le_refl _) nC)
    · have ti := T.item (blkX X W σ s3 H3 scope ce fp) rfl rfl rfl hc i [] s5 _ H5 (fun _ _ => False) I5 (stat I5 n5) st5 go
      refine thnF ti fun r s6 ⟨u, hr, h6⟩ => ?_
      subst hr
      refine thnF h6 fun _ s7 ⟨x, H7, I7, r7, y7, st7, n7⟩ => ?_
      have I7' := I7.pinned (stat I7 n7) (T.obj _ _ st7)
      refine wpAny_mono (pg.run _ s7 _ H7 x u _ I7' r7 (step x H7 y7)) (fun _ s8 h8 => ?_) err
      obtain ⟨σ8, H8, I8, hw8, q8⟩ := h8
      have q8 : (if (true : Bool) = true then te σ8 H8 fun y H4 => ∃ acc, H4 D = some (.lst acc) ∧ acc.length < sizeLine ∧ Nx (upd H4 D (.lst (acc ++ [y]))) else Nx H8) := q8
      rw [if_pos rfl] at q8
      refine wpAny_tests_nil ?_
      rw [if_pos rfl]
      have fin : ∀ {s' : Shared} {H' : Hp}, Inv (blkX X W σ s3 H3 scope ce fp) ([] ++ pinsAt fp s7.heap) σ8 H' s' → Nx H' → ∃ m, m < n ∧ ∃ i H', Inv (blkX X W σ s3 H3 scope ce fp) [] (L2.wipe σ (own.map (·.2))) H' s' ∧ tn i s'.heap ∧ (∀ b ∈ fp, H' b = none) ∧ Wk i m H' := fun {s' H'} I' nx => by
        obtain ⟨m', hm, w'⟩ := hNx H' nx
        have pin' : ∀ b ∈ fp, ∀ o, s7.heap.get? b = some o → s'.heap.get? b = some o ∧ H' b = none := fun b hb o e =>
          let z := I'.pin (b, o) (List.mem_append_right _ (List.mem_append_right _ (mem_pinsAt hb e)))
          ⟨z.1, z.2.1⟩
        have hl : (L2.wipe σ (own.map (·.2))).length = σ8.length := by rw [← hw8, wipe_length]
        refine ⟨m', hm, i + 1, H', (I'.unpinned (pins := [])).weak hl (fun j v e => ?_), T.keep _ _ _ st7 fun b hb o e => (pin' b hb o e).1, fun b hb => ?_, w'⟩
        · rw [← hw8] at e
          exact (wipe_some e).1
        · obtain ⟨o, e, _⟩ := T.obj _ _ st7 b hb
          exact (pin' b hb o e).2
      refine wpAny_mono (pe.run _ s8 σ8 H8 _ I8 q8) (fun z s10 h10 => ?_) err
      obtain ⟨yv, H10, I10, r10, acc, hD10, hz10, nx⟩ := h10
      exact app_ok (X := blkX X W σ s3 H3 scope ce fp) I10 hD10 hz10 r10 fun s11 I11 => fin I11 nx
  exact codeAny_compStart_list loop (T.self X.A 0 _ _ _ st4 loop)
end
section
variable {X : Cx} {W : WX} {elt tg iter : Expr} {scope : Scope} {own : List (Str × Nat)} {pos : Pos} {wi : TI} {g : TG}
theorem ps_setLcX {i : Nat} {y : Str} {py spos : Pos} {te : L2.St → TE} (hc : X.calm = true) (hN : X.N.Nodup) (hst : X.stack = X.env :: X.outer) (hfr : X.env.frame = some X.env.locals) (tk : L2N.Takes X W) (hy : X.N[i]? = some y) (hyl : X.env.scope.names.lookup y = some .local)
    (hsw : swapsWith (.ListComp elt [⟨tg, iter, [], 0⟩] scope pos) (some (.Name y py)) spos.line X.env = pure true) (hi : PI X tg iter wi) (ok : BlkOk X.N X.env.scope scope own)
    (hg : ∀ (σ : L2.St) (s : Shared) (H : Hp) (C : Addr) (cl : List (Str × Addr)) (fp : List Addr), L2N.Takes (blkX X W σ s H scope (compEnvC scope cl C X.env) fp) (fun c d _ H => W c d σ H) → PassesOwn (model X.prog X.w) X.A (compEnvC scope cl C X.env) (XC X W C σ) → PG (blkX X W σ s H scope (compEnvC scope cl C X.env) fp) tg g)
    (he : ∀ (σ : L2.St) (s : Shared) (H : Hp) (C : Addr) (cl : List (Str × Addr)) (fp : List Addr), L2N.Takes (blkX X W σ s H scope (compEnvC scope cl C X.env) fp) (fun c d _ H => W c d σ H) → PassesOwn (model X.prog X.w) X.A (compEnvC scope cl C X.env) (XC X W C σ) → PE (blkX X W σ s H scope (compEnvC scope cl C X.env) fp) elt (te σ)) (hs : ∀ x, foldedSetIterable iter X.env x = pure x) :
    PS X (.Assign [.Name y py] (.ListComp elt [⟨tg, iter, [], 0⟩] scope pos) spos) (fun D σ H => tLc wi g tYes (te σ) (own.map (·.2)) σ H fun x H1 => gName i x σ H1 D.nx) := by
  refine ⟨fun pins s σ H D I h => ?_⟩
  rw [exec_Assign_Name_used _ _ _ _ hsw]
  refine wpAny_bind (wpAny_standAt (wpAny_bind ?_))
  show wpAny _ X.A (do let _ ← comprehension (.ListComp elt [⟨tg, iter, [], 0⟩] scope pos) scope X.env (firstIterPos [⟨tg, iter, [], 0⟩] pos) (newList []) false (eval iter X.env) (some (assign (.Name y py) X.env))) _ _ s
  have h : tLc wi g tYes (te σ) (own.map (·.2)) σ H (fun x H1 => gName i x σ H1 D.nx) := h
  refine wpAny_bind (thn (lc_coreX (Qf := fun _ s' => SP X pins D .next s') hc hN hst hfr tk I hi ok (hg σ) (he σ) hs h fun L ce s' m H' I' q hn f => ?_) fun _ s' hq => wpAny_pure (wpAny_pure hq))
  show wpAny _ _ (assign (.Name y py) X.env (.ref L)) _ _ _
  refine wpAny_assign_Name (store_ok2 (v := V.ref L) I' hN hy (.inl hyl) rfl (fun s2 I2 ⟨a, sb, ha⟩ => ?_) (.inr hyl))
  obtain ⟨f0, f1, f2, f3, f4, f5⟩ := f
  have haC : ce.locals ≠ a := by
    rcases ha with z | z
    · rw [z]; exact f1
    · exact fun e => f4 y a z e.symm
  refine ⟨m, hn.sameBut sb haC, fun h3 sb3 => ?_⟩
  exact ⟨_, H', I2.turned (t' := s2.toks) (fun b o hb e => (sb3.2 b hb).trans e) f0 f1 f3 f4 f5, q⟩
end
/-- where the block stands, if it may raise -/
@[reducible] def Sig.blkW (S : Sig) (W : WX) (scope : Scope) : Sig := { S with scope := relS scope S.scope, wx := W, st := fun x => scope.names.lookup x == some .cell, hot := none, top := false }
section
variable {S : Sig} {ρ ρ1 : Env} {e it tg elt : Expr} {pos p2 : Pos} {pin : List Nat} {scope : Scope}
theorem blkW_cx (S : Sig) (q : Rest) (ok : S.Ok q) (σ : L2.St) (scope : Scope) (s : Shared) (H : Hp) (C : Addr) (cl : List (Str × Addr)) (fp : List Addr)
    (tkb : L2N.Takes (blkX (S.cx q) S.wx σ s H scope (compEnvC scope cl C (S.cx q).env) fp) (fun c d _ H => S.wx c d σ H)) (po : PassesOwn (model S.P S.w) q.A (compEnvC scope cl C (S.cx q).env) (XC (S.cx q) S.wx C σ)) :
    ∃ q', (S.blkW (fun c d _ H => S.wx c d σ H) scope).Ok q' ∧ (S.blkW (fun c d _ H => S.wx c d σ H) scope).cx q' = blkX (S.cx q) S.wx σ s H scope (compEnvC scope cl C (S.cx q).env) fp := by
  refine ⟨⟨q.A, s, H, compEnvC scope cl C (S.cx q).env, (S.cx q).stack, q.stack, fp, fun x => scope.names.lookup x == some .cell, [], XC (S.cx q) S.wx C σ⟩, ⟨ok.room, ok.hd, (fun _ _ z => nomatch z), (fun z => nomatch z), tkb, fun _ h => h, ok.nd, po⟩, rfl⟩
instance {S : Sig} {W : WX} {scope : Scope} [Calm S] : Calm (S.blkW W scope) := ⟨(Calm.h : S.calm = true)⟩
theorem es_lcX {α : Type} (xs : List α) (g : α → D) (r : α → Except Str D) (k : Nat) (x : Str) (hk : k < xs.length) (hok : ∀ i (h : i < xs.length), i < k → ∃ d, r xs[i] = .ok d) (hbad : r xs[k] = .error x) (own : List Nat) {wi : TI} {tgt : TG} {te : L2.St → TE} {S' : L2.St → Sig} (hK : ∀ σ, (S' σ).K = S.K)
    (hW : ∀ σ c d σ' H, S.wx c d σ H → (S' σ).wx c d σ' H) (ρb : α → Env)
    (hi : ∀ (σ : L2.St) (F H : Hp) (A : List Addr) (R : It → Hp → Prop), WF F H A → Envs S.K F H σ ρ A → (∀ J F' H', Grow F H F' H' → Src S.K J F' (xs.map g) → R J H') → wi σ H R)
    (ho : TgOwn tgt own) (hG : ∀ σ, ∀ y ∈ xs, EG (S' σ) [] tgt (wipeE ρ own) (g y) (ρb y)) (he : ∀ σ, ∀ y ∈ xs, EP (S' σ) (te σ) (ρb y) (r y)) (hl : xs.length ≤ 1000000) (i0 : Nat) :
    ES S pin (fun D σ H => tLc wi tgt tYes (te σ) own σ H fun x H1 => gName i0 x σ H1 D.nx) ρ (.ex x (some ρ)) := fun σ F H A Dn w n q => hi σ F H A _ w n fun J F1 H1 gr src => by
  intro D hD
  obtain ⟨G, Y, wk, hG1, hY⟩ := src.h
  rw [List.length_map] at wk hY
  have w1 := gr.wf w
  have n1 := gr.envs n
  obtain ⟨A1, nw1, w2, m2⟩ := Envs.wipe w1 n1 own
  have nDF : F1 D = none := by
    cases z : F1 D with
    | none => rfl
    | some u => rw [gr.ext D u z] at hD; cases hD
  refine lc_own wk ho (fun i H' => i ≤ k ∧ ∃ F' acc, WF F' H' [D] ∧ Stp F1 H1 [] F' H' [D] ∧ H' D = some (.lst acc) ∧ acc.length ≤ i) ?_ ?_ ?_ ?_
  · obtain ⟨s1, w3⟩ := Grow.own1 (o := .lst []) gr.ext hD
    exact ⟨Nat.zero_le _, F1, [], w3, s1, upd_same, Nat.le_refl _⟩
  · rintro i H' hi ⟨_, F', acc, w', s', hd, r'⟩
    exact hG1 H' (s'.fs.trans w'.sub)
  · rintro i v H' H'' hi ⟨ik, F', acc, w', s', hd, r'⟩ y
    obtain ⟨F2, d, hd2, g2, rep⟩ := hY i H' v H'' F' hi s'.fs w'.sub y
    have hx : xs[i]? = some xs[i] := List.getElem?_eq_getElem hi
    have hm : xs[i] ∈ xs := List.getElem_mem hi
    rw [List.getElem?_map, hx] at hd2
    cases hd2
    have big : ∀ (F3 H3 : Hp), Grow F' H' F3 H3 → WF F3 H3 A1 ∧ Envs S.K F3 H3 (L2.wipe σ own) (wipeE ρ own) A1 ∧ H3 D = some (.lst acc) ∧ WF F3 H3 [D] := fun F3 H3 g3 => by
      obtain ⟨w5, s5, n5⟩ := beside w2 nw1 s' w'
      have w6 := g3.wf w5
      exact ⟨w6.right, g3.envs n5, g3.hh _ _ hd, w6.left⟩
    obtain ⟨w7, n7, _, _⟩ := big F2 H'' g2
    refine hG σ xs[i] hm (L2.wipe σ own) F2 H'' A1 v _ w7 (by rw [hK]; exact n7) (by rw [hK]; exact rep) fun σ3 A3 w8 m8 n8 p8 => ?_
    unfold tYes
    dsimp only
    rw [if_pos rfl]
    by_cases hik : i < k
    · obtain ⟨dv, hdv⟩ := hok i hi hik
      have hee := he σ xs[i] hm
      rw [hdv] at hee
      refine hee σ3 F2 H'' A3 _ w8 n8 fun y F5 H5 g5 r5 => ?_
      have g6 := g2.trans g5
      obtain ⟨_, _, d5, w9⟩ := big F5 H5 g6
      refine ⟨acc, d5, line_lt (by omega), hik, F5, acc ++ [y], ⟨?_, w9.nd, w9.off, ?_⟩, ?_, upd_same, by rw [List.length_append]; exact Nat.succ_le_succ r'⟩
      · intro a u hu
        rw [upd_ne fun z => by rw [z, w9.off D (by simp)] at hu; cases hu]
        exact w9.sub a u hu
      · intro a ha
        rw [List.mem_singleton.mp ha, upd_same]
        exact fun z => z
      · have s6 : Stp F1 H1 [] F5 H5 [D] := s'.trans ((g6.stp.mono (by simp) (A' := [D])).more (C := [D]) fun a h => .inl h)
        refine ⟨s6.fs, fun a u hu _ => ?_, s6.new, s6.foot, fun a ha => ?_⟩
        · rw [upd_ne (ne_of_none hu hD)]
          exact s6.keep a u hu (by simp)
        · by_cases z : a = D
          · rw [z]; exact hD
          · rw [upd_ne z] at ha; exact s6.alive a ha
    · have hik : i = k := by omega
      subst hik
      have hee := he σ xs[i] hm
      rw [hbad] at hee
      refine hee σ3 F2 H'' A3 _ w8 n8 fun F5 H5 g5 => ?_
      rw [hK]
      have g6 := g2.trans g5
      obtain ⟨w5, s5, n5⟩ := beside w1 n1 s' w'
      have w6 := g6.wf w5
      have sa : Stp F H A F1 H1 A := (gr.stp.mono (by simp)).more (C := A) fun a h => .inl h
      have sc : Stp F' H' ([D] ++ A) F5 H5 ([D] ++ A) := (g6.stp.mono (by simp)).more (C := [D] ++ A) fun a h => .inl h
      exact hW σ _ _ _ _ (q σ F5 H5 A w6.right (((sa.trans s5).trans sc).perm (fun a => Iff.rfl) fun a h => List.mem_append_right _ h) (g6.envs n5) Pin.refl)
  · rintro H' ⟨hn, _⟩
    omega
theorem xs_lcE [Calm S] {α : Type} (hT : S.top = true) (xs : List α) (g : α → D) (r : α → Except Str D) (k : Nat) (x : Str) (hk : k < xs.length) (hok : ∀ i (h : i < xs.length), i < k → ∃ d, r xs[i] = .ok d) (hbad : r xs[k] = .error x) (own : List (Str × Nat)) {tgt : TG} (ρb : α → Env) (i : Nat) {y : Str} {py spos : Pos}
    (hi : XI S ρ tg it (xs.map g)) (hg : ∀ W q, (S.blkW W scope).Ok q → PG ((S.blkW W scope).cx q) tg tgt) (ho : TgOwn tgt (own.map (·.2))) (hG : ∀ W, ∀ y ∈ xs, EG (S.blkW W scope) [] tgt (wipeE ρ (own.map (·.2))) (g y) (ρb y)) (he : ∀ W, ∀ y ∈ xs, XP (S.blkW W scope) (ρb y) elt (r y)) (hl : xs.length ≤ 1000000)
    (hN : S.N[i]? = some y) (hy : S.scope.names.lookup y = some .local) (hsw : ∀ env : PySem.Env, swapsWith (.ListComp elt [⟨tg, it, [], 0⟩] scope pos) (some (.Name y py)) spos.line { env with scope := S.scope } = pure true) (bo : blkC S.N S.scope scope own = true)
    (hs : ∀ (env : PySem.Env) (x : Value), foldedSetIterable it env x = pure x) : XS S pin ρ (.Assign [.Name y py] (.ListComp elt [⟨tg, it, [], 0⟩] scope pos) spos) (.ex x (some ρ)) := by
  obtain ⟨wi, i1, i2⟩ := hi
  refine ⟨fun D σ H => tLc wi tgt tYes (tAnyE (S.blkW (fun c d _ H' => S.wx c d σ H') scope) elt) (own.map (·.2)) σ H fun x H1 => gName i x σ H1 D.nx, fun q ok => ?_, es_lcX xs g r k x hk hok hbad (own.map (·.2)) (S' := fun σ => S.blkW (fun c d _ H' => S.wx c d σ H') scope) (fun σ => rfl) (fun σ c d σ' H h => h) ρb i2 ho (fun σ => hG _) (fun σ y hy => ?_) hl i⟩
  · refine ps_setLcX (X := S.cx q) (te := fun σ => tAnyE (S.blkW (fun c d _ H' => S.wx c d σ H') scope) elt) Calm.h ok.nd (ok.top hT).1 (ok.top hT).2 ok.tk hN hy (hsw _) (i1 q ok) (blkOk_by bo) (fun σ s H C cl fp tkb po => ?_) (fun σ s H C cl fp tkb po => ?_) (hs _)
    · obtain ⟨q', ok', e⟩ := blkW_cx S q ok σ scope s H C cl fp tkb po
      rw [← e]
      exact hg _ q' ok'
    · obtain ⟨q', ok', e⟩ := blkW_cx S q ok σ scope s H C cl fp tkb po
      rw [← e]
      exact pe_any ok' elt
  · obtain ⟨t, h1, h2⟩ := he (fun c d _ H' => S.wx c d σ H') y hy
    exact fun σ F H A Q w n q => ⟨t, h1, h2 σ F H A Q w n q⟩
end
/-! typed -/
def mapE {α T : Type} (f : α → Except Str T) : List α → Except Str (List T)
  | [] => .ok []
  | x :: xs => match f x with
    | .error e => .error e
    | .ok b => match mapE f xs with
      | .error e => .error e
      | .ok bs => .ok (b :: bs)
theorem mapE_ok {α T : Type} [Inhabited T] {f : α → Except Str T} : ∀ {xs : List α} {ys : List T}, mapE f xs = .ok ys → ys = xs.map (fun x => okv (f x)) ∧ ∀ x ∈ xs, f x = .ok (okv (f x))
  | [], ys, h => by
    cases h
    exact ⟨rfl, fun x hx => by cases hx⟩
  | x :: xs, ys, h => by
    unfold mapE at h
    cases e : f x with
    | error z => rw [e] at h; cases h
    | ok b =>
      rw [e] at h
      dsimp only at h
      cases e2 : mapE f xs with
      | error z => rw [e2] at h; cases h
      | ok bs =>
        rw [e2] at h
        cases h
        obtain ⟨h1, h2⟩ := mapE_ok e2
        refine ⟨by rw [List.map_cons, e, ← h1]; rfl, fun z hz => ?_⟩
        rcases List.mem_cons.mp hz with rfl | hz
        · rw [e]; rfl
        · exact h2 z hz
theorem mapE_err {α T : Type} {f : α → Except Str T} : ∀ {xs : List α} {x : Str}, mapE f xs = .error x → ∃ (k : Nat) (hk : k < xs.length), f xs[k] = .error x ∧ ∀ i (h : i < xs.length), i < k → ∃ v, f xs[i] = .ok v
  | y :: xs, x, h => by
    unfold mapE at h
    cases e : f y with
    | error z =>
      rw [e] at h
      cases h
      exact ⟨0, Nat.succ_pos _, e, fun i _ hi => absurd hi (Nat.not_lt_zero _)⟩
    | ok b =>
      rw [e] at h
      dsimp only at h
      cases e2 : mapE f xs with
      | ok bs => rw [e2] at h; cases h
      | error z =>
        rw [e2] at h
        cases h
        obtain ⟨k, hk, h1, h2⟩ := mapE_err e2
        refine ⟨k + 1, Nat.succ_lt_succ hk, h1, fun i hi hik => ?_⟩
        cases i with
        | zero => exact ⟨b, e⟩
        | succ i => exact h2 i (Nat.lt_of_succ_lt_succ hi) (Nat.lt_of_succ_lt_succ hik)
theorem ex_none {S : Sig} {ρ : Env} {pin : List Nat} {st : Stmt} {x : Str} {ρ1 : Option Env} (h : XS S pin ρ st (.ex x ρ1)) : XS S pin ρ st (.ex x none) := by
  obtain ⟨t, h1, h2⟩ := h
  exact ⟨t, h1, fun σ F H A D w n q => h2 σ F H A D w n fun σ' F' H' A' w' s' _ p' => q σ' F' H' [] (WF.none w'.sub) (s'.perm (fun a => Iff.rfl) (by simp)) rfl p'⟩
section
variable {S : Sig} {ρ : Env} {it tg elt : Expr} {pos : Pos} {pin : List Nat} {scope : Scope} {α T : Type} [Inhabited T] [DecidableEq T] [Datum T] [Enc T]
/-- y = [f(x) for x in xs], where f may raise -/
theorem ts_lcmE [Calm S] (xs : List α) (g : α → D) (f : α → Except Str T) (own : List (Str × Nat)) {tgt : TG} (ρb : α → Env) (i : Nat) {y : Str} {py spos : Pos}
    (hi : XI S ρ tg it (xs.map g)) (hg : ∀ W q, (S.blkW W scope).Ok q → PG ((S.blkW W scope).cx q) tg tgt) (ho : TgOwn tgt (own.map (·.2))) (hG : ∀ W, ∀ y ∈ xs, EG (S.blkW W scope) [] tgt (wipeE ρ (own.map (·.2))) (g y) (ρb y)) (he : ∀ W, ∀ y ∈ xs, XP (S.blkW W scope) (ρb y) elt (exD (oE oF (f y)))) (hl : xs.length ≤ 1000000)
    (hT : S.top = true := by rfl) (hn : Nat.blt i ρ.length = true := by rfl) (hp : i ∉ pin := by decide) (hN : S.N[i]? = some y := by rfl) (hy : S.scope.names.lookup y = some .local := by rfl) (hsw : ∀ env : PySem.Env, swapsWith (.ListComp elt [⟨tg, it, [], 0⟩] scope pos) (some (.Name y py)) spos.line { env with scope := S.scope } = pure true := by intro _; exact sw_true rfl rfl rfl (by decide +kernel)) (bo : blkC S.N S.scope scope own = true := by (try dsimp only [sigOf, Sig.blk]); decide +kernel)
    (hs : ∀ (env : PySem.Env) (x : Value), foldedSetIterable it env x = pure x := by intro _ _; rfl) : XS S pin ρ (.Assign [.Name y py] (.ListComp elt [⟨tg, it, [], 0⟩] scope pos) spos) (match mapE f xs with | .ok ys => .nx (ρ.set i (some (.fro (enc ys)))) | .error x => .ex x none) := by
  cases e : mapE f xs with
  | ok ys =>
    obtain ⟨e1, e2⟩ := mapE_ok e
    rw [e1]
    exact ts_lcm xs g (fun x => okv (f x)) own ρb i hi (hg fun _ _ _ _ => False) ho (hG fun _ _ _ _ => False) (fun x hx => by
      have := he (fun _ _ _ _ => False) x hx
      rw [e2 x hx] at this
      exact this) hl hn hp hN hy hsw bo hs
  | error x =>
    obtain ⟨k, hk, h1, h2⟩ := mapE_err e
    refine ex_none (xs_lcE hT xs g (fun z => exD (oE oF (f z))) k x hk (fun i hi hik => ?_) (by rw [h1]; rfl) own ρb i hi hg ho hG he hl hN hy hsw bo hs)
    obtain ⟨v, hv⟩ := h2 i hi hik
    exact ⟨enc v, by rw [hv]; rfl⟩
end
end G

namespace G
open PySem PySem.Spec PyProof.Rows L2
open PySem.W (Datum DatumOrd Tup T3 EachIs)
open Enc (enc)
/-! ### a tuple or a list -/
def unR {α β : Type} [Inhabited β] : α ⊕ β → β
  | .inl _ => default
  | .inr y => y
section
variable {α β γ : Type} [DecidableEq α] [Datum α] [Enc α] [DecidableEq β] [Datum β] [Enc β] [DecidableEq γ] [Datum γ] [Enc γ] {S : Sig} {ρ : Env} {a e : Expr} {p2 p3 pos : Pos}
theorem tp_isT {v : (α × β) ⊕ List γ} (hm : S.mg "isinstance" = none) (hm2 : S.mg "tuple" = none) (h : TP S ρ a v) (hg : S.scope.names.lookup ("isinstance" : Str) = some .globalImplicit := by rfl) (hg2 : S.scope.names.lookup ("tuple" : Str) = some .globalImplicit := by rfl) (he : ∀ env : PySem.Env, starEach [a, .Name "tuple" p3] env = (false, eval a env) :: starEach [.Name "tuple" p3] env := by intro _; rfl) :
    TP S ρ (.Call (.Name "isinstance" p2) [a, .Name "tuple" p3] [] pos) v.isLeft := by
  cases v with
  | inl p => exact tp_isi (c := "tuple") (n := "tuple") true hm hm2 (XP.v h) (hg := hg) (hg2 := hg2) (he := he)
  | inr l => exact tp_isi (c := "list") (n := "tuple") false hm hm2 (XP.v h) (hg := hg) (hg2 := hg2) (he := he)
theorem tp_unR [Inhabited γ] {v : (α × β) ⊕ List γ} (h : TP S ρ e v) (hl : v.isLeft = false) : TP S ρ e (unR v) := by
  cases v with
  | inl p => cases hl
  | inr l => exact h
end
end G

namespace My
open PySem PySem.Spec PyProof.Rows L2 G
open PySem.W (Datum DatumOrd Tup T3)
open Enc (enc)
def top (i : Nat) : Stmt := PySem.Challenge.pw_lampfloor_k91_books.main.body.getD i (.Pass ⟨0, 0, 0, 0⟩)
abbrev s_is_whole : Stmt := top 5
abbrev s_is_spot : Stmt := top 6
abbrev s_is_on : Stmt := top 7
abbrev s_is_side : Stmt := top 8
abbrev s_is_floor : Stmt := top 9
abbrev s_written : Stmt := top 11
abbrev s_read : Stmt := top 12
abbrev s_book_text : Stmt := top 14
abbrev s_read_book : Stmt := top 15
abbrev s__law_cell : Stmt := top 17
abbrev s__law_drawn : Stmt := top 18
abbrev s__law_floor : Stmt := top 19
abbrev s__law_written : Stmt := top 20
abbrev s__law_refused : Stmt := top 21
abbrev s__law_told : Stmt := top 22
abbrev s_law : Stmt := top 23
def d0 : He.DefD := ⟨("is_whole", none), "is_whole", "is_whole", defArgs s_is_whole, defBody s_is_whole, defScope s_is_whole, [], []⟩
def d1 : He.DefD := ⟨("is_spot", none), "is_spot", "is_spot", defArgs s_is_spot, defBody s_is_spot, defScope s_is_spot, [], []⟩
def d2 : He.DefD := ⟨("is_on", none), "is_on", "is_on", defArgs s_is_on, defBody s_is_on, defScope s_is_on, [], []⟩
def d3 : He.DefD := ⟨("is_side", none), "is_side", "is_side", defArgs s_is_side, defBody s_is_side, defScope s_is_side, [], []⟩
def d4 : He.DefD := ⟨("is_floor", none), "is_floor", "is_floor", defArgs s_is_floor, defBody s_is_floor, defScope s_is_floor, [], []⟩
def d5 : He.DefD := ⟨("written", none), "written", "written", defArgs s_written, defBody s_written, defScope s_written, [], []⟩
def d6 : He.DefD := ⟨("read", none), "read", "read", defArgs s_read, defBody s_read, defScope s_read, [], []⟩
def d7 : He.DefD := ⟨("book_text", none), "book_text", "book_text", defArgs s_book_text, defBody s_book_text, defScope s_book_text, [], []⟩
def d8 : He.DefD := ⟨("read_book", none), "read_book", "read_book", defArgs s_read_book, defBody s_read_book, defScope s_read_book, [], []⟩
def d9 : He.DefD := ⟨("_law_cell", none), "_law_cell", "_law_cell", defArgs s__law_cell, defBody s__law_cell, defScope s__law_cell, [], []⟩
def d10 : He.DefD := ⟨("_law_drawn", none), "_law_drawn", "_law_drawn", defArgs s__law_drawn, defBody s__law_drawn, defScope s__law_drawn, [], []⟩
def d11 : He.DefD := ⟨("_law_floor", none), "_law_floor", "_law_floor", defArgs s__law_floor, defBody s__law_floor, defScope s__law_floor, [], []⟩
def d12 : He.DefD := ⟨("_law_written", none), "_law_written", "_law_written", defArgs s__law_written, defBody s__law_written, defScope s__law_written, [], []⟩
def d13 : He.DefD := ⟨("_law_refused", none), "_law_refused", "_law_refused", defArgs s__law_refused, defBody s__law_refused, defScope s__law_refused, [], []⟩
def d14 : He.DefD := ⟨("_law_told", none), "_law_told", "_law_told", defArgs s__law_told, defBody s__law_told, defScope s__law_told, [], []⟩
def d15 : He.DefD := ⟨("law", none), "law", "law", defArgs s_law, defBody s_law, defScope s_law, [], []⟩
def fn : List He.DefD := [d0, d1, d2, d3, d4, d5, d6, d7, d8, d9, d10, d11, d12, d13, d14, d15]
def fa_0 : List He.Fa := [.glo "LampError", .exc "LampError", .glo "NoText", .exc "NoText", .int "MOST_SIDE" 12, .glo "is_whole", .glo "is_spot", .glo "is_on", .glo "is_side", .glo "is_floor", .glo "written", .glo "read", .glo "book_text", .glo "read_book", .glo "_law_cell", .glo "_law_drawn", .glo "_law_floor", .glo "_law_written", .glo "_law_refused", .glo "_law_told", .glo "law", .free "ValueError", .free "all", .free "bool", .free "enumerate", .free "int", .free "isinstance", .free "len", .free "range", .free "sorted"]
def fa_1 : List He.Fa := [.free "tuple", .free "zip", .exm "LampError" "LampError" true, .exm "LampError" "NoText" false, .exm "NoText" "LampError" true, .exm "NoText" "NoText" true]
def fa : List He.Fa := fa_0 ++ fa_1
def names_0 : List PySem.Str := ["LampError", "NoText", "MOST_SIDE", "is_whole", "is_spot", "is_on", "is_side", "is_floor", "written", "read", "book_text", "read_book", "_law_cell", "_law_drawn", "_law_floor", "_law_written", "_law_refused", "_law_told"]
def names : List PySem.Str := names_0
def exf_0 : List G.KF := [G.kfExc "NoText", G.kfIsT "NoText" "ValueError" true, G.kfIs "NoText" "NoText" true]
def exf : List G.KF := exf_0
def tabs : List He.Tab := []
abbrev R : PySem.W.OpenRow := PySem.W.OpenLaw.row PySem.Challenge.rw_lampfloor_k91_books
abbrev hk : PySem.W.Hook := G.hookY 6 exf fa fn tabs
def ob (s : PySem.W.SharedT) : G.AlY := G.obsYG 6 exf fa fn tabs (HandSHeadRun.getT s)
theorem ob_eq (s : PySem.W.SharedT) : ob s = hk.obs s.abs := G.obsYG_eq (HandSHeadRun.getT_eq s)
theorem run (w : World) : HandSHeadRun.RunEq R (PySem.W.view R.prog [23]) hk ob 3000 names w := by
  intro os
  kernel_rfl
section
variable {P : Program} {w : World} {K : PySem.W.Frag} {mg : Str → Option Value} {base : Heap} {f : Addr} {fd : FuncData}

/-! sign_of -/
def m_sign (n : Int) : Int := (if decide (0 < n) then 1 else 0) - (if decide (n < 0) then 1 else 0)
/-! Line -/
structure LineS where
  cells : List Cell
  cps : List (Cell × Cell)
  right : Int
  down : Int
def lineO (C : Addr) (l : LineS) : O := .ins C ["cells", "couples", "right", "down"] [oL l.cells, oL l.cps, .fro (enc l.right), .fro (enc l.down)]
def m_step (lead : Int) : Cell := (if decide (0 ≤ lead) then 1 else 0, if decide (lead ≤ 0) then 1 else 0)
def m_there (l : LineS) (here : Cell) (lead : Int) : Cell := (here.1 + l.right * (m_step lead).1, here.2 + l.down * (m_step lead).2)
def m_next (l : LineS) (here : Cell) (lead : Int) : LineS :=
  if decide (lead = 0) = true then { l with cps := l.cps ++ [two ((m_there l here lead).1, here.2) (here.1, (m_there l here lead).2)] } else l
theorem m_step_b (lead : Int) : (-(2 ^ 64) < (m_step lead).1 ∧ (m_step lead).1 < 2 ^ 64) ∧ (-(2 ^ 64) < (m_step lead).2 ∧ (m_step lead).2 < 2 ^ 64) := by
  unfold m_step; constructor <;> (dsimp only; split <;> decide)
structure LState where
  cells : List Cell
  cps : List (Cell × Cell)
  lead : Int
  here : Cell
def absI (i : Int) : Int := if i < 0 then -i else i
def m_right (one other : Cell) : Int := m_sign (other.1 - one.1)
def m_down (one other : Cell) : Int := m_sign (other.2 - one.2)
def m_across (one other : Cell) : Int := absI (other.1 - one.1)
def m_along (one other : Cell) : Int := absI (other.2 - one.2)
def m_ls (one other : Cell) (s : LState) : LineS := ⟨s.cells, s.cps, m_right one other, m_down one other⟩
def m_go (one other : Cell) (s : LState) : LState where
  cells := s.cells ++ [m_there (m_ls one other s) s.here s.lead]
  cps := (m_next (m_ls one other s) s.here s.lead).cps
  lead := s.lead - 2 * m_along one other * (m_step s.lead).1 + 2 * m_across one other * (m_step s.lead).2
  here := m_there (m_ls one other s) s.here s.lead
def m_ini (one other : Cell) : LState := ⟨[one], [], m_across one other - m_along one other, one⟩
def m_run (one other : Cell) (n : Nat) (s : LState) : Option (LO LState Empty) := whL (fun s => !decide (s.here = other)) (fun s => .nx (m_go one other s)) n s
def LineOk (one other : Cell) : Prop := ∃ s, m_run one other 100 (m_ini one other) = some (.nx s)
def m_line (one other : Cell) : LState := match m_run one other 100 (m_ini one other) with
  | some (.nx s) => s
  | _ => m_ini one other
theorem m_line_ok {one other : Cell} (h : LineOk one other) : m_run one other 100 (m_ini one other) = some (.nx (m_line one other)) := by
  obtain ⟨s, h⟩ := h
  unfold m_line
  rw [h]
theorem m_next_ls (l : LineS) (here : Cell) (lead : Int) : m_next l here lead = ⟨l.cells, (m_next l here lead).cps, l.right, l.down⟩ := by
  unfold m_next; split <;> rfl
theorem m_next_len (l : LineS) (here : Cell) (lead : Int) : (m_next l here lead).cps.length ≤ l.cps.length + 1 := by
  unfold m_next; split <;> simp
/-! crossed, pinched -/
theorem lineO_d (C : Addr) (l : LineS) : (lineO C l).d = .ins C ["cells", "couples", "right", "down"] [enc l.cells, enc l.cps, enc l.right, enc l.down] := by
  unfold lineO
  simp only [O.d, O.ds, oL_d]

def m_at (c s : Cell) : Cell := (c.1 + s.1, c.2 + s.2)
def sh2 (t : Cell) (p : Cell × Cell) : Cell × Cell := (m_at t p.1, m_at t p.2)
def shift (t : Cell) (s : LState) : LState := ⟨s.cells.map (m_at t), s.cps.map (sh2 t), s.lead, m_at t s.here⟩
theorem at_inj {t x y : Cell} : m_at t x = m_at t y ↔ x = y := by
  unfold m_at
  constructor
  · intro h
    have h1 := congrArg Prod.fst h
    have h2 := congrArg Prod.snd h
    dsimp only at h1 h2
    exact Prod.ext (by omega) (by omega)
  · intro h; rw [h]
theorem lt_at (t x y : Cell) : DatumOrd.lt (m_at t x) (m_at t y) = DatumOrd.lt x y := by
  rw [lt_pair, lt_pair]
  unfold m_at
  simp only [G.lt_int]
  by_cases h : x.1 = y.1
  · rw [if_pos h, if_pos (by rw [h])]
    exact decide_eq_decide.mpr (by omega)
  · rw [if_neg h, if_neg (by omega)]
    exact decide_eq_decide.mpr (by omega)
theorem two_at (t x y : Cell) : two (m_at t x) (m_at t y) = sh2 t (two x y) := by
  unfold two sh2
  rw [lt_at]
  split <;> rfl
theorem go_shift (t : Cell) (a d : Int) (s : LState) : m_go t (t.1 + a, t.2 + d) (shift t s) = shift t (m_go (0, 0) (a, d) s) := by
  have e1 : m_right t (t.1 + a, t.2 + d) = m_right (0, 0) (a, d) := by unfold m_right; congr 1; dsimp only; omega
  have e2 : m_down t (t.1 + a, t.2 + d) = m_down (0, 0) (a, d) := by unfold m_down; congr 1; dsimp only; omega
  have e3 : m_across t (t.1 + a, t.2 + d) = m_across (0, 0) (a, d) := by unfold m_across; congr 1; dsimp only; omega
  have e4 : m_along t (t.1 + a, t.2 + d) = m_along (0, 0) (a, d) := by unfold m_along; congr 1; dsimp only; omega
  have e5 : m_there (m_ls t (t.1 + a, t.2 + d) (shift t s)) (m_at t s.here) s.lead = m_at t (m_there (m_ls (0, 0) (a, d) s) s.here s.lead) := by
    unfold m_there m_ls m_at
    simp only [e1, e2]
    rw [Int.add_assoc, Int.add_assoc]
  unfold m_go
  simp only [e3, e4, shift, LState.mk.injEq, List.map_append, List.map_cons, List.map_nil]
  refine ⟨by rw [← e5]; rfl, ?_, trivial, e5⟩
  show (m_next (m_ls t (t.1 + a, t.2 + d) (shift t s)) (m_at t s.here) s.lead).cps = _
  unfold m_next
  rw [e5]
  by_cases h : decide (s.lead = 0) = true
  · rw [if_pos h, if_pos h]
    show s.cps.map (sh2 t) ++ [two (m_at t ((m_there (m_ls (0, 0) (a, d) s) s.here s.lead).1, s.here.2)) (m_at t (s.here.1, (m_there (m_ls (0, 0) (a, d) s) s.here s.lead).2))] = _
    rw [two_at, List.map_append]
    rfl
  · rw [if_neg h, if_neg h]
    rfl
theorem run_shift (t : Cell) (a d : Int) : ∀ (n : Nat) (s s' : LState), m_run (0, 0) (a, d) n s = some (.nx s') → m_run t (t.1 + a, t.2 + d) n (shift t s) = some (.nx (shift t s'))
  | 0, _, _, h => by cases h
  | n + 1, s, s', h => by
    unfold m_run whL at h ⊢
    have e : decide ((shift t s).here = (t.1 + a, t.2 + d)) = decide (s.here = (a, d)) := decide_eq_decide.mpr (at_inj (t := t) (x := s.here) (y := (a, d)))
    rw [e]
    by_cases c : (!decide (s.here = (a, d))) = true
    · rw [if_pos c] at h ⊢
      show whL _ _ n (m_go t (t.1 + a, t.2 + d) (shift t s)) = _
      rw [go_shift]
      exact run_shift t a d n _ _ h
    · rw [if_neg c] at h ⊢
      cases h
      rfl

theorem rng_mem {lo hi x : Int} (h : lo ≤ x ∧ x < hi) : x ∈ rng lo hi := by
  unfold rng
  exact List.mem_map.mpr ⟨(x - lo).toNat, List.mem_range.mpr (by omega), by omega⟩
theorem mem_rng {lo hi x : Int} : x ∈ rng lo hi ↔ lo ≤ x ∧ x < hi := by
  refine ⟨fun h => ?_, rng_mem⟩
  unfold rng at h
  obtain ⟨i, hi, rfl⟩ := List.mem_map.mp h
  have := List.mem_range.mp hi
  omega
theorem ini_shift (t : Cell) (a d : Int) : m_ini t (t.1 + a, t.2 + d) = shift t (m_ini (0, 0) (a, d)) := by
  have e3 : m_across t (t.1 + a, t.2 + d) = m_across (0, 0) (a, d) := by unfold m_across; congr 1; dsimp only; omega
  have e4 : m_along t (t.1 + a, t.2 + d) = m_along (0, 0) (a, d) := by unfold m_along; congr 1; dsimp only; omega
  have e5 : m_at t (0, 0) = t := by unfold m_at; exact Prod.ext (by dsimp only; omega) (by dsimp only; omega)
  unfold m_ini shift
  simp only [e3, e4, List.map_cons, List.map_nil, e5]
/-- the line from (0, 0) -/
def rel (a d : Int) : Option (LO LState Empty) := m_run (0, 0) (a, d) 100 (m_ini (0, 0) (a, d))
def isNx : Option (LO LState Empty) → Bool
  | some (.nx _) => true
  | _ => false
theorem rel_all : (rng (-6) 7).all (fun a => (rng (-6) 7).all fun d => isNx (rel a d)) = true := by decide +kernel
def relS (a d : Int) : LState := match rel a d with
  | some (.nx s) => s
  | _ => m_ini (0, 0) (a, d)
theorem rel_ok (a d : Int) (h : -7 < a ∧ a < 7 ∧ -7 < d ∧ d < 7) : rel a d = some (.nx (relS a d)) := by
  have z := List.all_eq_true.mp (List.all_eq_true.mp rel_all a (rng_mem (by omega))) d (rng_mem (by omega))
  unfold relS
  cases e : rel a d with
  | none => rw [e] at z; cases z
  | some o =>
    cases o with
    | nx s => rfl
    | bk s => rw [e] at z; cases z
    | rt b => cases b
theorem line_at (t : Cell) (a d : Int) (h : -7 < a ∧ a < 7 ∧ -7 < d ∧ d < 7) : m_run t (t.1 + a, t.2 + d) 100 (m_ini t (t.1 + a, t.2 + d)) = some (.nx (shift t (relS a d))) := by
  rw [ini_shift]
  exact run_shift t a d 100 _ _ (rel_ok a d h)
theorem line_rel (one other : Cell) (h : -7 < other.1 - one.1 ∧ other.1 - one.1 < 7 ∧ -7 < other.2 - one.2 ∧ other.2 - one.2 < 7) : LineOk one other ∧ m_line one other = shift one (relS (other.1 - one.1) (other.2 - one.2)) := by
  have z := line_at one (other.1 - one.1) (other.2 - one.2) h
  have e : ((one.1 + (other.1 - one.1), one.2 + (other.2 - one.2)) : Cell) = other := Prod.ext (by dsimp only; omega) (by dsimp only; omega)
  rw [e] at z
  refine ⟨⟨_, z⟩, ?_⟩
  unfold m_line
  rw [z]


/-! _law_cell, _law_drawn -/
def m_cell (s : Scr) (k : Int) : Int := if decide (s.l = []) = true then 7 * k else (atI s.l (k % (s.l.length : Nat))).getD 0 + 6553 * (k / (s.l.length : Nat))
theorem sc_cell : FnScope ["_law_script", "_law_k"] ["_law_script", "_law_k"] (defScope s__law_cell) := ⟨rfl, rfl, rfl, by decide +kernel, rfl, by decide +kernel, by decide +kernel⟩
abbrev sp_cell (K : PySem.W.Frag) : Sp := spP K (fun (y : Scr × Int) => [enc y.1, enc y.2]) (fun y => y.1.l.length ≤ 1000) (fun y => oF (m_cell y.1 y.2))
theorem ok__law_cell (F : FnF K "_law_cell" "_law_cell" s__law_cell f fd) (m_len : mg "len" = none) : FnOk P w K mg base (L2N.CX P w) 1 f fd ["_law_script", "_law_k"] (sp_cell K) := by
  refine def_pure F sc_cell (fun _ => rfl) fun y E hp => ?_
  obtain ⟨s, k⟩ := y
  have hp : s.l.length ≤ 1000 := hp
  refine ⟨rF (m_cell s k), ?_, fits_F⟩
  refine xb_ifR rF (tt_eqS (y := []) (XP.v (xp_var 0)) (XP.v tp_nilL)) (fun _ => xb_ret rF _ (xs_retF (tp_mul tp_int (xp_var 1) (.inl (by decide)))) trivial) (fun _ z => nomatch z) fun hc => ?_
  have hne : s.l ≠ [] := by simpa using hc
  have hlen : 0 < s.l.length := List.length_pos_iff.mpr hne
  have hl2 : (0 : Int) < (s.l.length : Nat) := by omega
  obtain ⟨v, hv⟩ := atI_ok (xs := s.l) (i := k % (s.l.length : Nat)) ⟨Int.emod_nonneg _ (by omega), Int.emod_lt_of_pos _ hl2⟩
  rw [hv]
  exact xb_ret rF _ (xs_retF (tp_add (tp_ixS (xp_var 0) (tp_mod (xp_var 1) (tp_lenS m_len (XP.v (xp_var 0))) hl2) hv) (tp_mul tp_int (tp_div (xp_var 1) (tp_lenS m_len (XP.v (xp_var 0))) ⟨hl2, by omega⟩) (.inl (by decide))))) trivial
def m_dr1 (s : Scr) (k : Int) : Int := (m_cell s k % 2147483563 * 69069 + 104723 * (k + 1)) % 2147483563
def m_dr2 (c : Int) : Int := (c * c + c / 3) % 2147483399
def m_dr3 (many c : Int) : Int := (c * c + c / 7) % 2147483647 / 11 % many
def m_drawn (s : Scr) (k many : Int) : Int := m_dr3 many (m_dr2 (m_dr1 s k))
theorem m_drawn_b (s : Scr) (k : Int) {many : Int} (h : 0 < many) : 0 ≤ m_drawn s k many ∧ m_drawn s k many < many := ⟨Int.emod_nonneg _ (by omega), Int.emod_lt_of_pos _ h⟩
theorem sc_drawn : FnScope ["_law_script", "_law_k", "_law_many", "_law_cell_here"] ["_law_script", "_law_k", "_law_many"] (defScope s__law_drawn) := ⟨rfl, rfl, rfl, by decide +kernel, rfl, by decide +kernel, by decide +kernel⟩
abbrev sp_drawn (K : PySem.W.Frag) : Sp := spP K (fun (y : Scr × Int × Int) => [enc y.1, enc y.2.1, enc y.2.2]) (fun y => y.1.l.length ≤ 1000 ∧ 0 < y.2.2) (fun y => oF (m_drawn y.1 y.2.1 y.2.2))
theorem ok__law_drawn (F : FnF K "_law_drawn" "_law_drawn" s__law_drawn f fd) (h__law_cell : FnG P w K mg base 1 "_law_cell" ["_law_script", "_law_k"] (sp_cell K)) : FnOk P w K mg base (L2N.CX P w) 2 f fd ["_law_script", "_law_k", "_law_many"] (sp_drawn K) := by
  refine def_pure F sc_drawn (fun _ => rfl) fun y E hp => ?_
  obtain ⟨s, k, many⟩ := y
  obtain ⟨hp1, hp2⟩ : s.l.length ≤ 1000 ∧ 0 < many := hp
  refine ⟨rF (m_drawn s k many), ?_, fits_F⟩
  have b1 : 0 ≤ m_dr1 s k ∧ m_dr1 s k < 2147483563 := ⟨Int.emod_nonneg _ (by decide), Int.emod_lt_of_pos _ (by decide)⟩
  have b2 : 0 ≤ m_dr2 (m_dr1 s k) ∧ m_dr2 (m_dr1 s k) < 2147483399 := ⟨Int.emod_nonneg _ (by decide), Int.emod_lt_of_pos _ (by decide)⟩
  refine xb_cons (ρ1 := [some (.fro (enc s)), some (.fro (enc k)), some (.fro (enc many)), some (.fro (enc (m_dr1 s k)))])
    (xs_setF 3 (tp_mod (tp_add (tp_mul (tp_mod (tp_call h__law_cell (s, k) hp1 (xa_cons (xp_var 0) (xa_cons (xp_var 1) xa_nil))) tp_int (by decide)) tp_int (.inr (by decide))) (tp_mul tp_int (tp_add (xp_var 1) tp_int) (.inl (by decide)))) tp_int (by decide))) ?_
  refine xb_cons (ρ1 := [some (.fro (enc s)), some (.fro (enc k)), some (.fro (enc many)), some (.fro (enc (m_dr2 (m_dr1 s k))))])
    (xs_setF 3 (tp_mod (tp_add (tp_mul (xp_var 3) (xp_var 3) (.inl ⟨by omega, by omega⟩)) (tp_div (xp_var 3) tp_int (by decide))) tp_int (by decide))) ?_
  exact xb_ret rF _ (xs_retF (tp_mod (tp_div (tp_mod (tp_add (tp_mul (xp_var 3) (xp_var 3) (.inl ⟨by omega, by omega⟩)) (tp_div (xp_var 3) tp_int (by decide))) tp_int (by decide)) tp_int (by decide)) (xp_var 2) hp2)) trivial

def m_is_on (wide high : Int) (spot : Cell) : Bool := (decide (0 ≤ spot.1) && decide (spot.1 < wide)) && (decide (0 ≤ spot.2) && decide (spot.2 < high))
def m_need_cell (fl : Floor) (c : Cell) : Except Str Unit := if m_is_on fl.a fl.b c = true then .ok () else .error "OffFloor"
def m_is_solid (fl : Floor) (c : Cell) : Except Str Bool := bindE (m_need_cell fl c) fun _ => .ok (memB c fl.c.items)
def m_need_open (fl : Floor) (c : Cell) : Except Str Unit := bindE (m_is_solid fl c) fun k => if k = true then .error "InWall" else .ok ()
def m_all_cells (fl : Floor) : List Cell := (rng 0 (fl.a * fl.b)).map fun at_ => (at_ / fl.b, at_ % fl.b)
def FlB (fl : Floor) : Prop := 0 < fl.a ∧ fl.a ≤ 1000 ∧ 0 < fl.b ∧ fl.b ≤ 1000
theorem FlB.le {fl : Floor} (h : FlB fl) : 0 ≤ fl.a * fl.b ∧ fl.a * fl.b ≤ 1000000 := by
  obtain ⟨h1, h2, h3, h4⟩ := h
  refine ⟨Int.mul_nonneg (by omega) (by omega), ?_⟩
  exact Int.le_trans (Int.mul_le_mul_of_nonneg_right h2 (by omega)) (by omega)
theorem m_all_len {fl : Floor} (h : FlB fl) : (m_all_cells fl).length ≤ 1000000 := by
  have := h.le
  unfold m_all_cells
  rw [List.length_map, rng_len]
  omega
theorem need_on {fl : Floor} {c : Cell} (h : m_is_on fl.a fl.b c = true) : m_need_cell fl c = .ok () := if_pos h
theorem solid_on {fl : Floor} {c : Cell} (h : m_is_on fl.a fl.b c = true) : m_is_solid fl c = .ok (memB c fl.c.items) := by unfold m_is_solid; rw [need_on h]; rfl
theorem open_on {fl : Floor} {c : Cell} (h : m_is_on fl.a fl.b c = true) (h2 : c ∉ fl.c.items) : m_need_open fl c = .ok () := by unfold m_need_open; rw [solid_on h, memB_no.mpr h2]; rfl
theorem sc_is_on : FnScope ["wide", "high", "spot"] ["wide", "high", "spot"] (defScope s_is_on) := ⟨rfl, rfl, rfl, by decide +kernel, rfl, by decide +kernel, by decide +kernel⟩
abbrev sp_is_on (K : PySem.W.Frag) : Sp := spP K (fun (y : Int × Int × Cell) => [enc y.1, enc y.2.1, enc y.2.2]) (fun _ => True) (fun y => oF (m_is_on y.1 y.2.1 y.2.2))
theorem ok_is_on (F : FnF K "is_on" "is_on" s_is_on f fd) : FnOk P w K mg base (L2N.CX P w) 1 f fd ["wide", "high", "spot"] (sp_is_on K) := by
  refine def_pure F sc_is_on (fun _ => rfl) fun y E hp => ?_
  obtain ⟨wide, high, spot⟩ := y
  refine ⟨rF (m_is_on wide high spot), ?_, fits_F⟩
  exact xb_ret rF _ (xs_retF (xp_and (tp_ch oc_le oc_lt tp_int (tp_ix2a (xp_var 2)) (xp_var 0)) fun _ => xp_one (tp_ch oc_le oc_lt tp_int (tp_ix2b (xp_var 2)) (xp_var 1)))) trivial
def FlL (fl : Floor) : Prop := 0 < fl.a ∧ fl.a ≤ 6 ∧ 0 < fl.b ∧ fl.b ≤ 6
theorem FlL.b {fl : Floor} (h : FlL fl) : FlB fl := ⟨h.1, by have := h.2.1; omega, h.2.2.1, by have := h.2.2.2; omega⟩
theorem on_iff {a b : Int} {c : Cell} : m_is_on a b c = true ↔ 0 ≤ c.1 ∧ c.1 < a ∧ 0 ≤ c.2 ∧ c.2 < b := by
  unfold m_is_on
  simp only [Bool.and_eq_true, decide_eq_true_eq]
  omega
theorem mem_all {fl : Floor} (h : 0 < fl.b) {c : Cell} : c ∈ m_all_cells fl ↔ m_is_on fl.a fl.b c = true := by
  rw [on_iff]
  unfold m_all_cells
  constructor
  · intro hc
    obtain ⟨i, hi, rfl⟩ := List.mem_map.mp hc
    have hi := mem_rng.mp hi
    dsimp only
    refine ⟨Int.ediv_nonneg hi.1 (by omega), Int.ediv_lt_of_lt_mul h hi.2, Int.emod_nonneg _ (by omega), Int.emod_lt_of_pos _ h⟩
  · rintro ⟨h1, h2, h3, h4⟩
    refine List.mem_map.mpr ⟨c.1 * fl.b + c.2, mem_rng.mpr ⟨Int.add_nonneg (Int.mul_nonneg h1 (by omega)) h3, ?_⟩, ?_⟩
    · have : (c.1 + 1) * fl.b ≤ fl.a * fl.b := Int.mul_le_mul_of_nonneg_right (by omega) (by omega)
      rw [Int.add_mul] at this
      omega
    · refine Prod.ext ?_ ?_
      · show (c.1 * fl.b + c.2) / fl.b = c.1
        rw [Int.add_comm, Int.add_mul_ediv_right _ _ (by omega), Int.ediv_eq_zero_of_lt h3 h4]; omega
      · show (c.1 * fl.b + c.2) % fl.b = c.2
        rw [Int.add_comm, Int.add_mul_emod_self_right, Int.emod_eq_of_lt h3 h4]
theorem on_line {fl : Floor} (h : FlL fl) {c d : Cell} (hc : m_is_on fl.a fl.b c = true) (hd : m_is_on fl.a fl.b d = true) : LineOk c d ∧ m_line c d = shift c (relS (d.1 - c.1) (d.2 - c.2)) := by
  rw [on_iff] at hc hd
  obtain ⟨h1, h2, h3, h4⟩ := h
  exact line_rel c d (by omega)
/-! mirrored, flipped, without a wall -/
def m_mirrored (fl : Floor) : Floor := ⟨fl.a, fl.b, ⟨sortT (fl.c.items.map fun p => (fl.a - 1 - p.1, p.2))⟩⟩
def m_flipped (fl : Floor) : Floor := ⟨fl.b, fl.a, ⟨sortT (fl.c.items.map fun p => (p.2, p.1))⟩⟩
def m_without (fl : Floor) (c : Cell) : Floor := ⟨fl.a, fl.b, ⟨fl.c.items.filter fun v => !decide (v = c)⟩⟩
def FlW (fl : Floor) : Prop := fl.c.items.length ≤ 1000000

def m_shutcol (s : Scr) (at_ rate high x : Int) : List Cell := ((rng 0 high).filter fun y => decide (m_drawn s (at_ + 3 + 8 * x + y) rate = 0)).map fun y => (x, y)
def m_rates : List Int := [2, 3, 3, 5, 9]
def m_rate (s : Scr) (at_ : Int) : Int := (atI m_rates (m_drawn s (at_ + 2) 5)).getD 2
def m_wide (s : Scr) (at_ most : Int) : Int := 1 + m_drawn s at_ most
def m_high (s : Scr) (at_ most : Int) : Int := 1 + m_drawn s (at_ + 1) most
def m_shuts (s : Scr) (at_ most : Int) : List Cell := (rng 0 (m_wide s at_ most)).foldl (fun c x => c ++ m_shutcol s at_ (m_rate s at_) (m_high s at_ most) x) []
def m_law_floor (s : Scr) (at_ most : Int) : Floor := ⟨m_wide s at_ most, m_high s at_ most, ⟨m_shuts s at_ most⟩⟩
theorem rate_ok (s : Scr) (at_ : Int) : atI m_rates (m_drawn s (at_ + 2) 5) = some (m_rate s at_) ∧ 0 < m_rate s at_ := by
  have h := m_drawn_b s (at_ + 2) (many := 5) (by decide)
  have e : m_drawn s (at_ + 2) 5 = 0 ∨ m_drawn s (at_ + 2) 5 = 1 ∨ m_drawn s (at_ + 2) 5 = 2 ∨ m_drawn s (at_ + 2) 5 = 3 ∨ m_drawn s (at_ + 2) 5 = 4 := by omega
  unfold m_rate
  rcases e with e | e | e | e | e <;> rw [e] <;> exact ⟨rfl, by decide⟩
theorem wide_b (s : Scr) (at_ : Int) {most : Int} (h : 0 < most) : 0 < m_wide s at_ most ∧ m_wide s at_ most ≤ most := by
  have := m_drawn_b s at_ h
  unfold m_wide; omega
theorem high_b (s : Scr) (at_ : Int) {most : Int} (h : 0 < most) : 0 < m_high s at_ most ∧ m_high s at_ most ≤ most := by
  have := m_drawn_b s (at_ + 1) h
  unfold m_high; omega
theorem shutcol_len (s : Scr) (at_ rate high x : Int) : (m_shutcol s at_ rate high x).length ≤ high.toNat := by
  unfold m_shutcol
  rw [List.length_map]
  refine Nat.le_trans (List.length_filter_le _ _) ?_
  rw [rng_len]; omega
theorem foldl_app_len {α β : Type} (g : β → List α) (n : Nat) (h : ∀ x, (g x).length ≤ n) : ∀ (xs : List β) (c : List α), (xs.foldl (fun c x => c ++ g x) c).length ≤ c.length + n * xs.length
  | [], c => by simp
  | x :: xs, c => by
    have z := foldl_app_len g n h xs (c ++ g x)
    have := h x
    rw [List.foldl_cons, List.length_cons, Nat.mul_add]
    rw [List.length_append] at z
    omega
theorem mem_foldl_app {α β : Type} (g : β → List α) (v : α) : ∀ (xs : List β) (c : List α), v ∈ xs.foldl (fun c x => c ++ g x) c ↔ v ∈ c ∨ ∃ x ∈ xs, v ∈ g x
  | [], c => by simp
  | x :: xs, c => by
    rw [List.foldl_cons, mem_foldl_app g v xs (c ++ g x), List.mem_append]
    constructor
    · rintro ((h | h) | ⟨y, h1, h2⟩)
      · exact .inl h
      · exact .inr ⟨x, by simp, h⟩
      · exact .inr ⟨y, by simp [h1], h2⟩
    · rintro (h | ⟨y, h1, h2⟩)
      · exact .inl (.inl h)
      · rcases List.mem_cons.mp h1 with rfl | h1
        · exact .inl (.inr h2)
        · exact .inr ⟨y, h1, h2⟩
theorem shuts_on (s : Scr) (at_ most : Int) : ∀ c ∈ m_shuts s at_ most, m_is_on (m_wide s at_ most) (m_high s at_ most) c = true := by
  intro c h
  unfold m_shuts at h
  rcases (mem_foldl_app _ _ _ _).mp h with h | ⟨x, hx, h⟩
  · cases h
  · have hx := mem_rng.mp hx
    unfold m_shutcol at h
    obtain ⟨y, hy, rfl⟩ := List.mem_map.mp h
    have hy := mem_rng.mp (List.mem_filter.mp hy).1
    exact on_iff.mpr ⟨hx.1, hx.2, hy.1, hy.2⟩
theorem shuts_len (s : Scr) (at_ most : Int) (h : 0 < most ∧ most ≤ 100) : (m_shuts s at_ most).length ≤ 10000 := by
  have h1 := wide_b s at_ h.1
  have h2 := high_b s at_ h.1
  have z := foldl_app_len (fun x => m_shutcol s at_ (m_rate s at_) (m_high s at_ most) x) 100 (fun x => Nat.le_trans (shutcol_len _ _ _ _ _) (by omega)) (rng 0 (m_wide s at_ most)) []
  rw [rng_len] at z
  unfold m_shuts
  simp only [List.length_nil] at z
  omega
def m_open (fl : Floor) : List Cell := (m_all_cells fl).filter fun c => !memB c fl.c.items
theorem m_open_len {fl : Floor} (h : FlB fl) : (m_open fl).length ≤ 1000000 := Nat.le_trans (List.length_filter_le _ _) (m_all_len h)
theorem mem_open {fl : Floor} (h : 0 < fl.b) {c : Cell} : c ∈ m_open fl ↔ m_is_on fl.a fl.b c = true ∧ c ∉ fl.c.items := by
  unfold m_open
  rw [List.mem_filter, mem_all h, Bool.not_eq_true', memB_no]
abbrev NLF : List Str := ["_law_script", "_law_at", "_law_most", "_law_wide", "_law_high", "_law_rate", "_law_shuts", "_law_x", "_law_y"]
theorem sc__law_floor : FnScope NLF ["_law_script", "_law_at", "_law_most"] (defScope s__law_floor) := ⟨rfl, rfl, rfl, by decide +kernel, rfl, by decide +kernel, by decide +kernel⟩
abbrev sp__law_floor (K : PySem.W.Frag) : Sp := spP K (fun (y : Scr × Int × Int) => [enc y.1, enc y.2.1, enc y.2.2]) (fun y => y.1.l.length ≤ 1000 ∧ 0 < y.2.2 ∧ y.2.2 ≤ 100) (fun y => oF (m_law_floor y.1 y.2.1 y.2.2))
def R_lf (s : Scr) (at_ most : Int) (c : List Cell) : G.Env := [some (.fro (enc s)), some (.fro (enc at_)), some (.fro (enc most)), some (.fro (enc (m_wide s at_ most))), some (.fro (enc (m_high s at_ most))), some (.fro (enc (m_rate s at_))), some (oL c), none, none]
theorem ok__law_floor (F : FnF K "_law_floor" "_law_floor" s__law_floor f fd) (m_range : mg "range" = none) (m_tuple : mg "tuple" = none) (h__law_drawn : FnG P w K mg base 2 "_law_drawn" ["_law_script", "_law_k", "_law_many"] (sp_drawn K)) : FnOk P w K mg base (L2N.CX P w) 3 f fd ["_law_script", "_law_at", "_law_most"] (sp__law_floor K) := by
  refine def_pure F sc__law_floor (fun _ => rfl) fun y E hp => ?_
  obtain ⟨s, at_, most⟩ := y
  obtain ⟨hl, h0, h1⟩ : s.l.length ≤ 1000 ∧ 0 < most ∧ most ≤ 100 := hp
  have wb := wide_b s at_ h0
  have hb := high_b s at_ h0
  obtain ⟨r1, r2⟩ := rate_ok s at_
  refine ⟨rF (m_law_floor s at_ most), ?_, fits_F⟩
  refine xb_cons (ρ1 := [some (.fro (enc s)), some (.fro (enc at_)), some (.fro (enc most)), some (.fro (enc (m_wide s at_ most))), none, none, none, none, none]) (xs_setF 3 (tp_add tp_int (tp_call h__law_drawn (s, at_, most) ⟨hl, h0⟩ (xa_cons (xp_var 0) (xa_cons (xp_var 1) (xa_cons (xp_var 2) xa_nil)))))) ?_
  refine xb_cons (ρ1 := [some (.fro (enc s)), some (.fro (enc at_)), some (.fro (enc most)), some (.fro (enc (m_wide s at_ most))), some (.fro (enc (m_high s at_ most))), none, none, none, none]) (xs_setF 4 (tp_add tp_int (tp_call h__law_drawn (s, at_ + 1, most) ⟨hl, h0⟩ (xa_cons (xp_var 0) (xa_cons (tp_add (xp_var 1) tp_int) (xa_cons (xp_var 2) xa_nil)))))) ?_
  refine xb_cons (ρ1 := [some (.fro (enc s)), some (.fro (enc at_)), some (.fro (enc most)), some (.fro (enc (m_wide s at_ most))), some (.fro (enc (m_high s at_ most))), some (.fro (enc (m_rate s at_))), none, none, none])
    (xs_setF 5 (tp_ixL (xs := m_rates) (xp_lst (xa_cons tp_int (xa_cons tp_int (xa_cons tp_int (xa_cons tp_int (xa_cons tp_int xa_nil))))) (by show 5 ≤ 1000000; omega)) (tp_call h__law_drawn (s, at_ + 2, 5) ⟨hl, by dsimp only; decide⟩ (xa_cons (xp_var 0) (xa_cons (tp_add (xp_var 1) tp_int) (xa_cons tp_int xa_nil)))) r1)) ?_
  refine xb_cons (ρ1 := R_lf s at_ most []) (xs_setM 6 (xx_lst xa_nil)) ?_
  refine xb_cons (ρ1 := R_lf s at_ most (m_shuts s at_ most)) (xs_forN (rng 0 (m_wide s at_ most)) enc (R_lf s at_ most) (fun c x => c ++ m_shutcol s at_ (m_rate s at_) (m_high s at_ most) x) (fun i c => c.length ≤ 100 * i) (fun c x => (R_lf s at_ most c).set 7 (some (.fro (enc x)))) [] (xi_rng1 m_range (xp_var 3) (by omega)) (tg_n 7) (fun c x => eg_name 7) (by simp) fun i c x hx hI => ⟨?_, ?_⟩) ?_
  · have hi : i < 100 := by
      have h1 := (List.getElem?_eq_some_iff.mp hx).1
      rw [rng_len] at h1
      omega
    refine xb_forgets [7] (ρ1 := (R_lf s at_ most (c ++ m_shutcol s at_ (m_rate s at_) (m_high s at_ most) x)).set 7 (some (.fro (enc x)))) ?_ rfl
    exact xb_one (xs_exprM (xx_ext (xl_var 6) (tp_lc (rng 0 (m_high s at_ most)) enc (fun y => decide (m_drawn s (at_ + 3 + 8 * x + y) (m_rate s at_) = 0)) (fun y => ((x, y) : Cell)) [("_law_y", 8)] _ (xi_rng1 m_range (xp_var 4) (by omega)) (tg_n 8) to_name (fun y hy => eg_name 8)
      (fun y hy => tt_eq (XP.v (tp_call h__law_drawn (s, at_ + 3 + 8 * x + y, m_rate s at_) ⟨hl, r2⟩ (xa_cons (xp_var 0) (xa_cons (tp_add (tp_add (tp_add (xp_var 1) tp_int) (tp_mul tp_int (xp_var 7) (.inl (by decide)))) (xp_var 8)) (xa_cons (xp_var 5) xa_nil))))) (XP.v tp_int))
      (fun y hy _ => tp_2 (xa_cons (xp_var 7) (xa_cons (xp_var 8) xa_nil))) (by rw [rng_len]; omega)) (by have := shutcol_len s at_ (m_rate s at_) (m_high s at_ most) x; unfold m_shutcol at this; omega)))
  · have := shutcol_len s at_ (m_rate s at_) (m_high s at_ most) x
    show (c ++ _).length ≤ _
    rw [List.length_append]; omega
  refine xb_freeze 6 (o := oL (m_shuts s at_ most)) rfl ?_
  rw [oL_d]
  exact xb_ret rF (m_law_floor s at_ most) (xs_retF (tp_3 (p := m_wide s at_ most) (q := m_high s at_ most) (r := Tup.mk (m_shuts s at_ most)) (xa_cons (xp_var 3) (xa_cons (xp_var 4) (xa_cons (tp_tupL m_tuple (xp_var 6)) xa_nil))))) trivial

def lineD (C : Addr) (l : LineS) : D := .ins C ["cells", "couples", "right", "down"] [enc l.cells, enc l.cps, enc l.right, enc l.down]
def m_squeezed (fl : Floor) (l : LineS) : Bool := (l.cps.map fun p => memB p.1 fl.c.items && memB p.2 fl.c.items).any id
def m_free (fl : Floor) (l : LineS) (cells : List Cell) : Bool := (!(cells.map fun c => memB c fl.c.items).any id) && !m_squeezed fl l
def m_lso (one other : Cell) : LineS := m_ls one other (m_line one other)
def m_looks (fl : Floor) (one other : Cell) : Bool := m_free fl (m_lso one other) (m_line one other).cells
def m_sees (fl : Floor) (one other : Cell) : Except Str Bool := bindE (m_need_cell fl one) fun _ => bindE (m_need_cell fl other) fun _ => .ok (m_looks fl one other)
def m_spots (fl : Floor) (cell other : Cell) : Bool := m_free fl (m_lso cell other) (cutL (m_line cell other).cells none (some (-1)))
def m_seen (fl : Floor) (cell : Cell) : List Cell := (m_all_cells fl).filter (m_spots fl cell)
def m_seen_from (fl : Floor) (cell : Cell) : Except Str (List Cell) := bindE (m_need_open fl cell) fun _ => .ok (m_seen fl cell)
def m_field (fl : Floor) (cell : Cell) : List Cell := (m_seen fl cell).filter fun c => !memB c fl.c.items
theorem sees_on {fl : Floor} {c d : Cell} (hc : m_is_on fl.a fl.b c = true) (hd : m_is_on fl.a fl.b d = true) : m_sees fl c d = .ok (m_looks fl c d) := by unfold m_sees; rw [need_on hc, need_on hd]; rfl
theorem seen_on {fl : Floor} {c : Cell} (hc : m_is_on fl.a fl.b c = true) (h2 : c ∉ fl.c.items) : m_seen_from fl c = .ok (m_seen fl c) := by unfold m_seen_from; rw [open_on hc h2]; rfl
theorem open_is {fl : Floor} {c : Cell} {u : Unit} (h : m_need_open fl c = .ok u) : m_is_on fl.a fl.b c = true ∧ c ∉ fl.c.items := by
  unfold m_need_open m_is_solid m_need_cell at h
  cases ho : m_is_on fl.a fl.b c with
  | false => rw [ho] at h; cases h
  | true =>
    rw [ho] at h
    refine ⟨rfl, fun hm => ?_⟩
    rw [memB_iff.mpr hm] at h
    cases h
theorem foldl_filter {α : Type} (p : α → Bool) : ∀ (xs s : List α), xs.foldl (fun s x => if p x = true then s ++ [x] else s) s = s ++ xs.filter p
  | [], s => by simp
  | x :: xs, s => by
    rw [List.foldl_cons, foldl_filter p xs, List.filter_cons]
    by_cases h : p x = true
    · rw [if_pos h, if_pos h, List.append_assoc]; rfl
    · rw [if_neg h, if_neg h]
theorem m_run_len (one other : Cell) : ∀ (n : Nat) (s s' : LState), m_run one other n s = some (.nx s') → s'.cells.length ≤ s.cells.length + n ∧ s'.cps.length ≤ s.cps.length + n
  | 0, _, _, h => by cases h
  | n + 1, s, s', h => by
    unfold m_run whL at h
    by_cases c : (!decide (s.here = other)) = true
    · rw [if_pos c] at h
      have z := m_run_len one other n _ _ h
      have h1 : (m_go one other s).cells.length = s.cells.length + 1 := by show (s.cells ++ [_]).length = _; simp
      have h2 := m_next_len (m_ls one other s) s.here s.lead
      have h3 : (m_ls one other s).cps = s.cps := rfl
      have h4 : (m_go one other s).cps = (m_next (m_ls one other s) s.here s.lead).cps := rfl
      rw [h3] at h2
      rw [h1, h4] at z
      omega
    · rw [if_neg c] at h
      cases h
      omega
theorem line_len {one other : Cell} (h : LineOk one other) : (m_line one other).cells.length ≤ 101 ∧ (m_line one other).cps.length ≤ 100 := by
  have := m_run_len one other 100 _ _ (m_line_ok h)
  have e1 : (m_ini one other).cells.length = 1 := rfl
  have e2 : (m_ini one other).cps.length = 0 := rfl
  omega

def mirC (p : Cell) : Cell := (-p.1, p.2)
def swpC (p : Cell) : Cell := (p.2, p.1)
def two2 (g : Cell → Cell) (p : Cell × Cell) : Cell × Cell := two (g p.1) (g p.2)
def okRel (a d : Int) : Bool :=
  (decide ((relS (-a) (-d)).cells = (relS a d).cells.reverse.map (m_at (-a, -d))) && decide ((relS (-a) (-d)).cps = (relS a d).cps.reverse.map (sh2 (-a, -d)))) &&
  (decide ((relS a d).cells = cutL (relS a d).cells none (some (-1)) ++ [(a, d)]) && memB (0, 0) (relS a d).cells) &&
  ((decide (2 ≤ absI a + absI d) || ((cutL (relS a d).cells none (some (-1))).all (fun c => decide (c = (0, 0))) && (relS a d).cps.isEmpty)) &&
  (decide ((relS (-a) d).cells = (relS a d).cells.map mirC) && decide ((relS (-a) d).cps = (relS a d).cps.map (two2 mirC)))) &&
  (decide ((relS d a).cells = (relS a d).cells.map swpC) && decide ((relS d a).cps = (relS a d).cps.map (two2 swpC)))
theorem okRel_all : (rng (-6) 7).all (fun a => (rng (-6) 7).all fun d => okRel a d) = true := by decide +kernel
structure RelF (a d : Int) : Prop where
  rc : (relS (-a) (-d)).cells = (relS a d).cells.reverse.map (m_at (-a, -d))
  rp : (relS (-a) (-d)).cps = (relS a d).cps.reverse.map (sh2 (-a, -d))
  ini : (relS a d).cells = cutL (relS a d).cells none (some (-1)) ++ [(a, d)]
  hd : ((0, 0) : Cell) ∈ (relS a d).cells
  nr : absI a + absI d < 2 → (∀ c ∈ cutL (relS a d).cells none (some (-1)), c = (0, 0)) ∧ (relS a d).cps = []
  mc : (relS (-a) d).cells = (relS a d).cells.map mirC
  mp : (relS (-a) d).cps = (relS a d).cps.map (two2 mirC)
  fc : (relS d a).cells = (relS a d).cells.map swpC
  fp : (relS d a).cps = (relS a d).cps.map (two2 swpC)
theorem relF (a d : Int) (h : -7 < a ∧ a < 7 ∧ -7 < d ∧ d < 7) : RelF a d := by
  have z := List.all_eq_true.mp (List.all_eq_true.mp okRel_all a (rng_mem (by omega))) d (rng_mem (by omega))
  unfold okRel at z
  simp only [Bool.and_eq_true, Bool.or_eq_true, decide_eq_true_eq, memB_iff, List.all_eq_true, List.isEmpty_iff] at z
  obtain ⟨⟨⟨⟨h1, h2⟩, h3, h4⟩, h5, h6, h7⟩, h8, h9⟩ := z
  exact ⟨h1, h2, h3, h4, fun hn => h5.elim (fun q => absurd q (by omega)) id, h6, h7, h8, h9⟩
abbrev LC (one other : Cell) : List Cell := (m_line one other).cells
abbrev LP (one other : Cell) : List (Cell × Cell) := (m_line one other).cps
abbrev Near (one other : Cell) : Prop := -7 < other.1 - one.1 ∧ other.1 - one.1 < 7 ∧ -7 < other.2 - one.2 ∧ other.2 - one.2 < 7
theorem lc_eq {one other : Cell} (h : Near one other) : LC one other = (relS (other.1 - one.1) (other.2 - one.2)).cells.map (m_at one) := by
  show (m_line one other).cells = _
  rw [(line_rel one other h).2]; rfl
theorem lp_eq {one other : Cell} (h : Near one other) : LP one other = (relS (other.1 - one.1) (other.2 - one.2)).cps.map (sh2 one) := by
  show (m_line one other).cps = _
  rw [(line_rel one other h).2]; rfl
theorem Near.symm {one other : Cell} (h : Near one other) : Near other one := by unfold Near at *; omega
theorem at_at (s t c : Cell) : m_at s (m_at t c) = m_at (m_at s t) c := by unfold m_at; exact Prod.ext (by dsimp only; omega) (by dsimp only; omega)
theorem lc_rev {one other : Cell} (h : Near one other) : LC other one = (LC one other).reverse ∧ LP other one = (LP one other).reverse := by
  have R := relF _ _ h
  have e1 : one.1 - other.1 = -(other.1 - one.1) := by omega
  have e2 : one.2 - other.2 = -(other.2 - one.2) := by omega
  have e3 : m_at other (-(other.1 - one.1), -(other.2 - one.2)) = one := by unfold m_at; exact Prod.ext (by dsimp only; omega) (by dsimp only; omega)
  constructor
  · rw [lc_eq h.symm, lc_eq h, e1, e2, R.rc, List.map_map, ← List.map_reverse]
    congr 1
    funext c
    show m_at other (m_at _ c) = m_at one c
    rw [at_at, e3]
  · rw [lp_eq h.symm, lp_eq h, e1, e2, R.rp, List.map_map, ← List.map_reverse]
    congr 1
    funext p
    show (m_at other (m_at _ p.1), m_at other (m_at _ p.2)) = (m_at one p.1, m_at one p.2)
    rw [at_at, at_at, e3]
theorem lc_ini {one other : Cell} (h : Near one other) : LC one other = cutL (LC one other) none (some (-1)) ++ [other] ∧ one ∈ LC one other := by
  have R := relF _ _ h
  rw [lc_eq h]
  constructor
  · rw [cutL_map]
    conv => lhs; rw [R.ini]
    rw [List.map_append, List.map_cons, List.map_nil]
    congr 2
    unfold m_at; exact Prod.ext (by dsimp only; omega) (by dsimp only; omega)
  · refine List.mem_map.mpr ⟨(0, 0), R.hd, ?_⟩
    unfold m_at; exact Prod.ext (by dsimp only; omega) (by dsimp only; omega)
theorem lc_near {one other : Cell} (h : Near one other) (hn : absI (other.1 - one.1) + absI (other.2 - one.2) < 2) : (∀ c ∈ cutL (LC one other) none (some (-1)), c = one) ∧ LP one other = [] := by
  have R := relF _ _ h
  obtain ⟨h1, h2⟩ := R.nr hn
  rw [lc_eq h, lp_eq h, cutL_map, h2]
  refine ⟨fun c hc => ?_, rfl⟩
  obtain ⟨d, hd, rfl⟩ := List.mem_map.mp hc
  rw [h1 d hd]
  unfold m_at; exact Prod.ext (by dsimp only; omega) (by dsimp only; omega)
/-- a way to move cells that moves lines -/
structure Moves (φ : Cell → Cell) : Prop where
  lc : ∀ one other, Near one other → LC (φ one) (φ other) = (LC one other).map φ
  lp : ∀ one other, Near one other → LP (φ one) (φ other) = (LP one other).map (two2 φ)
theorem moves_mir (w : Int) : Moves fun p => (w - p.1, p.2) := by
  have key : ∀ one c : Cell, m_at (w - one.1, one.2) (mirC c) = (w - (m_at one c).1, (m_at one c).2) := fun one c => by unfold m_at mirC; exact Prod.ext (by dsimp only; omega) rfl
  refine ⟨fun one other h => ?_, fun one other h => ?_⟩
  · have R := relF _ _ h
    have h' : Near (w - one.1, one.2) (w - other.1, other.2) := by unfold Near at *; dsimp only; omega
    rw [lc_eq h', lc_eq h]
    have e1 : (w - other.1, other.2).1 - (w - one.1, one.2).1 = -(other.1 - one.1) := by dsimp only; omega
    rw [e1]
    show ((relS _ (other.2 - one.2)).cells.map _) = _
    rw [R.mc, List.map_map, List.map_map]
    congr 1
    funext c
    exact key one c
  · have R := relF _ _ h
    have h' : Near (w - one.1, one.2) (w - other.1, other.2) := by unfold Near at *; dsimp only; omega
    rw [lp_eq h', lp_eq h]
    have e1 : (w - other.1, other.2).1 - (w - one.1, one.2).1 = -(other.1 - one.1) := by dsimp only; omega
    rw [e1]
    show ((relS _ (other.2 - one.2)).cps.map _) = _
    rw [R.mp, List.map_map, List.map_map]
    congr 1
    funext p
    show sh2 (w - one.1, one.2) (two (mirC p.1) (mirC p.2)) = two _ _
    rw [← two_at, key, key]
    rfl
theorem moves_swp : Moves fun p => (p.2, p.1) := by
  have key : ∀ one c : Cell, m_at (one.2, one.1) (swpC c) = ((m_at one c).2, (m_at one c).1) := fun one c => rfl
  refine ⟨fun one other h => ?_, fun one other h => ?_⟩
  · have R := relF _ _ h
    have h' : Near (one.2, one.1) (other.2, other.1) := by unfold Near at *; dsimp only; omega
    rw [lc_eq h', lc_eq h]
    show ((relS (other.2 - one.2) (other.1 - one.1)).cells.map _) = _
    rw [R.fc, List.map_map, List.map_map]
    rfl
  · have R := relF _ _ h
    have h' : Near (one.2, one.1) (other.2, other.1) := by unfold Near at *; dsimp only; omega
    rw [lp_eq h', lp_eq h]
    show ((relS (other.2 - one.2) (other.1 - one.1)).cps.map _) = _
    rw [R.fp, List.map_map, List.map_map]
    congr 1
    funext p
    show sh2 (one.2, one.1) (two (swpC p.1) (swpC p.2)) = two _ _
    rw [← two_at, key, key]
    rfl

def m_mine (fl : Floor) (one : Cell) : List Cell := (m_all_cells fl).filter (m_looks fl one)
def FreeP (fl : Floor) (cells : List Cell) (cps : List (Cell × Cell)) : Prop := (∀ c ∈ cells, c ∉ fl.c.items) ∧ ∀ p ∈ cps, ¬(p.1 ∈ fl.c.items ∧ p.2 ∈ fl.c.items)
theorem free_iff (fl : Floor) (l : LineS) (cells : List Cell) : m_free fl l cells = true ↔ FreeP fl cells l.cps := by
  unfold m_free m_squeezed FreeP
  rw [Bool.and_eq_true, Bool.not_eq_true', Bool.not_eq_true', List.any_eq_false, List.any_eq_false]
  simp only [List.mem_map, id, Bool.not_eq_true]
  constructor
  · rintro ⟨h1, h2⟩
    refine ⟨fun c hc => memB_no.mp (h1 _ ⟨c, hc, rfl⟩), fun p hp hh => ?_⟩
    have := h2 _ ⟨p, hp, rfl⟩
    rw [memB_iff.mpr hh.1, memB_iff.mpr hh.2] at this
    cases this
  · rintro ⟨h1, h2⟩
    refine ⟨?_, ?_⟩
    · rintro x ⟨c, hc, rfl⟩
      exact memB_no.mpr (h1 c hc)
    · rintro x ⟨p, hp, rfl⟩
      cases e1 : memB p.1 fl.c.items with
      | false => rfl
      | true =>
        cases e2 : memB p.2 fl.c.items with
        | false => rfl
        | true => exact absurd ⟨memB_iff.mp e1, memB_iff.mp e2⟩ (h2 p hp)
theorem looks_iff (fl : Floor) (one other : Cell) : m_looks fl one other = true ↔ FreeP fl (LC one other) (LP one other) := free_iff fl _ _
theorem spots_iff (fl : Floor) (one other : Cell) : m_spots fl one other = true ↔ FreeP fl (cutL (LC one other) none (some (-1))) (LP one other) := free_iff fl _ _
theorem near_on {fl : Floor} (L : FlL fl) {c d : Cell} (hc : m_is_on fl.a fl.b c = true) (hd : m_is_on fl.a fl.b d = true) : Near c d := by
  rw [on_iff] at hc hd
  obtain ⟨h1, h2, h3, h4⟩ := L
  unfold Near; omega
theorem looks_symm {fl : Floor} {c d : Cell} (h : Near c d) : m_looks fl d c = m_looks fl c d := by
  rw [Bool.eq_iff_iff, looks_iff, looks_iff]
  obtain ⟨h1, h2⟩ := lc_rev h
  unfold FreeP
  rw [h1, h2]
  simp only [List.mem_reverse]
theorem looks_spots {fl : Floor} {c d : Cell} (h : Near c d) : m_looks fl c d = true ↔ m_spots fl c d = true ∧ d ∉ fl.c.items := by
  rw [looks_iff, spots_iff]
  unfold FreeP
  have e := (lc_ini h).1
  constructor
  · rintro ⟨h1, h2⟩
    rw [e] at h1
    exact ⟨⟨fun x hx => h1 x (List.mem_append_left _ hx), h2⟩, h1 d (by simp)⟩
  · rintro ⟨⟨h1, h2⟩, h3⟩
    refine ⟨fun x hx => ?_, h2⟩
    rw [e] at hx
    rcases List.mem_append.mp hx with hx | hx
    · exact h1 x hx
    · rw [List.mem_singleton.mp hx]; exact h3
theorem mine_field {fl : Floor} (L : FlL fl) {one : Cell} (h1 : m_is_on fl.a fl.b one = true) : m_field fl one = m_mine fl one := by
  unfold m_field m_seen m_mine
  rw [List.filter_filter]
  refine List.filter_congr fun c hc => ?_
  have N := near_on L h1 ((mem_all L.2.2.1).mp hc)
  rw [Bool.eq_iff_iff, Bool.and_eq_true, Bool.not_eq_true', looks_spots N]
  exact ⟨fun h => ⟨h.2, memB_no.mp h.1⟩, fun h => ⟨memB_no.mpr h.2, h.1⟩⟩
/-! all cells stand in their order -/
theorem lt_tf {x y : Cell} (h : DatumOrd.lt x y = true) : DatumOrd.lt y x = false := by
  rcases LOrd.tot x y with z | z
  · exact z
  · rw [z] at h; cases h
theorem all_strict {fl : Floor} (hb : 0 < fl.b) : (m_all_cells fl).Pairwise fun x y => DatumOrd.lt x y = true := by
  unfold m_all_cells rng
  rw [List.map_map, List.pairwise_map]
  refine List.pairwise_lt_range.imp fun {i j} hij => ?_
  show DatumOrd.lt ((0 + (i : Int)) / fl.b, (0 + (i : Int)) % fl.b) ((0 + (j : Int)) / fl.b, (0 + (j : Int)) % fl.b) = true
  rw [lt_pair]
  simp only [G.lt_int, Int.zero_add]
  have e1 := Int.mul_ediv_add_emod (i : Int) fl.b
  have e2 := Int.mul_ediv_add_emod (j : Int) fl.b
  split
  · rename_i h
    rw [h] at e1
    exact decide_eq_true (by omega)
  · rename_i h
    have := Int.ediv_le_ediv hb (a := (i : Int)) (b := (j : Int)) (by omega)
    exact decide_eq_true (by omega)
theorem all_srt {fl : Floor} (hb : 0 < fl.b) (p : Cell → Bool) : SrtT ((m_all_cells fl).filter p) := ((all_strict hb).filter p).imp lt_tf
theorem all_nodup {fl : Floor} (hb : 0 < fl.b) (p : Cell → Bool) : ((m_all_cells fl).filter p).Nodup := ((all_strict hb).filter p).imp fun {x y} h e => by
  subst e
  rw [lt_self] at h
  cases h
/-- moved floors -/
structure Moved (φ ψ : Cell → Cell) (fl fl' : Floor) : Prop where
  mv : Moves φ
  inv : ∀ c, ψ (φ c) = c
  inv' : ∀ c, φ (ψ c) = c
  wal : ∀ c, φ c ∈ fl'.c.items ↔ c ∈ fl.c.items
  on : ∀ c, m_is_on fl'.a fl'.b (φ c) = m_is_on fl.a fl.b c
  L : FlL fl
  L' : FlL fl'
theorem two2_mem {φ : Cell → Cell} {W : List Cell} (p : Cell × Cell) : ((two2 φ p).1 ∈ W ∧ (two2 φ p).2 ∈ W) ↔ (φ p.1 ∈ W ∧ φ p.2 ∈ W) := by
  unfold two2 two
  split
  · exact ⟨fun h => ⟨h.2, h.1⟩, fun h => ⟨h.2, h.1⟩⟩
  · exact Iff.rfl
theorem Moved.looks {φ ψ : Cell → Cell} {fl fl' : Floor} (M : Moved φ ψ fl fl') {c d : Cell} (h : Near c d) : m_looks fl' (φ c) (φ d) = m_looks fl c d := by
  rw [Bool.eq_iff_iff, looks_iff, looks_iff]
  unfold FreeP
  rw [M.mv.lc c d h, M.mv.lp c d h]
  constructor
  · rintro ⟨h1, h2⟩
    exact ⟨fun x hx hw => h1 (φ x) (List.mem_map.mpr ⟨x, hx, rfl⟩) ((M.wal x).mpr hw), fun p hp hw => h2 (two2 φ p) (List.mem_map.mpr ⟨p, hp, rfl⟩) ((two2_mem p).mpr ⟨(M.wal _).mpr hw.1, (M.wal _).mpr hw.2⟩)⟩
  · rintro ⟨h1, h2⟩
    refine ⟨fun y hy hw => ?_, fun q hq hw => ?_⟩
    · obtain ⟨x, hx, rfl⟩ := List.mem_map.mp hy
      exact h1 x hx ((M.wal x).mp hw)
    · obtain ⟨p, hp, rfl⟩ := List.mem_map.mp hq
      have hw := (two2_mem p).mp hw
      exact h2 p hp ⟨(M.wal _).mp hw.1, (M.wal _).mp hw.2⟩
theorem Moved.mine {φ ψ : Cell → Cell} {fl fl' : Floor} (M : Moved φ ψ fl fl') {one : Cell} (h1 : m_is_on fl.a fl.b one = true) : m_mine fl' (φ one) = sortT ((m_mine fl one).map φ) := by
  symm
  refine sortT_of (all_srt M.L'.2.2.1 _) ((List.perm_ext_iff_of_nodup (all_nodup M.L'.2.2.1 _) ?_).mpr fun v => ?_)
  · refine List.pairwise_map.mpr ((all_nodup M.L.2.2.1 _).imp fun {x y} h e => h ?_)
    rw [← M.inv x, ← M.inv y, e]
  · rw [List.mem_filter, mem_all M.L'.2.2.1]
    constructor
    · rintro ⟨h, hl⟩
      have e := M.inv' v
      rw [← e] at h hl
      rw [M.on] at h
      rw [M.looks (near_on M.L h1 h)] at hl
      exact List.mem_map.mpr ⟨ψ v, List.mem_filter.mpr ⟨(mem_all M.L.2.2.1).mpr h, hl⟩, e⟩
    · intro h
      obtain ⟨c, hc, rfl⟩ := List.mem_map.mp h
      have hc := List.mem_filter.mp hc
      have hon := (mem_all M.L.2.2.1).mp hc.1
      rw [M.on, M.looks (near_on M.L h1 hon)]
      exact ⟨hon, hc.2⟩
theorem Moved.field {φ ψ : Cell → Cell} {fl fl' : Floor} (M : Moved φ ψ fl fl') {one : Cell} (h1 : m_is_on fl.a fl.b one = true) (hw : one ∉ fl.c.items) :
    FlL fl' ∧ m_is_on fl'.a fl'.b (φ one) = true ∧ φ one ∉ fl'.c.items ∧ m_field fl' (φ one) = sortT ((m_mine fl one).map φ) := by
  have h2 : m_is_on fl'.a fl'.b (φ one) = true := by rw [M.on]; exact h1
  exact ⟨M.L', h2, fun h => hw ((M.wal _).mp h), by rw [mine_field M.L' h2, M.mine h1]⟩
theorem moved_mir {fl : Floor} (L : FlL fl) : Moved (fun p => (fl.a - 1 - p.1, p.2)) (fun p => (fl.a - 1 - p.1, p.2)) fl (m_mirrored fl) where
  mv := moves_mir (fl.a - 1)
  inv := fun c => Prod.ext (by dsimp only; omega) rfl
  inv' := fun c => Prod.ext (by dsimp only; omega) rfl
  wal := fun c => by
    show _ ∈ sortT _ ↔ _
    rw [(sortT_perm _).mem_iff, List.mem_map]
    constructor
    · rintro ⟨p, hp, e⟩
      have e1 := congrArg Prod.fst e
      have e2 := congrArg Prod.snd e
      dsimp only at e1 e2
      rw [show c = p from Prod.ext (by omega) e2.symm]
      exact hp
    · intro h
      exact ⟨c, h, rfl⟩
  on := fun c => by
    rw [Bool.eq_iff_iff, on_iff, on_iff]
    show (0 ≤ fl.a - 1 - c.1 ∧ fl.a - 1 - c.1 < fl.a ∧ 0 ≤ c.2 ∧ c.2 < fl.b) ↔ _
    omega
  L := L
  L' := L
theorem moved_swp {fl : Floor} (L : FlL fl) : Moved (fun p => (p.2, p.1)) (fun p => (p.2, p.1)) fl (m_flipped fl) where
  mv := moves_swp
  inv := fun c => rfl
  inv' := fun c => rfl
  wal := fun c => by
    show _ ∈ sortT _ ↔ _
    rw [(sortT_perm _).mem_iff, List.mem_map]
    constructor
    · rintro ⟨p, hp, e⟩
      have e1 := congrArg Prod.fst e
      have e2 := congrArg Prod.snd e
      dsimp only at e1 e2
      rw [show c = p from Prod.ext e2.symm e1.symm]
      exact hp
    · intro h
      exact ⟨c, h, rfl⟩
  on := fun c => by
    rw [Bool.eq_iff_iff, on_iff, on_iff]
    show (0 ≤ c.2 ∧ c.2 < fl.b ∧ 0 ≤ c.1 ∧ c.1 < fl.a) ↔ _
    omega
  L := L
  L' := ⟨L.2.2.1, L.2.2.2, L.1, L.2.1⟩

def m_cpl (fl : Floor) (cells : List Cell) (c : List (Cell × Cell)) (p : Int × Cell) : List (Cell × Cell) := c ++ ((cutL cells (some (p.1 + 1)) none).filter (m_looks fl p.2)).map fun o => (p.2, o)
def m_couples (fl : Floor) : List (Cell × Cell) := (enumL (m_open fl)).foldl (m_cpl fl (m_open fl)) []
def m_anyof (fl : Floor) (cs : List Cell) : List Cell := (m_open fl).filter fun c => ((cs.map (m_field fl)).map fun f => memB c f).any id
def m_allof (fl : Floor) (cs : List Cell) : List Cell := (m_open fl).filter fun c => ((cs.map (m_field fl)).map fun f => memB c f).all id
def OpenC (fl : Floor) (cs : List Cell) : Prop := FlL fl ∧ (∀ c ∈ cs, m_is_on fl.a fl.b c = true ∧ c ∉ fl.c.items) ∧ cs.length ≤ 100000
theorem cutL_len {α : Type} (xs : List α) (lo hi : Option Int) : (cutL xs lo hi).length ≤ xs.length := by
  unfold cutL
  rw [List.length_take, List.length_drop]; omega
theorem cutL_mem {α : Type} {xs : List α} {lo hi : Option Int} {x : α} (h : x ∈ cutL xs lo hi) : x ∈ xs := by
  unfold cutL at h
  exact List.mem_of_mem_drop (List.mem_of_mem_take h)
theorem enumL_mem {α : Type} {xs : List α} {p : Int × α} (h : p ∈ enumL xs) : p.2 ∈ xs := by
  unfold enumL at h
  obtain ⟨q, hq, rfl⟩ := List.mem_map.mp h
  exact (List.of_mem_zip (a := q.1) (b := q.2) hq).2
theorem open_le {fl : Floor} (L : FlL fl) : (m_open fl).length ≤ 36 := by
  refine Nat.le_trans (List.length_filter_le _ _) ?_
  unfold m_all_cells
  rw [List.length_map, rng_len]
  obtain ⟨h1, h2, h3, h4⟩ := L
  have : fl.a * fl.b ≤ 6 * 6 := Int.mul_le_mul h2 h4 (by omega) (by omega)
  omega

def m_is_whole (v_thing : Int) : Bool :=
  (true && (!false))
theorem sc_is_whole : FnScope ["thing"] ["thing"] (defScope s_is_whole) := ⟨rfl, rfl, rfl, by decide +kernel, rfl, by decide +kernel, by decide +kernel⟩
abbrev sp_is_whole (K : PySem.W.Frag) : Sp := spP K (fun (y : (Int)) => [enc y]) (fun y => True) (fun y => oF (m_is_whole y))
theorem ok_is_whole (F : FnF K "is_whole" "is_whole" s_is_whole f fd) (m_bool : mg "bool" = none) (m_int : mg "int" = none) (m_isinstance : mg "isinstance" = none) : FnOk P w K mg base (L2N.CX P w) 1 f fd ["thing"] (sp_is_whole K) := by
  refine def_pure F sc_is_whole (fun _ => rfl) fun y E hp => ?_
  obtain ⟨v_thing, rfl⟩ : ∃ z, z = y := ⟨_, rfl⟩
  refine ⟨rF (m_is_whole v_thing), ?_, fits_F⟩
  unfold m_is_whole
  exact xb_rtF (tp_and (tp_isi (n := "int") true m_isinstance m_int (XP.v (xp_var 0))) (fun hk => (tp_one (tp_not (tp_isi (n := "bool") false m_isinstance m_bool (XP.v (xp_var 0)))))))

def m_is_spot (v_thing : Cell) : Bool :=
  (true && ((eqB (2 : Int) (2 : Int)) && ((m_is_whole v_thing.1) && (m_is_whole v_thing.2))))
theorem sc_is_spot : FnScope ["thing"] ["thing"] (defScope s_is_spot) := ⟨rfl, rfl, rfl, by decide +kernel, rfl, by decide +kernel, by decide +kernel⟩
abbrev sp_is_spot (K : PySem.W.Frag) : Sp := spP K (fun (y : (Cell)) => [enc y]) (fun y => True) (fun y => oF (m_is_spot y))
theorem ok_is_spot (F : FnF K "is_spot" "is_spot" s_is_spot f fd) (m_isinstance : mg "isinstance" = none) (m_len : mg "len" = none) (m_tuple : mg "tuple" = none)
    (h_is_whole : FnG P w K mg base 1 "is_whole" ["thing"] (sp_is_whole K)) : FnOk P w K mg base (L2N.CX P w) 2 f fd ["thing"] (sp_is_spot K) := by
  refine def_pure F sc_is_spot (fun _ => rfl) fun y E hp => ?_
  obtain ⟨v_thing, rfl⟩ : ∃ z, z = y := ⟨_, rfl⟩
  refine ⟨rF (m_is_spot v_thing), ?_, fits_F⟩
  unfold m_is_spot
  exact xb_rtF (tp_and (tp_isi (n := "tuple") true m_isinstance m_tuple (XP.v (xp_var 0))) (fun hk => (tp_and (tv_eq (XP.v (tp_len2 m_len (XP.v (xp_var 0)))) (XP.v tp_int)) (fun hk => (tp_and (tp_call h_is_whole v_thing.1 trivial (xa_cons (tp_ix2a (xp_var 0)) xa_nil) ) (fun hk => (tp_one (tp_call h_is_whole v_thing.2 trivial (xa_cons (tp_ix2b (xp_var 0)) xa_nil) ))))))))

def m_is_side (v_thing : Int) : Bool :=
  ((m_is_whole v_thing) && (decide ((1 : Int) ≤ v_thing) && decide (v_thing ≤ (12 : Int))))
theorem sc_is_side : FnScope ["thing"] ["thing"] (defScope s_is_side) := ⟨rfl, rfl, rfl, by decide +kernel, rfl, by decide +kernel, by decide +kernel⟩
abbrev sp_is_side (K : PySem.W.Frag) : Sp := spP K (fun (y : (Int)) => [enc y]) (fun y => True) (fun y => oF (m_is_side y))
theorem ok_is_side (F : FnF K "is_side" "is_side" s_is_side f fd) (i_MOST_SIDE : ∃ t, mg "MOST_SIDE" = some (.int 12 t))
    (h_is_whole : FnG P w K mg base 1 "is_whole" ["thing"] (sp_is_whole K)) : FnOk P w K mg base (L2N.CX P w) 2 f fd ["thing"] (sp_is_side K) := by
  refine def_pure F sc_is_side (fun _ => rfl) fun y E hp => ?_
  obtain ⟨v_thing, rfl⟩ : ∃ z, z = y := ⟨_, rfl⟩
  refine ⟨rF (m_is_side v_thing), ?_, fits_F⟩
  unfold m_is_side
  exact xb_rtF (tp_and (tp_call h_is_whole v_thing trivial (xa_cons (xp_var 0) xa_nil) ) (fun hk => (tp_one (tp_ch oc_le oc_le tp_int (xp_var 0) (xp_gint i_MOST_SIDE)))))

def m_is_floor (v_thing : Floor) : Bool :=
  if ((!true) || ((!eqB (3 : Int) (3 : Int)) || ((!(m_is_side v_thing.a)) || (!(m_is_side v_thing.b))))) = true then false else
  bnd v_thing.c fun (v_walls : Tup (Cell)) =>
  if ((!true) || (!((v_walls.items.map (fun (v_spot : Cell) => m_is_spot v_spot)).all id))) = true then false else
  if (!((v_walls.items.map (fun (v_spot_1 : Cell) => m_is_on v_thing.a v_thing.b v_spot_1)).all id)) = true then false else
  ((v_walls.items.zip (Tup.mk (cutL v_walls.items (some (1 : Int)) none)).items).map (fun (v_p : (Cell × Cell)) => DatumOrd.lt v_p.1 v_p.2)).all id
theorem sc_is_floor : FnScope ["thing", "walls", "spot", "one", "other"] ["thing"] (defScope s_is_floor) := ⟨rfl, rfl, rfl, by decide +kernel, rfl, by decide +kernel, by decide +kernel⟩
abbrev sp_is_floor (K : PySem.W.Frag) : Sp := spP K (fun (y : (Floor)) => [enc y]) (fun y => Sm y.c.items) (fun y => oF (m_is_floor y))
theorem ok_is_floor (F : FnF K "is_floor" "is_floor" s_is_floor f fd) (m_all : mg "all" = none) (m_isinstance : mg "isinstance" = none) (m_len : mg "len" = none) (m_tuple : mg "tuple" = none) (m_zip : mg "zip" = none)
    (h_is_side : FnG P w K mg base 2 "is_side" ["thing"] (sp_is_side K))
    (h_is_spot : FnG P w K mg base 2 "is_spot" ["thing"] (sp_is_spot K))
    (h_is_on : FnG P w K mg base 1 "is_on" ["wide", "high", "spot"] (sp_is_on K)) : FnOk P w K mg base (L2N.CX P w) 3 f fd ["thing"] (sp_is_floor K) := by
  refine def_pure F sc_is_floor (fun _ => rfl) fun y E hp => ?_
  obtain ⟨v_thing, rfl⟩ : ∃ z, z = y := ⟨_, rfl⟩
  have hp : Sm v_thing.c.items := hp
  haveI := hp
  refine ⟨rF (m_is_floor v_thing), ?_, fits_F⟩
  unfold m_is_floor
  refine xb_ifR _ (XW.t (xw_or (xt_not (tt_b (tp_isi (n := "tuple") true m_isinstance m_tuple (XP.v (xp_var 0))))) (fun hk => (xw_or (te_ne (XP.v (tp_len3 m_len (XP.v (xp_var 0)))) (XP.v tp_int)) (fun hk => (xw_or (xt_not (tt_b (tp_call h_is_side v_thing.a trivial (xa_cons (tp_ix3a (xp_var 0)) xa_nil) ))) (fun hk => (xw_or1 (xt_not (tt_b (tp_call h_is_side v_thing.b trivial (xa_cons (tp_ix3b (xp_var 0)) xa_nil) ))))))))))) (fun hk_0 => ?_) term_F.ne (fun hk_0 => ?_)
  · skip
    exact xb_rtF xp_bl
  · skip
    refine xb_stp _ (fun v_walls => [fv v_thing, fv v_walls, none, none, none]) (xs_sF (v := v_thing.c) 1 (tp_ix3c (xp_var 0))) (fun v_walls h_walls => ?_)
    haveI sm_walls : Sm v_walls.items := by rw [h_walls]; infer_instance
    refine xb_ifR _ (XW.t (xw_or (xt_not (tt_b (tp_isi (n := "tuple") true m_isinstance m_tuple (XP.v (xp_var 1))))) (fun hk => (xw_or1 (xt_not (tt_b (tp_all m_all (tp_lcm v_walls.items enc (fun (v_spot : Cell) => m_is_spot v_spot) [("spot", 2)] _ (xi_tt (xp_var 1)) (tg_n 2) to_name (fun v_spot h_spot => (eg_name 2)) (fun v_spot h_spot => (tp_call h_is_spot v_spot trivial (xa_cons (xp_var 2) xa_nil) )) Sm.h)))))))) (fun hk_3 => ?_) term_F.ne (fun hk_3 => ?_)
    · skip
      exact xb_rtF xp_bl
    · skip
      refine xb_ifR _ (xt_not (tt_b (tp_all m_all (tp_lcm v_walls.items enc (fun (v_spot_1 : Cell) => m_is_on v_thing.a v_thing.b v_spot_1) [("spot", 2)] _ (xi_tt (xp_var 1)) (tg_n 2) to_name (fun v_spot_1 h_spot_1 => (eg_name 2)) (fun v_spot_1 h_spot_1 => (tp_call h_is_on (v_thing.a, v_thing.b, v_spot_1) trivial (xa_cons (tp_ix3a (xp_var 0)) (xa_cons (tp_ix3b (xp_var 0)) (xa_cons (xp_var 2) xa_nil))) )) Sm.h)))) (fun hk_4 => ?_) term_F.ne (fun hk_4 => ?_)
      · skip
        exact xb_rtF xp_bl
      · skip
        exact xb_rtF (tp_all m_all (tp_lcm (v_walls.items.zip (Tup.mk (cutL v_walls.items (some (1 : Int)) none)).items) enc (fun (v_p : (Cell × Cell)) => DatumOrd.lt v_p.1 v_p.2) [("one", 3), ("other", 4)] _ (xi_zpT m_zip (xp_var 1) (tp_slT (xp_var 1) (xo_some tp_int) xo_none)) (tg_t (n := 2) (tgs_1 (tg_n 3) (tgs_1 (tg_n 4) tgs_0))) (to_tup (tos_cons (by decide) (tos_cons (by decide) tos_nil))) (fun v_p h_p => (eg_tup (egs_cons (eg_name 3) (egs_cons (eg_name 4) egs_nil)))) (fun v_p h_p => (tp_ltD (xp_var 3) (xp_var 4))) Sm.h))


/-! the floors that the laws draw -/
structure Fl4 (n : Int) (fl : Floor) : Prop where
  L : FlL fl
  an : fl.a ≤ n
  bn : fl.b ≤ n
  wl : fl.c.items.length ≤ 100
  on : ∀ c ∈ fl.c.items, m_is_on fl.a fl.b c = true
  st : fl.c.items.Pairwise fun x y => DatumOrd.lt x y = true
theorem lt_tr {x y z : Cell} (h : DatumOrd.lt x y = true) (h' : DatumOrd.lt y z = true) : DatumOrd.lt x z = true := by
  rw [lt_pair] at *
  simp only [G.lt_int] at *
  by_cases e : x.1 = y.1
  · rw [if_pos e] at h
    by_cases e' : y.1 = z.1
    · rw [if_pos e'] at h'
      rw [if_pos (e.trans e')]
      simp at *; omega
    · rw [if_neg e'] at h'
      rw [if_neg (by rw [e]; exact e')]
      simp at *; omega
  · rw [if_neg e] at h
    by_cases e' : y.1 = z.1
    · rw [if_neg (by rw [← e']; exact e)]
      simp at *; omega
    · rw [if_neg e'] at h'
      simp at h h'
      rw [if_neg (by omega)]
      simp; omega
theorem rng_lt {lo hi : Int} : (rng lo hi).Pairwise fun i j => i < j := by
  unfold rng
  rw [List.pairwise_map]
  exact List.pairwise_lt_range.imp fun {i j} h => by omega
theorem shutcol_st (s : Scr) (at_ rate high x : Int) : (m_shutcol s at_ rate high x).Pairwise fun p q => DatumOrd.lt p q = true := by
  unfold m_shutcol
  rw [List.pairwise_map]
  refine (rng_lt.filter _).imp fun {i j} h => ?_
  rw [lt_pair, if_pos rfl]
  exact decide_eq_true h
theorem foldl_app {α β : Type} (g : β → List α) : ∀ (xs : List β) (c : List α), xs.foldl (fun c x => c ++ g x) c = c ++ (xs.map g).flatten
  | [], c => by simp
  | x :: xs, c => by rw [List.foldl_cons, foldl_app g xs, List.map_cons, List.flatten_cons, List.append_assoc]
theorem shuts_st (s : Scr) (at_ most : Int) : (m_shuts s at_ most).Pairwise fun p q => DatumOrd.lt p q = true := by
  unfold m_shuts
  rw [foldl_app, List.nil_append]
  refine List.pairwise_flatten.mpr ⟨fun l hl => ?_, ?_⟩
  · obtain ⟨x, hx, rfl⟩ := List.mem_map.mp hl
    exact shutcol_st _ _ _ _ _
  · rw [List.pairwise_map]
    refine rng_lt.imp fun {i j} h p hp q hq => ?_
    unfold m_shutcol at hp hq
    obtain ⟨y, _, rfl⟩ := List.mem_map.mp hp
    obtain ⟨z, _, rfl⟩ := List.mem_map.mp hq
    rw [lt_pair, if_neg (by dsimp only; omega)]
    exact decide_eq_true h
theorem fl4 (s : Scr) (at_ : Int) {n : Int} (h : 0 < n ∧ n ≤ 5) : Fl4 n (m_law_floor s at_ n) where
  L := ⟨(wide_b s at_ h.1).1, by have := (wide_b s at_ h.1).2; show m_wide s at_ n ≤ 6; omega, (high_b s at_ h.1).1, by have := (high_b s at_ h.1).2; show m_high s at_ n ≤ 6; omega⟩
  an := (wide_b s at_ h.1).2
  bn := (high_b s at_ h.1).2
  wl := by
    have h1 := wide_b s at_ h.1
    have h2 := high_b s at_ h.1
    have z := foldl_app_len (fun x => m_shutcol s at_ (m_rate s at_) (m_high s at_ n) x) 5 (fun x => Nat.le_trans (shutcol_len _ _ _ _ _) (by omega)) (rng 0 (m_wide s at_ n)) []
    rw [rng_len] at z
    simp only [List.length_nil] at z
    show (m_shuts s at_ n).length ≤ 100
    unfold m_shuts
    omega
  on := shuts_on s at_ n
  st := shuts_st s at_ n

/-! floors by their walls -/
theorem lt_irr (x : Cell) : DatumOrd.lt x x = false := lt_self x
theorem strict_ext {xs ys : List Cell} (hx : xs.Pairwise fun x y => DatumOrd.lt x y = true) (hy : ys.Pairwise fun x y => DatumOrd.lt x y = true) (m : ∀ v, v ∈ xs ↔ v ∈ ys) : xs = ys := by
  have nd : ∀ {zs : List Cell}, zs.Pairwise (fun x y => DatumOrd.lt x y = true) → zs.Nodup := fun h => h.imp fun {x y} h e => by
    rw [e, lt_irr] at h; cases h
  exact srt_unique _ _ (hx.imp lt_tf) (hy.imp lt_tf) ((List.perm_ext_iff_of_nodup (nd hx) (nd hy)).mpr m)
theorem sort_strict {xs : List Cell} (h : xs.Nodup) : (sortT xs).Pairwise fun x y => DatumOrd.lt x y = true := by
  have nd : (sortT xs).Nodup := (sortT_perm xs).nodup_iff.mpr h
  have s := sortT_srt xs
  refine (s.and nd).imp fun {x y} h => ?_
  cases e : DatumOrd.lt x y with
  | true => rfl
  | false => exact absurd (LOrd.anti x y h.1 e) h.2
theorem sortT_congr {xs ys : List Cell} (p : xs.Perm ys) : sortT xs = sortT ys := sortT_of (sortT_srt ys) ((sortT_perm ys).trans p.symm)
theorem lt_at' (t x y : Cell) (h : DatumOrd.lt x y = true) : DatumOrd.lt (m_at t x) (m_at t y) = true := by rw [lt_at]; exact h
theorem strict_nodup {zs : List Cell} (h : zs.Pairwise fun x y => DatumOrd.lt x y = true) : zs.Nodup := h.imp fun {x y} h e => by
  rw [e, lt_irr] at h; cases h
structure FloorOk (fl : Floor) : Prop where
  a1 : 1 ≤ fl.a
  a2 : fl.a ≤ 12
  b1 : 1 ≤ fl.b
  b2 : fl.b ≤ 12
  on : ∀ c ∈ fl.c.items, m_is_on fl.a fl.b c = true
  st : fl.c.items.Pairwise fun x y => DatumOrd.lt x y = true
theorem fl_ext {f g : Floor} (ha : f.a = g.a) (hb : f.b = g.b) (hc : f.c.items = g.c.items) : f = g := by
  obtain ⟨a, b, ⟨c⟩⟩ := f
  obtain ⟨a', b', ⟨c'⟩⟩ := g
  dsimp only at ha hb hc
  subst ha hb hc
  rfl
theorem open_strict {fl : Floor} (hb : 0 < fl.b) : (m_open fl).Pairwise fun x y => DatumOrd.lt x y = true := (all_strict hb).filter _
theorem foldl_snoc {α β : Type} (f : β → α) : ∀ (xs : List β) (c : List α), xs.foldl (fun c x => c ++ [f x]) c = c ++ xs.map f
  | [], c => by simp
  | x :: xs, c => by rw [List.foldl_cons, foldl_snoc f xs, List.append_assoc]; rfl
theorem at_zero (c : Cell) : m_at (0, 0) c = c := Prod.ext (by show 0 + c.1 = c.1; omega) (by show 0 + c.2 = c.2; omega)
theorem is_floor_ok {fl : Floor} (h : FloorOk fl) : m_is_floor fl = true := by
  have s1 : ∀ n : Int, 1 ≤ n → n ≤ 12 → m_is_side n = true := fun n h1 h2 => by
    unfold m_is_side m_is_whole
    rw [decide_eq_true h1, decide_eq_true h2]; rfl
  unfold m_is_floor
  rw [s1 _ h.a1 h.a2, s1 _ h.b1 h.b2]
  rw [if_neg (by simp [eqB])]
  unfold bnd
  dsimp only
  have e1 : ((fl.c.items.map fun v => m_is_spot v).all id) = true := by
    simp only [List.all_map, List.all_eq_true]
    intro x _
    show m_is_spot x = true
    unfold m_is_spot m_is_whole
    simp [eqB]
  have e2 : ((fl.c.items.map fun v => m_is_on fl.a fl.b v).all id) = true := by
    simp only [List.all_map, List.all_eq_true]
    intro x hx
    exact h.on x hx
  rw [e1, e2, if_neg (by simp), if_neg (by simp)]
  have st := h.st
  revert st
  generalize fl.c.items = xs
  intro st
  have cut : cutL xs (some 1) none = xs.tail := by
    unfold cutL HT.sIx
    cases xs with
    | nil => rfl
    | cons x r => simp
  rw [cut]
  clear cut e1 e2
  induction xs with
  | nil => rfl
  | cons x r ih =>
    cases r with
    | nil => rfl
    | cons y r =>
      have h2 := List.pairwise_cons.mp st
      show (DatumOrd.lt x y && ((((y :: r).zip r).map fun p => DatumOrd.lt p.1 p.2).all id)) = true
      rw [h2.1 y (by simp), Bool.true_and]
      exact ih h2.2

theorem spC_len (S : List Char) : ∀ (L : List Char) (k : Nat) (acc : List Char), (spC S k acc L).length ≤ L.length + 1
  | [], k, acc => by cases k <;> exact Nat.le_refl _
  | c :: r, 0, acc => by
    unfold spC
    split
    · have := spC_len S r (S.length - 1) []
      rw [List.length_cons, List.length_cons]; omega
    · have := spC_len S r 0 (acc ++ [c])
      rw [List.length_cons]; omega
  | c :: r, k + 1, acc => by
    have := spC_len S r k acc
    show (spC S k acc r).length ≤ _
    rw [List.length_cons]; omega
theorem spC_mem (S : List Char) : ∀ (L : List Char) (k : Nat) (acc p : List Char), p ∈ spC S k acc L → p.length ≤ acc.length + L.length
  | [], k, acc, p, h => by
    have : p = acc := by cases k <;> simpa [spC] using h
    rw [this]; exact Nat.le_refl _
  | c :: r, 0, acc, p, h => by
    unfold spC at h
    split at h
    · rcases List.mem_cons.mp h with z | z
      · rw [z]; omega
      · have := spC_mem S r (S.length - 1) [] p z
        rw [List.length_cons]; simp at this; omega
    · have := spC_mem S r 0 (acc ++ [c]) p h
      rw [List.length_append] at this
      rw [List.length_cons]; simp at this; omega
  | c :: r, k + 1, acc, p, h => by
    have := spC_mem S r k acc p h
    rw [List.length_cons]; omega
theorem spC_ne (S : List Char) : ∀ (L : List Char) (k : Nat) (acc : List Char), spC S k acc L ≠ []
  | [], k, acc => by cases k <;> simp [spC]
  | c :: r, 0, acc => by
    unfold spC
    split
    · simp
    · exact spC_ne S r 0 _
  | c :: r, k + 1, acc => by
    show spC S k acc r ≠ []
    exact spC_ne S r k acc
theorem sp_count {y t : Tx} : (splitX y t).length ≤ t.l.length + 1 := by
  unfold splitX
  rw [List.length_map]; exact spC_len _ _ _ _
theorem sp_mem {y t p : Tx} (h : p ∈ splitX y t) : p.l.length ≤ t.l.length := by
  unfold splitX at h
  obtain ⟨l, hl, rfl⟩ := List.mem_map.mp h
  have := spC_mem _ _ _ _ _ hl
  simpa using this
theorem sp_pos {y t : Tx} {rows : List Tx} (h : rows = splitX y t) : 0 < rows.length := by
  rw [h]
  unfold splitX
  rw [List.length_map]
  exact List.length_pos_iff.mpr (spC_ne _ _ _ _)
theorem enum_mem2 {α : Type} {xs : List α} {p : Int × α} (h : p ∈ enumL xs) : p.2 ∈ xs := by
  unfold enumL at h
  obtain ⟨q, hq, rfl⟩ := List.mem_map.mp h
  exact (List.of_mem_zip hq).2
theorem sp_row {y t : Tx} {rows : List Tx} {n i : Nat} {p : Int × Tx} (h : rows = splitX y t) (ht : t.l.length ≤ n) (hx : (enumL rows)[i]? = some p) : p.2.l.length ≤ n := by
  have := enum_mem2 (List.mem_of_getElem? hx)
  rw [h] at this
  exact Nat.le_trans (sp_mem this) ht
theorem row_cells (p : Tx) (f : Int × Tx → Bool) (g : Int × Tx → Cell) : (((enumL (chs p)).filter f).map g).length ≤ p.l.length := by
  rw [List.length_map]
  refine Nat.le_trans (List.length_filter_le _ _) ?_
  rw [enumL_len]; unfold chs; rw [List.length_map]; exact Nat.le_refl _
theorem wl_step {w : List Cell} {p : Int × Tx} {i : Nat} {f : Int × Tx → Bool} {g : Int × Tx → Cell} (h : p.2.l.length ≤ 900) (hI : w.length ≤ 900 * i) : (bnd (w ++ ((enumL (chs p.2)).filter f).map g) fun x => x).length ≤ 900 * (i + 1) := by
  show (w ++ _).length ≤ _
  have := row_cells p.2 f g
  rw [List.length_append]; omega
theorem wl_ext {w : List Cell} {p : Tx} {i : Nat} {rows : List Tx} {f : Int × Tx → Bool} {g : Int × Tx → Cell} (h : p.l.length ≤ 900) (hI : w.length ≤ 900 * i) (li : i < (enumL rows).length) (RN : rows.length ≤ 901) : w.length + (((enumL (chs p)).filter f).map g).length ≤ 1000000 := by
  have := row_cells p f g
  rw [enumL_len] at li
  omega
theorem sp_first {y t : Tx} {rows : List Tx} (h : rows = splitX y t) (ht : t.l.length ≤ 900) : (atD rows 0).l.length ≤ 900 := by
  have pos := sp_pos h
  cases rows with
  | nil => cases pos
  | cons r rs =>
    have : r ∈ splitX y t := by rw [← h]; simp
    rw [show atD (r :: rs) (0 : Int) = r by simp [atD, atI, ixN]]
    exact Nat.le_trans (sp_mem this) ht
theorem sum_le {ts : List Tx} {B : Nat} (h : ∀ t ∈ ts, t.l.length ≤ B) : (ts.map fun t => t.l.length).sum ≤ ts.length * B := by
  induction ts with
  | nil => simp
  | cons t ts ih =>
    have h1 := h t (by simp)
    have h2 := ih fun u hu => h u (by simp [hu])
    simp only [List.map_cons, List.sum_cons, List.length_cons, Nat.add_mul]
    omega
theorem jnC_len (s : List Char) : ∀ {ps : List (List Char)} {B : Nat}, (∀ p ∈ ps, p.length ≤ B) → (jnC s ps).length ≤ ps.length * (B + s.length)
  | [], _, _ => Nat.zero_le _
  | [p], B, h => by have := h p (by simp); show p.length ≤ 1 * _; omega
  | p :: q :: r, B, h => by
    have h1 := h p (by simp)
    have h2 := jnC_len s (ps := q :: r) fun x hx => h x (by simp [hx])
    show (p ++ (s ++ jnC s (q :: r))).length ≤ _
    rw [List.length_append, List.length_append]
    rw [show (p :: q :: r).length = (q :: r).length + 1 from rfl, Nat.add_mul]
    omega
theorem joinX_len {y : Tx} {ts : List Tx} {B : Nat} (h : ∀ t ∈ ts, t.l.length ≤ B) : (joinX y ts).l.length ≤ ts.length * (B + y.l.length) := by
  unfold joinX
  have := jnC_len y.l (ps := ts.map Tx.l) (B := B) fun p hp => by
    obtain ⟨t, ht, rfl⟩ := List.mem_map.mp hp
    exact h t ht
  rw [List.length_map] at this
  exact this
theorem sign_len {b : Bool} {t : Tx} (h : t = if b = true then (⟨['#']⟩ : Tx) else (⟨['.']⟩ : Tx)) : t.l.length ≤ 1 := by
  rw [h]; split <;> exact Nat.le_refl 1
def rowX (fl : Floor) (y : Int) : Tx := joinX (⟨[]⟩ : Tx) ((rng 0 fl.a).map (fun (x : Int) => if (memB (x, y) fl.c.items) = true then (⟨['#']⟩ : Tx) else (⟨['.']⟩ : Tx)))
theorem rowX_len0 (fl : Floor) (y : Int) : (rowX fl y).l.length ≤ (fl.a).toNat := by
  unfold rowX
  have := joinX_len (y := ⟨[]⟩) (B := 1) (ts := (rng 0 fl.a).map (fun (x : Int) => if (memB (x, y) fl.c.items) = true then (⟨['#']⟩ : Tx) else (⟨['.']⟩ : Tx))) fun t ht => by
    obtain ⟨x, _, rfl⟩ := List.mem_map.mp ht
    exact sign_len rfl
  rw [List.length_map, rng_len] at this
  simp only [List.length_nil, Nat.add_zero, Nat.mul_one] at this
  refine Nat.le_trans this (by omega)
theorem join_a {fl : Floor} {y : Int} (h : fl.a ≤ 12) : (((rng 0 fl.a).map (fun (x : Int) => if (memB (x, y) fl.c.items) = true then (⟨['#']⟩ : Tx) else (⟨['.']⟩ : Tx))).map fun t => t.l.length).sum + ((rng 0 fl.a).map (fun (x : Int) => if (memB (x, y) fl.c.items) = true then (⟨['#']⟩ : Tx) else (⟨['.']⟩ : Tx))).length * (⟨[]⟩ : Tx).l.length ≤ 16777216 := by
  have := sum_le (B := 1) (ts := (rng 0 fl.a).map (fun (x : Int) => if (memB (x, y) fl.c.items) = true then (⟨['#']⟩ : Tx) else (⟨['.']⟩ : Tx))) fun t ht => by
    obtain ⟨x, _, rfl⟩ := List.mem_map.mp ht
    exact sign_len rfl
  rw [List.length_map, rng_len] at this ⊢
  show _ + _ * 0 ≤ _
  omega
theorem join_b {fl : Floor} (ha : fl.a ≤ 12) (h : fl.b ≤ 12) : (((rng 0 fl.b).map (fun (y : Int) => rowX fl y)).map fun t => t.l.length).sum + ((rng 0 fl.b).map (fun (y : Int) => rowX fl y)).length * (⟨['\n']⟩ : Tx).l.length ≤ 16777216 := by
  have := sum_le (B := 12) (ts := (rng 0 fl.b).map (fun (y : Int) => rowX fl y)) fun t ht => by
    obtain ⟨y, _, rfl⟩ := List.mem_map.mp ht
    exact Nat.le_trans (rowX_len0 fl y) (by omega)
  rw [List.length_map, rng_len] at this ⊢
  show _ + _ * 1 ≤ _
  omega
theorem is_floor_inv {fl : Floor} (h : m_is_floor fl = true) : FloorOk fl := by
  unfold m_is_floor bnd at h
  dsimp only at h
  have side : ∀ n : Int, m_is_side n = true → 1 ≤ n ∧ n ≤ 12 := fun n z => by
    unfold m_is_side m_is_whole at z
    simpa using z
  split at h
  · cases h
  · rename_i n1
    split at h
    · cases h
    · rename_i n2
      split at h
      · cases h
      · rename_i n3
        have n1 := Bool.eq_false_iff.mpr n1
        have n3 := Bool.eq_false_iff.mpr n3
        simp only [Bool.or_eq_false_iff, Bool.not_eq_false', Bool.not_eq_eq_eq_not, Bool.not_true, Bool.not_false] at n1 n3
        have sa := side _ n1.2.2.1
        have sb := side _ n1.2.2.2
        simp only [List.all_map, List.all_eq_true] at n3
        refine ⟨sa.1, sa.2, sb.1, sb.2, fun c hc => n3 c hc, ?_⟩
        revert h
        generalize fl.c.items = xs
        intro h
        have cut : cutL xs (some 1) none = xs.tail := by
          unfold cutL HT.sIx
          cases xs with
          | nil => rfl
          | cons x r => simp
        rw [cut] at h
        clear cut n3 n2 n1
        have chain : ∀ {xs : List Cell}, ((xs.zip xs.tail).map fun p => DatumOrd.lt p.1 p.2).all id = true → xs.Pairwise fun x y => DatumOrd.lt x y = true := by
          intro xs
          induction xs with
          | nil => intro _; exact .nil
          | cons x r ih =>
            intro h
            cases r with
            | nil => exact List.pairwise_singleton _ _
            | cons y r =>
              have h' : (DatumOrd.lt x y && ((((y :: r).zip r).map fun p => DatumOrd.lt p.1 p.2).all id)) = true := h
              rw [Bool.and_eq_true] at h'
              have t := ih h'.2
              refine List.pairwise_cons.mpr ⟨fun z hz => ?_, t⟩
              rcases List.mem_cons.mp hz with e | e
              · rw [e]; exact h'.1
              · exact lt_tr h'.1 ((List.pairwise_cons.mp t).1 z e)
        exact chain h
theorem FloorOk.pre {fl : Floor} (h : FloorOk fl) : (0 ≤ fl.a ∧ fl.a ≤ 12) ∧ 0 ≤ fl.b ∧ fl.b ≤ 12 := by
  have h1 := h.a1
  have h2 := h.b1
  exact ⟨⟨by omega, h.a2⟩, by omega, h.b2⟩
theorem wr_pre {fl : Floor} (h : m_is_floor fl = true) : (0 ≤ fl.a ∧ fl.a ≤ 12) ∧ 0 ≤ fl.b ∧ fl.b ≤ 12 := (is_floor_inv h).pre

def m_written (v_floor : Floor) : Tx :=
  joinX (⟨['\n']⟩ : Tx) ((rng 0 v_floor.b).map (fun (v_y : Int) => joinX (⟨[]⟩ : Tx) ((rng 0 v_floor.a).map (fun (v_x : Int) => if (memB (v_x, v_y) v_floor.c.items) = true then (⟨['#']⟩ : Tx) else (⟨['.']⟩ : Tx)))))
theorem sc_written : FnScope ["floor", "wide", "high", "walls", "y", "x"] ["floor"] (defScope s_written) := ⟨rfl, rfl, rfl, by decide +kernel, rfl, by decide +kernel, by decide +kernel⟩
abbrev sp_written (K : PySem.W.Frag) : Sp := spP K (fun (y : (Floor)) => [enc y]) (fun y => (0 ≤ y.a ∧ y.a ≤ 12) ∧ 0 ≤ y.b ∧ y.b ≤ 12) (fun y => oF (m_written y))
theorem ok_written (F : FnF K "written" "written" s_written f fd) (m_range : mg "range" = none) : FnOk P w K mg base (L2N.CX P w) 1 f fd ["floor"] (sp_written K) := by
  refine def_pure F sc_written (fun _ => rfl) fun y E hp => ?_
  obtain ⟨v_floor, rfl⟩ : ∃ z, z = y := ⟨_, rfl⟩
  have hp : (0 ≤ v_floor.a ∧ v_floor.a ≤ 12) ∧ 0 ≤ v_floor.b ∧ v_floor.b ≤ 12 := hp
  obtain ⟨⟨hp0, hp1⟩, hp3, hp2⟩ := hp
  refine ⟨rF (m_written v_floor), ?_, fits_F⟩
  unfold m_written
  refine xb_cons (ρ1 := [fv v_floor, fv v_floor.a, fv v_floor.b, fv v_floor.c, none, none]) (xs_un (tg_t (n := 3) (tgs_1 (tg_n 1) (tgs_1 (tg_n 2) (tgs_1 (tg_n 3) tgs_0)))) (xp_var 0) (eg_tup (egs_cons (eg_name 1) (egs_cons (eg_name 2) (egs_cons (eg_name 3) egs_nil))))) ?_
  exact xb_rtF (tp_join (xp_tx _) (tp_lcm (rng 0 v_floor.b) enc (fun (v_y : Int) => joinX (⟨[]⟩ : Tx) ((rng 0 v_floor.a).map (fun (v_x : Int) => if (memB (v_x, v_y) v_floor.c.items) = true then (⟨['#']⟩ : Tx) else (⟨['.']⟩ : Tx)))) [("y", 4)] _ (xi_r1 m_range (xp_var 2) (by omega)) (tg_n 4) to_name (fun v_y h_y => (eg_name 4)) (fun v_y h_y => (tp_join (xp_tx _) (tp_lcm (rng 0 v_floor.a) enc (fun (v_x : Int) => if (memB (v_x, v_y) v_floor.c.items) = true then (⟨['#']⟩ : Tx) else (⟨['.']⟩ : Tx)) [("x", 5)] _ (xi_r1 m_range (xp_var 1) (by omega)) (tg_n 5) to_name (fun v_x h_x => (eg_name 5)) (fun v_x h_x => (tp_if (te_inT (XP.v (tp_2 (xa_cons (xp_var 5) (xa_cons (xp_var 4) xa_nil)))) (XP.v (xp_var 3))) (fun hk => (xp_tx _)) (fun hk => (xp_tx _)))) (by rw [rng_len]; omega)) (by first | exact join_a hp1 | exact join_b hp1 hp2))) (by rw [rng_len]; omega)) (by first | exact join_a hp1 | exact join_b hp1 hp2))

def m_read (v_text : Tx) : Except Str (Floor) :=
  bnd (splitX (⟨['\n']⟩ : Tx) v_text) fun (v_rows : List (Tx)) =>
  bnd ([] : List (Cell)) fun (v_walls : List (Cell)) =>
  bnd ((enumL v_rows).foldl (fun (v_walls_1 : List (Cell)) (v_p : (Int × Tx)) =>
  bnd (v_walls_1 ++ (((enumL (chs v_p.2)).filter (fun (v_p_1 : (Int × Tx)) => eqB v_p_1.2 (⟨['#']⟩ : Tx))).map (fun (v_p_1 : (Int × Tx)) => (v_p_1.1, v_p.1)))) fun (v_walls_2 : List (Cell)) =>
  v_walls_2) v_walls) fun (v_walls_3 : List (Cell)) =>
  bnd (T3.mk (((atD v_rows (0 : Int)).l.length : Nat) : Int) ((v_rows.length : Nat) : Int) (Tup.mk (sortT v_walls_3))) fun (v_floor : Floor) =>
  if ((!(m_is_floor v_floor)) || (!eqB (m_written v_floor) v_text)) = true then .error "NoText" else
  Except.ok v_floor
theorem sc_read : FnScope ["text", "rows", "walls", "y", "row", "floor", "x", "sign"] ["text"] (defScope s_read) := ⟨rfl, rfl, rfl, by decide +kernel, rfl, by decide +kernel, by decide +kernel⟩
abbrev sp_read (K : PySem.W.Frag) : Sp := spP K (fun (y : (Tx)) => [enc y]) (fun y => y.l.length ≤ 900) (fun y => oE oF (m_read y))
theorem ok_read (F : FnF K "read" "read" s_read f fd) (m_enumerate : mg "enumerate" = none) (m_len : mg "len" = none) (m_sorted : mg "sorted" = none) (m_tuple : mg "tuple" = none) (x_NoText : ExcF K "NoText") (g_NoText : mg "NoText" = some (.ref (He.ga K "NoText")))
    (h_is_floor : FnG P w K mg base 3 "is_floor" ["thing"] (sp_is_floor K))
    (h_written : FnG P w K mg base 1 "written" ["floor"] (sp_written K)) : FnOk P w K mg base (L2N.CX P w) 4 f fd ["text"] (sp_read K) := by
  refine def_pure F sc_read (fun _ => rfl) fun y E hp => ?_
  obtain ⟨v_text, rfl⟩ : ∃ z, z = y := ⟨_, rfl⟩
  have hp : v_text.l.length ≤ 900 := hp
  refine ⟨rE rF (m_read v_text), ?_, fits_EF _⟩
  unfold m_read
  refine xb_stp _ (fun v_rows => [fv v_text, fv v_rows, none, none, none, none, none, none]) (xs_sF (v := splitX (⟨['\n']⟩ : Tx) v_text) 1 (tp_split (xp_var 0) (xp_tx _) (by omega))) (fun v_rows h_rows => ?_)
  have RN : v_rows.length ≤ 901 := by rw [h_rows]; have := sp_count (y := (⟨['\n']⟩ : Tx)) (t := v_text); omega
  haveI : Sm v_rows := ⟨by omega⟩
  refine xb_stp _ (fun v_walls => [fv v_text, fv v_rows, ov v_walls, none, none, none, none, none]) (xs_sO (v := ([] : List (Cell))) 2 xa_nil (by simp)) (fun v_walls h_walls => ?_)
  refine xb_fo _ (enumL v_rows) enc (fun (v_walls_1 : List (Cell)) => [fv v_text, fv v_rows, ov v_walls_1, none, none, none, none, none]) (fun i (v_walls_1 : List (Cell)) => v_walls_1.length ≤ 900 * i) (fun v_walls_1 v_p => [fv v_text, fv v_rows, ov v_walls_1, fv v_p.1, fv v_p.2, none, none, none]) (xi_en m_enumerate (xp_var 1)) (tg_t (n := 2) (tgs_1 (tg_n 3) (tgs_1 (tg_n 4) tgs_0))) (fun v_walls_1 v_p => (eg_tup (egs_cons (eg_name 3) (egs_cons (eg_name 4) egs_nil)))) (by first | trivial | omega | (subst_vars; simp; done) | (simp_all; done)) (fun i v_walls_1 v_p hx hI => wl_step (sp_row h_rows hp hx) hI) (fun i v_walls_1 v_p hx hI => ?_) (fun v_walls_3 h_walls_3 hI => ?_)
  · skip
    have m_p := List.mem_of_getElem? hx
    have li := (List.getElem?_eq_some_iff.mp hx).1
    have RL := sp_row h_rows hp hx
    refine xb_stp _ (fun v_walls_2 => [fv v_text, fv v_rows, ov v_walls_2, fv v_p.1, fv v_p.2, none, none, none]) (xs_exprM (xx_ext (ys := ((enumL (chs v_p.2)).filter (fun (v_p_1 : (Int × Tx)) => eqB v_p_1.2 (⟨['#']⟩ : Tx))).map (fun (v_p_1 : (Int × Tx)) => (v_p_1.1, v_p.1))) (xl_var 2) (tp_lc (enumL (chs v_p.2)) enc (fun (v_p_1 : (Int × Tx)) => eqB v_p_1.2 (⟨['#']⟩ : Tx)) (fun (v_p_1 : (Int × Tx)) => (v_p_1.1, v_p.1)) [("x", 6), ("sign", 7)] _ (xi_enX m_enumerate (xp_var 4)) (tg_t (n := 2) (tgs_1 (tg_n 6) (tgs_1 (tg_n 7) tgs_0))) (to_tup (tos_cons (by decide) (tos_cons (by decide) tos_nil))) (fun v_p_1 h_p_1 => (eg_tup (egs_cons (eg_name 6) (egs_cons (eg_name 7) egs_nil)))) (fun v_p_1 h_p_1 => (te_eq (XP.v (xp_var 7)) (XP.v (xp_tx _)))) (fun v_p_1 h_p_1 hk => (tp_2 (xa_cons (xp_var 6) (xa_cons (xp_var 3) xa_nil)))) (by have := RL; rw [enumL_len]; unfold chs; rw [List.length_map]; omega)) (wl_ext RL hI li RN))) (fun v_walls_2 h_walls_2 => ?_)
    exact xb_goN _ [3, 4] _
  have WL : v_walls_3.length ≤ 1000000 := by rw [enumL_len] at hI; omega
  refine xb_fz 2 rfl ?_ (ρ2 := [fv v_text, fv v_rows, fv v_walls_3, none, none, none, none, none])
  refine xb_stp _ (fun v_floor => [fv v_text, fv v_rows, fv v_walls_3, none, none, fv v_floor, none, none]) (xs_sF (v := T3.mk (((atD v_rows (0 : Int)).l.length : Nat) : Int) ((v_rows.length : Nat) : Int) (Tup.mk (sortT v_walls_3))) 5 (tp_3 (xa_cons (tp_lenX m_len (XP.v (tv_ix (xp_var 1) tp_int (.inl ⟨by decide, by have := sp_pos h_rows; omega⟩))) (Nat.le_trans (sp_first h_rows hp) (by decide))) (xa_cons (tp_lenL m_len (XP.v (xp_var 1))) (xa_cons (tp_tupL m_tuple (tp_sorted m_sorted (xp_var 2))) xa_nil))))) (fun v_floor h_floor => ?_)
  have SMF : Sm v_floor.c.items := ⟨by rw [h_floor]; show (sortT _).length ≤ 1000000; rw [(sortT_perm _).length_eq]; exact WL⟩
  refine xb_ifR _ (XW.t (xw_or (xt_not (tt_b (tp_call h_is_floor v_floor (SMF) (xa_cons (xp_var 5) xa_nil) ))) (fun hk => (xw_or1 (te_ne (XP.v (tp_call h_written v_floor (wr_pre (by simpa using hk)) (xa_cons (xp_var 5) xa_nil) )) (XP.v (xp_var 0))))))) (fun hk_4 => ?_) (Term.ne (term_rE _)) (fun hk_4 => ?_)
  · skip
    exact xb_stop (xs_raise x_NoText g_NoText) (fun _ z => nomatch z)
  · skip
    exact xb_rtE (xp_var 5)

/-! split of what was joined -/
theorem spC_pass (S : List Char) : ∀ (l r : List Char) (acc : List Char), spC S l.length acc (l ++ r) = spC S 0 acc r
  | [], r, acc => rfl
  | c :: l, r, acc => spC_pass S l r acc
def OkP (S p : List Char) : Prop := ∀ i, i < p.length → (∀ rest, S.isPrefixOf (p.drop i ++ (S ++ rest)) = false) ∧ S.isPrefixOf (p.drop i) = false
theorem OkP.tail {S p : List Char} {c : Char} (h : OkP S (c :: p)) : OkP S p := fun i hi => h (i + 1) (by rw [List.length_cons]; omega)
theorem pre_self (S r : List Char) : S.isPrefixOf (S ++ r) = true := List.isPrefixOf_iff_prefix.mpr (List.prefix_append S r)
theorem spC_cons0 (S acc : List Char) (c : Char) (r : List Char) : spC S 0 acc (c :: r) = if S.isPrefixOf (c :: r) = true then acc :: spC S (S.length - 1) [] r else spC S 0 (acc ++ [c]) r := rfl
theorem spC_part {S : List Char} (hS : S ≠ []) (rest : List Char) : ∀ (p acc : List Char), OkP S p → spC S 0 acc (p ++ (S ++ rest)) = (acc ++ p) :: spC S 0 [] rest
  | [], acc, _ => by
    cases S with
    | nil => exact absurd rfl hS
    | cons c S =>
      show spC (c :: S) 0 acc (c :: (S ++ rest)) = _
      rw [spC_cons0, if_pos (show (c :: S).isPrefixOf (c :: (S ++ rest)) = true from pre_self (c :: S) rest), List.append_nil]
      show acc :: spC (c :: S) S.length [] (S ++ rest) = _
      rw [spC_pass]
  | c :: p, acc, h => by
    have h0 := (h 0 (by simp)).1 rest
    show spC S 0 acc (c :: (p ++ (S ++ rest))) = _
    rw [spC_cons0, if_neg (by rw [show c :: (p ++ (S ++ rest)) = (c :: p).drop 0 ++ (S ++ rest) from rfl, h0]; decide), spC_part hS rest p (acc ++ [c]) h.tail, List.append_assoc]
    rfl
theorem spC_last {S : List Char} : ∀ (p acc : List Char), OkP S p → spC S 0 acc p = [acc ++ p]
  | [], acc, _ => by rw [List.append_nil]; rfl
  | c :: p, acc, h => by
    have h0 := (h 0 (by simp)).2
    rw [spC_cons0, if_neg (by rw [show c :: p = (c :: p).drop 0 from rfl, h0]; decide), spC_last p (acc ++ [c]) h.tail, List.append_assoc]
    rfl
theorem spC_jn {S : List Char} (hS : S ≠ []) : ∀ {ps : List (List Char)}, ps ≠ [] → (∀ p ∈ ps, OkP S p) → spC S 0 [] (jnC S ps) = ps
  | [], h, _ => absurd rfl h
  | [p], _, h => by
    show spC S 0 [] p = _
    rw [spC_last p [] (h p (by simp))]; rfl
  | p :: q :: r, _, h => by
    show spC S 0 [] (p ++ (S ++ jnC S (q :: r))) = _
    rw [spC_part hS _ p [] (h p (by simp)), spC_jn hS (by simp) fun x hx => h x (by simp [hx])]
    rfl
theorem split_join {y : Tx} (hy : y.l ≠ []) {ts : List Tx} (hn : ts ≠ []) (h : ∀ t ∈ ts, OkP y.l t.l) : splitX y (joinX y ts) = ts := by
  unfold splitX joinX
  dsimp only
  rw [spC_jn hy (by simpa using hn) fun p hp => by
    obtain ⟨t, ht, rfl⟩ := List.mem_map.mp hp
    exact h t ht]
  rw [List.map_map]
  conv => rhs; rw [← List.map_id ts]
  exact List.map_congr_left fun t _ => rfl
theorem okp_nl {p : List Char} (h : '\n' ∉ p) : OkP ['\n'] p := fun i hi => by
  have e : p.drop i = p[i] :: p.drop (i + 1) := List.drop_eq_getElem_cons hi
  have ne : ¬ '\n' = p[i] := fun z => h (by rw [z]; exact List.getElem_mem hi)
  rw [e]
  constructor
  · intro rest
    show (('\n' == p[i]) && _) = false
    rw [show ('\n' == p[i]) = false by simpa using ne]; rfl
  · show (('\n' == p[i]) && _) = false
    rw [show ('\n' == p[i]) = false by simpa using ne]; rfl
def g2 : List Char → Bool
  | [] => true
  | c :: r => (!decide (c = '\n') || (match r with | d :: _ => !decide (d = '\n') | [] => false)) && g2 r
theorem g2_drop : ∀ {p : List Char} {i : Nat}, g2 p = true → g2 (p.drop i) = true
  | p, 0, h => h
  | [], i + 1, h => h
  | c :: r, i + 1, h => by
    unfold g2 at h
    exact g2_drop (p := r) (i := i) (Bool.and_eq_true_iff.mp h).2
theorem okp_g2 {p : List Char} (h : g2 p = true) : OkP ['\n', '\n'] p := fun i hi => by
  have e : p.drop i = p[i] :: p.drop (i + 1) := List.drop_eq_getElem_cons hi
  have g := g2_drop (i := i) h
  rw [e] at g ⊢
  generalize p[i] = c at g
  generalize p.drop (i + 1) = r at g
  unfold g2 at g
  have g := (Bool.and_eq_true_iff.mp g).1
  by_cases hc : c = '\n'
  · cases r with
    | nil => simp [hc] at g
    | cons d s =>
      simp [hc] at g
      have ne : ('\n' == d) = false := by simpa using fun z => g z.symm
      refine ⟨fun rest => ?_, ?_⟩
      · show (('\n' == c) && (('\n' == d) && _)) = false
        rw [ne]; simp
      · show (('\n' == c) && (('\n' == d) && _)) = false
        rw [ne]; simp
  · have ne : ('\n' == c) = false := by simpa using fun z => hc z.symm
    refine ⟨fun rest => ?_, ?_⟩
    · show (('\n' == c) && _) = false
      rw [ne]; rfl
    · show (('\n' == c) && _) = false
      rw [ne]; rfl
theorem g2_row : ∀ {p q : List Char}, '\n' ∉ p → g2 (p ++ q) = g2 q
  | [], q, _ => rfl
  | c :: p, q, h => by
    have h1 : ¬ c = '\n' := fun z => h (by rw [z]; simp)
    show ((!decide (c = '\n') || _) && g2 (p ++ q)) = _
    rw [decide_eq_false h1, g2_row fun z => h (by simp [z])]
    simp
theorem g2_jn : ∀ {ps : List (List Char)}, (∀ p ∈ ps, '\n' ∉ p ∧ p ≠ []) → g2 (jnC ['\n'] ps) = true
  | [], _ => rfl
  | [p], h => by
    have := g2_row (q := []) (h p (by simp)).1
    rw [List.append_nil] at this
    exact this
  | p :: q :: r, h => by
    show g2 (p ++ ('\n' :: jnC ['\n'] (q :: r))) = true
    have ih := g2_jn (ps := q :: r) fun x hx => h x (by simp [hx])
    rw [g2_row (h p (by simp)).1]
    have hq := h q (by simp)
    obtain ⟨d, s, e⟩ : ∃ d s, jnC ['\n'] (q :: r) = d :: s ∧ ¬ d = '\n' := by
      cases q with
      | nil => exact absurd rfl hq.2
      | cons d q =>
        have nd : ¬ d = '\n' := fun z => hq.1 (by rw [z]; simp)
        cases r with
        | nil => exact ⟨d, _, rfl, nd⟩
        | cons r rs => exact ⟨d, _, rfl, nd⟩
    rw [e.1] at ih ⊢
    show ((!decide ('\n' = '\n') || !decide (d = '\n')) && g2 (d :: s)) = true
    rw [ih, decide_eq_false e.2]
    rfl
/-! what is written -/
def sg (fl : Floor) (y x : Int) : Char := if memB (x, y) fl.c.items = true then '#' else '.'
theorem jnC_nil : ∀ ps : List (List Char), jnC [] ps = ps.flatten
  | [] => rfl
  | [p] => by simp [jnC]
  | p :: q :: r => by
    show p ++ ([] ++ jnC [] (q :: r)) = _
    rw [jnC_nil (q :: r)]; rfl
theorem flat_one {α β : Type} (f : α → β) : ∀ xs : List α, (xs.map fun x => [f x]).flatten = xs.map f
  | [] => rfl
  | x :: xs => by simp [flat_one f xs]
theorem rowX_l (fl : Floor) (y : Int) : (rowX fl y).l = (rng 0 fl.a).map (sg fl y) := by
  unfold rowX joinX
  dsimp only
  have fo := flat_one (sg fl y) (rng 0 fl.a)
  rw [jnC_nil, List.map_map, ← fo]
  congr 1
  refine List.map_congr_left fun x _ => ?_
  show (if memB (x, y) fl.c.items = true then (⟨['#']⟩ : Tx) else (⟨['.']⟩ : Tx)).l = [sg fl y x]
  unfold sg
  split <;> rfl
theorem sg_nl (fl : Floor) (y x : Int) : ¬ sg fl y x = '\n' := by unfold sg; split <;> decide
theorem rowX_nl (fl : Floor) (y : Int) : '\n' ∉ (rowX fl y).l := by
  rw [rowX_l]
  intro z
  obtain ⟨x, _, e⟩ := List.mem_map.mp z
  exact sg_nl _ _ _ e
theorem rowX_len (fl : Floor) (y : Int) (h : 0 ≤ fl.a) : (((rowX fl y).l.length : Nat) : Int) = fl.a := by
  rw [rowX_l, List.length_map, rng_len]; omega
def rowsX (fl : Floor) : List Tx := (rng 0 fl.b).map fun y => rowX fl y
theorem written_rows (fl : Floor) : m_written fl = joinX ⟨['\n']⟩ (rowsX fl) := rfl
theorem rowsX_ne {fl : Floor} (h : 1 ≤ fl.b) : rowsX fl ≠ [] := by
  unfold rowsX
  intro z
  have := congrArg List.length z
  rw [List.length_map, rng_len] at this
  simp at this
  omega
theorem rowsX_get {fl : Floor} {i : Nat} (h : (i : Int) < fl.b) : (rowsX fl)[i]? = some (rowX fl i) := by
  unfold rowsX rng
  have : i < (fl.b - 0).toNat := by omega
  rw [List.map_map, List.getElem?_map, List.getElem?_range this]
  show some (rowX fl (0 + (i : Int))) = some (rowX fl i)
  rw [Int.zero_add]
theorem split_written {fl : Floor} (h : 1 ≤ fl.b) : splitX ⟨['\n']⟩ (m_written fl) = rowsX fl := by
  rw [written_rows]
  refine split_join (by decide) (rowsX_ne h) fun t ht => ?_
  obtain ⟨y, _, rfl⟩ := List.mem_map.mp ht
  exact okp_nl (rowX_nl fl y)
theorem enum_iff {α : Type} {xs : List α} {p : Int × α} : p ∈ enumL xs ↔ ∃ i : Nat, p.1 = i ∧ xs[i]? = some p.2 := by
  constructor
  · intro h
    obtain ⟨i, hi, e⟩ := List.mem_iff_getElem.mp h
    have hi' : i < xs.length := by rw [enumL_len] at hi; exact hi
    have g := enumL_get (List.getElem?_eq_getElem hi')
    rw [List.getElem?_eq_getElem hi] at g
    injection g with g
    rw [e] at g
    refine ⟨i, by rw [g], by rw [g]; exact List.getElem?_eq_getElem hi'⟩
  · rintro ⟨i, h1, h2⟩
    have g := enumL_get h2
    have := List.mem_of_getElem? g
    have e : p = ((i : Int), p.2) := Prod.ext h1 rfl
    rw [e]; exact this
theorem enum_lt {α : Type} {xs : List α} : (enumL xs).Pairwise fun p q => p.1 < q.1 := by
  refine List.pairwise_iff_getElem.mpr fun i j hi hj h => ?_
  have hi' : i < xs.length := by rw [enumL_len] at hi; exact hi
  have hj' : j < xs.length := by rw [enumL_len] at hj; exact hj
  have g1 := enumL_get (List.getElem?_eq_getElem hi')
  have g2 := enumL_get (List.getElem?_eq_getElem hj')
  rw [List.getElem?_eq_getElem hi] at g1
  rw [List.getElem?_eq_getElem hj] at g2
  injection g1 with g1
  injection g2 with g2
  rw [g1, g2]
  show (i : Int) < j
  omega
/-- the walls that are read of rows -/
def wallsX (rows : List Tx) : List Cell := ((enumL rows).map fun p => ((enumL (chs p.2)).filter (fun q => eqB q.2 (⟨['#']⟩ : Tx))).map fun q => (q.1, p.1)).flatten
theorem mem_wallsX {rows : List Tx} {v : Cell} : v ∈ wallsX rows ↔ ∃ (i j : Nat) (t : Tx), v = ((j : Int), (i : Int)) ∧ rows[i]? = some t ∧ t.l[j]? = some '#' := by
  unfold wallsX
  rw [List.mem_flatten]
  constructor
  · rintro ⟨l, hl, hv⟩
    obtain ⟨p, hp, rfl⟩ := List.mem_map.mp hl
    obtain ⟨q, hq, rfl⟩ := List.mem_map.mp hv
    obtain ⟨i, e1, e2⟩ := enum_iff.mp hp
    have hq := List.mem_filter.mp hq
    obtain ⟨j, f1, f2⟩ := enum_iff.mp hq.1
    refine ⟨i, j, p.2, by rw [e1, f1], e2, ?_⟩
    have h2 := eqB_iff.mp hq.2
    rw [h2] at f2
    unfold chs at f2
    rw [List.getElem?_map] at f2
    obtain ⟨c, hc, e⟩ := Option.map_eq_some_iff.mp f2
    rw [hc]
    have e' : [c] = ['#'] := congrArg Tx.l e
    injection e' with e'
    rw [e']
  · rintro ⟨i, j, t, rfl, h1, h2⟩
    refine ⟨_, List.mem_map.mpr ⟨((i : Int), t), enum_iff.mpr ⟨i, rfl, h1⟩, rfl⟩, List.mem_map.mpr ⟨((j : Int), ⟨['#']⟩), List.mem_filter.mpr ⟨enum_iff.mpr ⟨j, rfl, ?_⟩, eqB_self _⟩, rfl⟩⟩
    unfold chs
    rw [List.getElem?_map]
    dsimp only
    rw [h2]; rfl
theorem wallsX_nodup (rows : List Tx) : (wallsX rows).Nodup := by
  unfold wallsX
  refine List.nodup_iff_pairwise_ne.mpr (List.pairwise_flatten.mpr ⟨fun l hl => ?_, ?_⟩)
  · obtain ⟨p, hp, rfl⟩ := List.mem_map.mp hl
    rw [List.pairwise_map]
    refine (enum_lt.filter _).imp fun {a b} h e => ?_
    have := congrArg Prod.fst e
    dsimp only at this
    omega
  · rw [List.pairwise_map]
    refine enum_lt.imp fun {a b} h v hv u hu e => ?_
    obtain ⟨q, _, rfl⟩ := List.mem_map.mp hv
    obtain ⟨r, _, rfl⟩ := List.mem_map.mp hu
    have := congrArg Prod.snd e
    dsimp only at this
    omega
def readF (t : Tx) : Floor := ⟨(((atD (splitX (⟨['\n']⟩ : Tx) t) (0 : Int)).l.length : Nat) : Int), (((splitX (⟨['\n']⟩ : Tx) t).length : Nat) : Int), ⟨sortT (wallsX (splitX (⟨['\n']⟩ : Tx) t))⟩⟩
theorem read_eq (t : Tx) : m_read t = if ((!(m_is_floor (readF t))) || (!eqB (m_written (readF t)) t)) = true then .error "NoText" else .ok (readF t) := by
  have e : (enumL (splitX (⟨['\n']⟩ : Tx) t)).foldl (fun (c : List Cell) (p : Int × Tx) => c ++ ((enumL (chs p.2)).filter (fun q => eqB q.2 (⟨['#']⟩ : Tx))).map fun q => (q.1, p.1)) [] = wallsX (splitX (⟨['\n']⟩ : Tx) t) := by
    rw [foldl_app (fun p : Int × Tx => ((enumL (chs p.2)).filter (fun q => eqB q.2 (⟨['#']⟩ : Tx))).map fun q => ((q.1, p.1) : Cell)), List.nil_append]
    rfl
  unfold m_read
  simp only [bnd, e]
  rfl
theorem readF_written {fl : Floor} (F : FloorOk fl) : readF (m_written fl) = fl := by
  have hb := F.b1
  have ha := F.a1
  unfold readF
  rw [split_written hb]
  refine fl_ext ?_ ?_ ?_
  · dsimp only
    have g := rowsX_get (fl := fl) (i := 0) (by omega)
    have : atD (rowsX fl) (0 : Int) = rowX fl 0 := by
      cases e : rowsX fl with
      | nil => exact absurd e (rowsX_ne hb)
      | cons r rs =>
        rw [e] at g
        simp at g
        simp [atD, atI, ixN, g]
    rw [this, rowX_len _ _ (by omega)]
  · dsimp only
    unfold rowsX
    rw [List.length_map, rng_len]
    omega
  · dsimp only
    refine strict_ext (sort_strict (wallsX_nodup _)) F.st fun v => ?_
    rw [(sortT_perm _).mem_iff, mem_wallsX]
    constructor
    · rintro ⟨i, j, t, rfl, h1, h2⟩
      have hi : (i : Int) < fl.b := by
        have := (List.getElem?_eq_some_iff.mp h1).1
        unfold rowsX at this
        rw [List.length_map, rng_len] at this
        omega
      rw [rowsX_get hi] at h1
      injection h1 with h1
      rw [← h1, rowX_l, List.getElem?_map] at h2
      obtain ⟨x, hx, e⟩ := Option.map_eq_some_iff.mp h2
      have hx' : x = (j : Int) := by
        unfold rng at hx
        rw [List.getElem?_map] at hx
        obtain ⟨k, hk, e2⟩ := Option.map_eq_some_iff.mp hx
        have := (List.getElem?_eq_some_iff.mp hk).2
        simp at this
        omega
      unfold sg at e
      split at e
      · rename_i hm
        rw [← hx']
        exact memB_iff.mp hm
      · cases e
    · intro hv
      have on := on_iff.mp (F.on v hv)
      refine ⟨v.2.toNat, v.1.toNat, rowX fl v.2, Prod.ext (by dsimp only; omega) (by dsimp only; omega), ?_, ?_⟩
      · rw [rowsX_get (by omega)]
        rw [show ((v.2.toNat : Nat) : Int) = v.2 by omega]
      · rw [rowX_l, List.getElem?_map]
        have : (rng 0 fl.a)[v.1.toNat]? = some v.1 := by
          rw [rng_get (by omega)]
          congr 1
          omega
        rw [this]
        show some (sg fl v.2 v.1) = _
        unfold sg
        rw [if_pos (memB_iff.mpr hv)]
theorem read_written {fl : Floor} (F : FloorOk fl) : m_read (m_written fl) = .ok fl := by
  rw [read_eq, readF_written F, is_floor_ok F, eqB_self]
  rfl
theorem read_inv {t : Tx} {fl : Floor} (h : m_read t = .ok fl) : FloorOk fl ∧ m_written fl = t := by
  rw [read_eq] at h
  split at h
  · cases h
  · rename_i n
    injection h with h
    have n := Bool.eq_false_iff.mpr n
    simp only [Bool.or_eq_false_iff, Bool.not_eq_eq_eq_not, Bool.not_false] at n
    rw [h] at n
    exact ⟨is_floor_inv n.1, eqB_iff.mp n.2⟩
theorem written_g2 {fl : Floor} (F : FloorOk fl) : g2 (m_written fl).l = true := by
  rw [written_rows]
  unfold joinX
  refine g2_jn fun p hp => ?_
  obtain ⟨t, ht, rfl⟩ := List.mem_map.mp hp
  obtain ⟨y, _, rfl⟩ := List.mem_map.mp ht
  refine ⟨rowX_nl fl y, fun z => ?_⟩
  have := rowX_len fl y (by have := F.a1; omega)
  rw [z] at this
  have := F.a1
  simp at *
  omega
theorem split_book {fs : List Floor} (hn : fs ≠ []) (h : ∀ f ∈ fs, FloorOk f) : splitX ⟨['\n', '\n']⟩ (joinX ⟨['\n', '\n']⟩ (fs.map fun f => m_written f)) = fs.map fun f => m_written f := by
  refine split_join (by decide) (by simpa using hn) fun t ht => ?_
  obtain ⟨f, hf, rfl⟩ := List.mem_map.mp ht
  exact okp_g2 (written_g2 (h f hf))
theorem written_len {fl : Floor} (F : FloorOk fl) : (m_written fl).l.length ≤ 156 := by
  rw [written_rows]
  have := joinX_len (y := ⟨['\n']⟩) (B := 12) (ts := rowsX fl) fun t ht => by
    obtain ⟨y, _, rfl⟩ := List.mem_map.mp ht
    have h1 := rowX_len fl y (by have := F.a1; omega)
    have h2 := F.a2
    omega
  unfold rowsX at this ⊢
  rw [List.length_map, rng_len] at this
  have h2 := F.b2
  refine Nat.le_trans this ?_
  show _ * (12 + 1) ≤ _
  omega

abbrev Res := (Tx × Int) ⊕ List Floor
theorem book_sum2 {fs : List Floor} (hn : fs.length ≤ 200) (h : ∀ f ∈ fs, FloorOk f) : ((fs.map (fun (f : Floor) => m_written f)).map fun t => t.l.length).sum + (fs.map (fun (f : Floor) => m_written f)).length * (⟨['\n', '\n']⟩ : Tx).l.length ≤ 16777216 := by
  have := sum_le (B := 156) (ts := fs.map (fun (f : Floor) => m_written f)) fun t ht => by
    obtain ⟨f, hf, rfl⟩ := List.mem_map.mp ht
    exact written_len (h f hf)
  rw [List.length_map] at this ⊢
  show _ + _ * 2 ≤ _
  omega

def m_book_text (v_floors : List (Floor)) : Tx :=
  joinX (⟨['\n', '\n']⟩ : Tx) (v_floors.map (fun (v_floor : Floor) => m_written v_floor))
theorem sc_book_text : FnScope ["floors", "floor"] ["floors"] (defScope s_book_text) := ⟨rfl, rfl, rfl, by decide +kernel, rfl, by decide +kernel, by decide +kernel⟩
abbrev sp_book_text (K : PySem.W.Frag) : Sp := spP K (fun (y : (List (Floor))) => [enc y]) (fun y => y.length ≤ 200 ∧ ∀ f ∈ y, FloorOk f) (fun y => oF (m_book_text y))
theorem ok_book_text (F : FnF K "book_text" "book_text" s_book_text f fd)
    (h_written : FnG P w K mg base 1 "written" ["floor"] (sp_written K)) : FnOk P w K mg base (L2N.CX P w) 2 f fd ["floors"] (sp_book_text K) := by
  refine def_pure F sc_book_text (fun _ => rfl) fun y E hp => ?_
  obtain ⟨v_floors, rfl⟩ : ∃ z, z = y := ⟨_, rfl⟩
  have hp : v_floors.length ≤ 200 ∧ ∀ f ∈ v_floors, FloorOk f := hp
  refine ⟨rF (m_book_text v_floors), ?_, fits_F⟩
  unfold m_book_text
  exact xb_rtF (tp_join (xp_tx _) (tp_lcm v_floors enc (fun (v_floor : Floor) => m_written v_floor) [("floor", 1)] _ (xi_lt (xp_var 0)) (tg_n 1) to_name (fun v_floor h_floor => (eg_name 1)) (fun v_floor h_floor => (tp_call h_written v_floor ((hp.2 _ h_floor).pre) (xa_cons (xp_var 1) xa_nil) )) (by have := hp.1; omega)) (book_sum2 hp.1 hp.2))

theorem lw_rows (fl : Floor) : (rng 0 fl.b).foldl (fun (w : List (Tx)) (y : Int) => bnd (w ++ [joinX (⟨[]⟩ : Tx) ((rng 0 fl.a).map (fun (x : Int) => if (memB (x, y) fl.c.items) = true then (⟨['#']⟩ : Tx) else (⟨['.']⟩ : Tx)))]) fun (z : List (Tx)) => z) [] = rowsX fl := by
  have := foldl_snoc (fun y : Int => joinX (⟨[]⟩ : Tx) ((rng 0 fl.a).map (fun (x : Int) => if (memB (x, y) fl.c.items) = true then (⟨['#']⟩ : Tx) else (⟨['.']⟩ : Tx)))) (rng 0 fl.b) []
  refine Eq.trans this ?_
  rw [List.nil_append]
  rfl
theorem lw_join {fl : Floor} {r0 r : List Tx} (ha : fl.a ≤ 12) (hb : fl.b ≤ 12) (h0 : r0 = []) (h : r = (rng 0 fl.b).foldl (fun (w : List (Tx)) (y : Int) => bnd (w ++ [joinX (⟨[]⟩ : Tx) ((rng 0 fl.a).map (fun (x : Int) => if (memB (x, y) fl.c.items) = true then (⟨['#']⟩ : Tx) else (⟨['.']⟩ : Tx)))]) fun (z : List (Tx)) => z) r0) : (r.map fun t => t.l.length).sum + r.length * (⟨['\n']⟩ : Tx).l.length ≤ 16777216 := by
  rw [h0, lw_rows] at h
  rw [h]
  exact join_b ha hb

def m_l_written (v_floor_here : Floor) : Tx :=
  bnd ([] : List (Tx)) fun (v_rows : List (Tx)) =>
  bnd ((rng 0 v_floor_here.b).foldl (fun (v_rows_1 : List (Tx)) (v_y : Int) =>
  bnd (v_rows_1 ++ [joinX (⟨[]⟩ : Tx) ((rng 0 v_floor_here.a).map (fun (v_x : Int) => if (memB (v_x, v_y) v_floor_here.c.items) = true then (⟨['#']⟩ : Tx) else (⟨['.']⟩ : Tx)))]) fun (v_rows_2 : List (Tx)) =>
  v_rows_2) v_rows) fun (v_rows_3 : List (Tx)) =>
  joinX (⟨['\n']⟩ : Tx) v_rows_3
theorem sc__law_written : FnScope ["_law_floor_here", "_law_rows", "_law_y", "_law_x"] ["_law_floor_here"] (defScope s__law_written) := ⟨rfl, rfl, rfl, by decide +kernel, rfl, by decide +kernel, by decide +kernel⟩
abbrev sp__law_written (K : PySem.W.Frag) : Sp := spP K (fun (y : (Floor)) => [enc y]) (fun y => (0 ≤ y.a ∧ y.a ≤ 12) ∧ 0 ≤ y.b ∧ y.b ≤ 12) (fun y => oF (m_l_written y))
theorem ok__law_written (F : FnF K "_law_written" "_law_written" s__law_written f fd) (m_range : mg "range" = none) : FnOk P w K mg base (L2N.CX P w) 1 f fd ["_law_floor_here"] (sp__law_written K) := by
  refine def_pure F sc__law_written (fun _ => rfl) fun y E hp => ?_
  obtain ⟨v_floor_here, rfl⟩ : ∃ z, z = y := ⟨_, rfl⟩
  have hp : (0 ≤ v_floor_here.a ∧ v_floor_here.a ≤ 12) ∧ 0 ≤ v_floor_here.b ∧ v_floor_here.b ≤ 12 := hp
  obtain ⟨⟨hp0, hp1⟩, hp3, hp2⟩ := hp
  refine ⟨rF (m_l_written v_floor_here), ?_, fits_F⟩
  unfold m_l_written
  refine xb_stp _ (fun v_rows => [fv v_floor_here, ov v_rows, none, none]) (xs_sO (v := ([] : List (Tx))) 1 xa_nil (by simp)) (fun v_rows h_rows => ?_)
  refine xb_fo _ (rng 0 v_floor_here.b) enc (fun (v_rows_1 : List (Tx)) => [fv v_floor_here, ov v_rows_1, none, none]) (fun i (v_rows_1 : List (Tx)) => v_rows_1.length ≤ i) (fun v_rows_1 v_y => [fv v_floor_here, ov v_rows_1, fv v_y, none]) (xi_r1 m_range (tp_ix3b (p := v_floor_here) (xp_var 0)) (by omega)) (tg_n 2) (fun v_rows_1 v_y => (eg_name 2)) (by first | trivial | omega | (subst_vars; simp; done) | (simp_all; done)) (fun i v_rows_1 v_y hx hI => by have li := (List.getElem?_eq_some_iff.mp hx).1; simp only [bnd, List.length_append, List.length_cons, List.length_nil] at *; first | omega | (split <;> (try simp only [List.length_append, List.length_cons, List.length_nil]) <;> omega)) (fun i v_rows_1 v_y hx hI => ?_) (fun v_rows_3 h_rows_3 hI => ?_)
  · skip
    have m_y := List.mem_of_getElem? hx
    have li := (List.getElem?_eq_some_iff.mp hx).1
    refine xb_stp _ (fun v_rows_2 => [fv v_floor_here, ov v_rows_2, fv v_y, none]) (xs_exprM (xx_app (x := joinX (⟨[]⟩ : Tx) ((rng 0 v_floor_here.a).map (fun (v_x : Int) => if (memB (v_x, v_y) v_floor_here.c.items) = true then (⟨['#']⟩ : Tx) else (⟨['.']⟩ : Tx)))) (xl_var 1) (tp_join (xp_tx _) (tp_lcm (rng 0 v_floor_here.a) enc (fun (v_x : Int) => if (memB (v_x, v_y) v_floor_here.c.items) = true then (⟨['#']⟩ : Tx) else (⟨['.']⟩ : Tx)) [("_law_x", 3)] _ (xi_r1 m_range (tp_ix3a (p := v_floor_here) (xp_var 0)) (by omega)) (tg_n 3) to_name (fun v_x h_x => (eg_name 3)) (fun v_x h_x => (tp_if (te_inT (XP.v (tp_2 (xa_cons (xp_var 3) (xa_cons (xp_var 2) xa_nil)))) (XP.v (tp_ix3c (p := v_floor_here) (xp_var 0)))) (fun hk => (xp_tx _)) (fun hk => (xp_tx _)))) (by rw [rng_len]; omega)) (join_a hp1)) (by rw [rng_len] at li; omega))) (fun v_rows_2 h_rows_2 => ?_)
    exact xb_goN _ [2] _
  have RWS : v_rows_3.length ≤ 1000000 := by rw [rng_len] at hI; omega
  refine xb_fz 1 rfl ?_ (ρ2 := [fv v_floor_here, fv v_rows_3, none, none])
  exact xb_rtF (tp_join (xp_tx _) (xp_var 1) (lw_join hp1 hp2 h_rows h_rows_3))

abbrev refT : Tx × Int := (⟨['r', 'e', 'f', 'u', 's', 'e', 'd']⟩, 0)
theorem sc__law_refused : FnScope ["_law_e", "_law_flags"] ["_law_e"] (defScope s__law_refused) := ⟨rfl, rfl, rfl, by decide +kernel, rfl, by decide +kernel, by decide +kernel⟩
theorem XW_cast {S : Sig} {ρ : G.Env} {e : Expr} {k k' : Bool} (h : XW S ρ e k) (q : k = k') : XW S ρ e k' := q ▸ h
theorem okr__law_refused (F : FnF K "_law_refused" "_law_refused" s__law_refused f fd) (m_isinstance : mg "isinstance" = none) (m_ValueError : mg "ValueError" = none)
    (xe_NoText : ExcC K (He.ga K "NoText")) (xv_NoText : PySem.W.kitOne K (.ref (He.ga K "NoText")) (.type "ValueError") = some true) (xi_NoText_NoText : PySem.W.kitOne K (.ref (He.ga K "NoText")) (.ref (He.ga K "NoText")) = some true) (g_NoText : mg "NoText" = some (.ref (He.ga K "NoText"))) : FnR P w K mg base 1 f fd "_law_e" "NoText" (enc refT) := by
  refine def_hot F sc__law_refused fun E a => ?_
  refine xb_cons (ρ1 := [some (.fro (.obj a)), some (.fro (enc [true]))]) (xs_setF 1 (xp_lst (ds := [enc true]) (xa_cons (tp_isC rfl xe_NoText (xp_var 0) g_NoText xi_NoText_NoText m_isinstance) xa_nil))) ?_
  refine xb_cons (xs_if (k := false) (XW.t (XW_cast (xw_or (k := false) (l := false) (XT.cast (te_ne (u := ((([true] : List Bool).countP fun y => decide (y = true) : Nat) : Int)) (v := (1 : Int)) (XP.v (tp_count (XP.v (xp_var 1)) xp_bl)) (XP.v tp_int)) (by decide +kernel)) fun _ => xw_or1 (XT.cast (xt_not (tt_b (tp_isB rfl xe_NoText (xp_var 0) xv_NoText m_isinstance m_ValueError))) rfl)) rfl)) (fun z => nomatch z) fun _ => xb_nil) ?_
  exact xb_stop (xs_retF (tp_2 (p := (⟨['r', 'e', 'f', 'u', 's', 'e', 'd']⟩ : Tx)) (q := (0 : Int)) (xa_cons (xp_tx _) (xa_cons (XP.cast (tp_index (xs := [true]) (v := true) (XP.v (xp_var 1)) xp_bl (by simp)) rfl) xa_nil)))) (fun _ z => nomatch z)

def m_read_bookE (t : Tx) : Except Str (List Floor) := match mapE m_read (splitX (⟨['\n', '\n']⟩ : Tx) t) with
  | .error x => .error x
  | .ok fs => if (!eqB (m_book_text fs) t) = true then .error "NoText" else .ok fs
theorem read_err {t : Tx} {x : Str} (h : m_read t = .error x) : x = "NoText" := by
  rw [read_eq] at h
  split at h
  · injection h with h; exact h.symm
  · cases h
theorem rb_err {t : Tx} {x : Str} (h : m_read_bookE t = .error x) : x = "NoText" := by
  unfold m_read_bookE at h
  split at h
  · rename_i y e
    obtain ⟨k, hk, h1, _⟩ := mapE_err e
    injection h with h
    rw [← h]
    exact read_err h1
  · split at h
    · injection h with h; exact h.symm
    · cases h
theorem rd_all {t : Tx} {fs : List Floor} (e : mapE m_read (splitX (⟨['\n', '\n']⟩ : Tx) t) = .ok fs) : fs.length ≤ t.l.length + 1 ∧ ∀ f ∈ fs, FloorOk f := by
  obtain ⟨h1, h2⟩ := mapE_ok e
  refine ⟨by rw [h1, List.length_map]; exact sp_count, fun f hf => ?_⟩
  rw [h1] at hf
  obtain ⟨p, hp, rfl⟩ := List.mem_map.mp hf
  exact (read_inv (h2 p hp)).1
theorem sc_read_book : FnScope ["text", "found", "part"] ["text"] (defScope s_read_book) := ⟨rfl, rfl, rfl, by decide +kernel, rfl, by decide +kernel, by decide +kernel⟩
abbrev sp_read_book (K : PySem.W.Frag) : Sp := spP K (fun (y : (Tx)) => [enc y]) (fun y => y.l.length ≤ 199) (fun y => oE oF (m_read_bookE y))
theorem ok_read_book (F : FnF K "read_book" "read_book" s_read_book f fd) (x_NoText : ExcF K "NoText") (g_NoText : mg "NoText" = some (.ref (He.ga K "NoText")))
    (h_read : FnG P w K mg base 4 "read" ["text"] (sp_read K))
    (h_book_text : FnG P w K mg base 2 "book_text" ["floors"] (sp_book_text K)) : FnOk P w K mg base (L2N.CX P w) 5 f fd ["text"] (sp_read_book K) := by
  refine def_pure F sc_read_book (fun _ => rfl) fun y E hp => ?_
  obtain ⟨v_text, rfl⟩ : ∃ z, z = y := ⟨_, rfl⟩
  have hp : v_text.l.length ≤ 199 := hp
  refine ⟨rE rF (m_read_bookE v_text), ?_, fits_EF _⟩
  have pc : (splitX (⟨['\n', '\n']⟩ : Tx) v_text).length ≤ 1000000 := by have := sp_count (y := (⟨['\n', '\n']⟩ : Tx)) (t := v_text); omega
  unfold m_read_bookE
  cases e : mapE m_read (splitX (⟨['\n', '\n']⟩ : Tx) v_text) with
  | error x =>
    exact xb_stop (XS.cast (ts_lcmE (splitX (⟨['\n', '\n']⟩ : Tx) v_text) enc m_read [("part", 2)] _ 1 (xi_lt (tp_split (xp_var 0) (xp_tx _) (by omega))) (fun W => tg_n 2) to_name (fun W v_part h_part => (eg_name 2)) (fun W v_part h_part => (xp_callE h_read v_part (Nat.le_trans (sp_mem h_part) (by omega)) (xa_cons (xp_var 2) xa_nil))) pc) (by rw [e]; rfl)) (fun _ z => nomatch z)
  | ok fs =>
    obtain ⟨r1, r2⟩ := rd_all e
    refine xb_cons (ρ1 := [fv v_text, fv fs, none]) (XS.cast (ts_lcmE (splitX (⟨['\n', '\n']⟩ : Tx) v_text) enc m_read [("part", 2)] _ 1 (xi_lt (tp_split (xp_var 0) (xp_tx _) (by omega))) (fun W => tg_n 2) to_name (fun W v_part h_part => (eg_name 2)) (fun W v_part h_part => (xp_callE h_read v_part (Nat.le_trans (sp_mem h_part) (by omega)) (xa_cons (xp_var 2) xa_nil))) pc) (by rw [e]; rfl)) ?_
    refine xb_ifR _ (te_ne (XP.v (tp_call h_book_text fs (⟨by omega, r2⟩) (xa_cons (xp_var 1) xa_nil) )) (XP.v (xp_var 0))) (fun hk_2 => ?_) (Term.ne (term_rE _)) (fun hk_2 => ?_)
    · exact xb_stop (xs_raise x_NoText g_NoText) (fun _ z => nomatch z)
    · exact xb_rtE (xp_var 1)
def m_told (t : Tx) : Res := match m_read_bookE t with
  | .ok fs => .inr fs
  | .error _ => .inl refT
theorem sc__law_told : FnScope ["_law_text", "_law_e"] ["_law_text"] (defScope s__law_told) := ⟨rfl, rfl, rfl, by decide +kernel, rfl, by decide +kernel, by decide +kernel⟩
abbrev sp__law_told (K : PySem.W.Frag) : Sp := spP K (fun (y : Tx) => [enc y]) (fun y => y.l.length ≤ 199) (fun y => oF (m_told y))
theorem ok__law_told (F : FnF K "_law_told" "_law_told" s__law_told f fd) (xm_NoText_LampError : PySem.W.exmOne K (.ref (He.ga K "NoText")) (.ref (He.ga K "LampError")) = some true) (g_LampError : mg "LampError" = some (.ref (He.ga K "LampError")))
    (h__law_refused : FnRG P w K mg base 1 "_law_refused" "_law_e" "NoText" (enc refT))
    (h_read_book : FnG P w K mg base 5 "read_book" ["text"] (sp_read_book K)) : FnOk P w K mg base (L2N.CX P w) 6 f fd ["_law_text"] (sp__law_told K) := by
  refine def_pure F sc__law_told (fun _ => rfl) fun y E hp => ?_
  obtain ⟨t, rfl⟩ : ∃ z, z = y := ⟨_, rfl⟩
  have hp : t.l.length ≤ 199 := hp
  refine ⟨rF (m_told t), ?_, fits_F⟩
  refine xb_stop (xs_try_as (rb := rE rF (m_read_bookE t)) 1 (fun W => xb_rtX (xp_callE h_read_book t hp (xa_cons (xp_var 0) xa_nil))) ?_ g_LampError) (fun _ z => nomatch z)
  unfold m_told
  cases e : m_read_bookE t with
  | ok fs => exact rfl
  | error x =>
    cases rb_err e
    exact ⟨xm_NoText_LampError, .fro (enc (Sum.inl refT : Res)), rfl, fun a => xb_stop (xs_retF (xp_callR rfl h__law_refused (xp_var 1))) (fun _ z => nomatch z)⟩

theorem Fl4.ok {fl : Floor} (Q : Fl4 4 fl) : FloorOk fl := by
  obtain ⟨h1, h2, h3, h4⟩ := Q.L
  exact ⟨by omega, by omega, by omega, by omega, Q.on, Q.st⟩
theorem fs_4 {s : Scr} : ∀ f ∈ (rng 0 ((1 : Int) + (m_drawn s (200 : Int) (4 : Int)))).map (fun (k : Int) => m_law_floor s ((30 : Int) * k) (4 : Int)), Fl4 4 f := fun f hf => by
  obtain ⟨k, _, rfl⟩ := List.mem_map.mp hf
  exact fl4 _ _ (by decide)
theorem fs_ne {s : Scr} : (rng 0 ((1 : Int) + (m_drawn s (200 : Int) (4 : Int)))).map (fun (k : Int) => m_law_floor s ((30 : Int) * k) (4 : Int)) ≠ [] := fun z => by
  have := congrArg List.length z
  rw [List.length_map, rng_len] at this
  have b := m_drawn_b s 200 (many := 4) (by decide)
  simp only [List.length_nil] at this
  omega
theorem fs_len {s : Scr} : ((rng 0 ((1 : Int) + (m_drawn s (200 : Int) (4 : Int)))).map (fun (k : Int) => m_law_floor s ((30 : Int) * k) (4 : Int))).length ≤ 4 := by
  rw [List.length_map, rng_len]
  have b := m_drawn_b s 200 (many := 4) (by decide)
  omega
theorem lw_eq (fl : Floor) : m_l_written fl = m_written fl := by
  unfold m_l_written
  simp only [bnd]
  have := lw_rows fl
  simp only [bnd] at this
  rw [this]
  rfl
theorem wlen4 {fl : Floor} (Q : Fl4 4 fl) : (m_written fl).l.length ≤ 20 := by
  rw [written_rows]
  obtain ⟨h1, h2, h3, h4⟩ := Q.L
  have an := Q.an
  have bn := Q.bn
  have rl : ∀ t ∈ rowsX fl, t.l.length ≤ 4 := fun t ht => by
    obtain ⟨y, _, rfl⟩ := List.mem_map.mp ht
    have := rowX_len fl y (by omega)
    omega
  refine Nat.le_trans (joinX_len rl) ?_
  have : (rowsX fl).length ≤ 4 := by
    unfold rowsX
    rw [List.length_map, rng_len]
    omega
  show _ * (4 + 1) ≤ _
  omega
theorem cutL_le {α : Type} {xs : List α} {lo hi : Option Int} : (cutL xs lo hi).length ≤ xs.length := by
  unfold cutL
  rw [List.length_take, List.length_drop]
  omega
theorem lw_mem {fs : List Floor} (F4 : ∀ f ∈ fs, Fl4 4 f) : ∀ t ∈ fs.map (fun (f : Floor) => m_l_written f), t.l.length ≤ 20 := fun t ht => by
  obtain ⟨f, hf, rfl⟩ := List.mem_map.mp ht
  rw [lw_eq]
  exact wlen4 (F4 f hf)
theorem text_len {fs : List Floor} (F4 : ∀ f ∈ fs, Fl4 4 f) (FL : fs.length ≤ 4) : (joinX (⟨['\n', '\n']⟩ : Tx) (fs.map (fun (f : Floor) => m_l_written f))).l.length ≤ 88 := by
  refine Nat.le_trans (joinX_len (lw_mem F4)) ?_
  rw [List.length_map]
  show _ * (20 + 2) ≤ _
  omega
theorem text_join {fs : List Floor} (F4 : ∀ f ∈ fs, Fl4 4 f) (FL : fs.length ≤ 4) : ((fs.map (fun (f : Floor) => m_l_written f)).map fun t => t.l.length).sum + (fs.map (fun (f : Floor) => m_l_written f)).length * (⟨['\n', '\n']⟩ : Tx).l.length ≤ 16777216 := by
  have := sum_le (lw_mem F4)
  rw [List.length_map] at this ⊢
  show _ + _ * 2 ≤ _
  omega
theorem told_inv {t : Tx} {fs : List Floor} (h : m_told t = .inr fs) : m_read_bookE t = .ok fs := by
  unfold m_told at h
  split at h
  · rename_i e
    rw [e]
    injection h with h
    rw [h]
  · cases h
theorem rbE_inv {t : Tx} {fs : List Floor} (h : m_read_bookE t = .ok fs) : mapE m_read (splitX (⟨['\n', '\n']⟩ : Tx) t) = .ok fs ∧ m_book_text fs = t := by
  unfold m_read_bookE at h
  split at h
  · cases h
  · rename_i gs e
    split at h
    · cases h
    · rename_i hn
      injection h with h
      subst h
      exact ⟨e, by simpa [eqB] using hn⟩
theorem told_fs {t : Tx} {v : Res} (h : v = m_told t) : (∀ f ∈ unR v, FloorOk f) ∧ (unR v).length ≤ t.l.length + 1 := by
  cases v with
  | inl p => exact ⟨fun f hf => (by cases hf), Nat.zero_le _⟩
  | inr fs =>
    have r := rd_all (rbE_inv (told_inv h.symm)).1
    exact ⟨r.2, r.1⟩
theorem told_ok {t : Tx} {v : Res} {f : Floor} (h : v = m_told t) (hf : f ∈ unR v) : FloorOk f := (told_fs h).1 f hf
theorem told_len {t : Tx} {v : Res} (hl : t.l.length ≤ 199) (h : v = m_told t) : (unR v).length ≤ 1000000 := by
  have := (told_fs h).2
  omega
theorem told_join {t : Tx} {v : Res} (hl : t.l.length ≤ 199) (h : v = m_told t) : (((unR v).map (fun (f : Floor) => m_l_written f)).map fun t => t.l.length).sum + ((unR v).map (fun (f : Floor) => m_l_written f)).length * (⟨['\n', '\n']⟩ : Tx).l.length ≤ 16777216 := by
  have := (told_fs h).2
  have e : (unR v).map (fun (f : Floor) => m_l_written f) = (unR v).map (fun (f : Floor) => m_written f) := List.map_congr_left fun f _ => lw_eq f
  rw [e]
  exact book_sum2 (by omega) (told_fs h).1
theorem sign_l {i : Int} (h : 0 ≤ i ∧ i < 6) : (atD [(⟨['#']⟩ : Tx), (⟨['.']⟩ : Tx), (⟨['\n']⟩ : Tx), (⟨[' ']⟩ : Tx), (⟨[]⟩ : Tx), (⟨['a']⟩ : Tx)] i).l.length ≤ 1 := by
  have : i = 0 ∨ i = 1 ∨ i = 2 ∨ i = 3 ∨ i = 4 ∨ i = 5 := by omega
  rcases this with rfl | rfl | rfl | rfl | rfl | rfl <;> decide
theorem sp_l {t g : Tx} {a b c d : Option Int} (TL : t.l.length ≤ 88) (SL : g.l.length ≤ 1) : (⟨(⟨(⟨cutL t.l a b⟩ : Tx).l ++ g.l⟩ : Tx).l ++ (⟨cutL t.l c d⟩ : Tx).l⟩ : Tx).l.length ≤ 199 := by
  have c1 := @cutL_le Char t.l a b
  have c2 := @cutL_le Char t.l c d
  show ((cutL t.l a b ++ g.l) ++ cutL t.l c d).length ≤ 199
  rw [List.length_append, List.length_append]
  omega
theorem cat_1 {t g : Tx} {a b : Option Int} (TL : t.l.length ≤ 88) (SL : g.l.length ≤ 1) : (cutL t.l a b).length + g.l.length ≤ 1000000 := by
  have c1 := @cutL_le Char t.l a b
  omega
theorem cat_2 {t g : Tx} {a b c d : Option Int} (TL : t.l.length ≤ 88) (SL : g.l.length ≤ 1) : (cutL t.l a b ++ g.l).length + (cutL t.l c d).length ≤ 1000000 := by
  have c1 := @cutL_le Char t.l a b
  have c2 := @cutL_le Char t.l c d
  rw [List.length_append]
  omega
theorem cat_3 {t : Tx} {a : List Char} (TL : t.l.length ≤ 88) (h : a.length ≤ 10 := by decide) : t.l.length + a.length ≤ 1000000 := by omega
theorem cat_4 {t : Tx} {a : List Char} (TL : t.l.length ≤ 88) (h : a.length ≤ 10 := by decide) : a.length + t.l.length ≤ 1000000 := by omega
theorem odd_len {t b : Tx} {o o1 : List Tx} (TL : t.l.length ≤ 88) (h0 : o = [(⟨[]⟩ : Tx), (⟨['\n']⟩ : Tx), (⟨['\n', '\n']⟩ : Tx), (⟨t.l ++ (⟨['\n']⟩ : Tx).l⟩ : Tx), (⟨t.l ++ (⟨['\n', '\n']⟩ : Tx).l⟩ : Tx), (⟨(⟨['\n', '\n']⟩ : Tx).l ++ t.l⟩ : Tx), (⟨['#', '.', '\n', '#']⟩ : Tx)])
    (h1 : o1 = o ++ [(⟨['#', '\n', '\n', '\n', '.']⟩ : Tx), repX (⟨['.']⟩ : Tx) (13 : Int), (⟨(repX (⟨['.', '\n']⟩ : Tx) (12 : Int)).l ++ (⟨['.']⟩ : Tx).l⟩ : Tx)]) (hb : b ∈ o1) : b.l.length ≤ 199 := by
  rw [h1, h0] at hb
  simp only [List.mem_append, List.mem_cons, List.not_mem_nil, or_false] at hb
  rcases hb with (h | h | h | h | h | h | h) | h | h | h
  · rw [h]; decide
  · rw [h]; decide
  · rw [h]; decide
  · rw [h]
    show (t.l ++ ['\n']).length ≤ 199
    rw [List.length_append]
    simp only [List.length_cons, List.length_nil]
    omega
  · rw [h]
    show (t.l ++ ['\n', '\n']).length ≤ 199
    rw [List.length_append]
    simp only [List.length_cons, List.length_nil]
    omega
  · rw [h]
    show (['\n', '\n'] ++ t.l).length ≤ 199
    rw [List.length_append]
    simp only [List.length_cons, List.length_nil]
    omega
  · rw [h]; decide
  · rw [h]; decide
  · rw [h]; decide +kernel
  · rw [h]; decide +kernel

def m_law (v_script : Scr) : Bool :=
  bnd ((rng 0 ((1 : Int) + (m_drawn v_script (200 : Int) (4 : Int)))).map (fun (v_k : Int) => m_law_floor v_script ((30 : Int) * v_k) (4 : Int))) fun (v_floors : List (Floor)) =>
  bnd (joinX (⟨['\n', '\n']⟩ : Tx) (v_floors.map (fun (v_floor_here : Floor) => m_l_written v_floor_here))) fun (v_text : Tx) =>
  if ((!eqB (m_book_text v_floors) v_text) || (!eqB (m_told v_text) (Sum.inr v_floors : (((Tx × Int)) ⊕ (List (Floor)))))) = true then false else
  (forL (fun (v_s : Unit) (v_k_1 : Int) =>
  bnd (m_drawn v_script ((210 : Int) + ((4 : Int) * v_k_1)) (((v_text.l.length : Nat) : Int) + (1 : Int))) fun (v_place : Int) =>
  bnd (atD [(⟨['#']⟩ : Tx), (⟨['.']⟩ : Tx), (⟨['\n']⟩ : Tx), (⟨[' ']⟩ : Tx), (⟨[]⟩ : Tx), (⟨['a']⟩ : Tx)] (m_drawn v_script ((211 : Int) + ((4 : Int) * v_k_1)) (6 : Int))) fun (v_sign : Tx) =>
  bnd (⟨(⟨(⟨cutL v_text.l none (some v_place)⟩ : Tx).l ++ v_sign.l⟩ : Tx).l ++ (⟨cutL v_text.l (some (v_place + (m_drawn v_script ((212 : Int) + ((4 : Int) * v_k_1)) (2 : Int)))) none⟩ : Tx).l⟩ : Tx) fun (v_spoilt : Tx) =>
  bnd (m_told v_spoilt) fun (v_told_here : (((Tx × Int)) ⊕ (List (Floor)))) =>
  if v_told_here.isLeft = true then if ((!eqB v_told_here (Sum.inl ((⟨['r', 'e', 'f', 'u', 's', 'e', 'd']⟩ : Tx), (0 : Int)) : (((Tx × Int)) ⊕ (List (Floor))))) || (eqB v_spoilt v_text)) = true then LO.rt false else
  LO.nx () else
  if (!eqB (joinX (⟨['\n', '\n']⟩ : Tx) ((unR v_told_here).map (fun (v_floor_here_1 : Floor) => m_l_written v_floor_here_1))) v_spoilt) = true then LO.rt false else
  LO.nx ()) (rng 0 (6 : Int)) ()).fin fun (v_s_1 : Unit) =>
  bnd [(⟨[]⟩ : Tx), (⟨['\n']⟩ : Tx), (⟨['\n', '\n']⟩ : Tx), (⟨v_text.l ++ (⟨['\n']⟩ : Tx).l⟩ : Tx), (⟨v_text.l ++ (⟨['\n', '\n']⟩ : Tx).l⟩ : Tx), (⟨(⟨['\n', '\n']⟩ : Tx).l ++ v_text.l⟩ : Tx), (⟨['#', '.', '\n', '#']⟩ : Tx)] fun (v_odd : List (Tx)) =>
  bnd (v_odd ++ [(⟨['#', '\n', '\n', '\n', '.']⟩ : Tx), repX (⟨['.']⟩ : Tx) (13 : Int), (⟨(repX (⟨['.', '\n']⟩ : Tx) (12 : Int)).l ++ (⟨['.']⟩ : Tx).l⟩ : Tx)]) fun (v_odd_1 : List (Tx)) =>
  if (!eqB (v_odd_1.filter (fun (v_bad : Tx) => !eqB (m_told v_bad) (Sum.inl ((⟨['r', 'e', 'f', 'u', 's', 'e', 'd']⟩ : Tx), (0 : Int)) : (((Tx × Int)) ⊕ (List (Floor)))))) ([] : List (Tx))) = true then false else
  eqB (m_told (⟨['.', '#', '\n', '\n', '#', '\n', '.']⟩ : Tx)) (Sum.inr [T3.mk (2 : Int) (1 : Int) (Tup.mk [((1 : Int), (0 : Int))]), T3.mk (1 : Int) (2 : Int) (Tup.mk ([((0 : Int), (0 : Int))] : List (Cell)))] : (((Tx × Int)) ⊕ (List (Floor))))
theorem sc_law : FnScope ["_law_script", "_law_floors", "_law_text", "_law_k", "_law_place", "_law_sign", "_law_spoilt", "_law_told_here", "_law_odd", "_law_floor_here", "_law_bad"] ["_law_script"] (defScope s_law) := ⟨rfl, rfl, rfl, by decide +kernel, rfl, by decide +kernel, by decide +kernel⟩
abbrev sp_law (K : PySem.W.Frag) : Sp := spP K (fun (y : (Scr)) => [enc y]) (fun y => y.l.length ≤ 1000) (fun y => oF (m_law y))
theorem ok_law (F : FnF K "law" "law" s_law f fd) (m_isinstance : mg "isinstance" = none) (m_len : mg "len" = none) (m_range : mg "range" = none) (m_tuple : mg "tuple" = none)
    (h__law_drawn : FnG P w K mg base 2 "_law_drawn" ["_law_script", "_law_k", "_law_many"] (sp_drawn K))
    (h__law_floor : FnG P w K mg base 3 "_law_floor" ["_law_script", "_law_at", "_law_most"] (sp__law_floor K))
    (h__law_written : FnG P w K mg base 1 "_law_written" ["_law_floor_here"] (sp__law_written K))
    (h_book_text : FnG P w K mg base 2 "book_text" ["floors"] (sp_book_text K))
    (h__law_told : FnG P w K mg base 6 "_law_told" ["_law_text"] (sp__law_told K)) : FnOk P w K mg base (L2N.CX P w) 7 f fd ["_law_script"] (sp_law K) := by
  refine def_pure F sc_law (fun _ => rfl) fun y E hp => ?_
  obtain ⟨v_script, rfl⟩ : ∃ z, z = y := ⟨_, rfl⟩
  have hp : v_script.l.length ≤ 1000 := hp
  have hl := hp
  refine ⟨rF (m_law v_script), ?_, fits_F⟩
  unfold m_law
  refine xb_stp _ (fun v_floors => [fv v_script, fv v_floors, none, none, none, none, none, none, none, none, none]) (XS.cast (ts_lcm (rng 0 ((1 : Int) + (m_drawn v_script (200 : Int) (4 : Int)))) enc (fun (v_k : Int) => m_law_floor v_script ((30 : Int) * v_k) (4 : Int)) [("_law_k", 3)] _ 1 (xi_r1 m_range (tp_add tp_int (tp_call h__law_drawn (v_script, (200 : Int), (4 : Int)) (by exact ⟨hl, by dsimp only; first | decide | omega⟩) (xa_cons (xp_var 0) (xa_cons tp_int (xa_cons tp_int xa_nil))) )) (by have := m_drawn_b v_script 200 (many := 4) (by decide); omega)) (tg_n 3) to_name (fun v_k h_k => (eg_name 3)) (fun v_k h_k => (tp_call h__law_floor (v_script, (30 : Int) * v_k, (4 : Int)) ⟨hl, by dsimp only; decide, by dsimp only; decide⟩ (xa_cons (xp_var 0) (xa_cons (tp_mul tp_int (xp_var 3) (.inl (by decide))) (xa_cons tp_int xa_nil))) )) (by rw [rng_len]; have := m_drawn_b v_script 200 (many := 4) (by decide); omega)) (by rfl)) (fun v_floors h_floors => ?_)
  have F4 : ∀ f ∈ v_floors, Fl4 4 f := by rw [h_floors]; exact fs_4
  have FN : v_floors ≠ [] := by rw [h_floors]; exact fs_ne
  have FL : v_floors.length ≤ 4 := by rw [h_floors]; exact fs_len
  refine xb_stp _ (fun v_text => [fv v_script, fv v_floors, fv v_text, none, none, none, none, none, none, none, none]) (xs_sF (v := joinX (⟨['\n', '\n']⟩ : Tx) (v_floors.map (fun (v_floor_here : Floor) => m_l_written v_floor_here))) 2 (tp_join (xp_tx _) (tp_lcm v_floors enc (fun (v_floor_here : Floor) => m_l_written v_floor_here) [("_law_floor_here", 9)] _ (xi_lt (xp_var 1)) (tg_n 9) to_name (fun v_floor_here h_floor_here => (eg_name 9)) (fun v_floor_here h_floor_here => (tp_call h__law_written v_floor_here (by first | exact (F4 _ (by assumption)).ok.pre | exact (told_ok h_told_here (by assumption)).pre) (xa_cons (xp_var 9) xa_nil) )) (by omega)) (text_join F4 FL))) (fun v_text h_text => ?_)
  have TL : v_text.l.length ≤ 88 := by rw [h_text]; exact text_len F4 FL
  refine xb_ifR _ (XW.t (xw_or (te_ne (XP.v (tp_call h_book_text v_floors ⟨by omega, fun f hf => (F4 f hf).ok⟩ (xa_cons (xp_var 1) xa_nil) )) (XP.v (xp_var 2))) (fun hk => (xw_or1 (te_ne (XP.v (tp_call h__law_told v_text ((show v_text.l.length ≤ 199 by omega)) (xa_cons (xp_var 2) xa_nil) )) (XP.v (tp_inr (xp_var 1)))))))) (fun hk_4 => ?_) term_F.ne (fun hk_4 => ?_)
  · skip
    exact xb_rtF xp_bl
  · skip
    refine xb_fe rF (fun _ => term_F) (rng 0 (6 : Int)) enc (fun (v_s : Unit) => [fv v_script, fv v_floors, fv v_text, none, none, none, none, none, none, none, none]) (fun _ _ => True) (fun v_s v_k_1 => [fv v_script, fv v_floors, fv v_text, fv v_k_1, none, none, none, none, none, none, none]) (xi_r1 m_range tp_int (by have := m_drawn_b v_script 200 (many := 4) (by decide); omega)) (tg_n 3) (fun v_s v_k_1 => (eg_name 3)) trivial (fun _ _ _ _ _ _ _ => trivial) (fun i v_s v_k_1 hx hI => ?_) (fun v_s_1 h_s_1 => ?_)
    · skip
      have m_k_1 := List.mem_of_getElem? hx
      have li := (List.getElem?_eq_some_iff.mp hx).1
      refine xb_stp _ (fun v_place => [fv v_script, fv v_floors, fv v_text, fv v_k_1, fv v_place, none, none, none, none, none, none]) (xs_sF (v := m_drawn v_script ((210 : Int) + ((4 : Int) * v_k_1)) (((v_text.l.length : Nat) : Int) + (1 : Int))) 4 (tp_call h__law_drawn (v_script, (210 : Int) + ((4 : Int) * v_k_1), ((v_text.l.length : Nat) : Int) + (1 : Int)) (by exact ⟨hl, by dsimp only; first | decide | omega⟩) (xa_cons (xp_var 0) (xa_cons (tp_add tp_int (tp_mul tp_int (xp_var 3) (.inl (by decide)))) (xa_cons (tp_add (tp_lenX m_len (XP.v (xp_var 2)) (by omega)) tp_int) xa_nil))) )) (fun v_place h_place => ?_)
      have AB : 0 ≤ v_place ∧ v_place ≤ (v_text.l.length : Nat) := by rw [h_place]; have := m_drawn_b v_script ((210 : Int) + ((4 : Int) * v_k_1)) (many := ((v_text.l.length : Nat) : Int) + 1) (by omega); omega
      refine xb_stp _ (fun v_sign => [fv v_script, fv v_floors, fv v_text, fv v_k_1, fv v_place, fv v_sign, none, none, none, none, none]) (xs_sF (v := atD [(⟨['#']⟩ : Tx), (⟨['.']⟩ : Tx), (⟨['\n']⟩ : Tx), (⟨[' ']⟩ : Tx), (⟨[]⟩ : Tx), (⟨['a']⟩ : Tx)] (m_drawn v_script ((211 : Int) + ((4 : Int) * v_k_1)) (6 : Int))) 5 (tv_ix (xp_lst (ds := [enc ((⟨['#']⟩ : Tx) : Tx), enc ((⟨['.']⟩ : Tx) : Tx), enc ((⟨['\n']⟩ : Tx) : Tx), enc ((⟨[' ']⟩ : Tx) : Tx), enc ((⟨[]⟩ : Tx) : Tx), enc ((⟨['a']⟩ : Tx) : Tx)]) (xa_cons (xp_tx _) (xa_cons (xp_tx _) (xa_cons (xp_tx _) (xa_cons (xp_tx _) (xa_cons (xp_tx _) (xa_cons (xp_tx _) xa_nil)))))) (by show 6 ≤ 1000000; omega)) (tp_call h__law_drawn (v_script, (211 : Int) + ((4 : Int) * v_k_1), (6 : Int)) (by exact ⟨hl, by dsimp only; first | decide | omega⟩) (xa_cons (xp_var 0) (xa_cons (tp_add tp_int (tp_mul tp_int (xp_var 3) (.inl (by decide)))) (xa_cons tp_int xa_nil))) ) (.inl (m_drawn_b _ _ (by decide))))) (fun v_sign h_sign => ?_)
      have SL : v_sign.l.length ≤ 1 := by rw [h_sign]; exact sign_l (m_drawn_b _ _ (by decide))
      refine xb_stp _ (fun v_spoilt => [fv v_script, fv v_floors, fv v_text, fv v_k_1, fv v_place, fv v_sign, fv v_spoilt, none, none, none, none]) (xs_sF (v := (⟨(⟨(⟨cutL v_text.l none (some v_place)⟩ : Tx).l ++ v_sign.l⟩ : Tx).l ++ (⟨cutL v_text.l (some (v_place + (m_drawn v_script ((212 : Int) + ((4 : Int) * v_k_1)) (2 : Int)))) none⟩ : Tx).l⟩ : Tx)) 6 (xp_bin (ob_cats (by first | (rw [h_odd]; exact (show 10 ≤ 1000000 by omega)) | decide | exact cat_1 TL SL | exact cat_2 TL SL | exact cat_3 TL | exact cat_4 TL | (simp only [List.length_append, List.length_cons, List.length_nil]; omega))) (xp_bin (ob_cats (by first | (rw [h_odd]; exact (show 10 ≤ 1000000 by omega)) | decide | exact cat_1 TL SL | exact cat_2 TL SL | exact cat_3 TL | exact cat_4 TL | (simp only [List.length_append, List.length_cons, List.length_nil]; omega))) (tp_slX (xp_var 2) xo_none (xo_some (xp_var 4)) (by first | omega | assumption | (dsimp only; omega) | (simp only [List.length_cons, List.length_nil, List.length_append, List.length_map]; omega) | (simp; done))).v (xp_var 5).v).v (tp_slX (xp_var 2) (xo_some (tp_add (xp_var 4) (tp_call h__law_drawn (v_script, (212 : Int) + ((4 : Int) * v_k_1), (2 : Int)) (by exact ⟨hl, by dsimp only; first | decide | omega⟩) (xa_cons (xp_var 0) (xa_cons (tp_add tp_int (tp_mul tp_int (xp_var 3) (.inl (by decide)))) (xa_cons tp_int xa_nil))) ))) xo_none (by first | omega | assumption | (dsimp only; omega) | (simp only [List.length_cons, List.length_nil, List.length_append, List.length_map]; omega) | (simp; done))).v)) (fun v_spoilt h_spoilt => ?_)
      have SP : v_spoilt.l.length ≤ 199 := by rw [h_spoilt]; exact sp_l TL SL
      refine xb_stp _ (fun v_told_here => [fv v_script, fv v_floors, fv v_text, fv v_k_1, fv v_place, fv v_sign, fv v_spoilt, fv v_told_here, none, none, none]) (xs_sF (v := m_told v_spoilt) 7 (tp_call h__law_told v_spoilt (SP) (xa_cons (xp_var 6) xa_nil) )) (fun v_told_here h_told_here => ?_)
      refine xb_if2 _ (tt_b (tp_isT m_isinstance m_tuple (xp_var 7))) (fun hk_10 => ?_) (fun hk_10 => ?_)
      · skip
        refine xb_ifR _ (XW.t (xw_or (te_ne (XP.v (xp_var 7)) (XP.v (tp_inl (tp_2 (xa_cons (xp_tx _) (xa_cons tp_int xa_nil)))))) (fun hk => (xw_or1 (te_eq (XP.v (xp_var 6)) (XP.v (xp_var 2))))))) (fun hk_11 => ?_) (by intro _ z; cases z) (fun hk_11 => ?_)
        · skip
          exact xb_rtL _ _ (xb_rtF xp_bl)
        · skip
          exact xb_goL _ _ [3, 4, 5, 6, 7] _
      · skip
        refine xb_ifR _ (te_ne (XP.v (tp_join (xp_tx _) (tp_lcm (unR v_told_here) enc (fun (v_floor_here_1 : Floor) => m_l_written v_floor_here_1) [("_law_floor_here", 9)] _ (xi_lt (tp_unR (xp_var 7) ((by assumption)))) (tg_n 9) to_name (fun v_floor_here_1 h_floor_here_1 => (eg_name 9)) (fun v_floor_here_1 h_floor_here_1 => (tp_call h__law_written v_floor_here_1 (by first | exact (F4 _ (by assumption)).ok.pre | exact (told_ok h_told_here (by assumption)).pre) (xa_cons (xp_var 9) xa_nil) )) (told_len SP h_told_here)) (told_join SP h_told_here))) (XP.v (xp_var 6))) (fun hk_12 => ?_) (by intro _ z; cases z) (fun hk_12 => ?_)
        · skip
          exact xb_rtL _ _ (xb_rtF xp_bl)
        · skip
          exact xb_goL _ _ [3, 4, 5, 6, 7] _
    refine xb_stp _ (fun v_odd => [fv v_script, fv v_floors, fv v_text, none, none, none, none, none, fv v_odd, none, none]) (xs_sF (v := [(⟨[]⟩ : Tx), (⟨['\n']⟩ : Tx), (⟨['\n', '\n']⟩ : Tx), (⟨v_text.l ++ (⟨['\n']⟩ : Tx).l⟩ : Tx), (⟨v_text.l ++ (⟨['\n', '\n']⟩ : Tx).l⟩ : Tx), (⟨(⟨['\n', '\n']⟩ : Tx).l ++ v_text.l⟩ : Tx), (⟨['#', '.', '\n', '#']⟩ : Tx)]) 8 (xp_lst (ds := [enc ((⟨[]⟩ : Tx) : Tx), enc ((⟨['\n']⟩ : Tx) : Tx), enc ((⟨['\n', '\n']⟩ : Tx) : Tx), enc ((⟨v_text.l ++ (⟨['\n']⟩ : Tx).l⟩ : Tx) : Tx), enc ((⟨v_text.l ++ (⟨['\n', '\n']⟩ : Tx).l⟩ : Tx) : Tx), enc ((⟨(⟨['\n', '\n']⟩ : Tx).l ++ v_text.l⟩ : Tx) : Tx), enc ((⟨['#', '.', '\n', '#']⟩ : Tx) : Tx)]) (xa_cons (xp_tx _) (xa_cons (xp_tx _) (xa_cons (xp_tx _) (xa_cons (xp_bin (ob_cats (by first | (rw [h_odd]; exact (show 10 ≤ 1000000 by omega)) | decide | exact cat_1 TL SL | exact cat_2 TL SL | exact cat_3 TL | exact cat_4 TL | (simp only [List.length_append, List.length_cons, List.length_nil]; omega))) (xp_var 2).v (xp_tx _).v) (xa_cons (xp_bin (ob_cats (by first | (rw [h_odd]; exact (show 10 ≤ 1000000 by omega)) | decide | exact cat_1 TL SL | exact cat_2 TL SL | exact cat_3 TL | exact cat_4 TL | (simp only [List.length_append, List.length_cons, List.length_nil]; omega))) (xp_var 2).v (xp_tx _).v) (xa_cons (xp_bin (ob_cats (by first | (rw [h_odd]; exact (show 10 ≤ 1000000 by omega)) | decide | exact cat_1 TL SL | exact cat_2 TL SL | exact cat_3 TL | exact cat_4 TL | (simp only [List.length_append, List.length_cons, List.length_nil]; omega))) (xp_tx _).v (xp_var 2).v) (xa_cons (xp_tx _) xa_nil))))))) (by show 7 ≤ 1000000; omega))) (fun v_odd h_odd => ?_)
    refine xb_stp _ (fun v_odd_1 => [fv v_script, fv v_floors, fv v_text, none, none, none, none, none, fv v_odd_1, none, none]) (xs_sF (v := v_odd ++ [(⟨['#', '\n', '\n', '\n', '.']⟩ : Tx), repX (⟨['.']⟩ : Tx) (13 : Int), (⟨(repX (⟨['.', '\n']⟩ : Tx) (12 : Int)).l ++ (⟨['.']⟩ : Tx).l⟩ : Tx)]) 8 (tp_catL (xp_var 8) (xp_lst (ds := [enc ((⟨['#', '\n', '\n', '\n', '.']⟩ : Tx) : Tx), enc (repX (⟨['.']⟩ : Tx) (13 : Int) : Tx), enc ((⟨(repX (⟨['.', '\n']⟩ : Tx) (12 : Int)).l ++ (⟨['.']⟩ : Tx).l⟩ : Tx) : Tx)]) (xa_cons (xp_tx _) (xa_cons (tp_mulX (xp_tx _) tp_int (by decide) (by decide) (by decide)) (xa_cons (xp_bin (ob_cats (by first | (rw [h_odd]; exact (show 10 ≤ 1000000 by omega)) | decide | exact cat_1 TL SL | exact cat_2 TL SL | exact cat_3 TL | exact cat_4 TL | (simp only [List.length_append, List.length_cons, List.length_nil]; omega))) (tp_mulX (xp_tx _) tp_int (by decide) (by decide) (by decide)).v (xp_tx _).v) xa_nil))) (by show 3 ≤ 1000000; omega)) (by first | (rw [h_odd]; exact (show 10 ≤ 1000000 by omega)) | decide | exact cat_1 TL SL | exact cat_2 TL SL | exact cat_3 TL | exact cat_4 TL | (simp only [List.length_append, List.length_cons, List.length_nil]; omega)))) (fun v_odd_1 h_odd_1 => ?_)
    refine xb_ifR _ (te_ne (XP.v (tp_lcf [("_law_bad", 10)] v_odd_1 (fun (v_bad : Tx) => !eqB (m_told v_bad) (Sum.inl ((⟨['r', 'e', 'f', 'u', 's', 'e', 'd']⟩ : Tx), (0 : Int)) : (((Tx × Int)) ⊕ (List (Floor))))) _ (xi_lt (xp_var 8)) (tg_n 10) to_name (fun v_bad h_bad => (eg_name 10)) (fun v_bad h_bad => (te_ne (XP.v (tp_call h__law_told v_bad ((odd_len TL h_odd h_odd_1 h_bad)) (xa_cons (xp_var 10) xa_nil) )) (XP.v (tp_inl (tp_2 (xa_cons (xp_tx _) (xa_cons tp_int xa_nil))))))) (fun v_bad h_bad hk => (xp_var 10)) (by rw [h_odd_1, h_odd]; exact (show 10 ≤ 1000000 by omega)))) (XP.v tp_nilL)) (fun hk_15 => ?_) term_F.ne (fun hk_15 => ?_)
    · skip
      exact xb_rtF xp_bl
    · skip
      exact xb_rtF (tv_eq (XP.v (tp_call h__law_told (⟨['.', '#', '\n', '\n', '#', '\n', '.']⟩ : Tx) ((by decide)) (xa_cons (xp_tx _) xa_nil) )) (XP.v (tp_inr (xp_lst (ds := [enc (T3.mk (2 : Int) (1 : Int) (Tup.mk [((1 : Int), (0 : Int))]) : Floor), enc (T3.mk (1 : Int) (2 : Int) (Tup.mk ([((0 : Int), (0 : Int))] : List (Cell))) : Floor)]) (xa_cons (tp_3 (xa_cons tp_int (xa_cons tp_int (xa_cons (xp_tup (xa_cons (tp_2 (xa_cons tp_int (xa_cons tp_int xa_nil))) xa_nil)) xa_nil)))) (xa_cons (tp_3 (xa_cons tp_int (xa_cons tp_int (xa_cons (xp_tup (xa_cons (tp_2 (xa_cons tp_int (xa_cons tp_int xa_nil))) xa_nil)) xa_nil)))) xa_nil)) (by show 2 ≤ 1000000; omega)))))

theorem bnd_to {α β : Type} {x : α} {f : α → β} {r : β} (h : ∀ v, v = x → f v = r) : bnd x f = r := h x rfl
theorem forL_all {α : Type} {f : Unit → α → LO Unit Bool} : ∀ {xs : List α}, (∀ x ∈ xs, f () x = .nx ()) → forL f xs () = .nx ()
  | [], _ => rfl
  | x :: xs, h => by
    rw [forL, h x List.mem_cons_self]
    exact forL_all fun z hz => h z (List.mem_cons_of_mem _ hz)
def good (l : List Char) : Prop := l ≠ [] ∧ l.head? ≠ some '\n' ∧ l.getLast? ≠ some '\n'
theorem good_of {l : List Char} (h : l ≠ []) (n : '\n' ∉ l) : good l :=
  ⟨h, fun z => n (List.mem_of_head? z), fun z => n (List.mem_of_getLast? z)⟩
theorem good_app {a b s : List Char} (ha : good a) (hb : good b) : good (a ++ (s ++ b)) := by
  refine ⟨fun z => ha.1 (List.append_eq_nil_iff.mp z).1, ?_, ?_⟩
  · cases a with
    | nil => exact absurd rfl ha.1
    | cons c r => exact ha.2.1
  · rw [List.getLast?_append, List.getLast?_append]
    cases e : b.getLast? with
    | none => exact absurd (List.getLast?_eq_none_iff.mp e) hb.1
    | some c =>
      have := hb.2.2
      rw [e] at this
      exact this
theorem good_jn {s : List Char} : ∀ {ps : List (List Char)}, ps ≠ [] → (∀ p ∈ ps, good p) → good (jnC s ps)
  | [], h, _ => absurd rfl h
  | [p], _, h => h p (by simp)
  | p :: q :: r, _, h => good_app (h p (by simp)) (good_jn (ps := q :: r) (by simp) fun z hz => h z (List.mem_cons_of_mem _ hz))
theorem good_join {y : Tx} {ts : List Tx} (hn : ts ≠ []) (h : ∀ t ∈ ts, good t.l) : good (joinX y ts).l := by
  refine good_jn (by simpa using hn) fun p hp => ?_
  obtain ⟨t, ht, rfl⟩ := List.mem_map.mp hp
  exact h t ht
theorem good_written {fl : Floor} (F : FloorOk fl) : good (m_written fl).l := by
  rw [written_rows]
  obtain ⟨h1, h2, h3, h4, _, _⟩ := F
  refine good_join (rowsX_ne (by omega)) fun t ht => ?_
  obtain ⟨y, _, rfl⟩ := List.mem_map.mp ht
  refine good_of (fun z => ?_) (rowX_nl fl y)
  have := rowX_len fl y (by omega)
  rw [z] at this
  simp only [List.length_nil] at this
  omega
theorem good_book {fs : List Floor} (hn : fs ≠ []) (h : ∀ f ∈ fs, FloorOk f) : good (m_book_text fs).l := by
  refine good_join (by simpa using hn) fun t ht => ?_
  obtain ⟨f, hf, rfl⟩ := List.mem_map.mp ht
  exact good_written (h f hf)
theorem rbE_good {t : Tx} {fs : List Floor} (h : m_read_bookE t = .ok fs) : good t.l := by
  obtain ⟨e, b⟩ := rbE_inv h
  rw [← b]
  refine good_book (fun z => ?_) (rd_all e).2
  have := (mapE_ok e).1
  rw [z] at this
  have p := sp_pos (y := (⟨['\n', '\n']⟩ : Tx)) (t := t) rfl
  have l := congrArg List.length this
  rw [List.length_map, List.length_nil] at l
  omega
theorem told_bad {t : Tx} (h : ¬ good t.l) : m_told t = .inl refT := by
  unfold m_told
  cases e : m_read_bookE t with
  | error x => rfl
  | ok fs => exact absurd (rbE_good e) h
theorem told_cases (t : Tx) : m_told t = .inl refT ∨ ∃ fs, m_told t = .inr fs ∧ joinX (⟨['\n', '\n']⟩ : Tx) (fs.map (fun (f : Floor) => m_l_written f)) = t := by
  cases e : m_read_bookE t with
  | error x => exact .inl (by unfold m_told; rw [e])
  | ok fs =>
    refine .inr ⟨fs, by unfold m_told; rw [e], ?_⟩
    have : fs.map (fun (f : Floor) => m_l_written f) = fs.map (fun (f : Floor) => m_written f) := List.map_congr_left fun f _ => lw_eq f
    rw [this]
    exact (rbE_inv e).2
theorem mapE_written : ∀ {fs : List Floor}, (∀ f ∈ fs, FloorOk f) → mapE m_read (fs.map fun f => m_written f) = .ok fs
  | [], _ => rfl
  | f :: fs, h => by
    rw [List.map_cons]
    unfold mapE
    rw [read_written (h f List.mem_cons_self)]
    dsimp only
    rw [mapE_written fun g hg => h g (List.mem_cons_of_mem _ hg)]
theorem rd_book {fs : List Floor} (hn : fs ≠ []) (h : ∀ f ∈ fs, FloorOk f) : m_read_bookE (m_book_text fs) = .ok fs := by
  unfold m_read_bookE
  have : splitX (⟨['\n', '\n']⟩ : Tx) (m_book_text fs) = fs.map fun f => m_written f := split_book hn h
  rw [this, mapE_written h]
  dsimp only
  rw [eqB_self]
  rfl
def readI (t : Tx) : Except Str Floor :=
  let fl : Floor := ⟨(((atD (splitX (⟨['\n']⟩ : Tx) t) (0 : Int)).l.length : Nat) : Int), (((splitX (⟨['\n']⟩ : Tx) t).length : Nat) : Int), ⟨isortT (wallsX (splitX (⟨['\n']⟩ : Tx) t))⟩⟩
  if ((!(m_is_floor fl)) || (!eqB (m_written fl) t)) = true then .error "NoText" else .ok fl
theorem read_I : m_read = readI := funext fun t => by
  rw [read_eq]
  unfold readF readI
  rw [sortT_eq]
def toldI (t : Tx) : Res := match mapE readI (splitX (⟨['\n', '\n']⟩ : Tx) t) with
  | .error _ => .inl refT
  | .ok fs => if (!eqB (m_book_text fs) t) = true then .inl refT else .inr fs
theorem told_I (t : Tx) : m_told t = toldI t := by
  unfold m_told m_read_bookE toldI
  rw [read_I]
  cases mapE readI (splitX (⟨['\n', '\n']⟩ : Tx) t) with
  | error x => rfl
  | ok fs =>
    dsimp only
    by_cases h : (!eqB (m_book_text fs) t) = true
    · rw [if_pos h, if_pos h]
    · rw [if_neg h, if_neg h]
theorem odd_1 : m_told ⟨['#', '.', '\n', '#']⟩ = .inl refT := by rw [told_I]; decide +kernel
theorem odd_2 : m_told ⟨['#', '\n', '\n', '\n', '.']⟩ = .inl refT := by rw [told_I]; decide +kernel
theorem odd_3 : m_told (repX (⟨['.']⟩ : Tx) (13 : Int)) = .inl refT := by rw [told_I]; decide +kernel
theorem odd_4 : m_told (⟨(repX (⟨['.', '\n']⟩ : Tx) (12 : Int)).l ++ (⟨['.']⟩ : Tx).l⟩ : Tx) = .inl refT := by rw [told_I]; decide +kernel
theorem odd_5 : m_told (⟨['.', '#', '\n', '\n', '#', '\n', '.']⟩ : Tx) = .inr [T3.mk (2 : Int) (1 : Int) (Tup.mk [((1 : Int), (0 : Int))]), T3.mk (1 : Int) (2 : Int) (Tup.mk ([((0 : Int), (0 : Int))] : List (Cell)))] := by rw [told_I]; decide +kernel
theorem law_true (y : Scr) (_ : y.l.length ≤ 1000) : m_law y = true := by
  unfold m_law
  refine bnd_to fun fs hfs => ?_
  have F4 : ∀ f ∈ fs, Fl4 4 f := by rw [hfs]; exact fs_4
  have FN : fs ≠ [] := by rw [hfs]; exact fs_ne
  clear hfs
  refine bnd_to fun t ht => ?_
  have et : m_book_text fs = t := by
    rw [ht]
    have : fs.map (fun (f : Floor) => m_l_written f) = fs.map (fun (f : Floor) => m_written f) := List.map_congr_left fun f _ => lw_eq f
    rw [this]
    rfl
  clear ht
  have rt : m_told t = .inr fs := by
    unfold m_told
    rw [← et, rd_book FN fun f hf => (F4 f hf).ok]
  rw [et, rt, eqB_self, eqB_self, if_neg (by decide)]
  rw [forL_all fun k _ => ?_]
  · unfold LO.fin
    dsimp only
    refine bnd_to fun o h0 => ?_
    refine bnd_to fun o1 h1 => ?_
    have all : ∀ b ∈ o1, m_told b = .inl refT := fun b hb => by
      rw [h1, h0] at hb
      simp only [List.mem_append, List.mem_cons, List.not_mem_nil, or_false] at hb
      rcases hb with (h | h | h | h | h | h | h) | h | h | h
      · rw [h]; exact told_bad fun z => z.1 rfl
      · rw [h]; exact told_bad fun z => z.2.1 rfl
      · rw [h]; exact told_bad fun z => z.2.1 rfl
      · rw [h]
        refine told_bad fun z => z.2.2 ?_
        show (t.l ++ ['\n']).getLast? = _
        rw [List.getLast?_append]
        rfl
      · rw [h]
        refine told_bad fun z => z.2.2 ?_
        show (t.l ++ ['\n', '\n']).getLast? = _
        rw [List.getLast?_append]
        rfl
      · rw [h]; exact told_bad fun z => z.2.1 rfl
      · rw [h]; exact odd_1
      · rw [h]; exact odd_2
      · rw [h]; exact odd_3
      · rw [h]; exact odd_4
    have fe : o1.filter (fun (b : Tx) => !eqB (m_told b) (Sum.inl ((⟨['r', 'e', 'f', 'u', 's', 'e', 'd']⟩ : Tx), (0 : Int)) : Res)) = [] := List.filter_eq_nil_iff.mpr fun b hb => by
      rw [all b hb]
      show ¬ (!eqB (Sum.inl refT : Res) (Sum.inl refT)) = true
      rw [eqB_self]
      decide
    rw [fe, eqB_self, if_neg (by decide), odd_5]
    exact eqB_self _
  · unfold bnd
    dsimp only
    generalize (⟨(⟨(⟨cutL t.l none (some _)⟩ : Tx).l ++ _⟩ : Tx).l ++ _⟩ : Tx) = sp
    rcases told_cases sp with e | ⟨gs, e, j⟩
    · rw [e]
      have ne : eqB sp t = false := by
        cases q : eqB sp t with
        | false => rfl
        | true =>
          rw [eqB_iff.mp q, rt] at e
          cases e
      rw [ne, if_pos (show (Sum.inl refT : Res).isLeft = true from rfl)]
      have q : eqB (Sum.inl refT : Res) (Sum.inl ((⟨['r', 'e', 'f', 'u', 's', 'e', 'd']⟩ : Tx), (0 : Int))) = true := eqB_self _
      rw [q]
      exact if_neg (by decide)
    · rw [e, if_neg (show ¬ ((Sum.inr gs : Res).isLeft = true) from fun z => nomatch (show false = true from z))]
      have q : eqB (joinX (⟨['\n', '\n']⟩ : Tx) ((unR (Sum.inr gs : Res)).map (fun (f : Floor) => m_l_written f))) sp = true := by
        show eqB (joinX (⟨['\n', '\n']⟩ : Tx) (gs.map (fun (f : Floor) => m_l_written f))) sp = true
        rw [j, eqB_self]
      rw [q]
      exact if_neg (by decide)

end
theorem facts {P : Program} {w : World} {K : PySem.W.Frag} {h : Heap} {mg : Str → Option Value} {f : Addr} (X : K.In h) (Gn : h.Ns mainGlobals mg) (hfa : mg ("law" : Str) = some (.ref f)) (cx : G.SaysY exf fa fn tabs w K) :
    ∃ fd : FuncData, (∀ (s : Shared) (v : Value), BindsTo s fd ⟨[v], []⟩ [("_law_script", v)]) ∧ ∀ base : Heap, K.In base → base.Ns mainGlobals mg → FnOk P w K mg base (L2N.CX P w) 7 f fd ["_law_script"] (sp_law K) := by
  have c := cx.d
  have xe_NoText := G.kfExc_ok (cx.fact 0 (f := G.kfExc "NoText") rfl)
  have xv_NoText := G.kfIsT_ok (cx.fact 1 (f := G.kfIsT "NoText" "ValueError" true) rfl)
  have xi_NoText_NoText := G.kfIs_ok (cx.fact 2 (f := G.kfIs "NoText" "NoText" true) rfl)
  obtain ⟨fd0, F0⟩ := c.def_ 0 (d := d0) rfl
  have b0 := FunD.bindsN (ps := ["thing"]) F0 fun _ _ _ _ _ _ us hl => match us, hl with | [_], _ => rfl
  have g_is_whole := He.glo_ok X Gn (c.fact 5 (f := .glo "is_whole") rfl)
  obtain ⟨fd1, F1⟩ := c.def_ 1 (d := d1) rfl
  have b1 := FunD.bindsN (ps := ["thing"]) F1 fun _ _ _ _ _ _ us hl => match us, hl with | [_], _ => rfl
  have g_is_spot := He.glo_ok X Gn (c.fact 6 (f := .glo "is_spot") rfl)
  obtain ⟨fd2, F2⟩ := c.def_ 2 (d := d2) rfl
  have b2 := FunD.bindsN (ps := ["wide", "high", "spot"]) F2 fun _ _ _ _ _ _ us hl => match us, hl with | [_, _, _], _ => rfl
  have g_is_on := He.glo_ok X Gn (c.fact 7 (f := .glo "is_on") rfl)
  obtain ⟨fd3, F3⟩ := c.def_ 3 (d := d3) rfl
  have b3 := FunD.bindsN (ps := ["thing"]) F3 fun _ _ _ _ _ _ us hl => match us, hl with | [_], _ => rfl
  have g_is_side := He.glo_ok X Gn (c.fact 8 (f := .glo "is_side") rfl)
  obtain ⟨fd4, F4⟩ := c.def_ 4 (d := d4) rfl
  have b4 := FunD.bindsN (ps := ["thing"]) F4 fun _ _ _ _ _ _ us hl => match us, hl with | [_], _ => rfl
  have g_is_floor := He.glo_ok X Gn (c.fact 9 (f := .glo "is_floor") rfl)
  obtain ⟨fd5, F5⟩ := c.def_ 5 (d := d5) rfl
  have b5 := FunD.bindsN (ps := ["floor"]) F5 fun _ _ _ _ _ _ us hl => match us, hl with | [_], _ => rfl
  have g_written := He.glo_ok X Gn (c.fact 10 (f := .glo "written") rfl)
  obtain ⟨fd6, F6⟩ := c.def_ 6 (d := d6) rfl
  have b6 := FunD.bindsN (ps := ["text"]) F6 fun _ _ _ _ _ _ us hl => match us, hl with | [_], _ => rfl
  have g_read := He.glo_ok X Gn (c.fact 11 (f := .glo "read") rfl)
  obtain ⟨fd7, F7⟩ := c.def_ 7 (d := d7) rfl
  have b7 := FunD.bindsN (ps := ["floors"]) F7 fun _ _ _ _ _ _ us hl => match us, hl with | [_], _ => rfl
  have g_book_text := He.glo_ok X Gn (c.fact 12 (f := .glo "book_text") rfl)
  obtain ⟨fd8, F8⟩ := c.def_ 8 (d := d8) rfl
  have b8 := FunD.bindsN (ps := ["text"]) F8 fun _ _ _ _ _ _ us hl => match us, hl with | [_], _ => rfl
  have g_read_book := He.glo_ok X Gn (c.fact 13 (f := .glo "read_book") rfl)
  obtain ⟨fd9, F9⟩ := c.def_ 9 (d := d9) rfl
  have b9 := FunD.bindsN (ps := ["_law_script", "_law_k"]) F9 fun _ _ _ _ _ _ us hl => match us, hl with | [_, _], _ => rfl
  have g__law_cell := He.glo_ok X Gn (c.fact 14 (f := .glo "_law_cell") rfl)
  obtain ⟨fd10, F10⟩ := c.def_ 10 (d := d10) rfl
  have b10 := FunD.bindsN (ps := ["_law_script", "_law_k", "_law_many"]) F10 fun _ _ _ _ _ _ us hl => match us, hl with | [_, _, _], _ => rfl
  have g__law_drawn := He.glo_ok X Gn (c.fact 15 (f := .glo "_law_drawn") rfl)
  obtain ⟨fd11, F11⟩ := c.def_ 11 (d := d11) rfl
  have b11 := FunD.bindsN (ps := ["_law_script", "_law_at", "_law_most"]) F11 fun _ _ _ _ _ _ us hl => match us, hl with | [_, _, _], _ => rfl
  have g__law_floor := He.glo_ok X Gn (c.fact 16 (f := .glo "_law_floor") rfl)
  obtain ⟨fd12, F12⟩ := c.def_ 12 (d := d12) rfl
  have b12 := FunD.bindsN (ps := ["_law_floor_here"]) F12 fun _ _ _ _ _ _ us hl => match us, hl with | [_], _ => rfl
  have g__law_written := He.glo_ok X Gn (c.fact 17 (f := .glo "_law_written") rfl)
  obtain ⟨fd13, F13⟩ := c.def_ 13 (d := d13) rfl
  have b13 := FunD.bindsN (ps := ["_law_e"]) F13 fun _ _ _ _ _ _ us hl => match us, hl with | [_], _ => rfl
  have g__law_refused := He.glo_ok X Gn (c.fact 18 (f := .glo "_law_refused") rfl)
  obtain ⟨fd14, F14⟩ := c.def_ 14 (d := d14) rfl
  have b14 := FunD.bindsN (ps := ["_law_text"]) F14 fun _ _ _ _ _ _ us hl => match us, hl with | [_], _ => rfl
  have g__law_told := He.glo_ok X Gn (c.fact 19 (f := .glo "_law_told") rfl)
  obtain ⟨fd15, F15⟩ := c.def_ 15 (d := d15) rfl
  have b15 := FunD.bindsA (ps := ["_law_script"]) F15 fun _ _ _ _ _ _ us hl => match us, hl with | [_], _ => rfl
  have g_law := He.glo_ok X Gn (c.fact 20 (f := .glo "law") rfl)
  have m_ValueError := He.free_ok X Gn (c.fact 21 (f := .free "ValueError") rfl)
  have m_all := He.free_ok X Gn (c.fact 22 (f := .free "all") rfl)
  have m_bool := He.free_ok X Gn (c.fact 23 (f := .free "bool") rfl)
  have m_enumerate := He.free_ok X Gn (c.fact 24 (f := .free "enumerate") rfl)
  have m_int := He.free_ok X Gn (c.fact 25 (f := .free "int") rfl)
  have m_isinstance := He.free_ok X Gn (c.fact 26 (f := .free "isinstance") rfl)
  have m_len := He.free_ok X Gn (c.fact 27 (f := .free "len") rfl)
  have m_range := He.free_ok X Gn (c.fact 28 (f := .free "range") rfl)
  have m_sorted := He.free_ok X Gn (c.fact 29 (f := .free "sorted") rfl)
  have m_tuple := He.free_ok X Gn (c.fact 30 (f := .free "tuple") rfl)
  have m_zip := He.free_ok X Gn (c.fact 31 (f := .free "zip") rfl)
  have g_LampError := He.glo_ok X Gn (c.fact 0 (f := .glo "LampError") rfl)
  have x_LampError := He.exc_ok (c.fact 1 (f := .exc "LampError") rfl)
  have g_NoText := He.glo_ok X Gn (c.fact 2 (f := .glo "NoText") rfl)
  have x_NoText := He.exc_ok (c.fact 3 (f := .exc "NoText") rfl)
  have i_MOST_SIDE := He.int_ok X Gn (c.fact 4 (f := .int "MOST_SIDE" 12) rfl)
  have xm_LampError_LampError := He.exm_ok (c.fact 32 (f := .exm "LampError" "LampError" true) rfl)
  have xm_LampError_NoText := He.exm_ok (c.fact 33 (f := .exm "LampError" "NoText" false) rfl)
  have xm_NoText_LampError := He.exm_ok (c.fact 34 (f := .exm "NoText" "LampError" true) rfl)
  have xm_NoText_NoText := He.exm_ok (c.fact 35 (f := .exm "NoText" "NoText" true) rfl)
  have e := hfa.symm.trans g_law
  cases e
  refine ⟨fd15, fun s v => b15 s [v] rfl, fun base _ _ => ?_⟩
  have h__law_cell : FnG P w K mg base 1 "_law_cell" ["_law_script", "_law_k"] (sp_cell K) := ⟨_, _, ok__law_cell ⟨_, _, F9⟩ m_len, g__law_cell, F9.kp, b9⟩
  have h__law_drawn : FnG P w K mg base 2 "_law_drawn" ["_law_script", "_law_k", "_law_many"] (sp_drawn K) := ⟨_, _, ok__law_drawn ⟨_, _, F10⟩ h__law_cell, g__law_drawn, F10.kp, b10⟩
  have h__law_floor : FnG P w K mg base 3 "_law_floor" ["_law_script", "_law_at", "_law_most"] (sp__law_floor K) := ⟨_, _, ok__law_floor ⟨_, _, F11⟩ m_range m_tuple h__law_drawn, g__law_floor, F11.kp, b11⟩
  have h__law_written : FnG P w K mg base 1 "_law_written" ["_law_floor_here"] (sp__law_written K) := ⟨_, _, ok__law_written ⟨_, _, F12⟩ m_range, g__law_written, F12.kp, b12⟩
  have h_written : FnG P w K mg base 1 "written" ["floor"] (sp_written K) := ⟨_, _, ok_written ⟨_, _, F5⟩ m_range, g_written, F5.kp, b5⟩
  have h_book_text : FnG P w K mg base 2 "book_text" ["floors"] (sp_book_text K) := ⟨_, _, ok_book_text ⟨_, _, F7⟩ h_written, g_book_text, F7.kp, b7⟩
  have h__law_refused : FnRG P w K mg base 1 "_law_refused" "_law_e" "NoText" (enc refT) := ⟨_, _, okr__law_refused ⟨_, _, F13⟩ m_isinstance m_ValueError xe_NoText xv_NoText xi_NoText_NoText g_NoText, g__law_refused, F13.kp, b13⟩
  have h_is_whole : FnG P w K mg base 1 "is_whole" ["thing"] (sp_is_whole K) := ⟨_, _, ok_is_whole ⟨_, _, F0⟩ m_bool m_int m_isinstance, g_is_whole, F0.kp, b0⟩
  have h_is_side : FnG P w K mg base 2 "is_side" ["thing"] (sp_is_side K) := ⟨_, _, ok_is_side ⟨_, _, F3⟩ i_MOST_SIDE h_is_whole, g_is_side, F3.kp, b3⟩
  have h_is_spot : FnG P w K mg base 2 "is_spot" ["thing"] (sp_is_spot K) := ⟨_, _, ok_is_spot ⟨_, _, F1⟩ m_isinstance m_len m_tuple h_is_whole, g_is_spot, F1.kp, b1⟩
  have h_is_on : FnG P w K mg base 1 "is_on" ["wide", "high", "spot"] (sp_is_on K) := ⟨_, _, ok_is_on ⟨_, _, F2⟩, g_is_on, F2.kp, b2⟩
  have h_is_floor : FnG P w K mg base 3 "is_floor" ["thing"] (sp_is_floor K) := ⟨_, _, ok_is_floor ⟨_, _, F4⟩ m_all m_isinstance m_len m_tuple m_zip h_is_side h_is_spot h_is_on, g_is_floor, F4.kp, b4⟩
  have h_read : FnG P w K mg base 4 "read" ["text"] (sp_read K) := ⟨_, _, ok_read ⟨_, _, F6⟩ m_enumerate m_len m_sorted m_tuple x_NoText g_NoText h_is_floor h_written, g_read, F6.kp, b6⟩
  have h_read_book : FnG P w K mg base 5 "read_book" ["text"] (sp_read_book K) := ⟨_, _, ok_read_book ⟨_, _, F8⟩ x_NoText g_NoText h_read h_book_text, g_read_book, F8.kp, b8⟩
  have h__law_told : FnG P w K mg base 6 "_law_told" ["_law_text"] (sp__law_told K) := ⟨_, _, ok__law_told ⟨_, _, F14⟩ xm_NoText_LampError g_LampError h__law_refused h_read_book, g__law_told, F14.kp, b14⟩
  exact ok_law ⟨_, _, F15⟩ m_isinstance m_len m_range m_tuple h__law_drawn h__law_floor h__law_written h_book_text h__law_told
theorem law_sp {K : PySem.W.Frag} {H : Hp} {a : Addr} {ns : List Int} (hl : ns.length ≤ 63) (hS : SqL K H a (ns.map V.int)) : sp_law K [.ref a] H (fun v _ => v = .bl true) fun _ _ _ => False := by
  refine ⟨⟨ns⟩, H, [], WF.none (Ext.refl H), Owns.fros (ds := [enc (⟨ns⟩ : Scr)]) (.cons (.scr hS (Reps.ints ns)) .nil), by show ns.length ≤ 1000; omega, ?_⟩
  show RM.Post _ _ _ _ _ _ _ (rmF _ (oF (m_law ⟨ns⟩)))
  rw [law_true ⟨ns⟩ (show ns.length ≤ 1000 by omega)]
  intro v F' H' B A' w s ow ows
  cases ow with
  | fro r => cases r; rfl
end My
open PySem PySem.W PySem.Calls PyProof.Rows
theorem PySem.Challenge.cw_lampfloor_k91_books_holds : PySem.Challenge.rw_lampfloor_k91_books.Holds := by
  w_on; o_law
  refine HandSHeadRun.head_any (r := OpenLaw.row PySem.Challenge.rw_lampfloor_k91_books) (q := view (OpenLaw.row PySem.Challenge.rw_lampfloor_k91_books).prog [23]) (H := My.hk) (ob := My.ob) (M := 3000) (loose := My.names) (d := HandSHeadRun.topDef (OpenLaw.row PySem.Challenge.rw_lampfloor_k91_books).prog 23) (kwd := []) My.ob_eq
    (by kernel_rfl) (fun s => by kernel_rfl) My.run (by kernel_rfl) (by kernel_rfl) (by kernel_rfl) (by rfl) (by first | assumption | decide +kernel) (by decide +kernel) ⟨rfl, rfl, rfl, rfl, rfl, by decide +kernel⟩ ?hw ?hc
  case hw => w_witness2
  case hc =>
    refine LamX.walk_ofTsE (l := PySem.Challenge.rw_lampfloor_k91_books) (n := 63) (k := 7) (x := "_law_script") (CX := fun w => L2N.CX (PySem.Challenge.rw_lampfloor_k91_books).prog w) rfl (by decide) (by kernel_rfl) ⟨rfl, by decide, by decide⟩ ?F (fun _ _ _ _ _ ⟨_, _, _, _, _, _, _, _, _, _, _, _, z⟩ => z)
    intro w mg fa h Y Gn hmg0
    obtain ⟨K, KX, c⟩ := Y
    have hmg : mg ("law" : PySem.Str) = some (.ref fa) := by
      have e : (HandSHeadRun.topDef (OpenLaw.row PySem.Challenge.rw_lampfloor_k91_books).prog 23).name = ("law" : PySem.Str) := by kernel_rfl
      rw [← e]
      exact hmg0
    obtain ⟨fd, hb, hF⟩ := My.facts (P := (PySem.Challenge.rw_lampfloor_k91_books).prog) (w := w) KX Gn hmg c
    exact ⟨K, KX, fd, [], My.sp_law K, by simp, by simp, by simp, hb, fun H a ns hl _ _ hS => My.law_sp hl hS, fun base k1 k2 _ => hF base k1 k2⟩
