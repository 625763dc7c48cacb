import PyProof.Rows.All
import Wide.All
import OpenK.AllK
import Wide.FinOn
import HandS.ForMost
import HandS.Exc
import HandS.TryOnly
import HandS.ExcOwn
import HandS.ExcCtx
import HandS.HotCalls
import HandS.WordsExc
import HandS.HeadHook2
import KE.Datum
import KE.DatumOrd
import KE.DatumMore
import KE.DatumIndex
import KE.SortData
import HandS.TupAny
import HandS.Deep
import HandS.Walk
import HandS.RevRange
import HandS.IsInst
import HandS.TupSets
import PyProof.TupleOfSeq
import HandS.ExcValue
import HandS.ExcIs
import HandS.TryMany
import HandS.Zip
import HandS.Rev
import HandS.Style
import HandS.Dict
import HandS.More
import HandS.HeadHook3
import HandS.Text
import PyProof.PureStr
import KE.KDictDisplayH
import HandS.Conv
import HandS.Iter
import HandS.SetFor
import HandS.Strs
import HandS.NoneIn
import KE.KDictKeyed
import KE.KStateDown
import Lean
import HandS.Defaults
import HandS.Head0
import HandS.Head1
import HandS.Head2
import HandS.HeadEnd
import HandS.HeadWalk
import HandS.HeadHook1
import PySem.Challenge.RW_lampfloor_k41_whole_keeper
set_option Elab.async false
set_option linter.all false
set_option maxRecDepth 100000
set_option maxHeartbeats 0
namespace G
open PySem PySem.Spec PyProof.Rows L2

/-! ### data, and what a heap lays out -/
inductive D where
  | non | bl (b : Bool) | int (i : Int) | str (x : Str)
  | lst (ds : List D) | tup (ds : List D) | scr (ds : List D) | tk (ds : List D)
  | dt (ks : List (List Key)) (ds : List D) | dk (ks : List Key) (ds : List D)
  | ins (C : Addr) (ns : List Str) (ds : List D)
  | obj (a : Addr) | ty (n : String)
instance : Inhabited D := ⟨.non⟩

variable (K : PySem.W.Frag)
mutual
inductive Rep (F : Hp) : V → D → Prop
  | non : Rep F .non .non
  | bl {b} : Rep F (.bl b) (.bl b)
  | int {i} : Rep F (.int i) (.int i)
  | str {x} : Rep F (.str x) (.str x)
  | lst {a xs ds} : F a = some (.lst xs) → Reps F xs ds → Rep F (.ref a) (.lst ds)
  | scr {a xs ds} : SqL K F a xs → Reps F xs ds → Rep F (.ref a) (.scr ds)
  | tup {a xs ds} : F a = some (.tup xs) → Reps F xs ds → Rep F (.ref a) (.tup ds)
  | tk {a xs ds} : SqT K F a xs → Reps F xs ds → Rep F (.ref a) (.tk ds)
  | dt {a kvs ks ds} : F a = some (.dT kvs) → kvs.map (·.1) = ks → Reps F (kvs.map (·.2)) ds → Rep F (.ref a) (.dt ks ds)
  | dk {a kvs ks ds} : F a = some (.dK kvs) → kvs.map (·.1) = ks → Reps F (kvs.map (·.2)) ds → Rep F (.ref a) (.dk ks ds)
  | ins {a C dx fs ns ds} : F a = some (.ins C dx fs) → fs.map (·.1) = ns → Reps F (fs.map (·.2)) ds → Rep F (.ref a) (.ins C ns ds)
  | obj {a} : Rep F (.ref a) (.obj a)
  | ty {n} : Rep F (.ty n) (.ty n)
inductive Reps (F : Hp) : List V → List D → Prop
  | nil : Reps F [] []
  | cons {v d vs ds} : Rep F v d → Reps F vs ds → Reps F (v :: vs) (d :: ds)
end
def Ext (F F' : Hp) : Prop := ∀ a o, F a = some o → F' a = some o
variable {K}
theorem Ext.refl (F : Hp) : Ext F F := fun _ _ h => h
theorem Ext.trans {F F1 F2 : Hp} (a : Ext F F1) (b : Ext F1 F2) : Ext F F2 := fun x o h => b x o (a x o h)
theorem Ext.rd {F F' : Hp} {a : Addr} {u : HO} (e : Ext F F') (h : Rd F a u) : Rd F' a u := by
  rcases h with h | ⟨o, h⟩
  · exact .inl (e a _ h)
  · exact .inr ⟨o, e a _ h⟩
theorem Ext.l {F F' : Hp} {a : Addr} {xs : List V} (e : Ext F F') (h : SqL K F a xs) : SqL K F' a xs := h.imp e.rd id
theorem Ext.t {F F' : Hp} {a : Addr} {xs : List V} (e : Ext F F') (h : SqT K F a xs) : SqT K F' a xs := h.imp e.rd id
mutual
theorem Rep.mono {F F' : Hp} (e : Ext F F') : ∀ {v : V} {d : D}, Rep K F v d → Rep K F' v d
  | _, _, .non => .non
  | _, _, .bl => .bl
  | _, _, .int => .int
  | _, _, .str => .str
  | _, _, .lst h r => .lst (e _ _ h) (Reps.mono e r)
  | _, _, .scr h r => .scr (e.l h) (Reps.mono e r)
  | _, _, .tup h r => .tup (e _ _ h) (Reps.mono e r)
  | _, _, .tk h r => .tk (e.t h) (Reps.mono e r)
  | _, _, .dt h k r => .dt (e _ _ h) k (Reps.mono e r)
  | _, _, .dk h k r => .dk (e _ _ h) k (Reps.mono e r)
  | _, _, .ins h k r => .ins (e _ _ h) k (Reps.mono e r)
  | _, _, .obj => .obj
  | _, _, .ty => .ty
theorem Reps.mono {F F' : Hp} (e : Ext F F') : ∀ {vs : List V} {ds : List D}, Reps K F vs ds → Reps K F' vs ds
  | _, _, .nil => .nil
  | _, _, .cons h r => .cons (Rep.mono e h) (Reps.mono e r)
end
theorem Reps.length {F : Hp} : ∀ {vs : List V} {ds : List D}, Reps K F vs ds → vs.length = ds.length
  | _, _, .nil => rfl
  | _, _, .cons _ r => congrArg (· + 1) r.length
theorem Reps.get {F : Hp} : ∀ {vs : List V} {ds : List D} {i : Nat} {d : D}, Reps K F vs ds → ds[i]? = some d → ∃ v, vs[i]? = some v ∧ Rep K F v d
  | _, _, _, _, .nil, e => by simp at e
  | _, _, 0, _, .cons h _, e => by simp at e; subst e; exact ⟨_, rfl, h⟩
  | _, _, i + 1, d, .cons _ r, e => by
    obtain ⟨v, h1, h2⟩ := Reps.get (i := i) (d := d) r (by simpa using e)
    exact ⟨v, by simpa using h1, h2⟩
theorem Reps.get' {F : Hp} : ∀ {vs : List V} {ds : List D} {i : Nat} {v : V}, Reps K F vs ds → vs[i]? = some v → ∃ d, ds[i]? = some d ∧ Rep K F v d
  | _, _, _, _, .nil, e => by simp at e
  | _, _, 0, _, .cons h _, e => by simp at e; subst e; exact ⟨_, rfl, h⟩
  | _, _, i + 1, d, .cons _ r, e => by
    obtain ⟨v, h1, h2⟩ := Reps.get' (i := i) (v := d) r (by simpa using e)
    exact ⟨v, by simpa using h1, h2⟩
theorem Reps.append {F : Hp} : ∀ {vs ws : List V} {ds es : List D}, Reps K F vs ds → Reps K F ws es → Reps K F (vs ++ ws) (ds ++ es)
  | _, _, _, _, .nil, s => s
  | _, _, _, _, .cons h r, s => .cons h (r.append s)
theorem Reps.take {F : Hp} : ∀ {vs : List V} {ds : List D} (n : Nat), Reps K F vs ds → Reps K F (vs.take n) (ds.take n)
  | _, _, 0, _ => by rw [List.take_zero, List.take_zero]; exact .nil
  | _, _, _ + 1, .nil => .nil
  | _, _, n + 1, .cons h r => .cons h (r.take n)
theorem Reps.drop {F : Hp} : ∀ {vs : List V} {ds : List D} (n : Nat), Reps K F vs ds → Reps K F (vs.drop n) (ds.drop n)
  | _, _, 0, h => h
  | _, _, _ + 1, .nil => .nil
  | _, _, n + 1, .cons _ r => r.drop n
theorem Reps.reverse {F : Hp} : ∀ {vs : List V} {ds : List D}, Reps K F vs ds → Reps K F vs.reverse ds.reverse
  | _, _, .nil => .nil
  | _, _, .cons h r => by rw [List.reverse_cons, List.reverse_cons]; exact r.reverse.append (.cons h .nil)
theorem Reps.ints {F : Hp} : ∀ ns : List Int, Reps K F (ns.map V.int) (ns.map D.int)
  | [] => .nil
  | _ :: r => .cons .int (Reps.ints r)
theorem Reps.split {F : Hp} : ∀ {vs : List V} {ds es : List D}, Reps K F vs (ds ++ es) → ∃ v1 v2, vs = v1 ++ v2 ∧ Reps K F v1 ds ∧ Reps K F v2 es
  | vs, [], es, h => ⟨[], vs, rfl, .nil, h⟩
  | _, d :: ds, es, .cons h r => by
    obtain ⟨v1, v2, e, h1, h2⟩ := r.split
    exact ⟨_ :: v1, v2, by rw [e]; rfl, .cons h h1, h2⟩

/-! ### what is owned -/
inductive O where
  | fro (d : D)
  | lst (os : List O) | dt (ks : List (List Key)) (os : List O) | dk (ks : List Key) (os : List O)
  | ins (C : Addr) (ns : List Str) (os : List O)
instance : Inhabited O := ⟨.fro .non⟩
mutual
def O.d : O → D
  | .fro d => d
  | .lst os => .lst (O.ds os)
  | .dt ks os => .dt ks (O.ds os)
  | .dk ks os => .dk ks (O.ds os)
  | .ins C ns os => .ins C ns (O.ds os)
def O.ds : List O → List D
  | [] => []
  | o :: os => o.d :: O.ds os
end
variable (K)
mutual
inductive Own (F H : Hp) : V → O → List Addr → Prop
  | fro {v d} : Rep K F v d → Own F H v (.fro d) []
  | lst {a xs os A} : H a = some (.lst xs) → Owns F H xs os A → Own F H (.ref a) (.lst os) (a :: A)
  | dt {a kvs ks os A} : H a = some (.dT kvs) → kvs.map (·.1) = ks → Owns F H (kvs.map (·.2)) os A → Own F H (.ref a) (.dt ks os) (a :: A)
  | dk {a kvs ks os A} : H a = some (.dK kvs) → kvs.map (·.1) = ks → Owns F H (kvs.map (·.2)) os A → Own F H (.ref a) (.dk ks os) (a :: A)
  | ins {a C dx fs ns os A} : H a = some (.ins C dx fs) → fs.map (·.1) = ns → Owns F H (fs.map (·.2)) os A → Own F H (.ref a) (.ins C ns os) (a :: A)
inductive Owns (F H : Hp) : List V → List O → List Addr → Prop
  | nil : Owns F H [] [] []
  | cons {v o vs os A B} : Own F H v o A → Owns F H vs os B → Owns F H (v :: vs) (o :: os) (A ++ B)
end
variable {K}
/-- nothing, or a tuple -/
def Imm : Option HO → Prop
  | none => True
  | some (.tup _) => True
  | some _ => False
theorem imm_none {o : Option HO} (h : o = none) : Imm o := by subst h; trivial
theorem imm_tup {o : Option HO} {xs : List V} (h : o = some (.tup xs)) : Imm o := by subst h; trivial
/-- F is the frozen part of H; A the owned addresses -/
structure WF (F H : Hp) (A : List Addr) : Prop where
  sub : Ext F H
  nd : A.Nodup
  off : ∀ a ∈ A, F a = none
  on : ∀ a ∈ A, ¬ Imm (H a)
/-- from (F, H, A) on to (F', H', A') -/
structure Stp (F H : Hp) (A : List Addr) (F' H' : Hp) (A' : List Addr) : Prop where
  fs : Ext F F'
  keep : ∀ a o, H a = some o → a ∉ A → H' a = some o
  new : ∀ a o, F' a = some o → F a = some o ∨ a ∈ A ∨ Imm (H a)
  foot : ∀ a ∈ A', a ∈ A ∨ H a = none
  alive : ∀ a, H' a = none → H a = none
theorem Stp.refl {F H : Hp} {A : List Addr} : Stp F H A F H A := ⟨Ext.refl F, fun _ _ h _ => h, fun _ _ h => .inl h, fun _ h => .inl h, fun _ h => h⟩
theorem Stp.trans {F H F1 H1 F2 H2 : Hp} {A A1 A2 : List Addr} (s : Stp F H A F1 H1 A1) (t : Stp F1 H1 A1 F2 H2 A2) : Stp F H A F2 H2 A2 where
  fs := s.fs.trans t.fs
  keep := fun a o h n => t.keep a o (s.keep a o h n) fun h1 => by
    rcases s.foot a h1 with q | q
    · exact n q
    · rw [h] at q; cases q
  new := fun a o h => by
    rcases t.new a o h with q | q | q
    · exact s.new a o q
    · rcases s.foot a q with z | z
      · exact .inr (.inl z)
      · exact .inr (.inr (imm_none z))
    · by_cases n : a ∈ A
      · exact .inr (.inl n)
      · cases e : H a with
        | none => exact .inr (.inr trivial)
        | some u => rw [s.keep a u e n] at q; exact .inr (.inr q)
  foot := fun a h => by
    rcases t.foot a h with q | q
    · exact s.foot a q
    · exact .inr (s.alive a q)
  alive := fun a h => s.alive a (t.alive a h)
theorem Stp.held {F H F1 H1 : Hp} {A B : List Addr} (s : Stp F H A F1 H1 B) {x : Addr} (hx : x ∉ A) (w : ¬ Imm (H x)) : ¬ Imm (H1 x) := by
  intro z
  cases e : H x with
  | none => exact w (imm_none e)
  | some u => rw [s.keep x u e hx] at z; exact w (by rw [e]; exact z)
theorem Stp.perm {F H F1 H1 : Hp} {A A' B B' : List Addr} (s : Stp F H A F1 H1 B) (e : ∀ a, a ∈ A ↔ a ∈ A') (e' : ∀ a, a ∈ B' → a ∈ B) : Stp F H A' F1 H1 B' :=
  ⟨s.fs, fun a o h n => s.keep a o h fun q => n ((e a).1 q), fun a o h => (s.new a o h).imp id (Or.imp (e a).1 id), fun a h => (s.foot a (e' a h)).imp (e a).1 id, s.alive⟩
/-- a step that touches less -/
theorem Stp.mono {F H F1 H1 : Hp} {A A' B : List Addr} (s : Stp F H A F1 H1 B) (e : ∀ a, a ∈ A → a ∈ A') : Stp F H A' F1 H1 B :=
  ⟨s.fs, fun a o h n => s.keep a o h fun q => n (e a q), fun a o h => (s.new a o h).imp id (Or.imp (e a) id), fun a h => (s.foot a h).imp (e a) id, s.alive⟩
theorem Stp.more {F H F1 H1 : Hp} {A B C : List Addr} (s : Stp F H A F1 H1 B) (e : ∀ a ∈ C, a ∈ A ∨ H a = none) : Stp F H A F1 H1 (B ++ C) :=
  ⟨s.fs, s.keep, s.new, fun a h => (List.mem_append.mp h).elim (s.foot a) (e a), s.alive⟩
theorem WF.perm {F H : Hp} {A A' : List Addr} (w : WF F H A) (e : A.Perm A') : WF F H A' :=
  ⟨w.sub, e.nodup_iff.mp w.nd, fun a h => w.off a (e.mem_iff.mpr h), fun a h => w.on a (e.mem_iff.mpr h)⟩
theorem WF.left {F H : Hp} {A B : List Addr} (w : WF F H (A ++ B)) : WF F H A :=
  ⟨w.sub, (List.nodup_append.mp w.nd).1, fun a h => w.off a (List.mem_append_left _ h), fun a h => w.on a (List.mem_append_left _ h)⟩
theorem WF.right {F H : Hp} {A B : List Addr} (w : WF F H (A ++ B)) : WF F H B :=
  ⟨w.sub, (List.nodup_append.mp w.nd).2.1, fun a h => w.off a (List.mem_append_right _ h), fun a h => w.on a (List.mem_append_right _ h)⟩
theorem WF.dis {F H : Hp} {A B : List Addr} (w : WF F H (A ++ B)) {a : Addr} (h : a ∈ A) : a ∉ B := fun h2 => (List.nodup_append.mp w.nd).2.2 a h a h2 rfl
theorem WF.none {F H : Hp} (h : Ext F H) : WF F H [] := ⟨h, List.nodup_nil, by simp, by simp⟩
mutual
theorem Own.mono {F H F' H' : Hp} {S : List Addr} (e : Ext F F') (k : ∀ a o, H a = some o → a ∈ S → H' a = some o) : ∀ {v : V} {o : O} {B : List Addr}, Own K F H v o B → (∀ b ∈ B, b ∈ S) → Own K F' H' v o B
  | _, _, _, .fro h, _ => .fro (h.mono e)
  | _, _, _, .lst h r, s => .lst (k _ _ h (s _ List.mem_cons_self)) (Owns.mono e k r fun b hb => s b (List.mem_cons_of_mem _ hb))
  | _, _, _, .dt h q r, s => .dt (k _ _ h (s _ List.mem_cons_self)) q (Owns.mono e k r fun b hb => s b (List.mem_cons_of_mem _ hb))
  | _, _, _, .dk h q r, s => .dk (k _ _ h (s _ List.mem_cons_self)) q (Owns.mono e k r fun b hb => s b (List.mem_cons_of_mem _ hb))
  | _, _, _, .ins h q r, s => .ins (k _ _ h (s _ List.mem_cons_self)) q (Owns.mono e k r fun b hb => s b (List.mem_cons_of_mem _ hb))
theorem Owns.mono {F H F' H' : Hp} {S : List Addr} (e : Ext F F') (k : ∀ a o, H a = some o → a ∈ S → H' a = some o) : ∀ {vs : List V} {os : List O} {B : List Addr}, Owns K F H vs os B → (∀ b ∈ B, b ∈ S) → Owns K F' H' vs os B
  | _, _, _, .nil, _ => .nil
  | _, _, _, .cons h r, s => .cons (Own.mono e k h fun b hb => s b (List.mem_append_left _ hb)) (Owns.mono e k r fun b hb => s b (List.mem_append_right _ hb))
end
mutual
/-- what is owned is laid out -/
theorem Own.rep {F H : Hp} (e : Ext F H) : ∀ {v : V} {o : O} {B : List Addr}, Own K F H v o B → Rep K H v o.d
  | _, _, _, .fro h => h.mono e
  | _, _, _, .lst h r => .lst h (Owns.rep e r)
  | _, _, _, .dt h q r => .dt h q (Owns.rep e r)
  | _, _, _, .dk h q r => .dk h q (Owns.rep e r)
  | _, _, _, .ins h q r => .ins h q (Owns.rep e r)
theorem Owns.rep {F H : Hp} (e : Ext F H) : ∀ {vs : List V} {os : List O} {B : List Addr}, Owns K F H vs os B → Reps K H vs (O.ds os)
  | _, _, _, .nil => .nil
  | _, _, _, .cons h r => .cons (Own.rep e h) (Owns.rep e r)
end
theorem Owns.length {F H : Hp} : ∀ {vs : List V} {os : List O} {B : List Addr}, Owns K F H vs os B → vs.length = os.length
  | _, _, _, .nil => rfl
  | _, _, _, .cons _ r => congrArg (· + 1) r.length
/-- all items frozen -/
theorem Owns.fros {F H : Hp} : ∀ {vs : List V} {ds : List D}, Reps K F vs ds → Owns K F H vs (ds.map O.fro) []
  | _, _, .nil => .nil
  | _, _, .cons h r => .cons (A := []) (B := []) (.fro h) (Owns.fros r)
theorem Owns.fros_inv {F H : Hp} : ∀ {vs : List V} {ds : List D} {B : List Addr}, Owns K F H vs (ds.map O.fro) B → Reps K F vs ds ∧ B = []
  | [], [], _, h => by cases h; exact ⟨.nil, rfl⟩
  | _, d :: ds, _, h => by
    cases h with
    | cons h r =>
      cases h with
      | fro h =>
        obtain ⟨q, e⟩ := Owns.fros_inv r
        subst e
        exact ⟨.cons h q, rfl⟩
  | _ :: _, [], _, h => by cases h
theorem ds_fros : ∀ ds : List D, O.ds (ds.map O.fro) = ds
  | [] => by simp [O.ds]
  | d :: ds => by simp [O.ds, O.d, ds_fros ds]
/-- the owned addresses B are frozen -/
def frz (F H : Hp) (B : List Addr) : Hp := fun a => if a ∈ B then H a else F a
theorem frz_ext {F H : Hp} {B : List Addr} (h : ∀ b ∈ B, F b = none) : Ext F (frz F H B) := fun a o e => by
  unfold frz
  by_cases q : a ∈ B
  · rw [h a q] at e; cases e
  · rw [if_neg q]; exact e
theorem frz_in {F H : Hp} {B : List Addr} {a : Addr} (h : a ∈ B) : frz F H B a = H a := by unfold frz; rw [if_pos h]
theorem frz_out {F H : Hp} {B : List Addr} {a : Addr} (h : a ∉ B) : frz F H B a = F a := by unfold frz; rw [if_neg h]
theorem frz_wf {F H : Hp} {B A : List Addr} (w : WF F H (B ++ A)) : WF (frz F H B) H A where
  sub := fun a o e => by
    by_cases q : a ∈ B
    · rw [frz_in q] at e; exact e
    · rw [frz_out q] at e; exact w.sub a o e
  nd := w.right.nd
  off := fun a h => by rw [frz_out fun q => w.dis q h]; exact w.right.off a h
  on := w.right.on
theorem frz_stp {F H : Hp} {B A : List Addr} (w : WF F H (B ++ A)) : Stp F H (B ++ A) (frz F H B) H A where
  fs := frz_ext w.left.off
  keep := fun _ _ h _ => h
  new := fun a o e => by
    by_cases q : a ∈ B
    · exact .inr (.inl (List.mem_append_left _ q))
    · rw [frz_out q] at e; exact .inl e
  foot := fun a h => .inl (List.mem_append_right _ h)
  alive := fun _ h => h
mutual
theorem Own.frz {F H : Hp} {S : List Addr} (e : Ext F (G.frz F H S)) : ∀ {v : V} {o : O} {B : List Addr}, Own K F H v o B → (∀ b ∈ B, b ∈ S) → Rep K (G.frz F H S) v o.d
  | _, _, _, .fro h, _ => h.mono e
  | _, _, _, .lst h r, s => .lst ((frz_in (s _ List.mem_cons_self)).trans h) (Owns.frz e r fun b hb => s b (List.mem_cons_of_mem _ hb))
  | _, _, _, .dt h q r, s => .dt ((frz_in (s _ List.mem_cons_self)).trans h) q (Owns.frz e r fun b hb => s b (List.mem_cons_of_mem _ hb))
  | _, _, _, .dk h q r, s => .dk ((frz_in (s _ List.mem_cons_self)).trans h) q (Owns.frz e r fun b hb => s b (List.mem_cons_of_mem _ hb))
  | _, _, _, .ins h q r, s => .ins ((frz_in (s _ List.mem_cons_self)).trans h) q (Owns.frz e r fun b hb => s b (List.mem_cons_of_mem _ hb))
theorem Owns.frz {F H : Hp} {S : List Addr} (e : Ext F (G.frz F H S)) : ∀ {vs : List V} {os : List O} {B : List Addr}, Owns K F H vs os B → (∀ b ∈ B, b ∈ S) → Reps K (G.frz F H S) vs (O.ds os)
  | _, _, _, .nil, _ => .nil
  | _, _, _, .cons h r, s => .cons (Own.frz e h fun b hb => s b (List.mem_append_left _ hb)) (Owns.frz e r fun b hb => s b (List.mem_append_right _ hb))
end

/-! ### slots -/
abbrev Env := List (Option O)
variable (K)
inductive Envs (F H : Hp) : L2.St → Env → List Addr → Prop
  | nil : Envs F H [] [] []
  | no {x σ ρ A} : Envs F H σ ρ A → Envs F H (x :: σ) (none :: ρ) A
  | so {v o σ ρ B A} : Own K F H v o B → Envs F H σ ρ A → Envs F H (some v :: σ) (some o :: ρ) (B ++ A)
variable {K}
theorem Envs.mono {F H F' H' : Hp} {S : List Addr} (e : Ext F F') (k : ∀ a o, H a = some o → a ∈ S → H' a = some o) : ∀ {σ : L2.St} {ρ : Env} {A : List Addr}, Envs K F H σ ρ A → (∀ b ∈ A, b ∈ S) → Envs K F' H' σ ρ A
  | _, _, _, .nil, _ => .nil
  | _, _, _, .no r, s => .no (r.mono e k s)
  | _, _, _, .so h r, s => .so (h.mono e k fun b hb => s b (List.mem_append_left _ hb)) (r.mono e k fun b hb => s b (List.mem_append_right _ hb))
theorem Envs.length {F H : Hp} : ∀ {σ : L2.St} {ρ : Env} {A : List Addr}, Envs K F H σ ρ A → σ.length = ρ.length
  | _, _, _, .nil => rfl
  | _, _, _, .no r => congrArg (· + 1) r.length
  | _, _, _, .so _ r => congrArg (· + 1) r.length
/-- slot i out -/
theorem Envs.get {F H : Hp} : ∀ {σ : L2.St} {ρ : Env} {A : List Addr} {i : Nat} {o : O}, Envs K F H σ ρ A → ρ[i]? = some (some o) →
    ∃ v B A', σ[i]? = some (some v) ∧ Own K F H v o B ∧ Envs K F H σ (ρ.set i none) A' ∧ A.Perm (B ++ A')
  | _, _, _, _, _, .nil, e => by simp at e
  | _, _, _, 0, _, .no _, e => by simp at e
  | _, _, _, i + 1, o, .no r, e => by
    obtain ⟨v, B, A', h1, h2, h3, h4⟩ := r.get (i := i) (o := o) (by simpa using e)
    exact ⟨v, B, A', by simpa using h1, h2, .no h3, h4⟩
  | _, _, _, 0, o, .so h r, e => by
    simp at e; subst e
    exact ⟨_, _, _, rfl, h, .no r, .refl _⟩
  | _, _, _, i + 1, o, .so (B := B0) h r, e => by
    obtain ⟨v, B, A', h1, h2, h3, h4⟩ := r.get (i := i) (o := o) (by simpa using e)
    refine ⟨v, B, _, by simpa using h1, h2, .so h h3, ?_⟩
    refine (List.Perm.append_left B0 h4).trans ?_
    rw [← List.append_assoc, ← List.append_assoc]
    exact List.Perm.append_right A' List.perm_append_comm
/-- slot i forgotten -/
theorem Envs.drop {F H : Hp} : ∀ {σ : L2.St} {ρ : Env} {A : List Addr} (i : Nat), Envs K F H σ ρ A → ∃ B A', Envs K F H σ (ρ.set i none) A' ∧ A.Perm (B ++ A')
  | _, _, _, _, .nil => ⟨[], [], .nil, .refl _⟩
  | _, _, _, 0, .no r => ⟨[], _, .no r, .refl _⟩
  | _, _, _, i + 1, .no r => by
    obtain ⟨B, A', h1, h2⟩ := r.drop i
    exact ⟨B, A', .no h1, h2⟩
  | _, _, _, 0, .so (B := B) h r => ⟨B, _, .no r, .refl _⟩
  | _, _, _, i + 1, .so (B := B0) h r => by
    obtain ⟨B, A', h1, h2⟩ := r.drop i
    refine ⟨B, _, .so h h1, (List.Perm.append_left B0 h2).trans ?_⟩
    rw [← List.append_assoc, ← List.append_assoc]
    exact List.Perm.append_right A' List.perm_append_comm
/-- slot i in, where nothing is known -/
theorem Envs.put {F H : Hp} {v : V} {o : O} {B : List Addr} (h : Own K F H v o B) : ∀ {σ : L2.St} {ρ : Env} {A : List Addr} {i : Nat}, Envs K F H σ ρ A → ρ[i]? = some none → ∃ A', Envs K F H (σ.set i (some v)) (ρ.set i (some o)) A' ∧ A'.Perm (B ++ A)
  | _, _, _, _, .nil, e => by simp at e
  | _, _, _, 0, .no r, _ => ⟨_, .so h r, .refl _⟩
  | _, _, _, i + 1, .no r, e => by
    obtain ⟨A', h1, h2⟩ := r.put h (i := i) (by simpa using e)
    exact ⟨A', .no h1, h2⟩
  | _, _, _, 0, .so _ _, e => by simp at e
  | _, _, _, i + 1, .so (B := B0) g r, e => by
    obtain ⟨A', h1, h2⟩ := r.put h (i := i) (by simpa using e)
    refine ⟨_, .so g h1, (List.Perm.append_left B0 h2).trans ?_⟩
    rw [← List.append_assoc, ← List.append_assoc]
    exact List.Perm.append_right _ List.perm_append_comm
/-- what slot i was is put back: the very value -/
theorem Envs.back {F H : Hp} {v : V} {o : O} {B : List Addr} (h : Own K F H v o B) : ∀ {σ : L2.St} {ρ : Env} {A : List Addr} {i : Nat}, Envs K F H σ ρ A → ρ[i]? = some none → σ[i]? = some (some v) → ∃ A', Envs K F H σ (ρ.set i (some o)) A' ∧ A'.Perm (B ++ A)
  | _, _, _, _, .nil, e, _ => by simp at e
  | _, _, _, 0, .no r, _, z => by
    simp at z; subst z
    exact ⟨_, .so h r, .refl _⟩
  | _, _, _, i + 1, .no r, e, z => by
    obtain ⟨A', h1, h2⟩ := r.back h (i := i) (by simpa using e) (by simpa using z)
    exact ⟨A', .no h1, h2⟩
  | _, _, _, 0, .so _ _, e, _ => by simp at e
  | _, _, _, i + 1, .so (B := B0) g r, e, z => by
    obtain ⟨A', h1, h2⟩ := r.back h (i := i) (by simpa using e) (by simpa using z)
    refine ⟨_, .so g h1, (List.Perm.append_left B0 h2).trans ?_⟩
    rw [← List.append_assoc, ← List.append_assoc]
    exact List.Perm.append_right _ List.perm_append_comm
/-- another value in a slot of which nothing is known -/
theorem Envs.any {F H : Hp} {x : Option V} : ∀ {σ : L2.St} {ρ : Env} {A : List Addr} {i : Nat}, Envs K F H σ ρ A → ρ[i]? = some none → Envs K F H (σ.set i x) ρ A
  | _, _, _, _, .nil, _ => .nil
  | _, _, _, 0, .no r, _ => .no r
  | _, _, _, i + 1, .no r, e => .no (r.any (i := i) (by simpa using e))
  | _, _, _, 0, .so _ _, e => by simp at e
  | _, _, _, i + 1, .so g r, e => .so g (r.any (i := i) (by simpa using e))
theorem Envs.fros {F H : Hp} : ∀ {vs : List V} {ds : List D} (n : Nat), Reps K F vs ds → Envs K F H (vs.map some ++ List.replicate n none) (ds.map (fun d => some (.fro d)) ++ List.replicate n none) []
  | _, _, 0, .nil => .nil
  | _, _, n + 1, .nil => .no (Envs.fros n .nil)
  | _, _, n, .cons h r => .so (B := []) (A := []) (.fro h) (Envs.fros n r)
theorem Envs.owns {F H : Hp} : ∀ {vs : List V} {os : List O} {A : List Addr} (n : Nat), Owns K F H vs os A → Envs K F H (vs.map some ++ List.replicate n none) (os.map some ++ List.replicate n none) A
  | _, _, _, 0, .nil => .nil
  | _, _, _, n + 1, .nil => .no (Envs.owns n .nil)
  | _, _, _, n, .cons h r => .so h (Envs.owns n r)
end G

namespace G
open PySem PySem.Spec PyProof.Rows L2
open PySem.W (Datum DatumOrd Tup T3)

/-! ### typed data, as the heap lays it out -/
class Enc (α : Type) [DecidableEq α] [Datum α] where
  enc : α → D
  dp : ∀ (K : PySem.W.Frag) (F : Hp) (v : V) (x : α), Rep K F v (enc x) → Dp K F v (Datum.toD x)
open Enc (enc)
section
variable {α β γ : Type} [DecidableEq α] [Datum α] [Enc α] [DecidableEq β] [Datum β] [Enc β] [DecidableEq γ] [Datum γ] [Enc γ]
theorem dp_all {K : PySem.W.Frag} {F : Hp} : ∀ (xs : List α) (vs : List V), Reps K F vs (xs.map enc) → DpAll K F vs (xs.map Datum.toD)
  | [], _, h => by cases h; exact .nil
  | x :: xs, _, h => by cases h with | cons h r => exact .cons (Enc.dp _ _ _ x h) (dp_all xs _ r)
instance : Enc Int := ⟨.int, fun _ _ _ _ h => by cases h; exact .int _⟩
instance : Enc Bool := ⟨.bl, fun _ _ _ _ h => by cases h; exact .bl _⟩
instance : Enc Str := ⟨.str, fun _ _ _ _ h => by cases h; exact .str _⟩
instance : Enc Unit := ⟨fun _ => .non, fun _ _ _ _ h => by cases h; exact .non⟩
instance : Enc (List α) := ⟨fun xs => .lst (xs.map enc), fun _ _ _ xs h => by cases h with | lst h r => exact .lst (.of h) (dp_all xs _ r)⟩
instance : Enc (Tup α) := ⟨fun xs => .tup (xs.items.map enc), fun _ _ _ xs h => by cases h with | tup h r => exact .tup (.of h) (dp_all xs.items _ r)⟩
instance : Enc (α × β) := ⟨fun p => .tup [enc p.1, enc p.2], fun _ _ _ p h => by
  cases h with
  | tup h r =>
    cases r with
    | cons h1 r =>
      cases r with
      | cons h2 r => cases r; exact .tup (.of h) (.cons (Enc.dp _ _ _ _ h1) (.cons (Enc.dp _ _ _ _ h2) .nil))⟩
instance : Enc (T3 α β γ) := ⟨fun p => .tup [enc p.a, enc p.b, enc p.c], fun _ _ _ p h => by
  cases h with
  | tup h r =>
    cases r with
    | cons h1 r =>
      cases r with
      | cons h2 r =>
        cases r with
        | cons h3 r => cases r; exact .tup (.of h) (.cons (Enc.dp _ _ _ _ h1) (.cons (Enc.dp _ _ _ _ h2) (.cons (Enc.dp _ _ _ _ h3) .nil)))⟩
instance [PySem.W.SomeDatum α] : Enc (Option α) := ⟨fun | none => .non | some x => enc x, fun K F v x h => by
  cases x with
  | none => cases h; exact .non
  | some x => exact Enc.dp _ _ _ x h⟩
/-- kinds that are never equal -/
class Apart (α β : Type) [DecidableEq α] [Datum α] [DecidableEq β] [Datum β] : Prop where
  ne : ∀ (x : α) (y : β), PyData.eqv (Datum.toD x) (Datum.toD y) = false
  ne' : ∀ (x : α) (y : β), PyData.eqv (Datum.toD y) (Datum.toD x) = false
instance [h : Apart α β] : Datum (α ⊕ β) where
  toD := fun | .inl x => Datum.toD x | .inr y => Datum.toD y
  plain := fun | .inl x => Datum.plain x | .inr y => Datum.plain y
  eqv := fun
    | .inl x, .inl y => by simp only [Datum.eqv, Sum.inl.injEq]
    | .inr x, .inr y => by simp only [Datum.eqv, Sum.inr.injEq]
    | .inl x, .inr y => by simp only [h.ne]; exact (decide_eq_false (by simp)).symm
    | .inr x, .inl y => by simp only [h.ne']; exact (decide_eq_false (by simp)).symm
  depth := max (Datum.depth α) (Datum.depth β)
  depth_le := fun
    | .inl x => Nat.le_trans (Datum.depth_le x) (Nat.le_max_left _ _)
    | .inr x => Nat.le_trans (Datum.depth_le x) (Nat.le_max_right _ _)
instance [Apart α β] : Enc (α ⊕ β) := ⟨fun | .inl x => enc x | .inr y => enc y, fun K F v x h => by
  cases x with
  | inl x => exact Enc.dp _ _ _ x h
  | inr x => exact Enc.dp _ _ _ x h⟩
end
/-- the script -/
structure Scr where
  l : List Int
  deriving DecidableEq
instance : Datum Scr where
  toD xs := .list (xs.l.map Datum.toD)
  plain xs := Datum.plain xs.l
  eqv xs ys := by
    have h := Datum.eqv xs.l ys.l
    obtain ⟨xs⟩ := xs; obtain ⟨ys⟩ := ys
    rw [show (decide ((⟨xs⟩ : Scr) = ⟨ys⟩)) = decide (xs = ys) from decide_eq_decide.mpr (by simp)]
    exact h
  depth := 1
  depth_le xs := Datum.depth_le xs.l
instance : Enc Scr := ⟨fun xs => .scr (xs.l.map enc), fun _ _ _ xs h => by cases h with | scr h r => exact .lst h (dp_all xs.l _ r)⟩
/-- a text, sign by sign -/
structure Tx where
  l : List Char
  deriving DecidableEq
instance : Inhabited Tx := ⟨⟨[]⟩⟩
def Tx.s (t : Tx) : Str := ⟨(t.l.map Char.toNat).toArray⟩
theorem nat_inj {c d : Char} (h : c.toNat = d.toNat) : c = d := by
  have h1 : c.val.toNat = d.val.toNat := h
  exact Char.ext (UInt32.toNat_inj.mp h1)
theorem Tx.s_inj {t u : Tx} (h : t.s = u.s) : t = u := by
  obtain ⟨t⟩ := t; obtain ⟨u⟩ := u
  have h1 : (t.map Char.toNat).toArray = (u.map Char.toNat).toArray := Str.mk.inj h
  have h2 : t.map Char.toNat = u.map Char.toNat := by simpa using congrArg Array.toList h1
  have h3 : ∀ (t u : List Char), t.map Char.toNat = u.map Char.toNat → t = u := by
    intro t
    induction t with
    | nil => intro u h; cases u with
      | nil => rfl
      | cons _ _ => cases h
    | cons c t ih => intro u h; cases u with
      | nil => cases h
      | cons d u =>
        rw [List.map_cons, List.map_cons] at h
        injection h with a b
        rw [nat_inj a, ih u b]
  rw [h3 t u h2]
instance : Datum Tx where
  toD t := .str t.s
  plain _ := rfl
  eqv x y := by
    simp only [PyData.eqv, Bool.beq_eq_decide_eq]
    by_cases h : x = y
    · simp [h]
    · rw [decide_eq_false h, decide_eq_false fun e => h (Tx.s_inj e)]
  depth := 0
  depth_le _ := Nat.le_refl _
instance : Enc Tx := ⟨fun t => .str t.s, fun _ _ _ _ h => by cases h; exact .str _⟩
instance : PySem.W.SomeDatum Tx := ⟨fun _ => by show PyData.eqv .none (.str _) = false; simp only [PyData.eqv], fun _ => by show PyData.eqv (.str _) .none = false; simp only [PyData.eqv]⟩
end G

namespace G
open PySem PySem.Spec PyProof.Rows L2
open Enc (enc)

/-! ### where a piece of code stands -/
structure Sig where
  P : Program
  w : World
  K : PySem.W.Frag
  mg : Str → Option Value
  base : Heap
  N : List Str
  scope : Scope
  kk : Nat
  wx : WX
  st : Str → Bool
  calm : Bool
  hot : Option (Addr × Str)
  top : Bool
class Calm (S : Sig) : Prop where
  h : S.calm = true
structure Rest where
  A : Around
  s_0 : Shared
  H_0 : Hp
  env : PySem.Env
  outer : List PySem.Env
  stack : List PySem.Env
  ex : List Addr
  fn : Str → Bool
  pn : List (Addr × Obj)
  xe : Value → Shared → Prop
@[reducible] def Sig.cx (S : Sig) (q : Rest) : Cx where
  prog := S.P
  w := S.w
  K := S.K
  mg := S.mg
  base := S.base
  A := q.A
  N := S.N
  s_0 := q.s_0
  H_0 := q.H_0
  env := { q.env with scope := S.scope }
  outer := q.outer
  stack := q.stack
  ex := q.ex
  fn := q.fn
  calm := S.calm
  pn := q.pn
  xe := q.xe
structure Sig.Ok (S : Sig) (q : Rest) : Prop where
  room : L2H.RoomH S.kk q.A
  hd : S.calm = true → q.A.handled = none
  hot : ∀ a y, S.hot = some (a, y) → q.A.handled = some (.ref a) ∧ ∃ oe, (a, oe) ∈ q.pn ∧ L2N.Zn (.ref (He.ga S.K y)) none oe ∧ ∃ vs, oe.data = .fields vs
  top : S.top = true → q.stack = { q.env with scope := S.scope } :: q.outer ∧ q.env.frame = some q.env.locals
  tk : L2N.Takes (S.cx q) S.wx
  fn : ∀ x, S.st x = true → q.fn x = true
  nd : S.N.Nodup
  po : PassesOwn (model S.P S.w) q.A { q.env with scope := S.scope } q.xe

theorem Sig.Ok.calm {S : Sig} {q : Rest} (ok : S.Ok q) (hc : S.calm = true) : Room S.kk q.A := ⟨ok.hd hc, ok.room.dp, ok.room.un⟩
theorem Sig.Ok.units {S : Sig} {q : Rest} (ok : S.Ok q) : q.A.units + 64 < cLine := by have := ok.room.un; omega
/-! ### growing -/
structure Grow (F H F' H' : Hp) : Prop where
  stp : Stp F H [] F' H' []
  ext : Ext F' H'
theorem Grow.refl {F H : Hp} (h : Ext F H) : Grow F H F H := ⟨Stp.refl, h⟩
theorem Grow.trans {F H F1 H1 F2 H2 : Hp} (a : Grow F H F1 H1) (b : Grow F1 H1 F2 H2) : Grow F H F2 H2 := ⟨a.stp.trans b.stp, b.ext⟩
theorem Grow.hh {F H F1 H1 : Hp} (a : Grow F H F1 H1) : Ext H H1 := fun x o h => a.stp.keep x o h (by simp)
theorem Grow.wf {F H F' H' : Hp} {A : List Addr} (g : Grow F H F' H') (w : WF F H A) : WF F' H' A where
  sub := g.ext
  nd := w.nd
  off := fun a h => by
    cases e : F' a with
    | none => rfl
    | some o =>
      rcases g.stp.new a o e with q | q | q
      · rw [w.off a h] at q; cases q
      · cases q
      · exact absurd q (w.on a h)
  on := fun a h q => by
    cases e : H a with
    | none => exact w.on a h (imm_none e)
    | some u => rw [g.hh a u e] at q; exact w.on a h (by rw [e]; exact q)
theorem Grow.own {K : PySem.W.Frag} {F H F' H' : Hp} {v : V} {o : O} {B : List Addr} (g : Grow F H F' H') (h : Own K F H v o B) : Own K F' H' v o B :=
  h.mono g.stp.fs (S := B) (fun a o e _ => g.hh a o e) fun _ h => h
theorem Grow.owns {K : PySem.W.Frag} {F H F' H' : Hp} {v : List V} {o : List O} {B : List Addr} (g : Grow F H F' H') (h : Owns K F H v o B) : Owns K F' H' v o B :=
  h.mono g.stp.fs (S := B) (fun a o e _ => g.hh a o e) fun _ h => h
theorem Grow.envs {K : PySem.W.Frag} {F H F' H' : Hp} {σ : L2.St} {ρ : Env} {A : List Addr} (g : Grow F H F' H') (h : Envs K F H σ ρ A) : Envs K F' H' σ ρ A :=
  h.mono g.stp.fs (S := A) (fun a o e _ => g.hh a o e) fun _ h => h
/-- a new object, frozen at once -/
theorem Grow.new {F H : Hp} {p : Addr} {o : HO} (e : Ext F H) (h : H p = none) : Grow F H (upd F p o) (upd H p o) := by
  have hF : F p = none := by
    cases q : F p with
    | none => rfl
    | some u => rw [e p u q] at h; cases h
  refine ⟨⟨fun a u q => ?_, fun a u q _ => ?_, fun a u q => ?_, by simp, fun a q => ?_⟩, fun a u q => ?_⟩
  · rw [upd_ne (ne_of_none q hF)]; exact q
  · rw [upd_ne (ne_of_none q h)]; exact q
  · by_cases z : a = p
    · subst z; exact .inr (.inr (imm_none h))
    · rw [upd_ne z] at q; exact .inl q
  · by_cases z : a = p
    · subst z; exact h
    · rw [upd_ne z] at q; exact q
  · by_cases z : a = p
    · subst z; rw [upd_same] at q ⊢; exact q
    · rw [upd_ne z] at q ⊢; exact e a u q
/-- a new object that is owned -/
theorem Grow.own1 {F H : Hp} {p : Addr} {o : HO} (e : Ext F H) (h : H p = none) (hi : ¬ Imm (some o) := by exact fun z => z) : Stp F H [] F (upd H p o) [p] ∧ WF F (upd H p o) [p] := by
  have hF : F p = none := by
    cases q : F p with
    | none => rfl
    | some u => rw [e p u q] at h; cases h
  refine ⟨⟨Ext.refl F, fun a u q _ => ?_, fun a u q => .inl q, fun a q => ?_, fun a q => ?_⟩, ⟨fun a u q => ?_, by simp, fun a q => ?_, fun a q => ?_⟩⟩
  · rw [upd_ne (ne_of_none q h)]; exact q
  · rw [List.mem_singleton.mp q]; exact .inr h
  · by_cases z : a = p
    · subst z; exact h
    · rw [upd_ne z] at q; exact q
  · rw [upd_ne (ne_of_none q hF)]; exact e a u q
  · rw [List.mem_singleton.mp q]; exact hF
  · rw [List.mem_singleton.mp q, upd_same]; exact hi

/-! ### readings -/
def EP (S : Sig) (t : TE) (ρ : Env) (r : Except Str D) : Prop := ∀ (σ : L2.St) (F H : Hp) (A : List Addr) (Q : VK), WF F H A → Envs S.K F H σ ρ A →
  (match r with
    | .ok d => ∀ v F' H', Grow F H F' H' → Rep S.K F' v d → Q v H'
    | .error x => ∀ F' H', Grow F H F' H' → S.wx (.ref (He.ga S.K x)) none σ H') → t σ H Q
/-- what is only looked at -/
def EV (S : Sig) (t : TE) (ρ : Env) (d : D) : Prop := ∀ (σ : L2.St) (F H : Hp) (A : List Addr) (Q : VK), WF F H A → Envs S.K F H σ ρ A →
  (∀ v F' H', Grow F H F' H' → Rep S.K H' v d → Q v H') → t σ H Q
def ET (S : Sig) (t : TT) (ρ : Env) (b : Bool) : Prop := ∀ (σ : L2.St) (F H : Hp) (A : List Addr) (Q : Bool → Hp → Prop), WF F H A → Envs S.K F H σ ρ A →
  (∀ F' H', Grow F H F' H' → Q b H') → t σ H Q
/-- arguments: frozen; looked at -/
def EA (S : Sig) (t : TA) (ρ : Env) (ds : List D) : Prop := ∀ (σ : L2.St) (F H : Hp) (A : List Addr) (Q : List V → Hp → Prop), WF F H A → Envs S.K F H σ ρ A →
  (∀ vs F' H', Grow F H F' H' → Reps S.K F' vs ds → Q vs H') → t σ H Q
def EAV (S : Sig) (t : TA) (ρ : Env) (ds : List D) : Prop := ∀ (σ : L2.St) (F H : Hp) (A : List Addr) (Q : List V → Hp → Prop), WF F H A → Envs S.K F H σ ρ A →
  (∀ vs F' H', Grow F H F' H' → Reps S.K H' vs ds → Q vs H') → t σ H Q
inductive RE where
  | ok (o : O) (ρ : Env) | ex (x : Str) (ρ : Env)
def EX (S : Sig) (t : TE) (ρ : Env) (r : RE) : Prop := ∀ (σ : L2.St) (F H : Hp) (A : List Addr) (Q : VK), WF F H A → Envs S.K F H σ ρ A →
  (match r with
    | .ok o ρ' => ∀ v F' H' B A', WF F' H' (B ++ A') → Stp F H A F' H' (B ++ A') → Own S.K F' H' v o B → Envs S.K F' H' σ ρ' A' → Q v H'
    | .ex x ρ' => ∀ F' H' A', WF F' H' A' → Stp F H A F' H' A' → Envs S.K F' H' σ ρ' A' → S.wx (.ref (He.ga S.K x)) none σ H') → t σ H Q
inductive RS where
  | nx (ρ : Env) | rt (o : O) (ρ : Option Env) | bk (ρ : Env) | ct (ρ : Env) | ex (x : Str) (ρ : Option Env)
structure Pin (pin : List Nat) (σ σ' : L2.St) : Prop where
  len : σ'.length = σ.length
  at_ : ∀ i ∈ pin, σ'[i]? = σ[i]?
theorem Pin.refl {pin : List Nat} {σ : L2.St} : Pin pin σ σ := ⟨rfl, fun _ _ => rfl⟩
theorem Pin.trans {pin : List Nat} {σ σ1 σ2 : L2.St} (a : Pin pin σ σ1) (b : Pin pin σ1 σ2) : Pin pin σ σ2 := ⟨b.len.trans a.len, fun i h => (b.at_ i h).trans (a.at_ i h)⟩
theorem Pin.set {pin : List Nat} {σ : L2.St} {i : Nat} {x : Option V} (h : i ∉ pin) : Pin pin σ (σ.set i x) := ⟨by simp, fun j hj => List.getElem?_set_ne fun e => h (by rw [e]; exact hj)⟩
/-- what is said of the slots at the end; nothing perhaps -/
def EnvO (S : Sig) (F H : Hp) (σ : L2.St) (ρ : Option Env) (A : List Addr) : Prop := match ρ with
  | some ρ => Envs S.K F H σ ρ A
  | none => A = []
def EPost (S : Sig) (pin : List Nat) (D : Ends) (σ : L2.St) (F H : Hp) (A : List Addr) : RS → Prop
  | .nx ρ' => ∀ σ' F' H' A', WF F' H' A' → Stp F H A F' H' A' → Envs S.K F' H' σ' ρ' A' → Pin pin σ σ' → D.nx σ' H'
  | .bk ρ' => ∀ σ' F' H' A', WF F' H' A' → Stp F H A F' H' A' → Envs S.K F' H' σ' ρ' A' → Pin pin σ σ' → D.bk σ' H'
  | .ct ρ' => ∀ σ' F' H' A', WF F' H' A' → Stp F H A F' H' A' → Envs S.K F' H' σ' ρ' A' → Pin pin σ σ' → D.ct σ' H'
  | .rt o ρ' => ∀ v σ' F' H' B A', WF F' H' (B ++ A') → Stp F H A F' H' (B ++ A') → Own S.K F' H' v o B → EnvO S F' H' σ' ρ' A' → Pin pin σ σ' → D.rt v H'
  | .ex x ρ' => ∀ σ' F' H' A', WF F' H' A' → Stp F H A F' H' A' → EnvO S F' H' σ' ρ' A' → Pin pin σ σ' → S.wx (.ref (He.ga S.K x)) none σ' H'
def ES (S : Sig) (pin : List Nat) (t : TS) (ρ : Env) (r : RS) : Prop := ∀ (σ : L2.St) (F H : Hp) (A : List Addr) (D : Ends), WF F H A → Envs S.K F H σ ρ A → EPost S pin D σ F H A r → t D σ H

/-! ### the judgements -/
def XP (S : Sig) (ρ : Env) (e : Expr) (r : Except Str D) : Prop := ∃ t, (∀ q, S.Ok q → PE (S.cx q) e t) ∧ EP S t ρ r
def XV (S : Sig) (ρ : Env) (e : Expr) (d : D) : Prop := ∃ t, (∀ q, S.Ok q → PE (S.cx q) e t) ∧ EV S t ρ d
def XT (S : Sig) (ρ : Env) (e : Expr) (b : Bool) : Prop := ∃ t, (∀ q, S.Ok q → PT (S.cx q) e t) ∧ ET S t ρ b
def XA (S : Sig) (ρ : Env) (es : List Expr) (ds : List D) : Prop := ∃ t, (∀ q, S.Ok q → PA (S.cx q) es t) ∧ EA S t ρ ds
def XAV (S : Sig) (ρ : Env) (es : List Expr) (ds : List D) : Prop := ∃ t, (∀ q, S.Ok q → PA (S.cx q) es t) ∧ EAV S t ρ ds
def XX (S : Sig) (ρ : Env) (e : Expr) (r : RE) : Prop := ∃ t, (∀ q, S.Ok q → PE (S.cx q) e t) ∧ EX S t ρ r
def XS (S : Sig) (pin : List Nat) (ρ : Env) (s : Stmt) (r : RS) : Prop := ∃ t, (∀ q, S.Ok q → PS (S.cx q) s t) ∧ ES S pin t ρ r
def XB (S : Sig) (pin : List Nat) (ρ : Env) (s : List Stmt) (r : RS) : Prop := ∃ t, (∀ q, S.Ok q → PSs (S.cx q) s t) ∧ ES S pin t ρ r
section
variable {S : Sig} {ρ : Env} {a b e : Expr} {d d1 d2 : D} {pos : Pos} {pin : List Nat}
theorem EP.v {t : TE} (h : EP S t ρ (.ok d)) : EV S t ρ d := fun σ F H A Q w n q => h σ F H A Q w n fun v F' H' g r => q v F' H' g (r.mono g.ext)
theorem XP.v (h : XP S ρ e (.ok d)) : XV S ρ e d := let ⟨t, h1, h2⟩ := h; ⟨t, h1, h2.v⟩
theorem EP.x {t : TE} (h : EP S t ρ (.ok d)) : EX S t ρ (.ok (.fro d) ρ) := fun σ F H A Q w n q => h σ F H A Q w n fun v F' H' g r =>
  q v F' H' [] A (g.wf w) (g.stp.mono (by simp) |>.more (C := A) fun a h => .inl h) (.fro r) (g.envs n)
theorem XP.x (h : XP S ρ e (.ok d)) : XX S ρ e (.ok (.fro d) ρ) := let ⟨t, h1, h2⟩ := h; ⟨t, h1, h2.x⟩
theorem EP.xe {t : TE} {x : Str} (h : EP S t ρ (.error x)) : EX S t ρ (.ex x ρ) := fun σ F H A Q w n q => h σ F H A Q w n fun F' H' g =>
  q F' H' A (g.wf w) (g.stp.mono (by simp) |>.more (C := A) fun a h => .inl h) (g.envs n)
theorem XP.xe {x : Str} (h : XP S ρ e (.error x)) : XX S ρ e (.ex x ρ) := let ⟨t, h1, h2⟩ := h; ⟨t, h1, h2.xe⟩
/-- flat things need no heap -/
def Flat : D → Bool
  | .non => true | .bl _ => true | .int _ => true | .str _ => true | .obj _ => true | .ty _ => true
  | _ => false
theorem Rep.flat {K : PySem.W.Frag} {F F' : Hp} {v : V} (h : Rep K F v d) (f : Flat d = true) : Rep K F' v d := by
  cases h <;> first | (cases f; done) | constructor
theorem XV.p (h : XV S ρ e d) (f : Flat d = true := by rfl) : XP S ρ e (.ok d) := let ⟨t, h1, h2⟩ := h; ⟨t, h1, fun σ F H A Q w n q => h2 σ F H A Q w n fun v F' H' g r => q v F' H' g (r.flat f)⟩
theorem XP.cast {r r' : Except Str D} (h : XP S ρ e r) (q : r = r') : XP S ρ e r' := q ▸ h
theorem XV.cast {r r' : D} (h : XV S ρ e r) (q : r = r') : XV S ρ e r' := q ▸ h
theorem XT.cast {r r' : Bool} (h : XT S ρ e r) (q : r = r') : XT S ρ e r' := q ▸ h

/-! ### names, constants -/
theorem xp_var (i : Nat) {x : Str} (hρ : ρ[i]? = some (some (.fro d)) := by rfl) (hN : S.N[i]? = some x := by rfl) (hv : Vis S.scope x := by first | exact Or.inl rfl | exact Or.inr (Or.inl rfl) | exact Or.inr (Or.inr rfl))
    (hd : (x == ("__debug__" : Str)) = false := by decide) (hcd : (x == ("__classdict__" : Str)) = false := by decide) : XP S ρ (.Name x pos) (.ok d) :=
  ⟨tVar i, fun q _ => pe_var hN hv hd hcd, fun σ F H A Q w n q => by
    obtain ⟨v, B, A', h1, h2, h3, h4⟩ := n.get hρ
    cases h2 with
    | fro h2 => exact ⟨v, h1, q v F H (Grow.refl w.sub) h2⟩⟩
theorem xv_var (i : Nat) {x : Str} {o : O} (hρ : ρ[i]? = some (some o) := by rfl) (hN : S.N[i]? = some x := by rfl) (hv : Vis S.scope x := by first | exact Or.inl rfl | exact Or.inr (Or.inl rfl) | exact Or.inr (Or.inr rfl))
    (hd : (x == ("__debug__" : Str)) = false := by decide) (hcd : (x == ("__classdict__" : Str)) = false := by decide) : XV S ρ (.Name x pos) o.d :=
  ⟨tVar i, fun q _ => pe_var hN hv hd hcd, fun σ F H A Q w n q => by
    obtain ⟨v, B, A', h1, h2, h3, h4⟩ := n.get hρ
    exact ⟨v, h1, q v F H (Grow.refl w.sub) (h2.rep w.sub)⟩⟩
theorem ep_c {v : V} (h : ∀ F, Rep S.K F v d) : EP S (tC v) ρ (.ok d) := fun σ F H A Q w n q => q v F H (Grow.refl w.sub) (h F)
theorem xp_int {i : Int} {j} : XP S ρ (.Constant (.int i) j pos) (.ok (.int i)) := ⟨_, fun _ _ => pe_int, ep_c fun _ => .int⟩
theorem xp_bl {b : Bool} {j} : XP S ρ (.Constant (.bool b) j pos) (.ok (.bl b)) := ⟨_, fun _ _ => pe_bl, ep_c fun _ => .bl⟩
theorem xp_non {j} : XP S ρ (.Constant .none j pos) (.ok .non) := ⟨_, fun _ _ => pe_non, ep_c fun _ => .non⟩
theorem xp_str {x : Str} {j} : XP S ρ (.Constant (.str x) j pos) (.ok (.str x)) := ⟨_, fun _ _ => pe_str, ep_c fun _ => .str⟩
theorem xp_tx {x : Str} {j} (t : Tx) (h : x = t.s := by decide +kernel) : XP S ρ (.Constant (.str x) j pos) (.ok (enc t)) := by subst h; exact xp_str
theorem xp_glob {x : Str} {v : V} {u : Value} (hm : S.mg x = some u) (r : RelV v u) (h : ∀ F, Rep S.K F v d) (hg : S.scope.names.lookup x = some .globalImplicit := by rfl) (hd : (x == ("__debug__" : Str)) = false := by decide) : XP S ρ (.Name x pos) (.ok d) :=
  ⟨_, fun q _ => pe_glob (X := S.cx q) (show S.scope.names.lookup x = some .globalImplicit from hg) hm r hd, ep_c h⟩

/-! ### operators, by what they say of data -/
def OD (S : Sig) (r : R2) (d1 d2 d : D) : Prop := ∀ (x y : V) (F H : Hp) (Q : VK), Ext F H → Rep S.K H x d1 → Rep S.K H y d2 → (∀ v F' H', Grow F H F' H' → Rep S.K F' v d → Q v H') → r x y H Q
structure OB (S : Sig) (op : Operator) (d1 d2 d : D) : Prop where
  h : ∃ r, (∀ q, S.Ok q → OpR (S.cx q) (binaryOp op) r) ∧ OD S r d1 d2 d
structure OC (S : Sig) (op : CmpOp) (d1 d2 : D) (b : Bool) : Prop where
  h : ∃ r, (∀ q, S.Ok q → OpR (S.cx q) (compareOp op) r) ∧ OD S r d1 d2 (.bl b)
theorem ev_bin {r : R2} {ta tb : TE} (hr : OD S r d1 d2 d) (ha : EV S ta ρ d1) (hb : EV S tb ρ d2) : EP S (tOp r ta tb) ρ (.ok d) := fun σ F H A Q w n q =>
  ha σ F H A _ w n fun x F1 H1 g1 r1 => hb σ F1 H1 A _ (g1.wf w) (g1.envs n) fun y F2 H2 g2 r2 =>
    hr x y F2 H2 Q g2.ext (r1.mono g2.hh) r2 fun v F3 H3 g3 r3 => q v F3 H3 ((g1.trans g2).trans g3) r3
theorem xp_bin {op : Operator} (ho : OB S op d1 d2 d) (ha : XV S ρ a d1) (hb : XV S ρ b d2) : XP S ρ (.BinOp a op b pos) (.ok d) := by
  obtain ⟨r, h1, h2⟩ := ho.h
  obtain ⟨ta, a1, a2⟩ := ha
  obtain ⟨tb, b1, b2⟩ := hb
  exact ⟨_, fun q k => pe_op (h1 q k) (a1 q k) (b1 q k), ev_bin h2 a2 b2⟩
theorem xp_cmp {op : CmpOp} {c : Bool} (ho : OC S op d1 d2 c) (ha : XV S ρ a d1) (hb : XV S ρ b d2) (hm : behindInMarks op b = false := by first | exact nomark _ | rfl) : XP S ρ (.Compare a [op] [b] pos) (.ok (.bl c)) := by
  obtain ⟨r, h1, h2⟩ := ho.h
  obtain ⟨ta, a1, a2⟩ := ha
  obtain ⟨tb, b1, b2⟩ := hb
  exact ⟨_, fun q k => pe_cmpR (h1 q k) (a1 q k) (b1 q k) hm, ev_bin h2 a2 b2⟩
theorem et_test {t : TE} {c : Bool} (h : EP S t ρ (.ok (.bl c))) : ET S (tTest t) ρ c := fun σ F H A Q w n q => h σ F H A _ w n fun v F' H' g r => by
  cases r
  exact ⟨c, rfl, q F' H' g⟩
theorem et_B {t : TE} {c : Bool} (h : EP S t ρ (.ok (.bl c))) : ET S (tB t) ρ c := fun σ F H A Q w n q => h σ F H A _ w n fun v F' H' g r => by
  cases r
  exact ⟨c, rfl, q F' H' g⟩
theorem xt_cmp {op : CmpOp} {c : Bool} (ho : OC S op d1 d2 c) (ha : XV S ρ a d1) (hb : XV S ρ b d2) (hm : behindInMarks op b = false := by first | exact nomark _ | rfl) : XT S ρ (.Compare a [op] [b] pos) c := by
  obtain ⟨r, h1, h2⟩ := ho.h
  obtain ⟨ta, a1, a2⟩ := ha
  obtain ⟨tb, b1, b2⟩ := hb
  exact ⟨_, fun q k => pt_cmpR (h1 q k) (a1 q k) (b1 q k) hm, et_test (ev_bin h2 a2 b2)⟩
/-- a op b op' c -/
theorem ev_chain {r r' : R2} {d3 : D} {k k' : Bool} {ta tb tc : TE} (hr : OD S r d1 d2 (.bl k)) (hr' : k = true → OD S r' d2 d3 (.bl k')) (ha : EV S ta ρ d1) (hb : EV S tb ρ d2) (hc : k = true → EV S tc ρ d3) : EP S (tChain r r' ta tb tc) ρ (.ok (.bl (k && k'))) := fun σ F H A Q w n q =>
  ha σ F H A _ w n fun x F1 H1 g1 r1 => hb σ F1 H1 A _ (g1.wf w) (g1.envs n) fun y F2 H2 g2 r2 =>
    hr x y F2 H2 _ g2.ext (r1.mono g2.hh) r2 fun v F3 H3 g3 r3 => by
      cases r3
      refine ⟨k, rfl, ?_⟩
      cases k with
      | false => exact q _ F3 H3 ((g1.trans g2).trans g3) .bl
      | true =>
        have g := (g1.trans g2).trans g3
        exact hc rfl σ F3 H3 A _ (g.wf w) (g.envs n) fun z F4 H4 g4 r4 => hr' rfl y z F4 H4 Q g4.ext ((r2.mono g3.hh).mono g4.hh) r4 fun v F5 H5 g5 r5 => q v F5 H5 ((g.trans g4).trans g5) r5
theorem xp_chain {op op' : CmpOp} {c : Expr} {d3 : D} {k k' : Bool} (ho : OC S op d1 d2 k) (ho' : OC S op' d2 d3 k') (ha : XV S ρ a d1) (hb : XV S ρ b d2) (hc : XV S ρ c d3) (hm : lastMarks [op, op'] [b, c] = false := by with_unfolding_all rfl) :
    XP S ρ (.Compare a [op, op'] [b, c] pos) (.ok (.bl (k && k'))) := by
  obtain ⟨r, h1, h2⟩ := ho.h
  obtain ⟨r', h1', h2'⟩ := ho'.h
  obtain ⟨ta, a1, a2⟩ := ha
  obtain ⟨tb, b1, b2⟩ := hb
  obtain ⟨tc, c1, c2⟩ := hc
  exact ⟨_, fun q k => pe_chain (h1 q k) (h1' q k) (a1 q k) (b1 q k) (c1 q k) hm, ev_chain h2 (fun _ => h2') a2 b2 fun _ => c2⟩
theorem xt_chain {op op' : CmpOp} {c : Expr} {d3 : D} {k k' : Bool} (ho : OC S op d1 d2 k) (ho' : OC S op' d2 d3 k') (ha : XV S ρ a d1) (hb : XV S ρ b d2) (hc : XV S ρ c d3) (hm : lastMarks [op, op'] [b, c] = false := by with_unfolding_all rfl) :
    XT S ρ (.Compare a [op, op'] [b, c] pos) (k && k') := by
  obtain ⟨r, h1, h2⟩ := ho.h
  obtain ⟨r', h1', h2'⟩ := ho'.h
  obtain ⟨ta, a1, a2⟩ := ha
  obtain ⟨tb, b1, b2⟩ := hb
  obtain ⟨tc, c1, c2⟩ := hc
  exact ⟨_, fun q k => pt_chain (h1 q k) (h1' q k) (a1 q k) (b1 q k) (c1 q k) hm, et_test (ev_chain h2 (fun _ => h2') a2 b2 fun _ => c2)⟩
end
end G

namespace G
open PySem PySem.Spec PyProof.Rows L2
open PySem.W (Datum DatumOrd Tup T3)
open Enc (enc)
section
variable {S : Sig} {ρ : Env} {a b c e : Expr} {d d1 d2 d3 : D} {pos : Pos} {pin : List Nat} {op : Operator}

/-! ### and, or, not, if-else -/
theorem et_and {t u : TT} {k l : Bool} (h1 : ET S t ρ k) (h2 : k = true → ET S u ρ l) : ET S (tAnd t u) ρ (k && l) := fun σ F H A Q w n q =>
  h1 σ F H A _ w n fun F1 H1 g => by
    cases k with
    | true =>
      show u σ H1 Q
      exact h2 rfl σ F1 H1 A Q (g.wf w) (g.envs n) fun F2 H2 g2 => q F2 H2 (g.trans g2)
    | false =>
      show Q false H1
      exact q F1 H1 g
theorem et_or {t u : TT} {k l : Bool} (h1 : ET S t ρ k) (h2 : k = false → ET S u ρ l) : ET S (tOr t u) ρ (k || l) := fun σ F H A Q w n q =>
  h1 σ F H A _ w n fun F1 H1 g => by
    cases k with
    | false =>
      show u σ H1 Q
      exact h2 rfl σ F1 H1 A Q (g.wf w) (g.envs n) fun F2 H2 g2 => q F2 H2 (g.trans g2)
    | true =>
      show Q true H1
      exact q F1 H1 g
def XW (S : Sig) (ρ : Env) (e : Expr) (b : Bool) : Prop := ∃ t, (∀ q, S.Ok q → PW (S.cx q) e t) ∧ ET S t ρ b
theorem XW.t {k : Bool} (h : XW S ρ e k) : XT S ρ e k := let ⟨t, h1, h2⟩ := h; ⟨t, fun q o => (h1 q o).pt, h2⟩
theorem xw_and1 {k : Bool} (h : XT S ρ a k) : XW S ρ (.BoolOp .And [a] pos) k := let ⟨t, h1, h2⟩ := h; ⟨t, fun q o => pw_and1 (h1 q o), h2⟩
theorem xw_or1 {k : Bool} (h : XT S ρ a k) : XW S ρ (.BoolOp .Or [a] pos) k := let ⟨t, h1, h2⟩ := h; ⟨t, fun q o => pw_or1 (h1 q o), h2⟩
theorem xw_and {k l : Bool} {rest : List Expr} (h : XT S ρ a k) (h' : k = true → XW S ρ (.BoolOp .And (b :: rest) pos) l) : XW S ρ (.BoolOp .And (a :: b :: rest) pos) (k && l) := by
  obtain ⟨t, h1, h2⟩ := h
  cases k with
  | true =>
    obtain ⟨u, h3, h4⟩ := h' rfl
    exact ⟨_, fun q o => pw_and (h1 q o) (h3 q o), et_and h2 fun _ => h4⟩
  | false =>
    refine ⟨tAnd t fun _ _ _ => False, fun q o => pw_and (h1 q o) ⟨fun _ _ _ _ _ _ _ z => z.elim⟩, ?_⟩
    exact et_and (l := l) h2 fun z => nomatch z
theorem xw_or {k l : Bool} {rest : List Expr} (h : XT S ρ a k) (h' : k = false → XW S ρ (.BoolOp .Or (b :: rest) pos) l) : XW S ρ (.BoolOp .Or (a :: b :: rest) pos) (k || l) := by
  obtain ⟨t, h1, h2⟩ := h
  cases k with
  | false =>
    obtain ⟨u, h3, h4⟩ := h' rfl
    exact ⟨_, fun q o => pw_or (h1 q o) (h3 q o), et_or h2 fun _ => h4⟩
  | true =>
    refine ⟨tOr t fun _ _ _ => False, fun q o => pw_or (h1 q o) ⟨fun _ _ _ _ _ _ _ z => z.elim⟩, ?_⟩
    exact et_or (l := l) h2 fun z => nomatch z
theorem xt_not {k : Bool} (h : XT S ρ a k) : XT S ρ (.UnaryOp .Not a pos) (!k) := let ⟨t, h1, h2⟩ := h; ⟨_, fun q o => pt_not (h1 q o), fun σ F H A Q w n q => h2 σ F H A _ w n fun F' H' g => q F' H' g⟩
/-- a truth value, as a test -/
theorem xt_val {k : Bool} (h : XP S ρ e (.ok (.bl k))) (he : ∀ (env : PySem.Env) (whole : Sem Value), isTrue e env whole = (do let v ← whole; standAt e.pos; holding [v] (truthy v)) := by intro _ _; rfl) : XT S ρ e k :=
  let ⟨t, h1, h2⟩ := h; ⟨_, fun q o => pt_val (h1 q o) (he _), et_B h2⟩
theorem ep_andV {ta tb : TE} {k l : Bool} (h1 : EP S ta ρ (.ok (.bl k))) (h2 : k = true → EP S tb ρ (.ok (.bl l))) : EP S (tAndV ta tb) ρ (.ok (.bl (k && l))) := fun σ F H A Q w n q =>
  h1 σ F H A _ w n fun v F1 H1 g r => by
    cases r
    refine ⟨k, rfl, ?_⟩
    cases k with
    | true => exact h2 rfl σ F1 H1 A Q (g.wf w) (g.envs n) fun v F2 H2 g2 r => q v F2 H2 (g.trans g2) r
    | false => exact q _ F1 H1 g .bl
theorem ep_orV {ta tb : TE} {k l : Bool} (h1 : EP S ta ρ (.ok (.bl k))) (h2 : k = false → EP S tb ρ (.ok (.bl l))) : EP S (tOrV ta tb) ρ (.ok (.bl (k || l))) := fun σ F H A Q w n q =>
  h1 σ F H A _ w n fun v F1 H1 g r => by
    cases r
    refine ⟨k, rfl, ?_⟩
    cases k with
    | false => exact h2 rfl σ F1 H1 A Q (g.wf w) (g.envs n) fun v F2 H2 g2 r => q v F2 H2 (g.trans g2) r
    | true => exact q _ F1 H1 g .bl
theorem xp_one {op : BoolOp} {r} (h : XP S ρ a r) : XP S ρ (.BoolOp op [a] pos) r := let ⟨t, h1, h2⟩ := h; ⟨t, fun q o => pe_one (h1 q o), h2⟩
theorem xp_and {k l : Bool} {rest : List Expr} (h : XP S ρ a (.ok (.bl k))) (h' : k = true → XP S ρ (.BoolOp .And (b :: rest) pos) (.ok (.bl l))) : XP S ρ (.BoolOp .And (a :: b :: rest) pos) (.ok (.bl (k && l))) := by
  obtain ⟨t, h1, h2⟩ := h
  cases k with
  | true =>
    obtain ⟨u, h3, h4⟩ := h' rfl
    exact ⟨_, fun q o => pe_and (h1 q o) (h3 q o), ep_andV h2 fun _ => h4⟩
  | false => exact ⟨tAndV t fun _ _ _ => False, fun q o => pe_and (h1 q o) ⟨fun _ _ _ _ _ _ z => z.elim⟩, ep_andV (l := l) h2 fun z => nomatch z⟩
theorem xp_or {k l : Bool} {rest : List Expr} (h : XP S ρ a (.ok (.bl k))) (h' : k = false → XP S ρ (.BoolOp .Or (b :: rest) pos) (.ok (.bl l))) : XP S ρ (.BoolOp .Or (a :: b :: rest) pos) (.ok (.bl (k || l))) := by
  obtain ⟨t, h1, h2⟩ := h
  cases k with
  | false =>
    obtain ⟨u, h3, h4⟩ := h' rfl
    exact ⟨_, fun q o => pe_or (h1 q o) (h3 q o), ep_orV h2 fun _ => h4⟩
  | true => exact ⟨tOrV t fun _ _ _ => False, fun q o => pe_or (h1 q o) ⟨fun _ _ _ _ _ _ z => z.elim⟩, ep_orV (l := l) h2 fun z => nomatch z⟩
theorem xp_not {k : Bool} (h : XP S ρ a (.ok (.bl k))) : XP S ρ (.UnaryOp .Not a pos) (.ok (.bl (!k))) := let ⟨t, h1, h2⟩ := h; ⟨_, fun q o => pe_not (h1 q o), fun σ F H A Q w n q => h2 σ F H A _ w n fun v F' H' g r => by
  cases r
  exact ⟨k, rfl, q _ F' H' g .bl⟩⟩
theorem xp_if {k : Bool} {r : Except Str D} (ht : XT S ρ c k) (ha : k = true → XP S ρ a r) (hb : k = false → XP S ρ b r) : XP S ρ (.IfExp c a b pos) r := by
  obtain ⟨t, h1, h2⟩ := ht
  cases k with
  | true =>
    obtain ⟨u, h3, h4⟩ := ha rfl
    refine ⟨tIf t u fun _ _ _ => False, fun q o => pe_ifExp (h1 q o) (h3 q o) ⟨fun _ _ _ _ _ _ z => z.elim⟩, fun σ F H A Q w n q => h2 σ F H A _ w n fun F' H' g => ?_⟩
    show u σ H' Q
    refine h4 σ F' H' A Q (g.wf w) (g.envs n) ?_
    cases r with
    | ok d => exact fun v F2 H2 g2 r2 => q v F2 H2 (g.trans g2) r2
    | error x => exact fun F2 H2 g2 => q F2 H2 (g.trans g2)
  | false =>
    obtain ⟨u, h3, h4⟩ := hb rfl
    refine ⟨tIf t (fun _ _ _ => False) u, fun q o => pe_ifExp (h1 q o) ⟨fun _ _ _ _ _ _ z => z.elim⟩ (h3 q o), fun σ F H A Q w n q => h2 σ F H A _ w n fun F' H' g => ?_⟩
    show u σ H' Q
    refine h4 σ F' H' A Q (g.wf w) (g.envs n) ?_
    cases r with
    | ok d => exact fun v F2 H2 g2 r2 => q v F2 H2 (g.trans g2) r2
    | error x => exact fun F2 H2 g2 => q F2 H2 (g.trans g2)

/-! ### operators on ints -/
theorem od_I {C : Int → Int → Prop} {g : Int → Int → Int} {i j : Int} (hc : C i j) : OD S (rI C fun i j => .int (g i j)) (.int i) (.int j) (.int (g i j)) := fun x y F H Q e rx ry q => by
  cases rx; cases ry
  exact ⟨i, j, rfl, rfl, hc, q _ F H (Grow.refl e) .int⟩
theorem od_I0 {g : Int → Int → Int} {i j : Int} : OD S (rI0 fun i j => .int (g i j)) (.int i) (.int j) (.int (g i j)) := fun x y F H Q e rx ry q => by
  cases rx; cases ry
  exact ⟨i, j, rfl, rfl, q _ F H (Grow.refl e) .int⟩
theorem od_B0 {g : Int → Int → Bool} {i j : Int} : OD S (rI0 fun i j => .bl (g i j)) (.int i) (.int j) (.bl (g i j)) := fun x y F H Q e rx ry q => by
  cases rx; cases ry
  exact ⟨i, j, rfl, rfl, q _ F H (Grow.refl e) .bl⟩
theorem ob_add {i j : Int} : OB S .Add (.int i) (.int j) (.int (i + j)) := ⟨_, fun _ _ => op_add, od_I0⟩
theorem ob_sub {i j : Int} : OB S .Sub (.int i) (.int j) (.int (i - j)) := ⟨_, fun _ _ => op_sub, od_I0⟩
theorem ob_mul {i j : Int} (h : (-(2 ^ 64) < i ∧ i < 2 ^ 64) ∨ (-(2 ^ 64) < j ∧ j < 2 ^ 64)) : OB S .Mult (.int i) (.int j) (.int (i * j)) := ⟨_, fun _ _ => op_mul, od_I h⟩
theorem ob_div {i j : Int} (h : 0 < j ∧ j < 1073741824) : OB S .FloorDiv (.int i) (.int j) (.int (i / j)) := ⟨_, fun _ _ => op_fdiv, od_I h⟩
theorem ob_mod {i j : Int} (h : 0 < j) : OB S .Mod (.int i) (.int j) (.int (i % j)) := ⟨_, fun _ _ => op_mod, od_I h⟩
theorem ob_pow {i j : Int} (h : 0 ≤ j ∧ j ≤ 1000000 ∧ i.natAbs < 2 ^ 64) : OB S .Pow (.int i) (.int j) (.int (i ^ j.toNat)) := ⟨_, fun _ _ => op_pow, od_I h⟩
theorem oc_lt {i j : Int} : OC S .Lt (.int i) (.int j) (decide (i < j)) := ⟨_, fun _ _ => op_lt, od_B0⟩
theorem oc_le {i j : Int} : OC S .LtE (.int i) (.int j) (decide (i ≤ j)) := ⟨_, fun _ _ => op_le, od_B0⟩
theorem oc_gt {i j : Int} : OC S .Gt (.int i) (.int j) (decide (j < i)) := ⟨_, fun _ _ => op_gt, od_B0⟩
theorem oc_ge {i j : Int} : OC S .GtE (.int i) (.int j) (decide (j ≤ i)) := ⟨_, fun _ _ => op_ge, od_B0⟩
theorem xp_neg {i : Int} (h : XP S ρ a (.ok (.int i))) : XP S ρ (.UnaryOp .USub a pos) (.ok (.int (-i))) := let ⟨t, h1, h2⟩ := h; ⟨_, fun q o => pe_un un_neg (h1 q o), fun σ F H A Q w n q => h2 σ F H A _ w n fun v F' H' g r => by
  cases r
  exact ⟨i, rfl, q _ F' H' g .int⟩⟩

/-! ### ==, !=, <, in of typed data -/
section
variable {α : Type} [DecidableEq α] [Datum α] [Enc α]
theorem holds_of {X : Cx} {pins : List (Addr × Obj)} {σ : L2.St} {H : Hp} {s : Shared} (I : Inv X pins σ H s) {v : V} {u : Value} {x : α} (h : Rep X.K H v (enc x)) (r : RelV v u) : PySem.W.Holds s.heap u x := Dp.reads I _ _ _ (Enc.dp _ _ _ _ h) r
theorem holdAll_of {X : Cx} {pins : List (Addr × Obj)} {σ : L2.St} {H : Hp} {s : Shared} (I : Inv X pins σ H s) {vs : List V} {us : List Value} {xs : List α} (h : Reps X.K H vs (xs.map enc)) (r : Vals vs us) : PySem.W.HoldAll s.heap us xs := Dp.readsAll I _ _ _ (dp_all _ _ h) r
def rTyp (K : PySem.W.Frag) (x y : α) (k : Bool) : R2 := fun v u H Q => Rep K H v (enc x) ∧ Rep K H u (enc y) ∧ Q (.bl k) H
theorem od_typ {x y : α} {k : Bool} : OD S (rTyp S.K x y k) (enc x) (enc y) (.bl k) := fun v u F H Q e rx ry q => ⟨rx, ry, q _ F H (Grow.refl e) .bl⟩
theorem oc_eq {x y : α} (hd : Datum.depth α ≤ 64 := by decide) : OC S .Eq (enc x) (enc y) (decide (x = y)) := ⟨rTyp S.K x y _, fun q o pins s σ H v u vv uv Q I rv ru h => by
  obtain ⟨h1, h2, q1⟩ := h
  have := o.units
  exact PySem.W.eq_datum (holds_of I h1 rv) (holds_of I h2 ru) (by show q.A.units + _ < _; omega) ⟨.bl _, H, I, rfl, q1⟩, od_typ⟩
theorem oc_ne {x y : α} (hd : Datum.depth α ≤ 64 := by decide) : OC S .NotEq (enc x) (enc y) (!decide (x = y)) := ⟨rTyp S.K x y _, fun q o pins s σ H v u vv uv Q I rv ru h => by
  obtain ⟨h1, h2, q1⟩ := h
  have := o.units
  rw [← decide_not] at q1
  exact PySem.W.ne_datum (holds_of I h1 rv) (holds_of I h2 ru) (by show q.A.units + _ < _; omega) ⟨.bl _, H, I, rfl, q1⟩, od_typ⟩
def rInTy (K : PySem.W.Frag) (x : α) (xs : List α) (tup : Bool) (k : Bool) : R2 := fun v u H Q => Rep K H v (enc x) ∧ (∃ a vs, u = .ref a ∧ (if tup then SqT K H a vs else SqL K H a vs) ∧ Reps K H vs (xs.map enc)) ∧ Q (.bl k) H
theorem oc_in {x : α} {xs : List α} (hd : Datum.depth α ≤ 63 := by decide) : OC S .In (enc x) (enc xs) (decide (x ∈ xs)) := ⟨rInTy S.K x xs false _, fun q o pins s σ H v u vv uv Q I rv ru h => by
  obtain ⟨h1, ⟨a, vs, rfl, h2, h3⟩, q1⟩ := h
  have := o.units
  obtain ⟨its, r, ⟨o1, n, e1, e2, _, e3⟩, _⟩ := I.list h2
  cases ru
  exact PySem.W.in_list_datum (vs := its.toArray) ⟨o1, e1, e2, n, e3⟩ (holdAll_of I h3 (by simpa using r)) (holds_of I h1 rv) (by show q.A.units + 1 + _ < _; omega) ⟨.bl _, H, I, rfl, q1⟩,
  fun v u F H Q e rx ry q => by
    cases ry with
    | lst h r => exact ⟨rx, ⟨_, _, rfl, .of h, r⟩, q _ F H (Grow.refl e) .bl⟩⟩
theorem oc_notin {x : α} {xs : List α} (hd : Datum.depth α ≤ 63 := by decide) : OC S .NotIn (enc x) (enc xs) (!decide (x ∈ xs)) := ⟨rInTy S.K x xs false (!decide (x ∈ xs)), fun q o pins s σ H v u vv uv Q I rv ru h => by
  obtain ⟨h1, ⟨a, vs, rfl, h2, h3⟩, q1⟩ := h
  have := o.units
  obtain ⟨its, r, ⟨o1, n, e1, e2, _, e3⟩, _⟩ := I.list h2
  cases ru
  rw [← decide_not] at q1
  exact PySem.W.notIn_list_datum (vs := its.toArray) ⟨o1, e1, e2, n, e3⟩ (holdAll_of I h3 (by simpa using r)) (holds_of I h1 rv) (by show q.A.units + 1 + _ < _; omega) ⟨.bl _, H, I, rfl, q1⟩,
  fun v u F H Q e rx ry q => by
    cases ry with
    | lst h r => exact ⟨rx, ⟨_, _, rfl, .of h, r⟩, q _ F H (Grow.refl e) .bl⟩⟩
theorem oc_inT {x : α} {xs : List α} (hd : Datum.depth α ≤ 63 := by decide) : OC S .In (enc x) (.tup (xs.map enc)) (decide (x ∈ xs)) := ⟨rInTy S.K x xs true _, fun q o pins s σ H v u vv uv Q I rv ru h => by
  obtain ⟨h1, ⟨a, vs, rfl, h2, h3⟩, q1⟩ := h
  have := o.units
  obtain ⟨its, r, ⟨o1, e1, e2, n, e3⟩, _⟩ := I.tuple h2
  cases ru
  exact PySem.W.in_tuple_datum (vs := its.toArray) ⟨o1, e1, e2, n, e3⟩ (holdAll_of I h3 (by simpa using r)) (holds_of I h1 rv) (by show q.A.units + 1 + _ < _; omega) ⟨.bl _, H, I, rfl, q1⟩,
  fun v u F H Q e rx ry q => by
    cases ry with
    | tup h r => exact ⟨rx, ⟨_, _, rfl, .of h, r⟩, q _ F H (Grow.refl e) .bl⟩⟩
theorem oc_notinT {x : α} {xs : List α} (hd : Datum.depth α ≤ 63 := by decide) : OC S .NotIn (enc x) (.tup (xs.map enc)) (!decide (x ∈ xs)) := ⟨rInTy S.K x xs true (!decide (x ∈ xs)), fun q o pins s σ H v u vv uv Q I rv ru h => by
  obtain ⟨h1, ⟨a, vs, rfl, h2, h3⟩, q1⟩ := h
  have := o.units
  obtain ⟨its, r, ⟨o1, e1, e2, n, e3⟩, _⟩ := I.tuple h2
  cases ru
  rw [← decide_not] at q1
  exact PySem.W.notIn_tuple_datum (vs := its.toArray) ⟨o1, e1, e2, n, e3⟩ (holdAll_of I h3 (by simpa using r)) (holds_of I h1 rv) (by show q.A.units + 1 + _ < _; omega) ⟨.bl _, H, I, rfl, q1⟩,
  fun v u F H Q e rx ry q => by
    cases ry with
    | tup h r => exact ⟨rx, ⟨_, _, rfl, .of h, r⟩, q _ F H (Grow.refl e) .bl⟩⟩
end
section
variable {α : Type} [DecidableEq α] [DatumOrd α] [Enc α]
theorem oc_ltD {x y : α} (hd : Datum.depth α ≤ 64 := by decide) : OC S .Lt (enc x) (enc y) (DatumOrd.lt x y) := ⟨rTyp S.K x y _, fun q o pins s σ H v u vv uv Q I rv ru h => by
  obtain ⟨h1, h2, q1⟩ := h
  have := o.units
  exact PySem.W.lt_datum (holds_of I h1 rv) (holds_of I h2 ru) (by show q.A.units + _ < _; omega) ⟨.bl _, H, I, rfl, q1⟩, od_typ⟩
theorem oc_gtD {x y : α} (hd : Datum.depth α ≤ 64 := by decide) : OC S .Gt (enc x) (enc y) (DatumOrd.lt y x) := ⟨rTyp S.K x y _, fun q o pins s σ H v u vv uv Q I rv ru h => by
  obtain ⟨h1, h2, q1⟩ := h
  have := o.units
  exact PySem.W.gt_datum (holds_of I h1 rv) (holds_of I h2 ru) (by show q.A.units + _ < _; omega) ⟨.bl _, H, I, rfl, q1⟩, od_typ⟩
end
theorem oc_isN {x : D} (k : Bool) (h : ∀ v F, Rep S.K F v x → decide (v = .non) = k) : OC S .Is x .non k := ⟨_, fun _ _ => op_isN, fun v u F H Q e rx ry q => by
  cases ry
  exact ⟨rfl, by rw [h v H rx]; exact q _ F H (Grow.refl e) .bl⟩⟩
theorem oc_isnN {x : D} (k : Bool) (h : ∀ v F, Rep S.K F v x → decide (v = .non) = k) : OC S .IsNot x .non (!k) := ⟨_, fun _ _ => op_notN, fun v u F H Q e rx ry q => by
  cases ry
  exact ⟨rfl, by rw [h v H rx]; exact q _ F H (Grow.refl e) .bl⟩⟩
end
end G

namespace G
open PySem PySem.Spec PyProof.Rows L2
open PySem.W (Datum DatumOrd Tup T3)
open Enc (enc)
theorem sqT_ext {K : PySem.W.Frag} {F H : Hp} {a : Addr} {xs : List V} (e : Ext F H) (h : SqT K F a xs) : SqT K H a xs := e.t h
section
variable {S : Sig} {ρ : Env} {a b c e : Expr} {d d1 d2 d3 : D} {ds es' : List D} {pos : Pos} {pin : List Nat} {op : Operator} {es : List Expr}

/-! ### arguments, displays -/
theorem xa_nil : XA S ρ [] [] := ⟨_, fun _ _ => pa_nil, fun σ F H A Q w n q => q [] F H (Grow.refl w.sub) .nil⟩
theorem xa_cons (h : XP S ρ e (.ok d)) (r : XA S ρ es ds) (hs : ∀ env : PySem.Env, starEach (e :: es) env = (false, eval e env) :: starEach es env := by intro _; rfl) : XA S ρ (e :: es) (d :: ds) := by
  obtain ⟨t, h1, h2⟩ := h
  obtain ⟨u, r1, r2⟩ := r
  exact ⟨_, fun q o => pa_cons (h1 q o) (r1 q o) (hs _), fun σ F H A Q w n q => h2 σ F H A _ w n fun v F1 H1 g1 p1 => r2 σ F1 H1 A _ (g1.wf w) (g1.envs n) fun vs F2 H2 g2 p2 => q _ F2 H2 (g1.trans g2) (.cons (p1.mono g2.stp.fs) p2)⟩
theorem xav_nil : XAV S ρ [] [] := ⟨_, fun _ _ => pa_nil, fun σ F H A Q w n q => q [] F H (Grow.refl w.sub) .nil⟩
theorem xav_cons (h : XV S ρ e d) (r : XAV S ρ es ds) (hs : ∀ env : PySem.Env, starEach (e :: es) env = (false, eval e env) :: starEach es env := by intro _; rfl) : XAV S ρ (e :: es) (d :: ds) := by
  obtain ⟨t, h1, h2⟩ := h
  obtain ⟨u, r1, r2⟩ := r
  exact ⟨_, fun q o => pa_cons (h1 q o) (r1 q o) (hs _), fun σ F H A Q w n q => h2 σ F H A _ w n fun v F1 H1 g1 p1 => r2 σ F1 H1 A _ (g1.wf w) (g1.envs n) fun vs F2 H2 g2 p2 => q _ F2 H2 (g1.trans g2) (.cons (p1.mono g2.hh) p2)⟩
theorem reps_new {K : PySem.W.Frag} {F H : Hp} {p : Addr} {o : HO} {vs : List V} {ds : List D} (e : Ext F H) (h : H p = none) (r : Reps K F vs ds) : Reps K (upd F p o) vs ds := r.mono (Grow.new (o := o) e h).stp.fs
theorem xp_tup {k} (h : XA S ρ es ds) (hl : ds.length ≤ 1000000 := by simp) : XP S ρ (.Tuple es k pos) (.ok (.tup ds)) := by
  obtain ⟨t, h1, h2⟩ := h
  refine ⟨_, fun q o => pe_tup (h1 q o), fun σ F H A Q w n q => h2 σ F H A _ w n fun vs F1 H1 g r => ⟨?_, fun p hp => ?_⟩⟩
  · rw [r.length]; exact Nat.le_trans hl (by decide)
  · exact q _ _ _ (g.trans (Grow.new g.ext hp)) (.tup upd_same (reps_new g.ext hp r))
theorem xp_lst (h : XA S ρ es ds) (hl : ds.length ≤ 1000000 := by simp) : XP S ρ (.List es pos) (.ok (.lst ds)) := by
  obtain ⟨t, h1, h2⟩ := h
  refine ⟨_, fun q o => pe_lst (h1 q o), fun σ F H A Q w n q => h2 σ F H A _ w n fun vs F1 H1 g r => ⟨?_, fun p hp => ?_⟩⟩
  · rw [r.length]; exact Nat.le_trans hl (by decide)
  · exact q _ _ _ (g.trans (Grow.new g.ext hp)) (.lst upd_same (reps_new g.ext hp r))
/-- .. owned -/
theorem grow_own {K : PySem.W.Frag} {σ : L2.St} {F H F1 H1 : Hp} {A : List Addr} {ρ : Env} {p : Addr} {o : HO} (w : WF F H A) (n : Envs K F H σ ρ A) (g : Grow F H F1 H1) (hp : H1 p = none) (hi : ¬ Imm (some o) := by exact fun z => z) :
    WF F1 (upd H1 p o) ([p] ++ A) ∧ Stp F H A F1 (upd H1 p o) ([p] ++ A) ∧ Envs K F1 (upd H1 p o) σ ρ A := by
  obtain ⟨s1, w1⟩ := Grow.own1 (o := o) g.ext hp hi
  have w2 := g.wf w
  have np : p ∉ A := fun h => w2.on p h (imm_none hp)
  refine ⟨⟨w1.sub, ?_, ?_, ?_⟩, ?_, ?_⟩
  · rw [List.singleton_append]; exact List.nodup_cons.mpr ⟨np, w.nd⟩
  · intro a h
    rcases List.mem_append.mp h with h | h
    · exact w1.off a h
    · exact w2.off a h
  · intro a h
    rcases List.mem_append.mp h with h | h
    · exact w1.on a h
    · rw [upd_ne fun z => np (by rw [← z]; exact h)]; exact w2.on a h
  · have s2 : Stp F H [] F1 (upd H1 p o) [p] := g.stp.trans s1
    exact (s2.mono (by simp)).more fun a h => .inl h
  · refine (g.envs n).mono (Ext.refl _) (S := A) (fun a u e h => ?_) fun _ h => h
    rw [upd_ne fun z => np (by rw [← z]; exact h)]; exact e
theorem xx_lst (h : XA S ρ es ds) (hl : ds.length ≤ 1000000 := by simp) : XX S ρ (.List es pos) (.ok (.lst (ds.map O.fro)) ρ) := by
  obtain ⟨t, h1, h2⟩ := h
  refine ⟨_, fun q o => pe_lst (h1 q o), fun σ F H A Q w n q => h2 σ F H A _ w n fun vs F1 H1 g r => ⟨?_, fun p hp => ?_⟩⟩
  · rw [r.length]; exact Nat.le_trans hl (by decide)
  · obtain ⟨w3, s3, n3⟩ := grow_own (o := .lst vs) w n g hp
    exact q _ _ _ [p] A w3 s3 (.lst upd_same (Owns.fros r)) n3

/-! ### operators whose operands are frozen -/
def OF (S : Sig) (r : R2) (d1 d2 d : D) : Prop := ∀ (x y : V) (F H : Hp) (Q : VK), Ext F H → Rep S.K F x d1 → Rep S.K F y d2 → (∀ v F' H', Grow F H F' H' → Rep S.K F' v d → Q v H') → r x y H Q
structure OBF (S : Sig) (op : Operator) (d1 d2 d : D) : Prop where
  h : ∃ r, (∀ q, S.Ok q → OpR (S.cx q) (binaryOp op) r) ∧ OF S r d1 d2 d
theorem ep_binF {r : R2} {ta tb : TE} (hr : OF S r d1 d2 d) (ha : EP S ta ρ (.ok d1)) (hb : EP S tb ρ (.ok d2)) : EP S (tOp r ta tb) ρ (.ok d) := fun σ F H A Q w n q =>
  ha σ F H A _ w n fun x F1 H1 g1 r1 => hb σ F1 H1 A _ (g1.wf w) (g1.envs n) fun y F2 H2 g2 r2 =>
    hr x y F2 H2 Q g2.ext (r1.mono g2.stp.fs) r2 fun v F3 H3 g3 r3 => q v F3 H3 ((g1.trans g2).trans g3) r3
theorem xp_binF {op : Operator} (ho : OBF S op d1 d2 d) (ha : XP S ρ a (.ok d1)) (hb : XP S ρ b (.ok d2)) : XP S ρ (.BinOp a op b pos) (.ok d) := by
  obtain ⟨r, h1, h2⟩ := ho.h
  obtain ⟨ta, a1, a2⟩ := ha
  obtain ⟨tb, b1, b2⟩ := hb
  exact ⟨_, fun q k => pe_op (h1 q k) (a1 q k) (b1 q k), ep_binF h2 a2 b2⟩
theorem line_le {n : Nat} (h : n ≤ 1000000) : n ≤ sizeLine := Nat.le_trans h (by decide)
theorem line_lt {n : Nat} (h : n < 1000000) : n < sizeLine := Nat.lt_of_lt_of_le h (by decide)
theorem ob_cat {ds es : List D} (hl : ds.length + es.length ≤ 1000000) : OBF S .Add (.lst ds) (.lst es) (.lst (ds ++ es)) := ⟨_, fun _ _ => op_cat, fun x y F H Q e rx ry q => by
  cases rx with
  | lst h1 r1 =>
    cases ry with
    | lst h2 r2 => exact ⟨_, _, _, _, rfl, rfl, e _ _ h1, e _ _ h2, line_le (by rw [r1.length, r2.length]; exact hl), fun p hp => q _ _ _ (Grow.new e hp) (.lst upd_same (reps_new e hp (r1.append r2)))⟩⟩
theorem ob_catT {ds es : List D} (hl : ds.length + es.length ≤ 1000000) : OBF S .Add (.tup ds) (.tup es) (.tup (ds ++ es)) := ⟨rCatA S.K, fun _ _ => op_catA, fun x y F H Q e rx ry q => by
  cases rx with
  | tup h1 r1 =>
    cases ry with
    | tup h2 r2 =>
      refine ⟨_, _, _, _, rfl, rfl, .of (e _ _ h1), .of (e _ _ h2), line_le (by rw [r1.length, r2.length]; exact hl), fun z => ?_, fun _ z => ?_, fun _ _ p hp => q _ _ _ (Grow.new e hp) (.tup upd_same (reps_new e hp (r1.append r2)))⟩
      · subst z
        cases r1
        exact q _ F H (Grow.refl e) (.tup h2 r2)
      · subst z
        cases r2
        exact q _ F H (Grow.refl e) (by rw [List.append_nil]; exact .tup h1 r1)⟩
theorem Reps.flat_rep {K : PySem.W.Frag} {F : Hp} {vs : List V} {ds : List D} (r : Reps K F vs ds) : ∀ n : Nat, Reps K F (List.replicate n vs).flatten (List.replicate n ds).flatten
  | 0 => .nil
  | n + 1 => by
    rw [List.replicate_succ, List.replicate_succ, List.flatten_cons, List.flatten_cons]
    exact r.append (Reps.flat_rep r n)
theorem ob_rep {ds : List D} {k : Int} (hk : -(2 ^ 63) ≤ k ∧ k < 2 ^ 63) (hl : ds.length * k.toNat ≤ 1000000) : OBF S .Mult (.lst ds) (.int k) (.lst (List.replicate k.toNat ds).flatten) := ⟨_, fun _ _ => op_rep, fun x y F H Q e rx ry q => by
  cases rx with
  | lst h1 r1 =>
    cases ry
    exact ⟨_, _, _, rfl, rfl, e _ _ h1, hk.1, hk.2, line_le (by rw [r1.length]; exact hl), fun p hp => q _ _ _ (Grow.new e hp) (.lst upd_same (reps_new e hp (r1.flat_rep _)))⟩⟩
theorem Tx.app (t u : Tx) : t.s ++ u.s = (⟨t.l ++ u.l⟩ : Tx).s := by
  show (⟨(t.l.map Char.toNat).toArray ++ (u.l.map Char.toNat).toArray⟩ : Str) = ⟨((t.l ++ u.l).map Char.toNat).toArray⟩
  simp
theorem Tx.len (t : Tx) : t.s.length = t.l.length := by show ((t.l.map Char.toNat).toArray).size = _; simp
theorem ob_cats {t u : Tx} (hl : t.l.length + u.l.length ≤ 1000000) : OB S .Add (enc t) (enc u) (enc (⟨t.l ++ u.l⟩ : Tx)) := ⟨_, fun _ _ => op_add_str, fun x y F H Q e rx ry q => by
  cases rx; cases ry
  refine ⟨_, _, rfl, rfl, by rw [Tx.len, Tx.len]; exact line_le hl, ?_⟩
  rw [Tx.app]
  exact q _ F H (Grow.refl e) .str⟩

/-! ### subscripts -/
theorem atI_map {α β : Type} (f : α → β) (xs : List α) (i : Int) : atI (xs.map f) i = (atI xs i).map f := by
  unfold atI
  rw [List.length_map]
  cases ixN xs.length i with
  | none => rfl
  | some j => simp
theorem Reps.atI {K : PySem.W.Frag} {F : Hp} {vs : List V} {ds : List D} {i : Int} (r : Reps K F vs ds) (h : L2.atI ds i = some d) : ∃ v, L2.atI vs i = some v ∧ Rep K F v d := by
  unfold L2.atI at h ⊢
  rw [r.length]
  cases e : ixN ds.length i with
  | none => rw [e] at h; cases h
  | some j =>
    rw [e] at h
    exact r.get (i := j) h
structure OI (S : Sig) (d1 d2 d : D) : Prop where
  h : ∃ r, (∀ q, S.Ok q → IxR (S.cx q) r) ∧ OF S r d1 d2 d
theorem xp_ix (ho : OI S d1 d2 d) (ha : XP S ρ a (.ok d1)) (hb : XP S ρ b (.ok d2)) (hs : PlainIx b := by intro _ _; rfl) : XP S ρ (.Subscript a b pos) (.ok d) := by
  obtain ⟨r, h1, h2⟩ := ho.h
  obtain ⟨ta, a1, a2⟩ := ha
  obtain ⟨tb, b1, b2⟩ := hb
  exact ⟨_, fun q k => pe_ix (h1 q k) (a1 q k) (b1 q k) hs, ep_binF h2 a2 b2⟩
theorem oi_lst {ds : List D} {i : Int} (h : atI ds i = some d) : OI S (.lst ds) (.int i) d := ⟨rIxL S.K, fun _ _ => ix_list, fun x y F H Q e rx ry q => by
  cases rx with
  | lst h1 r1 =>
    cases ry
    obtain ⟨v, e1, e2⟩ := r1.atI h
    exact ⟨_, _, _, v, rfl, rfl, .of (e _ _ h1), e1, q _ F H (Grow.refl e) e2⟩⟩
theorem oi_scr {ds : List D} {i : Int} (h : atI ds i = some d) : OI S (.scr ds) (.int i) d := ⟨rIxL S.K, fun _ _ => ix_list, fun x y F H Q e rx ry q => by
  cases rx with
  | scr h1 r1 =>
    cases ry
    obtain ⟨v, e1, e2⟩ := r1.atI h
    exact ⟨_, _, _, v, rfl, rfl, e.l h1, e1, q _ F H (Grow.refl e) e2⟩⟩
theorem oi_tup {ds : List D} {i : Int} (h : atI ds i = some d) : OI S (.tup ds) (.int i) d := ⟨rIxT S.K, fun _ _ => ix_tup, fun x y F H Q e rx ry q => by
  cases rx with
  | tup h1 r1 =>
    cases ry
    obtain ⟨v, e1, e2⟩ := r1.atI h
    exact ⟨_, _, _, v, rfl, rfl, .of (e _ _ h1), e1, q _ F H (Grow.refl e) e2⟩⟩
theorem oi_tx {t : Tx} {i : Int} {c : Char} (h : atI t.l i = some c) (hl : t.l.length ≤ 1000000) : OI S (enc t) (.int i) (enc (⟨[c]⟩ : Tx)) := ⟨_, fun _ _ => ix_str, fun x y F H Q e rx ry q => by
  cases rx; cases ry
  refine ⟨_, i, c.toNat, rfl, rfl, by rw [Tx.len]; exact line_le hl, ?_, q _ F H (Grow.refl e) .str⟩
  show atI (t.l.map Char.toNat).toArray.toList i = _
  rw [show (t.l.map Char.toNat).toArray.toList = t.l.map Char.toNat from rfl, atI_map, h]
  rfl⟩

/-! ### slices -/
def cutL {α : Type} (xs : List α) (lo hi : Option Int) : List α := (xs.drop (HT.sIx xs.length 0 lo)).take (HT.sIx xs.length xs.length hi - HT.sIx xs.length 0 lo)
theorem cutL_map {α β : Type} (f : α → β) (xs : List α) (lo hi : Option Int) : cutL (xs.map f) lo hi = (cutL xs lo hi).map f := by
  unfold cutL
  rw [List.length_map, ← List.map_drop, ← List.map_take]
theorem Reps.cut {K : PySem.W.Frag} {F : Hp} {vs : List V} {ds : List D} (r : Reps K F vs ds) (lo hi : Option Int) : Reps K F (cutV vs lo hi) (cutL ds lo hi) := by
  unfold cutV cutL
  rw [r.length]
  exact (r.drop _).take _
def XO (S : Sig) (ρ : Env) (e : Option Expr) (i : Option Int) : Prop := ∃ t, (∀ q, S.Ok q → PO (S.cx q) e t) ∧ ∀ (σ : L2.St) (F H : Hp) (A : List Addr) (Q : Option Int → Hp → Prop), WF F H A → Envs S.K F H σ ρ A →
  (∀ F' H', Grow F H F' H' → Q i H') → t σ H Q
theorem xo_none : XO S ρ none none := ⟨_, fun _ _ => po_none, fun σ F H A Q w n q => q F H (Grow.refl w.sub)⟩
theorem xo_some {i : Int} (h : XP S ρ e (.ok (.int i))) : XO S ρ (some e) (some i) := let ⟨t, h1, h2⟩ := h; ⟨_, fun q o => po_some (h1 q o), fun σ F H A Q w n q => h2 σ F H A _ w n fun v F' H' g r => by
  cases r
  exact ⟨i, rfl, q F' H' g⟩⟩
def OSl (S : Sig) (r : V → Option Int → Option Int → Hp → VK → Prop) (d1 : D) (lo hi : Option Int) (d : D) : Prop := ∀ (x : V) (F H : Hp) (Q : VK), Ext F H → Rep S.K F x d1 → (∀ v F' H', Grow F H F' H' → Rep S.K F' v d → Q v H') → r x lo hi H Q
theorem xp_sl {r : V → Option Int → Option Int → Hp → VK → Prop} {el eh : Option Expr} {lo hi : Option Int} {p2 : Pos} (h1 : ∀ q, S.Ok q → SlR (S.cx q) r) (h2 : OSl S r d1 lo hi d) (ha : XP S ρ a (.ok d1)) (hl : XO S ρ el lo) (hh : XO S ρ eh hi) : XP S ρ (.Subscript a (.Slice el eh none p2) pos) (.ok d) := by
  obtain ⟨ta, a1, a2⟩ := ha
  obtain ⟨tl, l1, l2⟩ := hl
  obtain ⟨th, k1, k2⟩ := hh
  refine ⟨_, fun q o => pe_slice (h1 q o) (a1 q o) (l1 q o) (k1 q o), fun σ F H A Q w n q => a2 σ F H A _ w n fun x F1 H1 g1 r1 => l2 σ F1 H1 A _ (g1.wf w) (g1.envs n) fun F2 H2 g2 => ?_⟩
  refine k2 σ F2 H2 A _ ((g1.trans g2).wf w) ((g1.trans g2).envs n) fun F3 H3 g3 => ?_
  exact h2 x F3 H3 Q g3.ext ((r1.mono g2.stp.fs).mono g3.stp.fs) fun v F4 H4 g4 r4 => q v F4 H4 (((g1.trans g2).trans g3).trans g4) r4
theorem xp_slL {ds : List D} {el eh : Option Expr} {lo hi : Option Int} {p2 : Pos} (ha : XP S ρ a (.ok (.lst ds))) (hl : XO S ρ el lo) (hh : XO S ρ eh hi) : XP S ρ (.Subscript a (.Slice el eh none p2) pos) (.ok (.lst (cutL ds lo hi))) :=
  xp_sl (r := rSlL S.K) (fun _ _ => sl_list) (fun x F H Q e rx q => by
    cases rx with
    | lst h r => exact ⟨_, _, rfl, .of (e _ _ h), fun p hp => q _ _ _ (Grow.new e hp) (.lst upd_same (reps_new e hp (r.cut lo hi)))⟩) ha hl hh
theorem xp_slT {ds : List D} {el eh : Option Expr} {lo hi : Option Int} {p2 : Pos} (ha : XP S ρ a (.ok (.tup ds))) (hl : XO S ρ el lo) (hh : XO S ρ eh hi) : XP S ρ (.Subscript a (.Slice el eh none p2) pos) (.ok (.tup (cutL ds lo hi))) :=
  xp_sl (r := rSlA S.K) (fun _ _ => sl_tupA) (fun x F H Q e rx q => by
    cases rx with
    | tup h r =>
      refine ⟨_, _, rfl, .of (e _ _ h), fun z => q _ F H (Grow.refl e) (.tup h ?_), fun _ p hp => q _ _ _ (Grow.new e hp) (.tup upd_same (reps_new e hp (r.cut lo hi)))⟩
      rw [r.length] at z
      have : cutL ds lo hi = ds := by unfold cutL; rw [z.1, z.2]; simp
      rw [this]; exact r) ha hl hh

/-! ### calls of built-ins -/
def rLenQ (K : PySem.W.Frag) : List V → Hp → VK → Prop := fun xs H Q => ∃ p ys, xs = [.ref p] ∧ (SqL K H p ys ∨ SqT K H p ys) ∧ Q (.int ys.length) H
def rListQ (K : PySem.W.Frag) : List V → Hp → VK → Prop := fun xs H Q => ∃ p ys, xs = [.ref p] ∧ (SqL K H p ys ∨ SqT K H p ys) ∧ ∀ l, H l = none → Q (.ref l) (upd H l (.lst ys))
def rTupQ (K : PySem.W.Frag) : List V → Hp → VK → Prop := fun xs H Q => ∃ p ys, xs = [.ref p] ∧ ((SqL K H p ys ∧ ∀ l, H l = none → Q (.ref l) (upd H l (.tup ys))) ∨ (SqT K H p ys ∧ Q (.ref p) H))
structure CB (S : Sig) (id : String) (ds : List D) (d : D) : Prop where
  h : ∃ r : List V → Hp → VK → Prop, (∀ q, S.Ok q → CallR (S.cx q) (.builtin id) r) ∧ ∀ (vs : List V) (F H : Hp) (Q : VK), Ext F H → Reps S.K H vs ds → (∀ v F' H', Grow F H F' H' → Rep S.K F' v d → Q v H') → r vs H Q
structure CT (S : Sig) (id : String) (ds : List D) (d : D) : Prop where
  h : ∃ r : List V → Hp → VK → Prop, (∀ q, S.Ok q → CallR (S.cx q) (.type id) r) ∧ ∀ (vs : List V) (F H : Hp) (Q : VK), Ext F H → Reps S.K F vs ds → (∀ v F' H', Grow F H F' H' → Rep S.K F' v d → Q v H') → r vs H Q
structure CBF (S : Sig) (id : String) (ds : List D) (d : D) : Prop where
  h : ∃ r : List V → Hp → VK → Prop, (∀ q, S.Ok q → CallR (S.cx q) (.builtin id) r) ∧ ∀ (vs : List V) (F H : Hp) (Q : VK), Ext F H → Reps S.K F vs ds → (∀ v F' H', Grow F H F' H' → Rep S.K F' v d → Q v H') → r vs H Q
theorem xp_cb {x : Str} {id : String} {p : Pos} (hc : CB S id ds d) (hm : S.mg x = none) (ha : XAV S ρ (e :: es) ds) (hg : S.scope.names.lookup x = some .globalImplicit := by rfl) (hv : bootBuiltins x = some (.builtin id) := by decide +kernel) (hn : x ≠ "__name__" := by decide) (hdb : (x == ("__debug__" : Str)) = false := by decide)
    (he : ∀ env : PySem.Env, starEach (e :: es) env = (false, eval e env) :: starEach es env := by intro _; rfl) (hpl : ∀ env : PySem.Env, (backTo pos (starEach es env)).any (·.1) = false := by intro _; rfl) : XP S ρ (.Call (.Name x p) (e :: es) [] pos) (.ok d) := by
  obtain ⟨r, h1, h2⟩ := hc.h
  obtain ⟨t, a1, a2⟩ := ha
  exact ⟨_, fun q o => pe_callB (X := S.cx q) (h1 q o) (show S.scope.names.lookup x = some .globalImplicit from hg) hm hv (a1 q o) hn hdb (he _) (hpl _), fun σ F H A Q w n q => a2 σ F H A _ w n fun vs F1 H1 g r1 => h2 vs F1 H1 Q g.ext r1 fun v F2 H2 g2 r2 => q v F2 H2 (g.trans g2) r2⟩
theorem xp_cbF {x : Str} {id : String} {p : Pos} (hc : CBF S id ds d) (hm : S.mg x = none) (ha : XA S ρ (e :: es) ds) (hg : S.scope.names.lookup x = some .globalImplicit := by rfl) (hv : bootBuiltins x = some (.builtin id) := by decide +kernel) (hn : x ≠ "__name__" := by decide) (hdb : (x == ("__debug__" : Str)) = false := by decide)
    (he : ∀ env : PySem.Env, starEach (e :: es) env = (false, eval e env) :: starEach es env := by intro _; rfl) (hpl : ∀ env : PySem.Env, (backTo pos (starEach es env)).any (·.1) = false := by intro _; rfl) : XP S ρ (.Call (.Name x p) (e :: es) [] pos) (.ok d) := by
  obtain ⟨r, h1, h2⟩ := hc.h
  obtain ⟨t, a1, a2⟩ := ha
  exact ⟨_, fun q o => pe_callB (X := S.cx q) (h1 q o) (show S.scope.names.lookup x = some .globalImplicit from hg) hm hv (a1 q o) hn hdb (he _) (hpl _), fun σ F H A Q w n q => a2 σ F H A _ w n fun vs F1 H1 g r1 => h2 vs F1 H1 Q g.ext r1 fun v F2 H2 g2 r2 => q v F2 H2 (g.trans g2) r2⟩
theorem xp_ct {x : Str} {id : String} {p : Pos} (hc : CT S id ds d) (hm : S.mg x = none) (ha : XA S ρ (e :: es) ds) (hg : S.scope.names.lookup x = some .globalImplicit := by rfl) (hv : bootBuiltins x = some (.type id) := by decide +kernel) (hn : x ≠ "__name__" := by decide) (hdb : (x == ("__debug__" : Str)) = false := by decide)
    (he : ∀ env : PySem.Env, starEach (e :: es) env = (false, eval e env) :: starEach es env := by intro _; rfl) (hpl : ∀ env : PySem.Env, (backTo pos (starEach es env)).any (·.1) = false := by intro _; rfl) : XP S ρ (.Call (.Name x p) (e :: es) [] pos) (.ok d) := by
  obtain ⟨r, h1, h2⟩ := hc.h
  obtain ⟨t, a1, a2⟩ := ha
  exact ⟨_, fun q o => pe_callTy (X := S.cx q) (h1 q o) (show S.scope.names.lookup x = some .globalImplicit from hg) hm hv (a1 q o) hn hdb (he _) (hpl _), fun σ F H A Q w n q => a2 σ F H A _ w n fun vs F1 H1 g r1 => h2 vs F1 H1 Q g.ext r1 fun v F2 H2 g2 r2 => q v F2 H2 (g.trans g2) r2⟩
theorem reps1 {K : PySem.W.Frag} {F : Hp} {vs : List V} (r : Reps K F vs [d]) : ∃ v, vs = [v] ∧ Rep K F v d := by
  cases r with
  | cons h r => cases r; exact ⟨_, rfl, h⟩
theorem reps2 {K : PySem.W.Frag} {F : Hp} {vs : List V} (r : Reps K F vs [d1, d2]) : ∃ v w, vs = [v, w] ∧ Rep K F v d1 ∧ Rep K F w d2 := by
  cases r with
  | cons h r => obtain ⟨w, e, h2⟩ := reps1 r; exact ⟨_, w, by rw [e], h, h2⟩
theorem cb_len_lst {ds : List D} : CB S "len" [.lst ds] (.int ds.length) := ⟨rLenQ S.K, fun _ _ => call_len_seq, fun vs F H Q e rr q => by
  obtain ⟨v, rfl, r⟩ := reps1 rr
  cases r with
  | lst h r => exact ⟨_, _, rfl, .inl (.of h), by rw [r.length]; exact q _ F H (Grow.refl e) .int⟩⟩
theorem cb_len_scr {ds : List D} : CB S "len" [.scr ds] (.int ds.length) := ⟨rLenQ S.K, fun _ _ => call_len_seq, fun vs F H Q e rr q => by
  obtain ⟨v, rfl, r⟩ := reps1 rr
  cases r with
  | scr h r => exact ⟨_, _, rfl, .inl h, by rw [r.length]; exact q _ F H (Grow.refl e) .int⟩⟩
theorem cb_len_tup {ds : List D} : CB S "len" [.tup ds] (.int ds.length) := ⟨rLenQ S.K, fun _ _ => call_len_seq, fun vs F H Q e rr q => by
  obtain ⟨v, rfl, r⟩ := reps1 rr
  cases r with
  | tup h r => exact ⟨_, _, rfl, .inr (.of h), by rw [r.length]; exact q _ F H (Grow.refl e) .int⟩⟩
theorem cb_len_tx {t : Tx} (hl : t.l.length ≤ 1000000) : CB S "len" [enc t] (.int t.l.length) := ⟨_, fun _ _ => call_len_str, fun vs F H Q e rr q => by
  obtain ⟨v, rfl, r⟩ := reps1 rr
  cases r
  exact ⟨_, rfl, by rw [Tx.len]; exact line_le hl, by rw [Tx.len]; exact q _ F H (Grow.refl e) .int⟩⟩
theorem cb_abs {i : Int} : CB S "abs" [.int i] (.int (if i < 0 then -i else i)) := ⟨_, fun _ _ => call_abs, fun vs F H Q e rr q => by
  obtain ⟨v, rfl, r⟩ := reps1 rr
  cases r
  exact ⟨_, rfl, q _ F H (Grow.refl e) .int⟩⟩
theorem cb_max2 [Calm S] {i j : Int} : CB S "max" [.int i, .int j] (.int (if j > i then j else i)) := ⟨_, fun _ _ => call_max2 Calm.h, fun vs F H Q e rr q => by
  obtain ⟨v, w, rfl, r, r2⟩ := reps2 rr
  cases r; cases r2
  exact ⟨_, _, rfl, q _ F H (Grow.refl e) .int⟩⟩
theorem cb_min2 [Calm S] {i j : Int} : CB S "min" [.int i, .int j] (.int (if j < i then j else i)) := ⟨_, fun _ _ => call_min2 Calm.h, fun vs F H Q e rr q => by
  obtain ⟨v, w, rfl, r, r2⟩ := reps2 rr
  cases r; cases r2
  exact ⟨_, _, rfl, q _ F H (Grow.refl e) .int⟩⟩
theorem ct_int_bl {k : Bool} : CT S "int" [.bl k] (.int (if k then 1 else 0)) := ⟨_, fun _ _ => call_int1, fun vs F H Q e rr q => by
  obtain ⟨v, rfl, r⟩ := reps1 rr
  cases r
  exact .inr ⟨_, rfl, q _ F H (Grow.refl e) .int⟩⟩
theorem ct_list_lst {ds : List D} : CT S "list" [.lst ds] (.lst ds) := ⟨rListQ S.K, fun _ _ => call_list_of, fun vs F H Q e rr q => by
  obtain ⟨v, rfl, r⟩ := reps1 rr
  cases r with
  | lst h r => exact ⟨_, _, rfl, .inl (.of (e _ _ h)), fun l hl => q _ _ _ (Grow.new e hl) (.lst upd_same (reps_new e hl r))⟩⟩
theorem ct_list_tup {ds : List D} : CT S "list" [.tup ds] (.lst ds) := ⟨rListQ S.K, fun _ _ => call_list_of, fun vs F H Q e rr q => by
  obtain ⟨v, rfl, r⟩ := reps1 rr
  cases r with
  | tup h r => exact ⟨_, _, rfl, .inr (.of (e _ _ h)), fun l hl => q _ _ _ (Grow.new e hl) (.lst upd_same (reps_new e hl r))⟩⟩
theorem ct_tuple_lst {ds : List D} : CT S "tuple" [.lst ds] (.tup ds) := ⟨rTupQ S.K, fun _ _ => call_tuple_of, fun vs F H Q e rr q => by
  obtain ⟨v, rfl, r⟩ := reps1 rr
  cases r with
  | lst h r => exact ⟨_, _, rfl, .inl ⟨.of (e _ _ h), fun l hl => q _ _ _ (Grow.new e hl) (.tup upd_same (reps_new e hl r))⟩⟩⟩
theorem ct_tuple_tup {ds : List D} : CT S "tuple" [.tup ds] (.tup ds) := ⟨rTupQ S.K, fun _ _ => call_tuple_of, fun vs F H Q e rr q => by
  obtain ⟨v, rfl, r⟩ := reps1 rr
  cases r with
  | tup h r => exact ⟨_, _, rfl, .inr ⟨.of (e _ _ h), q _ F H (Grow.refl e) (.tup h r)⟩⟩⟩
theorem map_bl_reps {K : PySem.W.Frag} {F : Hp} : ∀ {vs : List V} {bs : List Bool}, Reps K F vs (bs.map D.bl) → vs = bs.map V.bl
  | _, [], h => by cases h; rfl
  | _, b :: bs, h => by
    cases h with
    | cons h r => cases h; rw [List.map_cons, map_bl_reps r]
theorem map_int_reps {K : PySem.W.Frag} {F : Hp} : ∀ {vs : List V} {bs : List Int}, Reps K F vs (bs.map D.int) → vs = bs.map V.int
  | _, [], h => by cases h; rfl
  | _, b :: bs, h => by
    cases h with
    | cons h r => cases h; rw [List.map_cons, map_int_reps r]
theorem cb_any [Calm S] {bs : List Bool} : CB S "any" [.lst (bs.map D.bl)] (.bl (bs.any id)) := ⟨rAny S.K, fun _ _ => cr_any Calm.h, fun vs F H Q e rr q => by
  obtain ⟨v, rfl, r⟩ := reps1 rr
  cases r with
  | lst h r => exact ⟨_, bs, rfl, by rw [← map_bl_reps r]; exact .of h, q _ F H (Grow.refl e) .bl⟩⟩
theorem cb_all [Calm S] {bs : List Bool} : CB S "all" [.lst (bs.map D.bl)] (.bl (bs.all id)) := ⟨rAll S.K, fun _ _ => cr_all Calm.h, fun vs F H Q e rr q => by
  obtain ⟨v, rfl, r⟩ := reps1 rr
  cases r with
  | lst h r => exact ⟨_, bs, rfl, by rw [← map_bl_reps r]; exact .of h, q _ F H (Grow.refl e) .bl⟩⟩
theorem cb_sum [Calm S] {ns : List Int} : CB S "sum" [.lst (ns.map D.int)] (.int ns.sum) := ⟨rSum S.K, fun _ _ => cr_sum Calm.h, fun vs F H Q e rr q => by
  obtain ⟨v, rfl, r⟩ := reps1 rr
  cases r with
  | lst h r => exact ⟨_, ns, rfl, by rw [← map_int_reps r]; exact .of h, q _ F H (Grow.refl e) .int⟩⟩
end
end G

namespace G
open PySem PySem.Spec PyProof.Rows L2
open PySem.W (Datum DatumOrd Tup T3)
open Enc (enc)
section
variable {S : Sig} {ρ ρ1 : Env} {a b c e : Expr} {d d1 d2 d3 : D} {ds : List D} {pos : Pos} {pin : List Nat} {es : List Expr} {st : Stmt} {ss : List Stmt} {r : RS}

/-! ### blocks -/
theorem xb_nil : XB S pin ρ [] (.nx ρ) := ⟨_, fun _ _ => pss_nil, fun σ F H A D w n q => q σ F H A w Stp.refl n Pin.refl⟩
theorem EPost.trans {D : Ends} {σ σ1 : L2.St} {F H F1 H1 : Hp} {A A1 : List Addr} (q : EPost S pin D σ F H A r) (s : Stp F H A F1 H1 A1) (p : Pin pin σ σ1) : EPost S pin D σ1 F1 H1 A1 r := by
  cases r with
  | nx ρ => exact fun σ' F' H' A' w t n k => q σ' F' H' A' w (s.trans t) n (p.trans k)
  | bk ρ => exact fun σ' F' H' A' w t n k => q σ' F' H' A' w (s.trans t) n (p.trans k)
  | ct ρ => exact fun σ' F' H' A' w t n k => q σ' F' H' A' w (s.trans t) n (p.trans k)
  | rt o ρ => exact fun v σ' F' H' B A' w t ow n k => q v σ' F' H' B A' w (s.trans t) ow n (p.trans k)
  | ex x ρ => exact fun σ' F' H' A' w t n k => q σ' F' H' A' w (s.trans t) n (p.trans k)
theorem EPost.nx {D : Ends} {σ : L2.St} {F H : Hp} {A : List Addr} {u : L2.St → Hp → Prop} (q : EPost S pin D σ F H A r) (h : ∀ ρ, r ≠ .nx ρ) : EPost S pin { D with nx := u } σ F H A r := by
  cases r with
  | nx ρ => exact absurd rfl (h ρ)
  | _ => exact q
theorem es_seq {t u : TS} (h : ES S pin t ρ (.nx ρ1)) (h' : ES S pin u ρ1 r) : ES S pin (tSeq t u) ρ r := fun σ F H A D w n q =>
  h σ F H A _ w n fun σ1 F1 H1 A1 w1 s1 n1 p1 => h' σ1 F1 H1 A1 D w1 n1 (q.trans s1 p1)
theorem xb_cons (h : XS S pin ρ st (.nx ρ1)) (h' : XB S pin ρ1 ss r) : XB S pin ρ (st :: ss) r := by
  obtain ⟨t, h1, h2⟩ := h
  obtain ⟨u, h3, h4⟩ := h'
  exact ⟨_, fun q o => pss_cons (h1 q o) (h3 q o), es_seq h2 h4⟩
/-- a statement that does not go on -/
theorem xb_stop (h : XS S pin ρ st r) (hr : ∀ ρ, r ≠ .nx ρ) : XB S pin ρ (st :: ss) r := by
  obtain ⟨t, h1, h2⟩ := h
  exact ⟨tSeq t tNever, fun q o => pss_cons (h1 q o) pss_never, fun σ F H A D w n q => h2 σ F H A _ w n (q.nx hr)⟩
theorem xb_one (h : XS S pin ρ st r) : XB S pin ρ [st] r := by
  obtain ⟨t, h1, h2⟩ := h
  exact ⟨t, fun q o => pss_one (h1 q o), h2⟩
theorem XB.cast {r' : RS} (h : XB S pin ρ ss r) (e : r = r') : XB S pin ρ ss r' := e ▸ h
theorem XS.cast {r' : RS} (h : XS S pin ρ st r) (e : r = r') : XS S pin ρ st r' := e ▸ h

/-! ### storing in a slot -/
theorem Envs.store {K : PySem.W.Frag} {F H : Hp} {σ : L2.St} {A B : List Addr} {v : V} {o : O} {i : Nat} (n : Envs K F H σ ρ A) (ow : Own K F H v o B) (hi : i < ρ.length) (w : WF F H (B ++ A)) :
    ∃ A', Envs K F H (σ.set i (some v)) (ρ.set i (some o)) A' ∧ WF F H A' ∧ ∀ a ∈ A', a ∈ B ++ A := by
  obtain ⟨C, A1, n1, p1⟩ := n.drop i
  have e1 : (ρ.set i none)[i]? = some none := by rw [List.getElem?_set_self hi]
  obtain ⟨A2, n2, p2⟩ := n1.put ow (i := i) e1
  rw [List.set_set] at n2
  have p3 : (B ++ A).Perm (C ++ (B ++ A1)) := by
    refine (List.Perm.append_left B p1).trans ?_
    rw [← List.append_assoc, ← List.append_assoc]
    exact List.Perm.append_right _ List.perm_append_comm
  refine ⟨A2, n2, ((w.perm p3).right).perm p2.symm, fun a h => ?_⟩
  exact p3.mem_iff.mpr (List.mem_append_right _ (p2.mem_iff.mp h))
/-- name = e -/
theorem xs_set (i : Nat) {x : Str} {p' : Pos} {o : O} (h : XX S ρ e (.ok o ρ1)) (hi : Nat.blt i ρ1.length = true := by rfl) (hp : i ∉ pin := by decide) (hN : S.N[i]? = some x := by rfl) (hx : Loc S.scope x := by first | exact .inl rfl | exact .inr rfl) (hst : S.st x = true ∨ S.scope.names.lookup x = some .local := by first | exact .inl rfl | exact .inr rfl)
    (hs : ∀ env : PySem.Env, swapsWith e (some (.Name x p')) pos.line { env with scope := S.scope } = pure false := by intro _; rfl) : XS S pin ρ (.Assign [.Name x p'] e pos) (.nx (ρ1.set i (some o))) := by
  obtain ⟨t, h1, h2⟩ := h
  refine ⟨_, fun q ok => ps_set (X := S.cx q) (i := i) ok.nd hN hx (h1 q ok) (hs _) (hst.elim (fun z => .inl (ok.fn x z)) .inr), fun σ F H A D w n q => h2 σ F H A _ w n fun v F1 H1 B A1 w1 s1 ow n1 => ?_⟩
  obtain ⟨A2, n2, w2, m2⟩ := n1.store ow (Nat.le_of_ble_eq_true hi) w1
  exact q _ _ _ A2 w2 (s1.perm (fun a => Iff.rfl) m2) n2 (Pin.set hp)
theorem xs_setF (i : Nat) {x : Str} {p' : Pos} (h : XP S ρ e (.ok d)) (hi : Nat.blt i ρ.length = true := by rfl) (hp : i ∉ pin := by decide) (hN : S.N[i]? = some x := by rfl) (hx : Loc S.scope x := by first | exact .inl rfl | exact .inr rfl) (hst : S.st x = true ∨ S.scope.names.lookup x = some .local := by first | exact .inl rfl | exact .inr rfl)
    (hs : ∀ env : PySem.Env, swapsWith e (some (.Name x p')) pos.line { env with scope := S.scope } = pure false := by intro _; rfl) : XS S pin ρ (.Assign [.Name x p'] e pos) (.nx (ρ.set i (some (.fro d)))) := xs_set i h.x hi hp hN hx hst hs
theorem xs_setE (i : Nat) {x y : Str} {p' : Pos} {ρ2 : Option Env} (h : XX S ρ e (.ex y ρ1)) (h2 : ρ2 = none ∨ ρ2 = some ρ1) (hN : S.N[i]? = some x := by rfl) (hx : Loc S.scope x := by first | exact .inl rfl | exact .inr rfl) (hst : S.st x = true ∨ S.scope.names.lookup x = some .local := by first | exact .inl rfl | exact .inr rfl)
    (hs : ∀ env : PySem.Env, swapsWith e (some (.Name x p')) pos.line { env with scope := S.scope } = pure false := by intro _; rfl) : XS S pin ρ (.Assign [.Name x p'] e pos) (.ex y ρ2) := by
  obtain ⟨t, h1, h3⟩ := h
  refine ⟨_, fun q ok => ps_set (X := S.cx q) (i := i) ok.nd hN hx (h1 q ok) (hs _) (hst.elim (fun z => .inl (ok.fn x z)) .inr), fun σ F H A D w n q => h3 σ F H A _ w n fun F1 H1 A1 w1 s1 n1 => ?_⟩
  rcases h2 with rfl | rfl
  · exact q σ F1 H1 [] (WF.none w1.sub) (s1.perm (fun a => Iff.rfl) (by simp)) rfl Pin.refl
  · exact q σ F1 H1 A1 w1 s1 n1 Pin.refl
/-- return e -/
theorem xs_ret {o : O} (h : XX S ρ e (.ok o ρ1)) : XS S pin ρ (.Return (some e) pos) (.rt o (some ρ1)) := by
  obtain ⟨t, h1, h2⟩ := h
  exact ⟨_, fun q ok => ps_ret (h1 q ok), fun σ F H A D w n q => h2 σ F H A _ w n fun v F1 H1 B A1 w1 s1 ow n1 => q v σ F1 H1 B A1 w1 s1 ow n1 Pin.refl⟩
theorem xs_ret0 {o : O} (h : XX S ρ e (.ok o ρ1)) : XS S pin ρ (.Return (some e) pos) (.rt o none) := by
  obtain ⟨t, h1, h2⟩ := h
  refine ⟨_, fun q ok => ps_ret (h1 q ok), fun σ F H A D w n q => h2 σ F H A _ w n fun v F1 H1 B A1 w1 s1 ow n1 => q v σ F1 H1 B [] ?_ ?_ ow rfl Pin.refl⟩
  · rw [List.append_nil]; exact w1.left
  · exact s1.perm (fun a => Iff.rfl) (by simp; exact fun a h => .inl h)
theorem xs_retF (h : XP S ρ e (.ok d)) : XS S pin ρ (.Return (some e) pos) (.rt (.fro d) none) := xs_ret0 h.x
theorem xs_retE {y : Str} {ρ2 : Option Env} (h : XX S ρ e (.ex y ρ1)) (h2 : ρ2 = none ∨ ρ2 = some ρ1) : XS S pin ρ (.Return (some e) pos) (.ex y ρ2) := by
  obtain ⟨t, h1, h3⟩ := h
  refine ⟨_, fun q ok => ps_ret (h1 q ok), fun σ F H A D w n q => h3 σ F H A _ w n fun F1 H1 A1 w1 s1 n1 => ?_⟩
  rcases h2 with rfl | rfl
  · exact q σ F1 H1 [] (WF.none w1.sub) (s1.perm (fun a => Iff.rfl) (by simp)) rfl Pin.refl
  · exact q σ F1 H1 A1 w1 s1 n1 Pin.refl
/-- an expression alone -/
theorem xs_expr {o : O} (h : XX S ρ e (.ok o ρ1)) (hs : ∀ env : PySem.Env, swapsWith e none pos.line env = pure false := by intro _; rfl) : XS S pin ρ (.Expr e pos) (.nx ρ1) := by
  obtain ⟨t, h1, h2⟩ := h
  exact ⟨_, fun q ok => ps_expr (h1 q ok) (hs _), fun σ F H A D w n q => h2 σ F H A _ w n fun v F1 H1 B A1 w1 s1 ow n1 => q σ F1 H1 A1 w1.right (s1.perm (fun a => Iff.rfl) fun a h => List.mem_append_right _ h) n1 Pin.refl⟩
theorem xs_exprE {y : Str} {ρ2 : Option Env} (h : XX S ρ e (.ex y ρ1)) (h2 : ρ2 = none ∨ ρ2 = some ρ1) (hs : ∀ env : PySem.Env, swapsWith e none pos.line env = pure false := by intro _; rfl) : XS S pin ρ (.Expr e pos) (.ex y ρ2) := by
  obtain ⟨t, h1, h3⟩ := h
  refine ⟨_, fun q ok => ps_expr (h1 q ok) (hs _), fun σ F H A D w n q => h3 σ F H A _ w n fun F1 H1 A1 w1 s1 n1 => ?_⟩
  rcases h2 with rfl | rfl
  · exact q σ F1 H1 [] (WF.none w1.sub) (s1.perm (fun a => Iff.rfl) (by simp)) rfl Pin.refl
  · exact q σ F1 H1 A1 w1 s1 n1 Pin.refl
/-- slot i is forgotten -/
theorem xs_forget (i : Nat) (h : XB S pin ρ ss (.nx ρ1)) : XB S pin ρ ss (.nx (ρ1.set i none)) := by
  obtain ⟨t, h1, h2⟩ := h
  refine ⟨t, h1, fun σ F H A D w n q => h2 σ F H A D w n fun σ1 F1 H1 A1 w1 s1 n1 p1 => ?_⟩
  obtain ⟨B, A2, n2, p2⟩ := n1.drop i
  exact q σ1 F1 H1 A2 ((w1.perm p2).right) (s1.perm (fun a => Iff.rfl) fun a h => p2.mem_iff.mpr (List.mem_append_right _ h)) n2 p1
/-- what slot i owns is frozen from here on -/
theorem xb_freeze (i : Nat) {o : O} (hρ : ρ[i]? = some (some o)) (h : XB S pin (ρ.set i (some (.fro o.d))) ss r) : XB S pin ρ ss r := by
  obtain ⟨t, h1, h2⟩ := h
  refine ⟨t, h1, fun σ F H A D w n q => ?_⟩
  obtain ⟨v, B, A', e1, ow, n1, p1⟩ := n.get hρ
  have w1 := w.perm p1
  have s1 := frz_stp w1
  have e2 : (ρ.set i none)[i]? = some none := by
    rw [List.getElem?_set_self]
    exact (List.getElem?_eq_some_iff.mp hρ).1
  have n2 : Envs S.K (frz F H B) H σ (ρ.set i none) A' := n1.mono s1.fs (S := A') (fun _ _ h _ => h) fun _ h => h
  have r1 : Rep S.K (frz F H B) v o.d := ow.frz (S := B) s1.fs fun _ h => h
  obtain ⟨A2, n3, p3⟩ := n2.back (.fro r1) e2 e1
  rw [List.set_set] at n3
  have s2 : Stp F H A (frz F H B) H A2 := s1.perm (fun a => p1.mem_iff.symm) fun a h => by simpa using p3.mem_iff.mp h
  exact h2 σ (frz F H B) H A2 D ((frz_wf w1).perm (by simpa using p3.symm)) n3 (q.trans s2 Pin.refl)

/-! ### if -/
theorem xs_if {k : Bool} {A B : List Stmt} (hc : XT S ρ c k) (ha : k = true → XB S pin ρ A r) (hb : k = false → XB S pin ρ B r) : XS S pin ρ (.If c A B pos) r := by
  obtain ⟨t, h1, h2⟩ := hc
  cases k with
  | true =>
    obtain ⟨u, h3, h4⟩ := ha rfl
    refine ⟨tIfS t u tNever, fun q ok => ps_if (h1 q ok) (h3 q ok) pss_never, fun σ F H A D w n q => h2 σ F H A _ w n fun F1 H1 g => ?_⟩
    show u D σ H1
    exact h4 σ F1 H1 A D (g.wf w) (g.envs n) (q.trans ((g.stp.mono (by simp)).more (C := A) fun a h => .inl h) Pin.refl)
  | false =>
    obtain ⟨u, h3, h4⟩ := hb rfl
    refine ⟨tIfS t tNever u, fun q ok => ps_if (h1 q ok) pss_never (h3 q ok), fun σ F H A D w n q => h2 σ F H A _ w n fun F1 H1 g => ?_⟩
    show u D σ H1
    exact h4 σ F1 H1 A D (g.wf w) (g.envs n) (q.trans ((g.stp.mono (by simp)).more (C := A) fun a h => .inl h) Pin.refl)
/-- two ways, two ends -/
theorem xs_if2 {k : Bool} {A B : List Stmt} {r1 r2 : RS} (hc : XT S ρ c k) (ha : k = true → XB S pin ρ A r1) (hb : k = false → XB S pin ρ B r2) : XS S pin ρ (.If c A B pos) (if k = true then r1 else r2) := by
  cases k with
  | true => exact xs_if hc ha fun z => nomatch z
  | false => exact xs_if hc (fun z => nomatch z) hb
/-- both ways go on -/
theorem xs_ifj {τ : Type} {k : Bool} {A B : List Stmt} (R : τ → Env) {s1 s2 : τ} (hc : XT S ρ c k) (ha : k = true → XB S pin ρ A (.nx (R s1))) (hb : k = false → XB S pin ρ B (.nx (R s2))) : XS S pin ρ (.If c A B pos) (.nx (R (if k = true then s1 else s2))) := by
  cases k with
  | true => exact xs_if hc ha fun z => nomatch z
  | false => exact xs_if hc (fun z => nomatch z) hb
/-- if c: (an end); what follows -/
theorem xb_if {k : Bool} {A : List Stmt} {r1 r2 : RS} (hc : XT S ρ c k) (ha : k = true → XB S pin ρ A r1) (hr : ∀ ρ, r1 ≠ .nx ρ) (hb : k = false → XB S pin ρ ss r2) : XB S pin ρ (.If c A [] pos :: ss) (if k = true then r1 else r2) := by
  cases k with
  | true => exact xb_stop (xs_if hc ha fun z => nomatch z) hr
  | false => exact xb_cons (xs_if hc (fun z => nomatch z) fun _ => xb_nil) (hb rfl)

/-! ### targets -/
def EG (S : Sig) (pin : List Nat) (g : TG) (ρ : Env) (d : D) (ρ1 : Env) : Prop := ∀ (σ : L2.St) (F H : Hp) (A : List Addr) (v : V) (Q : L2.St → Hp → Prop), WF F H A → Envs S.K F H σ ρ A → Rep S.K F v d →
  (∀ σ' A', WF F H A' → (∀ a ∈ A', a ∈ A) → Envs S.K F H σ' ρ1 A' → Pin pin σ σ' → Q σ' H) → g v σ H Q
/-- also what slots a target wipes: the comprehensions' own -/
structure XG (S : Sig) (pin : List Nat) (tg : Expr) (own : List Nat) (g : TG) : Prop where
  h : ∀ q, S.Ok q → PG (S.cx q) tg g
  wipe : ∀ v σ H Q, g v σ H Q → g v σ H fun σ' H' => Q σ' H' ∧ wipe σ' own = wipe σ own
theorem eg_name (i : Nat) (hi : Nat.blt i ρ.length = true := by rfl) (hp : i ∉ pin := by decide) : EG S pin (gName i) ρ d (ρ.set i (some (.fro d))) := fun σ F H A v Q w n r q => by
  obtain ⟨A2, n2, w2, m2⟩ := n.store (B := []) (.fro r) (Nat.le_of_ble_eq_true hi) w
  exact q _ A2 w2 m2 n2 (Pin.set hp)
def EGs (S : Sig) (pin : List Nat) (g : TGs) (ρ : Env) (ds : List D) (ρ1 : Env) : Prop := ∀ (σ : L2.St) (F H : Hp) (A : List Addr) (vs : List V) (Q : L2.St → Hp → Prop), WF F H A → Envs S.K F H σ ρ A → Reps S.K F vs ds →
  (∀ σ' A', WF F H A' → (∀ a ∈ A', a ∈ A) → Envs S.K F H σ' ρ1 A' → Pin pin σ σ' → Q σ' H) → g vs σ H Q
theorem egs_nil : EGs S pin gNil ρ [] ρ := fun σ F H A vs Q w n r q => by
  cases r
  exact ⟨rfl, q σ A w (fun _ h => h) n Pin.refl⟩
theorem egs_cons {t : TG} {u : TGs} {ρ2 : Env} (h : EG S pin t ρ d ρ1) (h' : EGs S pin u ρ1 ds ρ2) : EGs S pin (gCons t u) ρ (d :: ds) ρ2 := fun σ F H A vs Q w n r q => by
  cases r with
  | cons r rr => exact ⟨_, _, rfl, h σ F H A _ _ w n r fun σ1 A1 w1 m1 n1 p1 => h' σ1 F H A1 _ _ w1 n1 rr fun σ2 A2 w2 m2 n2 p2 => q σ2 A2 w2 (fun a h => m1 a (m2 a h)) n2 (p1.trans p2)⟩
theorem eg_tup {u : TGs} {n : Nat} (h : EGs S pin u ρ ds ρ1) (hn : ds.length = n := by rfl) : EG S pin (gTup S.K n u) ρ (.tup ds) ρ1 := fun σ F H A v Q w e r q => by
  cases r with
  | tup ht r => exact ⟨_, _, rfl, .of (w.sub _ _ ht), by rw [r.length]; exact hn, h σ F H A _ Q w e r q⟩
/-- a, b = e -/
theorem xs_unpack {tg : Expr} {g : TG} (hg : ∀ q, S.Ok q → PG (S.cx q) tg g) (h : XP S ρ e (.ok d)) (he : EG S pin g ρ d ρ1) (hs : ∀ env : PySem.Env, swapsWithSole [tg] e pos.line env = pure false := by intro _; rfl) (hw : ∀ env : PySem.Env, swappedStores [tg] e env = pure none := by intro _; rfl)
    (h1 : ∀ env : PySem.Env, (assignEach [tg] env).map (·.2) = [assign tg env] := by intro _; rfl) : XS S pin ρ (.Assign [tg] e pos) (.nx ρ1) := by
  obtain ⟨t, a1, a2⟩ := h
  refine ⟨_, fun q ok => ps_asg (a1 q ok) (hg q ok) (hs _) (hw _) (h1 _), fun σ F H A D w n q => a2 σ F H A _ w n fun v F1 H1 g1 r => he σ F1 H1 A v _ (g1.wf w) (g1.envs n) r fun σ' A' w' m n' p => ?_⟩
  exact q σ' F1 H1 A' w' ((g1.stp.mono (by simp) (A' := A)).more (C := A) (fun a h => .inl h) |>.perm (fun a => Iff.rfl) fun a h => List.mem_append_right _ (m a h)) n' p
end
end G

namespace G
open PySem PySem.Spec PyProof.Rows L2
open PySem.W (Datum DatumOrd Tup T3)
open Enc (enc)

/-! ### what a def promises -/
inductive RM where
  | ok (o : O) (os : List O) | ex (x : Str) (os : List O)
/-- args: what is handed in, frozen or owned; res: what is handed back, and what became of what was handed in -/
def RM.Post (K : PySem.W.Frag) (vs : List V) (F H : Hp) (A : List Addr) (Q : VK) (E : XK) : RM → Prop
  | .ok o os => ∀ v F' H' B A', WF F' H' (B ++ A') → Stp F H A F' H' (B ++ A') → Own K F' H' v o B → Owns K F' H' vs os A' → Q v H'
  | .ex e os => ∀ F' H' A', WF F' H' A' → Stp F H A F' H' A' → Owns K F' H' vs os A' → E (.ref (He.ga K e)) none H'
def spG (K : PySem.W.Frag) {τ : Type} (args : τ → List O) (pre : τ → Prop) (res : τ → RM) : Sp := fun vs H Q E => ∃ (x : τ) (F : Hp) (A : List Addr), WF F H A ∧ Owns K F H vs (args x) A ∧ pre x ∧
  (res x).Post K vs F H A Q E
/-- all that is handed in is frozen -/
def rmF (ds : List D) : Except Str O → RM
  | .ok o => .ok o (ds.map O.fro)
  | .error e => .ex e (ds.map O.fro)
abbrev spP (K : PySem.W.Frag) {τ : Type} (ds : τ → List D) (pre : τ → Prop) (res : τ → Except Str O) : Sp := spG K (fun x => (ds x).map O.fro) pre fun x => rmF (ds x) (res x)
/-- a def of the module, as its callers know it -/
structure FnG (P : Program) (w : World) (K : PySem.W.Frag) (mg : Str → Option Value) (base : Heap) (k : Nat) (x : Str) (ps : List Str) (sp : Sp) : Prop where
  h : ∃ f fd, FnOk P w K mg base (L2N.CX P w) k f fd ps sp ∧ mg x = some (.ref f) ∧ PySem.W.keepIn K (.ref f) = true ∧ Binds K fd ps []
section
variable {S : Sig} {ρ ρ1 : Env} {a b c e : Expr} {d d1 d2 d3 : D} {ds : List D} {pos p2 : Pos} {pin : List Nat} {es : List Expr} {st : Stmt} {ss : List Stmt} {r : RS} {x : Str} {ps : List Str} {k : Nat}
variable {τ : Type} {args : τ → List O} {dd : τ → List D} {pre : τ → Prop} {res : τ → RM} {rese : τ → Except Str O}
def exD : Except Str O → Except Str D
  | .ok o => .ok o.d
  | .error e => .error e
def exX (ρ : Env) : Except Str O → RE
  | .ok o => .ok o ρ
  | .error e => .ex e ρ
theorem ex_call (y : τ) {t : TA} (ha : EA S t ρ (dd y)) (hp : pre y) : EX S (tCallS (spP S.K dd pre rese) (WE S.wx) t) ρ (exX ρ (rese y)) := fun σ F H A Q w n q => ha σ F H A _ w n fun vs F1 H1 g r => by
  refine ⟨y, F1, [], WF.none g.ext, Owns.fros r, hp, ?_⟩
  show RM.Post _ _ _ _ _ _ _ (rmF (dd y) (rese y))
  cases e : rese y with
  | ok o =>
    rw [e] at q
    intro v F2 H2 B A' w2 s2 ow ows
    obtain ⟨_, rfl⟩ := Owns.fros_inv ows
    rw [List.append_nil] at w2 s2
    have w1 := g.wf w
    have nB : ∀ b ∈ B, H1 b = none := fun b hb => (s2.foot b hb).elim (fun z => nomatch z) id
    have keep : ∀ x o, H1 x = some o → H2 x = some o := fun x o h => s2.keep x o h (by simp)
    refine q v F2 H2 B A ⟨w2.sub, ?_, ?_, ?_⟩ ?_ ow ?_
    · refine List.nodup_append.mpr ⟨w2.nd, w.nd, fun x hx y hy e => ?_⟩
      subst e
      exact w1.on x hy (imm_none (nB x hx))
    · intro x hx
      rcases List.mem_append.mp hx with hx | hx
      · exact w2.off x hx
      · cases z : F2 x with
        | none => rfl
        | some o =>
          rcases s2.new x o z with z | z | z
          · rw [w1.off x hx] at z; cases z
          · cases z
          · exact absurd z (w1.on x hx)
    · intro x hx
      rcases List.mem_append.mp hx with hx | hx
      · exact w2.on x hx
      · exact s2.held (by simp) (w1.on x hx)
    · exact ((g.stp.trans s2).mono (by simp) (A' := A)).more fun a h => .inl h
    · exact (g.envs n).mono s2.fs (S := A) (fun x o h _ => keep x o h) fun _ h => h
  | error x =>
    rw [e] at q
    intro F2 H2 A' w2 s2 ows
    obtain ⟨_, rfl⟩ := Owns.fros_inv ows
    have g2 : Grow F1 H1 F2 H2 := ⟨s2, w2.sub⟩
    have g3 := g.trans g2
    exact q F2 H2 A (g3.wf w) ((g3.stp.mono (by simp) (A' := A)).more (C := A) fun a h => .inl h) (g3.envs n)
/-- f(a, ..), all frozen -/
theorem xx_call [Calm S] (hG : FnG S.P S.w S.K S.mg S.base k x ps (spP S.K dd pre rese)) (y : τ) (hp : pre y) (ha : XA S ρ (e :: es) (dd y)) (hk : k ≤ S.kk := by exact Nat.le_of_ble_eq_true rfl) (hg : S.scope.names.lookup x = some .globalImplicit := by rfl) (hdb : (x == ("__debug__" : Str)) = false := by decide)
    (he : ∀ env : PySem.Env, starEach (e :: es) env = (false, eval e env) :: starEach es env := by intro _; rfl) (hpl : ∀ env : PySem.Env, (backTo pos (starEach es env)).any (·.1) = false := by intro _; rfl) : XX S ρ (.Call (.Name x p2) (e :: es) [] pos) (exX ρ (rese y)) := by
  obtain ⟨f, fd, F, hm, kp, b⟩ := hG.h
  obtain ⟨t, a1, a2⟩ := ha
  exact ⟨_, fun q ok => pe_callS (X := S.cx q) F ((ok.calm Calm.h).mono hk) (show S.scope.names.lookup x = some .globalImplicit from hg) hm kp b (fun σ => L2N.passAt ok.tk σ) (a1 q ok) hdb (he _) (hpl _), ex_call y a2 hp⟩
theorem ep_call (y : τ) {t : TA} (ha : EA S t ρ (dd y)) (hp : pre y) : EP S (tCallS (spP S.K dd pre rese) (WE S.wx) t) ρ (exD (rese y)) := fun σ F H A Q w n q => ha σ F H A _ w n fun vs F1 H1 g r => by
  refine ⟨y, F1, [], WF.none g.ext, Owns.fros r, hp, ?_⟩
  show RM.Post _ _ _ _ _ _ _ (rmF (dd y) (rese y))
  cases e : rese y with
  | ok o =>
    rw [e] at q
    intro v F2 H2 B A' w2 s2 ow ows
    obtain ⟨_, rfl⟩ := Owns.fros_inv ows
    have s3 := frz_stp w2
    have w3 := frz_wf w2
    have s4 := s2.trans s3
    exact q v (frz F2 H2 B) H2 (g.trans ⟨s4, w3.sub⟩) (ow.frz (S := B) s3.fs fun _ h => h)
  | error x =>
    rw [e] at q
    intro F2 H2 A' w2 s2 ows
    obtain ⟨_, rfl⟩ := Owns.fros_inv ows
    exact q F2 H2 (g.trans ⟨s2, w2.sub⟩)
theorem xp_call [Calm S] (hG : FnG S.P S.w S.K S.mg S.base k x ps (spP S.K dd pre rese)) (y : τ) (hp : pre y) (ha : XA S ρ (e :: es) (dd y)) (hk : k ≤ S.kk := by exact Nat.le_of_ble_eq_true rfl) (hg : S.scope.names.lookup x = some .globalImplicit := by rfl) (hdb : (x == ("__debug__" : Str)) = false := by decide)
    (he : ∀ env : PySem.Env, starEach (e :: es) env = (false, eval e env) :: starEach es env := by intro _; rfl) (hpl : ∀ env : PySem.Env, (backTo pos (starEach es env)).any (·.1) = false := by intro _; rfl) : XP S ρ (.Call (.Name x p2) (e :: es) [] pos) (exD (rese y)) := by
  obtain ⟨f, fd, F, hm, kp, b⟩ := hG.h
  obtain ⟨t, a1, a2⟩ := ha
  exact ⟨_, fun q ok => pe_callS (X := S.cx q) F ((ok.calm Calm.h).mono hk) (show S.scope.names.lookup x = some .globalImplicit from hg) hm kp b (fun σ => L2N.passAt ok.tk σ) (a1 q ok) hdb (he _) (hpl _), ep_call y a2 hp⟩
/-- .. called with what is only looked at: the answer is only looked at, too -/
theorem xv_call [Calm S] (hG : FnG S.P S.w S.K S.mg S.base k x ps (spP S.K dd pre rese)) (y : τ) (hp : pre y) {o : O} (ho : rese y = .ok o) (ha : XAV S ρ (e :: es) (dd y)) (hk : k ≤ S.kk := by exact Nat.le_of_ble_eq_true rfl) (hg : S.scope.names.lookup x = some .globalImplicit := by rfl) (hdb : (x == ("__debug__" : Str)) = false := by decide)
    (he : ∀ env : PySem.Env, starEach (e :: es) env = (false, eval e env) :: starEach es env := by intro _; rfl) (hpl : ∀ env : PySem.Env, (backTo pos (starEach es env)).any (·.1) = false := by intro _; rfl) : XV S ρ (.Call (.Name x p2) (e :: es) [] pos) o.d := by
  obtain ⟨f, fd, F, hm, kp, b⟩ := hG.h
  obtain ⟨t, a1, a2⟩ := ha
  refine ⟨_, fun q ok => pe_callS (X := S.cx q) F ((ok.calm Calm.h).mono hk) (show S.scope.names.lookup x = some .globalImplicit from hg) hm kp b (fun σ => L2N.passAt ok.tk σ) (a1 q ok) hdb (he _) (hpl _), fun σ F H A Q w n q => a2 σ F H A _ w n fun vs F1 H1 g r => ?_⟩
  refine ⟨y, H1, [], WF.none (Ext.refl _), Owns.fros r, hp, ?_⟩
  show RM.Post _ _ _ _ _ _ _ (rmF (dd y) (rese y))
  rw [ho]
  intro v F2 H2 B A' w2 s2 ow ows
  obtain ⟨_, rfl⟩ := Owns.fros_inv ows
  refine q v F1 H2 (g.trans ⟨⟨Ext.refl _, fun x o h _ => s2.keep x o h (by simp), fun x o h => .inl h, by simp, s2.alive⟩, fun x o h => ?_⟩) (ow.rep w2.sub)
  exact s2.keep x o (g.ext x o h) (by simp)
end

/-! ### a def's body keeps its promise -/
/-- the end of the body, and what was promised -/
inductive Fits : RS → Except Str O → Prop
  | rt {o ρ r} (h : .ok o = r) : Fits (.rt o ρ) r
  | nx {ρ r} (h : .ok (.fro .non) = r) : Fits (.nx ρ) r
  | ex {x ρ r} (h : .error x = r) : Fits (.ex x ρ) r
def sigOf (P : Program) (w : World) (K : PySem.W.Frag) (mg : Str → Option Value) (base : Heap) (N : List Str) (sc : Scope) (k : Nat) (E : XK) : Sig := ⟨P, w, K, mg, base, N, sc, k, fun cls d _ H => E cls d H, fun _ => true, true, none, true⟩
instance {P : Program} {w : World} {K : PySem.W.Frag} {mg : Str → Option Value} {base : Heap} {N : List Str} {sc : Scope} {k : Nat} {E : XK} : Calm (sigOf P w K mg base N sc k E) := ⟨rfl⟩
section
variable {P : Program} {w : World} {K : PySem.W.Frag} {mg : Str → Option Value} {base : Heap}
theorem start_of {F H : Hp} {N : List Str} {vs : List V} {os : List O} {A : List Addr} (r : Owns K F H vs os A) : Envs K F H (L2.start N vs) (os.map some ++ List.replicate (N.length - os.length) none) A := by
  unfold L2.start
  rw [r.length]
  exact Envs.owns _ r
theorem sig_ok {N ps : List Str} {qual : Str} {scope : Scope} {f : Addr} {cd : Value} {A : Around} {outer : List PySem.Env} {s : Shared} {H : Hp} {E : XK} {k : Nat} (Sc : FnScope N ps scope) (hr : Room k (A.deeper (envOfC qual scope s.heap.objs.size f cd))) :
    ∃ q : Rest, (sigOf P w K mg base N scope k E).Ok q ∧ (sigOf P w K mg base N scope k E).cx q = cxOf (L2N.CX P w) P w K mg base N qual scope f cd A outer s H E := by
  refine ⟨⟨A.deeper (envOfC qual scope s.heap.objs.size f cd), s, H, envOfC qual scope s.heap.objs.size f cd, outer, envOfC qual scope s.heap.objs.size f cd :: outer, [], fun _ => true, [], (cxOf (L2N.CX P w) P w K mg base N qual scope f cd A outer s H E).xe⟩, ⟨L2H.roomH_of hr, fun _ => hr.hd, (fun _ _ z => nomatch z), fun _ => ⟨rfl, rfl⟩, ?_, fun _ _ => rfl, Sc.nd, ?_⟩, rfl⟩
  · show L2N.Takes (cxOf (L2N.CX P w) P w K mg base N qual scope f cd A outer s H E) fun cls d _ H => E cls d H
    exact L2N.takes_of rfl rfl rfl (by rfl)
  · show PassesOwn (model P w) (cxOf (L2N.CX P w) P w K mg base N qual scope f cd A outer s H E).A (cxOf (L2N.CX P w) P w K mg base N qual scope f cd A outer s H E).env (cxOf (L2N.CX P w) P w K mg base N qual scope f cd A outer s H E).xe
    exact PassesOwn.leaving
theorem def_pure {x qual : Str} {st : Stmt} {f : Addr} {fd : FuncData} {N ps : List Str} {k : Nat} {τ : Type} {ds : τ → List D} {pre : τ → Prop} {res : τ → Except Str O} (F : ∃ dvs kws, FunD K x qual (defArgs st) (defBody st) (defScope st) dvs kws f fd) (Sc : FnScope N ps (defScope st)) (hl : ∀ y, (ds y).length = ps.length)
    (body : ∀ (y : τ) (E : XK), pre y → ∃ r, XB (sigOf P w K mg base N (defScope st) k E) [] ((ds y).map (fun d => some (O.fro d)) ++ List.replicate (N.length - ps.length) none) (defBody st) r ∧ Fits r (res y)) :
    FnOk P w K mg base (L2N.CX P w) (k + 1) f fd ps (spP K ds pre res) := by
  obtain ⟨dvs, kws, F⟩ := F
  refine F.ok Sc (fun vs H Q E h => ?_) (fun cdv A outer s H vs Q E hr h => ?_)
  · obtain ⟨y, F1, A1, _, ow, _⟩ := h
    rw [ow.length, List.length_map, hl]
  · obtain ⟨y, F1, A1, w1, ow, hp, post⟩ := h
    obtain ⟨r, ⟨t, h1, h2⟩, fit⟩ := body y E hp
    obtain ⟨q, ok, e⟩ := sig_ok (P := P) (w := w) (K := K) (mg := mg) (base := base) (cd := cdv) (outer := outer) (H := H) (E := E) Sc hr
    refine ⟨t, by rw [← e]; exact h1 q ok, ?_⟩
    have n1 := start_of (N := N) ow
    rw [List.length_map, hl, List.map_map] at n1
    refine h2 _ F1 H A1 _ w1 n1 ?_
    have post' : RM.Post K vs F1 H A1 Q E (rmF (ds y) (res y)) := post
    obtain ⟨r0, e0⟩ := Owns.fros_inv ow
    subst e0
    cases fit with
    | rt z =>
      rw [← z] at post'
      intro v σ' F' H' B A' w' s' ow' n' p'
      refine post' v F' H' B [] (by rw [List.append_nil]; exact w'.left) (s'.perm (fun a => Iff.rfl) (by simp; exact fun a h => .inl h)) ow' (Owns.fros (r0.mono s'.fs))
    | nx z =>
      rw [← z] at post'
      intro σ' F' H' A' w' s' n' p'
      exact post' .non F' H' [] [] (WF.none w'.sub) (s'.perm (fun a => Iff.rfl) (by simp)) (.fro .non) (Owns.fros (r0.mono s'.fs))
    | ex z =>
      rw [← z] at post'
      intro σ' F' H' A' w' s' n' p'
      exact post' F' H' [] (WF.none w'.sub) (s'.perm (fun a => Iff.rfl) (by simp)) (Owns.fros (r0.mono s'.fs))
end
end G

namespace G
open PySem PySem.Spec PyProof.Rows L2
open PySem.W (Datum DatumOrd Tup T3)
open Enc (enc)

/-! ### one reading for all states -/
def tAnyB (S : Sig) (ss : List Stmt) : TS := fun D σ H => ∃ t, (∀ q, S.Ok q → PSs (S.cx q) ss t) ∧ t D σ H
def tAnyT (S : Sig) (e : Expr) : TT := fun σ H Q => ∃ t, (∀ q, S.Ok q → PT (S.cx q) e t) ∧ t σ H Q
def tAnyE (S : Sig) (e : Expr) : TE := fun σ H Q => ∃ t, (∀ q, S.Ok q → PE (S.cx q) e t) ∧ t σ H Q
theorem pss_any {S : Sig} {q : Rest} (ok : S.Ok q) (ss : List Stmt) : PSs (S.cx q) ss (tAnyB S ss) := ⟨fun pins s σ H D I ⟨t, h, z⟩ => (h q ok).run pins s σ H D I z⟩
theorem pt_any {S : Sig} {q : Rest} (ok : S.Ok q) (e : Expr) : PT (S.cx q) e (tAnyT S e) := ⟨fun pins s σ H Q I ⟨t, h, z⟩ => (h q ok).run pins s σ H Q I z⟩
theorem pe_any {S : Sig} {q : Rest} (ok : S.Ok q) (e : Expr) : PE (S.cx q) e (tAnyE S e) := ⟨fun pins s σ H Q I ⟨t, h, z⟩ => (h q ok).run pins s σ H Q I z⟩
section
variable {S : Sig} {ρ ρ1 : Env} {a b c e it tg : Expr} {d d1 d2 d3 : D} {ds : List D} {pos p2 : Pos} {pin : List Nat} {es : List Expr} {st : Stmt} {ss body : List Stmt} {r : RS} {x : Str}
theorem XB.any (h : XB S pin ρ ss r) : ES S pin (tAnyB S ss) ρ r := let ⟨t, h1, h2⟩ := h; fun σ F H A D w n q => ⟨t, h1, h2 σ F H A D w n q⟩
theorem XT.any {k : Bool} (h : XT S ρ e k) : ET S (tAnyT S e) ρ k := let ⟨t, h1, h2⟩ := h; fun σ F H A D w n q => ⟨t, h1, h2 σ F H A D w n q⟩

/-! ### what is walked -/
/-- the i-th thing that comes is ds[i]; all the while what is frozen stands -/
structure Src (K : PySem.W.Frag) (J : It) (F : Hp) (ds : List D) : Prop where
  h : ∃ (G : Hp → Prop) (Y : Nat → Hp → V → Hp → Prop), Walk J ds.length G Y ∧ (∀ H2, Ext F H2 → G H2) ∧
    ∀ i H2 x H3 F2, i < ds.length → Ext F F2 → Ext F2 H2 → Y i H2 x H3 → ∃ F3 d, ds[i]? = some d ∧ Grow F2 H2 F3 H3 ∧ Rep K F3 x d
def XI (S : Sig) (ρ : Env) (tg it : Expr) (ds : List D) : Prop := ∃ wi : TI, (∀ q, S.Ok q → PI (S.cx q) tg it wi) ∧
  ∀ (σ : L2.St) (F H : Hp) (A : List Addr) (R : It → Hp → Prop), WF F H A → Envs S.K F H σ ρ A → (∀ J F' H', Grow F H F' H' → Src S.K J F' ds → R J H') → wi σ H R
theorem src_at {K : PySem.W.Frag} {F : Hp} {J : It} {xs : List V} {G : Hp → Prop} (r : Reps K F xs ds) (w : Walk J xs.length G (YAt xs)) (g : ∀ H2, Ext F H2 → G H2) : Src K J F ds := by
  refine ⟨G, YAt xs, by rw [← r.length]; exact w, g, fun i H2 x H3 F2 hi e e2 y => ?_⟩
  obtain ⟨rfl, hx⟩ := y
  obtain ⟨d, h1, h2⟩ := r.get' hx
  exact ⟨F2, d, h1, Grow.refl e2, h2.mono e⟩
theorem xi_lst (h : XP S ρ it (.ok (.lst ds))) : XI S ρ tg it ds := by
  obtain ⟨t, h1, h2⟩ := h
  refine ⟨iList S.K t, fun q ok => pi_list (h1 q ok), fun σ F H A R w n k => h2 σ F H A _ w n fun v F1 H1 g r => ?_⟩
  cases r with
  | lst hl r => exact ⟨_, rfl, ⟨_, .of (g.ext _ _ hl)⟩, k _ F1 H1 g (src_at r walk_list fun H2 e => .of (e _ _ hl))⟩
theorem xi_tup (h : XP S ρ it (.ok (.tup ds))) : XI S ρ tg it ds := by
  obtain ⟨t, h1, h2⟩ := h
  refine ⟨iTup S.K t, fun q ok => pi_tup (h1 q ok), fun σ F H A R w n k => h2 σ F H A _ w n fun v F1 H1 g r => ?_⟩
  cases r with
  | tup hl r => exact ⟨_, rfl, ⟨_, .of (g.ext _ _ hl)⟩, k _ F1 H1 g (src_at r walk_tup fun H2 e => .of (e _ _ hl))⟩
/-- lo, lo + 1, .., below hi -/
def rng (lo hi : Int) : List Int := (List.range (hi - lo).toNat).map fun i => lo + (i : Nat)
theorem rng_len (lo hi : Int) : (rng lo hi).length = (hi - lo).toNat := by unfold rng; simp
theorem rng_get {lo hi : Int} {i : Nat} (h : i < (hi - lo).toNat) : (rng lo hi)[i]? = some (lo + (i : Nat)) := by unfold rng; simp [h]
theorem src_rng {K : PySem.W.Frag} {F : Hp} {lo hi : Int} : Src K (Itr lo (hi - lo).toNat) F ((rng lo hi).map D.int) := by
  refine ⟨_, _, by rw [List.length_map, rng_len]; exact walk_range, fun _ _ => trivial, fun i H2 x H3 F2 hh e e2 y => ?_⟩
  rw [List.length_map, rng_len] at hh
  obtain ⟨rfl, rfl⟩ := y
  exact ⟨F2, .int (lo + (i : Nat)), by rw [List.getElem?_map, rng_get hh]; rfl, Grow.refl e2, .int⟩
theorem xi_rng1 {hi : Int} (hm : S.mg "range" = none) (h : XP S ρ a (.ok (.int hi))) (hb : -(2 ^ 62) ≤ hi ∧ hi < 2 ^ 62) (hg : S.scope.names.lookup ("range" : Str) = some .globalImplicit := by rfl) (hs : ∀ env : PySem.Env, starEach [a] env = [(false, eval a env)] := by intro _; rfl) :
    XI S ρ tg (.Call (.Name "range" p2) [a] [] pos) ((rng 0 hi).map D.int) := by
  obtain ⟨t, h1, h2⟩ := xa_cons h xa_nil (fun env => hs env)
  refine ⟨_, fun q ok => pi_range1 (X := S.cx q) (show S.scope.names.lookup ("range" : Str) = some .globalImplicit from hg) hm (h1 q ok) (hs _), fun σ F H A R w n k => h2 σ F H A _ w n fun vs F1 H1 g rr => ?_⟩
  obtain ⟨v, rfl, r⟩ := reps1 rr
  cases r
  exact ⟨hi, rfl, hb.1, hb.2, k _ F1 H1 g (by have := src_rng (K := S.K) (F := F1) (lo := 0) (hi := hi); rw [Int.sub_zero] at this; exact this)⟩
theorem xi_rng2 {lo hi : Int} (hm : S.mg "range" = none) (h : XP S ρ a (.ok (.int lo))) (h' : XP S ρ b (.ok (.int hi))) (hb : -(2 ^ 62) ≤ lo ∧ lo < 2 ^ 62 ∧ -(2 ^ 62) ≤ hi ∧ hi < 2 ^ 62) (hg : S.scope.names.lookup ("range" : Str) = some .globalImplicit := by rfl)
    (hs : ∀ env : PySem.Env, starEach [a, b] env = [(false, eval a env), (false, eval b env)] := by intro _; rfl) (hs2 : ∀ env : PySem.Env, starEach [b] env = [(false, eval b env)] := by intro _; rfl) : XI S ρ tg (.Call (.Name "range" p2) [a, b] [] pos) ((rng lo hi).map D.int) := by
  obtain ⟨t, h1, h2⟩ := xa_cons h (xa_cons h' xa_nil (fun env => hs2 env)) (fun env => by rw [hs env, hs2 env])
  refine ⟨_, fun q ok => pi_range2 (X := S.cx q) (show S.scope.names.lookup ("range" : Str) = some .globalImplicit from hg) hm (h1 q ok) (hs _) (hs2 _), fun σ F H A R w n k => h2 σ F H A _ w n fun vs F1 H1 g rr => ?_⟩
  obtain ⟨v, u, rfl, r, r2⟩ := reps2 rr
  cases r; cases r2
  exact ⟨lo, hi, rfl, hb, k _ F1 H1 g src_rng⟩
/-- sign by sign -/
theorem xi_tx {t : Tx} (h : XP S ρ it (.ok (enc t))) : XI S ρ tg it (t.l.map fun c => enc (⟨[c]⟩ : Tx)) := by
  obtain ⟨u, h1, h2⟩ := h
  refine ⟨_, fun q ok => pi_str (h1 q ok), fun σ F H A R w n k => h2 σ F H A _ w n fun v F1 H1 g r => ?_⟩
  cases r
  refine ⟨_, rfl, k _ F1 H1 g ⟨_, _, by rw [List.length_map, ← Tx.len]; exact walk_str, fun _ _ => trivial, fun i H2 x H3 F2 hh e e2 y => ?_⟩⟩
  obtain ⟨rfl, c, hc, rfl⟩ := y
  have hc' : (t.l.map Char.toNat)[i]? = some c := by
    have : (t.l.map Char.toNat).toArray[i]? = some c := hc
    simpa using this
  rw [List.getElem?_map] at hc'
  cases z : t.l[i]? with
  | none => rw [z] at hc'; cases hc'
  | some ch =>
    rw [z] at hc'
    cases hc'
    exact ⟨F2, enc (⟨[ch]⟩ : Tx), by rw [List.getElem?_map, z]; rfl, Grow.refl e2, .str⟩
/-- pairs, new each time -/
theorem src_pair {K : PySem.W.Frag} {F : Hp} {J : It} {xs ys : Nat → Option V} {G : Hp → Prop} {n : Nat} (hn : n = ds.length) (w : Walk J n G (YPair xs ys)) (g : ∀ H2, Ext F H2 → G H2)
    (r : ∀ i x y, i < n → xs i = some x → ys i = some y → ∃ d1 d2, ds[i]? = some (.tup [d1, d2]) ∧ Rep K F x d1 ∧ Rep K F y d2) : Src K J F ds := by
  subst hn
  refine ⟨G, YPair xs ys, w, g, fun i H2 x H3 F2 hi e e2 y => ?_⟩
  obtain ⟨T, u, v, rfl, nT, rfl, hu, hv⟩ := y
  obtain ⟨d1, d2, h1, h2, h3⟩ := r i u v hi hu hv
  have gr : Grow F2 H2 (upd F2 T (.tup [u, v])) (upd H2 T (.tup [u, v])) := Grow.new e2 nT
  exact ⟨_, _, h1, gr, .tup upd_same (.cons ((h2.mono e).mono gr.stp.fs) (.cons ((h3.mono e).mono gr.stp.fs) .nil))⟩
def enumL {α : Type} (xs : List α) : List (Int × α) := (List.range xs.length).zip xs |>.map fun p => (((p.1 : Nat) : Int), p.2)
theorem enumL_len {α : Type} (xs : List α) : (enumL xs).length = xs.length := by unfold enumL; simp
theorem enumL_get {α : Type} {xs : List α} {i : Nat} {x : α} (h : xs[i]? = some x) : (enumL xs)[i]? = some (((i : Nat) : Int), x) := by
  have hi : i < xs.length := (List.getElem?_eq_some_iff.mp h).1
  unfold enumL
  have e : ((List.range xs.length).zip xs)[i]? = some (i, x) := List.getElem?_zip_eq_some.mpr ⟨by rw [List.getElem?_range hi], h⟩
  rw [List.getElem?_map, e]
  rfl
theorem xi_enum {elts : List Expr} {kk : Nat} {tpos : Pos} {α : Type} {f : α → D} {xs : List α} (hm : S.mg "enumerate" = none) (h : XP S ρ a (.ok (.lst (xs.map f)))) (hg : S.scope.names.lookup ("enumerate" : Str) = some .globalImplicit := by rfl) (hs : ∀ env : PySem.Env, starEach [a] env = [(false, eval a env)] := by intro _; rfl) :
    XI S ρ (.Tuple elts kk tpos) (.Call (.Name "enumerate" p2) [a] [] pos) ((enumL xs).map fun p => .tup [.int p.1, f p.2]) := by
  obtain ⟨t, h1, h2⟩ := xa_cons h xa_nil (fun env => hs env)
  refine ⟨iEnum S.K t, fun q ok => pi_enum (X := S.cx q) (show S.scope.names.lookup ("enumerate" : Str) = some .globalImplicit from hg) hm (h1 q ok) (hs _), fun σ F H A R w n k => h2 σ F H A _ w n fun vs F1 H1 g rr => ?_⟩
  obtain ⟨v, rfl, r⟩ := reps1 rr
  cases r with
  | lst hl r =>
    have len := r.length
    rw [List.length_map] at len
    refine ⟨_, _, rfl, .of (g.ext _ _ hl), k _ F1 H1 g (src_pair (by rw [List.length_map, enumL_len, len]) walk_enum (fun H2 e => .of (e _ _ hl)) fun i u v hi hu hv => ?_)⟩
    cases hu
    obtain ⟨d, e1, e2⟩ := r.get' hv
    rw [List.getElem?_map] at e1
    cases z : xs[i]? with
    | none => rw [z] at e1; cases e1
    | some y =>
      rw [z] at e1
      cases e1
      exact ⟨_, _, by rw [List.getElem?_map, enumL_get z]; rfl, .int, e2⟩
theorem xi_zip {elts : List Expr} {kk : Nat} {tpos : Pos} {α β : Type} {f : α → D} {f' : β → D} {xs : List α} {ys : List β} (hm : S.mg "zip" = none) (h : XP S ρ a (.ok (.lst (xs.map f)))) (h' : XP S ρ b (.ok (.lst (ys.map f')))) (hg : S.scope.names.lookup ("zip" : Str) = some .globalImplicit := by rfl)
    (hs : ∀ env : PySem.Env, starEach [a, b] env = (false, eval a env) :: starEach [b] env := by intro _; rfl) (hs2 : ∀ env : PySem.Env, starEach [b] env = (false, eval b env) :: starEach [] env := by intro _; rfl) (hpl : ∀ env : PySem.Env, (backTo pos (starEach [b] env)).any (·.1) = false := by intro _; rfl) :
    XI S ρ (.Tuple elts kk tpos) (.Call (.Name "zip" p2) [a, b] [] pos) ((xs.zip ys).map fun p => .tup [f p.1, f' p.2]) := by
  obtain ⟨t, h1, h2⟩ := xa_cons h (xa_cons h' xa_nil hs2) hs
  refine ⟨iZip S.K t, fun q ok => pi_zip (X := S.cx q) (show S.scope.names.lookup ("zip" : Str) = some .globalImplicit from hg) hm (h1 q ok) (hs _) (hpl _), fun σ F H A R w n k => h2 σ F H A _ w n fun vs F1 H1 g rr => ?_⟩
  obtain ⟨v, u, rfl, r, r2⟩ := reps2 rr
  cases r with
  | lst hl r =>
    cases r2 with
    | lst hl2 r2 =>
      have len := r.length
      have len2 := r2.length
      rw [List.length_map] at len len2
      refine ⟨_, _, _, _, rfl, .of (g.ext _ _ hl), .of (g.ext _ _ hl2), k _ F1 H1 g (src_pair (n := min xs.length ys.length) (by simp) (walk_zip (by rw [len, len2])) (fun H2 e => ⟨.of (e _ _ hl), .of (e _ _ hl2)⟩) fun i u v hi hu hv => ?_)⟩
      obtain ⟨d, e1, e2⟩ := r.get' hu
      obtain ⟨d', e1', e2'⟩ := r2.get' hv
      rw [List.getElem?_map] at e1 e1'
      cases z : xs[i]? with
      | none => rw [z] at e1; cases e1
      | some y =>
        rw [z] at e1
        cases e1
        cases z' : ys[i]? with
        | none => rw [z'] at e1'; cases e1'
        | some y' =>
          rw [z'] at e1'
          cases e1'
          exact ⟨_, _, by rw [List.getElem?_map, (List.getElem?_zip_eq_some (z := (y, y'))).mpr ⟨z, z'⟩]; rfl, e2, e2'⟩

/-! ### for -/
inductive LO (σ β : Type) where
  | nx (s : σ) | bk (s : σ) | rt (b : β)
def LO.rs {σ β : Type} (R : σ → Env) (fr : β → RS) : LO σ β → RS
  | .nx s => .nx (R s)
  | .bk s => .bk (R s)
  | .rt b => fr b
/-- what ends the def -/
def Term : RS → Prop
  | .rt _ _ => True
  | .ex _ _ => True
  | _ => False
/-- the loop over xs -/
def forL {α σ β : Type} (f : σ → α → LO σ β) : List α → σ → LO σ β
  | [], s => .nx s
  | x :: xs, s => match f s x with
    | .nx s' => forL f xs s'
    | .bk s' => .nx s'
    | .rt b => .rt b
theorem xs_for [Calm S] {α σ β : Type} (xs : List α) (g : α → D) (R : σ → Env) (f : σ → α → LO σ β) (fr : β → RS) (I : Nat → σ → Prop) {tgt : TG} (ρb : σ → α → Env) (s0 : σ)
    (hi : XI S (R s0) tg it (xs.map g)) (hg : ∀ q, S.Ok q → PG (S.cx q) tg tgt) (hG : ∀ s x, EG S pin tgt (R s) (g x) (ρb s x)) (h0 : I 0 s0) (hfr : ∀ b, Term (fr b))
    (hb : ∀ i s x, xs[i]? = some x → I i s → XB S pin (ρb s x) body ((f s x).rs R fr) ∧ ∀ s', f s x = .nx s' → I (i + 1) s')
    (hs : ∀ (env : PySem.Env) (x : Value), foldedSetIterable it env x = pure x := by intro _ _; rfl) : XS S pin (R s0) (.For tg it body [] pos) ((forL f xs s0).rs R fr) := by
  obtain ⟨wi, i1, i2⟩ := hi
  refine ⟨_, fun q ok => ps_for (X := S.cx q) ok.po Calm.h (i1 q ok) (hg q ok) (pss_any ok body) (hs _), fun σ F H A D w n post => i2 σ F H A _ w n fun J F1 H1 gr src => ?_⟩
  obtain ⟨G, Y, wk, hG1, hY⟩ := src.h
  rw [List.length_map] at wk hY
  have st1 : Stp F H A F1 H1 A := (gr.stp.mono (by simp)).more (C := A) fun a h => .inl h
  refine for_it wk (fun i σ' H' => ∃ F' A' s, WF F' H' A' ∧ Stp F H A F' H' A' ∧ Ext F1 F' ∧ Envs S.K F' H' σ' (R s) A' ∧ Pin pin σ σ' ∧ I i s ∧ forL f xs s0 = forL f (xs.drop i) s) ⟨F1, A, s0, gr.wf w, st1, Ext.refl _, gr.envs n, Pin.refl, h0, rfl⟩
    (fun i σ' H' hi ⟨F', A', s, w', s', e', _⟩ => hG1 H' (e'.trans w'.sub)) (fun i v σ' H' H'' hi ⟨F', A', s, w', s', e', n', p', hI, fe⟩ y => ?_) (fun σ' H' ⟨F', A', s, w', s', e', n', p', hI, fe⟩ => ?_)
  · obtain ⟨F2, d, hd, g2, rep⟩ := hY i H' v H'' F' hi e' w'.sub y
    rw [List.getElem?_map, List.getElem?_eq_getElem hi] at hd
    cases hd
    have hx : xs[i]? = some xs[i] := List.getElem?_eq_getElem hi
    have w2 := g2.wf w'
    have st2 : Stp F' H' A' F2 H'' A' := (g2.stp.mono (by simp)).more (C := A') fun a h => .inl h
    obtain ⟨hb1, hb2⟩ := hb i s xs[i] hx hI
    refine hG s xs[i] σ' F2 H'' A' v _ w2 (g2.envs n') rep fun σ3 A3 w3 m3 n3 p3 => ?_
    have st3 : Stp F H A F2 H'' A3 := (s'.trans st2).perm (fun a => Iff.rfl) m3
    have e3 : forL f xs s0 = (match f s xs[i] with
        | .nx s' => forL f (xs.drop (i + 1)) s'
        | .bk s' => .nx s'
        | .rt b => .rt b) := by
      rw [fe, List.drop_eq_getElem_cons hi]
      rfl
    refine hb1.any σ3 F2 H'' A3 _ w3 n3 ?_
    cases ef : f s xs[i] with
    | nx s2 =>
      rw [ef] at e3
      intro σ4 F4 H4 A4 w4 s4 n4 p4
      exact ⟨F4, A4, s2, w4, st3.trans s4, (e'.trans g2.stp.fs).trans s4.fs, n4, (p'.trans p3).trans p4, hb2 s2 ef, e3⟩
    | bk s2 =>
      rw [ef] at e3
      rw [e3] at post
      intro σ4 F4 H4 A4 w4 s4 n4 p4
      exact post σ4 F4 H4 A4 w4 (st3.trans s4) n4 ((p'.trans p3).trans p4)
    | rt b =>
      rw [ef] at e3
      rw [e3] at post
      have post' : EPost S pin D σ F H A (fr b) := post
      have tm := hfr b
      show EPost S pin _ σ3 F2 H'' A3 (fr b)
      cases ec : fr b with
      | nx _ => rw [ec] at tm; exact tm.elim
      | bk _ => rw [ec] at tm; exact tm.elim
      | ct _ => rw [ec] at tm; exact tm.elim
      | rt o ρ' =>
        rw [ec] at post'
        intro u σ4 F4 H4 B A4 w4 s4 ow n4 p4
        exact post' u σ4 F4 H4 B A4 w4 (st3.trans s4) ow n4 ((p'.trans p3).trans p4)
      | ex y ρ' =>
        rw [ec] at post'
        intro σ4 F4 H4 A4 w4 s4 n4 p4
        exact post' σ4 F4 H4 A4 w4 (st3.trans s4) n4 ((p'.trans p3).trans p4)
  · rw [List.drop_length] at fe
    rw [fe] at post
    exact post σ' F' H' A' w' s' n' p'

/-! ### while -/
def whL {σ β : Type} (c : σ → Bool) (f : σ → LO σ β) : Nat → σ → Option (LO σ β)
  | 0, _ => none
  | n + 1, s => if c s = true then (match f s with
    | .nx s' => whL c f n s'
    | .bk s' => some (.nx s')
    | .rt b => some (.rt b)) else some (.nx s)
theorem xs_while {σ β : Type} {cond : Expr} (R : σ → Env) (c : σ → Bool) (f : σ → LO σ β) (fr : β → RS) (I : σ → Prop) (s0 : σ) (n : Nat) {o : LO σ β} (ho : whL c f n s0 = some o) (h0 : I s0) (hfr : ∀ b, Term (fr b))
    (hc : ∀ s, I s → XT S (R s) cond (c s)) (hb : ∀ s, I s → c s = true → XB S pin (R s) body ((f s).rs R fr) ∧ ∀ s', f s = .nx s' → I s') : XS S pin (R s0) (.While cond body [] pos) (o.rs R fr) := by
  refine ⟨_, fun q ok => ps_while (X := S.cx q) ok.po (pt_any ok cond) (pss_any ok body), fun σ F H A D w nv post => ?_⟩
  refine ⟨fun m σ' H' => ∃ F' A' s, WF F' H' A' ∧ Stp F H A F' H' A' ∧ Envs S.K F' H' σ' (R s) A' ∧ Pin pin σ σ' ∧ I s ∧ whL c f m s = some o, ⟨n, F, A, s0, w, Stp.refl, nv, Pin.refl, h0, ho⟩, ?_⟩
  rintro m σ' H' ⟨F', A', s, w', s', n', p', hI, fe⟩
  cases m with
  | zero => cases fe
  | succ m =>
    refine (hc s hI).any σ' F' H' A' _ w' n' fun F2 H2 g => ?_
    have w2 := g.wf w'
    have n2 := g.envs n'
    have st2 : Stp F H A F2 H2 A' := s'.trans ((g.stp.mono (by simp)).more (C := A') fun a h => .inl h)
    unfold whL at fe
    cases ec : c s with
    | false =>
      rw [ec, if_neg (by simp)] at fe
      cases fe
      rw [if_neg (by simp)]
      exact post σ' F2 H2 A' w2 st2 n2 p'
    | true =>
      rw [ec, if_pos rfl] at fe
      rw [if_pos rfl]
      obtain ⟨hb1, hb2⟩ := hb s hI ec
      refine ⟨fun σ'' H'' => ∃ F' A' s, WF F' H'' A' ∧ Stp F H A F' H'' A' ∧ Envs S.K F' H'' σ'' (R s) A' ∧ Pin pin σ σ'' ∧ I s ∧ whL c f m s = some o, fun σ'' H'' h => ⟨m, Nat.lt_succ_self m, h⟩, ?_⟩
      refine hb1.any σ' F2 H2 A' _ w2 n2 ?_
      cases ef : f s with
      | nx s2 =>
        rw [ef] at fe
        intro σ4 F4 H4 A4 w4 s4 n4 p4
        exact ⟨F4, A4, s2, w4, st2.trans s4, n4, p'.trans p4, hb2 s2 ef, fe⟩
      | bk s2 =>
        rw [ef] at fe
        cases fe
        intro σ4 F4 H4 A4 w4 s4 n4 p4
        exact post σ4 F4 H4 A4 w4 (st2.trans s4) n4 (p'.trans p4)
      | rt b =>
        rw [ef] at fe
        cases fe
        have post' : EPost S pin D σ F H A (fr b) := post
        have tm := hfr b
        show EPost S pin _ σ' F2 H2 A' (fr b)
        cases ec : fr b with
        | nx _ => rw [ec] at tm; exact tm.elim
        | bk _ => rw [ec] at tm; exact tm.elim
        | ct _ => rw [ec] at tm; exact tm.elim
        | rt o ρ' =>
          rw [ec] at post'
          intro u σ4 F4 H4 B A4 w4 s4 ow n4 p4
          exact post' u σ4 F4 H4 B A4 w4 (st2.trans s4) ow n4 (p'.trans p4)
        | ex y ρ' =>
          rw [ec] at post'
          intro σ4 F4 H4 A4 w4 s4 n4 p4
          exact post' σ4 F4 H4 A4 w4 (st2.trans s4) n4 (p'.trans p4)
end
end G

namespace G
open PySem PySem.Spec PyProof.Rows L2
open PySem.W (Datum DatumOrd Tup T3)
open Enc (enc)

/-! ### new and owned, nothing else changed -/
def EN (S : Sig) (t : TE) (ρ : Env) (o : O) : Prop := ∀ (σ : L2.St) (F H : Hp) (A : List Addr) (Q : VK), WF F H A → Envs S.K F H σ ρ A →
  (∀ v F' H' B, Stp F H [] F' H' B → WF F' H' B → Own S.K F' H' v o B → Q v H') → t σ H Q
def XN (S : Sig) (ρ : Env) (e : Expr) (o : O) : Prop := ∃ t, (∀ q, S.Ok q → PE (S.cx q) e t) ∧ EN S t ρ o
section
variable {S : Sig} {ρ ρ1 : Env} {a b c e it tg elt : Expr} {d d1 d2 d3 : D} {ds : List D} {pos p2 : Pos} {pin : List Nat} {es : List Expr} {o : O}
theorem EN.p {t : TE} (h : EN S t ρ o) : EP S t ρ (.ok o.d) := fun σ F H A Q w n q => h σ F H A Q w n fun v F' H' B s w' ow => by
  have w0 : WF F' H' (B ++ []) := by rw [List.append_nil]; exact w'
  have s3 := frz_stp w0
  have s' : Stp F H [] F' H' (B ++ []) := by rw [List.append_nil]; exact s
  exact q v (frz F' H' B) H' ⟨s'.trans s3, (frz_wf w0).sub⟩ (ow.frz (S := B) s3.fs fun _ h => h)
theorem XN.p (h : XN S ρ e o) : XP S ρ e (.ok o.d) := let ⟨t, h1, h2⟩ := h; ⟨t, h1, h2.p⟩
theorem beside {K : PySem.W.Frag} {σ : L2.St} {F H F' H' : Hp} {A B : List Addr} (w : WF F H A) (n : Envs K F H σ ρ A) (s : Stp F H [] F' H' B) (w' : WF F' H' B) : WF F' H' (B ++ A) ∧ Stp F H A F' H' (B ++ A) ∧ Envs K F' H' σ ρ A := by
  have nB : ∀ b ∈ B, H b = none := fun b hb => (s.foot b hb).elim (fun z => nomatch z) id
  refine ⟨⟨w'.sub, ?_, ?_, ?_⟩, (s.mono (by simp)).more fun a h => .inl h, n.mono s.fs (S := A) (fun a o h _ => s.keep a o h (by simp)) fun _ h => h⟩
  · refine List.nodup_append.mpr ⟨w'.nd, w.nd, fun x hx y hy e => ?_⟩
    subst e
    exact w.on x hy (imm_none (nB x hx))
  · intro x hx
    rcases List.mem_append.mp hx with hx | hx
    · exact w'.off x hx
    · cases z : F' x with
      | none => rfl
      | some o =>
        rcases s.new x o z with z | z | z
        · rw [w.off x hx] at z; cases z
        · cases z
        · exact absurd z (w.on x hx)
  · intro x hx
    rcases List.mem_append.mp hx with hx | hx
    · exact w'.on x hx
    · exact s.held (by simp) (w.on x hx)
theorem EN.x {t : TE} (h : EN S t ρ o) : EX S t ρ (.ok o ρ) := fun σ F H A Q w n q => h σ F H A Q w n fun v F' H' B s w' ow => by
  obtain ⟨w2, s2, n2⟩ := beside w n s w'
  exact q v F' H' B A w2 s2 ow n2
theorem XN.x (h : XN S ρ e o) : XX S ρ e (.ok o ρ) := let ⟨t, h1, h2⟩ := h; ⟨t, h1, h2.x⟩

/-! ### slots wiped -/
def wipeE (ρ : Env) : List Nat → Env
  | [] => ρ
  | v :: vs => (wipeE ρ vs).set v none
theorem Envs.wipe {K : PySem.W.Frag} {σ : L2.St} {F H : Hp} {A : List Addr} (w : WF F H A) (n : Envs K F H σ ρ A) : ∀ vs : List Nat, ∃ A', Envs K F H (L2.wipe σ vs) (wipeE ρ vs) A' ∧ WF F H A' ∧ ∀ a ∈ A', a ∈ A
  | [] => ⟨A, n, w, fun _ h => h⟩
  | v :: vs => by
    obtain ⟨A1, n1, w1, m1⟩ := Envs.wipe w n vs
    obtain ⟨B, A2, n2, p2⟩ := n1.drop v
    refine ⟨A2, ?_, (w1.perm p2).right, fun a h => m1 a (p2.mem_iff.mpr (List.mem_append_right _ h))⟩
    show Envs K F H ((L2.wipe σ vs).set v none) ((wipeE ρ vs).set v none) A2
    by_cases hv : v < (wipeE ρ vs).length
    · exact n2.any (by rw [List.getElem?_set_self hv])
    · have hl := n2.length
      rw [List.length_set] at hl
      rw [List.set_eq_of_length_le (l := L2.wipe σ vs) (by omega)]
      exact n2

/-! ### a comprehension -/
def relS (scope sc : Scope) : Scope := { scope with names := scope.names.map fun (n, k) => if (k == .free && sc.kind == .function && sc.names.lookup n == some .cell) then (n, .cell) else (n, k) }
/-- where its block stands -/
@[reducible] def Sig.blk (S : Sig) (scope : Scope) : Sig := { S with scope := relS scope S.scope, wx := fun _ _ _ _ => False, st := fun x => scope.names.lookup x == some .cell, hot := none, top := false }
instance {S : Sig} {scope : Scope} [Calm S] : Calm (S.blk scope) := ⟨(Calm.h : S.calm = true)⟩
theorem blk_cx (S : Sig) (q : Rest) (ok : S.Ok q) (scope : Scope) (s : Shared) (H : Hp) (C : Addr) (cl : List (Str × Addr)) (fp : List Addr) :
    ∃ q', (S.blk scope).Ok q' ∧ (S.blk scope).cx q' = (S.cx q).blk s H scope (compEnvC scope cl C (S.cx q).env) fp := by
  refine ⟨⟨q.A, s, H, compEnvC scope cl C (S.cx q).env, (S.cx q).stack, q.stack, fp, fun x => scope.names.lookup x == some .cell, [], fun _ _ => False⟩, ⟨ok.room, ok.hd, (fun _ _ z => nomatch z), (fun z => nomatch z), (fun _ _ ⟨_, _, _, _, _, _, _, _, _, _, _, _, _, _, _, _, z⟩ => z), fun _ h => h, ok.nd, PassesOwn.never⟩, rfl⟩
/-- the tests of a clause -/
def XTs (S : Sig) (ρ : Env) (ifs : List Expr) (b : Bool) : Prop := ∃ t, (∀ q, S.Ok q → PTs (S.cx q) ifs t) ∧ ET S t ρ b
theorem xts_nil : XTs S ρ [] true := ⟨_, fun _ _ => pts_nil, fun σ F H A Q w n q => q F H (Grow.refl w.sub)⟩
theorem xts_one {k : Bool} (h : XT S ρ c k) : XTs S ρ [c] k := let ⟨t, h1, h2⟩ := h; ⟨t, fun q ok => pts_one (h1 q ok), h2⟩
def tAnyTs (S : Sig) (es : List Expr) : TT := fun σ H Q => ∃ t, (∀ q, S.Ok q → PTs (S.cx q) es t) ∧ t σ H Q
theorem pts_any {q : Rest} (ok : S.Ok q) (es : List Expr) : PTs (S.cx q) es (tAnyTs S es) := ⟨fun pins s σ H Q I ⟨t, h, z⟩ => (h q ok).run pins s σ H Q I z⟩
/-- what a target stores lies within own -/
def TgOwn (g : TG) (own : List Nat) : Prop := ∀ v σ H Q, g v σ H Q → g v σ H fun σ' H' => L2.wipe σ' own = L2.wipe σ own ∧ Q σ' H'
theorem wipe_set {σ : L2.St} {x : Option V} {i : Nat} : ∀ {vs : List Nat}, i ∈ vs → L2.wipe (σ.set i x) vs = L2.wipe σ vs
  | [], h => nomatch h
  | v :: vs, h => by
    show (L2.wipe (σ.set i x) vs).set v none = (L2.wipe σ vs).set v none
    by_cases hi : i ∈ vs
    · rw [wipe_set hi]
    · have e : i = v := (List.mem_cons.mp h).resolve_right hi
      subst e
      have comm : ∀ vs : List Nat, i ∉ vs → L2.wipe (σ.set i x) vs = (L2.wipe σ vs).set i x := by
        intro vs
        induction vs with
        | nil => intro _; rfl
        | cons u us ih =>
          intro hn
          have h1 : i ≠ u := fun e => hn (by simp [e])
          have h2 : i ∉ us := fun e => hn (by simp [e])
          show (L2.wipe (σ.set i x) us).set u none = ((L2.wipe σ us).set u none).set i x
          rw [ih h2, List.set_comm _ _ h1]
      rw [comm vs hi, List.set_set]
theorem to_name {i : Nat} {own : List Nat} (h : i ∈ own := by decide) : TgOwn (gName i) own := fun v σ H Q q => ⟨wipe_set h, q⟩
def TgsOwn (g : TGs) (own : List Nat) : Prop := ∀ vs σ H Q, g vs σ H Q → g vs σ H fun σ' H' => L2.wipe σ' own = L2.wipe σ own ∧ Q σ' H'
theorem tos_nil {own : List Nat} : TgsOwn gNil own := fun vs σ H Q ⟨e, q⟩ => ⟨e, rfl, q⟩
theorem tos_cons {i : Nat} {u : TGs} {own : List Nat} (h : i ∈ own) (h' : TgsOwn u own) : TgsOwn (gCons (gName i) u) own := fun vs σ H Q ⟨v, r, e, q⟩ => by
  refine ⟨v, r, e, ?_⟩
  have q1 := h' r _ H Q q
  have e1 : L2.wipe (σ.set i (some v)) own = L2.wipe σ own := wipe_set h
  rw [e1] at q1
  exact q1
theorem to_tup {u : TGs} {own : List Nat} {n : Nat} (h : TgsOwn u own) : TgOwn (gTup S.K n u) own := fun v σ H Q ⟨a, xs, e, ht, hn, q⟩ => ⟨a, xs, e, ht, hn, h xs σ H Q q⟩
theorem wipe_wipe {σ : L2.St} : ∀ {vs : List Nat} (ws : List Nat), (∀ v ∈ vs, v ∈ ws) → L2.wipe (L2.wipe σ vs) ws = L2.wipe σ ws
  | [], ws, _ => rfl
  | v :: vs, ws, h => by
    show L2.wipe ((L2.wipe σ vs).set v none) ws = L2.wipe σ ws
    rw [wipe_set (h v (by simp)), wipe_wipe ws fun u hu => h u (by simp [hu])]
theorem lc_own {J : It} {n : Nat} {G : Hp → Prop} {Y : Nat → Hp → V → Hp → Prop} (w : Walk J n G Y) {g : TG} {tt : TT} {te : TE} {vs : List Nat} {σ : L2.St} {H1 : Hp} {D : Addr} {Qd : Hp → Prop} (ho : TgOwn g vs) (Pv : Nat → Hp → Prop) (h0 : Pv 0 (upd H1 D (.lst []))) (hG : ∀ i H, i ≤ n → Pv i H → G H)
    (hs : ∀ i x H H', i < n → Pv i H → Y i H x H' → g x (L2.wipe σ vs) H' fun σ2 H2 => tt σ2 H2 fun b H3 =>
      if b = true then te σ2 H3 fun y H4 => ∃ acc, H4 D = some (.lst acc) ∧ acc.length < sizeLine ∧ Pv (i + 1) (upd H4 D (.lst (acc ++ [y]))) else Pv (i + 1) H3) (hd : ∀ H, Pv n H → Qd H) :
    ∃ W : Nat → Nat → Hp → Prop, (∃ m, W 0 m (upd H1 D (.lst []))) ∧ ∀ i m H, W i m H →
      (J.stop i H ∧ Qd H) ∨ (J.go i H ∧ ∃ Nx : Hp → Prop, (∀ H', Nx H' → ∃ m', m' < m ∧ W (i + 1) m' H') ∧ ∀ x H', J.yld i H x H' → g x (L2.wipe σ vs) H' fun σ2 H2 => L2.wipe σ2 vs = L2.wipe σ vs ∧ tt σ2 H2 fun b H3 =>
        if b = true then te σ2 H3 fun y H4 => ∃ acc, H4 D = some (.lst acc) ∧ acc.length < sizeLine ∧ Nx (upd H4 D (.lst (acc ++ [y]))) else Nx H3) :=
  lc_it w Pv h0 hG (fun i x H H' hi p y => by
    have z := ho _ _ _ _ (hs i x H H' hi p y)
    rw [wipe_wipe vs fun _ h => h] at z
    exact z) hd
theorem en_lc {α : Type} (xs : List α) (g : α → D) (p : α → Bool) (h : α → D) (own : List Nat) {wi : TI} {tgt : TG} {tt : TT} {te : TE} {S' : Sig} (hK : S'.K = S.K) (ρb : α → Env)
    (hi : ∀ (σ : L2.St) (F H : Hp) (A : List Addr) (R : It → Hp → Prop), WF F H A → Envs S.K F H σ ρ A → (∀ J F' H', Grow F H F' H' → Src S.K J F' (xs.map g) → R J H') → wi σ H R)
    (ho : TgOwn tgt own) (hG : ∀ x ∈ xs, EG S' [] tgt (wipeE ρ own) (g x) (ρb x)) (ht : ∀ x ∈ xs, ET S' tt (ρb x) (p x)) (he : ∀ x ∈ xs, p x = true → EP S' te (ρb x) (.ok (h x))) (hl : xs.length ≤ 1000000) :
    EN S (tLc wi tgt tt te own) ρ (.lst (((xs.filter p).map h).map O.fro)) := fun σ F H A Q w n q => hi σ F H A _ w n fun J F1 H1 gr src => by
  intro D hD
  obtain ⟨G, Y, wk, hG1, hY⟩ := src.h
  rw [List.length_map] at wk hY
  have w1 := gr.wf w
  obtain ⟨A1, n1, w2, m2⟩ := Envs.wipe w1 (gr.envs n) own
  have nDF : F1 D = none := by
    cases z : F1 D with
    | none => rfl
    | some u => rw [gr.ext D u z] at hD; cases hD
  refine lc_own wk ho (fun i H' => ∃ F' acc, WF F' H' [D] ∧ Stp F1 H1 [] F' H' [D] ∧ H' D = some (.lst acc) ∧ Reps S.K F' acc (((xs.take i).filter p).map h)) ?_ ?_ ?_ ?_
  · obtain ⟨s1, w3⟩ := Grow.own1 (o := .lst []) gr.ext hD
    exact ⟨F1, [], w3, s1, upd_same, .nil⟩
  · rintro i H' hi ⟨F', acc, w', s', hd, r'⟩
    exact hG1 H' (s'.fs.trans w'.sub)
  · rintro i v H' H'' hi ⟨F', acc, w', s', hd, r'⟩ y
    obtain ⟨F2, d, hd2, g2, rep⟩ := hY i H' v H'' F' hi s'.fs w'.sub y
    have hx : xs[i]? = some xs[i] := List.getElem?_eq_getElem hi
    have hm : xs[i] ∈ xs := List.getElem_mem hi
    rw [List.getElem?_map, hx] at hd2
    cases hd2
    -- the slots, the list made so far beside them
    have big : ∀ (F3 H3 : Hp), Grow F' H' F3 H3 → WF F3 H3 A1 ∧ Envs S.K F3 H3 (L2.wipe σ own) (wipeE ρ own) A1 ∧ H3 D = some (.lst acc) ∧ WF F3 H3 [D] := fun F3 H3 g3 => by
      obtain ⟨w5, s5, n5⟩ := beside w2 n1 s' w'
      have w6 := g3.wf w5
      exact ⟨w6.right, g3.envs n5, g3.hh _ _ hd, w6.left⟩
    have fin : ∀ (F3 H3 : Hp), Grow F' H' F3 H3 → H3 D = some (.lst acc) := fun F3 H3 g3 => g3.hh _ _ hd
    obtain ⟨w7, n7, _, _⟩ := big F2 H'' g2
    refine hG xs[i] hm (L2.wipe σ own) F2 H'' A1 v _ w7 (by rw [hK]; exact n7) (by rw [hK]; exact rep) fun σ3 A3 w8 m8 n8 p8 => ?_
    refine ht xs[i] hm σ3 F2 H'' A3 _ w8 n8 fun F4 H4 g4 => ?_
    have e1 : xs.take (i + 1) = xs.take i ++ [xs[i]] := by rw [List.take_add_one, hx]; rfl
    cases ep : p xs[i] with
    | false =>
      rw [if_neg (by simp)]
      obtain ⟨_, _, d4, w9⟩ := big F4 H4 (g2.trans g4)
      refine ⟨F4, acc, w9, s'.trans (((g2.trans g4).stp.mono (by simp) (A' := [D])).more (C := [D]) fun a h => .inl h), d4, ?_⟩
      rw [e1, List.filter_append, List.filter_cons_of_neg (by simp [ep]), List.filter_nil, List.append_nil]
      exact r'.mono (g2.trans g4).stp.fs
    | true =>
      rw [if_pos rfl]
      refine he xs[i] hm ep σ3 F4 H4 A3 _ (g4.wf w8) (g4.envs n8) fun y F5 H5 g5 r5 => ?_
      have g6 := (g2.trans g4).trans g5
      obtain ⟨_, _, d5, w9⟩ := big F5 H5 g6
      have rl := r'.length
      rw [List.length_map] at rl
      have rl2 := List.length_filter_le p (xs.take i)
      have rl3 : (xs.take i).length ≤ i := by rw [List.length_take]; omega
      refine ⟨acc, d5, line_lt (by omega), F5, acc ++ [y], ⟨?_, w9.nd, w9.off, ?_⟩, ?_, upd_same, ?_⟩
      · intro a u hu
        rw [upd_ne fun z => by rw [z, w9.off D (by simp)] at hu; cases hu]
        exact w9.sub a u hu
      · intro a ha
        rw [List.mem_singleton.mp ha, upd_same]
        exact fun z => z
      · have s6 : Stp F1 H1 [] F5 H5 [D] := s'.trans ((g6.stp.mono (by simp) (A' := [D])).more (C := [D]) fun a h => .inl h)
        refine ⟨s6.fs, fun a u hu _ => ?_, s6.new, s6.foot, fun a ha => ?_⟩
        · rw [upd_ne (ne_of_none hu hD)]
          exact s6.keep a u hu (by simp)
        · by_cases z : a = D
          · rw [z]; exact hD
          · rw [upd_ne z] at ha; exact s6.alive a ha
      · rw [e1, List.filter_append, List.filter_cons_of_pos ep, List.filter_nil, List.map_append]
        rw [hK] at r5
        exact (r'.mono g6.stp.fs).append (.cons r5 .nil)
  · rintro H' ⟨F', acc, w', s', hd, r'⟩
    rw [List.take_length] at r'
    exact q (.ref D) F' H' [D] (gr.stp.trans s') w' (.lst hd (Owns.fros r'))
section
variable {α : Type} (xs : List α) (g : α → D) (p : α → Bool) (h : α → D) (own : List (Str × Nat)) {scope : Scope} {tgt : TG} {ifs : List Expr} (ρb : α → Env)
theorem lc_of (hi : XI S ρ tg it (xs.map g)) (hg : ∀ q, (S.blk scope).Ok q → PG ((S.blk scope).cx q) tg tgt) (ho : TgOwn tgt (own.map (·.2)))
    (hG : ∀ x ∈ xs, EG (S.blk scope) [] tgt (wipeE ρ (own.map (·.2))) (g x) (ρb x)) (ht : ∀ x ∈ xs, XTs (S.blk scope) (ρb x) ifs (p x)) (he : ∀ x ∈ xs, p x = true → XP (S.blk scope) (ρb x) elt (.ok (h x))) (hl : xs.length ≤ 1000000) (bo : blkC S.N S.scope scope own = true)
    : ∃ (wi : TI) (tt : TT) (te : TE), (∀ q, S.Ok q → PI (S.cx q) tg it wi) ∧ (∀ q, S.Ok q → ∀ (s : Shared) (H : Hp) (C : Addr) (cl : List (Str × Addr)) (fp : List Addr), PG ((S.cx q).blk s H scope (compEnvC scope cl C (S.cx q).env) fp) tg tgt) ∧
      (∀ q, S.Ok q → ∀ (s : Shared) (H : Hp) (C : Addr) (cl : List (Str × Addr)) (fp : List Addr), PTs ((S.cx q).blk s H scope (compEnvC scope cl C (S.cx q).env) fp) ifs tt) ∧
      (∀ q, S.Ok q → ∀ (s : Shared) (H : Hp) (C : Addr) (cl : List (Str × Addr)) (fp : List Addr), PE ((S.cx q).blk s H scope (compEnvC scope cl C (S.cx q).env) fp) elt te) ∧
      EN S (tLc wi tgt tt te (own.map (·.2))) ρ (.lst (((xs.filter p).map h).map O.fro)) := by
  obtain ⟨wi, i1, i2⟩ := hi
  refine ⟨wi, tAnyTs (S.blk scope) ifs, tAnyE (S.blk scope) elt, i1, fun q ok s H C cl fp => ?_, fun q ok s H C cl fp => ?_, fun q ok s H C cl fp => ?_, en_lc (S := S) xs g p h (own.map Prod.snd) (S' := S.blk scope) rfl ρb i2 ho hG (fun x hx => ?_) (fun x hx hp => ?_) hl⟩
  · obtain ⟨q', ok', e⟩ := blk_cx S q ok scope s H C cl fp
    rw [← e]; exact hg q' ok'
  · obtain ⟨q', ok', e⟩ := blk_cx S q ok scope s H C cl fp
    rw [← e]; exact pts_any ok' ifs
  · obtain ⟨q', ok', e⟩ := blk_cx S q ok scope s H C cl fp
    rw [← e]; exact pe_any ok' elt
  · obtain ⟨t, h1, h2⟩ := ht x hx
    exact fun σ F H A Q w n q => ⟨t, h1, h2 σ F H A Q w n q⟩
  · obtain ⟨t, h1, h2⟩ := he x hx hp
    exact fun σ F H A Q w n q => ⟨t, h1, h2 σ F H A Q w n q⟩
theorem xn_lc [Calm S] (hi : XI S ρ tg it (xs.map g)) (hg : ∀ q, (S.blk scope).Ok q → PG ((S.blk scope).cx q) tg tgt) (ho : TgOwn tgt (own.map (·.2)))
    (hG : ∀ x ∈ xs, EG (S.blk scope) [] tgt (wipeE ρ (own.map (·.2))) (g x) (ρb x)) (ht : ∀ x ∈ xs, XTs (S.blk scope) (ρb x) ifs (p x)) (he : ∀ x ∈ xs, p x = true → XP (S.blk scope) (ρb x) elt (.ok (h x))) (hl : xs.length ≤ 1000000) (bo : blkC S.N S.scope scope own = true := by (try dsimp only [sigOf, Sig.blk]); decide +kernel)
    (hs : ∀ (env : PySem.Env) (x : Value), foldedSetIterable it env x = pure x := by intro _ _; rfl) : XN S ρ (.ListComp elt [⟨tg, it, ifs, 0⟩] scope pos) (.lst (((xs.filter p).map h).map O.fro)) := by
  obtain ⟨wi, tt, te, i1, g1, t1, e1, en⟩ := lc_of xs g p h own ρb hi hg ho hG ht he hl bo
  exact ⟨_, fun q ok => pe_lc (X := S.cx q) Calm.h ok.nd (i1 q ok) (blkOk_by bo) (g1 q ok) (t1 q ok) (e1 q ok) (hs _), en⟩
theorem es_set {t : TE} {i : Nat} (h : EX S t ρ (.ok o ρ1)) (hi : i < ρ1.length) (hp : i ∉ pin) : ES S pin (tAsg t (gName i)) ρ (.nx (ρ1.set i (some o))) := fun σ F H A D w n q => h σ F H A _ w n fun v F1 H1 B A1 w1 s1 ow n1 => by
  obtain ⟨A2, n2, w2, m2⟩ := n1.store ow hi w1
  exact q _ _ _ A2 w2 (s1.perm (fun a => Iff.rfl) m2) n2 (Pin.set hp)
/-- y = [..], a local name, on one line: owned; frozen -/
theorem ps_lcO [Calm S] (i : Nat) {y : Str} {py spos : Pos} (hi : XI S ρ tg it (xs.map g)) (hg : ∀ q, (S.blk scope).Ok q → PG ((S.blk scope).cx q) tg tgt) (ho : TgOwn tgt (own.map (·.2)))
    (hG : ∀ x ∈ xs, EG (S.blk scope) [] tgt (wipeE ρ (own.map (·.2))) (g x) (ρb x)) (ht : ∀ x ∈ xs, XTs (S.blk scope) (ρb x) ifs (p x)) (he : ∀ x ∈ xs, p x = true → XP (S.blk scope) (ρb x) elt (.ok (h x))) (hl : xs.length ≤ 1000000)
    (hn : Nat.blt i ρ.length = true := by rfl) (hp : i ∉ pin := by decide) (hN : S.N[i]? = some y := by rfl) (hy : S.scope.names.lookup y = some .local := by rfl) (hsw : ∀ env : PySem.Env, swapsWith (.ListComp elt [⟨tg, it, ifs, 0⟩] scope pos) (some (.Name y py)) spos.line { env with scope := S.scope } = pure true := by intro _; exact sw_true rfl rfl rfl (by decide +kernel)) (bo : blkC S.N S.scope scope own = true := by (try dsimp only [sigOf, Sig.blk]); decide +kernel)
    (hs : ∀ (env : PySem.Env) (x : Value), foldedSetIterable it env x = pure x := by intro _ _; rfl) : XS S pin ρ (.Assign [.Name y py] (.ListComp elt [⟨tg, it, ifs, 0⟩] scope pos) spos) (.nx (ρ.set i (some (.lst (((xs.filter p).map h).map O.fro))))) := by
  obtain ⟨wi, tt, te, i1, g1, t1, e1, en⟩ := lc_of xs g p h own ρb hi hg ho hG ht he hl bo
  exact ⟨_, fun q ok => ps_setLc (X := S.cx q) (i := i) Calm.h ok.nd hN hy (hsw _) (i1 q ok) (blkOk_by bo) (g1 q ok) (t1 q ok) (e1 q ok) (hs _), es_set en.x (Nat.le_of_ble_eq_true hn) hp⟩
theorem ps_lcF [Calm S] (i : Nat) {y : Str} {py spos : Pos} (hi : XI S ρ tg it (xs.map g)) (hg : ∀ q, (S.blk scope).Ok q → PG ((S.blk scope).cx q) tg tgt) (ho : TgOwn tgt (own.map (·.2)))
    (hG : ∀ x ∈ xs, EG (S.blk scope) [] tgt (wipeE ρ (own.map (·.2))) (g x) (ρb x)) (ht : ∀ x ∈ xs, XTs (S.blk scope) (ρb x) ifs (p x)) (he : ∀ x ∈ xs, p x = true → XP (S.blk scope) (ρb x) elt (.ok (h x))) (hl : xs.length ≤ 1000000)
    (hn : Nat.blt i ρ.length = true := by rfl) (hp : i ∉ pin := by decide) (hN : S.N[i]? = some y := by rfl) (hy : S.scope.names.lookup y = some .local := by rfl) (hsw : ∀ env : PySem.Env, swapsWith (.ListComp elt [⟨tg, it, ifs, 0⟩] scope pos) (some (.Name y py)) spos.line { env with scope := S.scope } = pure true := by intro _; exact sw_true rfl rfl rfl (by decide +kernel)) (bo : blkC S.N S.scope scope own = true := by (try dsimp only [sigOf, Sig.blk]); decide +kernel)
    (hs : ∀ (env : PySem.Env) (x : Value), foldedSetIterable it env x = pure x := by intro _ _; rfl) : XS S pin ρ (.Assign [.Name y py] (.ListComp elt [⟨tg, it, ifs, 0⟩] scope pos) spos) (.nx (ρ.set i (some (.fro (.lst ((xs.filter p).map h)))))) := by
  obtain ⟨wi, tt, te, i1, g1, t1, e1, en⟩ := lc_of xs g p h own ρb hi hg ho hG ht he hl bo
  have en2 := en.p.x
  have e2 : O.d (.lst (((xs.filter p).map h).map O.fro)) = .lst ((xs.filter p).map h) := by
    simp only [O.d]; rw [ds_fros]
  rw [e2] at en2
  exact ⟨_, fun q ok => ps_setLc (X := S.cx q) (i := i) Calm.h ok.nd hN hy (hsw _) (i1 q ok) (blkOk_by bo) (g1 q ok) (t1 q ok) (e1 q ok) (hs _), es_set en2 (Nat.le_of_ble_eq_true hn) hp⟩
theorem xp_lc [Calm S] (hi : XI S ρ tg it (xs.map g)) (hg : ∀ q, (S.blk scope).Ok q → PG ((S.blk scope).cx q) tg tgt) (ho : TgOwn tgt (own.map (·.2)))
    (hG : ∀ x ∈ xs, EG (S.blk scope) [] tgt (wipeE ρ (own.map (·.2))) (g x) (ρb x)) (ht : ∀ x ∈ xs, XTs (S.blk scope) (ρb x) ifs (p x)) (he : ∀ x ∈ xs, p x = true → XP (S.blk scope) (ρb x) elt (.ok (h x))) (hl : xs.length ≤ 1000000) (bo : blkC S.N S.scope scope own = true := by (try dsimp only [sigOf, Sig.blk]); decide +kernel)
    (hs : ∀ (env : PySem.Env) (x : Value), foldedSetIterable it env x = pure x := by intro _ _; rfl) : XP S ρ (.ListComp elt [⟨tg, it, ifs, 0⟩] scope pos) (.ok (.lst ((xs.filter p).map h))) := by
  have z := (xn_lc (pos := pos) xs g p h own ρb hi hg ho hG ht he hl bo hs).p
  have e2 : O.d (.lst (((xs.filter p).map h).map O.fro)) = .lst ((xs.filter p).map h) := by
    simp only [O.d]; rw [ds_fros]
  rw [e2] at z
  exact z
end
end
end G

namespace G
open PySem PySem.Spec PyProof.Rows L2
open PySem.W (Datum DatumOrd Tup T3)
open Enc (enc)

/-! ### ends of a def, typed -/
section
variable {T U : Type} [DecidableEq T] [Datum T] [Enc T]
def rF (v : T) : RS := .rt (.fro (enc v)) none
def rO (v : List T) : RS := .rt (.lst ((v.map enc).map O.fro)) none
def rE (f : U → RS) : Except Str U → RS
  | .ok v => f v
  | .error x => .ex x none
def oF (v : T) : Except Str O := .ok (.fro (enc v))
def oO (v : List T) : Except Str O := .ok (.lst ((v.map enc).map O.fro))
def oE (g : U → Except Str O) : Except Str U → Except Str O
  | .ok v => g v
  | .error x => .error x
theorem fits_F {v : T} : Fits (rF v) (oF v) := .rt rfl
theorem fits_O {v : List T} : Fits (rO v) (oO v) := .rt rfl
theorem fits_E {f : U → RS} {g : U → Except Str O} (h : ∀ v, Fits (f v) (g v)) : ∀ r, Fits (rE f r) (oE g r)
  | .ok v => h v
  | .error _ => .ex rfl
theorem term_F {v : T} : Term (rF v) := trivial
theorem term_O {v : List T} : Term (rO v) := trivial
theorem term_E {f : U → RS} (h : ∀ v, Term (f v)) : ∀ r, Term (rE f r)
  | .ok v => h v
  | .error _ => trivial
end
theorem Term.ne {r : RS} (h : Term r) : ∀ ρ, r ≠ .nx ρ := fun ρ e => by subst e; exact h
def bindE {T U : Type} : Except Str T → (T → Except Str U) → Except Str U
  | .ok v, k => k v
  | .error x, _ => .error x
def LO.fin {σ β : Type} (k : σ → β) : LO σ β → β
  | .nx s => k s
  | .bk s => k s
  | .rt b => b

section
variable {S : Sig} {ρ ρ1 : Env} {a b c e it tg : Expr} {d d1 d2 d3 : D} {ds : List D} {pos p2 : Pos} {pin : List Nat} {es : List Expr} {st : Stmt} {ss body : List Stmt} {r : RS} {x : Str}
variable {T U V' : Type}
/-! ### blocks, typed -/
theorem xb_let (f : U → RS) (ρ' : T → Env) (m : T → U) (v : T) (h : XS S pin ρ st (.nx (ρ' v))) (k : ∀ w, w = v → XB S pin (ρ' w) ss (f (m w))) : XB S pin ρ (st :: ss) (f (m v)) := xb_cons h (k v rfl)
theorem xb_ret (f : U → RS) (v : U) (h : XS S pin ρ st (f v)) (ht : Term (f v)) : XB S pin ρ (st :: ss) (f v) := xb_stop h ht.ne
/-- if c: (an end); what follows -/
theorem xb_ifR (f : U → RS) {k : Bool} {A : List Stmt} {v1 v2 : U} (hc : XT S ρ c k) (ha : k = true → XB S pin ρ A (f v1)) (ht : ∀ ρ, f v1 ≠ .nx ρ) (hb : k = false → XB S pin ρ ss (f v2)) : XB S pin ρ (.If c A [] pos :: ss) (f (if k = true then v1 else v2)) := by
  cases k with
  | true => exact xb_stop (xs_if hc ha fun z => nomatch z) ht
  | false => exact xb_cons (xs_if hc (fun z => nomatch z) fun _ => xb_nil) (hb rfl)
/-- if c: .. else: .., both ends -/
theorem xb_if2 (f : U → RS) {k : Bool} {A B : List Stmt} {v1 v2 : U} (hc : XT S ρ c k) (ha : k = true → XB S pin ρ A (f v1)) (hb : k = false → XB S pin ρ B (f v2)) : XB S pin ρ [.If c A B pos] (f (if k = true then v1 else v2)) := by
  cases k with
  | true => exact xb_one (xs_if hc ha fun z => nomatch z)
  | false => exact xb_one (xs_if hc (fun z => nomatch z) hb)
/-- if c: .. else: .., both go on -/
theorem xb_ifj (f : U → RS) (R : T → Env) (m : T → U) {k : Bool} {A B : List Stmt} {s1 s2 : T} (hc : XT S ρ c k) (ha : k = true → XB S pin ρ A (.nx (R s1))) (hb : k = false → XB S pin ρ B (.nx (R s2))) (hk : ∀ w, w = (if k = true then s1 else s2) → XB S pin (R w) ss (f (m w))) :
    XB S pin ρ (.If c A B pos :: ss) (f (m (if k = true then s1 else s2))) := xb_cons (xs_ifj R hc ha hb) (hk _ rfl)
theorem xb_nx (f : U → RS) (v : U) (h : f v = .nx ρ) : XB S pin ρ [] (f v) := h ▸ xb_nil
theorem nx_fr {σ : Type} {R : σ → Env} {fr : U → RS} {s : σ} : (LO.nx s : LO σ U).rs R fr = .nx (R s) := rfl
/-- a loop that is left by its end alone -/
theorem xs_forN [Calm S] {α σ : Type} (xs : List α) (g : α → D) (R : σ → Env) (f : σ → α → σ) (I : Nat → σ → Prop) {tgt : TG} (ρb : σ → α → Env) (s0 : σ)
    (hi : XI S (R s0) tg it (xs.map g)) (hg : ∀ q, S.Ok q → PG (S.cx q) tg tgt) (hG : ∀ s x, EG S pin tgt (R s) (g x) (ρb s x)) (h0 : I 0 s0)
    (hb : ∀ i s x, xs[i]? = some x → I i s → XB S pin (ρb s x) body (.nx (R (f s x))) ∧ I (i + 1) (f s x))
    (hs : ∀ (env : PySem.Env) (x : Value), foldedSetIterable it env x = pure x := by intro _ _; rfl) : XS S pin (R s0) (.For tg it body [] pos) (.nx (R (xs.foldl f s0))) := by
  have h := xs_for (β := Empty) (pos := pos) xs g R (fun s x => .nx (f s x)) (fun b => b.elim) I ρb s0 hi hg hG h0 (fun b => b.elim) (fun i s x hx hI => ⟨(hb i s x hx hI).1, fun s' e => by cases e; exact (hb i s x hx hI).2⟩) hs
  have e : ∀ (xs : List α) (s : σ), forL (β := Empty) (fun s x => .nx (f s x)) xs s = .nx (xs.foldl f s) := by
    intro xs
    induction xs with
    | nil => intro s; rfl
    | cons x xs ih => intro s; exact ih (f s x)
  rw [e] at h
  exact h
theorem inv_foldl {α σ : Type} (f : σ → α → σ) (I : Nat → σ → Prop) : ∀ (xs : List α) (n : Nat) (s : σ), I n s → (∀ i s x, xs[i]? = some x → I (n + i) s → I (n + i + 1) (f s x)) → I (n + xs.length) (xs.foldl f s)
  | [], n, s, h, _ => h
  | x :: xs, n, s, h, k => by
    have h1 := k 0 s x rfl h
    have z := inv_foldl f I xs (n + 1) (f s x) h1 fun i s' x' hx hI => by
      have e1 : n + 1 + i = n + (i + 1) := by omega
      rw [e1] at hI ⊢
      exact k (i + 1) s' x' (by simpa using hx) hI
    have e2 : n + 1 + xs.length = n + (x :: xs).length := by simp; omega
    rw [e2] at z
    exact z
theorem xb_forN [Calm S] (fr : U → RS) {α σ : Type} (xs : List α) (g : α → D) (R : σ → Env) (f : σ → α → σ) (I : Nat → σ → Prop) {tgt : TG} (ρb : σ → α → Env) (s0 : σ) (m : σ → U)
    (hi : XI S (R s0) tg it (xs.map g)) (hg : ∀ q, S.Ok q → PG (S.cx q) tg tgt) (hG : ∀ s x, EG S pin tgt (R s) (g x) (ρb s x)) (h0 : I 0 s0)
    (hI : ∀ i s x, xs[i]? = some x → I i s → I (i + 1) (f s x))
    (hb : ∀ i s x, xs[i]? = some x → I i s → XB S pin (ρb s x) body (.nx (R (f s x))))
    (hk : ∀ w, w = xs.foldl f s0 → I xs.length w → XB S pin (R w) ss (fr (m w)))
    (hs : ∀ (env : PySem.Env) (x : Value), foldedSetIterable it env x = pure x := by intro _ _; rfl) : XB S pin (R s0) (.For tg it body [] pos :: ss) (fr (m (xs.foldl f s0))) :=
  xb_cons (xs_forN xs g R f I ρb s0 hi hg hG h0 (fun i s x hx h => ⟨hb i s x hx h, hI i s x hx h⟩) hs) (hk _ rfl (by
    have := inv_foldl f I xs 0 s0 h0 (fun i s x hx h => by rw [Nat.zero_add] at h ⊢; exact hI i s x hx h)
    rw [Nat.zero_add] at this; exact this))
theorem inv_forL {α σ β : Type} (f : σ → α → LO σ β) (I : Nat → σ → Prop) (J : σ → Prop) (hJ : ∀ n s, I n s → J s) : ∀ (xs : List α) (n : Nat) (s : σ), I n s → (∀ i s x s', xs[i]? = some x → I (n + i) s → f s x = .nx s' → I (n + i + 1) s') → (∀ i s x s', xs[i]? = some x → I (n + i) s → f s x = .bk s' → J s') → ∀ s', forL f xs s = .nx s' → J s'
  | [], n, s, h, _, _, s', e => by cases e; exact hJ n s h
  | x :: xs, n, s, h, k, kb, s', e => by
    unfold forL at e
    cases ef : f s x with
    | nx s1 =>
      rw [ef] at e
      refine inv_forL f I J hJ xs (n + 1) s1 (k 0 s x s1 rfl h ef) (fun i s2 x2 s3 hx hI hf => ?_) (fun i s2 x2 s3 hx hI hf => ?_) s' e
      · have e1 : n + 1 + i = n + (i + 1) := by omega
        rw [e1] at hI ⊢
        exact k (i + 1) s2 x2 s3 (by simpa using hx) hI hf
      · have e1 : n + 1 + i = n + (i + 1) := by omega
        rw [e1] at hI
        exact kb (i + 1) s2 x2 s3 (by simpa using hx) hI hf
    | bk s1 =>
      rw [ef] at e
      cases e
      exact kb 0 s x s' rfl h ef
    | rt b => rw [ef] at e; cases e
/-- a loop that may end the def -/
theorem xb_for [Calm S] (fr : U → RS) (hfr : ∀ b, Term (fr b)) {α σ : Type} (xs : List α) (g : α → D) (R : σ → Env) (f : σ → α → LO σ U) (I : Nat → σ → Prop) {tgt : TG} (ρb : σ → α → Env) (s0 : σ) (m : σ → U)
    (hi : XI S (R s0) tg it (xs.map g)) (hg : ∀ q, S.Ok q → PG (S.cx q) tg tgt) (hG : ∀ s x, EG S pin tgt (R s) (g x) (ρb s x)) (h0 : I 0 s0)
    (hI : ∀ i s x s', xs[i]? = some x → I i s → f s x = .nx s' → I (i + 1) s')
    (hb : ∀ i s x, xs[i]? = some x → I i s → XB S pin (ρb s x) body ((f s x).rs R fr))
    (hk : ∀ w, forL f xs s0 = .nx w → XB S pin (R w) ss (fr (m w)))
    (hs : ∀ (env : PySem.Env) (x : Value), foldedSetIterable it env x = pure x := by intro _ _; rfl) : XB S pin (R s0) (.For tg it body [] pos :: ss) (fr ((forL f xs s0).fin m)) := by
  have h := xs_for (pos := pos) xs g R f fr I ρb s0 hi hg hG h0 hfr (fun i s x hx h => ⟨hb i s x hx h, fun s' e => hI i s x s' hx h e⟩) hs
  cases e : forL f xs s0 with
  | nx w =>
    rw [e] at h
    exact xb_cons h (hk w e)
  | bk w =>
    have nb : ∀ (xs : List α) (s : σ), forL f xs s ≠ .bk w := by
      intro xs
      induction xs with
      | nil => intro s z; cases z
      | cons x xs ih =>
        intro s z
        unfold forL at z
        cases ef : f s x with
        | nx s1 => rw [ef] at z; exact ih s1 z
        | bk s1 => rw [ef] at z; cases z
        | rt b => rw [ef] at z; cases z
    exact absurd e (nb xs s0)
  | rt b =>
    rw [e] at h
    exact xb_stop h (hfr b).ne
/-- while -/
theorem xb_while (fr : U → RS) (hfr : ∀ b, Term (fr b)) {σ : Type} {cond : Expr} (R : σ → Env) (cc : σ → Bool) (f : σ → LO σ U) (I : σ → Prop) (s0 : σ) (n : Nat) {o : LO σ U} (m : σ → U) (ho : whL cc f n s0 = some o) (h0 : I s0)
    (hc : ∀ s, I s → XT S (R s) cond (cc s)) (hI : ∀ s s', I s → cc s = true → f s = .nx s' → I s') (hb : ∀ s, I s → cc s = true → XB S pin (R s) body ((f s).rs R fr))
    (hk : ∀ w, o = .nx w → XB S pin (R w) ss (fr (m w))) : XB S pin (R s0) (.While cond body [] pos :: ss) (fr (o.fin m)) := by
  have h := xs_while (pos := pos) R cc f fr I s0 n ho h0 hfr hc fun s hs hcs => ⟨hb s hs hcs, fun s' e => hI s s' hs hcs e⟩
  cases o with
  | nx w => exact xb_cons h (hk w rfl)
  | bk w =>
    have nb : ∀ (n : Nat) (s : σ), whL cc f n s ≠ some (.bk w) := by
      intro n
      induction n with
      | zero => intro s z; cases z
      | succ n ih =>
        intro s z
        unfold whL at z
        split at z
        · cases ef : f s with
          | nx s1 => rw [ef] at z; exact ih s1 z
          | bk s1 => rw [ef] at z; cases z
          | rt b => rw [ef] at z; cases z
        · cases z
    exact absurd ho (nb n s0)
  | rt b => exact xb_stop h (hfr b).ne
/-- f(..), that may raise, alone -/
theorem xb_exprE (f : U → RS) (m : T → Except Str U) {r : Except Str T} {g : T → Except Str O} (h : XX S ρ e (exX ρ (oE g r))) (hg : ∀ v, ∃ o, g v = .ok o) (k : ∀ w, r = .ok w → XB S pin ρ ss (rE f (m w))) (hs : ∀ env : PySem.Env, swapsWith e none pos.line env = pure false := by intro _; rfl) :
    XB S pin ρ (.Expr e pos :: ss) (rE f (bindE r m)) := by
  cases r with
  | ok v =>
    obtain ⟨o, e1⟩ := hg v
    have h' : XX S ρ e (.ok o ρ) := by
      have : oE g (.ok v) = .ok o := e1
      rw [this] at h
      exact h
    exact xb_cons (xs_expr h' hs) (k v rfl)
  | error x => exact xb_stop (xs_exprE h (.inl rfl) hs) fun ρ z => nomatch z
/-- x = f(..), that may raise; the answer frozen -/
theorem xb_letE (f : U → RS) (i : Nat) {y : Str} {p' : Pos} (ρ' : T → Env) (m : T → Except Str U) {r : Except Str T} {g : T → Except Str D} (h : XP S ρ e (match r with | .ok v => g v | .error x => .error x)) (hg : ∀ v, ∃ d, g v = .ok d ∧ ρ' v = ρ.set i (some (.fro d))) (k : ∀ w, r = .ok w → XB S pin (ρ' w) ss (rE f (m w)))
    (hi : Nat.blt i ρ.length = true := by rfl) (hp : i ∉ pin := by decide) (hN : S.N[i]? = some y := by rfl) (hx : Loc S.scope y := by first | exact .inl rfl | exact .inr rfl) (hst : S.st y = true ∨ S.scope.names.lookup y = some .local := by first | exact .inl rfl | exact .inr rfl)
    (hs : ∀ env : PySem.Env, swapsWith e (some (.Name y p')) pos.line { env with scope := S.scope } = pure false := by intro _; rfl) : XB S pin ρ (.Assign [.Name y p'] e pos :: ss) (rE f (bindE r m)) := by
  cases r with
  | ok v =>
    obtain ⟨d, e1, e2⟩ := hg v
    have h' : XP S ρ e (.ok d) := h.cast e1
    exact xb_cons ((xs_setF (pin := pin) i h' hi hp hN hx hst hs).cast (by rw [e2])) (k v rfl)
  | error x => exact xb_stop (xs_setE i h.xe (.inl rfl) hN hx hst hs) fun ρ z => nomatch z
end

/-! ### targets, in short -/
section
variable {S : Sig} {pos : Pos}
abbrev TG1 (S : Sig) (tg : Expr) (g : TG) : Prop := ∀ q, S.Ok q → PG (S.cx q) tg g
abbrev TGN (S : Sig) (tgs : List Expr) (g : TGs) : Prop := ∀ q, S.Ok q → PGs (S.cx q) tgs g
theorem tg_n (i : Nat) {x : Str} (hN : S.N[i]? = some x := by rfl) (hx : Loc S.scope x := by first | exact .inl rfl | exact .inr rfl) (hst : S.st x = true ∨ S.scope.names.lookup x = some .local := by first | exact .inl rfl | exact .inr rfl) : TG1 S (.Name x pos) (gName i) := fun q ok => pg_name (X := S.cx q) (i := i) ok.nd hN hx (hst.elim (fun z => .inl (ok.fn x z)) .inr)
theorem tgs_0 : TGN S [] gNil := fun q ok => pgs_nil
theorem tgs_1 {e : Expr} {es : List Expr} {t : TG} {u : TGs} (h1 : TG1 S e t) (h2 : TGN S es u) (hs : ∀ env : PySem.Env, (assignEach (e :: es) env).map (·.2) = assign e env :: (assignEach es env).map (·.2) := by intro _; rfl) : TGN S (e :: es) (gCons t u) := fun q ok => pgs_cons (h1 q ok) (h2 q ok) (hs _)
theorem tg_t [Calm S] {es : List Expr} {k : Nat} {t : TGs} {n : Nat} (h : TGN S es t) (hn : ∀ env : PySem.Env, (assignEach es env).length = n := by intro _; rfl) (hst : ∀ env : PySem.Env, (assignEach es env).findIdx? (·.1) = none := by intro _; rfl) : TG1 S (.Tuple es k pos) (gTup S.K n t) := fun q ok => pg_tup (X := S.cx q) Calm.h (h q ok) (hn _) (hst _)
end
/-! ### expressions, typed -/
section
variable {S : Sig} {ρ ρ1 : Env} {a b c e it tg elt : Expr} {pos p2 : Pos} {pin : List Nat} {es : List Expr}
abbrev TP {T : Type} [DecidableEq T] [Datum T] [Enc T] (S : Sig) (ρ : Env) (e : Expr) (v : T) : Prop := XP S ρ e (.ok (enc v))
abbrev TV {T : Type} [DecidableEq T] [Datum T] [Enc T] (S : Sig) (ρ : Env) (e : Expr) (v : T) : Prop := XV S ρ e (enc v)
section
variable {i j : Int}
theorem tp_add (ha : TP S ρ a i) (hb : TP S ρ b j) : TP S ρ (.BinOp a .Add b pos) (i + j) := xp_bin ob_add ha.v hb.v
theorem tp_sub (ha : TP S ρ a i) (hb : TP S ρ b j) : TP S ρ (.BinOp a .Sub b pos) (i - j) := xp_bin ob_sub ha.v hb.v
theorem tp_mul (ha : TP S ρ a i) (hb : TP S ρ b j) (h : (-(2 ^ 64) < i ∧ i < 2 ^ 64) ∨ (-(2 ^ 64) < j ∧ j < 2 ^ 64)) : TP S ρ (.BinOp a .Mult b pos) (i * j) := xp_bin (ob_mul h) ha.v hb.v
theorem tp_div (ha : TP S ρ a i) (hb : TP S ρ b j) (h : 0 < j ∧ j < 1073741824) : TP S ρ (.BinOp a .FloorDiv b pos) (i / j) := xp_bin (ob_div h) ha.v hb.v
theorem tp_mod (ha : TP S ρ a i) (hb : TP S ρ b j) (h : 0 < j) : TP S ρ (.BinOp a .Mod b pos) (i % j) := xp_bin (ob_mod h) ha.v hb.v
theorem tp_pow (ha : TP S ρ a i) (hb : TP S ρ b j) (h : 0 ≤ j ∧ j ≤ 1000000 ∧ i.natAbs < 2 ^ 64) : TP S ρ (.BinOp a .Pow b pos) (i ^ j.toNat) := xp_bin (ob_pow h) ha.v hb.v
theorem tp_neg (ha : TP S ρ a i) : TP S ρ (.UnaryOp .USub a pos) (-i) := xp_neg ha
theorem tp_int {j} : TP S ρ (.Constant (.int i) j pos) i := xp_int
theorem tt_lt (ha : TP S ρ a i) (hb : TP S ρ b j) : XT S ρ (.Compare a [.Lt] [b] pos) (decide (i < j)) := xt_cmp oc_lt ha.v hb.v
theorem tt_le (ha : TP S ρ a i) (hb : TP S ρ b j) : XT S ρ (.Compare a [.LtE] [b] pos) (decide (i ≤ j)) := xt_cmp oc_le ha.v hb.v
theorem tt_gt (ha : TP S ρ a i) (hb : TP S ρ b j) : XT S ρ (.Compare a [.Gt] [b] pos) (decide (j < i)) := xt_cmp oc_gt ha.v hb.v
theorem tt_ge (ha : TP S ρ a i) (hb : TP S ρ b j) : XT S ρ (.Compare a [.GtE] [b] pos) (decide (j ≤ i)) := xt_cmp oc_ge ha.v hb.v
theorem tp_lt (ha : TP S ρ a i) (hb : TP S ρ b j) : TP S ρ (.Compare a [.Lt] [b] pos) (decide (i < j)) := xp_cmp oc_lt ha.v hb.v
theorem tp_le (ha : TP S ρ a i) (hb : TP S ρ b j) : TP S ρ (.Compare a [.LtE] [b] pos) (decide (i ≤ j)) := xp_cmp oc_le ha.v hb.v
theorem tp_gt (ha : TP S ρ a i) (hb : TP S ρ b j) : TP S ρ (.Compare a [.Gt] [b] pos) (decide (j < i)) := xp_cmp oc_gt ha.v hb.v
theorem tp_ge (ha : TP S ρ a i) (hb : TP S ρ b j) : TP S ρ (.Compare a [.GtE] [b] pos) (decide (j ≤ i)) := xp_cmp oc_ge ha.v hb.v
end
section
variable {T T' U : Type} [DecidableEq T] [Datum T] [Enc T] [DecidableEq T'] [Datum T'] [Enc T'] {u v : T}
theorem tt_eq (ha : TV S ρ a u) (hb : TV S ρ b v) (hd : Datum.depth T ≤ 64 := by decide) : XT S ρ (.Compare a [.Eq] [b] pos) (decide (u = v)) := xt_cmp (oc_eq hd) ha hb
theorem tt_ne (ha : TV S ρ a u) (hb : TV S ρ b v) (hd : Datum.depth T ≤ 64 := by decide) : XT S ρ (.Compare a [.NotEq] [b] pos) (!decide (u = v)) := xt_cmp (oc_ne hd) ha hb
theorem tp_eq (ha : TV S ρ a u) (hb : TV S ρ b v) (hd : Datum.depth T ≤ 64 := by decide) : TP S ρ (.Compare a [.Eq] [b] pos) (decide (u = v)) := xp_cmp (oc_eq hd) ha hb
theorem tp_ne (ha : TV S ρ a u) (hb : TV S ρ b v) (hd : Datum.depth T ≤ 64 := by decide) : TP S ρ (.Compare a [.NotEq] [b] pos) (!decide (u = v)) := xp_cmp (oc_ne hd) ha hb
theorem tt_in {xs : List T} (ha : TV S ρ a u) (hb : TV S ρ b xs) (hd : Datum.depth T ≤ 63 := by decide) (hm : behindInMarks .In b = false := by rfl) : XT S ρ (.Compare a [.In] [b] pos) (decide (u ∈ xs)) := xt_cmp (oc_in hd) ha hb hm
theorem tt_ni {xs : List T} (ha : TV S ρ a u) (hb : TV S ρ b xs) (hd : Datum.depth T ≤ 63 := by decide) (hm : behindInMarks .NotIn b = false := by rfl) : XT S ρ (.Compare a [.NotIn] [b] pos) (!decide (u ∈ xs)) := xt_cmp (oc_notin hd) ha hb hm
theorem tp_in {xs : List T} (ha : TV S ρ a u) (hb : TV S ρ b xs) (hd : Datum.depth T ≤ 63 := by decide) (hm : behindInMarks .In b = false := by rfl) : TP S ρ (.Compare a [.In] [b] pos) (decide (u ∈ xs)) := xp_cmp (oc_in hd) ha hb hm
theorem tp_ni {xs : List T} (ha : TV S ρ a u) (hb : TV S ρ b xs) (hd : Datum.depth T ≤ 63 := by decide) (hm : behindInMarks .NotIn b = false := by rfl) : TP S ρ (.Compare a [.NotIn] [b] pos) (!decide (u ∈ xs)) := xp_cmp (oc_notin hd) ha hb hm
theorem tt_inT {xs : Tup T} (ha : TV S ρ a u) (hb : TV S ρ b xs) (hd : Datum.depth T ≤ 63 := by decide) (hm : behindInMarks .In b = false := by rfl) : XT S ρ (.Compare a [.In] [b] pos) (decide (u ∈ xs.items)) := xt_cmp (oc_inT hd) ha hb hm
theorem tt_niT {xs : Tup T} (ha : TV S ρ a u) (hb : TV S ρ b xs) (hd : Datum.depth T ≤ 63 := by decide) (hm : behindInMarks .NotIn b = false := by rfl) : XT S ρ (.Compare a [.NotIn] [b] pos) (!decide (u ∈ xs.items)) := xt_cmp (oc_notinT hd) ha hb hm
theorem tp_inT {xs : Tup T} (ha : TV S ρ a u) (hb : TV S ρ b xs) (hd : Datum.depth T ≤ 63 := by decide) (hm : behindInMarks .In b = false := by rfl) : TP S ρ (.Compare a [.In] [b] pos) (decide (u ∈ xs.items)) := xp_cmp (oc_inT hd) ha hb hm
theorem tp_niT {xs : Tup T} (ha : TV S ρ a u) (hb : TV S ρ b xs) (hd : Datum.depth T ≤ 63 := by decide) (hm : behindInMarks .NotIn b = false := by rfl) : TP S ρ (.Compare a [.NotIn] [b] pos) (!decide (u ∈ xs.items)) := xp_cmp (oc_notinT hd) ha hb hm
/-- a op b op c -/
theorem tt_ch {op op' : CmpOp} {T'' : Type} [DecidableEq T''] [Datum T''] [Enc T''] {w : T'} {z : T''} {k k' : Bool} (ho : OC S op (enc u) (enc w) k) (ho' : OC S op' (enc w) (enc z) k') (ha : TP S ρ a u) (hb : TP S ρ b w) (hc : TP S ρ c z) (hm : lastMarks [op, op'] [b, c] = false := by with_unfolding_all rfl) : XT S ρ (.Compare a [op, op'] [b, c] pos) (k && k') := xt_chain ho ho' ha.v hb.v hc.v hm
theorem tp_ch {op op' : CmpOp} {T'' : Type} [DecidableEq T''] [Datum T''] [Enc T''] {w : T'} {z : T''} {k k' : Bool} (ho : OC S op (enc u) (enc w) k) (ho' : OC S op' (enc w) (enc z) k') (ha : TP S ρ a u) (hb : TP S ρ b w) (hc : TP S ρ c z) (hm : lastMarks [op, op'] [b, c] = false := by with_unfolding_all rfl) : TP S ρ (.Compare a [op, op'] [b, c] pos) (k && k') := xp_chain ho ho' ha.v hb.v hc.v hm
/-- items -/
theorem tp_ixL {xs : List T} {i : Int} (ha : TP S ρ a xs) (hb : TP S ρ b i) (h : atI xs i = some v) (hs : PlainIx b := by intro _ _; rfl) : TP S ρ (.Subscript a b pos) v := xp_ix (oi_lst (by rw [atI_map, h]; rfl)) ha hb hs
theorem tp_ixT {xs : Tup T} {i : Int} (ha : TP S ρ a xs) (hb : TP S ρ b i) (h : atI xs.items i = some v) (hs : PlainIx b := by intro _ _; rfl) : TP S ρ (.Subscript a b pos) v := xp_ix (oi_tup (by rw [atI_map, h]; rfl)) ha hb hs
theorem tp_ix2a {p : T × T'} (ha : TP S ρ a p) {j} {pos'} : TP S ρ (.Subscript a (.Constant (.int 0) j pos') pos) p.1 := xp_ix (oi_tup (i := 0) rfl) ha xp_int
theorem tp_ix2b {p : T × T'} (ha : TP S ρ a p) {j} {pos'} : TP S ρ (.Subscript a (.Constant (.int 1) j pos') pos) p.2 := xp_ix (oi_tup (i := 1) rfl) ha xp_int
theorem tp_ix3a {T'' : Type} [DecidableEq T''] [Datum T''] [Enc T''] {p : T3 T T' T''} (ha : TP S ρ a p) {j} {pos'} : TP S ρ (.Subscript a (.Constant (.int 0) j pos') pos) p.a := xp_ix (oi_tup (i := 0) rfl) ha xp_int
theorem tp_ix3b {T'' : Type} [DecidableEq T''] [Datum T''] [Enc T''] {p : T3 T T' T''} (ha : TP S ρ a p) {j} {pos'} : TP S ρ (.Subscript a (.Constant (.int 1) j pos') pos) p.b := xp_ix (oi_tup (i := 1) rfl) ha xp_int
theorem tp_ix3c {T'' : Type} [DecidableEq T''] [Datum T''] [Enc T''] {p : T3 T T' T''} (ha : TP S ρ a p) {j} {pos'} : TP S ρ (.Subscript a (.Constant (.int 2) j pos') pos) p.c := xp_ix (oi_tup (i := 2) rfl) ha xp_int
/-- made -/
theorem tp_2 {p : T} {q : T'} (h : XA S ρ es [enc p, enc q]) {k} : TP S ρ (.Tuple es k pos) (p, q) := xp_tup h
theorem tp_3 {T'' : Type} [DecidableEq T''] [Datum T''] [Enc T''] {p : T} {q : T'} {r : T''} (h : XA S ρ es [enc p, enc q, enc r]) {k} : TP S ρ (.Tuple es k pos) (T3.mk p q r) := xp_tup h
theorem tp_catL {xs ys : List T} (ha : TP S ρ a xs) (hb : TP S ρ b ys) (h : xs.length + ys.length ≤ 1000000) : TP S ρ (.BinOp a .Add b pos) (xs ++ ys) := (xp_binF (ob_cat (by simpa using h)) ha hb).cast (by show _ = Except.ok (D.lst ((xs ++ ys).map enc)); rw [List.map_append])
theorem tp_catT {xs ys : Tup T} (ha : TP S ρ a xs) (hb : TP S ρ b ys) (h : xs.items.length + ys.items.length ≤ 1000000) : TP S ρ (.BinOp a .Add b pos) (Tup.mk (xs.items ++ ys.items)) := (xp_binF (ob_catT (by simpa using h)) ha hb).cast (by show _ = Except.ok (D.tup ((xs.items ++ ys.items).map enc)); rw [List.map_append])
theorem tp_slL {xs : List T} {el eh : Option Expr} {lo hi : Option Int} (ha : TP S ρ a xs) (hl : XO S ρ el lo) (hh : XO S ρ eh hi) : TP S ρ (.Subscript a (.Slice el eh none p2) pos) (cutL xs lo hi) := (xp_slL ha hl hh).cast (by show _ = Except.ok (D.lst ((cutL xs lo hi).map enc)); rw [cutL_map])
theorem tp_slT {xs : Tup T} {el eh : Option Expr} {lo hi : Option Int} (ha : TP S ρ a xs) (hl : XO S ρ el lo) (hh : XO S ρ eh hi) : TP S ρ (.Subscript a (.Slice el eh none p2) pos) (Tup.mk (cutL xs.items lo hi)) := (xp_slT ha hl hh).cast (by show _ = Except.ok (D.tup ((cutL xs.items lo hi).map enc)); rw [cutL_map])
theorem tp_if {k : Bool} (ht : XT S ρ c k) (ha : k = true → TP S ρ a u) (hb : k = false → TP S ρ b v) : TP S ρ (.IfExp c a b pos) (if k = true then u else v) := by
  cases k with
  | true => exact xp_if ht ha fun z => nomatch z
  | false => exact xp_if ht (fun z => nomatch z) hb
end
section
variable {α T : Type} [DecidableEq T] [Datum T] [Enc T] (xs : List α) (g : α → D) (p : α → Bool) (f : α → T) (own : List (Str × Nat)) {scope : Scope} {tgt : TG} {ifs : List Expr} (ρb : α → Env)
theorem map_enc {l : List α} : l.map (fun x => enc (f x)) = (l.map f).map enc := by rw [List.map_map]; rfl
theorem tp_lc [Calm S] (hi : XI S ρ tg it (xs.map g)) (hg : ∀ q, (S.blk scope).Ok q → PG ((S.blk scope).cx q) tg tgt) (ho : TgOwn tgt (own.map (·.2)))
    (hG : ∀ x ∈ xs, EG (S.blk scope) [] tgt (wipeE ρ (own.map (·.2))) (g x) (ρb x)) (ht : ∀ x ∈ xs, XT (S.blk scope) (ρb x) c (p x)) (he : ∀ x ∈ xs, p x = true → TP (S.blk scope) (ρb x) elt (f x)) (hl : xs.length ≤ 1000000) (bo : blkC S.N S.scope scope own = true := by (try dsimp only [sigOf, Sig.blk]); decide +kernel)
    (hs : ∀ (env : PySem.Env) (x : Value), foldedSetIterable it env x = pure x := by intro _ _; rfl) : TP S ρ (.ListComp elt [⟨tg, it, [c], 0⟩] scope pos) ((xs.filter p).map f) :=
  (xp_lc xs g p (fun x => enc (f x)) own ρb hi hg ho hG (fun x hx => xts_one (ht x hx)) he hl bo hs).cast (by rw [map_enc]; rfl)
theorem tp_lcm [Calm S] (hi : XI S ρ tg it (xs.map g)) (hg : ∀ q, (S.blk scope).Ok q → PG ((S.blk scope).cx q) tg tgt) (ho : TgOwn tgt (own.map (·.2)))
    (hG : ∀ x ∈ xs, EG (S.blk scope) [] tgt (wipeE ρ (own.map (·.2))) (g x) (ρb x)) (he : ∀ x ∈ xs, TP (S.blk scope) (ρb x) elt (f x)) (hl : xs.length ≤ 1000000) (bo : blkC S.N S.scope scope own = true := by (try dsimp only [sigOf, Sig.blk]); decide +kernel)
    (hs : ∀ (env : PySem.Env) (x : Value), foldedSetIterable it env x = pure x := by intro _ _; rfl) : TP S ρ (.ListComp elt [⟨tg, it, [], 0⟩] scope pos) (xs.map f) :=
  (xp_lc xs g (fun _ => true) (fun x => enc (f x)) own ρb hi hg ho hG (fun x hx => xts_nil) (fun x hx _ => he x hx) hl bo hs).cast (by rw [map_enc, List.filter_eq_self.mpr (by simp)]; rfl)
theorem ts_lc [Calm S] (i : Nat) {y : Str} {py spos : Pos} (hi : XI S ρ tg it (xs.map g)) (hg : ∀ q, (S.blk scope).Ok q → PG ((S.blk scope).cx q) tg tgt) (ho : TgOwn tgt (own.map (·.2)))
    (hG : ∀ x ∈ xs, EG (S.blk scope) [] tgt (wipeE ρ (own.map (·.2))) (g x) (ρb x)) (ht : ∀ x ∈ xs, XT (S.blk scope) (ρb x) c (p x)) (he : ∀ x ∈ xs, p x = true → TP (S.blk scope) (ρb x) elt (f x)) (hl : xs.length ≤ 1000000)
    (hn : Nat.blt i ρ.length = true := by rfl) (hp : i ∉ pin := by decide) (hN : S.N[i]? = some y := by rfl) (hy : S.scope.names.lookup y = some .local := by rfl) (hsw : ∀ env : PySem.Env, swapsWith (.ListComp elt [⟨tg, it, [c], 0⟩] scope pos) (some (.Name y py)) spos.line { env with scope := S.scope } = pure true := by intro _; exact sw_true rfl rfl rfl (by decide +kernel)) (bo : blkC S.N S.scope scope own = true := by (try dsimp only [sigOf, Sig.blk]); decide +kernel)
    (hs : ∀ (env : PySem.Env) (x : Value), foldedSetIterable it env x = pure x := by intro _ _; rfl) : XS S pin ρ (.Assign [.Name y py] (.ListComp elt [⟨tg, it, [c], 0⟩] scope pos) spos) (.nx (ρ.set i (some (.fro (enc ((xs.filter p).map f)))))) :=
  (ps_lcF xs g p (fun x => enc (f x)) own ρb i hi hg ho hG (fun x hx => xts_one (ht x hx)) he hl hn hp hN hy hsw bo hs).cast (by rw [map_enc]; rfl)
theorem ts_lcm [Calm S] (i : Nat) {y : Str} {py spos : Pos} (hi : XI S ρ tg it (xs.map g)) (hg : ∀ q, (S.blk scope).Ok q → PG ((S.blk scope).cx q) tg tgt) (ho : TgOwn tgt (own.map (·.2)))
    (hG : ∀ x ∈ xs, EG (S.blk scope) [] tgt (wipeE ρ (own.map (·.2))) (g x) (ρb x)) (he : ∀ x ∈ xs, TP (S.blk scope) (ρb x) elt (f x)) (hl : xs.length ≤ 1000000)
    (hn : Nat.blt i ρ.length = true := by rfl) (hp : i ∉ pin := by decide) (hN : S.N[i]? = some y := by rfl) (hy : S.scope.names.lookup y = some .local := by rfl) (hsw : ∀ env : PySem.Env, swapsWith (.ListComp elt [⟨tg, it, [], 0⟩] scope pos) (some (.Name y py)) spos.line { env with scope := S.scope } = pure true := by intro _; exact sw_true rfl rfl rfl (by decide +kernel)) (bo : blkC S.N S.scope scope own = true := by (try dsimp only [sigOf, Sig.blk]); decide +kernel)
    (hs : ∀ (env : PySem.Env) (x : Value), foldedSetIterable it env x = pure x := by intro _ _; rfl) : XS S pin ρ (.Assign [.Name y py] (.ListComp elt [⟨tg, it, [], 0⟩] scope pos) spos) (.nx (ρ.set i (some (.fro (enc (xs.map f)))))) :=
  (ps_lcF xs g (fun _ => true) (fun x => enc (f x)) own ρb i hi hg ho hG (fun x hx => xts_nil) (fun x hx _ => he x hx) hl hn hp hN hy hsw bo hs).cast (by rw [map_enc, List.filter_eq_self.mpr (by simp)]; rfl)
/-- owned -/
theorem tn_lc [Calm S] (hi : XI S ρ tg it (xs.map g)) (hg : ∀ q, (S.blk scope).Ok q → PG ((S.blk scope).cx q) tg tgt) (ho : TgOwn tgt (own.map (·.2)))
    (hG : ∀ x ∈ xs, EG (S.blk scope) [] tgt (wipeE ρ (own.map (·.2))) (g x) (ρb x)) (ht : ∀ x ∈ xs, XT (S.blk scope) (ρb x) c (p x)) (he : ∀ x ∈ xs, p x = true → TP (S.blk scope) (ρb x) elt (f x)) (hl : xs.length ≤ 1000000) (bo : blkC S.N S.scope scope own = true := by (try dsimp only [sigOf, Sig.blk]); decide +kernel)
    (hs : ∀ (env : PySem.Env) (x : Value), foldedSetIterable it env x = pure x := by intro _ _; rfl) : XN S ρ (.ListComp elt [⟨tg, it, [c], 0⟩] scope pos) (.lst ((((xs.filter p).map f).map enc).map O.fro)) := by
  rw [← map_enc]; exact xn_lc xs g p (fun x => enc (f x)) own ρb hi hg ho hG (fun x hx => xts_one (ht x hx)) he hl bo hs
theorem tn_lcm [Calm S] (hi : XI S ρ tg it (xs.map g)) (hg : ∀ q, (S.blk scope).Ok q → PG ((S.blk scope).cx q) tg tgt) (ho : TgOwn tgt (own.map (·.2)))
    (hG : ∀ x ∈ xs, EG (S.blk scope) [] tgt (wipeE ρ (own.map (·.2))) (g x) (ρb x)) (he : ∀ x ∈ xs, TP (S.blk scope) (ρb x) elt (f x)) (hl : xs.length ≤ 1000000) (bo : blkC S.N S.scope scope own = true := by (try dsimp only [sigOf, Sig.blk]); decide +kernel)
    (hs : ∀ (env : PySem.Env) (x : Value), foldedSetIterable it env x = pure x := by intro _ _; rfl) : XN S ρ (.ListComp elt [⟨tg, it, [], 0⟩] scope pos) (.lst (((xs.map f).map enc).map O.fro)) := by
  rw [← map_enc]
  have := xn_lc (pos := pos) xs g (fun _ => true) (fun x => enc (f x)) own ρb hi hg ho hG (fun x hx => xts_nil) (fun x hx _ => he x hx) hl bo hs
  rw [List.filter_eq_self.mpr (by simp)] at this
  exact this
end
end
end G

namespace G
open PySem PySem.Spec PyProof.Rows L2
open PySem.W (Datum DatumOrd Tup T3)
open Enc (enc)
variable {K : PySem.W.Frag}

/-! ### places within what is owned -/
theorem perm_mid {A B C D : List Addr} (h : A.Perm (B ++ C)) : (D ++ A).Perm (B ++ (D ++ C)) := by
  refine (List.Perm.append_left D h).trans ?_
  rw [← List.append_assoc, ← List.append_assoc]
  exact List.Perm.append_right C List.perm_append_comm
theorem Owns.foc {F H : Hp} : ∀ {vs : List V} {os : List O} {A : List Addr} {j : Nat} {o : O}, Owns K F H vs os A → os[j]? = some o → ∃ v B C, vs[j]? = some v ∧ Own K F H v o B ∧ A.Perm (B ++ C) ∧
    ∀ F' H' o' B', Ext F F' → (∀ a u, H a = some u → a ∈ C → H' a = some u) → Own K F' H' v o' B' → ∃ A', Owns K F' H' vs (os.set j o') A' ∧ A'.Perm (B' ++ C)
  | _, _, _, _, _, .nil, e => by simp at e
  | _, _, _, 0, o, .cons (B := C) h r, e => by
    simp at e; subst e
    exact ⟨_, _, C, rfl, h, .refl _, fun F' H' o' B' e k ow => ⟨_, .cons ow (r.mono e (S := C) k fun _ h => h), .refl _⟩⟩
  | _, _, _, j + 1, o, .cons (A := A1) h r, e => by
    obtain ⟨v, B, C, h1, h2, h3, h4⟩ := r.foc (j := j) (o := o) (by simpa using e)
    refine ⟨v, B, A1 ++ C, by simpa using h1, h2, perm_mid h3, fun F' H' o' B' e k ow => ?_⟩
    obtain ⟨A', a1, a2⟩ := h4 F' H' o' B' e (fun a u h hc => k a u h (List.mem_append_right _ hc)) ow
    exact ⟨_, .cons (h.mono e (S := A1) (fun a u z hz => k a u z (List.mem_append_left _ hz)) fun _ h => h) a1, perm_mid a2⟩
structure Foc (K : PySem.W.Frag) (F H : Hp) (σ : L2.St) (A : List Addr) (v : V) (o : O) (up : O → Env) (B C : List Addr) : Prop where
  own : Own K F H v o B
  perm : A.Perm (B ++ C)
  back : ∀ F' H' o' B', Ext F F' → (∀ a u, H a = some u → a ∈ C → H' a = some u) → Own K F' H' v o' B' → ∃ A', Envs K F' H' σ (up o') A' ∧ A'.Perm (B' ++ C)
theorem Foc.grow {F H F1 H1 : Hp} {σ : L2.St} {A B C : List Addr} {v : V} {o : O} {up : O → Env} (f : Foc K F H σ A v o up B C) (g : Grow F H F1 H1) : Foc K F1 H1 σ A v o up B C :=
  ⟨g.own f.own, f.perm, fun F' H' o' B' e k ow => f.back F' H' o' B' (g.stp.fs.trans e) (fun a u h hc => k a u (g.hh a u h) hc) ow⟩
theorem Own.head {F H : Hp} {l : Addr} {o : O} {B : List Addr} (h : Own K F H (.ref l) o (l :: B)) : ¬ Imm (H l) := by
  cases h with
  | lst h _ => rw [h]; exact fun z => z
  | dt h _ _ => rw [h]; exact fun z => z
  | dk h _ _ => rw [h]; exact fun z => z
  | ins h _ _ => rw [h]; exact fun z => z
/-- one object changed, some new ones taken in, some left -/
theorem Foc.mut {F H : Hp} {σ : L2.St} {A A0 A1 B2 C X : List Addr} {l : Addr} {o o' : O} {up : O → Env} {u : HO} (w : WF F H (B2 ++ A)) (f : Foc K F H σ A (.ref l) o up (l :: A0) C) (p : ((l :: A1) ++ X).Perm ((l :: A0) ++ B2)) (ow : Own K F (upd H l u) (.ref l) o' (l :: A1)) :
    ∃ A', Envs K F (upd H l u) σ (up o') A' ∧ WF F (upd H l u) A' ∧ Stp F H (B2 ++ A) F (upd H l u) A' := by
  have w1 : WF F H ((l :: A0) ++ C) := w.right.perm f.perm
  have lC : l ∉ C := w1.dis (by simp)
  obtain ⟨A', e1, p1⟩ := f.back F (upd H l u) o' (l :: A1) (Ext.refl _) (fun a v h hc => by rw [upd_ne fun z => lC (by rw [← z]; exact hc)]; exact h) ow
  have pp : (B2 ++ A).Perm (X ++ A') := by
    refine (List.Perm.append_left B2 f.perm).trans ?_
    rw [← List.append_assoc]
    refine (List.Perm.append_right C (List.perm_append_comm.trans p.symm)).trans ?_
    refine (List.Perm.append_right C List.perm_append_comm).trans ?_
    rw [List.append_assoc]
    exact List.Perm.append_left X p1.symm
  have w2 : WF F H A' := (w.perm pp).right
  have lA : l ∈ A' := p1.mem_iff.mpr (by simp)
  refine ⟨A', e1, ⟨fun a v h => ?_, w2.nd, w2.off, fun a h => ?_⟩, ⟨Ext.refl _, fun a v h n => ?_, fun a v h => .inl h, fun a h => .inl (pp.mem_iff.mpr (List.mem_append_right _ h)), fun a h => ?_⟩⟩
  · rw [upd_ne fun z => by rw [z, w2.off l lA] at h; cases h]
    exact w2.sub a v h
  · by_cases z : a = l
    · subst z; exact ow.head
    · rw [upd_ne z]; exact w2.on a h
  · rw [upd_ne fun z => n (pp.mem_iff.mpr (List.mem_append_right _ (by rw [z]; exact lA)))]; exact h
  · by_cases z : a = l
    · subst z; rw [upd_same] at h; cases h
    · rw [upd_ne z] at h; exact h
/-- what stands beside is not touched -/
theorem frame {F H F' H' : Hp} {B C B' : List Addr} (w : WF F H (B ++ C)) (s : Stp F H B F' H' B') (w' : WF F' H' B') : WF F' H' (B' ++ C) ∧ Stp F H (B ++ C) F' H' (B' ++ C) ∧ ∀ a u, H a = some u → a ∈ C → H' a = some u := by
  have cB : ∀ a ∈ C, a ∉ B := fun a h z => w.dis z h
  refine ⟨⟨w'.sub, ?_, ?_, ?_⟩, (s.mono (fun a h => List.mem_append_left _ h)).more (fun a h => .inl (List.mem_append_right _ h)), fun a u h hc => s.keep a u h (cB a hc)⟩
  · refine List.nodup_append.mpr ⟨w'.nd, w.right.nd, fun x hx y hy e => ?_⟩
    subst e
    rcases s.foot x hx with q | q
    · exact cB x hy q
    · exact w.right.on x hy (imm_none q)
  · intro x hx
    rcases List.mem_append.mp hx with hx | hx
    · exact w'.off x hx
    · cases z : F' x with
      | none => rfl
      | some o =>
        rcases s.new x o z with q | q | q
        · rw [w.right.off x hx] at q; cases q
        · exact absurd q (cB x hx)
        · exact absurd q (w.right.on x hx)
  · intro x hx
    rcases List.mem_append.mp hx with hx | hx
    · exact w'.on x hx
    · exact s.held (cB x hx) (w.right.on x hx)
theorem Owns.append {F H : Hp} : ∀ {vs ws : List V} {os qs : List O} {A B : List Addr}, Owns K F H vs os A → Owns K F H ws qs B → Owns K F H (vs ++ ws) (os ++ qs) (A ++ B)
  | _, _, _, _, _, _, .nil, s => s
  | _, _, _, _, _, _, .cons h r, s => by rw [List.append_assoc]; exact .cons h (r.append s)

def XL (S : Sig) (ρ : Env) (e : Expr) (o : O) (up : O → Env) : Prop := ∃ t : TE, (∀ q, S.Ok q → PE (S.cx q) e t) ∧ ∀ (σ : L2.St) (F H : Hp) (A : List Addr) (Q : VK), WF F H A → Envs S.K F H σ ρ A → (∀ v B C, Foc S.K F H σ A v o up B C → Q v H) → t σ H Q
section
variable {S : Sig} {ρ ρ1 : Env} {a b c e : Expr} {d d1 d2 d3 : D} {ds : List D} {pos p2 : Pos} {pin : List Nat} {es : List Expr} {o : O} {up : O → Env}
theorem xl_var (i : Nat) {x : Str} (hρ : ρ[i]? = some (some o) := by rfl) (hN : S.N[i]? = some x := by rfl) (hv : Vis S.scope x := by first | exact Or.inl rfl | exact Or.inr (Or.inl rfl) | exact Or.inr (Or.inr rfl))
    (hd : (x == ("__debug__" : Str)) = false := by decide) (hcd : (x == ("__classdict__" : Str)) = false := by decide) : XL S ρ (.Name x pos) o (fun o' => ρ.set i (some o')) :=
  ⟨tVar i, fun q _ => pe_var hN hv hd hcd, fun σ F H A Q w n q => by
    obtain ⟨v, B, A', h1, h2, h3, h4⟩ := n.get hρ
    refine ⟨v, h1, q v B A' ⟨h2, h4, fun F' H' o' B' e k ow => ?_⟩⟩
    have e2 : (ρ.set i none)[i]? = some none := by
      rw [List.getElem?_set_self]
      exact (List.getElem?_eq_some_iff.mp hρ).1
    obtain ⟨A2, n3, p3⟩ := (h3.mono e (S := A') k fun _ h => h).back ow e2 h1
    rw [List.set_set] at n3
    exact ⟨A2, n3, p3⟩⟩
/-- the place of a field -/
def fidx (f : Str) : List Str → Option Nat
  | [] => none
  | g :: r => if f = g then some 0 else (fidx f r).map (· + 1)
theorem fidx_get {f : Str} : ∀ {fs : List (Str × V)} {j : Nat}, fidx f (fs.map (·.1)) = some j → fs.lookup f = (fs.map (·.2))[j]?
  | [], _, e => by cases e
  | (g, v) :: r, j, e => by
    simp only [List.map_cons, fidx] at e
    by_cases h : f = g
    · rw [if_pos h] at e
      cases e
      subst h
      simp [List.lookup]
    · rw [if_neg h] at e
      cases z : fidx f (r.map (·.1)) with
      | none => rw [z] at e; cases e
      | some k =>
        rw [z] at e
        cases e
        have := fidx_get z
        simp only [List.map_cons, List.getElem?_cons_succ, ← this, List.lookup]
        rw [beq_eq_false_iff_ne.mpr h]
theorem fidx_none {f : Str} : ∀ {fs : List (Str × V)}, fidx f (fs.map (·.1)) = none → fs.lookup f = none
  | [], _ => rfl
  | (g, v) :: r, e => by
    simp only [List.map_cons, fidx] at e
    by_cases h : f = g
    · rw [if_pos h] at e; cases e
    · rw [if_neg h] at e
      have : fidx f (r.map (·.1)) = none := by
        cases z : fidx f (r.map (·.1)) with
        | none => rfl
        | some k => rw [z] at e; cases e
      simp only [List.lookup]
      rw [beq_eq_false_iff_ne.mpr h]
      exact fidx_none this
theorem putF_new {f : Str} {v : V} : ∀ {fs : List (Str × V)}, fidx f (fs.map (·.1)) = none → putF f v fs = fs ++ [(f, v)]
  | [], _ => rfl
  | (g, x) :: r, e => by
    simp only [List.map_cons, fidx] at e
    by_cases h : f = g
    · rw [if_pos h] at e; cases e
    · rw [if_neg h] at e
      have z : fidx f (r.map (·.1)) = none := by
        cases z : fidx f (r.map (·.1)) with
        | none => rfl
        | some k => rw [z] at e; cases e
      show (if g = f then _ else _) = _
      rw [if_neg fun z => h z.symm, putF_new z]
      rfl
theorem putF_old {f : Str} {v : V} : ∀ {fs : List (Str × V)} {j : Nat}, fidx f (fs.map (·.1)) = some j → (putF f v fs).map (·.1) = fs.map (·.1) ∧ (putF f v fs).map (·.2) = (fs.map (·.2)).set j v
  | [], _, e => by cases e
  | (g, x) :: r, j, e => by
    simp only [List.map_cons, fidx] at e
    by_cases h : f = g
    · rw [if_pos h] at e
      cases e
      subst h
      show (if f = f then _ else _ : List (Str × V)).map _ = _ ∧ (if f = f then _ else _ : List (Str × V)).map _ = _
      rw [if_pos rfl]
      exact ⟨rfl, rfl⟩
    · rw [if_neg h] at e
      cases z : fidx f (r.map (·.1)) with
      | none => rw [z] at e; cases e
      | some k =>
        rw [z] at e
        cases e
        obtain ⟨h1, h2⟩ := putF_old (v := v) z
        show (if g = f then _ else _ : List (Str × V)).map _ = _ ∧ (if g = f then _ else _ : List (Str × V)).map _ = _
        rw [if_neg fun z => h z.symm]
        exact ⟨by rw [List.map_cons, h1]; rfl, by rw [List.map_cons, h2]; rfl⟩
theorem xl_fld {C : Addr} {ns : List Str} {os : List O} {f : Str} (j : Nat) (c : Cls S.K C) (na : NoAttr S.K C f) (h : XL S ρ e (.ins C ns os) up) (hf : fidx f ns = some j := by decide) (hj : os[j]? = some o := by rfl) (hb : ∀ env : PySem.Env, attributeBase e f env (eval e env) = eval e env := by intro _; rfl) :
    XL S ρ (.Attribute e f pos) o (fun o' => up (.ins C ns (os.set j o'))) := by
  obtain ⟨t, h1, h2⟩ := h
  refine ⟨tFld S.K t f, fun q ok => pe_fld (h1 q ok) (hb _), fun σ F H A Q w n q => h2 σ F H A _ w n fun v B C0 fo => ?_⟩
  cases fo with
  | mk ow p bk =>
  cases ow with
  | ins ha hn r =>
    rename_i a dx fs A0
    obtain ⟨v, B1, C1, g1, g2, g3, g4⟩ := r.foc hj
    subst hn
    refine ⟨a, C, dx, fs, v, rfl, ha, c, na, by rw [fidx_get hf]; exact g1, q v B1 (a :: C1 ++ C0) ⟨g2, ?_, fun F' H' o' B' e k ow => ?_⟩⟩
    · refine p.trans ?_
      rw [← List.append_assoc]
      exact List.Perm.append_right C0 (perm_mid (D := [a]) g3)
    · obtain ⟨A1, n1, p1⟩ := g4 F' H' o' B' e (fun x u h hc => k x u h (by simp [hc])) ow
      obtain ⟨A2, n2, p2⟩ := bk F' H' (.ins C (fs.map (·.1)) (os.set j o')) (a :: A1) e (fun x u h hc => k x u h (by simp [hc])) (.ins (k a _ ha (by simp)) rfl n1)
      refine ⟨A2, n2, p2.trans ?_⟩
      rw [← List.append_assoc]
      exact List.Perm.append_right C0 (perm_mid (D := [a]) p1)
theorem XL.p (h : XL S ρ e (.fro d) up) : XP S ρ e (.ok d) := by
  obtain ⟨t, h1, h2⟩ := h
  refine ⟨t, h1, fun σ F H A Q w n q => h2 σ F H A _ w n fun v B C fo => ?_⟩
  cases fo with
  | mk ow p bk =>
  cases ow with
  | fro r => exact q v F H (Grow.refl w.sub) r
theorem XL.v (h : XL S ρ e o up) : XV S ρ e o.d := by
  obtain ⟨t, h1, h2⟩ := h
  exact ⟨t, h1, fun σ F H A Q w n q => h2 σ F H A _ w n fun v B C fo => q v F H (Grow.refl w.sub) (fo.own.rep w.sub)⟩
/-- a field of a frozen instance -/
theorem xp_fld {C : Addr} {ns : List Str} {f : Str} (j : Nat) (c : Cls S.K C) (na : NoAttr S.K C f) (h : XP S ρ e (.ok (.ins C ns ds))) (hf : fidx f ns = some j := by decide) (hj : ds[j]? = some d := by rfl) (hb : ∀ env : PySem.Env, attributeBase e f env (eval e env) = eval e env := by intro _; rfl) :
    XP S ρ (.Attribute e f pos) (.ok d) := by
  obtain ⟨t, h1, h2⟩ := h
  refine ⟨tFld S.K t f, fun q ok => pe_fld (h1 q ok) (hb _), fun σ F H A Q w n q => h2 σ F H A _ w n fun v F1 H1 g r => ?_⟩
  cases r with
  | ins ha hn r =>
    subst hn
    obtain ⟨v, g1, g2⟩ := r.get hj
    exact ⟨_, _, _, _, v, rfl, g.ext _ _ ha, c, na, by rw [fidx_get hf]; exact g1, q v F1 H1 g g2⟩
theorem xv_fld {C : Addr} {ns : List Str} {f : Str} (j : Nat) (c : Cls S.K C) (na : NoAttr S.K C f) (h : XV S ρ e (.ins C ns ds)) (hf : fidx f ns = some j := by decide) (hj : ds[j]? = some d := by rfl) (hb : ∀ env : PySem.Env, attributeBase e f env (eval e env) = eval e env := by intro _; rfl) :
    XV S ρ (.Attribute e f pos) d := by
  obtain ⟨t, h1, h2⟩ := h
  refine ⟨tFld S.K t f, fun q ok => pe_fld (h1 q ok) (hb _), fun σ F H A Q w n q => h2 σ F H A _ w n fun v F1 H1 g r => ?_⟩
  cases r with
  | ins ha hn r =>
    subst hn
    obtain ⟨v, g1, g2⟩ := r.get hj
    exact ⟨_, _, _, _, v, rfl, ha, c, na, by rw [fidx_get hf]; exact g1, q v F1 H1 g g2⟩

/-! ### lists: append, extend -/
theorem xx_append {os : List O} {apos cpos : Pos} (hl : XL S ρ a (.lst os) up) (he : XP S ρ e (.ok d)) (hn : os.length < 1000000)
    (hbase : ∀ env : PySem.Env, attributeBase a "append" env (eval a env) = eval a env := by intro _; rfl)
    (hfew : ∀ env : PySem.Env, ((backTo cpos (starEach [e] env)).all (fun x => !x.1) && (backToKw cpos (keywordEach [] env)).all (fun x => x.1.isSome) && decide ([e].length + ([] : List Keyword).length + (if ([] : List Keyword).isEmpty then 0 else 1) < 30)) = true := by intro _; rfl)
    (hline : (apos.endLine == cpos.line) = true := by rfl) (hs : ∀ env : PySem.Env, starEach [e] env = (false, eval e env) :: starEach [] env := by intro _; rfl) (hplain : ∀ env : PySem.Env, (backTo cpos (starEach [] env)).any (·.1) = false := by intro _; rfl) :
    XX S ρ (.Call (.Attribute a "append" apos) [e] [] cpos) (.ok (.fro .non) (up (.lst (os ++ [.fro d])))) := by
  obtain ⟨t, h1, h2⟩ := hl
  obtain ⟨ta, a1, a2⟩ := xa_cons he xa_nil hs
  refine ⟨tBM S.K "list" rAppend t ta, fun q ok => pe_bm PySem.F.plainAttrs_list PySem.F.slot_list_append PySem.F.type_list_append mt_append (h1 q ok) (a1 q ok) (hbase _) (hfew _) hline (hs _) (hplain _), fun σ F H A Q w n q => h2 σ F H A _ w n fun v B C fo => ?_⟩
  cases fo with
  | mk ow p bk =>
  cases ow with
  | lst hx r =>
    rename_i l xs A0
    refine ⟨.inl ⟨rfl, _, SqL.of hx⟩, a2 σ F H A _ w n fun vs F1 H1 g rr => ?_⟩
    obtain ⟨y, rfl, ry⟩ := reps1 rr
    have len := r.length
    have fo := (Foc.mk (.lst hx r) p bk : Foc S.K F H σ A (.ref l) (.lst os) up (l :: A0) C).grow g
    have w1 := g.wf w
    have lA : l ∉ A0 := fun z => by
      have := (w1.perm fo.perm).left.nd
      exact (List.nodup_cons.mp this).1 z
    refine ⟨l, xs, y, rfl, rfl, g.hh _ _ hx, line_lt (by omega), ?_⟩
    obtain ⟨A', n', w', s'⟩ := Foc.mut (B2 := []) (A1 := A0 ++ []) (X := []) (u := .lst (xs ++ [y])) (o' := .lst (os ++ [.fro d])) w1 fo (by simp) (.lst upd_same (Owns.append ((g.owns r).mono (Ext.refl _) (S := A0) (fun x u h hx => by rw [upd_ne fun z => lA (by rw [← z]; exact hx)]; exact h) fun _ h => h) (Owns.fros (ds := [d]) (.cons ry .nil))))
    refine q .non F1 _ [] A' w' (Stp.trans ((g.stp.mono (by simp) (A' := A)).more (C := A) fun a h => .inl h) s') (.fro .non) n'
theorem xx_extend {os : List O} {apos cpos : Pos} (hl : XL S ρ a (.lst os) up) (he : XP S ρ e (.ok (.lst ds))) (hn : os.length + ds.length ≤ 1000000)
    (hbase : ∀ env : PySem.Env, attributeBase a "extend" env (eval a env) = eval a env := by intro _; rfl)
    (hfew : ∀ env : PySem.Env, ((backTo cpos (starEach [e] env)).all (fun x => !x.1) && (backToKw cpos (keywordEach [] env)).all (fun x => x.1.isSome) && decide ([e].length + ([] : List Keyword).length + (if ([] : List Keyword).isEmpty then 0 else 1) < 30)) = true := by intro _; rfl)
    (hline : (apos.endLine == cpos.line) = true := by rfl) (hs : ∀ env : PySem.Env, starEach [e] env = (false, eval e env) :: starEach [] env := by intro _; rfl) (hplain : ∀ env : PySem.Env, (backTo cpos (starEach [] env)).any (·.1) = false := by intro _; rfl) :
    XX S ρ (.Call (.Attribute a "extend" apos) [e] [] cpos) (.ok (.fro .non) (up (.lst (os ++ ds.map .fro)))) := by
  obtain ⟨t, h1, h2⟩ := hl
  obtain ⟨ta, a1, a2⟩ := xa_cons he xa_nil hs
  refine ⟨tBM S.K "list" rExtend t ta, fun q ok => pe_bm PySem.F.plainAttrs_list PySem.F.slot_list_extend PySem.F.type_list_extend mt_extend (h1 q ok) (a1 q ok) (hbase _) (hfew _) hline (hs _) (hplain _), fun σ F H A Q w n q => h2 σ F H A _ w n fun v B C fo => ?_⟩
  cases fo with
  | mk ow p bk =>
  cases ow with
  | lst hx r =>
    rename_i l xs A0
    refine ⟨.inl ⟨rfl, _, SqL.of hx⟩, a2 σ F H A _ w n fun vs F1 H1 g rr => ?_⟩
    obtain ⟨y, rfl, ry⟩ := reps1 rr
    cases ry with
    | lst hz rz =>
    rename_i b zs
    have len := r.length
    have len2 := rz.length
    have fo := (Foc.mk (.lst hx r) p bk : Foc S.K F H σ A (.ref l) (.lst os) up (l :: A0) C).grow g
    have w1 := g.wf w
    have lA : l ∉ A0 := fun z => by
      have := (w1.perm fo.perm).left.nd
      exact (List.nodup_cons.mp this).1 z
    refine ⟨l, b, xs, zs, rfl, rfl, g.hh _ _ hx, g.ext _ _ hz, line_le (by omega), ?_⟩
    obtain ⟨A', n', w', s'⟩ := Foc.mut (B2 := []) (A1 := A0 ++ []) (X := []) (u := .lst (xs ++ zs)) (o' := .lst (os ++ ds.map .fro)) w1 fo (by simp) (.lst upd_same (Owns.append ((g.owns r).mono (Ext.refl _) (S := A0) (fun x u h hx => by rw [upd_ne fun z => lA (by rw [← z]; exact hx)]; exact h) fun _ h => h) (Owns.fros rz)))
    refine q .non F1 _ [] A' w' (Stp.trans ((g.stp.mono (by simp) (A' := A)).more (C := A) fun a h => .inl h) s') (.fro .non) n'

/-! ### e.f = v -/
theorem xs_fldN {C : Addr} {ns : List Str} {os : List O} {f : Str} {value : Expr} {pos' : Pos} {o2 : O} (c : Cls S.K C) (na : NoAttr S.K C f) (hv : XX S ρ value (.ok o2 ρ1)) (h : XL S ρ1 e (.ins C ns os) up) (hf : fidx f ns = none := by decide) (hl : ns.length < 900 := by decide)
    (hs : ∀ env : PySem.Env, swapsWith value (some (.Attribute e f pos')) pos.line env = pure false := by intro _; rfl) : XS S pin ρ (.Assign [.Attribute e f pos'] value pos) (.nx (up (.ins C (ns ++ [f]) (os ++ [o2])))) := by
  obtain ⟨tv, v1, v2⟩ := hv
  obtain ⟨t, h1, h2⟩ := h
  refine ⟨sFld S.K t tv f, fun q ok => ps_fld (h1 q ok) (v1 q ok) (hs _), fun σ F H A D w n q => v2 σ F H A _ w n fun y F1 H1 B2 A1 w1 s1 ow n1 => h2 σ F1 H1 A1 _ w1.right n1 fun v B C0 fo => ?_⟩
  cases fo with
  | mk ow1 p bk =>
  cases ow1 with
  | ins ha hn r =>
    rename_i l dx fs A0
    subst hn
    have fo : Foc S.K F1 H1 σ A1 (.ref l) (.ins C (fs.map (·.1)) os) up (l :: A0) C0 := .mk (.ins ha rfl r) p bk
    have lA : l ∉ A0 := fun z => (List.nodup_cons.mp (w1.right.perm p).left.nd).1 z
    have lB : l ∉ B2 := fun z => w1.dis z (p.mem_iff.mpr (by simp))
    have kp : ∀ {S' : List Addr}, l ∉ S' → ∀ x u', H1 x = some u' → x ∈ S' → upd H1 l (.ins C dx (fs ++ [(f, y)])) x = some u' := fun hS x u' h hx => by rw [upd_ne fun z => hS (by rw [← z]; exact hx)]; exact h
    rw [List.length_map] at hl
    have e0 := putF_new (v := y) hf
    obtain ⟨A', n', w', s'⟩ := Foc.mut (B2 := B2) (A1 := A0 ++ (B2 ++ [])) (X := []) (u := .ins C dx (fs ++ [(f, y)])) (o' := .ins C (fs.map (·.1) ++ [f]) (os ++ [o2])) w1 fo (by simp) (.ins upd_same (by rw [List.map_append]; rfl) (by
      rw [List.map_append]
      exact Owns.append (r.mono (Ext.refl _) (S := A0) (kp lA) fun _ h => h) (.cons (ow.mono (Ext.refl _) (S := B2) (kp lB) fun _ h => h) .nil)))
    exact ⟨l, C, dx, fs, rfl, ha, c, na, by omega, by rw [e0]; exact q σ F1 _ A' w' (s1.trans s') n' Pin.refl⟩
theorem Owns.set {F H : Hp} {v : V} {o : O} {B : List Addr} (h : Own K F H v o B) : ∀ {vs : List V} {os : List O} {A : List Addr} {j : Nat}, Owns K F H vs os A → j < os.length → ∃ A' X, Owns K F H (vs.set j v) (os.set j o) A' ∧ (A' ++ X).Perm (A ++ B)
  | _, _, _, _, .nil, e => by simp at e
  | _, _, _, 0, .cons (A := A1) (B := A2) g r, _ => ⟨_, A1, .cons h r, List.perm_iff_count.mpr fun a => by simp only [List.count_append]; omega⟩
  | _, _, _, j + 1, .cons (A := A1) (B := A2) g r, e => by
    obtain ⟨A', X, h1, h2⟩ := r.set h (j := j) (by simpa using e)
    exact ⟨_, X, .cons g h1, by rw [List.append_assoc, List.append_assoc]; exact List.Perm.append_left A1 h2⟩
theorem xs_fldO {C : Addr} {ns : List Str} {os : List O} {f : Str} {value : Expr} {pos' : Pos} {o2 : O} (j : Nat) (c : Cls S.K C) (na : NoAttr S.K C f) (hv : XX S ρ value (.ok o2 ρ1)) (h : XL S ρ1 e (.ins C ns os) up) (hf : fidx f ns = some j := by decide) (hl : ns.length < 900 := by decide) (hj : j < os.length := by decide)
    (hs : ∀ env : PySem.Env, swapsWith value (some (.Attribute e f pos')) pos.line env = pure false := by intro _; rfl) : XS S pin ρ (.Assign [.Attribute e f pos'] value pos) (.nx (up (.ins C ns (os.set j o2)))) := by
  obtain ⟨tv, v1, v2⟩ := hv
  obtain ⟨t, h1, h2⟩ := h
  refine ⟨sFld S.K t tv f, fun q ok => ps_fld (h1 q ok) (v1 q ok) (hs _), fun σ F H A D w n q => v2 σ F H A _ w n fun y F1 H1 B2 A1 w1 s1 ow n1 => h2 σ F1 H1 A1 _ w1.right n1 fun v B C0 fo => ?_⟩
  cases fo with
  | mk ow1 p bk =>
  cases ow1 with
  | ins ha hn r =>
    rename_i l dx fs A0
    subst hn
    have fo : Foc S.K F1 H1 σ A1 (.ref l) (.ins C (fs.map (·.1)) os) up (l :: A0) C0 := .mk (.ins ha rfl r) p bk
    have lA : l ∉ A0 := fun z => (List.nodup_cons.mp (w1.right.perm p).left.nd).1 z
    have lB : l ∉ B2 := fun z => w1.dis z (p.mem_iff.mpr (by simp))
    have kp : ∀ {S' : List Addr}, l ∉ S' → ∀ x u', H1 x = some u' → x ∈ S' → upd H1 l (.ins C dx (putF f y fs)) x = some u' := fun hS x u' h hx => by rw [upd_ne fun z => hS (by rw [← z]; exact hx)]; exact h
    rw [List.length_map] at hl
    obtain ⟨e1, e2⟩ := putF_old (v := y) hf
    obtain ⟨A1', X, ows, pp⟩ := Owns.set (ow.mono (Ext.refl _) (S := B2) (kp lB) fun _ h => h) (r.mono (Ext.refl _) (S := A0) (kp lA) fun _ h => h) hj
    obtain ⟨A', n', w', s'⟩ := Foc.mut (B2 := B2) (A1 := A1') (X := X) (u := .ins C dx (putF f y fs)) (o' := .ins C (fs.map (·.1)) (os.set j o2)) w1 fo (by exact pp.cons l) (.ins upd_same e1 (by rw [e2]; exact ows))
    exact ⟨l, C, dx, fs, rfl, ha, c, na, by omega, q σ F1 _ A' w' (s1.trans s') n' Pin.refl⟩
end

/-! ### methods -/
def rmM (ds : List D) : Except Str O × O → RM
  | (.ok o, s) => .ok o (s :: ds.map O.fro)
  | (.error x, s) => .ex x (s :: ds.map O.fro)
/-- the receiver is owned, all else is frozen -/
abbrev spM (K : PySem.W.Frag) {τ : Type} (dd : τ → List D) (slf : τ → O) (pre : τ → Prop) (res : τ → Except Str O × O) : Sp := spG K (fun x => slf x :: (dd x).map O.fro) pre fun x => rmM (dd x) (res x)
structure MeG (P : Program) (w : World) (K : PySem.W.Frag) (mg : Str → Option Value) (base : Heap) (k : Nat) (C : Addr) (m : Str) (ps : List Str) (sp : Sp) : Prop where
  h : ∃ f fd, FnOk P w K mg base (L2N.CX P w) k f fd ps sp ∧ Meth K C m f ∧ Binds K fd ps []
  c : Cls K C
structure MkG (P : Program) (w : World) (K : PySem.W.Frag) (mg : Str → Option Value) (base : Heap) (k : Nat) (x : Str) (C : Addr) (ps : List Str) (sp : Sp) : Prop where
  h : ∃ f fd, FnOk P w K mg base (L2N.CX P w) k f fd ps sp ∧ Mk K C f ∧ Binds K fd ps [] ∧ mg x = some (.ref C)
def tMethS (C : Addr) (m : Str) (sp : Sp) (E : L2.St → XK) (ta : TE) (t : TA) : TE := fun σ H Q => ta σ H fun x H1 => ∃ a dx fs, x = .ref a ∧ H1 a = some (.ins C dx fs) ∧ fs.lookup m = none ∧ t σ H1 fun vs H2 => sp (x :: vs) H2 Q (E σ)
theorem pe_methS {X : Cx} {CX : CXT} {k : Nat} {f C : Addr} {fd : FuncData} {ps : List Str} {sp : Sp} {E : L2.St → XK} {m : Str} {pos apos : Pos} {e o : Expr} {es : List Expr} {ta : TE} {t : TA} {pl : Sem Bool} (he : PE X o ta) (c : Cls X.K C) (hm : Meth X.K C m f)
    (F : FnOk X.prog X.w X.K X.mg X.base CX k f fd ps sp) (hr : Room k X.A) (hb : Binds X.K fd ps []) (hx : ∀ σ, PassesAt CX X σ (E σ)) (ha : PA X (e :: es) t)
    (hst : starEach (e :: es) X.env = (false, eval e X.env) :: starEach es X.env) (hpl : (backTo pos (starEach es X.env)).any (·.1) = false)
    (ht : eval (.Call (.Attribute o m apos) (e :: es) [] pos) X.env = (do
      let ov ← eval o X.env
      standAt apos.atName
      let (f, first) ← holding [ov] (getMethod ov m pl)
      callWith pos f first (backTo pos (starEach (e :: es) X.env)) (backToKw pos (keywordEach [] X.env)))) :
    PE X (.Call (.Attribute o m apos) (e :: es) [] pos) (tMethS C m sp E ta t) := by
  refine ⟨fun pins s σ H Q I h => ?_⟩
  refine PySem.W.methodCall_KW (pl := pl) (thn (he.run pins s σ H _ I h) fun u s1 ⟨x, H1, I1, rx, a, dx, fs, ex, ea, l, q⟩ => ?_) ht
  subst ex
  obtain rfl : u = Value.ref a := rx
  refine getmeth_ok I1 ea c hm l ?_
  refine PySem.W.callWith_K (first := [.ref a]) (h₀ := X.base) I.ok.mod.kin hm.kp (thn (ha.run pos pins s1 σ H1 _ I1 q) fun us s2 ⟨vs, H2, I2, r, q2⟩ => ⟨I2.kIn, ?_⟩) hst hpl
  exact run_fnS (us := .ref a :: us) (vs := .ref a :: vs) F hr hb (hx σ) I2 (.cons rfl r) q2
theorem pe_methS0 {X : Cx} {CX : CXT} {k : Nat} {f C : Addr} {fd : FuncData} {ps : List Str} {sp : Sp} {E : L2.St → XK} {m : Str} {pos apos : Pos} {o : Expr} {ta : TE} {pl : Sem Bool} (he : PE X o ta) (c : Cls X.K C) (hm : Meth X.K C m f)
    (F : FnOk X.prog X.w X.K X.mg X.base CX k f fd ps sp) (hr : Room k X.A) (hb : Binds X.K fd ps []) (hx : ∀ σ, PassesAt CX X σ (E σ))
    (ht : eval (.Call (.Attribute o m apos) [] [] pos) X.env = (do
      let ov ← eval o X.env
      standAt apos.atName
      let (f, first) ← holding [ov] (getMethod ov m pl)
      callWith pos f first (backTo pos (starEach [] X.env)) (backToKw pos (keywordEach [] X.env)))) :
    PE X (.Call (.Attribute o m apos) [] [] pos) (tMethS C m sp E ta tNil) := by
  refine ⟨fun pins s σ H Q I h => ?_⟩
  refine PySem.W.methodCall_KW (pl := pl) (thn (he.run pins s σ H _ I h) fun u s1 ⟨x, H1, I1, rx, a, dx, fs, ex, ea, l, q⟩ => ?_) ht
  subst ex
  obtain rfl : u = Value.ref a := rx
  refine getmeth_ok I1 ea c hm l ?_
  exact PySem.W.callWith_K0 (first := [.ref a]) I1.kIn hm.kp (run_fnS (us := [.ref a]) (vs := [.ref a]) F hr hb (hx σ) I1 (.cons rfl .nil) q)
theorem run_makeS {X : Cx} {CX : CXT} {k : Nat} {f C : Addr} {fd : FuncData} {ps : List Str} {sp : Sp} {E : L2.St → XK} {pins : List (Addr × Obj)} {σ : L2.St} {H : Hp} {s : Shared} {Q : VK} {us : List Value} {vs : List V} (M : Mk X.K C f) (F : FnOk X.prog X.w X.K X.mg X.base CX k f fd ps sp) (hr : Room (k + 1) X.A) (hb : Binds X.K fd ps [])
    (hx : PassesAt CX X σ (E σ)) (I : Inv X pins σ H s) (r : Vals vs us)
    (h : ∀ x dx, H x = none → H dx = none → dx ≠ x → sp (.ref x :: vs) (upd (upd H dx (.own x)) x (.ins C dx [])) (fun v H2 => v = .non ∧ Q (.ref x) H2) (E σ)) :
    wpAny (model X.prog X.w) X.A (call (.ref C) us) (L2.EP X pins σ Q) X.xe s := by
  have hq := h (s.heap.objs.size + 1) s.heap.objs.size (I.hok.fresh (Nat.le_succ _)) (I.hok.fresh (Nat.le_refl _)) (Nat.ne_of_lt (Nat.lt_succ_self _))
  have I2 := Inv.made (C := C) I
  have r2 : Vals (V.ref (s.heap.objs.size + 1) :: vs) (Value.ref (s.heap.objs.size + 1) :: us) := .cons rfl r
  have hl : (Value.ref (s.heap.objs.size + 1) :: us).length = ps.length := by
    have e := r2.length
    rw [F.len _ _ _ _ hq] at e
    exact e.symm
  have b := hb _ (Value.ref (s.heap.objs.size + 1) :: us) I2.kIn (by rw [List.append_nil]; exact hl)
  rw [List.append_nil] at b
  refine wpAny_call (make_map (f := f) I.kIn M.makes M.init (beq_iff_eq.mp M.fn) (codeAny_mono (F.run _ X.stack _ _ ⟨Value.ref (s.heap.objs.size + 1) :: us, []⟩ (Value.ref (s.heap.objs.size + 1) :: us) _ _ (E σ) (hr.make C us [])
    (I2.env0.make C us []) b r2 hq) fun r s' hq' => ?_))
  cases r with
  | error e => exact hx pins _ _ e s' I2 hq'
  | ok fl =>
    cases fl with
    | ret u =>
      obtain ⟨v, H', I3, rv, ev, q3⟩ := I2.after hq'
      subst ev
      exact ⟨rv, ⟨V.ref (s.heap.objs.size + 1), H', I3, rfl, q3⟩⟩
    | next => exact False.elim hq'
    | brk => exact False.elim hq'
    | cont => exact False.elim hq'
def tMakeS (C : Addr) (sp : Sp) (E : L2.St → XK) (t : TA) : TE := fun σ H Q => t σ H fun vs H1 => ∀ x dx, H1 x = none → H1 dx = none → dx ≠ x →
  sp (.ref x :: vs) (upd (upd H1 dx (.own x)) x (.ins C dx [])) (fun v H2 => v = .non ∧ Q (.ref x) H2) (E σ)
theorem pe_makeS {X : Cx} {CX : CXT} {k : Nat} {f C : Addr} {fd : FuncData} {ps : List Str} {sp : Sp} {E : L2.St → XK} {x : Str} {p pos : Pos} {e : Expr} {es : List Expr} {t : TA} (M : Mk X.K C f) (F : FnOk X.prog X.w X.K X.mg X.base CX k f fd ps sp) (hr : Room (k + 1) X.A) (hg : Gl X x) (hm : X.mg x = some (.ref C)) (hb : Binds X.K fd ps []) (hx : ∀ σ, PassesAt CX X σ (E σ))
    (ha : PA X (e :: es) t) (hdb : (x == ("__debug__" : Str)) = false) (he : starEach (e :: es) X.env = (false, eval e X.env) :: starEach es X.env) (hpl : (backTo pos (starEach es X.env)).any (·.1) = false) :
    PE X (.Call (.Name x p) (e :: es) [] pos) (tMakeS C sp E t) := by
  refine ⟨fun pins s σ H Q I h => ?_⟩
  refine wpAny_Call_Name_kw (ld_glob I hg hm ?_ hdb)
  refine PySem.W.callWith_K (h₀ := X.base) I.ok.mod.kin M.kp (thn (ha.run pos pins s σ H _ I h) fun us s1 ⟨vs, H1, I1, r, q⟩ => ⟨I1.kIn, ?_⟩) he hpl
  exact run_makeS M F hr hb (hx σ) I1 r q
section
variable {S : Sig} {ρ ρ1 : Env} {a b c e : Expr} {d d1 d2 d3 : D} {ds : List D} {pos p2 : Pos} {pin : List Nat} {es : List Expr} {o : O} {up : O → Env} {x m : Str} {ps : List Str} {k : Nat} {C : Addr}
variable {τ : Type} {dd : τ → List D} {pre : τ → Prop} {slf : τ → O} {res : τ → Except Str O × O}
def exM (up : O → Env) : Except Str O × O → RE
  | (.ok o, s) => .ok o (up s)
  | (.error x, s) => .ex x (up s)
theorem ex_meth {t : TE} {ta : TA} (y : τ) (hp : pre y) {ns : List Str} {os : List O} (hC : slf y = .ins C ns os) (hm : fidx m ns = none)
    (hl : ∀ (σ : L2.St) (F H : Hp) (A : List Addr) (Q : VK), WF F H A → Envs S.K F H σ ρ A → (∀ v B C, Foc S.K F H σ A v (slf y) up B C → Q v H) → t σ H Q) (ha : EA S ta ρ (dd y)) :
    EX S (tMethS C m (spM S.K dd slf pre res) (WE S.wx) t ta) ρ (exM up (res y)) := fun σ F H A Q w n q => hl σ F H A _ w n fun v B C0 fo => by
  have ow1 := fo.own
  rw [hC] at ow1
  cases ow1 with
  | ins hx hn r =>
    rename_i l dx fs A0
    subst hn
    refine ⟨l, dx, fs, rfl, hx, fidx_none hm, ha σ F H A _ w n fun vs F1 H1 g rr => ?_⟩
    have fo := fo.grow g
    have w1 := (g.wf w).perm fo.perm
    refine ⟨y, F1, (l :: A0) ++ [], by rw [List.append_nil]; exact w1.left, .cons fo.own (Owns.fros rr), hp, ?_⟩
    rw [List.append_nil]
    show RM.Post _ _ _ _ _ _ _ (rmM (dd y) (res y))
    have s0 : Stp F H A F1 H1 ((l :: A0) ++ C0) := ((g.stp.mono (by simp) (A' := A)).more (C := A) fun a h => .inl h).perm (fun _ => Iff.rfl) fun a h => by simpa using fo.perm.mem_iff.mpr h
    rcases hr : res y with ⟨z | z, s⟩
    · rw [hr] at q
      intro F2 H2 A2 w2 s2 ows
      cases ows with
      | cons ow r2 =>
        rename_i B1 B2
        obtain ⟨_, rfl⟩ := Owns.fros_inv r2
        rw [List.append_nil] at w2 s2
        obtain ⟨w3, s3, k3⟩ := frame w1 s2 w2
        obtain ⟨A', n', p'⟩ := fo.back F2 H2 s B1 s2.fs k3 ow
        exact q F2 H2 A' (w3.perm p'.symm) ((s0.trans s3).perm (fun _ => Iff.rfl) fun a h => p'.mem_iff.mp h) n'
    · rw [hr] at q
      intro v F2 H2 Bo A2 w2 s2 ow2 ows
      cases ows with
      | cons ow r2 =>
        rename_i B1 B2
        obtain ⟨_, rfl⟩ := Owns.fros_inv r2
        rw [List.append_nil] at w2 s2
        obtain ⟨w3, s3, k3⟩ := frame w1 s2 w2
        obtain ⟨A', n', p'⟩ := fo.back F2 H2 s B1 s2.fs k3 ow
        have p2 : (Bo ++ B1 ++ C0).Perm (Bo ++ A') := by
          rw [List.append_assoc]
          exact List.Perm.append_left Bo p'.symm
        exact q v F2 H2 Bo A' (w3.perm p2) ((s0.trans s3).perm (fun _ => Iff.rfl) fun a h => p2.mem_iff.mpr h) ow2 n'
/-- e.m(a, ..) -/
theorem xx_meth [Calm S] {apos : Pos} {pl : PySem.Env → Sem Bool} (hG : MeG S.P S.w S.K S.mg S.base k C m ps (spM S.K dd slf pre res)) (y : τ) (hp : pre y) (hl : XL S ρ a (slf y) up) {ns : List Str} {os : List O} (hC : slf y = .ins C ns os) (ha : XA S ρ (e :: es) (dd y)) (hk : k ≤ S.kk := by exact Nat.le_of_ble_eq_true rfl) (hm : fidx m ns = none := by decide)
    (he : ∀ env : PySem.Env, starEach (e :: es) env = (false, eval e env) :: starEach es env := by intro _; rfl) (hpl : ∀ env : PySem.Env, (backTo pos (starEach es env)).any (·.1) = false := by intro _; rfl)
    (ht : ∀ env : PySem.Env, eval (.Call (.Attribute a m apos) (e :: es) [] pos) env = (do
      let ov ← eval a env
      standAt apos.atName
      let (f, first) ← holding [ov] (getMethod ov m (pl env))
      callWith pos f first (backTo pos (starEach (e :: es) env)) (backToKw pos (keywordEach [] env))) := by intro _; rfl) : XX S ρ (.Call (.Attribute a m apos) (e :: es) [] pos) (exM up (res y)) := by
  obtain ⟨f, fd, F, me, b⟩ := hG.h
  obtain ⟨t, h1, h2⟩ := hl
  obtain ⟨ta, a1, a2⟩ := ha
  exact ⟨_, fun q ok => pe_methS (X := S.cx q) (h1 q ok) hG.c me F ((ok.calm Calm.h).mono hk) b (fun σ => L2N.passAt ok.tk σ) (a1 q ok) (he _) (hpl _) (ht _), ex_meth y hp hC hm h2 a2⟩
/-- e.m() -/
theorem xx_meth0 [Calm S] {apos : Pos} {pl : PySem.Env → Sem Bool} (hG : MeG S.P S.w S.K S.mg S.base k C m ps (spM S.K dd slf pre res)) (y : τ) (hp : pre y) (hl : XL S ρ a (slf y) up) {ns : List Str} {os : List O} (hC : slf y = .ins C ns os) (hd : dd y = []) (hk : k ≤ S.kk := by exact Nat.le_of_ble_eq_true rfl) (hm : fidx m ns = none := by decide)
    (ht : ∀ env : PySem.Env, eval (.Call (.Attribute a m apos) [] [] pos) env = (do
      let ov ← eval a env
      standAt apos.atName
      let (f, first) ← holding [ov] (getMethod ov m (pl env))
      callWith pos f first (backTo pos (starEach [] env)) (backToKw pos (keywordEach [] env))) := by intro _; rfl) : XX S ρ (.Call (.Attribute a m apos) [] [] pos) (exM up (res y)) := by
  obtain ⟨f, fd, F, me, b⟩ := hG.h
  obtain ⟨t, h1, h2⟩ := hl
  exact ⟨_, fun q ok => pe_methS0 (X := S.cx q) (h1 q ok) hG.c me F ((ok.calm Calm.h).mono hk) b (fun σ => L2N.passAt ok.tk σ) (ht _), ex_meth y hp hC hm h2 (by rw [hd]; exact fun σ F H A Q w n q => q [] F H (Grow.refl w.sub) .nil)⟩
/-- C(a, ..) -/
theorem en_make {t : TA} (y : τ) (hp : pre y) (hs : slf y = .ins C [] []) {s : O} (hr : res y = (.ok (.fro .non), s)) (ha : EA S t ρ (dd y)) : EN S (tMakeS C (spM S.K dd slf pre res) (WE S.wx) t) ρ s := fun σ F H A Q w n q => ha σ F H A _ w n fun vs F1 H1 g rr => by
  intro x dx hx hdx hne
  have g0 := g.ext
  have s1 : Stp F1 H1 [] F1 (upd (upd H1 dx (.own x)) x (.ins C dx [])) [x] := by
    refine ⟨Ext.refl _, fun a u h _ => ?_, fun a u h => .inl h, fun a h => ?_, fun a h => ?_⟩
    · rw [upd_ne (ne_of_none h hx), upd_ne (ne_of_none h hdx)]; exact h
    · rw [List.mem_singleton.mp h]; exact .inr hx
    · by_cases z : a = x
      · subst z; exact hx
      · rw [upd_ne z] at h
        by_cases z2 : a = dx
        · subst z2; exact hdx
        · rw [upd_ne z2] at h; exact h
  have w1 : WF F1 (upd (upd H1 dx (.own x)) x (.ins C dx [])) [x] := by
    refine ⟨fun a u h => ?_, by simp, fun a h => ?_, fun a h => ?_⟩
    · exact s1.keep a u (g0 a u h) (by simp)
    · rw [List.mem_singleton.mp h]
      cases z : F1 x with
      | none => rfl
      | some u => rw [g0 x u z] at hx; cases hx
    · rw [List.mem_singleton.mp h, upd_same]; exact fun z => z
  refine ⟨y, F1, [x] ++ [], by simpa using w1, .cons (by rw [hs]; exact .ins (dx := dx) (fs := []) upd_same rfl .nil) (Owns.fros rr), hp, ?_⟩
  show RM.Post _ _ _ _ _ _ _ (rmM (dd y) (res y))
  rw [hr]
  intro v F2 H2 Bo A2 w2 s2 ow2 ows
  cases ow2 with
  | fro r0 =>
  cases r0
  refine ⟨rfl, ?_⟩
  cases ows with
  | cons ow r2 =>
    rename_i B1 B2
    obtain ⟨_, rfl⟩ := Owns.fros_inv r2
    simp only [List.nil_append, List.append_nil] at w2 s2
    exact q (.ref x) F2 H2 B1 ((g.stp.trans s1).trans s2) w2 ow
theorem ex_makeE {t : TA} (y : τ) (hp : pre y) (hs : slf y = .ins C [] []) {s : O} {z : Str} (hr : res y = (.error z, s)) (ha : EA S t ρ (dd y)) : EX S (tMakeS C (spM S.K dd slf pre res) (WE S.wx) t) ρ (.ex z ρ) := fun σ F H A Q w n q => ha σ F H A _ w n fun vs F1 H1 g rr => by
  intro x dx hx hdx hne
  have g0 := g.ext
  have s1 : Stp F1 H1 [] F1 (upd (upd H1 dx (.own x)) x (.ins C dx [])) [x] := by
    refine ⟨Ext.refl _, fun a u h _ => ?_, fun a u h => .inl h, fun a h => ?_, fun a h => ?_⟩
    · rw [upd_ne (ne_of_none h hx), upd_ne (ne_of_none h hdx)]; exact h
    · rw [List.mem_singleton.mp h]; exact .inr hx
    · by_cases z : a = x
      · subst z; exact hx
      · rw [upd_ne z] at h
        by_cases z2 : a = dx
        · subst z2; exact hdx
        · rw [upd_ne z2] at h; exact h
  have w1 : WF F1 (upd (upd H1 dx (.own x)) x (.ins C dx [])) [x] := by
    refine ⟨fun a u h => ?_, by simp, fun a h => ?_, fun a h => ?_⟩
    · exact s1.keep a u (g0 a u h) (by simp)
    · rw [List.mem_singleton.mp h]
      cases z : F1 x with
      | none => rfl
      | some u => rw [g0 x u z] at hx; cases hx
    · rw [List.mem_singleton.mp h, upd_same]; exact fun z => z
  refine ⟨y, F1, [x] ++ [], by simpa using w1, .cons (by rw [hs]; exact .ins (dx := dx) (fs := []) upd_same rfl .nil) (Owns.fros rr), hp, ?_⟩
  show RM.Post _ _ _ _ _ _ _ (rmM (dd y) (res y))
  rw [hr]
  intro F2 H2 A2 w2 s2 ows
  cases ows with
  | cons ow r2 =>
    rename_i B1 B2
    obtain ⟨_, rfl⟩ := Owns.fros_inv r2
    simp only [List.nil_append, List.append_nil] at w2 s2
    obtain ⟨w3, s3, n3⟩ := beside (g.wf w) (g.envs n) (s1.trans s2) w2
    exact q F2 H2 A w3.right (((g.stp.mono (by simp) (A' := A)).more (C := A) (fun a h => .inl h)).trans (s3.perm (fun _ => by simp) fun a h => List.mem_append_right _ h)) n3
theorem xn_make [Calm S] (hG : MkG S.P S.w S.K S.mg S.base k x C ps (spM S.K dd slf pre res)) (y : τ) (hp : pre y) (hs : slf y = .ins C [] []) {s : O} (hr : res y = (.ok (.fro .non), s)) (ha : XA S ρ (e :: es) (dd y)) (hk : k + 1 ≤ S.kk := by exact Nat.le_of_ble_eq_true rfl) (hg : S.scope.names.lookup x = some .globalImplicit := by rfl) (hdb : (x == ("__debug__" : Str)) = false := by decide)
    (he : ∀ env : PySem.Env, starEach (e :: es) env = (false, eval e env) :: starEach es env := by intro _; rfl) (hpl : ∀ env : PySem.Env, (backTo pos (starEach es env)).any (·.1) = false := by intro _; rfl) : XN S ρ (.Call (.Name x p2) (e :: es) [] pos) s := by
  obtain ⟨f, fd, F, M, b, hm⟩ := hG.h
  obtain ⟨t, a1, a2⟩ := ha
  exact ⟨_, fun q ok => pe_makeS (X := S.cx q) M F ((ok.calm Calm.h).mono hk) (show S.scope.names.lookup x = some .globalImplicit from hg) hm b (fun σ => L2N.passAt ok.tk σ) (a1 q ok) hdb (he _) (hpl _), en_make y hp hs hr a2⟩
theorem xx_makeE [Calm S] (hG : MkG S.P S.w S.K S.mg S.base k x C ps (spM S.K dd slf pre res)) (y : τ) (hp : pre y) (hs : slf y = .ins C [] []) {s : O} {z : Str} (hr : res y = (.error z, s)) (ha : XA S ρ (e :: es) (dd y)) (hk : k + 1 ≤ S.kk := by exact Nat.le_of_ble_eq_true rfl) (hg : S.scope.names.lookup x = some .globalImplicit := by rfl) (hdb : (x == ("__debug__" : Str)) = false := by decide)
    (he : ∀ env : PySem.Env, starEach (e :: es) env = (false, eval e env) :: starEach es env := by intro _; rfl) (hpl : ∀ env : PySem.Env, (backTo pos (starEach es env)).any (·.1) = false := by intro _; rfl) : XX S ρ (.Call (.Name x p2) (e :: es) [] pos) (.ex z ρ) := by
  obtain ⟨f, fd, F, M, b, hm⟩ := hG.h
  obtain ⟨t, a1, a2⟩ := ha
  exact ⟨_, fun q ok => pe_makeS (X := S.cx q) M F ((ok.calm Calm.h).mono hk) (show S.scope.names.lookup x = some .globalImplicit from hg) hm b (fun σ => L2N.passAt ok.tk σ) (a1 q ok) hdb (he _) (hpl _), ex_makeE y hp hs hr a2⟩
end

/-! ### a method's body keeps its promise -/
inductive FitsM : RS → Except Str O × O → Prop
  | rt {o ρ s r} (h0 : ρ[0]? = some (some s)) (h : (.ok o, s) = r) : FitsM (.rt o (some ρ)) r
  | nx {ρ s r} (h0 : ρ[0]? = some (some s)) (h : (.ok (.fro .non), s) = r) : FitsM (.nx ρ) r
  | ex {x ρ s r} (h0 : ρ[0]? = some (some s)) (h : (.error x, s) = r) : FitsM (.ex x (some ρ)) r
section
variable {P : Program} {w : World} {K : PySem.W.Frag} {mg : Str → Option Value} {base : Heap}
theorem self_out {F H : Hp} {σ σ0 : L2.St} {ρ : Env} {A : List Addr} {v : V} {s : O} (n : Envs K F H σ ρ A) (h0 : ρ[0]? = some (some s)) (e0 : σ0[0]? = some (some v)) (p : Pin [0] σ0 σ) : ∃ B A', Own K F H v s B ∧ A.Perm (B ++ A') := by
  obtain ⟨v', B, A', h1, h2, h3, h4⟩ := n.get h0
  have := p.at_ 0 (by simp)
  rw [h1, e0] at this
  cases this
  exact ⟨B, A', h2, h4⟩
theorem def_meth {x qual : Str} {st : Stmt} {f : Addr} {fd : FuncData} {N ps : List Str} {k : Nat} {τ : Type} {dd : τ → List D} {slf : τ → O} {pre : τ → Prop} {res : τ → Except Str O × O} (F : ∃ dvs kws, FunD K x qual (defArgs st) (defBody st) (defScope st) dvs kws f fd) (Sc : FnScope N ps (defScope st)) (hl : ∀ y, (dd y).length + 1 = ps.length)
    (body : ∀ (y : τ) (E : XK), pre y → ∃ r, XB (sigOf P w K mg base N (defScope st) k E) [0] (some (slf y) :: ((dd y).map (fun d => some (O.fro d)) ++ List.replicate (N.length - ps.length) none)) (defBody st) r ∧ FitsM r (res y)) :
    FnOk P w K mg base (L2N.CX P w) (k + 1) f fd ps (spM K dd slf pre res) := by
  obtain ⟨dvs, kws, F⟩ := F
  refine F.ok Sc (fun vs H Q E h => ?_) (fun cdv A outer s H vs Q E hr h => ?_)
  · obtain ⟨y, F1, A1, _, ow, _⟩ := h
    rw [ow.length, List.length_cons, List.length_map, hl]
  · obtain ⟨y, F1, A1, w1, ow, hp, post⟩ := h
    obtain ⟨r, ⟨t, h1, h2⟩, fit⟩ := body y E hp
    obtain ⟨q, ok, e⟩ := sig_ok (P := P) (w := w) (K := K) (mg := mg) (base := base) (cd := cdv) (outer := outer) (H := H) (E := E) Sc hr
    refine ⟨t, by rw [← e]; exact h1 q ok, ?_⟩
    have n1 := start_of (N := N) ow
    rw [List.length_cons, List.length_map, hl, List.map_cons, List.map_map] at n1
    refine h2 _ F1 H A1 _ w1 n1 ?_
    have post' : RM.Post K vs F1 H A1 Q E (rmM (dd y) (res y)) := post
    cases ow with
    | cons ow0 ow1 =>
    rename_i v0 vs B0 C0
    obtain ⟨r0, e0⟩ := Owns.fros_inv ow1
    subst e0
    have z0 : (L2.start N (v0 :: vs))[0]? = some (some v0) := rfl
    cases fit with
    | rt h0 z =>
      rw [← z] at post'
      intro v σ' F' H' B A' w' s' ow' n' p'
      obtain ⟨B1, A2, o1, p1⟩ := self_out n' h0 z0 p'
      have p2 : (B ++ A').Perm ((B ++ (B1 ++ [])) ++ A2) := by
        rw [List.append_nil, List.append_assoc]
        exact List.Perm.append_left B p1
      exact post' v F' H' B (B1 ++ []) (w'.perm p2).left (s'.perm (fun a => Iff.rfl) fun a h => p2.mem_iff.mpr (List.mem_append_left _ h)) ow' (.cons o1 (Owns.fros (r0.mono s'.fs)))
    | nx h0 z =>
      rw [← z] at post'
      intro σ' F' H' A' w' s' n' p'
      obtain ⟨B1, A2, o1, p1⟩ := self_out n' h0 z0 p'
      have p2 : A'.Perm (([] ++ (B1 ++ [])) ++ A2) := by
        rw [List.append_nil, List.nil_append]
        exact p1
      exact post' .non F' H' [] (B1 ++ []) (w'.perm p2).left (s'.perm (fun a => Iff.rfl) fun a h => p2.mem_iff.mpr (List.mem_append_left _ h)) (.fro .non) (.cons o1 (Owns.fros (r0.mono s'.fs)))
    | ex h0 z =>
      rw [← z] at post'
      intro σ' F' H' A' w' s' n' p'
      obtain ⟨B1, A2, o1, p1⟩ := self_out n' h0 z0 p'
      have p2 : A'.Perm ((B1 ++ []) ++ A2) := by
        rw [List.append_nil]
        exact p1
      exact post' F' H' (B1 ++ []) (w'.perm p2).left (s'.perm (fun a => Iff.rfl) fun a h => p2.mem_iff.mpr (List.mem_append_left _ h)) (.cons o1 (Owns.fros (r0.mono s'.fs)))
end
/-! ### as statements -/
section
variable {S : Sig} {ρ ρ1 ρ2 : Env} {e : Expr} {pos : Pos} {pin : List Nat} {o : O} {r : RE}
/-- x = (whatever it is) -/
theorem xs_setM (i : Nat) {x : Str} {p' : Pos} (h : XX S ρ e r) (hr : r = .ok o ρ1 := by rfl) (hq : ρ1.set i (some o) = ρ2 := by rfl) (hi : Nat.blt i ρ1.length = true := by rfl) (hp : i ∉ pin := by decide) (hN : S.N[i]? = some x := by rfl) (hx : Loc S.scope x := by first | exact .inl rfl | exact .inr rfl) (hst : S.st x = true ∨ S.scope.names.lookup x = some .local := by first | exact .inl rfl | exact .inr rfl)
    (hs : ∀ env : PySem.Env, swapsWith e (some (.Name x p')) pos.line { env with scope := S.scope } = pure false := by intro _; rfl) : XS S pin ρ (.Assign [.Name x p'] e pos) (.nx ρ2) := by
  subst hr; subst hq
  exact xs_set i h hi hp hN hx hst hs
theorem xs_exprM (h : XX S ρ e r) (hr : r = .ok o ρ1 := by rfl) (hq : ρ1 = ρ2 := by rfl) (hs : ∀ env : PySem.Env, swapsWith e none pos.line env = pure false := by intro _; rfl) : XS S pin ρ (.Expr e pos) (.nx ρ2) := by
  subst hr; subst hq
  exact xs_expr h hs
theorem xs_fldM {C : Addr} {ns : List Str} {os : List O} {f : Str} {value b : Expr} {pos' : Pos} {o2 : O} {up : O → Env} (c : Cls S.K C) (na : NoAttr S.K C f) (hv : XX S ρ value r) (h : XL S ρ b (.ins C ns os) up) (hr : r = .ok o2 ρ := by rfl) (hf : fidx f ns = none := by decide) (hl : ns.length < 900 := by decide) (hq : up (.ins C (ns ++ [f]) (os ++ [o2])) = ρ2 := by rfl)
    (hs : ∀ env : PySem.Env, swapsWith value (some (.Attribute b f pos')) pos.line env = pure false := by intro _; rfl) : XS S pin ρ (.Assign [.Attribute b f pos'] value pos) (.nx ρ2) := by
  subst hr; subst hq
  exact xs_fldN c na hv h hf hl hs
end
end G

namespace G
open PySem PySem.Spec PyProof.Rows L2
open PySem.W (Datum DatumOrd Tup T3 EachIs)
open Enc (enc)

/-! ### sorted -/
def sortT {T : Type} [DecidableEq T] [DatumOrd T] (xs : List T) : List T := xs.mergeSort fun a b => !DatumOrd.lt b a
/-- what the sort asks of the items' kind -/
class SortK (T : Type) [DecidableEq T] [Datum T] : Prop where
  h : (∀ b : T, ∃ x r, Datum.toD b = .tuple (x :: r)) ∨ (∀ b : T, Datum.toD b ≠ .none ∧ ∀ xs, Datum.toD b ≠ .tuple xs)
  d : Datum.depth T ≤ 60
instance : SortK Int := ⟨.inr fun b => ⟨fun z => (nomatch z), fun xs z => (nomatch z)⟩, by decide⟩
instance : SortK (Int × Int) := ⟨.inl fun b => ⟨_, _, rfl⟩, by decide⟩
instance : SortK (Int × (Int × Int)) := ⟨.inl fun b => ⟨_, _, rfl⟩, by decide⟩
instance : SortK ((Int × Int) × (Int × Int)) := ⟨.inl fun b => ⟨_, _, rfl⟩, by decide⟩
section
variable {T : Type} [DecidableEq T] [DatumOrd T] [Enc T] [SortK T]
def rSortD (K : PySem.W.Frag) (T : Type) [DecidableEq T] [DatumOrd T] [Enc T] : List V → Hp → VK → Prop := fun vs H Q => ∃ (F : Hp) (a : Addr) (xs : List V) (bs : List T), vs = [.ref a] ∧ Ext F H ∧ SqL K H a xs ∧ Reps K F xs (bs.map enc) ∧
  ∀ ys p, Reps K F ys ((sortT bs).map enc) → H p = none → Q (.ref p) (upd H p (.lst ys))
theorem each_of {X : Cx} {pins : List (Addr × Obj)} {σ : L2.St} {H F : Hp} {s : Shared} (I : Inv X pins σ H s) (e : Ext F H) : ∀ {xs : List V} {us : List Value} {bs : List T}, Reps X.K F xs (bs.map enc) → Vals xs us →
    EachIs (fun u b => ∃ v, RelV v u ∧ Rep X.K F v (enc b)) us bs ∧ EachIs (fun u b => ∃ as, Reads s.heap u (Datum.toD b) as) us bs
  | [], _, [], _, .nil => ⟨.nil, .nil⟩
  | v :: xs, u :: us, b :: bs, .cons h r, .cons rv rr => by
    obtain ⟨h1, h2⟩ := each_of I e r rr
    exact ⟨.cons ⟨v, rv, h⟩ h1, .cons (holds_of I (h.mono e) rv) h2⟩
  | [], _, b :: bs, r, _ => by cases r
  | v :: xs, _, [], r, _ => by cases r
theorem each_back {K : PySem.W.Frag} {F : Hp} : ∀ {us : List Value} {bs : List T}, EachIs (fun u b => ∃ v, RelV v u ∧ Rep K F v (enc b)) us bs → ∃ ys, Vals ys us ∧ Reps K F ys (bs.map enc)
  | _, _, .nil => ⟨[], .nil, .nil⟩
  | _, _, .cons ⟨v, r, h⟩ t => by
    obtain ⟨ys, h1, h2⟩ := each_back t
    exact ⟨v :: ys, .cons r h1, .cons h h2⟩
theorem cr_sortD {X : Cx} (hu : X.A.units + 100 < cLine) : CallR X (.builtin "sorted") (rSortD X.K T) := by
  intro pins s σ H vs us Q I r h
  obtain ⟨F, a, xs, bs, rfl, e, hs, rs, q⟩ := h
  obtain ⟨its, rv, hl, hz⟩ := I.list hs
  obtain ⟨u, rfl, ru⟩ := vals1 r
  obtain rfl : u = Value.ref a := ru
  obtain ⟨e1, e2⟩ := each_of I e rs rv
  have len1 := rs.length
  rw [List.length_map] at len1
  have len2 := rv.length
  refine PySem.W.sorted_data (vs := its) (bs := bs) (enc := Datum.toD) hl.isList e1 e2 (PySem.W.AllAlike.of fun a b => DatumOrd.alike a b) ?_ (by omega) (fun b _ => ?_) fun out ho eo => ?_
  · rcases (inferInstance : SortK T).h with h | h
    · exact PySem.W.Sortable.tuples h
    · exact PySem.W.Sortable.others h
  · have := Datum.depth_le b
    have := (inferInstance : SortK T).d
    omega
  · obtain ⟨ys, h1, h2⟩ := each_back eo
    obtain ⟨ep, he'⟩ := PyProof.Rows.sortedAll_at s.heap its out.toArray
    have hlen : ys.length ≤ sizeLine := by rw [h1.length, ho]; omega
    have e3 : bs.mergeSort (PySem.W.dataLe false Datum.toD) = sortT bs := by
      unfold sortT
      rw [PySem.W.dataLe_eq]
      congr 1
      funext a b
      show (!PySem.W.dataLt (Datum.toD b) (Datum.toD a)) = _
      rw [DatumOrd.lt_eq]
    rw [e3] at h2
    exact ⟨.ref _, upd H (s.heap.objs.size + 1) (.lst ys), I.laid (t' := s.toks) (fun _ _ => PyProof.Rows.sortedAll_old) (Nat.le_succ _) ⟨hlen, out.toArray.toList, ep, by simpa using h1, he'⟩, rfl, q ys _ h2 (I.hok.fresh (Nat.le_succ _))⟩
variable {S : Sig} {ρ : Env} {a b c e : Expr} {d d1 d2 d3 : D} {ds : List D} {pos p2 : Pos} {es : List Expr}
theorem cb_sorted {xs : List T} : CBF S "sorted" [enc xs] (enc (sortT xs)) := ⟨rSortD S.K T, fun q o => cr_sortD (X := S.cx q) (by have := o.room.un; show q.A.units + 100 < cLine; omega), fun vs F H Q e rr q => by
  obtain ⟨v, rfl, r⟩ := reps1 rr
  cases r with
  | lst h r =>
    refine ⟨F, _, _, xs, rfl, e, .of (e _ _ h), r, fun ys p hy hp => ?_⟩
    have g := Grow.new (o := .lst ys) e hp
    exact q (.ref p) _ _ g (.lst upd_same (hy.mono g.stp.fs))⟩
theorem tp_sorted {xs : List T} (hm : S.mg "sorted" = none) (h : TP S ρ a xs) (hg : S.scope.names.lookup ("sorted" : Str) = some .globalImplicit := by rfl) (he : ∀ env : PySem.Env, starEach [a] env = (false, eval a env) :: starEach [] env := by intro _; rfl) : TP S ρ (.Call (.Name "sorted" p2) [a] [] pos) (sortT xs) := by
  refine xp_cbF cb_sorted hm (xa_cons h xa_nil he) hg ?_ ?_ ?_ he ?_ <;> first | (intro _; rfl) | decide +kernel | rfl
end

/-! ### min, max of a list of ints -/
def minL : List Int → Int
  | [] => 0
  | x :: r => r.foldl (fun m y => if y < m then y else m) x
def maxL : List Int → Int
  | [] => 0
  | x :: r => r.foldl (fun m y => if m < y then y else m) x
theorem minL_of {ns : List Int} {m : Int} (h : m ∈ ns) (h2 : ∀ y ∈ ns, m ≤ y) : minL ns = m := by
  cases ns with
  | nil => cases h
  | cons x r =>
    show r.foldl _ x = m
    have key : ∀ (r : List Int) (x : Int), (x = m ∨ m ∈ r) → m ≤ x → (∀ y ∈ r, m ≤ y) → r.foldl (fun m y => if y < m then y else m) x = m := by
      intro r
      induction r with
      | nil => intro x h _ _; simpa using h
      | cons z r ih =>
        intro x h hx hr
        rw [List.foldl_cons]
        have hz := hr z (by simp)
        refine ih _ ?_ ?_ fun y hy => hr y (by simp [hy])
        · by_cases c : z < x
          · rw [if_pos c]
            rcases h with h | h
            · omega
            · rcases List.mem_cons.mp h with h | h
              · exact .inl h.symm
              · exact .inr h
          · rw [if_neg c]
            rcases h with h | h
            · exact .inl h
            · rcases List.mem_cons.mp h with h | h
              · exact .inl (by omega)
              · exact .inr h
        · split <;> omega
    exact key r x ((List.mem_cons.mp h).imp Eq.symm id) (h2 x (by simp)) fun y hy => h2 y (by simp [hy])
theorem maxL_of {ns : List Int} {m : Int} (h : m ∈ ns) (h2 : ∀ y ∈ ns, y ≤ m) : maxL ns = m := by
  cases ns with
  | nil => cases h
  | cons x r =>
    show r.foldl _ x = m
    have key : ∀ (r : List Int) (x : Int), (x = m ∨ m ∈ r) → x ≤ m → (∀ y ∈ r, y ≤ m) → r.foldl (fun m y => if m < y then y else m) x = m := by
      intro r
      induction r with
      | nil => intro x h _ _; simpa using h
      | cons z r ih =>
        intro x h hx hr
        rw [List.foldl_cons]
        have hz := hr z (by simp)
        refine ih _ ?_ ?_ fun y hy => hr y (by simp [hy])
        · by_cases c : x < z
          · rw [if_pos c]
            rcases h with h | h
            · omega
            · rcases List.mem_cons.mp h with h | h
              · exact .inl h.symm
              · exact .inr h
          · rw [if_neg c]
            rcases h with h | h
            · exact .inl h
            · rcases List.mem_cons.mp h with h | h
              · exact .inl (by omega)
              · exact .inr h
        · split <;> omega
    exact key r x ((List.mem_cons.mp h).imp Eq.symm id) (h2 x (by simp)) fun y hy => h2 y (by simp [hy])
section
variable {S : Sig} {ρ : Env} {a b c e : Expr} {d d1 d2 d3 : D} {ds : List D} {pos p2 : Pos} {es : List Expr}
theorem cb_minL [Calm S] {ns : List Int} (hn : 0 < ns.length) : CB S "min" [.lst (ns.map D.int)] (.int (minL ns)) := ⟨rMin S.K, fun _ _ => cr_min Calm.h, fun vs F H Q e rr q => by
  obtain ⟨v, rfl, r⟩ := reps1 rr
  cases r with
  | lst h r => exact ⟨_, ns, rfl, by rw [← map_int_reps r]; exact .of h, hn, fun m h1 h2 => by rw [← minL_of h1 h2]; exact q _ F H (Grow.refl e) .int⟩⟩
theorem cb_maxL [Calm S] {ns : List Int} (hn : 0 < ns.length) : CB S "max" [.lst (ns.map D.int)] (.int (maxL ns)) := ⟨rMax S.K, fun _ _ => cr_max Calm.h, fun vs F H Q e rr q => by
  obtain ⟨v, rfl, r⟩ := reps1 rr
  cases r with
  | lst h r => exact ⟨_, ns, rfl, by rw [← map_int_reps r]; exact .of h, hn, fun m h1 h2 => by rw [← maxL_of h1 h2]; exact q _ F H (Grow.refl e) .int⟩⟩
theorem tp_minL [Calm S] {ns : List Int} (hm : S.mg "min" = none) (h : TP S ρ a ns) (hn : 0 < ns.length) (hg : S.scope.names.lookup ("min" : Str) = some .globalImplicit := by rfl) (he : ∀ env : PySem.Env, starEach [a] env = (false, eval a env) :: starEach [] env := by intro _; rfl) : TP S ρ (.Call (.Name "min" p2) [a] [] pos) (minL ns) := by
  refine xp_cb (cb_minL hn) hm (xav_cons h.v xav_nil he) hg ?_ ?_ ?_ he ?_ <;> first | (intro _; rfl) | decide +kernel | rfl
theorem tp_maxL [Calm S] {ns : List Int} (hm : S.mg "max" = none) (h : TP S ρ a ns) (hn : 0 < ns.length) (hg : S.scope.names.lookup ("max" : Str) = some .globalImplicit := by rfl) (he : ∀ env : PySem.Env, starEach [a] env = (false, eval a env) :: starEach [] env := by intro _; rfl) : TP S ρ (.Call (.Name "max" p2) [a] [] pos) (maxL ns) := by
  refine xp_cb (cb_maxL hn) hm (xav_cons h.v xav_nil he) hg ?_ ?_ ?_ he ?_ <;> first | (intro _; rfl) | decide +kernel | rfl

/-! ### isinstance, built-in classes -/
def D.cls : D → Option String
  | .non => some "NoneType" | .bl _ => some "bool" | .int _ => some "int" | .str _ => some "str" | .lst _ => some "list" | .tup _ => some "tuple"
  | _ => none
theorem tyx_of {K : PySem.W.Frag} {H : Hp} {v : V} {d : D} {c : String} (h : Rep K H v d) (hc : d.cls = some c) : TyX K H v (.type c) := by
  cases h with
  | non => cases hc; exact .base .non
  | bl => cases hc; exact .base (.bl _)
  | int => cases hc; exact .base (.int _)
  | str => cases hc; exact .base (.str _)
  | lst h _ => cases hc; exact .base (.lst h)
  | tup h _ =>
    cases hc
    exact .base (.tup h)
  | _ => cases hc
theorem cb_isi {c n : String} {k : Bool} (hc : d.cls = some c) (hk : kitB c n = some k) : CB S "isinstance" [d, .ty n] (.bl k) := ⟨rIsi S.K, fun _ _ => call_isi, fun vs F H Q e rr q => by
  obtain ⟨v, w, rfl, r, r2⟩ := reps2 rr
  cases r2
  exact ⟨v, _, _, _, k, rfl, .ty n, tyx_of r hc, kit_ty hk, q _ F H (Grow.refl e) .bl⟩⟩
theorem xp_ty {n : String} {x : Str} (hm : S.mg x = none) (hg : S.scope.names.lookup x = some .globalImplicit := by rfl) (hv : bootBuiltins x = some (.type n) := by decide +kernel) (hn : x ≠ "__name__" := by decide) (hd : (x == ("__debug__" : Str)) = false := by decide) : XP S ρ (.Name x pos) (.ok (.ty n)) :=
  ⟨_, fun q _ => pe_bltn (X := S.cx q) (show S.scope.names.lookup x = some .globalImplicit from hg) hm hv (show RelV (.ty n) (.type n) from rfl) hn hd, ep_c fun _ => .ty⟩
theorem xt_cb {x : Str} {id : String} {p : Pos} {k : Bool} (h : XP S ρ (.Call (.Name x p) (e :: es) [] pos) (.ok (.bl k))) : XT S ρ (.Call (.Name x p) (e :: es) [] pos) k := xt_val h
/-- isinstance(a, T) -/
theorem tp_isi {x : Str} {c n : String} (k : Bool) {p3 : Pos} (hm : S.mg "isinstance" = none) (hm2 : S.mg x = none) (ha : XV S ρ a d) (hc : d.cls = some c := by rfl) (hk : kitB c n = some k := by decide +kernel) (hv : bootBuiltins x = some (.type n) := by decide +kernel) (hg : S.scope.names.lookup ("isinstance" : Str) = some .globalImplicit := by rfl) (hg2 : S.scope.names.lookup x = some .globalImplicit := by rfl) (hn : x ≠ "__name__" := by decide) (hd : (x == ("__debug__" : Str)) = false := by decide) (he : ∀ env : PySem.Env, starEach [a, .Name x p3] env = (false, eval a env) :: starEach [.Name x p3] env := by intro _; rfl) :
    XP S ρ (.Call (.Name "isinstance" p2) [a, .Name x p3] [] pos) (.ok (.bl k)) := by
  refine xp_cb (cb_isi hc hk) hm (xav_cons ha (xav_cons (XP.v (xp_ty hm2 hg2 hv hn hd)) xav_nil ?_) he) hg ?_ ?_ ?_ he ?_ <;> first | (intro _; rfl) | decide +kernel | rfl
end
end G

namespace G
open PySem PySem.Spec PyProof.Rows L2
open PySem.W (Datum DatumOrd Tup T3 EachIs)
open Enc (enc)
abbrev Cell := Int × Int
abbrev Floor := T3 Int Int (Tup Cell)
abbrev FnF (K : PySem.W.Frag) (x q : Str) (st : Stmt) (f : Addr) (fd : FuncData) : Prop := ∃ dvs kws, FunD K x q (defArgs st) (defBody st) (defScope st) dvs kws f fd
/-! ### sorting, as it can be reckoned -/
class LOrd (T : Type) [DecidableEq T] [DatumOrd T] : Prop where
  tr : ∀ a b c : T, DatumOrd.lt b a = false → DatumOrd.lt c b = false → DatumOrd.lt c a = false
  tot : ∀ a b : T, DatumOrd.lt b a = false ∨ DatumOrd.lt a b = false
  anti : ∀ a b : T, DatumOrd.lt b a = false → DatumOrd.lt a b = false → a = b
theorem lt_int (a b : Int) : (DatumOrd.lt a b) = decide (a < b) := rfl
instance : LOrd Int := ⟨fun a b c h h' => by rw [lt_int] at *; simp at *; omega, fun a b => by simp only [lt_int]; simp; omega, fun a b h h' => by rw [lt_int] at *; simp at *; omega⟩
section
variable {α β : Type} [DecidableEq α] [DatumOrd α] [DecidableEq β] [DatumOrd β]
theorem lt_pair (p q : α × β) : DatumOrd.lt p q = if p.1 = q.1 then DatumOrd.lt p.2 q.2 else DatumOrd.lt p.1 q.1 := rfl
theorem lt_self [LOrd α] (a : α) : DatumOrd.lt a a = false := (LOrd.tot a a).elim id id
instance [LOrd α] [LOrd β] : LOrd (α × β) where
  tr a b c h h' := by
    rw [lt_pair] at *
    by_cases e : b.1 = a.1
    · rw [if_pos e] at h
      by_cases e' : c.1 = b.1
      · rw [if_pos e'] at h'
        rw [if_pos (e'.trans e)]
        exact LOrd.tr _ _ _ h h'
      · rw [if_neg e'] at h'
        rw [if_neg fun z => e' (z.trans e.symm), ← e]
        exact h'
    · rw [if_neg e] at h
      by_cases e' : c.1 = b.1
      · rw [if_neg fun z => e (e'.symm.trans z), e']
        exact h
      · rw [if_neg e'] at h'
        have h2 := LOrd.tr _ _ _ h h'
        by_cases z : c.1 = a.1
        · rw [z] at h'
          exact absurd (LOrd.anti _ _ h h') fun w => e w.symm
        · rw [if_neg z]; exact h2
  tot a b := by
    rw [lt_pair, lt_pair]
    by_cases e : a.1 = b.1
    · rw [if_pos e, if_pos e.symm]; exact LOrd.tot _ _
    · rw [if_neg e, if_neg fun z => e z.symm]; exact LOrd.tot _ _
  anti a b h h' := by
    rw [lt_pair] at *
    by_cases e : a.1 = b.1
    · rw [if_pos e] at h'
      rw [if_pos e.symm] at h
      exact Prod.ext e (LOrd.anti _ _ h h')
    · rw [if_neg e] at h'
      rw [if_neg fun z => e z.symm] at h
      exact absurd (LOrd.anti _ _ h h') e
end
section
variable {T : Type} [DecidableEq T] [DatumOrd T]
def insT (x : T) : List T → List T
  | [] => [x]
  | y :: r => if DatumOrd.lt y x = true then y :: insT x r else x :: y :: r
def isortT : List T → List T
  | [] => []
  | x :: r => insT x (isortT r)
theorem insT_perm (x : T) : ∀ r : List T, (insT x r).Perm (x :: r)
  | [] => .refl _
  | y :: r => by
    unfold insT
    split
    · exact ((insT_perm x r).cons y).trans (.swap x y r)
    · exact .refl _
theorem isortT_perm : ∀ r : List T, (isortT r).Perm r
  | [] => .refl _
  | x :: r => (insT_perm x _).trans ((isortT_perm r).cons x)
abbrev SrtT (xs : List T) : Prop := xs.Pairwise fun a b => DatumOrd.lt b a = false
theorem insT_srt [LOrd T] (x : T) : ∀ r : List T, SrtT r → SrtT (insT x r)
  | [], _ => by unfold insT; exact List.pairwise_singleton _ _
  | y :: r, h => by
    unfold insT
    rw [SrtT, List.pairwise_cons] at h
    by_cases c : DatumOrd.lt y x = true
    · rw [if_pos c]
      refine List.pairwise_cons.mpr ⟨fun z hz => ?_, insT_srt x r h.2⟩
      rcases List.mem_cons.mp ((insT_perm x r).mem_iff.mp hz) with rfl | hz
      · rcases LOrd.tot y z with w | w
        · exact w
        · rw [w] at c; cases c
      · exact h.1 z hz
    · rw [if_neg c]
      have c' : DatumOrd.lt y x = false := by simpa using c
      refine List.pairwise_cons.mpr ⟨fun z hz => ?_, List.pairwise_cons.mpr h⟩
      rcases List.mem_cons.mp hz with rfl | hz
      · exact c'
      · exact LOrd.tr _ _ _ c' (h.1 z hz)
theorem isortT_srt [LOrd T] : ∀ r : List T, SrtT (isortT r)
  | [] => List.Pairwise.nil
  | x :: r => insT_srt x _ (isortT_srt r)
theorem srt_unique [LOrd T] : ∀ (xs ys : List T), SrtT xs → SrtT ys → xs.Perm ys → xs = ys
  | [], ys, _, _, p => by rw [List.nil_perm.mp p]
  | x :: xs, [], _, _, p => by cases (List.perm_nil.mp p)
  | x :: xs, y :: ys, h, h', p => by
    have hx := List.pairwise_cons.mp h
    have hy := List.pairwise_cons.mp h'
    have e : x = y := by
      have m1 : x ∈ y :: ys := p.mem_iff.mp (by simp)
      have m2 : y ∈ x :: xs := p.mem_iff.mpr (by simp)
      rcases List.mem_cons.mp m1 with e | m1
      · exact e
      · rcases List.mem_cons.mp m2 with e | m2
        · exact e.symm
        · exact LOrd.anti _ _ (hx.1 y m2) (hy.1 x m1)
    subst e
    rw [srt_unique xs ys hx.2 hy.2 (List.Perm.cons_inv p)]
theorem sortT_perm (xs : List T) : (sortT xs).Perm xs := List.mergeSort_perm _ _
theorem sortT_srt [LOrd T] (xs : List T) : SrtT (sortT xs) := by
  have := List.pairwise_mergeSort (le := fun a b : T => !DatumOrd.lt b a) (fun a b c h h' => by simp at *; exact LOrd.tr _ _ _ h h') (fun a b => by simp; exact LOrd.tot a b) xs
  exact this.imp fun h => by simpa using h
theorem sortT_eq [LOrd T] (xs : List T) : sortT xs = isortT xs := srt_unique _ _ (sortT_srt xs) (isortT_srt xs) ((sortT_perm xs).trans (isortT_perm xs).symm)
theorem sortT_of [LOrd T] {xs ys : List T} (h : SrtT ys) (p : ys.Perm xs) : sortT xs = ys := srt_unique _ _ (sortT_srt xs) h ((sortT_perm xs).trans p.symm)
/-- two of them in their order -/
def two (a b : T) : T × T := if DatumOrd.lt b a = true then (b, a) else (a, b)
theorem sortT_two [LOrd T] (a b : T) : sortT [a, b] = [(two a b).1, (two a b).2] := by
  rw [sortT_eq]
  show insT a (insT b []) = _
  unfold two insT
  show (if DatumOrd.lt b a = true then b :: insT a [] else _) = _
  split <;> rfl
end

/-! ### the script -/
section
variable {S : Sig} {ρ : Env} {a b c e : Expr} {pos p2 : Pos}
def rEqS (K : PySem.W.Frag) (x : Scr) (y : List Int) (k : Bool) : R2 := fun v u H Q => Rep K H v (enc x) ∧ Rep K H u (enc y) ∧ Q (.bl k) H
theorem oc_eqS {x : Scr} {y : List Int} : OC S .Eq (enc x) (enc y) (decide (x.l = y)) := ⟨rEqS S.K x y _, fun q o pins s σ H v u vv uv Q I rv ru h => by
  obtain ⟨h1, h2, q1⟩ := h
  have := o.units
  have hd : Datum.depth (List Int) ≤ 64 := by decide
  have hu : q.A.units + Datum.depth (List Int) < cLine := by omega
  exact PySem.W.eq_datum (x := x.l) (y := y) (show PySem.W.Holds s.heap _ x.l from Dp.reads I _ _ _ (Enc.dp _ _ _ x h1) rv) (holds_of I h2 ru) hu ⟨.bl _, H, I, rfl, q1⟩, fun v u F H Q e rx ry q => ⟨rx, ry, q _ F H (Grow.refl e) .bl⟩⟩
theorem tt_eqS {x : Scr} {y : List Int} (ha : TV S ρ a x) (hb : TV S ρ b y) : XT S ρ (.Compare a [.Eq] [b] pos) (decide (x.l = y)) := xt_cmp oc_eqS ha hb
theorem atI_ok {α : Type} {xs : List α} {i : Int} (h : 0 ≤ i ∧ i < xs.length) : ∃ x, atI xs i = some x := by
  have h2 : xs[i.toNat]? = some (xs[i.toNat]'(by omega)) := List.getElem?_eq_getElem _
  exact ⟨_, by
    have := atI_nat h2
    rwa [Int.toNat_of_nonneg h.1] at this⟩
theorem tp_ixS {x : Scr} {i v : Int} (ha : TP S ρ a x) (hb : TP S ρ b i) (h : atI x.l i = some v) (hs : PlainIx b := by intro _ _; rfl) : TP S ρ (.Subscript a b pos) v := xp_ix (oi_scr (by rw [atI_map, h]; rfl)) ha hb hs
theorem tp_lenS {x : Scr} (hm : S.mg "len" = none) (h : TV S ρ a x) (hg : S.scope.names.lookup ("len" : Str) = some .globalImplicit := by rfl) (he : ∀ env : PySem.Env, starEach [a] env = (false, eval a env) :: starEach [] env := by intro _; rfl) : TP S ρ (.Call (.Name "len" p2) [a] [] pos) ((x.l.length : Nat) : Int) := by
  have := xp_cb (p := p2) (pos := pos) (cb_len_scr (S := S) (ds := x.l.map enc)) hm (xav_cons h xav_nil he) hg (by decide +kernel) (by decide) (by decide) he (by intro _; rfl)
  rw [List.length_map] at this
  exact this
theorem tp_lenL {T : Type} [DecidableEq T] [Datum T] [Enc T] {x : List T} (hm : S.mg "len" = none) (h : TV S ρ a x) (hg : S.scope.names.lookup ("len" : Str) = some .globalImplicit := by rfl) (he : ∀ env : PySem.Env, starEach [a] env = (false, eval a env) :: starEach [] env := by intro _; rfl) : TP S ρ (.Call (.Name "len" p2) [a] [] pos) ((x.length : Nat) : Int) := by
  have := xp_cb (p := p2) (pos := pos) (cb_len_lst (S := S) (ds := x.map enc)) hm (xav_cons h xav_nil he) hg (by decide +kernel) (by decide) (by decide) he (by intro _; rfl)
  rw [List.length_map] at this
  exact this
theorem tp_abs {i : Int} (hm : S.mg "abs" = none) (h : TP S ρ a i) (hg : S.scope.names.lookup ("abs" : Str) = some .globalImplicit := by rfl) (he : ∀ env : PySem.Env, starEach [a] env = (false, eval a env) :: starEach [] env := by intro _; rfl) : TP S ρ (.Call (.Name "abs" p2) [a] [] pos) (if i < 0 then -i else i) :=
  xp_cb (p := p2) (pos := pos) (cb_abs (S := S)) hm (xav_cons h.v xav_nil he) hg (by decide +kernel) (by decide) (by decide) he (by intro _; rfl)
theorem tp_intb {k : Bool} (hm : S.mg "int" = none) (h : TP S ρ a k) (hg : S.scope.names.lookup ("int" : Str) = some .globalImplicit := by rfl) (he : ∀ env : PySem.Env, starEach [a] env = (false, eval a env) :: starEach [] env := by intro _; rfl) : TP S ρ (.Call (.Name "int" p2) [a] [] pos) (if k then (1 : Int) else 0) :=
  xp_ct (p := p2) (pos := pos) (ct_int_bl (S := S)) hm (xa_cons h xa_nil he) hg (by decide +kernel) (by decide) (by decide) he (by intro _; rfl)
theorem tp_max2 [Calm S] {i j : Int} (hm : S.mg "max" = none) (h : TP S ρ a i) (h' : TP S ρ b j) (hg : S.scope.names.lookup ("max" : Str) = some .globalImplicit := by rfl) (he : ∀ env : PySem.Env, starEach [a, b] env = (false, eval a env) :: starEach [b] env := by intro _; rfl) (he2 : ∀ env : PySem.Env, starEach [b] env = (false, eval b env) :: starEach [] env := by intro _; rfl) (hpl : ∀ env : PySem.Env, (backTo pos (starEach [b] env)).any (·.1) = false := by intro _; rfl) : TP S ρ (.Call (.Name "max" p2) [a, b] [] pos) (if j > i then j else i) :=
  xp_cb (p := p2) (pos := pos) (cb_max2 (S := S)) hm (xav_cons h.v (xav_cons h'.v xav_nil he2) he) hg (by decide +kernel) (by decide) (by decide) he hpl
theorem tp_min2 [Calm S] {i j : Int} (hm : S.mg "min" = none) (h : TP S ρ a i) (h' : TP S ρ b j) (hg : S.scope.names.lookup ("min" : Str) = some .globalImplicit := by rfl) (he : ∀ env : PySem.Env, starEach [a, b] env = (false, eval a env) :: starEach [b] env := by intro _; rfl) (he2 : ∀ env : PySem.Env, starEach [b] env = (false, eval b env) :: starEach [] env := by intro _; rfl) (hpl : ∀ env : PySem.Env, (backTo pos (starEach [b] env)).any (·.1) = false := by intro _; rfl) : TP S ρ (.Call (.Name "min" p2) [a, b] [] pos) (if j < i then j else i) :=
  xp_cb (p := p2) (pos := pos) (cb_min2 (S := S)) hm (xav_cons h.v (xav_cons h'.v xav_nil he2) he) hg (by decide +kernel) (by decide) (by decide) he hpl
/-- tuple(sorted([a, b])) -/
theorem tp_tupL {T : Type} [DecidableEq T] [Datum T] [Enc T] {x : List T} (hm : S.mg "tuple" = none) (h : TP S ρ a x) (hg : S.scope.names.lookup ("tuple" : Str) = some .globalImplicit := by rfl) (he : ∀ env : PySem.Env, starEach [a] env = (false, eval a env) :: starEach [] env := by intro _; rfl) : TP S ρ (.Call (.Name "tuple" p2) [a] [] pos) (Tup.mk x) :=
  xp_ct (p := p2) (pos := pos) (ct_tuple_lst (S := S)) hm (xa_cons h xa_nil he) hg (by decide +kernel) (by decide) (by decide) he (by intro _; rfl)
theorem tp_tup2 {T : Type} [DecidableEq T] [Datum T] [Enc T] {x y : T} (hm : S.mg "tuple" = none) (h : TP S ρ a [x, y]) (hg : S.scope.names.lookup ("tuple" : Str) = some .globalImplicit := by rfl) (he : ∀ env : PySem.Env, starEach [a] env = (false, eval a env) :: starEach [] env := by intro _; rfl) : TP S ρ (.Call (.Name "tuple" p2) [a] [] pos) (x, y) :=
  xp_ct (p := p2) (pos := pos) (ct_tuple_lst (S := S)) hm (xa_cons h xa_nil he) hg (by decide +kernel) (by decide) (by decide) he (by intro _; rfl)
theorem tp_lst2 {T : Type} [DecidableEq T] [Datum T] [Enc T] {x y : T} (h : XA S ρ [a, b] [enc x, enc y]) : TP S ρ (.List [a, b] pos) [x, y] := xp_lst h
theorem tp_nilL {T : Type} [DecidableEq T] [Datum T] [Enc T] : TP S ρ (.List [] pos) ([] : List T) := xp_lst xa_nil
theorem tp_tsort2 {T : Type} [DecidableEq T] [DatumOrd T] [Enc T] [SortK T] [LOrd T] {x y : T} {p3 pos2 : Pos} (hm : S.mg "tuple" = none) (hm2 : S.mg "sorted" = none) (h : TP S ρ a [x, y]) (hg : S.scope.names.lookup ("tuple" : Str) = some .globalImplicit := by rfl) (hg2 : S.scope.names.lookup ("sorted" : Str) = some .globalImplicit := by rfl) (he : ∀ env : PySem.Env, starEach [a] env = (false, eval a env) :: starEach [] env := by intro _; rfl) :
    TP S ρ (.Call (.Name "tuple" p2) [.Call (.Name "sorted" p3) [a] [] pos2] [] pos) (two x y) :=
  (tp_tup2 hm ((tp_sorted hm2 h hg2 he).cast (by rw [sortT_two])) hg (by intro _; rfl)).cast (by rfl)
end
/-! ### lists that grow, typed -/
section
variable {T : Type} [DecidableEq T] [Datum T] [Enc T]
def oL (xs : List T) : O := .lst ((xs.map enc).map .fro)
theorem oL_d (xs : List T) : (oL xs).d = enc xs := by show O.d (.lst _) = D.lst _; simp only [O.d]; rw [ds_fros]
theorem oL_nil : O.lst (([] : List D).map .fro) = oL ([] : List T) := rfl
variable {S : Sig} {ρ : Env} {a e : Expr} {up : O → Env}
theorem xx_app {xs : List T} {x : T} {apos cpos : Pos} (hl : XL S ρ a (oL xs) up) (he : TP S ρ e x) (hn : xs.length < 1000000)
    (hbase : ∀ env : PySem.Env, attributeBase a "append" env (eval a env) = eval a env := by intro _; rfl)
    (hfew : ∀ env : PySem.Env, ((backTo cpos (starEach [e] env)).all (fun x => !x.1) && (backToKw cpos (keywordEach [] env)).all (fun x => x.1.isSome) && decide ([e].length + ([] : List Keyword).length + (if ([] : List Keyword).isEmpty then 0 else 1) < 30)) = true := by intro _; rfl)
    (hline : (apos.endLine == cpos.line) = true := by rfl) (hs : ∀ env : PySem.Env, starEach [e] env = (false, eval e env) :: starEach [] env := by intro _; rfl) (hplain : ∀ env : PySem.Env, (backTo cpos (starEach [] env)).any (·.1) = false := by intro _; rfl) :
    XX S ρ (.Call (.Attribute a "append" apos) [e] [] cpos) (.ok (.fro .non) (up (oL (xs ++ [x])))) := by
  have h := xx_append hl he (by simpa using hn) hbase hfew hline hs hplain
  have e1 : oL (xs ++ [x]) = .lst (((xs.map enc).map O.fro) ++ [.fro (enc x)]) := by unfold oL; rw [List.map_append, List.map_append]; rfl
  rw [e1]; exact h
theorem xx_ext {xs ys : List T} {apos cpos : Pos} (hl : XL S ρ a (oL xs) up) (he : TP S ρ e ys) (hn : xs.length + ys.length ≤ 1000000)
    (hbase : ∀ env : PySem.Env, attributeBase a "extend" env (eval a env) = eval a env := by intro _; rfl)
    (hfew : ∀ env : PySem.Env, ((backTo cpos (starEach [e] env)).all (fun x => !x.1) && (backToKw cpos (keywordEach [] env)).all (fun x => x.1.isSome) && decide ([e].length + ([] : List Keyword).length + (if ([] : List Keyword).isEmpty then 0 else 1) < 30)) = true := by intro _; rfl)
    (hline : (apos.endLine == cpos.line) = true := by rfl) (hs : ∀ env : PySem.Env, starEach [e] env = (false, eval e env) :: starEach [] env := by intro _; rfl) (hplain : ∀ env : PySem.Env, (backTo cpos (starEach [] env)).any (·.1) = false := by intro _; rfl) :
    XX S ρ (.Call (.Attribute a "extend" apos) [e] [] cpos) (.ok (.fro .non) (up (oL (xs ++ ys)))) := by
  have h := xx_extend hl he (by simpa using hn) hbase hfew hline hs hplain
  have e1 : oL (xs ++ ys) = .lst (((xs.map enc).map O.fro) ++ (ys.map enc).map .fro) := by unfold oL; rw [List.map_append, List.map_append]
  rw [e1]; exact h
end
section
variable {S : Sig} {ρ ρ1 : Env} {pin : List Nat} {ss : List Stmt}
/-- some slots are forgotten -/
theorem xb_forgets : ∀ (is : List Nat) {ρ1 ρ2 : Env}, XB S pin ρ ss (.nx ρ1) → is.foldl (fun r i => r.set i none) ρ1 = ρ2 → XB S pin ρ ss (.nx ρ2)
  | [], _, _, h, e => by subst e; exact h
  | i :: is, _, _, h, e => xb_forgets is (xs_forget i h) e
theorem xb_last {st : Stmt} {r : RS} (h : XS S pin ρ st r) : XB S pin ρ [st] r := xb_one h
end
section
variable {S : Sig} {ρ : Env} {e : Expr} {es : List Expr} {pos p2 : Pos} {x : Str} {ps : List Str} {k : Nat} {T : Type} [DecidableEq T] [Datum T] [Enc T]
variable {τ : Type} {dd : τ → List D} {pre : τ → Prop} {rese : τ → Except Str O}
theorem tp_call [Calm S] {v : T} (hG : FnG S.P S.w S.K S.mg S.base k x ps (spP S.K dd pre rese)) (y : τ) (hp : pre y) (ha : XA S ρ (e :: es) (dd y)) (hr : rese y = oF v := by rfl) (hk : k ≤ S.kk := by exact Nat.le_of_ble_eq_true rfl) (hg : S.scope.names.lookup x = some .globalImplicit := by rfl) (hdb : (x == ("__debug__" : Str)) = false := by decide)
    (he : ∀ env : PySem.Env, starEach (e :: es) env = (false, eval e env) :: starEach es env := by intro _; rfl) (hpl : ∀ env : PySem.Env, (backTo pos (starEach es env)).any (·.1) = false := by intro _; rfl) : TP S ρ (.Call (.Name x p2) (e :: es) [] pos) v :=
  (xp_call hG y hp ha hk hg hdb he hpl).cast (by rw [hr]; rfl)
theorem tp_callO [Calm S] {v : List T} (hG : FnG S.P S.w S.K S.mg S.base k x ps (spP S.K dd pre rese)) (y : τ) (hp : pre y) (ha : XA S ρ (e :: es) (dd y)) (hr : rese y = oO v := by rfl) (hk : k ≤ S.kk := by exact Nat.le_of_ble_eq_true rfl) (hg : S.scope.names.lookup x = some .globalImplicit := by rfl) (hdb : (x == ("__debug__" : Str)) = false := by decide)
    (he : ∀ env : PySem.Env, starEach (e :: es) env = (false, eval e env) :: starEach es env := by intro _; rfl) (hpl : ∀ env : PySem.Env, (backTo pos (starEach es env)).any (·.1) = false := by intro _; rfl) : TP S ρ (.Call (.Name x p2) (e :: es) [] pos) v :=
  (xp_call hG y hp ha hk hg hdb he hpl).cast (by rw [hr]; show Except.ok (O.d (.lst ((v.map enc).map O.fro))) = _; rw [show O.d (.lst ((v.map enc).map O.fro)) = _ from oL_d v])
end
end G

namespace G
open PySem PySem.Spec PyProof.Rows L2
open PySem.W (Datum DatumOrd Tup T3 EachIs)
open Enc (enc)
/-! ### raising -/
abbrev ExcF (K : PySem.W.Frag) (x : Str) : Prop := PySem.W.excIn K (He.ga K x) He.veBase "ValueError.__new__" = true ∧ PySem.W.keepIn K (.ref (He.ga K x)) = true ∧ PySem.W.subIn K (.ref (He.ga K x)) (.type "BaseException") = some true ∧ PySem.W.typeIn K (.ref (He.ga K x)) = some (.type "type")
section
variable {S : Sig} {ρ ρ1 : Env} {a b c e : Expr} {pos p p2 pos2 : Pos} {pin : List Nat} {A B ss : List Stmt} {x : Str}
theorem xs_raise [Calm S] {m : Str} {j} {ρ2 : Option Env} (hx : ExcF S.K x) (g : S.mg x = some (.ref (He.ga S.K x))) (h2 : ρ2 = none ∨ ρ2 = some ρ := by first | exact .inl rfl | exact .inr rfl) (hg : S.scope.names.lookup x = some .globalImplicit := by rfl) (hdb : (x == ("__debug__" : Str)) = false := by decide) :
    XS S pin ρ (.Raise (some (.Call (.Name x p) [.Constant (.str m) j p2] [] pos2)) none pos) (.ex x ρ2) := by
  refine ⟨_, fun q ok => L2N.ps_raise (X := S.cx q) Calm.h ok.tk (L2N.pmk_own (X := S.cx q) PySem.F.excBase_ValueError hx.1 g hx.2.1 (raises_own hx.2.2.1 hx.2.2.2) (show S.scope.names.lookup x = some .globalImplicit from hg) hdb), fun σ F H A D w n q => ?_⟩
  rcases h2 with rfl | rfl
  · exact q σ F H [] (WF.none w.sub) (Stp.refl.perm (fun a => Iff.rfl) (by simp)) rfl Pin.refl
  · exact q σ F H A w Stp.refl n Pin.refl
/-- if c: .., the test itself raises -/
theorem xs_ifX {ρ2 : Option Env} (h : XP S ρ c (.error x)) (h2 : ρ2 = none ∨ ρ2 = some ρ := by first | exact .inl rfl | exact .inr rfl) (he : ∀ (env : PySem.Env) (whole : Sem Value), isTrue c env whole = (do let v ← whole; standAt c.pos; holding [v] (truthy v)) := by intro _ _; rfl) : XS S pin ρ (.If c A B pos) (.ex x ρ2) := by
  obtain ⟨t, h1, h3⟩ := h
  refine ⟨tIfS (tB t) tNever tNever, fun q ok => ps_if (pt_val (h1 q ok) (he _)) pss_never pss_never, fun σ F H A D w n q => h3 σ F H A _ w n fun F1 H1 g => ?_⟩
  rcases h2 with rfl | rfl
  · exact q σ F1 H1 [] (WF.none g.ext) ((g.stp.mono (by simp) (A' := A)).perm (fun _ => Iff.rfl) (by simp)) rfl Pin.refl
  · exact q σ F1 H1 A (g.wf w) ((g.stp.mono (by simp) (A' := A)).more (C := A) fun a h => .inl h) (g.envs n) Pin.refl
/-- return e, that may raise -/
theorem xs_retX {T : Type} [DecidableEq T] [Datum T] [Enc T] {r : Except Str T} (h : XP S ρ e (exD (oE oF r))) : XS S pin ρ (.Return (some e) pos) (rE rF r) := by
  cases r with
  | ok v => exact xs_retF h
  | error x => exact xs_retE h.xe (.inl rfl)
theorem xs_rt {T : Type} [DecidableEq T] [Datum T] [Enc T] {v : T} (h : TP S ρ e v) : XS S pin ρ (.Return (some e) pos) (rE rF (.ok v)) := xs_retF h
theorem term_rE {T : Type} [DecidableEq T] [Datum T] [Enc T] (r : Except Str T) : Term (rE rF r) := term_E (fun _ => term_F) r
/-- f(..) alone, that may raise -/
theorem xb_doE {T U : Type} [DecidableEq T] [Datum T] [Enc T] (f : U → RS) (m : T → Except Str U) {r : Except Str T} (h : XX S ρ e (exX ρ (oE oF r))) (k : ∀ v, r = .ok v → XB S pin ρ ss (rE f (m v))) (hs : ∀ env : PySem.Env, swapsWith e none pos.line env = pure false := by intro _; rfl) :
    XB S pin ρ (.Expr e pos :: ss) (rE f (bindE r m)) := xb_exprE f m h (fun v => ⟨_, rfl⟩) k hs
/-- if f(..): an end; what follows; f may raise -/
theorem xb_ifRE {U : Type} (f : U → RS) {r : Except Str Bool} {v1 v2 : Except Str U} (h : XP S ρ c (exD (oE oF r))) (ha : r = .ok true → XB S pin ρ A (rE f v1)) (ht : ∀ ρ, rE f v1 ≠ .nx ρ) (hb : r = .ok false → XB S pin ρ ss (rE f v2)) (he : ∀ (env : PySem.Env) (whole : Sem Value), isTrue c env whole = (do let v ← whole; standAt c.pos; holding [v] (truthy v)) := by intro _ _; rfl) :
    XB S pin ρ (.If c A [] pos :: ss) (rE f (bindE r fun k => if k = true then v1 else v2)) := by
  cases r with
  | error x => exact xb_stop (xs_ifX h (.inl rfl) he) fun ρ z => nomatch z
  | ok k =>
    have h' : XT S ρ c k := xt_val h he
    cases k with
    | true => exact xb_stop (xs_if h' (fun _ => ha rfl) fun z => nomatch z) ht
    | false => exact xb_cons (xs_if h' (fun z => nomatch z) fun _ => xb_nil) (hb rfl)
theorem fits_EF {T : Type} [DecidableEq T] [Datum T] [Enc T] (r : Except Str T) : Fits (rE rF r) (oE oF r) := fits_E (fun _ => fits_F) r
theorem tp_any [Calm S] {bs : List Bool} (hm : S.mg "any" = none) (h : TP S ρ a bs) (hg : S.scope.names.lookup ("any" : Str) = some .globalImplicit := by rfl) (he : ∀ env : PySem.Env, starEach [a] env = (false, eval a env) :: starEach [] env := by intro _; rfl) : TP S ρ (.Call (.Name "any" p2) [a] [] pos) (bs.any id) :=
  xp_cb (p := p2) (pos := pos) (cb_any (S := S)) hm (xav_cons h.v xav_nil he) hg (by decide +kernel) (by decide) (by decide) he (by intro _; rfl)
theorem tp_all [Calm S] {bs : List Bool} (hm : S.mg "all" = none) (h : TP S ρ a bs) (hg : S.scope.names.lookup ("all" : Str) = some .globalImplicit := by rfl) (he : ∀ env : PySem.Env, starEach [a] env = (false, eval a env) :: starEach [] env := by intro _; rfl) : TP S ρ (.Call (.Name "all" p2) [a] [] pos) (bs.all id) :=
  xp_cb (p := p2) (pos := pos) (cb_all (S := S)) hm (xav_cons h.v xav_nil he) hg (by decide +kernel) (by decide) (by decide) he (by intro _; rfl)
/-- a truth value, typed -/
theorem tt_b {k : Bool} (h : TP S ρ e k) (he : ∀ (env : PySem.Env) (whole : Sem Value), isTrue e env whole = (do let v ← whole; standAt e.pos; holding [v] (truthy v)) := by intro _ _; rfl) : XT S ρ e k := xt_val h he
theorem tp_not {k : Bool} (h : TP S ρ a k) : TP S ρ (.UnaryOp .Not a pos) (!k) := xp_not h
theorem tp_one {op : BoolOp} {k : Bool} (h : TP S ρ a k) : TP S ρ (.BoolOp op [a] pos) k := xp_one h
theorem tp_and {k l : Bool} {rest : List Expr} (h : TP S ρ a k) (h' : k = true → TP S ρ (.BoolOp .And (b :: rest) pos) l) : TP S ρ (.BoolOp .And (a :: b :: rest) pos) (k && l) := xp_and h h'
theorem tp_or {k l : Bool} {rest : List Expr} (h : TP S ρ a k) (h' : k = false → TP S ρ (.BoolOp .Or (b :: rest) pos) l) : TP S ρ (.BoolOp .Or (a :: b :: rest) pos) (k || l) := xp_or h h'
end
section
variable {S : Sig} {ρ : Env} {e : Expr} {es : List Expr} {pos p2 : Pos} {x : Str} {ps : List Str} {k : Nat} {T : Type} [DecidableEq T] [Datum T] [Enc T]
variable {τ : Type} {dd : τ → List D} {pre : τ → Prop} {rese : τ → Except Str O}
theorem xx_callE [Calm S] {r : Except Str T} (hG : FnG S.P S.w S.K S.mg S.base k x ps (spP S.K dd pre rese)) (y : τ) (hp : pre y) (ha : XA S ρ (e :: es) (dd y)) (hr : rese y = oE oF r := by rfl) (hk : k ≤ S.kk := by exact Nat.le_of_ble_eq_true rfl) (hg : S.scope.names.lookup x = some .globalImplicit := by rfl) (hdb : (x == ("__debug__" : Str)) = false := by decide)
    (he : ∀ env : PySem.Env, starEach (e :: es) env = (false, eval e env) :: starEach es env := by intro _; rfl) (hpl : ∀ env : PySem.Env, (backTo pos (starEach es env)).any (·.1) = false := by intro _; rfl) : XX S ρ (.Call (.Name x p2) (e :: es) [] pos) (exX ρ (oE oF r)) := by
  rw [← hr]; exact xx_call hG y hp ha hk hg hdb he hpl
theorem xp_callE [Calm S] {r : Except Str T} (hG : FnG S.P S.w S.K S.mg S.base k x ps (spP S.K dd pre rese)) (y : τ) (hp : pre y) (ha : XA S ρ (e :: es) (dd y)) (hr : rese y = oE oF r := by rfl) (hk : k ≤ S.kk := by exact Nat.le_of_ble_eq_true rfl) (hg : S.scope.names.lookup x = some .globalImplicit := by rfl) (hdb : (x == ("__debug__" : Str)) = false := by decide)
    (he : ∀ env : PySem.Env, starEach (e :: es) env = (false, eval e env) :: starEach es env := by intro _; rfl) (hpl : ∀ env : PySem.Env, (backTo pos (starEach es env)).any (·.1) = false := by intro _; rfl) : XP S ρ (.Call (.Name x p2) (e :: es) [] pos) (exD (oE oF r)) := by
  rw [← hr]; exact xp_call hG y hp ha hk hg hdb he hpl
theorem xp_callX [Calm S] {z : Str} (hG : FnG S.P S.w S.K S.mg S.base k x ps (spP S.K dd pre rese)) (y : τ) (hp : pre y) (ha : XA S ρ (e :: es) (dd y)) (hr : rese y = .error z) (hk : k ≤ S.kk := by exact Nat.le_of_ble_eq_true rfl) (hg : S.scope.names.lookup x = some .globalImplicit := by rfl) (hdb : (x == ("__debug__" : Str)) = false := by decide)
    (he : ∀ env : PySem.Env, starEach (e :: es) env = (false, eval e env) :: starEach es env := by intro _; rfl) (hpl : ∀ env : PySem.Env, (backTo pos (starEach es env)).any (·.1) = false := by intro _; rfl) : XP S ρ (.Call (.Name x p2) (e :: es) [] pos) (.error z) :=
  (xp_call hG y hp ha hk hg hdb he hpl).cast (by rw [hr]; rfl)
end
/-! ### membership, by one instance -/
def memB {T : Type} [DecidableEq T] (x : T) (xs : List T) : Bool := decide (x ∈ xs)
theorem memB_iff {T : Type} [DecidableEq T] {x : T} {xs : List T} : memB x xs = true ↔ x ∈ xs := by unfold memB; exact decide_eq_true_iff
theorem memB_no {T : Type} [DecidableEq T] {x : T} {xs : List T} : memB x xs = false ↔ x ∉ xs := by unfold memB; exact decide_eq_false_iff_not
section
variable {S : Sig} {ρ : Env} {a b : Expr} {pos : Pos} {T : Type} [DecidableEq T] [Datum T] [Enc T] {u : T}
theorem tt_mem {xs : List T} (ha : TV S ρ a u) (hb : TV S ρ b xs) (hd : Datum.depth T ≤ 63 := by decide) (hm : behindInMarks .In b = false := by rfl) : XT S ρ (.Compare a [.In] [b] pos) (memB u xs) := tt_in ha hb hd hm
theorem tt_nmem {xs : List T} (ha : TV S ρ a u) (hb : TV S ρ b xs) (hd : Datum.depth T ≤ 63 := by decide) (hm : behindInMarks .NotIn b = false := by rfl) : XT S ρ (.Compare a [.NotIn] [b] pos) (!memB u xs) := tt_ni ha hb hd hm
theorem tp_mem {xs : List T} (ha : TV S ρ a u) (hb : TV S ρ b xs) (hd : Datum.depth T ≤ 63 := by decide) (hm : behindInMarks .In b = false := by rfl) : TP S ρ (.Compare a [.In] [b] pos) (memB u xs) := tp_in ha hb hd hm
theorem tp_nmem {xs : List T} (ha : TV S ρ a u) (hb : TV S ρ b xs) (hd : Datum.depth T ≤ 63 := by decide) (hm : behindInMarks .NotIn b = false := by rfl) : TP S ρ (.Compare a [.NotIn] [b] pos) (!memB u xs) := tp_ni ha hb hd hm
theorem tt_memT {xs : Tup T} (ha : TV S ρ a u) (hb : TV S ρ b xs) (hd : Datum.depth T ≤ 63 := by decide) (hm : behindInMarks .In b = false := by rfl) : XT S ρ (.Compare a [.In] [b] pos) (memB u xs.items) := tt_inT ha hb hd hm
theorem tt_nmemT {xs : Tup T} (ha : TV S ρ a u) (hb : TV S ρ b xs) (hd : Datum.depth T ≤ 63 := by decide) (hm : behindInMarks .NotIn b = false := by rfl) : XT S ρ (.Compare a [.NotIn] [b] pos) (!memB u xs.items) := tt_niT ha hb hd hm
theorem tp_memT {xs : Tup T} (ha : TV S ρ a u) (hb : TV S ρ b xs) (hd : Datum.depth T ≤ 63 := by decide) (hm : behindInMarks .In b = false := by rfl) : TP S ρ (.Compare a [.In] [b] pos) (memB u xs.items) := tp_inT ha hb hd hm
theorem tp_nmemT {xs : Tup T} (ha : TV S ρ a u) (hb : TV S ρ b xs) (hd : Datum.depth T ≤ 63 := by decide) (hm : behindInMarks .NotIn b = false := by rfl) : TP S ρ (.Compare a [.NotIn] [b] pos) (!memB u xs.items) := tp_niT ha hb hd hm
end
section
variable {S : Sig} {ρ : Env} {it tg : Expr} {T : Type} [DecidableEq T] [Datum T] [Enc T]
theorem xi_lt {xs : List T} (h : TP S ρ it xs) : XI S ρ tg it (xs.map enc) := xi_lst h
theorem xi_tt {xs : Tup T} (h : TP S ρ it xs) : XI S ρ tg it (xs.items.map enc) := xi_tup h
end
end G

namespace G
open PySem PySem.Spec PyProof.Rows L2
open PySem.W (Datum DatumOrd Tup T3 EachIs)
open Enc (enc)
/-! ### sorted(set(..)) of few cells -/
def nub {T : Type} [DecidableEq T] : List T → List T
  | [] => []
  | x :: r => if memB x r = true then nub r else x :: nub r
theorem mem_nub {T : Type} [DecidableEq T] {v : T} : ∀ {xs : List T}, v ∈ nub xs ↔ v ∈ xs
  | [] => Iff.rfl
  | x :: r => by
    unfold nub
    by_cases h : memB x r = true
    · rw [if_pos h, mem_nub, List.mem_cons]
      exact ⟨.inr, fun q => q.elim (fun e => by rw [e]; exact memB_iff.mp h) id⟩
    · rw [if_neg h, List.mem_cons, List.mem_cons, mem_nub]
theorem nodup_nub {T : Type} [DecidableEq T] : ∀ (xs : List T), (nub xs).Nodup
  | [] => List.nodup_nil
  | x :: r => by
    unfold nub
    by_cases h : memB x r = true
    · rw [if_pos h]; exact nodup_nub r
    · rw [if_neg h]
      refine List.nodup_cons.mpr ⟨fun q => h (memB_iff.mpr (mem_nub.mp q)), nodup_nub r⟩
def sset {T : Type} [DecidableEq T] [DatumOrd T] (xs : List T) : List T := isortT (nub xs)
theorem sset_of {T : Type} [DecidableEq T] [DatumOrd T] [LOrd T] {xs ys : List T} (s : SrtT ys) (n : ys.Nodup) (m : ∀ v, v ∈ ys ↔ v ∈ xs) : ys = sset xs := by
  unfold sset
  refine srt_unique _ _ s (isortT_srt _) (((List.perm_ext_iff_of_nodup n (nodup_nub xs)).mpr fun v => ?_).trans (isortT_perm _).symm)
  rw [m, mem_nub]
theorem Grow.side {F H : Hp} {p : Addr} {o : HO} (e : Ext F H) (h : H p = none) : Grow F H F (upd H p o) := by
  refine ⟨⟨Ext.refl F, fun a u q _ => ?_, fun a u q => .inl q, by simp, fun a q => ?_⟩, fun a u q => ?_⟩
  · rw [upd_ne (ne_of_none q h)]; exact q
  · by_cases z : a = p
    · subst z; exact h
    · rw [upd_ne z] at q; exact q
  · rw [upd_ne (ne_of_none (e a u q) h)]; exact e a u q
def cel (k : List Int) : Cell := (k.getD 0 0, k.getD 1 0)
theorem cells_ks {K : PySem.W.Frag} {F : Hp} : ∀ {vs : List V} {xs : List Cell}, Reps K F vs (xs.map enc) → ∃ ks : List (Addr × List Int), vs = ks.map (fun p => V.ref p.1) ∧ (∀ p ∈ ks, F p.1 = some (.tup (p.2.map V.int))) ∧ ks.map (·.2) = xs.map fun c => [c.1, c.2]
  | _, [], h => by cases h; exact ⟨[], rfl, by simp, rfl⟩
  | _, x :: xs, h => by
    cases h with
    | cons h r =>
      obtain ⟨ks, h1, h2, h3⟩ := cells_ks r
      subst h1
      cases h with
      | tup ht rr =>
        rename_i a ws
        cases rr with
        | cons g1 rr =>
          cases rr with
          | cons g2 rr =>
            cases rr
            cases g1
            cases g2
            refine ⟨(a, [x.1, x.2]) :: ks, rfl, fun p hp => ?_, by rw [List.map_cons, h3]; rfl⟩
            rcases List.mem_cons.mp hp with rfl | hp
            · exact ht
            · exact h2 p hp
theorem code_lt {x y : Cell} (h : TS.code 64 [x.1, x.2] ≤ TS.code 64 [y.1, y.2]) (ne : ([x.1, x.2] : List Int) ≠ [y.1, y.2]) (b1 : (0 ≤ x.1 ∧ x.1 < 64) ∧ 0 ≤ x.2 ∧ x.2 < 64) (b2 : (0 ≤ y.1 ∧ y.1 < 64) ∧ 0 ≤ y.2 ∧ y.2 < 64) : DatumOrd.lt y x = false := by
  have z := L2.pair_lt h ne b1.1 b1.2 b2.1 b2.2
  rw [lt_pair]
  simp only [G.lt_int]
  split
  · rename_i e; exact decide_eq_false (by omega)
  · rename_i e; exact decide_eq_false (by omega)
section
variable {S : Sig} {ρ : Env} {a : Expr} {pos p2 p3 pos2 : Pos}
theorem tp_sset [Calm S] {xs : List Cell} (hm : S.mg "sorted" = none) (hm2 : S.mg "set" = none) (h : TP S ρ a xs) (hb : ∀ c ∈ xs, (0 ≤ c.1 ∧ c.1 < 64) ∧ 0 ≤ c.2 ∧ c.2 < 64) (hl : xs.length < 64) (hg : S.scope.names.lookup ("sorted" : Str) = some .globalImplicit := by rfl) (hg2 : S.scope.names.lookup ("set" : Str) = some .globalImplicit := by rfl) (he : ∀ env : PySem.Env, starEach [a] env = (false, eval a env) :: starEach [] env := by intro _; rfl) :
    TP S ρ (.Call (.Name "sorted" p2) [.Call (.Name "set" p3) [a] [] pos2] [] pos) (sset xs) := by
  obtain ⟨t, h1, h2⟩ := h
  refine ⟨tCB (rSortedT S.K S.P S.w) (tCons (tCB (rSetOfT S.K S.P S.w) (tCons t tNil)) tNil), fun q ok => ?_, fun σ F H A Q w n qq => ?_⟩
  · have hu : (S.cx q).A.units + 64 < cLine := by have := ok.room.un; show q.A.units + 64 < cLine; omega
    exact pe_callB (X := S.cx q) (cr_sortedT (X := S.cx q) Calm.h) (show S.scope.names.lookup _ = some .globalImplicit from hg) hm (by decide +kernel) (pa_cons (pe_callTy (X := S.cx q) (cr_setOfT (X := S.cx q) Calm.h hu) (show S.scope.names.lookup _ = some .globalImplicit from hg2) hm2 (by decide +kernel) (pa_cons (h1 q ok) pa_nil (he _)) (by decide) (by decide) (he _) (by rfl)) pa_nil) (by decide) (by decide) (by rfl) (by rfl)
  · refine h2 σ F H A _ w n fun v F1 H1 g r => ?_
    cases r with
    | lst hv r =>
      rename_i l vs
      obtain ⟨ks, e1, e2, e3⟩ := cells_ks r
      subst e1
      have len : ks.length = xs.length := by simpa using congrArg List.length e3
      refine ⟨l, ks, rfl, .of (g.ext _ _ hv), fun p hp => .of (g.ext _ _ (e2 p hp)), by omega, fun s L hs hL hK => ?_⟩
      have g2 := g.trans (Grow.side (o := SetTO S.P S.w s L) g.ext hs)
      have inks : ∀ p ∈ ks, ∃ c ∈ xs, p.2 = [c.1, c.2] := fun p hp => by
        have : p.2 ∈ ks.map (·.2) := List.mem_map.mpr ⟨p, hp, rfl⟩
        rw [e3] at this
        obtain ⟨c, hc, e⟩ := List.mem_map.mp this
        exact ⟨c, hc, e.symm⟩
      refine ⟨s, L, 2, 64, rfl, upd_same, fun p hp => .of (g2.ext _ _ (e2 p (hL p hp))), by decide, fun p hp => ?_, fun L' p pm nd fw pw hp => ?_⟩
      · obtain ⟨c, hc, e⟩ := inks p (hL p hp)
        rw [e]
        refine ⟨rfl, fun n hn => ?_⟩
        have := hb c hc
        rcases List.mem_cons.mp hn with rfl | hn
        · exact this.1
        · rw [List.mem_singleton.mp hn]; exact this.2
      · have inL : ∀ q ∈ L', ∃ c ∈ xs, q.2 = [c.1, c.2] := fun q hq => inks q (hL q (pm.mem_iff.mp hq))
        have ys : L'.map (fun q => cel q.2) = sset xs := by
          refine sset_of ?_ ?_ fun v => ?_
          · refine List.pairwise_map.mpr ?_
            have nd2 : L'.Pairwise fun q r => q.2 ≠ r.2 := List.pairwise_map.mp nd
            refine (List.pairwise_iff_forall_sublist.mpr fun {q r} hs => ?_)
            have hq : q ∈ L' := hs.subset (by simp)
            have hr : r ∈ L' := hs.subset (by simp)
            obtain ⟨c, hc, ec⟩ := inL q hq
            obtain ⟨d, hd, ed⟩ := inL r hr
            have c1 := List.pairwise_iff_forall_sublist.mp pw hs
            have c2 := List.pairwise_iff_forall_sublist.mp nd2 hs
            rw [ec, ed] at c1 c2 ⊢
            exact code_lt (x := c) (y := d) c1 c2 (hb c hc) (hb d hd)
          · refine List.pairwise_map.mpr ?_
            have nd2 : L'.Pairwise fun q r => q.2 ≠ r.2 := List.pairwise_map.mp nd
            refine (List.pairwise_iff_forall_sublist.mpr fun {q r} hs e => ?_)
            have hq : q ∈ L' := hs.subset (by simp)
            have hr : r ∈ L' := hs.subset (by simp)
            obtain ⟨c, hc, ec⟩ := inL q hq
            obtain ⟨d, hd, ed⟩ := inL r hr
            have c2 := List.pairwise_iff_forall_sublist.mp nd2 hs
            rw [ec, ed] at e c2
            have e' : c = d := e
            exact c2 (by rw [e'])
          · rw [List.mem_map]
            constructor
            · rintro ⟨q, hq, rfl⟩
              obtain ⟨c, hc, ec⟩ := inL q hq
              rw [ec]; exact hc
            · intro hv
              have : [v.1, v.2] ∈ ks.map (·.2) := by rw [e3]; exact List.mem_map.mpr ⟨v, hv, rfl⟩
              obtain ⟨p', hp', e'⟩ := List.mem_map.mp this
              have := hK p' hp'
              obtain ⟨q, hq, eq⟩ := List.mem_map.mp this
              refine ⟨q, pm.mem_iff.mpr hq, ?_⟩
              show cel q.2 = v
              have eq' : q.2 = p'.2 := eq
              rw [eq', e']; rfl
        have rep : Reps S.K F1 (L'.map fun q => V.ref q.1) ((sset xs).map enc) := by
          rw [← ys, List.map_map]
          have all : ∀ q ∈ L', Rep S.K F1 (.ref q.1) (enc (cel q.2)) := fun q hq => by
            obtain ⟨c, hc, ec⟩ := inL q hq
            have ht := e2 q (hL q (pm.mem_iff.mp hq))
            rw [ec] at ht ⊢
            exact .tup ht (.cons .int (.cons .int .nil))
          clear ys nd pw pm fw inL
          induction L' with
          | nil => exact .nil
          | cons q L' ih => exact .cons (all q (by simp)) (ih fun r hr => all r (by simp [hr]))
        have g3 := Grow.new (o := .lst (L'.map fun q => V.ref q.1)) g2.ext hp
        exact qq (.ref p) _ _ (g2.trans g3) (.lst upd_same (rep.mono g3.stp.fs))
end
end G

namespace G
open PySem PySem.Spec PyProof.Rows L2
open PySem.W (Datum DatumOrd Tup T3 EachIs)
open Enc (enc)
/-! ### sorted of a tuple -/
section
open PySem.W PySem.Calls
variable {prog : Program} {w : World} {A : Around} {E : Value → Shared → Prop} {s : Shared} {β : Type} {R : Value → β → Prop} {en : β → PyData} {vs : List Value} {bs : List β}
theorem sorted_dataT {l : Addr} {o : Obj} {n : Nat} {Q : Value → Shared → Prop} (ho : s.heap.get? l = some o) (hc : o.cls = .type "tuple") (hd : o.data = .seq vs.toArray n) (e : EachIs R vs bs) (er : EachIs (fun v b => ∃ as, Reads s.heap v (en b) as) vs bs) (hal : AllAlike (bs.map en)) (hk : Sortable (bs.map en)) (hL : bs.length ≤ sizeLine)
    (hu : ∀ b, b ∈ bs → A.units + 2 + (en b).depth < cLine) (h : ∀ (h2 : Heap) (p : Addr) (c : Nat) (out : List Value), (∀ b o, s.heap.get? b = some o → h2.get? b = some o) → s.heap.get? p = none → h2.get? p = some (seqObj "list" out.toArray c) → out.length = bs.length → EachIs R out (bs.mergeSort (dataLe false en)) → Q (.ref p) { s with heap := h2 }) :
    wpAny (model prog w) A (call (.builtin "sorted") [.ref l]) Q E s := by
  have hlen : vs.length = bs.length := e.length
  refine call_function_entry kind_sorted plain_sorted entry_sorted (args_sorted1 _) ?_
  unfold Builtin.«sorted»
  refine wpAny_bind (m := checkCount "sorted" 1 1 _) (wpAny_pure ?_)
  refine wpAny_bind (wpAny_collect_seq (T := "tuple") l (.inr rfl) ho hc hd (fun h1 k1 => ?_) (by rw [List.size_toArray]; omega))
  refine wpAny_bind (wpAny_newList ?_ (Nat.le_trans (Nat.le_of_eq (by simp [hlen])) hL))
  rw [List.toList_toArray]
  have hp : (h1.push (seqObj "list" vs.toArray 0)).get? h1.objs.size = some (seqObj "list" vs.toArray 0) := Heap.get?_push_size _ rfl
  have keep1 : ∀ b o, s.heap.get? b = some o → (h1.push (seqObj "list" vs.toArray 0)).get? b = some o := fun b o q => Heap.get?_push_of_some _ (k1 b o q)
  have lt1 : ∀ b o, s.heap.get? b = some o → b ≠ h1.objs.size := fun b o q => Nat.ne_of_lt (Heap.lt_size (k1 b o q))
  have er' : EachIs (fun v b => ∃ as, Reads (sortingHeap (h1.push (seqObj "list" vs.toArray 0)) h1.objs.size vs) v (en b) as) vs bs := er.mono fun _ _ ⟨as, r⟩ => ⟨as, PyProof.Rows.Reads.keeps (fun b o q => sortingHeap_old (lt1 b o q) (keep1 b o q)) r⟩
  have S : SortsAt prog w A.in1.in1 { s with heap := sortingHeap (h1.push (seqObj "list" vs.toArray 0)) h1.objs.size vs } (dataKind (sortingHeap (h1.push (seqObj "list" vs.toArray 0)) h1.objs.size vs) (bs.map en)) vs :=
    SortsAt.data (each_map (R := fun v d => ∃ as, Reads (sortingHeap (h1.push (seqObj "list" vs.toArray 0)) h1.objs.size vs) v d as) en er') hal hk (bound_map hu)
  refine wpAny_bind (wpAny_holding (wpAny_call_entry slot_list_sort ⟨_, hp, rfl⟩ entry_list_sort (wpAny_mono (list_sort_vals (s := { s with heap := h1.push (seqObj "list" vs.toArray 0) }) (P := fun f s' => f = .done (.ret .none) ∧ s' = { s with heap := sortedHeap (h1.push (seqObj "list" vs.toArray 0)) h1.objs.size vs (sortVals (dataKind (sortingHeap (h1.push (seqObj "list" vs.toArray 0)) h1.objs.size vs) (bs.map en)) false vs vs).toArray }) hp S (by rw [hlen]; exact hL) ⟨rfl, rfl⟩) (fun f s' hf => ?_) fun _ _ e => e) (args_list_sort _)))
  obtain ⟨rfl, rfl⟩ := hf
  refine ⟨_, rfl, wpAny_pure ⟨_, rfl, ?_⟩⟩
  obtain ⟨c, hc2⟩ := sortedHeap_at (vs := vs) (out := (sortVals (dataKind (sortingHeap (h1.push (seqObj "list" vs.toArray 0)) h1.objs.size vs) (bs.map en)) false vs vs).toArray) hp
  have le1 : s.heap.get? h1.objs.size = none := by
    cases q : s.heap.get? h1.objs.size with
    | none => rfl
    | some o => exact absurd rfl (lt1 _ _ q)
  exact h _ h1.objs.size c _ (fun b o q => (sortedHeap_old (lt1 b o q) (Heap.lt_size (keep1 b o q))).trans (keep1 b o q)) le1 hc2 (by rw [sortVals_length false rfl]; exact hlen) (sortVals_data false e er' hal)
end
section
variable {T : Type} [DecidableEq T] [DatumOrd T] [Enc T] [SortK T]
def rSortDT (K : PySem.W.Frag) (T : Type) [DecidableEq T] [DatumOrd T] [Enc T] : List V → Hp → VK → Prop := fun vs H Q => ∃ (F : Hp) (a : Addr) (xs : List V) (bs : List T), vs = [.ref a] ∧ Ext F H ∧ SqT K H a xs ∧ Reps K F xs (bs.map enc) ∧
  ∀ ys p, Reps K F ys ((sortT bs).map enc) → H p = none → Q (.ref p) (upd H p (.lst ys))
theorem cr_sortDT {X : Cx} (hu : X.A.units + 100 < cLine) : CallR X (.builtin "sorted") (rSortDT X.K T) := by
  intro pins s σ H vs us Q I r h
  obtain ⟨F, a, xs, bs, rfl, e, hs, rs, q⟩ := h
  obtain ⟨its, rv, ⟨o, ho, hc, n, hd⟩, hz⟩ := I.tuple hs
  obtain ⟨u, rfl, ru⟩ := vals1 r
  obtain rfl : u = Value.ref a := ru
  obtain ⟨e1, e2⟩ := each_of I e rs rv
  have len1 := rs.length
  rw [List.length_map] at len1
  have len2 := rv.length
  refine sorted_dataT (vs := its) (bs := bs) (en := Datum.toD) ho hc hd e1 e2 (PySem.W.AllAlike.of fun a b => DatumOrd.alike a b) ?_ (by rw [← len1]; exact hz) (fun b _ => ?_) fun h2 p c out kp hp hp2 hlo eo => ?_
  · rcases (inferInstance : SortK T).h with h | h
    · exact PySem.W.Sortable.tuples h
    · exact PySem.W.Sortable.others h
  · have := Datum.depth_le b
    have := (inferInstance : SortK T).d
    omega
  · obtain ⟨ys, h1, h3⟩ := each_back eo
    have hlen : ys.length ≤ sizeLine := by rw [h1.length, hlo, ← len1]; exact hz
    have e3 : bs.mergeSort (PySem.W.dataLe false Datum.toD) = sortT bs := by
      unfold sortT
      rw [PySem.W.dataLe_eq]
      congr 1
      funext a b
      show (!PySem.W.dataLt (Datum.toD b) (Datum.toD a)) = _
      rw [DatumOrd.lt_eq]
    rw [e3] at h3
    have hn : H p = none := I.hok.gone hp
    exact ⟨.ref _, upd H p (.lst ys), I.laidN (t' := s.toks) kp hp hn ⟨hlen, out.toArray.toList, c, by simpa using h1, hp2⟩, rfl, q ys _ h3 hn⟩
variable {S : Sig} {ρ : Env} {a : Expr} {pos p2 : Pos}
theorem cb_sortedT {xs : Tup T} : CBF S "sorted" [enc xs] (enc (sortT xs.items)) := ⟨rSortDT S.K T, fun q o => cr_sortDT (X := S.cx q) (by have := o.room.un; show q.A.units + 100 < cLine; omega), fun vs F H Q e rr q => by
  obtain ⟨v, rfl, r⟩ := reps1 rr
  cases r with
  | tup h r =>
    refine ⟨F, _, _, xs.items, rfl, e, .of (e _ _ h), r, fun ys p hy hp => ?_⟩
    have g := Grow.new (o := .lst ys) e hp
    exact q (.ref p) _ _ g (.lst upd_same (hy.mono g.stp.fs))⟩
theorem tp_sortedT {xs : Tup T} (hm : S.mg "sorted" = none) (h : TP S ρ a xs) (hg : S.scope.names.lookup ("sorted" : Str) = some .globalImplicit := by rfl) (he : ∀ env : PySem.Env, starEach [a] env = (false, eval a env) :: starEach [] env := by intro _; rfl) : TP S ρ (.Call (.Name "sorted" p2) [a] [] pos) (sortT xs.items) :=
  xp_cbF (p := p2) (pos := pos) cb_sortedT hm (xa_cons h xa_nil he) hg (by decide +kernel) (by decide) (by decide) he (by intro _; rfl)
end
end G

namespace G
open PySem PySem.Spec PyProof.Rows L2
open PySem.W (Datum DatumOrd Tup T3 EachIs)
open Enc (enc)
/-! ### isinstance of the error that a suite holds -/
theorem call_isE' {X : Cx} {a D : Addr} {oe : Obj} (hp : (a, oe) ∈ X.pn) (C : ExcC X.K D) (hz : L2N.Zn (.ref D) none oe) (hf : ∃ vs, oe.data = .fields vs) : CallR X (.builtin "isinstance") (rIsE X.K D a) := by
  intro pins s σ H xs us Q I r h
  obtain ⟨c, cv, b, rfl, hcv, e, q⟩ := h
  cases r with
  | cons rx rr =>
    cases rr with
    | cons rt rr =>
      cases rr
      cases rx
      have ec := hcv _ rt
      subst ec
      obtain ⟨hget, _⟩ := I.pin (a, oe) (List.mem_append_left _ hp)
      obtain ⟨vs, hv⟩ := hf
      have J : PySem.W.InstAt s.heap a oe D none := by
        obtain ⟨oc, od, oda, osl⟩ := oe
        obtain ⟨h1, h2, _⟩ := hz
        dsimp only at h1 h2 hv
        subst h1 h2 hv
        exact ⟨hget, rfl, rfl, trivial⟩
      exact PySem.W.kia_one (PySem.W.handS_kitx_exc C.hg C.hk C.hs C.hd C.ha C.hn C.ht C.hm) I.kIn J e (fun z => nomatch z) fun tk => ⟨.bl b, H, I.kept (t' := tk) fun _ _ z => z, rfl, q⟩
section
variable {S : Sig} {ρ ρ1 : Env} {a b c e : Expr} {d d1 d2 d3 : D} {ds : List D} {pos p2 p3 : Pos} {pin : List Nat} {es : List Expr} {x y : Str} {ad : Addr}
theorem xp_cls {u : Addr} (g : S.mg x = some (.ref u)) (hg : S.scope.names.lookup x = some .globalImplicit := by rfl) (hd : (x == ("__debug__" : Str)) = false := by decide) : XP S ρ (.Name x pos) (.ok (.obj u)) := xp_glob (v := .ref u) g rfl (fun _ => .obj) hg hd
theorem xp_isE {k : Bool} {cd : D} {cv : Value} (hS : S.hot = some (ad, y)) (E : ExcC S.K (He.ga S.K y)) (he : XP S ρ e (.ok (.obj ad))) (hc : XP S ρ c (.ok cd)) (hcv : ∀ F v u, Rep S.K F v cd → RelV v u → u = cv) (hk : PySem.W.kitOne S.K (.ref (He.ga S.K y)) cv = some k) (hm : S.mg "isinstance" = none) (hg : S.scope.names.lookup ("isinstance" : Str) = some .globalImplicit := by rfl)
    (hs : ∀ env : PySem.Env, starEach [e, c] env = (false, eval e env) :: starEach [c] env := by intro _; rfl) (hs2 : ∀ env : PySem.Env, starEach [c] env = (false, eval c env) :: starEach [] env := by intro _; rfl) (hpl : ∀ env : PySem.Env, (backTo pos (starEach [c] env)).any (·.1) = false := by intro _; rfl) :
    XP S ρ (.Call (.Name "isinstance" p2) [e, c] [] pos) (.ok (.bl k)) := by
  obtain ⟨t, a1, a2⟩ := xa_cons he (xa_cons hc xa_nil hs2) hs
  refine ⟨tCB (rIsE S.K (He.ga S.K y) ad) t, fun q ok => ?_, fun σ F H A Q w n q => a2 σ F H A _ w n fun vs F1 H1 g r => ?_⟩
  · obtain ⟨_, oe, h1, h2, h3⟩ := ok.hot ad y hS
    exact pe_callB (X := S.cx q) (call_isE' (X := S.cx q) (show (ad, oe) ∈ q.pn from h1) E h2 h3) (show S.scope.names.lookup ("isinstance" : Str) = some .globalImplicit from hg) hm (by decide +kernel) (a1 q ok) (by decide) (by decide) (hs _) (hpl _)
  · obtain ⟨v, u, rfl, r1, r2⟩ := reps2 r
    cases r1
    exact ⟨u, cv, k, rfl, fun z hz => hcv _ _ _ r2 hz, hk, q _ F1 H1 g .bl⟩
/-- isinstance(e, C), C of the program -/
theorem tp_isC {k : Bool} (hS : S.hot = some (ad, y)) (E : ExcC S.K (He.ga S.K y)) (he : XP S ρ e (.ok (.obj ad))) (g : S.mg x = some (.ref (He.ga S.K x))) (hk : PySem.W.kitOne S.K (.ref (He.ga S.K y)) (.ref (He.ga S.K x)) = some k) (hm : S.mg "isinstance" = none) (hg : S.scope.names.lookup ("isinstance" : Str) = some .globalImplicit := by rfl) (hg2 : S.scope.names.lookup x = some .globalImplicit := by rfl) (hd2 : (x == ("__debug__" : Str)) = false := by decide)
    (hs : ∀ env : PySem.Env, starEach [e, .Name x p3] env = (false, eval e env) :: starEach [.Name x p3] env := by intro _; rfl) :
    TP S ρ (.Call (.Name "isinstance" p2) [e, .Name x p3] [] pos) k := xp_isE hS E he (xp_cls g hg2 hd2) (fun F v u r z => by cases r; exact z) hk hm hg hs (by intro _; rfl) (by intro _; rfl)
/-- isinstance(e, ValueError) -/
theorem tp_isB {k : Bool} {n : String} (hS : S.hot = some (ad, y)) (E : ExcC S.K (He.ga S.K y)) (he : XP S ρ e (.ok (.obj ad))) (hk : PySem.W.kitOne S.K (.ref (He.ga S.K y)) (.type n) = some k) (hm : S.mg "isinstance" = none) (hm2 : S.mg x = none) (hv : bootBuiltins x = some (.type n) := by decide +kernel) (hg : S.scope.names.lookup ("isinstance" : Str) = some .globalImplicit := by rfl) (hg2 : S.scope.names.lookup x = some .globalImplicit := by rfl) (hn : x ≠ "__name__" := by decide) (hd2 : (x == ("__debug__" : Str)) = false := by decide)
    (hs : ∀ env : PySem.Env, starEach [e, .Name x p3] env = (false, eval e env) :: starEach [.Name x p3] env := by intro _; rfl) :
    TP S ρ (.Call (.Name "isinstance" p2) [e, .Name x p3] [] pos) k := xp_isE hS E he (xp_ty hm2 hg2 hv hn hd2) (fun F v u r z => by cases r; exact z) hk hm hg hs (by intro _; rfl) (by intro _; rfl)

/-! ### xs.count(x), xs.index(x) -/
section
variable {T : Type} [DecidableEq T] [Datum T] [Enc T]
def rCountT (K : PySem.W.Frag) (xs : List T) (x : T) : V → List V → Hp → VK → Prop := fun v vs H Q => ∃ l ys u, v = .ref l ∧ vs = [u] ∧ SqL K H l ys ∧ Reps K H ys (xs.map enc) ∧ Rep K H u (enc x) ∧ Q (.int ((xs.countP fun y => decide (y = x) : Nat) : Int)) H
theorem mt_countT {X : Cx} (hu : X.A.units + 64 < cLine) {xs : List T} {x : T} (hd : Datum.depth T ≤ 60) : MtR X "list.count" (rCountT X.K xs x) := by
  intro pins s σ H v vs u us Q I rv rvs h
  obtain ⟨l, ys, w, rfl, rfl, hs, r1, r2, q⟩ := h
  cases rv
  obtain ⟨u1, rfl, ru⟩ := vals1 rvs
  obtain ⟨its, r, ⟨o1, n, e1, e2, _, e3⟩, _⟩ := I.list hs
  exact PySem.W.count_list_datum (vs := its.toArray) ⟨o1, e1, e2, n, e3⟩ (holdAll_of I r1 (by simpa using r)) (holds_of I r2 ru) (by omega) ⟨.int _, H, I.kept (t' := s.toks + 1) fun _ _ z => z, ⟨_, rfl⟩, q⟩
def rIndexT (K : PySem.W.Frag) (xs : List T) (x : T) : V → List V → Hp → VK → Prop := fun v vs H Q => ∃ l ys u, v = .ref l ∧ vs = [u] ∧ SqL K H l ys ∧ Reps K H ys (xs.map enc) ∧ Rep K H u (enc x) ∧ x ∈ xs ∧ Q (.int ((xs.idxOf x : Nat) : Int)) H
theorem mt_indexT {X : Cx} (hu : X.A.units + 64 < cLine) {xs : List T} {x : T} (hd : Datum.depth T ≤ 60) : MtR X "list.index" (rIndexT X.K xs x) := by
  intro pins s σ H v vs u us Q I rv rvs h
  obtain ⟨l, ys, w, rfl, rfl, hs, r1, r2, hx, q⟩ := h
  cases rv
  obtain ⟨u1, rfl, ru⟩ := vals1 rvs
  obtain ⟨its, r, ⟨o1, n, e1, e2, _, e3⟩, hz⟩ := I.list hs
  have len := r1.length
  rw [List.length_map] at len
  exact PySem.W.index_list_datum (vs := its) ⟨o1, e1, e2, n, e3⟩ (holdAll_of I r1 r) (holds_of I r2 ru) (by omega) (by rw [← len]; exact hz) hx ⟨.int _, H, I.kept (t' := s.toks + 1) fun _ _ z => z, ⟨_, rfl⟩, q⟩
variable {xs : List T} {v : T}
theorem tp_count {apos : Pos} (ha : TV S ρ a xs) (he : TP S ρ e v) (hd : Datum.depth T ≤ 60 := by decide)
    (hbase : ∀ env : PySem.Env, attributeBase a "count" env (eval a env) = eval a env := by intro _; rfl)
    (hfew : ∀ env : PySem.Env, ((backTo pos (starEach [e] env)).all (fun x => !x.1) && (backToKw pos (keywordEach [] env)).all (fun x => x.1.isSome) && decide ([e].length + ([] : List Keyword).length + (if ([] : List Keyword).isEmpty then 0 else 1) < 30)) = true := by intro _; rfl)
    (hline : (apos.endLine == pos.line) = true := by rfl) (hs : ∀ env : PySem.Env, starEach [e] env = (false, eval e env) :: starEach [] env := by intro _; rfl) (hplain : ∀ env : PySem.Env, (backTo pos (starEach [] env)).any (·.1) = false := by intro _; rfl) :
    TP S ρ (.Call (.Attribute a "count" apos) [e] [] pos) ((xs.countP fun y => decide (y = v) : Nat) : Int) := by
  obtain ⟨t, h1, h2⟩ := ha
  obtain ⟨ta, a1, a2⟩ := xa_cons he xa_nil hs
  refine ⟨tBM S.K "list" (rCountT S.K xs v) t ta, fun q ok => pe_bm PySem.F.plainAttrs_list PySem.F.slot_list_count PySem.F.type_list_count (mt_countT (X := S.cx q) ok.units hd) (h1 q ok) (a1 q ok) (hbase _) (hfew _) hline (hs _) (hplain _), fun σ F H A Q w n q => h2 σ F H A _ w n fun u F1 H1 g r => ?_⟩
  cases r with
  | lst hx r =>
    refine ⟨.inl ⟨rfl, _, SqL.of hx⟩, a2 σ F1 H1 A _ (g.wf w) (g.envs n) fun vs F2 H2 g2 rr => ?_⟩
    obtain ⟨y, rfl, ry⟩ := reps1 rr
    exact ⟨_, _, y, rfl, rfl, .of (g2.hh _ _ hx), r.mono g2.hh, ry.mono g2.ext, q _ F2 H2 (g.trans g2) .int⟩
theorem tp_index {apos : Pos} (ha : TV S ρ a xs) (he : TP S ρ e v) (hm : v ∈ xs) (hd : Datum.depth T ≤ 60 := by decide)
    (hbase : ∀ env : PySem.Env, attributeBase a "index" env (eval a env) = eval a env := by intro _; rfl)
    (hfew : ∀ env : PySem.Env, ((backTo pos (starEach [e] env)).all (fun x => !x.1) && (backToKw pos (keywordEach [] env)).all (fun x => x.1.isSome) && decide ([e].length + ([] : List Keyword).length + (if ([] : List Keyword).isEmpty then 0 else 1) < 30)) = true := by intro _; rfl)
    (hline : (apos.endLine == pos.line) = true := by rfl) (hs : ∀ env : PySem.Env, starEach [e] env = (false, eval e env) :: starEach [] env := by intro _; rfl) (hplain : ∀ env : PySem.Env, (backTo pos (starEach [] env)).any (·.1) = false := by intro _; rfl) :
    TP S ρ (.Call (.Attribute a "index" apos) [e] [] pos) ((xs.idxOf v : Nat) : Int) := by
  obtain ⟨t, h1, h2⟩ := ha
  obtain ⟨ta, a1, a2⟩ := xa_cons he xa_nil hs
  refine ⟨tBM S.K "list" (rIndexT S.K xs v) t ta, fun q ok => pe_bm PySem.F.plainAttrs_list PySem.F.slot_list_index PySem.F.type_list_index (mt_indexT (X := S.cx q) ok.units hd) (h1 q ok) (a1 q ok) (hbase _) (hfew _) hline (hs _) (hplain _), fun σ F H A Q w n q => h2 σ F H A _ w n fun u F1 H1 g r => ?_⟩
  cases r with
  | lst hx r =>
    refine ⟨.inl ⟨rfl, _, SqL.of hx⟩, a2 σ F1 H1 A _ (g.wf w) (g.envs n) fun vs F2 H2 g2 rr => ?_⟩
    obtain ⟨y, rfl, ry⟩ := reps1 rr
    exact ⟨_, _, y, rfl, rfl, .of (g2.hh _ _ hx), r.mono g2.hh, ry.mono g2.ext, hm, q _ F2 H2 (g.trans g2) .int⟩
end

/-! ### a def that is called within a suite, with the error that is held -/
structure FnR (P : Program) (w : World) (K : PySem.W.Frag) (mg : Str → Option Value) (base : Heap) (k : Nat) (f : Addr) (fd : FuncData) (par y : Str) (d : D) : Prop where
  run : ∀ (A : Around) (outer : List PySem.Env) (s : Shared) (H : Hp) (args : Args) (Q : VK) (E : XK) (p : Addr × Obj), L2H.RoomH k A → L2H.Hot1 A p → L2H.PinOk outer H s p → L2N.Zn (.ref (He.ga K y)) none p.2 → L2.Env0 P w K mg base A outer s H → BindsTo s fd args [(par, .ref p.1)] →
    (∃ F, Ext F H ∧ ∀ v F' H', Grow F H F' H' → Rep K F' v d → Q v H') → codeAny (model P w) A (.call (.ref f) args) (CR (L2N.CX P w) outer P w H s Q E) s
def sigR (P : Program) (w : World) (K : PySem.W.Frag) (mg : Str → Option Value) (base : Heap) (N : List Str) (sc : Scope) (k : Nat) (E : XK) (a : Addr) (y : Str) : Sig := ⟨P, w, K, mg, base, N, sc, k, fun cls d _ H => E cls d H, fun _ => true, false, some (a, y), true⟩
theorem def_hot {P : Program} {w : World} {K : PySem.W.Frag} {mg : Str → Option Value} {base : Heap} {x qual : Str} {st : Stmt} {f : Addr} {fd : FuncData} {N : List Str} {par y : Str} {k : Nat} {d : D} (F : ∃ dvs kws, FunD K x qual (defArgs st) (defBody st) (defScope st) dvs kws f fd) (Sc : FnScope N [par] (defScope st))
    (body : ∀ (E : XK) (a : Addr), XB (sigR P w K mg base N (defScope st) k E a y) [] (some (O.fro (.obj a)) :: List.replicate (N.length - 1) none) (defBody st) (.rt (.fro d) none)) : FnR P w K mg base (k + 1) f fd par y d := by
  obtain ⟨dvs, kws, F⟩ := F
  obtain ⟨oc, od, dV, kV, doc, pm, an, cdv, ct, osl, rfl, lk, hcd, hd1, hd2⟩ := F.1
  refine ⟨fun A outer s H args Q E p hr hot hpin hz e0 hb ⟨F0, e00, hq⟩ => ?_⟩
  have KX : K.In s.heap := e0.mod.kin.keeps fun b o e => (e0.bs b o e).1
  have lim : s.heap.NoLimit := e0.mod.nolimit.keeps fun b o e => (e0.bs b o e).1
  have hkind : ∀ z ∈ [par].zip [Value.ref p.1], (defScope st).names.lookup z.1 = some .local ∨ ((defScope st).names.lookup z.1 = some .cell ∧ ((cellsFrom (s.heap.objs.size + 1) (defScope st).names []).lookup z.1).isSome = true) := fun ⟨n, v⟩ hy => by
    rcases Sc.par n (List.of_mem_zip hy).1 with q | q
    · exact .inl q
    · exact .inr ⟨q, PySem.W.cellsFrom_some _ _ _ (.inl q)⟩
  refine codeAny_call_function hr.depth (KX _ _ lk) rfl Sc.co Sc.gen rfl (PySem.W.codeRec_of KX hcd) (hb _ _ _ _ ?_)
  refine wpAny_newFunctionEnv_cells Sc.kind hkind fun env he s1 x => ?_
  subst he
  refine ⟨lim.keeps x.toInCall.keep, codeAny_func ?_⟩
  have I : Inv (L2H.cxH (L2N.CX P w) P w K mg base N qual (defScope st) f cdv A outer s H E p) [] (L2.start N [V.ref p.1]) H s1 := L2H.inv_startH (us := [.ref p.1]) Sc hpin e0 rfl (.cons rfl .nil) x
  obtain ⟨t, ht, h2⟩ := body E p.1
  have rm := hr.deeper (envOfC qual (defScope st) s.heap.objs.size f cdv)
  have ok : (sigR P w K mg base N (defScope st) k E p.1 y).Ok ⟨A.deeper (envOfC qual (defScope st) s.heap.objs.size f cdv), s, H, envOfC qual (defScope st) s.heap.objs.size f cdv, outer, envOfC qual (defScope st) s.heap.objs.size f cdv :: outer, [], fun _ => true, [p], (cxOf (L2N.CX P w) P w K mg base N qual (defScope st) f cdv A outer s H E).xe⟩ := by
    refine ⟨rm, (fun z => nomatch z), fun a y' z => ?_, fun _ => ⟨rfl, rfl⟩, ?_, fun _ _ => rfl, Sc.nd, ?_⟩
    · cases z
      obtain ⟨hh, vs, e, _⟩ := hot
      exact ⟨hh, p.2, by simp, hz, vs, e⟩
    · exact L2N.takes_of (X := L2H.cxH (L2N.CX P w) P w K mg base N qual (defScope st) f cdv A outer s H E p) rfl rfl rfl (by rfl)
    · show PassesOwn (model P w) (cxOf (L2N.CX P w) P w K mg base N qual (defScope st) f cdv A outer s H E).A (cxOf (L2N.CX P w) P w K mg base N qual (defScope st) f cdv A outer s H E).env (cxOf (L2N.CX P w) P w K mg base N qual (defScope st) f cdv A outer s H E).xe
      exact PassesOwn.leaving
  have n1 := start_of (K := K) (F := F0) (H := H) (N := N) (vs := [V.ref p.1]) (os := [O.fro (.obj p.1)]) (A := []) (Owns.fros (ds := [.obj p.1]) (.cons .obj .nil))
  have run := (ht _ ok).run [] s1 (L2.start N [V.ref p.1]) H { nx := fun _ H' => Q .non H', rt := Q } I (h2 _ F0 H [] _ (WF.none e00) n1 (by
    intro v σ' F' H' B A' w' s' ow n' p'
    cases ow with
    | fro r =>
      obtain rfl : A' = [] := n'
      exact hq v F' H' ⟨s', w'.sub⟩ r))
  refine wpAny_mono run (fun fl s' hs => ?_) fun e s' hs => hs
  have fin : ∀ {σ' : L2.St} {H' : Hp} {v : V} {u : Value}, Inv (L2H.cxH (L2N.CX P w) P w K mg base N qual (defScope st) f cdv A outer s H E p) [] σ' H' s' → RelV v u → Q v H' → CE outer P w H s Q u s' :=
    fun {σ' H' v u} J rv q => ⟨v, H', J.os, J.bare, J.base, J.hok, rv, q⟩
  cases fl with
  | ret u =>
    obtain ⟨v, σ', H', J, rv, q⟩ := hs
    exact fin J rv q
  | next =>
    obtain ⟨σ', H', J, q⟩ := hs
    exact fin (v := V.non) (u := Value.none) J rfl q
  | brk =>
    obtain ⟨_, _, _, q⟩ := hs
    exact False.elim q
  | cont =>
    obtain ⟨_, _, _, q⟩ := hs
    exact False.elim q
structure FnRG (P : Program) (w : World) (K : PySem.W.Frag) (mg : Str → Option Value) (base : Heap) (k : Nat) (x par y : Str) (d : D) : Prop where
  h : ∃ f fd, FnR P w K mg base k f fd par y d ∧ mg x = some (.ref f) ∧ PySem.W.keepIn K (.ref f) = true ∧ Binds K fd [par] []
section
variable {k : Nat} {par : Str}
theorem xp_callR (hS : S.hot = some (ad, y)) (hG : FnRG S.P S.w S.K S.mg S.base k x par y d) (he : XP S ρ e (.ok (.obj ad))) (hk : k ≤ S.kk := by exact Nat.le_of_ble_eq_true rfl) (hg : S.scope.names.lookup x = some .globalImplicit := by rfl) (hdb : (x == ("__debug__" : Str)) = false := by decide)
    (hs : ∀ env : PySem.Env, starEach [e] env = (false, eval e env) :: starEach [] env := by intro _; rfl) (hpl : ∀ env : PySem.Env, (backTo pos (starEach [] env)).any (·.1) = false := by intro _; rfl) : XP S ρ (.Call (.Name x p2) [e] [] pos) (.ok d) := by
  obtain ⟨f, fd, FR, hm, kp, b⟩ := hG.h
  obtain ⟨t, a1, a2⟩ := xa_cons he xa_nil hs
  refine ⟨fun σ H Q => t σ H fun vs H1 => vs = [V.ref ad] ∧ ∃ F, Ext F H1 ∧ ∀ v F' H', Grow F H1 F' H' → Rep S.K F' v d → Q v H', fun q ok => ⟨fun pins s σ H Q I h => ?_⟩, fun σ F H A Q w n q => a2 σ F H A _ w n fun vs F1 H1 g r => ?_⟩
  · obtain ⟨hh, oe, h1, h2, vs0, h3⟩ := ok.hot ad y hS
    refine wpAny_Call_Name_kw (ld_glob (X := S.cx q) I (show S.scope.names.lookup x = some .globalImplicit from hg) hm ?_ hdb)
    refine PySem.W.callWith_K (h₀ := S.base) I.ok.mod.kin kp (thn ((a1 q ok).run pos pins s σ H _ I h) fun us s1 ⟨vs, H1, I1, r, e1, q1⟩ => ⟨I1.kIn, ?_⟩) (hs _) (hpl _)
    subst e1
    obtain ⟨u1, rfl, ru⟩ := vals1 r
    obtain rfl : u1 = Value.ref ad := ru
    have P1 := I1.pin (ad, oe) (List.mem_append_left _ (show (ad, oe) ∈ q.pn from h1))
    have hpin : L2H.PinOk q.stack H1 s1 (ad, oe) := ⟨P1.1, P1.2.1, fun hm => (List.mem_cons.mp (I1.stkSub ad hm)).elim P1.2.2.1 P1.2.2.2.1, P1.2.2.2.2⟩
    have b1 := b s1 [.ref ad] I1.kIn (by rfl)
    rw [List.append_nil] at b1
    refine wpAny_call (codeAny_mono (FR.run q.A q.stack s1 H1 ⟨[.ref ad], []⟩ Q (fun _ _ _ => False) (ad, oe) (ok.room.mono hk) ⟨hh, vs0, h3, h2.2.2 vs0 h3⟩ hpin h2 I1.env0 b1 q1) fun r s' hq => ?_)
    cases r with
    | error e => exact absurd hq (fun ⟨_, _, _, _, _, _, _, _, _, _, _, _, z⟩ => z)
    | ok fl =>
      cases fl with
      | ret u => exact I1.after hq
      | next => exact False.elim hq
      | brk => exact False.elim hq
      | cont => exact False.elim hq
  · obtain ⟨v, rfl, r1⟩ := reps1 r
    cases r1
    exact ⟨rfl, F1, g.ext, fun v F' H' g2 r2 => q v F' H' (g.trans g2) r2⟩
end
end

/-! ### try -/
@[reducible] def Sig.tr (S : Sig) (W : WX) : Sig := { S with wx := W }
@[reducible] def Sig.suite (S : Sig) (a : Addr) (y : Str) : Sig := { S with wx := fun _ _ _ _ => False, calm := false, hot := some (a, y) }
instance {S : Sig} {W : WX} [h : Calm S] : Calm (S.tr W) := ⟨(h.h : S.calm = true)⟩
theorem envs_none {K : PySem.W.Frag} {F H : Hp} : ∀ σ : L2.St, Envs K F H σ (List.replicate σ.length none) []
  | [] => .nil
  | _ :: σ => .no (envs_none σ)
theorem suite_ok {S : Sig} {q : Rest} (ok : S.Ok q) {a : Addr} {oe : Obj} {y : Str} {pn : List (Addr × Obj)} (hz : L2N.Zn (.ref (He.ga S.K y)) none oe) (hf : ∃ vs, oe.data = .fields vs) :
    (S.suite a y).Ok { q with A := q.A.mark (some (.ref a)), pn := (a, oe) :: pn, xe := fun _ _ => False } :=
  ⟨⟨ok.room.dp, ok.room.un⟩, (fun z => nomatch z), (fun a' y' z => by cases z; exact ⟨rfl, oe, by simp, hz, hf⟩), ok.top, (fun _ _ ⟨_, _, _, _, _, _, _, _, _, _, _, _, _, _, _, _, z⟩ => z), ok.fn, ok.nd, PassesOwn.never⟩
theorem tr_ok {S : Sig} {q : Rest} (ok : S.Ok q) (hh : S.hot = none) {W : WX} {pn : List (Addr × Obj)} {xe : Value → Shared → Prop} (tk : L2N.Takes ((S.cx q).tr pn xe) W) (po : PassesOwn (model S.P S.w) q.A { q.env with scope := S.scope } xe) : (S.tr W).Ok { q with pn := pn, xe := xe } :=
  ⟨ok.room, ok.hd, (fun a y z => by rw [show (S.tr W).hot = S.hot from rfl, hh] at z; cases z), ok.top, tk, ok.fn, ok.nd, po⟩
section
variable {S : Sig} {ρ ρ1 : Env} {pos pos' np : Pos} {pin : List Nat} {body suite : List Stmt} {b0 : Stmt} {x y n : Str} {r : RS} {o : O}
/-- the end of try: the body's own, or the suite's, which hands back -/
def TryEnd (S : Sig) (pin : List Nat) (x : Str) (ρs : Addr → Env) (su : List Stmt) : RS → RS → Prop
  | .ex y _, r => PySem.W.exmOne S.K (.ref (He.ga S.K y)) (.ref (He.ga S.K x)) = some true ∧ ∃ o, r = .rt o none ∧ ∀ a, XB (S.suite a y) pin (ρs a) su (.rt o none)
  | rb, r => r = rb
theorem EPost.pinW {D : Ends} {σ : L2.St} {F H : Hp} {A : List Addr} {i : Nat} (q : EPost S pin D σ F H A r) : EPost S (i :: pin) D σ F H A r := by
  have h : ∀ {σ' : L2.St}, Pin (i :: pin) σ σ' → Pin pin σ σ' := fun p => ⟨p.len, fun j hj => p.at_ j (List.mem_cons_of_mem _ hj)⟩
  cases r with
  | nx ρ => exact fun σ' F' H' A' w t n k => q σ' F' H' A' w t n (h k)
  | bk ρ => exact fun σ' F' H' A' w t n k => q σ' F' H' A' w t n (h k)
  | ct ρ => exact fun σ' F' H' A' w t n k => q σ' F' H' A' w t n (h k)
  | rt o ρ => exact fun v σ' F' H' B A' w t ow n k => q v σ' F' H' B A' w t ow n (h k)
  | ex x ρ => exact fun σ' F' H' A' w t n k => q σ' F' H' A' w t n (h k)
theorem xs_try_as {rb : RS} (i : Nat) (hb : ∀ W, XB (S.tr W) pin ρ body rb) (he : TryEnd S pin x (fun a => (List.replicate ρ.length none).set i (some (.fro (.obj a)))) (b0 :: suite) rb r) (g : S.mg x = some (.ref (He.ga S.K x)))
    (hi : Nat.blt i ρ.length = true := by rfl) (hh : S.hot = none := by rfl) (ht : S.top = true := by rfl) (hN : S.N[i]? = some n := by rfl) (hln : S.scope.names.lookup n = some .local := by rfl) (hg : S.scope.names.lookup x = some .globalImplicit := by rfl) (hdb : (x == ("__debug__" : Str)) = false := by decide) (hpi : i ∉ pin := by decide) :
    XS S pin ρ (.Try body [.ExceptHandler (some (.Name x np)) (some n) (b0 :: suite) pos'] [] [] pos) r := by
  have hb' : ∀ W, ∃ t, (∀ q, (S.tr W).Ok q → PSs ((S.tr W).cx q) body t) ∧ ES (S.tr W) pin t ρ rb := hb
  obtain ⟨ts, hts1, hts2⟩ : ∃ ts : Addr → Value → Option Addr → TS, (∀ q, S.Ok q → ∀ (a : Addr) (oe : Obj) (cls : Value) (d : Option Addr) (pn : List (Addr × Obj)), L2N.Zn cls d oe → (∃ vs, oe.data = .fields vs) → PSs ((S.cx q).suite a ((a, oe) :: pn)) (b0 :: suite) (ts a cls d)) ∧
      ∀ y ρo, rb = .ex y ρo → ∀ a D σ H, tAnyB (S.suite a y) (b0 :: suite) D σ H → ts a (.ref (He.ga S.K y)) none D σ H := by
    refine ⟨fun a cls d D σ H => ∃ y, cls = .ref (He.ga S.K y) ∧ d = none ∧ tAnyB (S.suite a y) (b0 :: suite) D σ H, fun q ok a oe cls d pn hz hf => ⟨fun pins s σ H D I ⟨y, e1, e2, t, h, z⟩ => ?_⟩, fun y ρo e a D σ H h => ⟨y, rfl, rfl, h⟩⟩
    subst e1 e2
    exact (h _ (suite_ok ok hz hf)).run pins s σ H D I z
  refine ⟨fun D σ H => Classical.choose (hb' (wAs S.K (.ref (He.ga S.K x)) i ts S.wx D)) D σ H, fun q ok => ?_, fun σ F H A D w nv post => ?_⟩
  · obtain ⟨st, sf⟩ := ok.top ht
    exact L2N.ps_try_as (X := S.cx q) (tb := fun W => Classical.choose (hb' W)) (ts := ts) (Wout := S.wx) st sf ok.nd hN hln ⟨hg, hdb, .inl g⟩ ok.tk
      (fun W pn xe tk po => (Classical.choose_spec (hb' W)).1 _ (tr_ok ok hh tk po)) fun a oe cls d pn hz hf => hts1 q ok a oe cls d pn hz hf
  · refine (Classical.choose_spec (hb' _)).2 σ F H A D w nv ?_
    cases rb with
    | nx ρ' => obtain rfl : r = _ := he; exact post
    | bk ρ' => obtain rfl : r = _ := he; exact post
    | ct ρ' => obtain rfl : r = _ := he; exact post
    | rt o ρ' => obtain rfl : r = _ := he; exact post
    | ex y ρ' =>
      obtain ⟨e1, o, rfl, hsu⟩ := he
      intro σ' F' H' A' w' s' n' p'
      refine ⟨true, e1, fun _ a na => hts2 y ρ' rfl a _ _ _ ?_, fun z => nomatch z⟩
      have lσ : σ'.length = ρ.length := p'.len.trans nv.length
      have n2 : Envs S.K F' H' (σ'.set i (some (.ref a))) ((List.replicate ρ.length none).set i (some (.fro (.obj a)))) [] := by
        obtain ⟨A2, n3, p3⟩ := (envs_none (K := S.K) (F := F') (H := H') σ').put (.fro (.obj (a := a))) (i := i) (by rw [List.getElem?_replicate, if_pos (by rw [lσ]; exact Nat.le_of_ble_eq_true hi)])
        rw [lσ] at n3
        have : A2 = [] := by simpa using p3
        rw [← this]; exact n3
      refine (hsu a).any _ F' H' [] _ (WF.none w'.sub) n2 ?_
      intro v σ2 F2 H2 B A2 w2 s2 ow n4 p4
      exact post v (σ2.set i (σ'[i]?.getD none)) F2 H2 B A2 w2 ((s'.perm (fun a => Iff.rfl) (by simp)).trans s2) ow n4 ⟨by rw [List.length_set, p4.len, List.length_set, p'.len], fun j hj => by
        have ne : i ≠ j := fun e => hpi (by rw [e]; exact hj)
        rw [List.getElem?_set_ne ne, p4.at_ j hj, List.getElem?_set_ne ne, p'.at_ j hj]⟩
end
end G

namespace G
open PySem PySem.Spec PyProof.Rows L2
open PySem.W (Datum DatumOrd Tup T3 EachIs)
open Enc (enc)
/-! ### except X: .. without a name -/
section
variable {S : Sig} {ρ ρ1 : Env} {pos pos' np : Pos} {pin : List Nat} {body suite : List Stmt} {b0 : Stmt} {x y : Str} {r : RS} {o : O}
theorem xs_try_only {rb : RS} (hb : ∀ W, XB (S.tr W) pin ρ body rb) (he : TryEnd S pin x (fun _ => List.replicate ρ.length none) (b0 :: suite) rb r) (g : S.mg x = some (.ref (He.ga S.K x)))
    (hh : S.hot = none := by rfl) (ht : S.top = true := by rfl) (hg : S.scope.names.lookup x = some .globalImplicit := by rfl) (hdb : (x == ("__debug__" : Str)) = false := by decide) :
    XS S pin ρ (.Try body [.ExceptHandler (some (.Name x np)) none (b0 :: suite) pos'] [] [] pos) r := by
  have hb' : ∀ W, ∃ t, (∀ q, (S.tr W).Ok q → PSs ((S.tr W).cx q) body t) ∧ ES (S.tr W) pin t ρ rb := hb
  obtain ⟨ts, hts1, hts2⟩ : ∃ ts : Addr → Value → Option Addr → TS, (∀ q, S.Ok q → ∀ (a : Addr) (oe : Obj) (cls : Value) (d : Option Addr) (pn : List (Addr × Obj)), L2N.Zn cls d oe → (∃ vs, oe.data = .fields vs) → PSs ((S.cx q).suite a ((a, oe) :: pn)) (b0 :: suite) (ts a cls d)) ∧
      ∀ y ρo, rb = .ex y ρo → ∀ a D σ H, tAnyB (S.suite a y) (b0 :: suite) D σ H → ts a (.ref (He.ga S.K y)) none D σ H := by
    refine ⟨fun a cls d D σ H => ∃ y, cls = .ref (He.ga S.K y) ∧ d = none ∧ tAnyB (S.suite a y) (b0 :: suite) D σ H, fun q ok a oe cls d pn hz hf => ⟨fun pins s σ H D I ⟨y, e1, e2, t, h, z⟩ => ?_⟩, fun y ρo e a D σ H h => ⟨y, rfl, rfl, h⟩⟩
    subst e1 e2
    exact (h _ (suite_ok ok hz hf)).run pins s σ H D I z
  refine ⟨fun D σ H => Classical.choose (hb' (wMany S.K S.wx D [(.ref (He.ga S.K x), ts)])) D σ H, fun q ok => ?_, fun σ F H A D w nv post => ?_⟩
  · obtain ⟨st, sf⟩ := ok.top ht
    exact L2N.ps_try_many (X := S.cx q) (tb := fun W => Classical.choose (hb' W)) (l := [(.ref (He.ga S.K x), ts)]) (Wout := S.wx) st sf ok.tk
      (fun W pn xe tk po => (Classical.choose_spec (hb' W)).1 _ (tr_ok ok hh tk po)) (.cons ⟨hg, hdb, .inl g⟩ (fun a oe cls d pn hz hf => hts1 q ok a oe cls d pn hz hf) .nil)
  · refine (Classical.choose_spec (hb' _)).2 σ F H A D w nv ?_
    cases rb with
    | nx ρ' => obtain rfl : r = _ := he; exact post
    | bk ρ' => obtain rfl : r = _ := he; exact post
    | ct ρ' => obtain rfl : r = _ := he; exact post
    | rt o ρ' => obtain rfl : r = _ := he; exact post
    | ex y ρ' =>
      obtain ⟨e1, o, rfl, hsu⟩ := he
      intro σ' F' H' A' w' s' n' p'
      refine ⟨true, e1, fun _ a na => hts2 y ρ' rfl a _ _ _ ?_, fun z => nomatch z⟩
      have lσ : σ'.length = ρ.length := p'.len.trans nv.length
      have n2 : Envs S.K F' H' σ' (List.replicate ρ.length none) [] := by rw [← lσ]; exact envs_none σ'
      refine (hsu a).any _ F' H' [] _ (WF.none w'.sub) n2 ?_
      intro v σ2 F2 H2 B A2 w2 s2 ow n4 p4
      exact post v σ2 F2 H2 B A2 w2 ((s'.perm (fun a => Iff.rfl) (by simp)).trans s2) ow n4 (p'.trans p4)
end
/-! ### a comprehension whose source raises -/
section
variable {S : Sig} {ρ ρ1 : Env} {a b c e it tg elt : Expr} {pos p2 : Pos} {pin : List Nat} {es : List Expr} {x : Str}
theorem xp_lcX {own : List (Str × Nat)} {scope : Scope} {tgt : TG} {ifs : List Expr} [Calm S] (hi : XP S ρ it (.error x)) (hg : ∀ q, (S.blk scope).Ok q → PG ((S.blk scope).cx q) tg tgt) (bo : blkC S.N S.scope scope own = true := by (try dsimp only [sigOf, Sig.blk]); decide +kernel)
    (hs : ∀ (env : PySem.Env) (x : Value), foldedSetIterable it env x = pure x := by intro _ _; rfl) : XP S ρ (.ListComp elt [⟨tg, it, ifs, 0⟩] scope pos) (.error x) := by
  obtain ⟨t, h1, h2⟩ := hi
  refine ⟨tLc (iList S.K t) tgt (tAnyTs (S.blk scope) ifs) (tAnyE (S.blk scope) elt) (own.map (·.2)), fun q ok => pe_lc (X := S.cx q) Calm.h ok.nd (pi_list (h1 q ok)) (blkOk_by bo) (fun s H C cl fp => ?_) (fun s H C cl fp => ?_) (fun s H C cl fp => ?_) (hs _), fun σ F H A Q w n q => h2 σ F H A _ w n q⟩
  · obtain ⟨q', ok', e⟩ := blk_cx S q ok scope s H C cl fp
    rw [← e]; exact hg q' ok'
  · obtain ⟨q', ok', e⟩ := blk_cx S q ok scope s H C cl fp
    rw [← e]; exact pts_any ok' ifs
  · obtain ⟨q', ok', e⟩ := blk_cx S q ok scope s H C cl fp
    rw [← e]; exact pe_any ok' elt
end
/-! ### facts of the top, some more -/
abbrev AlX : Type := Bool × He.AlD
abbrev KF := PySem.W.Frag → Bool
def obsX (ex : List KF) (fa : List He.Fa) (fn : List He.DefD) (K : PySem.W.Frag) : AlX := (ex.all fun f => f K, He.obsD fa fn K)
def valX (fn : List He.DefD) : AlX := (true, He.valD fn)
def SaysX (ex : List KF) (fa : List He.Fa) (fn : List He.DefD) (K : PySem.W.Frag) : Prop := obsX ex fa fn K = valX fn
def obsXG (n : Nat) (ex : List KF) (fa : List He.Fa) (fn : List He.DefD) (g : Addr → Option Obj) : AlX := obsX ex fa fn (He.frG g (He.asD g n))
def hookX (n : Nat) (ex : List KF) (fa : List He.Fa) (fn : List He.DefD) : PySem.W.Hook where
  α := AlX
  obs := fun s => obsXG n ex fa fn s.heap.get?
  val := fun _ => valX fn
  says := fun _ h => ∃ K : PySem.W.Frag, K.In h ∧ SaysX ex fa fn K
  of := fun _ _ e => ⟨_, He.frG_in, e⟩
  keeps := fun _ _ _ ⟨K, hK, c⟩ k => ⟨K, PySem.W.Frag.In.keeps hK k, c⟩
theorem obsXG_eq {n : Nat} {ex : List KF} {fa : List He.Fa} {fn : List He.DefD} {g : Addr → Option Obj} {s : Shared} (h : ∀ a, g a = s.heap.get? a) : obsXG n ex fa fn g = (hookX n ex fa fn).obs s := by
  have e : g = s.heap.get? := funext h
  rw [e] <;> rfl
section
variable {ex : List KF} {fa : List He.Fa} {fn : List He.DefD} {K : PySem.W.Frag}
theorem SaysX.d (c : SaysX ex fa fn K) : He.SaysD fa fn K := congrArg (fun z : AlX => z.2) c
theorem SaysX.fact (c : SaysX ex fa fn K) (i : Nat) {f : KF} (h : ex[i]? = some f := by rfl) : f K = true :=
  List.all_eq_true.mp (show (ex.all fun f => f K) = true from congrArg (fun z : AlX => z.1) c) f (List.mem_of_getElem? h)
end
def kfExc (x : Str) : KF := fun K =>
  He.eqO (PySem.W.findIn K (.ref (He.ga K x)) "__getattribute__") (some (some (.builtin "BaseException.__getattribute__"))) && (He.eqO (PySem.W.findIn K (.ref (He.ga K x)) "__getattr__") (some none) &&
  (decide (PySem.W.subIn K (.ref (He.ga K x)) (.type "BaseException") = some true) && (PySem.W.hasDictIn K (He.ga K x) && (He.eqO (PySem.W.findIn K (.ref (He.ga K x)) "__class__") (some (some (.builtin "object.__class__"))) &&
  (He.eqO (PySem.W.specialIn K (.builtin "object.__class__") "__get__") (some (some (.builtin "getset_descriptor.__get__"))) && (decide (PySem.W.takesIn K (.builtin "object.__class__") = some true) && decide (PySem.W.mroIn K (He.ga K x) (.type "object") = some true)))))))
theorem kfExc_ok {K : PySem.W.Frag} {x : Str} (h : kfExc x K = true) : ExcC K (He.ga K x) := by
  obtain ⟨h1, h⟩ := He.ba h
  obtain ⟨h2, h⟩ := He.ba h
  obtain ⟨h3, h⟩ := He.ba h
  obtain ⟨h4, h⟩ := He.ba h
  obtain ⟨h5, h⟩ := He.ba h
  obtain ⟨h6, h⟩ := He.ba h
  obtain ⟨h7, h8⟩ := He.ba h
  exact ⟨He.eqO_ok h1, He.eqO_ok h2, of_decide_eq_true h3, h4, He.eqO_ok h5, He.eqO_ok h6, of_decide_eq_true h7, of_decide_eq_true h8⟩
def kfIs (x y : Str) (b : Bool) : KF := fun K => decide (PySem.W.kitOne K (.ref (He.ga K x)) (.ref (He.ga K y)) = some b)
theorem kfIs_ok {K : PySem.W.Frag} {x y : Str} {b : Bool} (h : kfIs x y b K = true) : PySem.W.kitOne K (.ref (He.ga K x)) (.ref (He.ga K y)) = some b := of_decide_eq_true h
def kfIsT (x : Str) (n : String) (b : Bool) : KF := fun K => decide (PySem.W.kitOne K (.ref (He.ga K x)) (.type n) = some b)
theorem kfIsT_ok {K : PySem.W.Frag} {x : Str} {n : String} {b : Bool} (h : kfIsT x n b K = true) : PySem.W.kitOne K (.ref (He.ga K x)) (.type n) = some b := of_decide_eq_true h
/-! ### what _law_refused tells -/
def m_refused (bs : List Bool) : Tx × Int := if (bs.countP fun y => decide (y = true)) = 1 then (⟨['r', 'e', 'f', 'u', 's', 'e', 'd']⟩, ((bs.idxOf true : Nat) : Int)) else (⟨['r', 'e', 'f', 'u', 's', 'e', 'd']⟩, -1)
end G

namespace G
open PySem PySem.Spec PyProof.Rows L2
open PySem.W (Datum DatumOrd Tup T3 EachIs)
open Enc (enc)
/-! ### what gen.py prints -/
def bnd {T U : Type} (v : T) (m : T → U) : U := m v
def eqB {T : Type} [DecidableEq T] (x y : T) : Bool := decide (x = y)
theorem eqB_iff {T : Type} [DecidableEq T] {x y : T} : eqB x y = true ↔ x = y := by unfold eqB; exact decide_eq_true_iff
theorem eqB_no {T : Type} [DecidableEq T] {x y : T} : eqB x y = false ↔ x ≠ y := by unfold eqB; exact decide_eq_false_iff_not
theorem eqB_self {T : Type} [DecidableEq T] (x : T) : eqB x x = true := eqB_iff.mpr rfl
def atD {T : Type} [Inhabited T] (xs : List T) (i : Int) : T := (atI xs i).getD default
class Sm {α : Type} (xs : List α) : Prop where
  h : xs.length ≤ 1000000
class Ft (p : Prop) : Prop where
  h : p
instance Sm.i1 {α : Type} (p : α → Bool) (xs : List α) [h : Sm xs] : Sm (xs.filter p) := ⟨Nat.le_trans (List.length_filter_le _ _) h.h⟩
instance Sm.i2 {α β : Type} (f : α → β) (xs : List α) [h : Sm xs] : Sm (xs.map f) := ⟨by rw [List.length_map]; exact h.h⟩
instance Sm.i3 {α : Type} : Sm ([] : List α) := ⟨by simp⟩
instance Sm.i4 {α : Type} (a : α) : Sm [a] := ⟨by simp⟩
instance Sm.i5 {α : Type} (a b : α) : Sm [a, b] := ⟨by simp⟩
instance Sm.i6 {α : Type} (a b c : α) : Sm [a, b, c] := ⟨by simp⟩
instance Sm.i7 {α : Type} (a b c d : α) : Sm [a, b, c, d] := ⟨by simp⟩
instance Sm.i8 {α : Type} (a b c d e : α) : Sm [a, b, c, d, e] := ⟨by simp⟩
instance Sm.i9 {α : Type} (a b c d e f : α) : Sm [a, b, c, d, e, f] := ⟨by simp⟩
theorem cutL_len {α : Type} (xs : List α) (lo hi : Option Int) : (cutL xs lo hi).length ≤ xs.length := by
  unfold cutL
  rw [List.length_take, List.length_drop]
  omega
instance Sm.i10 {α : Type} (xs : List α) (lo hi : Option Int) [h : Sm xs] : Sm (cutL xs lo hi) := ⟨Nat.le_trans (cutL_len _ _ _) h.h⟩
instance Sm.i11 {α β : Type} (xs : List α) (ys : List β) [h : Sm xs] : Sm (xs.zip ys) := ⟨by rw [List.length_zip]; have := h.h; omega⟩
instance Sm.i12 {α : Type} (xs : List α) [h : Sm xs] : Sm (enumL xs) := ⟨by rw [enumL_len]; exact h.h⟩
instance Sm.i13 {α : Type} (xs : List α) [h : Sm xs] : Sm xs.reverse := ⟨by rw [List.length_reverse]; exact h.h⟩
instance Sm.i14 {T : Type} [DecidableEq T] [DatumOrd T] (xs : List T) [h : Sm xs] : Sm (sortT xs) := ⟨by rw [(sortT_perm xs).length_eq]; exact h.h⟩
theorem sm_rng {lo hi : Int} (h : hi - lo ≤ 1000000) : Sm (rng lo hi) := ⟨by rw [rng_len]; omega⟩
section
variable {T : Type} [DecidableEq T] [Datum T] [Enc T]
abbrev fv (x : T) : Option O := some (.fro (enc x))
abbrev ov (xs : List T) : Option O := some (oL xs)
end
section
variable {S : Sig} {ρ ρ1 : Env} {a b c e it tg elt : Expr} {pos p2 p' : Pos} {pin : List Nat} {es : List Expr} {st : Stmt} {ss body : List Stmt} {x y : Str}
variable {T U V' : Type}
/-! ### blocks -/
theorem xb_stp (f : U → RS) (R : T → Env) {v : T} {m : T → U} (h : XS S pin ρ st (.nx (R v))) (k : ∀ w, w = v → XB S pin (R w) ss (f (m w))) : XB S pin ρ (st :: ss) (f (bnd v m)) := xb_cons h (k v rfl)
/-- a statement that changes no known slot -/
theorem xb_un (f : U → RS) {v : U} (h : XS S pin ρ st (.nx ρ)) (k : XB S pin ρ ss (f v)) : XB S pin ρ (st :: ss) (f v) := xb_cons h k
theorem xb_fn (f : U → RS) {v : T} {m : T → U} (R : T → Env) {A : List Stmt} {k : Bool} {s1 s2 : T} (hv : v = if k = true then s1 else s2) (hc : XT S ρ c k) (ha : k = true → XB S pin ρ A (.nx (R s1))) (hb : k = false → ρ = R s2) (hk : ∀ w, w = v → XB S pin (R w) ss (f (m w))) :
    XB S pin ρ (.If c A [] pos :: ss) (f (bnd v m)) := by
  subst hv
  cases k with
  | true => exact xb_cons (xs_if hc ha fun z => nomatch z) (hk _ rfl)
  | false => exact xb_cons (xs_if hc (fun z => nomatch z) fun _ => by rw [hb rfl]; exact xb_nil) (hk _ rfl)
def fN (R : T → Env) : T → RS := fun s => .nx (R s)
def fL {σ β : Type} (R : σ → Env) (fr : β → RS) : LO σ β → RS := LO.rs R fr
/-- if c: .. [else: ..], both go on -/
theorem xb_ij (f : U → RS) (R : T → Env) {A B : List Stmt} {k : Bool} {s1 s2 : T} {m : T → U} (hc : XT S ρ c k) (ha : k = true → XB S pin ρ A (fN R s1)) (hb : k = false → XB S pin ρ B (fN R s2)) (hk : ∀ w, w = (if k = true then s1 else s2) → XB S pin (R w) ss (f (m w))) :
    XB S pin ρ (.If c A B pos :: ss) (f (bnd (if k = true then s1 else s2) m)) := xb_cons (xs_ifj R hc ha hb) (hk _ rfl)
/-- the end of a branch that goes on -/
theorem xb_go (is : List Nat) {ρ2 : Env} (hq : is.foldl (fun r i => r.set i none) ρ = ρ2 := by rfl) : XB S pin ρ [] (.nx ρ2) := xb_forgets is xb_nil hq
theorem xb_goN (R : T → Env) (is : List Nat) (s : T) (hq : is.foldl (fun r i => r.set i none) ρ = R s := by rfl) : XB S pin ρ [] (fN R s) := xb_forgets is xb_nil hq
theorem xb_goL {σ β : Type} (R : σ → Env) (fr : β → RS) (is : List Nat) (s : σ) (hq : is.foldl (fun r i => r.set i none) ρ = R s := by rfl) : XB S pin ρ [] (fL R fr (.nx s)) := xb_forgets is xb_nil hq
theorem xb_rtF [DecidableEq T] [Datum T] [Enc T] {v : T} (h : TP S ρ e v) : XB S pin ρ (.Return (some e) pos :: ss) (rF v) := xb_stop (xs_retF h) fun _ z => nomatch z
theorem xb_rtE [DecidableEq T] [Datum T] [Enc T] {v : T} (h : TP S ρ e v) : XB S pin ρ (.Return (some e) pos :: ss) (rE rF (.ok v)) := xb_stop (xs_retF h) fun _ z => nomatch z
theorem xb_rtL {σ β : Type} (R : σ → Env) (fr : β → RS) {v : β} (h : XB S pin ρ (st :: ss) (fr v)) : XB S pin ρ (st :: ss) (fL R fr (.rt v)) := h
theorem xb_rtX [DecidableEq T] [Datum T] [Enc T] {r : Except Str T} (h : XP S ρ e (exD (oE oF r))) : XB S pin ρ (.Return (some e) pos :: ss) (rE rF r) := xb_stop (xs_retX h) (Term.ne (term_rE _))
/-- for, left by its end alone -/
theorem xb_fo [Calm S] (fr : U → RS) {α σ : Type} (xs : List α) (g : α → D) (R : σ → Env) {f : σ → α → σ} (I : Nat → σ → Prop) {tgt : TG} (ρb : σ → α → Env) {s0 : σ} {m : σ → U}
    (hi : XI S ρ tg it (xs.map g)) (hg : ∀ q, S.Ok q → PG (S.cx q) tg tgt) (hG : ∀ s x, EG S pin tgt (R s) (g x) (ρb s x)) (h0 : I 0 s0)
    (hI : ∀ i s x, xs[i]? = some x → I i s → I (i + 1) (f s x))
    (hb : ∀ i s x, xs[i]? = some x → I i s → XB S pin (ρb s x) body (fN R (f s x)))
    (hk : ∀ w, w = xs.foldl f s0 → I xs.length w → XB S pin (R w) ss (fr (m w))) (hq : ρ = R s0 := by rfl)
    (hs : ∀ (env : PySem.Env) (x : Value), foldedSetIterable it env x = pure x := by intro _ _; rfl) : XB S pin ρ (.For tg it body [] pos :: ss) (fr (bnd (xs.foldl f s0) m)) := by
  subst hq
  exact xb_forN fr xs g R f I ρb s0 m hi hg hG h0 hI hb hk hs
/-- for, that may end the def -/
theorem xb_fe [Calm S] (fr : U → RS) (hfr : ∀ b, Term (fr b)) {α σ : Type} (xs : List α) (g : α → D) (R : σ → Env) {f : σ → α → LO σ U} (I : Nat → σ → Prop) {tgt : TG} (ρb : σ → α → Env) {s0 : σ} {m : σ → U}
    (hi : XI S ρ tg it (xs.map g)) (hg : ∀ q, S.Ok q → PG (S.cx q) tg tgt) (hG : ∀ s x, EG S pin tgt (R s) (g x) (ρb s x)) (h0 : I 0 s0)
    (hI : ∀ i s x s', xs[i]? = some x → I i s → f s x = .nx s' → I (i + 1) s')
    (hb : ∀ i s x, xs[i]? = some x → I i s → XB S pin (ρb s x) body (fL R fr (f s x)))
    (hk : ∀ w, forL f xs s0 = .nx w → XB S pin (R w) ss (fr (m w))) (hq : ρ = R s0 := by rfl)
    (hs : ∀ (env : PySem.Env) (x : Value), foldedSetIterable it env x = pure x := by intro _ _; rfl) : XB S pin ρ (.For tg it body [] pos :: ss) (fr ((forL f xs s0).fin m)) := by
  subst hq
  exact xb_for fr hfr xs g R f I ρb s0 m hi hg hG h0 hI hb hk hs
/-- while, left by its end alone -/
def whD {σ : Type} (c : σ → Bool) (f : σ → σ) (n : Nat) (s : σ) : σ := match whL (β := Empty) c (fun s => .nx (f s)) n s with
  | some (.nx w) => w
  | _ => s
theorem whL_nx {σ : Type} (c : σ → Bool) (f : σ → σ) : ∀ (n : Nat) (s : σ) {o : LO σ Empty}, whL c (fun s => .nx (f s)) n s = some o → ∃ w, o = .nx w
  | 0, _, _, h => by cases h
  | n + 1, s, o, h => by
    unfold whL at h
    split at h
    · exact whL_nx c f n _ h
    · cases h; exact ⟨_, rfl⟩
theorem xb_wh (fr : U → RS) {σ : Type} {cond : Expr} (R : σ → Env) {cc : σ → Bool} {f : σ → σ} (I : σ → Prop) {s0 : σ} {n : Nat} {m : σ → U} (ho : (whL (β := Empty) cc (fun s => .nx (f s)) n s0).isSome = true) (h0 : I s0)
    (hI : ∀ s, I s → cc s = true → I (f s)) (hc : ∀ s, I s → XT S (R s) cond (cc s)) (hb : ∀ s, I s → cc s = true → XB S pin (R s) body (fN R (f s)))
    (hk : ∀ w, w = whD cc f n s0 → I w → cc w = false → XB S pin (R w) ss (fr (m w))) (hq : ρ = R s0 := by rfl) : XB S pin ρ (.While cond body [] pos :: ss) (fr (bnd (whD cc f n s0) m)) := by
  subst hq
  obtain ⟨o, ho⟩ := Option.isSome_iff_exists.mp ho
  obtain ⟨w, rfl⟩ := whL_nx cc f n s0 ho
  have e : whD cc f n s0 = w := by unfold whD; rw [ho]
  have key : ∀ (n : Nat) (s : σ), whL (β := Empty) cc (fun s => .nx (f s)) n s = some (.nx w) → I s → I w ∧ cc w = false := by
    intro n
    induction n with
    | zero => intro s h; cases h
    | succ n ih =>
      intro s h hs
      unfold whL at h
      by_cases q : cc s = true
      · rw [if_pos q] at h
        exact ih _ h (hI s hs q)
      · rw [if_neg q] at h
        cases h
        exact ⟨hs, by simpa using q⟩
  obtain ⟨k1, k2⟩ := key n s0 ho h0
  have h := xs_while (pos := pos) (β := Empty) R cc (fun s => .nx (f s)) (fun b => b.elim) I s0 n ho h0 (fun b => b.elim) hc fun s hs hcs => ⟨hb s hs hcs, fun s' z => by cases z; exact hI s hs hcs⟩
  exact xb_cons h (by have := hk w e.symm k1 k2; rw [← e] at this; show XB S pin (R w) ss (fr (m (whD cc f n s0))); rw [e] at this ⊢; exact this)
/-! ### expressions -/
section
variable [DecidableEq T] [Datum T] [Enc T] {u v : T}
theorem te_eq (ha : TV S ρ a u) (hb : TV S ρ b v) (hd : Datum.depth T ≤ 64 := by decide) : XT S ρ (.Compare a [.Eq] [b] pos) (eqB u v) := tt_eq ha hb hd
theorem te_ne (ha : TV S ρ a u) (hb : TV S ρ b v) (hd : Datum.depth T ≤ 64 := by decide) : XT S ρ (.Compare a [.NotEq] [b] pos) (!eqB u v) := tt_ne ha hb hd
theorem tv_eq (ha : TV S ρ a u) (hb : TV S ρ b v) (hd : Datum.depth T ≤ 64 := by decide) : TP S ρ (.Compare a [.Eq] [b] pos) (eqB u v) := tp_eq ha hb hd
theorem tv_ne (ha : TV S ρ a u) (hb : TV S ρ b v) (hd : Datum.depth T ≤ 64 := by decide) : TP S ρ (.Compare a [.NotEq] [b] pos) (!eqB u v) := tp_ne ha hb hd
theorem te_in {xs : List T} (ha : TV S ρ a u) (hb : TV S ρ b xs) (hd : Datum.depth T ≤ 63 := by decide) (hm : behindInMarks .In b = false := by rfl) : XT S ρ (.Compare a [.In] [b] pos) (memB u xs) := tt_in ha hb hd hm
theorem te_ni {xs : List T} (ha : TV S ρ a u) (hb : TV S ρ b xs) (hd : Datum.depth T ≤ 63 := by decide) (hm : behindInMarks .NotIn b = false := by rfl) : XT S ρ (.Compare a [.NotIn] [b] pos) (!memB u xs) := tt_ni ha hb hd hm
theorem tv_in {xs : List T} (ha : TV S ρ a u) (hb : TV S ρ b xs) (hd : Datum.depth T ≤ 63 := by decide) (hm : behindInMarks .In b = false := by rfl) : TP S ρ (.Compare a [.In] [b] pos) (memB u xs) := tp_in ha hb hd hm
theorem tv_ni {xs : List T} (ha : TV S ρ a u) (hb : TV S ρ b xs) (hd : Datum.depth T ≤ 63 := by decide) (hm : behindInMarks .NotIn b = false := by rfl) : TP S ρ (.Compare a [.NotIn] [b] pos) (!memB u xs) := tp_ni ha hb hd hm
theorem te_inT {xs : Tup T} (ha : TV S ρ a u) (hb : TV S ρ b xs) (hd : Datum.depth T ≤ 63 := by decide) (hm : behindInMarks .In b = false := by rfl) : XT S ρ (.Compare a [.In] [b] pos) (memB u xs.items) := tt_inT ha hb hd hm
theorem te_niT {xs : Tup T} (ha : TV S ρ a u) (hb : TV S ρ b xs) (hd : Datum.depth T ≤ 63 := by decide) (hm : behindInMarks .NotIn b = false := by rfl) : XT S ρ (.Compare a [.NotIn] [b] pos) (!memB u xs.items) := tt_niT ha hb hd hm
theorem tv_inT {xs : Tup T} (ha : TV S ρ a u) (hb : TV S ρ b xs) (hd : Datum.depth T ≤ 63 := by decide) (hm : behindInMarks .In b = false := by rfl) : TP S ρ (.Compare a [.In] [b] pos) (memB u xs.items) := tp_inT ha hb hd hm
theorem tv_niT {xs : Tup T} (ha : TV S ρ a u) (hb : TV S ρ b xs) (hd : Datum.depth T ≤ 63 := by decide) (hm : behindInMarks .NotIn b = false := by rfl) : TP S ρ (.Compare a [.NotIn] [b] pos) (!memB u xs.items) := tp_niT ha hb hd hm
theorem atD_ok [Inhabited T] {xs : List T} {i : Int} (h : (0 ≤ i ∧ i < xs.length) ∨ (i < 0 ∧ 0 ≤ i + xs.length)) : atI xs i = some (atD xs i) := by
  unfold atD
  have : ∃ z, atI xs i = some z := by
    rcases h with h | h
    · exact atI_ok h
    · unfold atI ixN
      rw [if_neg (by omega), if_pos (by omega)]
      exact ⟨xs[(i + xs.length).toNat]'(by omega), List.getElem?_eq_getElem _⟩
  obtain ⟨z, e⟩ := this
  rw [e]; rfl
theorem tv_ix [Inhabited T] {xs : List T} {i : Int} (ha : TP S ρ a xs) (hb : TP S ρ b i) (h : (0 ≤ i ∧ i < xs.length) ∨ (i < 0 ∧ 0 ≤ i + xs.length)) (hs : PlainIx b := by intro _ _; rfl) : TP S ρ (.Subscript a b pos) (atD xs i) := tp_ixL ha hb (atD_ok h) hs
theorem tv_ixT [Inhabited T] {xs : Tup T} {i : Int} (ha : TP S ρ a xs) (hb : TP S ρ b i) (h : (0 ≤ i ∧ i < xs.items.length) ∨ (i < 0 ∧ 0 ≤ i + xs.items.length)) (hs : PlainIx b := by intro _ _; rfl) : TP S ρ (.Subscript a b pos) (atD xs.items i) := tp_ixT ha hb (atD_ok h) hs
end
section
variable {α : Type} [DecidableEq T] [Datum T] [Enc T] [Calm S] (own : List (Str × Nat)) {scope : Scope} {tgt : TG} {ifs : List Expr}
/-- [x for x in xs if c] -/
theorem tp_lcf (xs : List T) (p : T → Bool) (ρb : T → Env) (hi : XI S ρ tg it (xs.map enc)) (hg : ∀ q, (S.blk scope).Ok q → PG ((S.blk scope).cx q) tg tgt) (ho : TgOwn tgt (own.map (·.2)))
    (hG : ∀ x ∈ xs, EG (S.blk scope) [] tgt (wipeE ρ (own.map (·.2))) (enc x) (ρb x)) (ht : ∀ x ∈ xs, XT (S.blk scope) (ρb x) c (p x)) (he : ∀ x ∈ xs, p x = true → TP (S.blk scope) (ρb x) elt x) (hl : xs.length ≤ 1000000) (bo : blkC S.N S.scope scope own = true := by (try dsimp only [sigOf, Sig.blk]); decide +kernel)
    (hs : ∀ (env : PySem.Env) (x : Value), foldedSetIterable it env x = pure x := by intro _ _; rfl) : TP S ρ (.ListComp elt [⟨tg, it, [c], 0⟩] scope pos) (xs.filter p) :=
  (tp_lc xs enc p (fun x => x) own ρb hi hg ho hG ht he hl bo hs).cast (by rw [List.map_id'])
theorem ts_lcf (xs : List T) (p : T → Bool) (ρb : T → Env) (i : Nat) {y : Str} {py spos : Pos} (hi : XI S ρ tg it (xs.map enc)) (hg : ∀ q, (S.blk scope).Ok q → PG ((S.blk scope).cx q) tg tgt) (ho : TgOwn tgt (own.map (·.2)))
    (hG : ∀ x ∈ xs, EG (S.blk scope) [] tgt (wipeE ρ (own.map (·.2))) (enc x) (ρb x)) (ht : ∀ x ∈ xs, XT (S.blk scope) (ρb x) c (p x)) (he : ∀ x ∈ xs, p x = true → TP (S.blk scope) (ρb x) elt x) (hl : xs.length ≤ 1000000)
    (hn : Nat.blt i ρ.length = true := by rfl) (hp : i ∉ pin := by decide) (hN : S.N[i]? = some y := by rfl) (hy : S.scope.names.lookup y = some .local := by rfl) (hsw : ∀ env : PySem.Env, swapsWith (.ListComp elt [⟨tg, it, [c], 0⟩] scope pos) (some (.Name y py)) spos.line { env with scope := S.scope } = pure true := by intro _; exact sw_true rfl rfl rfl (by decide +kernel)) (bo : blkC S.N S.scope scope own = true := by (try dsimp only [sigOf, Sig.blk]); decide +kernel)
    (hs : ∀ (env : PySem.Env) (x : Value), foldedSetIterable it env x = pure x := by intro _ _; rfl) : XS S pin ρ (.Assign [.Name y py] (.ListComp elt [⟨tg, it, [c], 0⟩] scope pos) spos) (.nx (ρ.set i (some (.fro (enc (xs.filter p)))))) :=
  (ts_lc xs enc p (fun x => x) own ρb i hi hg ho hG ht he hl hn hp hN hy hsw bo hs).cast (by rw [List.map_id'])
end
/-- a, b = e : the slots by R -/
theorem xs_un {tgt : Expr} {g : TG} {d : D} {ρ2 : Env} (hg : ∀ q, S.Ok q → PG (S.cx q) tgt g) (h : XP S ρ e (.ok d)) (he : EG S pin g ρ d ρ1) (hq : ρ1 = ρ2 := by rfl) (hs : ∀ env : PySem.Env, swapsWithSole [tgt] e pos.line env = pure false := by intro _; rfl) (hw : ∀ env : PySem.Env, swappedStores [tgt] e env = pure none := by intro _; rfl)
    (h1 : ∀ env : PySem.Env, (assignEach [tgt] env).map (·.2) = [assign tgt env] := by intro _; rfl) : XS S pin ρ (.Assign [tgt] e pos) (.nx ρ2) := by
  subst hq
  exact xs_unpack hg h he hs hw h1
theorem xs_unC {tgt : Expr} {g : TG} {d : D} {ρ2 : Env} (hg : ∀ q, S.Ok q → PG (S.cx q) tgt g) (h : XP S ρ e (.ok d)) (he : EG S pin g ρ d ρ1) (hq : ρ1 = ρ2 := by rfl) (hs : ∀ env : PySem.Env, swapsWithSole [tgt] e pos.line { env with scope := S.scope } = pure false := by intro _; rfl) (hw : ∀ env : PySem.Env, swappedStores [tgt] e { env with scope := S.scope } = pure none := by intro _; rfl)
    (h1 : ∀ env : PySem.Env, (assignEach [tgt] env).map (·.2) = [assign tgt env] := by intro _; rfl) : XS S pin ρ (.Assign [tgt] e pos) (.nx ρ2) := by
  subst hq
  obtain ⟨t, a1, a2⟩ := h
  refine ⟨_, fun q ok => ps_asg (a1 q ok) (hg q ok) (hs _) (hw _) (h1 _), fun σ F H A D w n q => a2 σ F H A _ w n fun v F1 H1 g1 r => he σ F1 H1 A v _ (g1.wf w) (g1.envs n) r fun σ' A' w' m n' p => ?_⟩
  exact q σ' F1 H1 A' w' ((g1.stp.mono (by simp) (A' := A)).more (C := A) (fun a h => .inl h) |>.perm (fun a => Iff.rfl) fun a h => List.mem_append_right _ (m a h)) n' p
theorem xs_sF [DecidableEq T] [Datum T] [Enc T] {v : T} {ρ2 : Env} (i : Nat) {x : Str} {p' : Pos} (h : TP S ρ e v) (hq : ρ.set i (fv v) = ρ2 := by rfl) (hi : Nat.blt i ρ.length = true := by rfl) (hp : i ∉ pin := by decide) (hN : S.N[i]? = some x := by rfl) (hx : Loc S.scope x := by first | exact .inl rfl | exact .inr rfl) (hst : S.st x = true ∨ S.scope.names.lookup x = some .local := by first | exact .inl rfl | exact .inr rfl)
    (hs : ∀ env : PySem.Env, swapsWith e (some (.Name x p')) pos.line { env with scope := S.scope } = pure false := by intro _; rfl) : XS S pin ρ (.Assign [.Name x p'] e pos) (.nx ρ2) := by
  subst hq
  exact xs_setF i h hi hp hN hx hst hs
/-- x = [] | [..], owned -/
theorem xs_sO [DecidableEq T] [Datum T] [Enc T] {v : List T} {ρ2 : Env} (i : Nat) {x : Str} {p' : Pos} (h : XA S ρ es (v.map enc)) (hl : v.length ≤ 1000000) (hq : ρ.set i (ov v) = ρ2 := by rfl) (hi : Nat.blt i ρ.length = true := by rfl) (hp : i ∉ pin := by decide) (hN : S.N[i]? = some x := by rfl) (hx : Loc S.scope x := by first | exact .inl rfl | exact .inr rfl) (hst : S.st x = true ∨ S.scope.names.lookup x = some .local := by first | exact .inl rfl | exact .inr rfl)
    (hs : ∀ env : PySem.Env, swapsWith (.List es p2) (some (.Name x p')) pos.line { env with scope := S.scope } = pure false := by intro _; rfl) : XS S pin ρ (.Assign [.Name x p'] (.List es p2) pos) (.nx ρ2) := by
  subst hq
  exact xs_set i (xx_lst h (by simpa using hl)) hi hp hN hx hst hs
/-- some slots are forgotten ahead -/
theorem xb_drop (is : List Nat) {r : RS} {ρ2 : Env} (h : XB S pin ρ2 ss r) (hq : is.foldl (fun r i => r.set i none) ρ = ρ2 := by rfl) : XB S pin ρ ss r := by
  have one : ∀ (i : Nat) (ρ : Env), XB S pin (ρ.set i none) ss r → XB S pin ρ ss r := fun i ρ h => by
    obtain ⟨t, h1, h2⟩ := h
    refine ⟨t, h1, fun σ F H A D w n q => ?_⟩
    obtain ⟨B, A2, n2, p2⟩ := n.drop i
    exact h2 σ F H A2 D (w.perm p2).right n2 (q.trans (Stp.refl.perm (fun _ => Iff.rfl) fun a h => p2.mem_iff.mpr (List.mem_append_right _ h)) Pin.refl)
  have all : ∀ (is : List Nat) (ρ : Env), XB S pin (is.foldl (fun r i => r.set i none) ρ) ss r → XB S pin ρ ss r := by
    intro is
    induction is with
    | nil => intro ρ h; exact h
    | cons i is ih => intro ρ h; exact one i ρ (ih _ h)
  subst hq
  exact all is ρ h
/-- a loop within a loop -/
def LO.thn {σ σ' β : Type} (r : LO σ β) (k : σ → LO σ' β) : LO σ' β := match r with
  | .nx s => k s
  | .bk s => k s
  | .rt b => .rt b
theorem xb_feL [Calm S] {σ' β : Type} {R' : σ' → Env} {fr : β → RS} (hfr : ∀ b, Term (fr b)) {α σ : Type} (xs : List α) (g : α → D) (R : σ → Env) {f : σ → α → LO σ β} (I : Nat → σ → Prop) {tgt : TG} (ρb : σ → α → Env) {s0 : σ} {m : σ → LO σ' β}
    (hi : XI S ρ tg it (xs.map g)) (hg : ∀ q, S.Ok q → PG (S.cx q) tg tgt) (hG : ∀ s x, EG S pin tgt (R s) (g x) (ρb s x)) (h0 : I 0 s0)
    (hI : ∀ i s x s', xs[i]? = some x → I i s → f s x = .nx s' → I (i + 1) s')
    (hb : ∀ i s x, xs[i]? = some x → I i s → XB S pin (ρb s x) body (fL R fr (f s x)))
    (hk : ∀ w, forL f xs s0 = .nx w → XB S pin (R w) ss (fL R' fr (m w))) (hq : ρ = R s0 := by rfl)
    (hs : ∀ (env : PySem.Env) (x : Value), foldedSetIterable it env x = pure x := by intro _ _; rfl) : XB S pin ρ (.For tg it body [] pos :: ss) (fL R' fr ((forL f xs s0).thn m)) := by
  subst hq
  have h := xs_for (pos := pos) xs g R f fr I ρb s0 hi hg hG h0 hfr (fun i s x hx h => ⟨hb i s x hx h, fun s' e => hI i s x s' hx h e⟩) hs
  cases e : forL f xs s0 with
  | nx w =>
    rw [e] at h
    exact xb_cons h (hk w e)
  | bk w =>
    have nb : ∀ (xs : List α) (s : σ), forL f xs s ≠ .bk w := by
      intro xs
      induction xs with
      | nil => intro s z; cases z
      | cons x xs ih =>
        intro s z
        unfold forL at z
        cases ef : f s x with
        | nx s1 => rw [ef] at z; exact ih s1 z
        | bk s1 => rw [ef] at z; cases z
        | rt b => rw [ef] at z; cases z
    exact absurd e (nb xs s0)
  | rt b =>
    rw [e] at h
    exact xb_stop h (hfr b).ne
/-- a, b = x, y -/
theorem xs_par [Calm S] {T' : Type} [DecidableEq T] [Datum T] [Enc T] [DecidableEq T'] [Datum T'] [Enc T'] {u : T} {v : T'} {ρ2 : Env} (i j : Nat) {x y : Str} {px py pt pt2 : Pos} {kt k2 : Nat} (ha : TP S ρ a u) (hb : TP S ρ b v) (hq : (ρ.set i (fv u)).set j (fv v) = ρ2 := by rfl) (hi : Nat.blt i ρ.length = true := by rfl) (hj : Nat.blt j ρ.length = true := by rfl) (hp : i ∉ pin := by decide) (hp2 : j ∉ pin := by decide) (hN : S.N[i]? = some x := by rfl) (hN2 : S.N[j]? = some y := by rfl) (hij : i ≠ j := by decide)
    (hx : S.scope.names.lookup x = some .local := by rfl) (hy : S.scope.names.lookup y = some .local := by rfl) (he : ∀ env : PySem.Env, starEach [a, b] env = (false, eval a env) :: starEach [b] env := by intro _; rfl) (he2 : ∀ env : PySem.Env, starEach [b] env = (false, eval b env) :: starEach [] env := by intro _; rfl)
    (hw : ∀ env : PySem.Env, swappedStores [.Tuple [.Name x px, .Name y py] kt pt] (.Tuple [a, b] k2 pt2) { env with scope := S.scope } = pure (some [x, y]) := by intro _; rfl)
    (hs : ∀ env : PySem.Env, swapsWithSole [.Tuple [.Name x px, .Name y py] kt pt] (.Tuple [a, b] k2 pt2) pos.line { env with scope := S.scope } = pure false := by intro _; rfl) : XS S pin ρ (.Assign [.Tuple [.Name x px, .Name y py] kt pt] (.Tuple [a, b] k2 pt2) pos) (.nx ρ2) := by
  subst hq
  obtain ⟨t, a1, a2⟩ := xa_cons ha (xa_cons hb xa_nil he2) he
  refine ⟨_, fun q ok => ps_par (X := S.cx q) Calm.h ok.nd hN hN2 hij hx hy (a1 q ok) (hw _) (hs _), fun σ F H A D w n q => a2 σ F H A _ w n fun vs F1 H1 g r => ?_⟩
  obtain ⟨v1, v2, rfl, r1, r2⟩ := reps2 r
  have w1 := g.wf w
  obtain ⟨A2, n2, w2, m2⟩ := (g.envs n).store (B := []) (.fro r1) (Nat.le_of_ble_eq_true hi) w1
  obtain ⟨A3, n3, w3, m3⟩ := n2.store (B := []) (.fro r2) (by rw [List.length_set]; exact Nat.le_of_ble_eq_true hj) w2
  exact ⟨v1, v2, rfl, q _ F1 H1 A3 w3 (((g.stp.mono (by simp) (A' := A)).more (C := A) fun a h => .inl h).perm (fun _ => Iff.rfl) fun a h => by simpa using m2 a (by simpa using m3 a h)) n3 ((Pin.set hp).trans (Pin.set hp2))⟩
/-- freeze -/
theorem xb_fz [DecidableEq T] [Datum T] [Enc T] (i : Nat) {r : RS} {v : List T} {ρ2 : Env} (hρ : ρ[i]? = some (ov v)) (h : XB S pin ρ2 ss r) (hq : ρ.set i (fv v) = ρ2 := by rfl) : XB S pin ρ ss r := by
  subst hq
  refine xb_freeze i hρ ?_
  rw [oL_d]
  exact h
theorem tp_len2 {T' : Type} [DecidableEq T] [Datum T] [Enc T] [DecidableEq T'] [Datum T'] [Enc T'] {x : T × T'} (hm : S.mg "len" = none) (h : TV S ρ a x) (hg : S.scope.names.lookup ("len" : Str) = some .globalImplicit := by rfl) (he : ∀ env : PySem.Env, starEach [a] env = (false, eval a env) :: starEach [] env := by intro _; rfl) : TP S ρ (.Call (.Name "len" p2) [a] [] pos) (2 : Int) :=
  xp_cb (p := p2) (pos := pos) (cb_len_tup (S := S) (ds := [enc x.1, enc x.2])) hm (xav_cons h xav_nil he) hg (by decide +kernel) (by decide) (by decide) he (by intro _; rfl)
theorem tp_len3 {T' T'' : Type} [DecidableEq T] [Datum T] [Enc T] [DecidableEq T'] [Datum T'] [Enc T'] [DecidableEq T''] [Datum T''] [Enc T''] {x : T3 T T' T''} (hm : S.mg "len" = none) (h : TV S ρ a x) (hg : S.scope.names.lookup ("len" : Str) = some .globalImplicit := by rfl) (he : ∀ env : PySem.Env, starEach [a] env = (false, eval a env) :: starEach [] env := by intro _; rfl) : TP S ρ (.Call (.Name "len" p2) [a] [] pos) (3 : Int) :=
  xp_cb (p := p2) (pos := pos) (cb_len_tup (S := S) (ds := [enc x.a, enc x.b, enc x.c])) hm (xav_cons h xav_nil he) hg (by decide +kernel) (by decide) (by decide) he (by intro _; rfl)
theorem walk_zipT {K : PySem.W.Frag} {a b : Addr} {xs ys : List V} {n : Nat} (hn : n = min xs.length ys.length) : Walk (RZ.ItzT K a b) n (fun H => SqT K H a xs ∧ SqT K H b ys) (YPair (fun i => xs[i]?) (fun i => ys[i]?)) := by
  subst hn
  refine ⟨fun i _ hi q => ?_, fun _ q => ⟨xs, ys, q.1, q.2, by omega⟩, fun i H v H' _ q y => ?_⟩
  · have h1 : i < xs.length := by omega
    have h2 : i < ys.length := by omega
    exact ⟨xs, ys, xs[i], ys[i], q.1, q.2, by simp [h1], by simp [h2]⟩
  · obtain ⟨T, x, z, h1, h2, h3, h4, h5⟩ := y
    exact ⟨T, x, z, h1, h2, h3, h4 xs q.1, h5 ys q.2⟩
theorem xi_zpT {T' : Type} [DecidableEq T] [Datum T] [Enc T] [DecidableEq T'] [Datum T'] [Enc T'] {elts : List Expr} {kk : Nat} {tpos : Pos} {xs : Tup T} {ys : Tup T'} (hm : S.mg "zip" = none) (h : TP S ρ a xs) (h' : TP S ρ b ys) (hg : S.scope.names.lookup ("zip" : Str) = some .globalImplicit := by rfl)
    (hs : ∀ env : PySem.Env, starEach [a, b] env = (false, eval a env) :: starEach [b] env := by intro _; rfl) (hs2 : ∀ env : PySem.Env, starEach [b] env = (false, eval b env) :: starEach [] env := by intro _; rfl) (hpl : ∀ env : PySem.Env, (backTo pos (starEach [b] env)).any (·.1) = false := by intro _; rfl) :
    XI S ρ (.Tuple elts kk tpos) (.Call (.Name "zip" p2) [a, b] [] pos) ((xs.items.zip ys.items).map enc) := by
  obtain ⟨t, h1, h2⟩ := xa_cons h (xa_cons h' xa_nil hs2) hs
  refine ⟨RZ.iZipA S.K t, fun q ok => RZ.pi_zipA (X := S.cx q) (show S.scope.names.lookup ("zip" : Str) = some .globalImplicit from hg) hm (h1 q ok) (hs _) (hpl _), fun σ F H A R w n k => h2 σ F H A _ w n fun vs F1 H1 g rr => ?_⟩
  obtain ⟨v, u, rfl, r, r2⟩ := reps2 rr
  cases r with
  | tup hl r =>
    cases r2 with
    | tup hl2 r2 =>
      have len := r.length
      have len2 := r2.length
      rw [List.length_map] at len len2
      refine ⟨_, _, _, _, rfl, .inr ⟨.of (g.ext _ _ hl), .of (g.ext _ _ hl2), k _ F1 H1 g (src_pair (n := min xs.items.length ys.items.length) (by simp) (walk_zipT (by rw [len, len2])) (fun H2 e => ⟨.of (e _ _ hl), .of (e _ _ hl2)⟩) fun i u v hi hu hv => ?_)⟩⟩
      obtain ⟨d, e1, e2⟩ := r.get' hu
      obtain ⟨d', e1', e2'⟩ := r2.get' hv
      rw [List.getElem?_map] at e1 e1'
      cases z : xs.items[i]? with
      | none => rw [z] at e1; cases e1
      | some y =>
        rw [z] at e1
        cases e1
        cases z' : ys.items[i]? with
        | none => rw [z'] at e1'; cases e1'
        | some y' =>
          rw [z'] at e1'
          cases e1'
          exact ⟨_, _, by rw [List.getElem?_map, (List.getElem?_zip_eq_some (z := (y, y'))).mpr ⟨z, z'⟩]; rfl, e2, e2'⟩
/-! ### more expressions -/
section
variable [DecidableEq T] [Datum T] [Enc T] {u v : T}
theorem tv_own {xs : List T} (i : Nat) {x : Str} (hρ : ρ[i]? = some (ov xs) := by rfl) (hN : S.N[i]? = some x := by rfl) (hv : Vis S.scope x := by first | exact Or.inl rfl | exact Or.inr (Or.inl rfl) | exact Or.inr (Or.inr rfl))
    (hd : (x == ("__debug__" : Str)) = false := by decide) (hcd : (x == ("__classdict__" : Str)) = false := by decide) : TV S ρ (.Name x pos) xs := by
  have := xv_var (S := S) (pos := pos) i hρ hN hv hd hcd
  rw [oL_d] at this
  exact this
theorem xi_en {elts : List Expr} {kk : Nat} {tpos : Pos} {xs : List T} (hm : S.mg "enumerate" = none) (h : TP S ρ a xs) (hg : S.scope.names.lookup ("enumerate" : Str) = some .globalImplicit := by rfl) (hs : ∀ env : PySem.Env, starEach [a] env = [(false, eval a env)] := by intro _; rfl) :
    XI S ρ (.Tuple elts kk tpos) (.Call (.Name "enumerate" p2) [a] [] pos) ((enumL xs).map enc) := xi_enum (f := enc) hm h hg hs
theorem xi_zp {T' : Type} [DecidableEq T'] [Datum T'] [Enc T'] {elts : List Expr} {kk : Nat} {tpos : Pos} {xs : List T} {ys : List T'} (hm : S.mg "zip" = none) (h : TP S ρ a xs) (h' : TP S ρ b ys) (hg : S.scope.names.lookup ("zip" : Str) = some .globalImplicit := by rfl)
    (hs : ∀ env : PySem.Env, starEach [a, b] env = (false, eval a env) :: starEach [b] env := by intro _; rfl) (hs2 : ∀ env : PySem.Env, starEach [b] env = (false, eval b env) :: starEach [] env := by intro _; rfl) (hpl : ∀ env : PySem.Env, (backTo pos (starEach [b] env)).any (·.1) = false := by intro _; rfl) :
    XI S ρ (.Tuple elts kk tpos) (.Call (.Name "zip" p2) [a, b] [] pos) ((xs.zip ys).map enc) := xi_zip (f := enc) (f' := enc) hm h h' hg hs hs2 hpl
theorem xi_p2 {p : T × T} (h : TP S ρ it p) : XI S ρ tg it ([p.1, p.2].map enc) := xi_tup h
theorem tp_lenT {x : Tup T} (hm : S.mg "len" = none) (h : TV S ρ a x) (hg : S.scope.names.lookup ("len" : Str) = some .globalImplicit := by rfl) (he : ∀ env : PySem.Env, starEach [a] env = (false, eval a env) :: starEach [] env := by intro _; rfl) : TP S ρ (.Call (.Name "len" p2) [a] [] pos) ((x.items.length : Nat) : Int) := by
  have := xp_cb (p := p2) (pos := pos) (cb_len_tup (S := S) (ds := x.items.map enc)) hm (xav_cons h xav_nil he) hg (by decide +kernel) (by decide) (by decide) he (by intro _; rfl)
  rw [List.length_map] at this
  exact this
theorem tp_lstL {x : List T} (hm : S.mg "list" = none) (h : TP S ρ a x) (hg : S.scope.names.lookup ("list" : Str) = some .globalImplicit := by rfl) (he : ∀ env : PySem.Env, starEach [a] env = (false, eval a env) :: starEach [] env := by intro _; rfl) : TP S ρ (.Call (.Name "list" p2) [a] [] pos) x :=
  xp_ct (p := p2) (pos := pos) (ct_list_lst (S := S)) hm (xa_cons h xa_nil he) hg (by decide +kernel) (by decide) (by decide) he (by intro _; rfl)
theorem tp_lstT {x : Tup T} (hm : S.mg "list" = none) (h : TP S ρ a x) (hg : S.scope.names.lookup ("list" : Str) = some .globalImplicit := by rfl) (he : ∀ env : PySem.Env, starEach [a] env = (false, eval a env) :: starEach [] env := by intro _; rfl) : TP S ρ (.Call (.Name "list" p2) [a] [] pos) x.items :=
  xp_ct (p := p2) (pos := pos) (ct_list_tup (S := S)) hm (xa_cons h xa_nil he) hg (by decide +kernel) (by decide) (by decide) he (by intro _; rfl)
end
section
variable [DecidableEq T] [DatumOrd T] [Enc T] {u v : T}
theorem tt_ltD (ha : TP S ρ a u) (hb : TP S ρ b v) (hd : Datum.depth T ≤ 64 := by decide) : XT S ρ (.Compare a [.Lt] [b] pos) (DatumOrd.lt u v) := xt_cmp (oc_ltD hd) ha.v hb.v
theorem tt_gtD (ha : TP S ρ a u) (hb : TP S ρ b v) (hd : Datum.depth T ≤ 64 := by decide) : XT S ρ (.Compare a [.Gt] [b] pos) (DatumOrd.lt v u) := xt_cmp (oc_gtD hd) ha.v hb.v
theorem tp_ltD (ha : TP S ρ a u) (hb : TP S ρ b v) (hd : Datum.depth T ≤ 64 := by decide) : TP S ρ (.Compare a [.Lt] [b] pos) (DatumOrd.lt u v) := xp_cmp (oc_ltD hd) ha.v hb.v
theorem tp_gtD (ha : TP S ρ a u) (hb : TP S ρ b v) (hd : Datum.depth T ≤ 64 := by decide) : TP S ρ (.Compare a [.Gt] [b] pos) (DatumOrd.lt v u) := xp_cmp (oc_gtD hd) ha.v hb.v
end
theorem tp_sum [Calm S] {xs : List Int} (hm : S.mg "sum" = none) (h : TP S ρ a xs) (hg : S.scope.names.lookup ("sum" : Str) = some .globalImplicit := by rfl) (he : ∀ env : PySem.Env, starEach [a] env = (false, eval a env) :: starEach [] env := by intro _; rfl) : TP S ρ (.Call (.Name "sum" p2) [a] [] pos) xs.sum :=
  xp_cb (p := p2) (pos := pos) (cb_sum (S := S)) hm (xav_cons h.v xav_nil he) hg (by decide +kernel) (by decide) (by decide) he (by intro _; rfl)
theorem xp_gint {i : Int} {x : Str} (h : ∃ t, S.mg x = some (.int i t)) (hg : S.scope.names.lookup x = some .globalImplicit := by rfl) (hd : (x == ("__debug__" : Str)) = false := by decide) : TP S ρ (.Name x pos) i := by
  obtain ⟨t, h⟩ := h
  exact xp_glob (v := .int i) h ⟨t, rfl⟩ (fun _ => .int) hg hd
def minI (i j : Int) : Int := if j < i then j else i
def maxI (i j : Int) : Int := if j > i then j else i
def absI (i : Int) : Int := if i < 0 then -i else i
end
end G

namespace G
open PySem PySem.Spec PyProof.Rows L2
open PySem.W (Datum DatumOrd Tup T3 EachIs)
open Enc (enc)
section
variable {S : Sig} {ρ ρ1 : Env} {a b c e : Expr} {pos p2 p3 pos2 p' : Pos} {pin : List Nat}
/-! ### len(set(..)) of few cells -/
def rLenSet (P : Program) (w : World) : List V → Hp → VK → Prop := fun vs H Q => ∃ (a : Addr) (L : List (Addr × List Int)), vs = [V.ref a] ∧ H a = some (SetTO P w a L) ∧ ((L.map (·.2)).Nodup → Q (.int (L.length : Nat)) H)
theorem cr_lenSet {X : Cx} : CallR X (.builtin "len") (rLenSet X.prog X.w) := by
  intro pins s σ H vs us Q I r h
  obtain ⟨a, L, rfl, ha, q⟩ := h
  obtain ⟨u, rfl, ru⟩ := vals1 r
  obtain rfl : u = Value.ref a := ru
  have R : SetT0 X.prog X.w s.heap a L := (I.hok a _ ha).1
  obtain ⟨es, ep, t, ⟨o, h1, hex, hd⟩, hr, tab, nd, h5, h6, h7, h8⟩ := R.ex
  have hsz : es.size = L.length := by
    have h := congrArg List.length hr
    unfold rowsOf at h
    rw [Array.length_toList, List.length_map] at h
    exact h
  have hf : t.fits es.size = true := by
    have h1 := tab.sz
    rw [List.length_map] at h1
    unfold SetTable.fits SetTable.fill
    rw [tab.dm, Bool.and_eq_true, beq_iff_eq, decide_eq_true_eq]
    show t.place.size = es.size ∧ t.place.size + 0 ≤ t.mask
    omega
  refine call_len_set h1 hex hd hf (by rw [hsz]; omega) ⟨.int (L.length : Nat), H, (I.kept (t' := s.toks + 1 + 1) fun _ _ z => z), ⟨_, by rw [hsz]⟩, q nd⟩
theorem nub_len {T : Type} [DecidableEq T] {xs ys : List T} (n : ys.Nodup) (m : ∀ v, v ∈ ys ↔ v ∈ xs) : ys.length = (nub xs).length :=
  ((List.perm_ext_iff_of_nodup n (nodup_nub xs)).mpr fun v => by rw [m, mem_nub]).length_eq
theorem tp_lenSet [Calm S] {xs : List Cell} (hm : S.mg "len" = none) (hm2 : S.mg "set" = none) (h : TP S ρ a xs) (hl : xs.length < 64) (hg : S.scope.names.lookup ("len" : Str) = some .globalImplicit := by rfl) (hg2 : S.scope.names.lookup ("set" : Str) = some .globalImplicit := by rfl) (he : ∀ env : PySem.Env, starEach [a] env = (false, eval a env) :: starEach [] env := by intro _; rfl) :
    TP S ρ (.Call (.Name "len" p2) [.Call (.Name "set" p3) [a] [] pos2] [] pos) (((nub xs).length : Nat) : Int) := by
  obtain ⟨t, h1, h2⟩ := h
  refine ⟨tCB (rLenSet S.P S.w) (tCons (tCB (rSetOfT S.K S.P S.w) (tCons t tNil)) tNil), fun q ok => ?_, fun σ F H A Q w n qq => ?_⟩
  · have hu : (S.cx q).A.units + 64 < cLine := by have := ok.room.un; show q.A.units + 64 < cLine; omega
    exact pe_callB (X := S.cx q) (cr_lenSet (X := S.cx q)) (show S.scope.names.lookup _ = some .globalImplicit from hg) hm (by decide +kernel) (pa_cons (pe_callTy (X := S.cx q) (cr_setOfT (X := S.cx q) Calm.h hu) (show S.scope.names.lookup _ = some .globalImplicit from hg2) hm2 (by decide +kernel) (pa_cons (h1 q ok) pa_nil (he _)) (by decide) (by decide) (he _) (by rfl)) pa_nil) (by decide) (by decide) (by rfl) (by rfl)
  · refine h2 σ F H A _ w n fun v F1 H1 g r => ?_
    cases r with
    | lst hv r =>
      rename_i l vs
      obtain ⟨ks, e1, e2, e3⟩ := cells_ks r
      subst e1
      have len : ks.length = xs.length := by simpa using congrArg List.length e3
      refine ⟨l, ks, rfl, .of (g.ext _ _ hv), fun p hp => .of (g.ext _ _ (e2 p hp)), by omega, fun s L hs hL hK => ?_⟩
      have g2 := g.trans (Grow.side (o := SetTO S.P S.w s L) g.ext hs)
      refine ⟨s, L, rfl, upd_same, fun nd => ?_⟩
      have inL : ∀ q ∈ L, ∃ c ∈ xs, q.2 = [c.1, c.2] := fun q hq => by
        have : q.2 ∈ ks.map (·.2) := List.mem_map.mpr ⟨q, hL q hq, rfl⟩
        rw [e3] at this
        obtain ⟨c, hc, e⟩ := List.mem_map.mp this
        exact ⟨c, hc, e.symm⟩
      have e4 : L.length = (nub xs).length := by
        have := nub_len (xs := xs) (ys := L.map fun q => cel q.2) ?_ fun v => ?_
        · simpa using this
        · refine List.pairwise_map.mpr ((List.pairwise_iff_forall_sublist.mpr fun {q r} hs e => ?_))
          obtain ⟨c, hc, ec⟩ := inL q (hs.subset (by simp))
          obtain ⟨d, hd, ed⟩ := inL r (hs.subset (by simp))
          have c2 := List.pairwise_iff_forall_sublist.mp (List.pairwise_map.mp nd) hs
          rw [ec, ed] at e c2
          have e' : c = d := e
          exact c2 (by rw [e'])
        · rw [List.mem_map]
          constructor
          · rintro ⟨q, hq, rfl⟩
            obtain ⟨c, hc, ec⟩ := inL q hq
            rw [ec]; exact hc
          · intro hv
            have : [v.1, v.2] ∈ ks.map (·.2) := by rw [e3]; exact List.mem_map.mpr ⟨v, hv, rfl⟩
            obtain ⟨p', hp', e'⟩ := List.mem_map.mp this
            obtain ⟨q, hq, eq⟩ := List.mem_map.mp (hK p' hp')
            refine ⟨q, hq, ?_⟩
            show cel q.2 = v
            have eq' : q.2 = p'.2 := eq
            rw [eq', e']; rfl
      rw [e4]
      exact qq _ _ _ g2 .int
/-- xs[::-1] -/
theorem tp_rev {T : Type} [DecidableEq T] [Datum T] [Enc T] {xs : List T} {k : Nat} (h : TP S ρ a xs) : TP S ρ (.Subscript a (.Slice none none (some (.UnaryOp .USub (.Constant (.int 1) k p2) p3)) pos2) pos) xs.reverse := by
  obtain ⟨t, h1, h2⟩ := h
  refine ⟨tRevL S.K t, fun q ok => pe_revL (h1 q ok), fun σ F H A Q w n q => h2 σ F H A _ w n fun v F1 H1 g r => ?_⟩
  cases r with
  | lst hv r =>
    refine ⟨_, _, rfl, .of (g.ext _ _ hv), fun p hp => q _ _ _ (g.trans (Grow.new g.ext hp)) ?_⟩
    have := r.reverse
    rw [← List.map_reverse] at this
    exact .lst upd_same (reps_new g.ext hp this)
/-- y = [..], owned -/
theorem ts_lcmO {α T : Type} [DecidableEq T] [Datum T] [Enc T] [Calm S] {it tg elt : Expr} (xs : List α) (g : α → D) (f : α → T) (own : List (Str × Nat)) {scope : Scope} {tgt : TG} (ρb : α → Env) (i : Nat) {y : Str} {py spos : Pos} (hi : XI S ρ tg it (xs.map g)) (hg : ∀ q, (S.blk scope).Ok q → PG ((S.blk scope).cx q) tg tgt) (ho : TgOwn tgt (own.map (·.2)))
    (hG : ∀ x ∈ xs, EG (S.blk scope) [] tgt (wipeE ρ (own.map (·.2))) (g x) (ρb x)) (he : ∀ x ∈ xs, TP (S.blk scope) (ρb x) elt (f x)) (hl : xs.length ≤ 1000000)
    (hn : Nat.blt i ρ.length = true := by rfl) (hp : i ∉ pin := by decide) (hN : S.N[i]? = some y := by rfl) (hy : S.scope.names.lookup y = some .local := by rfl) (hsw : ∀ env : PySem.Env, swapsWith (.ListComp elt [⟨tg, it, [], 0⟩] scope pos) (some (.Name y py)) spos.line { env with scope := S.scope } = pure true := by intro _; exact sw_true rfl rfl rfl (by decide +kernel)) (bo : blkC S.N S.scope scope own = true := by (try dsimp only [sigOf, Sig.blk]); decide +kernel)
    (hs : ∀ (env : PySem.Env) (x : Value), foldedSetIterable it env x = pure x := by intro _ _; rfl) : XS S pin ρ (.Assign [.Name y py] (.ListComp elt [⟨tg, it, [], 0⟩] scope pos) spos) (.nx (ρ.set i (ov (xs.map f)))) :=
  (ps_lcO xs g (fun _ => true) (fun x => enc (f x)) own ρb i hi hg ho hG (fun x hx => xts_nil) (fun x hx _ => he x hx) hl hn hp hN hy hsw bo hs).cast (by rw [map_enc, List.filter_eq_self.mpr (by simp)]; rfl)
/-! ### if c: .., that may end the def, or go on -/
theorem xb_im {U σ : Type} {ss body : List Stmt} (fr : U → RS) (hfr : ∀ b, Term (fr b)) (R : σ → Env) {k : Bool} {A : LO σ U} {s2 : σ} {m : σ → U} (hA : ∀ w, A ≠ .bk w) (hc : XT S ρ c k) (ha : k = true → XB S pin ρ body (fL R fr A)) (hb : k = false → ρ = R s2)
    (hk : ∀ w, (if k = true then A else LO.nx s2) = .nx w → XB S pin (R w) ss (fr (m w))) : XB S pin ρ (.If c body [] pos :: ss) (fr ((if k = true then A else LO.nx s2).fin m)) := by
  cases k with
  | false =>
    have h := hk s2 rfl
    rw [← hb rfl] at h
    exact xb_cons (xs_if hc (fun z => nomatch z) fun _ => xb_nil) h
  | true =>
    have h := ha rfl
    cases A with
    | nx w => exact xb_cons (xs_if hc (fun _ => h) fun z => nomatch z) (hk w rfl)
    | bk w => exact absurd rfl (hA w)
    | rt b => exact xb_stop (xs_if hc (fun _ => h) fun z => nomatch z) (hfr b).ne
theorem xb_imL {β σ σ' : Type} {ss body : List Stmt} {R' : σ' → Env} {fr : β → RS} (hfr : ∀ b, Term (fr b)) (R : σ → Env) {k : Bool} {A : LO σ β} {s2 : σ} {m : σ → LO σ' β} (hA : ∀ w, A ≠ .bk w) (hc : XT S ρ c k) (ha : k = true → XB S pin ρ body (fL R fr A)) (hb : k = false → ρ = R s2)
    (hk : ∀ w, (if k = true then A else LO.nx s2) = .nx w → XB S pin (R w) ss (fL R' fr (m w))) : XB S pin ρ (.If c body [] pos :: ss) (fL R' fr ((if k = true then A else LO.nx s2).thn m)) := by
  cases k with
  | false =>
    have h := hk s2 rfl
    rw [← hb rfl] at h
    exact xb_cons (xs_if hc (fun z => nomatch z) fun _ => xb_nil) h
  | true =>
    have h := ha rfl
    cases A with
    | nx w => exact xb_cons (xs_if hc (fun _ => h) fun z => nomatch z) (hk w rfl)
    | bk w => exact absurd rfl (hA w)
    | rt b => exact xb_stop (xs_if hc (fun _ => h) fun z => nomatch z) (hfr b).ne
end
instance {α β γ : Type} [Inhabited α] [Inhabited β] [Inhabited γ] : Inhabited (T3 α β γ) := ⟨⟨default, default, default⟩⟩
instance {α : Type} : Inhabited (Tup α) := ⟨⟨[]⟩⟩
def okv {T : Type} [Inhabited T] (r : Except Str T) : T := match r with
  | .ok v => v
  | .error _ => default
theorem okF {T : Type} [DecidableEq T] [Datum T] [Enc T] [Inhabited T] {r : Except Str T} {w : T} (h : r = .ok w) : oE oF r = oF (okv r) := by rw [h]; rfl
theorem okv_eq {T : Type} [Inhabited T] {r : Except Str T} {w : T} (h : r = .ok w) : okv r = w := by rw [h]; rfl
end G

namespace G
open PySem PySem.Spec PyProof.Rows L2
open PySem.W (Datum DatumOrd Tup T3 EachIs)
open Enc (enc)
instance Calm.blk2 {S : Sig} {a b : Scope} [Calm S] : Calm ((S.blk a).blk b) := ⟨(Calm.h : S.calm = true)⟩
section
variable {S : Sig} {ρ ρ1 : Env} {a b c e : Expr} {pos p2 p3 pos2 p' : Pos} {pin : List Nat}
/-! ### a thing, or None -/
variable {T : Type} [DecidableEq T] [Datum T] [Enc T] [PySem.W.SomeDatum T]
theorem rep_some {K : PySem.W.Frag} {F : Hp} {v : V} {x : T} (h : Rep K F v (enc x)) : v ≠ .non := by
  rintro rfl
  have d := Enc.dp K F .non x h
  generalize e : Datum.toD x = z at d
  cases d
  have := PySem.W.SomeDatum.left x
  rw [e] at this
  simp [PyData.eqv] at this
theorem is_opt {K : PySem.W.Frag} (o : Option T) : ∀ v F, Rep K F v (enc o) → decide (v = .non) = o.isNone := fun v F h => by
  cases o with
  | none => cases h; rfl
  | some x => exact decide_eq_false (rep_some (x := x) h)
theorem te_isn {o : Option T} (ha : TP S ρ a o) {k : Nat} (hm : behindInMarks .Is (.Constant .none k p2) = false := by first | exact nomark _ | rfl) : XT S ρ (.Compare a [.Is] [.Constant .none k p2] pos) o.isNone := xt_cmp (oc_isN _ (is_opt o)) (XP.v ha) (XP.v xp_non) hm
theorem tv_isn {o : Option T} (ha : TP S ρ a o) {k : Nat} (hm : behindInMarks .Is (.Constant .none k p2) = false := by first | exact nomark _ | rfl) : TP S ρ (.Compare a [.Is] [.Constant .none k p2] pos) o.isNone := xp_cmp (oc_isN _ (is_opt o)) (XP.v ha) (XP.v xp_non) hm
theorem te_isnn {o : Option T} (ha : TP S ρ a o) {k : Nat} (hm : behindInMarks .IsNot (.Constant .none k p2) = false := by first | exact nomark _ | rfl) : XT S ρ (.Compare a [.IsNot] [.Constant .none k p2] pos) (!o.isNone) := xt_cmp (oc_isnN _ (is_opt o)) (XP.v ha) (XP.v xp_non) hm
theorem tv_isnn {o : Option T} (ha : TP S ρ a o) {k : Nat} (hm : behindInMarks .IsNot (.Constant .none k p2) = false := by first | exact nomark _ | rfl) : TP S ρ (.Compare a [.IsNot] [.Constant .none k p2] pos) (!o.isNone) := xp_cmp (oc_isnN _ (is_opt o)) (XP.v ha) (XP.v xp_non) hm
def unO {T : Type} [Inhabited T] (o : Option T) : T := o.getD default
theorem unO_eq {T : Type} [Inhabited T] {o : Option T} (h : o ≠ none) : o = some (unO o) := by
  cases o with
  | none => exact absurd rfl h
  | some x => rfl
theorem tp_unO [Inhabited T] {o : Option T} (ha : TP S ρ a o) (h : o ≠ none) : TP S ρ a (unO o) := by
  cases o with
  | none => exact absurd rfl h
  | some x => exact ha
theorem tp_some {x : T} (ha : TP S ρ a x) : TP S ρ a (some x) := ha
end
section
variable {S : Sig} {ρ ρ1 : Env} {a b c e : Expr} {pos p2 p3 pos2 p' : Pos} {pin : List Nat} {tg : Expr}
theorem xi_r1 {hi : Int} (hm : S.mg "range" = none) (h : TP S ρ a hi) (hb : -(2 ^ 62) ≤ hi ∧ hi < 2 ^ 62) (hg : S.scope.names.lookup ("range" : Str) = some .globalImplicit := by rfl) (hs : ∀ env : PySem.Env, starEach [a] env = [(false, eval a env)] := by intro _; rfl) :
    XI S ρ tg (.Call (.Name "range" p2) [a] [] pos) ((rng 0 hi).map enc) := xi_rng1 hm h hb hg hs
end
/-! ### while, whose measure sinks -/
theorem whL_some {σ : Type} {cc : σ → Bool} {f : σ → σ} (I : σ → Prop) (μ : σ → Nat) (h : ∀ s, I s → cc s = true → I (f s) ∧ μ (f s) < μ s) : ∀ (n : Nat) (s : σ), I s → μ s < n → (whL (β := Empty) cc (fun s => .nx (f s)) n s).isSome = true
  | 0, _, _, hn => by omega
  | n + 1, s, hI, hn => by
    unfold whL
    split
    · rename_i hc
      have := h s hI hc
      exact whL_some I μ h n _ this.1 (by omega)
    · rfl
theorem whL_inv {σ : Type} {cc : σ → Bool} {f : σ → σ} (I : σ → Prop) (h : ∀ s, I s → cc s = true → I (f s)) : ∀ (n : Nat) (s : σ) {o : LO σ Empty}, I s → whL (β := Empty) cc (fun s => .nx (f s)) n s = some o → ∃ w, o = .nx w ∧ I w ∧ cc w = false
  | 0, _, _, _, hn => by cases hn
  | n + 1, s, o, hI, hn => by
    unfold whL at hn
    cases hc : cc s with
    | false =>
      rw [hc, if_neg (by simp)] at hn
      cases hn
      exact ⟨s, rfl, hI, hc⟩
    | true =>
      rw [hc, if_pos rfl] at hn
      exact whL_inv I h n _ (h s hI hc) hn
theorem whD_inv {σ : Type} {cc : σ → Bool} {f : σ → σ} (I : σ → Prop) (h : ∀ s, I s → cc s = true → I (f s)) (n : Nat) (s : σ) (hI : I s) (ho : (whL (β := Empty) cc (fun s => .nx (f s)) n s).isSome = true) : I (whD cc f n s) ∧ cc (whD cc f n s) = false := by
  obtain ⟨o, ho⟩ := Option.isSome_iff_exists.mp ho
  obtain ⟨w, rfl, h1, h2⟩ := whL_inv I h n s hI ho
  unfold whD
  rw [ho]
  exact ⟨h1, h2⟩
end G

namespace G
open PySem PySem.Spec PyProof.Rows L2
open PySem.W (Datum DatumOrd Tup T3 EachIs)
open Enc (enc)
/-! ### dicts of typed keys and typed things -/
class DKey (κ : Type) [DecidableEq κ] [Datum κ] [Enc κ] where
  tk : Bool
  k1 : κ → Key
  kt : κ → List Key
  rep1 : tk = false → ∀ {K : PySem.W.Frag} {F : Hp} {v : V} (x : κ), Rep K F v (enc x) → v = kV (k1 x)
  rept : tk = true → ∀ {K : PySem.W.Frag} {F : Hp} {v : V} (x : κ), Rep K F v (enc x) → ∃ b, v = .ref b ∧ F b = some (.tup ((kt x).map kV))
  inj1 : tk = false → ∀ x y, k1 x = k1 y → x = y
  injt : tk = true → ∀ x y, kt x = kt y → x = y
instance : DKey Int where
  tk := false
  k1 := Sum.inl
  kt := fun _ => []
  rep1 := fun _ => fun x h => by cases h; rfl
  rept := fun z => nomatch z
  inj1 := fun _ x y e => Sum.inl.inj e
  injt := fun z => nomatch z
instance : DKey Tx where
  tk := false
  k1 := fun t => Sum.inr t.s
  kt := fun _ => []
  rep1 := fun _ => fun x h => by cases h; rfl
  rept := fun z => nomatch z
  inj1 := fun _ x y e => Tx.s_inj (Sum.inr.inj e)
  injt := fun z => nomatch z
instance : DKey (Int × Int) where
  tk := true
  k1 := fun _ => .inl 0
  kt := fun p => [.inl p.1, .inl p.2]
  rep1 := fun z => nomatch z
  rept := fun _ => fun x h => by
    cases h with
    | tup h r =>
      cases r with
      | cons h1 r =>
        cases h1
        cases r with
        | cons h2 r =>
          cases h2
          cases r
          exact ⟨_, rfl, h⟩
  inj1 := fun z => nomatch z
  injt := fun _ x y e => by
    injection e with a b
    injection b with b c
    exact Prod.ext (Sum.inl.inj a) (Sum.inl.inj b)
section
variable {κ β : Type} [DecidableEq κ]
def dGet (d : List (κ × β)) (k : κ) : Option β := (d.find? fun p => decide (p.1 = k)).map (·.2)
def dPut (d : List (κ × β)) (k : κ) (x : β) : List (κ × β) := if (d.any fun p => decide (p.1 = k)) = true then d.map (fun p => if p.1 = k then (p.1, x) else p) else d ++ [(k, x)]
def dHas (d : List (κ × β)) (k : κ) : Bool := (dGet d k).isSome
theorem dGet_any (d : List (κ × β)) (k : κ) : (d.any fun p => decide (p.1 = k)) = (dGet d k).isSome := by
  unfold dGet
  induction d with
  | nil => rfl
  | cons p r ih =>
    rw [List.any_cons, List.find?_cons]
    by_cases h : p.1 = k
    · simp [h]
    · rw [decide_eq_false h]; exact ih
theorem dGet_put (d : List (κ × β)) (k j : κ) (x : β) : dGet (dPut d k x) j = if j = k then some x else dGet d j := by
  unfold dPut
  split
  · rename_i h
    induction d with
    | nil => cases h
    | cons p r ih =>
      rw [List.map_cons]
      unfold dGet at *
      rw [List.find?_cons, List.find?_cons]
      by_cases e : p.1 = k
      · rw [if_pos e]
        dsimp only
        by_cases ej : j = k
        · rw [if_pos ej, decide_eq_true (e.trans ej.symm)]; rfl
        · rw [if_neg ej, decide_eq_false (fun z => ej (z.symm.trans e))]
          dsimp only
          by_cases h2 : (r.any fun p => decide (p.1 = k)) = true
          · have := ih h2
            rw [if_neg ej] at this
            exact this
          · have : r.map (fun p => if p.1 = k then (p.1, x) else p) = r := by
              conv => rhs; rw [← List.map_id r]
              refine List.map_congr_left fun q hq => ?_
              rw [if_neg fun z => h2 (List.any_eq_true.mpr ⟨q, hq, decide_eq_true z⟩)]
              rfl
            rw [this]
      · rw [if_neg e]
        have h2 : (r.any fun p => decide (p.1 = k)) = true := by
          rw [List.any_cons, decide_eq_false e] at h
          exact h
        by_cases ej : p.1 = j
        · rw [decide_eq_true ej]
          dsimp only
          rw [if_neg fun z => e (ej.trans z)]
        · rw [decide_eq_false ej]
          exact ih h2
  · rename_i h
    rw [dGet_any] at h
    have h : dGet d k = none := by simpa using h
    unfold dGet at *
    rw [List.find?_append]
    by_cases ej : j = k
    · rw [if_pos ej, ej]
      cases z : d.find? fun p => decide (p.1 = k) with
      | some q => rw [z] at h; cases h
      | none => simp
    · rw [if_neg ej]
      cases z : d.find? fun p => decide (p.1 = j) with
      | some q => rfl
      | none => simp [ej, Ne.symm ej]
end
section
variable {κ β : Type} [DecidableEq κ] [Datum κ] [Enc κ] [DKey κ] [DecidableEq β] [Datum β] [Enc β]
def oD (d : List (κ × β)) : O := if DKey.tk κ = true then .dt (d.map fun p => DKey.kt p.1) ((d.map fun p => enc p.2).map O.fro) else .dk (d.map fun p => DKey.k1 p.1) ((d.map fun p => enc p.2).map O.fro)
def fD (d : List (κ × β)) : D := if DKey.tk κ = true then .dt (d.map fun p => DKey.kt p.1) (d.map fun p => enc p.2) else .dk (d.map fun p => DKey.k1 p.1) (d.map fun p => enc p.2)
abbrev od (d : List (κ × β)) : Option O := some (oD d)
abbrev fd (d : List (κ × β)) : Option O := some (.fro (fD d))
theorem oD_d (d : List (κ × β)) : (oD d).d = fD d := by
  unfold oD fD
  split
  · show D.dt _ (O.ds _) = _; rw [ds_fros]
  · show D.dk _ (O.ds _) = _; rw [ds_fros]
/-- how it lies in H, its things in F -/
def DLay (K : PySem.W.Frag) (F H : Hp) (a : Addr) (d : List (κ × β)) : Prop :=
  (DKey.tk κ = true ∧ ∃ kvs, H a = some (.dT kvs) ∧ kvs.map (·.1) = d.map (fun p => DKey.kt p.1) ∧ Reps K F (kvs.map (·.2)) (d.map fun p => enc p.2)) ∨
  (DKey.tk κ = false ∧ ∃ kvs, H a = some (.dK kvs) ∧ kvs.map (·.1) = d.map (fun p => DKey.k1 p.1) ∧ Reps K F (kvs.map (·.2)) (d.map fun p => enc p.2))
theorem DLay.of_rep {K : PySem.W.Frag} {F : Hp} {v : V} {d : List (κ × β)} (h : Rep K F v (fD d)) : ∃ a, v = .ref a ∧ DLay K F F a d := by
  unfold fD at h
  split at h
  · rename_i t
    cases h with
    | dt h k r => exact ⟨_, rfl, .inl ⟨t, _, h, k, r⟩⟩
  · rename_i t
    cases h with
    | dk h k r => exact ⟨_, rfl, .inr ⟨by simpa using t, _, h, k, r⟩⟩
theorem DLay.of_own {K : PySem.W.Frag} {F H : Hp} {v : V} {B : List Addr} {d : List (κ × β)} (h : Own K F H v (oD d) B) : ∃ a, v = .ref a ∧ B = [a] ∧ DLay K F H a d := by
  unfold oD at h
  split at h
  · rename_i t
    cases h with
    | dt h k r =>
      obtain ⟨r2, e⟩ := Owns.fros_inv r
      subst e
      exact ⟨_, rfl, rfl, .inl ⟨t, _, h, k, r2⟩⟩
  · rename_i t
    cases h with
    | dk h k r =>
      obtain ⟨r2, e⟩ := Owns.fros_inv r
      subst e
      exact ⟨_, rfl, rfl, .inr ⟨by simpa using t, _, h, k, r2⟩⟩
theorem DLay.own {K : PySem.W.Frag} {F H : Hp} {a : Addr} {d : List (κ × β)} (h : DLay K F H a d) : Own K F H (.ref a) (oD d) [a] := by
  unfold oD
  rcases h with ⟨t, kvs, h, k, r⟩ | ⟨t, kvs, h, k, r⟩
  · rw [if_pos t]; exact .dt h k (Owns.fros r)
  · rw [if_neg (by rw [t]; simp)]; exact .dk h k (Owns.fros r)
theorem DLay.mono {K : PySem.W.Frag} {F H F' H' : Hp} {a : Addr} {d : List (κ × β)} (h : DLay K F H a d) (e : Ext F F') (k : ∀ u, H a = some u → H' a = some u) : DLay K F' H' a d := by
  rcases h with ⟨t, kvs, h, q, r⟩ | ⟨t, kvs, h, q, r⟩
  · exact .inl ⟨t, kvs, k _ h, q, r.mono e⟩
  · exact .inr ⟨t, kvs, k _ h, q, r.mono e⟩
theorem DLay.isD {K : PySem.W.Frag} {F H : Hp} {a : Addr} {d : List (κ × β)} (h : DLay K F H a d) : IsD H a := by
  rcases h with ⟨_, kvs, h, _⟩ | ⟨_, kvs, h, _⟩
  · exact .inr ⟨kvs, .inl h⟩
  · exact .inl ⟨kvs, .inl h⟩
section
variable {ι : Type} [DecidableEq ι] {g : κ → ι} (inj : ∀ x y, g x = g y → x = y) {K : PySem.W.Frag} {F : Hp}
include inj
theorem val_rel (k : κ) : ∀ {d : List (κ × β)} {kvs : List (ι × V)}, kvs.map (·.1) = d.map (fun p => g p.1) → Reps K F (kvs.map (·.2)) (d.map fun p => enc p.2) →
    (∀ x, dGet d k = some x → ∃ v, valV kvs (g k) = some v ∧ Rep K F v (enc x)) ∧ (dGet d k = none → valV kvs (g k) = none)
  | [], [], _, _ => ⟨fun x z => (nomatch z), fun _ => rfl⟩
  | [], _ :: _, h, _ => by cases h
  | _ :: _, [], h, _ => by cases h
  | p :: d, q :: kvs, h, r => by
    rw [List.map_cons, List.map_cons] at h
    injection h with h1 h2
    rw [List.map_cons, List.map_cons] at r
    cases r with
    | cons r1 r2 =>
      have ih := val_rel k h2 r2
      unfold dGet
      rw [List.find?_cons]
      by_cases e : p.1 = k
      · rw [decide_eq_true e]
        refine ⟨fun x z => ?_, fun z => (nomatch z)⟩
        cases z
        exact ⟨q.2, valV_pos (by rw [h1, e]), r1⟩
      · rw [decide_eq_false e]
        have en : ¬ q.1 = g k := fun z => e (inj _ _ (h1.symm.trans z))
        rw [valV_neg en]
        exact ih
theorem put_rel (k : κ) {x : β} {v : V} (hv : Rep K F v (enc x)) {d : List (κ × β)} {kvs : List (ι × V)} (h : kvs.map (·.1) = d.map (fun p => g p.1)) (r : Reps K F (kvs.map (·.2)) (d.map fun p => enc p.2)) :
    (putK kvs (g k) v).map (·.1) = (dPut d k x).map (fun p => g p.1) ∧ Reps K F ((putK kvs (g k) v).map (·.2)) ((dPut d k x).map fun p => enc p.2) := by
  have ea : (kvs.any fun kv => decide (kv.1 = g k)) = d.any fun p => decide (p.1 = k) := by
    have a1 : (kvs.any fun kv => decide (kv.1 = g k)) = (kvs.map (·.1)).any fun z => decide (z = g k) := by rw [List.any_map]; rfl
    have a2 : (d.any fun p => decide (p.1 = k)) = (d.map fun p => g p.1).any fun z => decide (z = g k) := by
      rw [List.any_map]
      congr 1
      funext p
      exact decide_eq_decide.mpr ⟨fun e => congrArg g e, inj _ _⟩
    rw [a1, a2, h]
  unfold putK dPut
  rw [ea]
  split
  · have all : ∀ {d : List (κ × β)} {kvs : List (ι × V)}, kvs.map (·.1) = d.map (fun p => g p.1) → Reps K F (kvs.map (·.2)) (d.map fun p => enc p.2) →
        (kvs.map (fun kv => if kv.1 = g k then (kv.1, v) else kv)).map (·.1) = (d.map (fun p => if p.1 = k then (p.1, x) else p)).map (fun p => g p.1) ∧ Reps K F ((kvs.map (fun kv => if kv.1 = g k then (kv.1, v) else kv)).map (·.2)) ((d.map (fun p => if p.1 = k then (p.1, x) else p)).map fun p => enc p.2) := by
      intro d
      induction d with
      | nil => intro kvs h r; cases kvs with
        | nil => exact ⟨rfl, .nil⟩
        | cons _ _ => cases h
      | cons p d ih =>
        intro kvs h r
        cases kvs with
        | nil => cases h
        | cons q kvs =>
          rw [List.map_cons, List.map_cons] at h
          injection h with h1 h2
          rw [List.map_cons, List.map_cons] at r
          cases r with
          | cons r1 r2 =>
            obtain ⟨i1, i2⟩ := ih h2 r2
            simp only [List.map_cons]
            by_cases e : p.1 = k
            · rw [if_pos e, if_pos (show q.1 = g k by rw [h1, e])]
              exact ⟨by rw [i1]; exact congrArg (· :: _) h1, .cons hv i2⟩
            · rw [if_neg e, if_neg fun z => e (inj _ _ (h1.symm.trans z))]
              exact ⟨by rw [i1]; exact congrArg (· :: _) h1, .cons r1 i2⟩
    exact all h r
  · rw [List.map_append, List.map_append, List.map_append, List.map_append]
    exact ⟨by rw [h]; rfl, r.append (.cons hv .nil)⟩
end
theorem DLay.get {K : PySem.W.Frag} {F H F' : Hp} {a : Addr} {d : List (κ × β)} (h : DLay K F H a d) {y : V} {k : κ} (hy : Rep K F' y (enc k)) (e : Ext F' H) : ∃ o, DGet H a y o ∧ (∀ x, dGet d k = some x → ∃ v, o = some v ∧ Rep K F v (enc x)) ∧ (dGet d k = none → o = none) := by
  rcases h with ⟨t, kvs, h, q, r⟩ | ⟨t, kvs, h, q, r⟩
  · obtain ⟨b, rfl, hb⟩ := DKey.rept t k hy
    exact ⟨_, DGet.t h (e _ _ hb), val_rel (DKey.injt t) k q r⟩
  · obtain rfl := DKey.rep1 t k hy
    exact ⟨_, DGet.k h, val_rel (DKey.inj1 t) k q r⟩
theorem DLay.put {K : PySem.W.Frag} {F H F' : Hp} {a : Addr} {d : List (κ × β)} (h : DLay K F H a d) {y : V} {k : κ} (hy : Rep K F' y (enc k)) (e : Ext F' H) {v : V} {x : β} (hv : Rep K F v (enc x)) (hl : d.length < 1000000) : ∃ u, DPut H a y v (upd H a u) ∧ DLay K F (upd H a u) a (dPut d k x) := by
  rcases h with ⟨t, kvs, h, q, r⟩ | ⟨t, kvs, h, q, r⟩
  · obtain ⟨b, rfl, hb⟩ := DKey.rept t k hy
    obtain ⟨p1, p2⟩ := put_rel (DKey.injt t) k hv q r
    have len : kvs.length = d.length := by have := congrArg List.length q; rwa [List.length_map, List.length_map] at this
    exact ⟨_, DPut.t h (e _ _ hb) (line_lt (by omega)), .inl ⟨t, _, upd_same, p1, p2⟩⟩
  · obtain rfl := DKey.rep1 t k hy
    obtain ⟨p1, p2⟩ := put_rel (DKey.inj1 t) k hv q r
    have len : kvs.length = d.length := by have := congrArg List.length q; rwa [List.length_map, List.length_map] at this
    exact ⟨_, DPut.k h (line_lt (by omega)), .inr ⟨t, _, upd_same, p1, p2⟩⟩
end
section
variable {κ β : Type} [DecidableEq κ] [Datum κ] [Enc κ] [DKey κ] [DecidableEq β] [Datum β] [Enc β]
variable {S : Sig} {ρ ρ1 : Env} {a b c e f : Expr} {pos p2 p3 pos2 p' : Pos} {pin : List Nat} {up : O → Env} {d : List (κ × β)} {k : κ} {x : β}
def NoSlx (i : Expr) : Prop := ∀ ov iv, subscripted i false ov iv = operate [ov, iv] (getItem ov iv)
/-- d[k], d owned -/
theorem tp_dgO (ha : XL S ρ a (oD d) up) (hb : TP S ρ b k) (hg : dGet d k = some x) (hs : NoSl b := by intro _ _; rfl) : TP S ρ (.Subscript a b pos) x := by
  obtain ⟨t, h1, h2⟩ := ha
  obtain ⟨tb, b1, b2⟩ := hb
  refine ⟨tDGet t tb, fun q ok => pe_dget (X := S.cx q) (by have := ok.units; show q.A.units + 1 < cLine; omega) (h1 q ok) (b1 q ok) hs, fun σ F H A Q w n q => h2 σ F H A _ w n fun v B C fo => b2 σ F H A _ w n fun y F1 H1 g r => ?_⟩
  obtain ⟨l, rfl, rfl, ly⟩ := DLay.of_own fo.own
  obtain ⟨o, g1, g2, _⟩ := (ly.mono g.stp.fs fun u hu => g.hh _ _ hu).get r g.ext
  obtain ⟨u, rfl, ru⟩ := g2 x hg
  exact ⟨l, u, rfl, g1, q _ _ _ g ru⟩
/-- d[k], d frozen -/
theorem tp_dgF (ha : XP S ρ a (.ok (fD d))) (hb : TP S ρ b k) (hg : dGet d k = some x) (hs : NoSl b := by intro _ _; rfl) : TP S ρ (.Subscript a b pos) x := by
  obtain ⟨t, h1, h2⟩ := ha
  obtain ⟨tb, b1, b2⟩ := hb
  refine ⟨tDGet t tb, fun q ok => pe_dget (X := S.cx q) (by have := ok.units; show q.A.units + 1 < cLine; omega) (h1 q ok) (b1 q ok) hs, fun σ F H A Q w n q => h2 σ F H A _ w n fun v F0 H0 g0 r0 => b2 σ F0 H0 A _ (g0.wf w) (g0.envs n) fun y F1 H1 g r => ?_⟩
  obtain ⟨l, rfl, ly⟩ := DLay.of_rep r0
  obtain ⟨o, g1, g2, _⟩ := (ly.mono g.stp.fs fun u hu => g.hh _ _ (g0.ext _ _ hu)).get r g.ext
  obtain ⟨u, rfl, ru⟩ := g2 x hg
  exact ⟨l, u, rfl, g1, q _ _ _ (g0.trans g) ru⟩
/-- d.get(k, y) -/
theorem tp_dg2O {y : β} {apos : Pos} (ha : XL S ρ a (oD d) up) (hb : TP S ρ e k) (hc : TP S ρ f y) (hbase : ∀ env : PySem.Env, attributeBase a "get" env (eval a env) = eval a env := by intro _; rfl)
    (hfew : ∀ env : PySem.Env, ((backTo pos (starEach [e, f] env)).all (fun x => !x.1) && (backToKw pos (keywordEach [] env)).all (fun x => x.1.isSome) && decide (([e, f] : List Expr).length + ([] : List Keyword).length + (if ([] : List Keyword).isEmpty then 0 else 1) < 30)) = true := by intro _; rfl)
    (hline : (apos.endLine == pos.line) = true := by rfl) (ht : ∀ env : PySem.Env, backTo pos (starEach [e, f] env) = [(false, eval e env), (false, eval f env)] := by intro _; rfl) : TP S ρ (.Call (.Attribute a "get" apos) [e, f] [] pos) ((dGet d k).getD y) := by
  obtain ⟨t, h1, h2⟩ := ha
  obtain ⟨tb, b1, b2⟩ := hb
  obtain ⟨tc, c1, c2⟩ := hc
  refine ⟨tDGet2 t tb tc, fun q ok => pe_dget2 (X := S.cx q) (by have := ok.units; show q.A.units + 1 < cLine; omega) (h1 q ok) (b1 q ok) (c1 q ok) ⟨hbase _, hfew _, hline, ht _⟩, fun σ F H A Q w n q => h2 σ F H A _ w n fun v B C fo => ?_⟩
  obtain ⟨l, rfl, rfl, ly⟩ := DLay.of_own fo.own
  refine ⟨l, rfl, ly.isD, b2 σ F H A _ w n fun y0 F1 H1 g r => c2 σ F1 H1 A _ (g.wf w) (g.envs n) fun z F2 H2 g2 r2 => ?_⟩
  obtain ⟨o, g3, g4, g5⟩ := (ly.mono (g.stp.fs.trans g2.stp.fs) fun u hu => g2.hh _ _ (g.hh _ _ hu)).get (r.mono g2.stp.fs) g2.ext
  refine ⟨o, g3, q _ _ _ (g.trans g2) ?_⟩
  cases hd : dGet d k with
  | none => rw [g5 hd]; exact r2
  | some x =>
    obtain ⟨u, rfl, ru⟩ := g4 x hd
    exact ru
theorem tp_dg2F {y : β} {apos : Pos} (ha : XP S ρ a (.ok (fD d))) (hb : TP S ρ e k) (hc : TP S ρ f y) (hbase : ∀ env : PySem.Env, attributeBase a "get" env (eval a env) = eval a env := by intro _; rfl)
    (hfew : ∀ env : PySem.Env, ((backTo pos (starEach [e, f] env)).all (fun x => !x.1) && (backToKw pos (keywordEach [] env)).all (fun x => x.1.isSome) && decide (([e, f] : List Expr).length + ([] : List Keyword).length + (if ([] : List Keyword).isEmpty then 0 else 1) < 30)) = true := by intro _; rfl)
    (hline : (apos.endLine == pos.line) = true := by rfl) (ht : ∀ env : PySem.Env, backTo pos (starEach [e, f] env) = [(false, eval e env), (false, eval f env)] := by intro _; rfl) : TP S ρ (.Call (.Attribute a "get" apos) [e, f] [] pos) ((dGet d k).getD y) := by
  obtain ⟨t, h1, h2⟩ := ha
  obtain ⟨tb, b1, b2⟩ := hb
  obtain ⟨tc, c1, c2⟩ := hc
  refine ⟨tDGet2 t tb tc, fun q ok => pe_dget2 (X := S.cx q) (by have := ok.units; show q.A.units + 1 < cLine; omega) (h1 q ok) (b1 q ok) (c1 q ok) ⟨hbase _, hfew _, hline, ht _⟩, fun σ F H A Q w n q => h2 σ F H A _ w n fun v F0 H0 g0 r0 => ?_⟩
  obtain ⟨l, rfl, ly⟩ := DLay.of_rep r0
  refine ⟨l, rfl, (ly.mono (Ext.refl _) fun u hu => g0.ext _ _ hu).isD, b2 σ F0 H0 A _ (g0.wf w) (g0.envs n) fun y0 F1 H1 g r => c2 σ F1 H1 A _ (g.wf (g0.wf w)) (g.envs (g0.envs n)) fun z F2 H2 g2 r2 => ?_⟩
  obtain ⟨o, g3, g4, g5⟩ := (ly.mono (g.stp.fs.trans g2.stp.fs) fun u hu => g2.hh _ _ (g.hh _ _ (g0.ext _ _ hu))).get (r.mono g2.stp.fs) g2.ext
  refine ⟨o, g3, q _ _ _ ((g0.trans g).trans g2) ?_⟩
  cases hd : dGet d k with
  | none => rw [g5 hd]; exact r2
  | some x =>
    obtain ⟨u, rfl, ru⟩ := g4 x hd
    exact ru
/-- k in d -/
theorem ev_din {ty td : TE} (ha : EP S ty ρ (.ok (enc k))) (hb : EV S td ρ (fD d)) : EP S (tDIn ty td) ρ (.ok (.bl (dHas d k))) := fun σ F H A Q w n q => ha σ F H A _ w n fun y F1 H1 g r => hb σ F1 H1 A _ (g.wf w) (g.envs n) fun v F2 H2 g2 r2 => by
  obtain ⟨l, rfl, ly⟩ := DLay.of_rep r2
  obtain ⟨o, g3, g4, g5⟩ := ly.get (r.mono g2.stp.fs) g2.ext
  refine ⟨l, o, rfl, g3, q _ _ _ (g.trans g2) ?_⟩
  have : o.isSome = dHas d k := by
    unfold dHas
    cases hd : dGet d k with
    | none => rw [g5 hd]; rfl
    | some x => obtain ⟨u, rfl, _⟩ := g4 x hd; rfl
  rw [this]
  exact .bl
theorem ev_dni {ty td : TE} (ha : EP S ty ρ (.ok (enc k))) (hb : EV S td ρ (fD d)) : EP S (tDNotIn ty td) ρ (.ok (.bl (!dHas d k))) := fun σ F H A Q w n q => ha σ F H A _ w n fun y F1 H1 g r => hb σ F1 H1 A _ (g.wf w) (g.envs n) fun v F2 H2 g2 r2 => by
  obtain ⟨l, rfl, ly⟩ := DLay.of_rep r2
  obtain ⟨o, g3, g4, g5⟩ := ly.get (r.mono g2.stp.fs) g2.ext
  refine ⟨l, o, rfl, g3, q _ _ _ (g.trans g2) ?_⟩
  have : o.isSome = dHas d k := by
    unfold dHas
    cases hd : dGet d k with
    | none => rw [g5 hd]; rfl
    | some x => obtain ⟨u, rfl, _⟩ := g4 x hd; rfl
  rw [this]
  exact .bl
theorem tp_din (ha : TP S ρ a k) (hb : XV S ρ b (fD d)) (hm : behindInMarks .In b = false := by rfl) : TP S ρ (.Compare a [.In] [b] pos) (dHas d k) := by
  obtain ⟨ta, a1, a2⟩ := ha
  obtain ⟨tb, b1, b2⟩ := hb
  exact ⟨tDIn ta tb, fun q ok => pe_cmp (pc_din (X := S.cx q) (by have := ok.units; show q.A.units + 1 < cLine; omega) (a1 q ok) (b1 q ok)) hm, ev_din a2 b2⟩
theorem tp_dni (ha : TP S ρ a k) (hb : XV S ρ b (fD d)) (hm : behindInMarks .NotIn b = false := by rfl) : TP S ρ (.Compare a [.NotIn] [b] pos) (!dHas d k) := by
  obtain ⟨ta, a1, a2⟩ := ha
  obtain ⟨tb, b1, b2⟩ := hb
  exact ⟨tDNotIn ta tb, fun q ok => pe_cmp (pc_dnotin (X := S.cx q) (by have := ok.units; show q.A.units + 1 < cLine; omega) (a1 q ok) (b1 q ok)) hm, ev_dni a2 b2⟩
theorem tt_din (ha : TP S ρ a k) (hb : XV S ρ b (fD d)) (hm : behindInMarks .In b = false := by rfl) : XT S ρ (.Compare a [.In] [b] pos) (dHas d k) := by
  obtain ⟨ta, a1, a2⟩ := ha
  obtain ⟨tb, b1, b2⟩ := hb
  exact ⟨tB (tDIn ta tb), fun q ok => pt_cmp (pc_din (X := S.cx q) (by have := ok.units; show q.A.units + 1 < cLine; omega) (a1 q ok) (b1 q ok)) hm, fun σ F H A Q w n q => ev_din a2 b2 σ F H A _ w n fun v F' H' g r => by cases r; exact ⟨_, rfl, q _ _ g⟩⟩
theorem tt_dni (ha : TP S ρ a k) (hb : XV S ρ b (fD d)) (hm : behindInMarks .NotIn b = false := by rfl) : XT S ρ (.Compare a [.NotIn] [b] pos) (!dHas d k) := by
  obtain ⟨ta, a1, a2⟩ := ha
  obtain ⟨tb, b1, b2⟩ := hb
  exact ⟨tB (tDNotIn ta tb), fun q ok => pt_cmp (pc_dnotin (X := S.cx q) (by have := ok.units; show q.A.units + 1 < cLine; omega) (a1 q ok) (b1 q ok)) hm, fun σ F H A Q w n q => ev_dni a2 b2 σ F H A _ w n fun v F' H' g r => by cases r; exact ⟨_, rfl, q _ _ g⟩⟩
theorem xv_od (i : Nat) {x : Str} (hρ : ρ[i]? = some (od d) := by rfl) (hN : S.N[i]? = some x := by rfl) (hv : Vis S.scope x := by first | exact Or.inl rfl | exact Or.inr (Or.inl rfl) | exact Or.inr (Or.inr rfl))
    (hd : (x == ("__debug__" : Str)) = false := by decide) (hcd : (x == ("__classdict__" : Str)) = false := by decide) : XV S ρ (.Name x pos) (fD d) := by
  have := xv_var (S := S) (pos := pos) i hρ hN hv hd hcd
  rw [oD_d] at this
  exact this
/-- {} -/
theorem xx_dnew (hk : DKey.tk κ = true ∨ DKey.tk κ = false) : XX S ρ (.Dict [] [] pos) (.ok (oD ([] : List (κ × β))) ρ) := by
  cases h : DKey.tk κ with
  | true =>
    refine ⟨tDNewT, fun q ok => pe_dnewT, fun σ F H A Q w n q p hp => ?_⟩
    obtain ⟨w3, s3, n3⟩ := grow_own (o := .dT []) w n (Grow.refl w.sub) hp
    refine q _ _ _ [p] A w3 s3 (DLay.own (.inl ⟨h, [], upd_same, rfl, .nil⟩)) n3
  | false =>
    refine ⟨tDNewK, fun q ok => pe_dnewK, fun σ F H A Q w n q p hp => ?_⟩
    obtain ⟨w3, s3, n3⟩ := grow_own (o := .dK []) w n (Grow.refl w.sub) hp
    refine q _ _ _ [p] A w3 s3 (DLay.own (.inr ⟨h, [], upd_same, rfl, .nil⟩)) n3
/-- d[k] = v -/
theorem xs_dput {ρ2 : Env} {tpos : Pos} (hl : XL S ρ a (oD d) up) (hk : TP S ρ b k) (hv : TP S ρ e x) (hn : d.length < 1000000) (hq : up (oD (dPut d k x)) = ρ2 := by rfl)
    (hs : ∀ env : PySem.Env, swapsWith e (some (.Subscript a b tpos)) pos.line { env with scope := S.scope } = pure false := by intro _; rfl) : XS S pin ρ (.Assign [.Subscript a b tpos] e pos) (.nx ρ2) := by
  subst hq
  obtain ⟨t, h1, h2⟩ := hl
  obtain ⟨tb, b1, b2⟩ := hk
  obtain ⟨tv, v1, v2⟩ := hv
  refine ⟨sDPut t tb tv, fun q ok => ps_dput (X := S.cx q) (by have := ok.units; show q.A.units + 1 < cLine; omega) (h1 q ok) (b1 q ok) (v1 q ok) (hs _), fun σ F H A D w n q => v2 σ F H A _ w n fun v F1 H1 g1 r1 => h2 σ F1 H1 A _ (g1.wf w) (g1.envs n) fun z B C fo => b2 σ F1 H1 A _ (g1.wf w) (g1.envs n) fun y F2 H2 g2 r2 => ?_⟩
  have fo2 := fo.grow g2
  obtain ⟨l, rfl, rfl, ly⟩ := DLay.of_own fo2.own
  obtain ⟨u, p1, p2⟩ := ly.put r2 g2.ext (r1.mono g2.stp.fs) hn
  have w2 := g2.wf (g1.wf w)
  obtain ⟨A', n', w', s'⟩ := Foc.mut (B2 := []) (A0 := []) (A1 := []) (X := []) (u := u) (o' := oD (dPut d k x)) w2 fo2 (by simp) p2.own
  refine ⟨l, _, rfl, p1, q _ _ _ A' w' (Stp.trans (((g1.trans g2).stp.mono (by simp) (A' := A)).more (C := A) fun a h => .inl h) s') n' Pin.refl⟩
end
end G

namespace G
open PySem PySem.Spec PyProof.Rows L2
open PySem.W (Datum DatumOrd Tup T3 EachIs)
open Enc (enc)
section
variable {κ β : Type} [DecidableEq κ] [Datum κ] [Enc κ] [DKey κ] [DecidableEq β] [Datum β] [Enc β]
variable {S : Sig} {ρ ρ1 : Env} {a b c e f : Expr} {pos p2 p3 pos2 p' : Pos} {pin : List Nat} {up : O → Env} {d : List (κ × β)} {k : κ} {x : β} {ss : List Stmt}
def dgD [Inhabited β] (d : List (κ × β)) (k : κ) : β := (dGet d k).getD default
theorem dgD_ok [Inhabited β] {d : List (κ × β)} {k : κ} (h : dHas d k = true) : dGet d k = some (dgD d k) := by
  unfold dgD dHas at *
  cases e : dGet d k with
  | none => rw [e] at h; cases h
  | some x => rfl
theorem tv_dgO [Inhabited β] (ha : XL S ρ a (oD d) up) (hb : TP S ρ b k) (hg : dHas d k = true) (hs : NoSl b := by intro _ _; rfl) : TP S ρ (.Subscript a b pos) (dgD d k) := tp_dgO ha hb (dgD_ok hg) hs
theorem tv_dgF [Inhabited β] (ha : XP S ρ a (.ok (fD d))) (hb : TP S ρ b k) (hg : dHas d k = true) (hs : NoSl b := by intro _ _; rfl) : TP S ρ (.Subscript a b pos) (dgD d k) := tp_dgF ha hb (dgD_ok hg) hs
theorem xs_dnew {ρ2 : Env} (i : Nat) {x : Str} {p' : Pos} (hq : ρ.set i (od ([] : List (κ × β))) = ρ2 := by rfl) (hi : Nat.blt i ρ.length = true := by rfl) (hp : i ∉ pin := by decide) (hN : S.N[i]? = some x := by rfl) (hx : Loc S.scope x := by first | exact .inl rfl | exact .inr rfl) (hst : S.st x = true ∨ S.scope.names.lookup x = some .local := by first | exact .inl rfl | exact .inr rfl)
    (hs : ∀ env : PySem.Env, swapsWith (.Dict [] [] p2) (some (.Name x p')) pos.line { env with scope := S.scope } = pure false := by intro _; rfl) : XS S pin ρ (.Assign [.Name x p'] (.Dict [] [] p2) pos) (.nx ρ2) := by
  subst hq
  exact xs_set i (xx_dnew (by cases DKey.tk κ <;> simp)) hi hp hN hx hst hs
theorem xb_fzD (i : Nat) {r : RS} {ρ2 : Env} (hρ : ρ[i]? = some (od d)) (h : XB S pin ρ2 ss r) (hq : ρ.set i (fd d) = ρ2 := by rfl) : XB S pin ρ ss r := by
  subst hq
  refine xb_freeze i hρ ?_
  rw [oD_d]
  exact h
theorem cb_sortedDI {d : List (Int × β)} [Calm S] (hn : d.length < 64) : CB S "sorted" [fD d] (enc (sortT (d.map (·.1)))) := ⟨_, fun q ok => call_sortedDI (X := S.cx q) Calm.h, fun vs F H Q e rr q => by
  obtain ⟨v, rfl, r⟩ := reps1 rr
  obtain ⟨l, rfl, ly⟩ := DLay.of_rep r
  rcases ly with ⟨t, _⟩ | ⟨_, kvs, h, hk, _⟩
  · cases t
  · refine ⟨l, kvs, d.map (·.1), rfl, .inl h, by rw [hk, List.map_map]; rfl, by rw [List.length_map]; exact hn, fun ys p hp hs hf => ?_⟩
    have es : sortT (d.map (·.1)) = ys := sortT_of (hs.imp fun {x y} h => by rw [G.lt_int]; exact decide_eq_false (by omega)) hp
    refine q _ _ _ (Grow.new e hf) ?_
    rw [es]
    refine .lst upd_same ?_
    have : ∀ zs : List Int, Reps S.K (upd F p (.lst (ys.map V.int))) (zs.map V.int) (zs.map enc) := by
      intro zs
      induction zs with
      | nil => exact .nil
      | cons z zs ih => exact .cons .int ih
    exact this ys⟩
theorem tp_sortedDI {d : List (Int × β)} [Calm S] (hm : S.mg "sorted" = none) (h : XV S ρ a (fD d)) (hn : d.length < 64) (hg : S.scope.names.lookup ("sorted" : Str) = some .globalImplicit := by rfl) (he : ∀ env : PySem.Env, starEach [a] env = (false, eval a env) :: starEach [] env := by intro _; rfl) : TP S ρ (.Call (.Name "sorted" p2) [a] [] pos) (sortT (d.map (·.1))) :=
  xp_cb (p := p2) (pos := pos) (cb_sortedDI hn) hm (xav_cons h xav_nil he) hg (by decide +kernel) (by decide) (by decide) he (by intro _; rfl)
end
end G

namespace G
open PySem PySem.Spec PyProof.Rows L2
open PySem.W (Datum DatumOrd Tup T3 EachIs)
open Enc (enc)
/-! ### facts of the top, with tables of text keys -/
abbrev AlY : Type := Bool × He.AlT
def obsY (ex : List KF) (fa : List He.Fa) (fn : List He.DefD) (ts : List He.Tab) (K : PySem.W.Frag) : AlY := (ex.all fun f => f K, He.obsT fa fn ts K)
def valY (fn : List He.DefD) (ts : List He.Tab) (w : World) : AlY := (true, He.valT fn ts w)
def SaysY (ex : List KF) (fa : List He.Fa) (fn : List He.DefD) (ts : List He.Tab) (w : World) (K : PySem.W.Frag) : Prop := obsY ex fa fn ts K = valY fn ts w
def obsYG (n : Nat) (ex : List KF) (fa : List He.Fa) (fn : List He.DefD) (ts : List He.Tab) (g : Addr → Option Obj) : AlY := obsY ex fa fn ts (He.frG g (He.asD g n))
def hookY (n : Nat) (ex : List KF) (fa : List He.Fa) (fn : List He.DefD) (ts : List He.Tab) : PySem.W.Hook where
  α := AlY
  obs := fun s => obsYG n ex fa fn ts s.heap.get?
  val := fun w => valY fn ts w
  says := fun w h => ∃ K : PySem.W.Frag, K.In h ∧ SaysY ex fa fn ts w K
  of := fun _ _ e => ⟨_, He.frG_in, e⟩
  keeps := fun _ _ _ ⟨K, hK, c⟩ k => ⟨K, PySem.W.Frag.In.keeps hK k, c⟩
theorem obsYG_eq {n : Nat} {ex : List KF} {fa : List He.Fa} {fn : List He.DefD} {ts : List He.Tab} {g : Addr → Option Obj} {s : Shared} (h : ∀ a, g a = s.heap.get? a) : obsYG n ex fa fn ts g = (hookY n ex fa fn ts).obs s := by
  have e : g = s.heap.get? := funext h
  rw [e] <;> rfl
section
variable {ex : List KF} {fa : List He.Fa} {fn : List He.DefD} {ts : List He.Tab} {w : World} {K : PySem.W.Frag}
theorem SaysY.t (c : SaysY ex fa fn ts w K) : He.SaysT fa fn ts w K := congrArg (fun z : AlY => z.2) c
theorem SaysY.d (c : SaysY ex fa fn ts w K) : He.SaysD fa fn K := c.t.d
theorem SaysY.fact (c : SaysY ex fa fn ts w K) (i : Nat) {f : KF} (h : ex[i]? = some f := by rfl) : f K = true :=
  List.all_eq_true.mp (show (ex.all fun f => f K) = true from congrArg (fun z : AlY => z.1) c) f (List.mem_of_getElem? h)
end
/-! ### a table of the top: texts to pairs of ints -/
def kfRow (x : Str) (p : Tx × (Int × Int)) : KF := fun K => match PySem.W.nsIn K (He.ga K x) p.1.s with
  | some (some (.ref a)) => (match K.lookup a with
    | some ⟨.type c, _, .seq its _, _⟩ => decide (c = "tuple") && (decide (its.size ≤ sizeLine) && He.relAll [.int p.2.1, .int p.2.2] its.toList)
    | _ => false)
  | _ => false
theorem kfRow_ok {K : PySem.W.Frag} {x : Str} {p : Tx × (Int × Int)} (h : kfRow x p K = true) : ∃ a, PySem.W.nsIn K (He.ga K x) p.1.s = some (some (.ref a)) ∧ ∀ H : Hp, SqT K H a [.int p.2.1, .int p.2.2] := by
  unfold kfRow at h
  split at h
  · rename_i a e
    refine ⟨a, e, fun H => ?_⟩
    split at h
    · rename_i c od its n sl q
      obtain ⟨h1, h2⟩ := He.ba h
      obtain ⟨h3, h4⟩ := He.ba h2
      exact .inr ⟨_, its, n, q, congrArg Value.type (of_decide_eq_true h1), rfl, of_decide_eq_true h3, He.relAll_ok h4⟩
    · cases h
  · cases h
def TabK (K : PySem.W.Frag) (w : World) (x : Str) (l : List (Tx × (Int × Int))) : Prop := ∀ p ∈ l, ∃ a, KDct K w (He.ga K x) p.1.s (.ref a) ∧ ∀ H : Hp, SqT K H a [.int p.2.1, .int p.2.2]
theorem tabK_ok {K : PySem.W.Frag} {w : World} {x : Str} {l : List (Tx × (Int × Int))} (D : ∃ es n, KDict K w (He.ga K x) es n) (h : (l.all fun p => kfRow x p K) = true) : TabK K w x l := fun p hp => by
  obtain ⟨es, n, D⟩ := D
  obtain ⟨a, h1, h2⟩ := kfRow_ok (List.all_eq_true.mp h p hp)
  exact ⟨a, ⟨es, n, .ref a, D.at_, D.lit, h1, rfl⟩, h2⟩
def tkD (p : Int × Int) : D := .tk [.int p.1, .int p.2]
abbrev tkv (p : Int × Int) : Option O := some (.fro (tkD p))
section
variable {S : Sig} {ρ ρ1 : Env} {a b c e f : Expr} {pos p2 p3 pos2 p' : Pos} {pin : List Nat}
theorem oi_kd {x : Str} {l : List (Tx × (Int × Int))} (T : TabK S.K S.w x l) {k : Tx} {v : Int × Int} (hm : (k, v) ∈ l) : OI S (.obj (He.ga S.K x)) (enc k) (tkD v) := ⟨rIxD S.K S.w, fun _ _ => ix_kdict, fun u y F H Q e rx ry q => by
  obtain ⟨a, h1, h2⟩ := T _ hm
  cases rx
  cases ry
  exact ⟨_, _, _, rfl, rfl, h1, q _ F H (Grow.refl e) (.tk (h2 F) (.cons .int (.cons .int .nil)))⟩⟩
theorem oi_tk {ds : List D} {i : Int} {d : D} (h : atI ds i = some d) : OI S (.tk ds) (.int i) d := ⟨rIxT S.K, fun _ _ => ix_tup, fun x y F H Q e rx ry q => by
  cases rx with
  | tk h1 r1 =>
    cases ry
    obtain ⟨v, e1, e2⟩ := r1.atI h
    exact ⟨_, _, _, v, rfl, rfl, e.t h1, e1, q _ F H (Grow.refl e) e2⟩⟩
theorem dget_mem {κ β : Type} [DecidableEq κ] {d : List (κ × β)} {k : κ} {x : β} (h : dGet d k = some x) : (k, x) ∈ d := by
  unfold dGet at h
  cases e : d.find? fun p => decide (p.1 = k) with
  | none => rw [e] at h; cases h
  | some p =>
    rw [e] at h
    cases h
    have h1 := List.mem_of_find?_eq_some e
    have h2 : decide (p.1 = k) = true := List.find?_some (p := fun p : κ × β => decide (p.1 = k)) e
    have h2 := of_decide_eq_true h2
    rw [← h2]
    exact h1
/-- TABLE[word] -/
theorem xp_tab {x : Str} {l : List (Tx × (Int × Int))} {k : Tx} (T : TabK S.K S.w x l) (g : S.mg x = some (.ref (He.ga S.K x))) (hb : TP S ρ b k) (hm : dHas l k = true) (hs : PlainIx b := by intro _ _; rfl) (hg : S.scope.names.lookup x = some .globalImplicit := by rfl) (hd : (x == ("__debug__" : Str)) = false := by decide) :
    XP S ρ (.Subscript (.Name x p2) b pos) (.ok (tkD (dgD l k))) := xp_ix (oi_kd T (dget_mem (dgD_ok hm))) (xp_cls g hg hd) hb hs
theorem tp_tka {p : Int × Int} (ha : XP S ρ a (.ok (tkD p))) {j : Nat} {pos' : Pos} : TP S ρ (.Subscript a (.Constant (.int 0) j pos') pos) p.1 := xp_ix (oi_tk (i := 0) rfl) ha xp_int
theorem tp_tkb {p : Int × Int} (ha : XP S ρ a (.ok (tkD p))) {j : Nat} {pos' : Pos} : TP S ρ (.Subscript a (.Constant (.int 1) j pos') pos) p.2 := xp_ix (oi_tk (i := 1) rfl) ha xp_int
/-! ### texts -/
def chD (t : Tx) (i : Int) : Tx := ⟨[((ixN t.l.length i).bind fun j => t.l[j]?).getD 'x']⟩
def chs (t : Tx) : List Tx := t.l.map fun c => ⟨[c]⟩
theorem chD_ok {t : Tx} {i : Int} (h : (0 ≤ i ∧ i < t.l.length) ∨ (i < 0 ∧ 0 ≤ i + t.l.length)) : ∃ c, atI t.l i = some c ∧ chD t i = ⟨[c]⟩ := by
  have : ∃ c, atI t.l i = some c := by
    rcases h with h | h
    · exact atI_ok h
    · unfold atI ixN
      rw [if_neg (by omega), if_pos (by omega)]
      exact ⟨t.l[(i + t.l.length).toNat]'(by omega), List.getElem?_eq_getElem _⟩
  obtain ⟨c, hc⟩ := this
  refine ⟨c, hc, ?_⟩
  unfold chD
  unfold atI at hc
  rw [hc]
  rfl
theorem tp_ixX {t : Tx} {i : Int} (ha : TP S ρ a t) (hb : TP S ρ b i) (h : (0 ≤ i ∧ i < t.l.length) ∨ (i < 0 ∧ 0 ≤ i + t.l.length)) (hl : t.l.length ≤ 1000000 := by decide) (hs : PlainIx b := by intro _ _; rfl) : TP S ρ (.Subscript a b pos) (chD t i) := by
  obtain ⟨c, h1, h2⟩ := chD_ok h
  rw [h2]
  exact xp_ix (oi_tx h1 hl) ha hb hs
theorem xi_txs {t : Tx} {tg : Expr} (h : TP S ρ a t) : XI S ρ tg a ((chs t).map enc) := by
  have := xi_tx (tg := tg) h
  unfold chs
  rw [List.map_map]
  exact this
theorem tp_lenX {t : Tx} (hm : S.mg "len" = none) (h : TV S ρ a t) (hl : t.l.length ≤ 1000000) (hg : S.scope.names.lookup ("len" : Str) = some .globalImplicit := by rfl) (he : ∀ env : PySem.Env, starEach [a] env = (false, eval a env) :: starEach [] env := by intro _; rfl) : TP S ρ (.Call (.Name "len" p2) [a] [] pos) ((t.l.length : Nat) : Int) :=
  xp_cb (p := p2) (pos := pos) (cb_len_tx (S := S) hl) hm (xav_cons h xav_nil he) hg (by decide +kernel) (by decide) (by decide) he (by intro _; rfl)
theorem xp_gstr {t : Tx} {x z : Str} (h : ∃ k, S.mg x = some (.str z k)) (hz : z = t.s := by decide +kernel) (hg : S.scope.names.lookup x = some .globalImplicit := by rfl) (hd : (x == ("__debug__" : Str)) = false := by decide) : TP S ρ (.Name x pos) t := by
  obtain ⟨k, h⟩ := h
  subst hz
  exact xp_glob (v := .str t.s) h ⟨k, rfl⟩ (fun _ => .str) hg hd
def occX (t u : Tx) : List Nat := Builtin.Str.occurrences t.s u.s 0 t.s.length 1
def ixX (t u : Tx) : Int := (((occX t u).head?.getD 0 : Nat) : Int)
theorem mt_indexX : MtR X "str.index" (fun x xs H Q => ∃ a b i rest, x = .str a ∧ xs = [.str b] ∧ Builtin.Str.occurrences a b 0 a.length 1 = i :: rest ∧ Q (.int ((i : Nat) : Int)) H) := by
  intro pins s σ H v vs u us Q I rv rvs h
  obtain ⟨a, b, i, rest, rfl, rfl, ho, q⟩ := h
  obtain ⟨t, rfl⟩ := rv
  obtain ⟨u1, rfl, ru⟩ := vals1 rvs
  obtain ⟨t2, rfl⟩ := ru
  exact PySem.SC.index ho ⟨.int ((i : Nat) : Int), H, I.tok _, ⟨_, rfl⟩, q⟩
theorem tp_indexX {t u : Tx} {apos : Pos} (ha : TP S ρ a t) (he : TP S ρ e u) (hn : occX t u ≠ [])
    (hbase : ∀ env : PySem.Env, attributeBase a "index" env (eval a env) = eval a env := by intro _; rfl)
    (hline : (apos.endLine == pos.line) = true := by rfl) (ht : ∀ env : PySem.Env, starEach [e] env = [(false, eval e env)] := by intro _; rfl) :
    TP S ρ (.Call (.Attribute a "index" apos) [e] [] pos) (ixX t u) := by
  obtain ⟨ta, h1, h2⟩ := ha
  obtain ⟨te, e1, e2⟩ := he
  refine ⟨_, fun q ok => pe_m1 (X := S.cx q) PySem.F.slot_str_index PySem.F.type_str_index mt_indexX (h1 q ok) (e1 q ok) (ht _) (hbase _) hline, fun σ F H A Q w n q => h2 σ F H A _ w n fun v F1 H1 g r => ?_⟩
  cases r
  refine ⟨⟨_, rfl⟩, e2 σ F1 H1 A _ (g.wf w) (g.envs n) fun y F2 H2 g2 r2 => ?_⟩
  cases r2
  cases ho : occX t u with
  | nil => exact absurd ho hn
  | cons i rest =>
    refine ⟨t.s, u.s, i, rest, rfl, rfl, ho, ?_⟩
    have : ixX t u = ((i : Nat) : Int) := by unfold ixX; rw [ho]; rfl
    rw [← this]
    exact q _ _ _ (g.trans g2) .int
end
end G

namespace G
open PySem PySem.Spec PyProof.Rows L2
open PySem.W (Datum DatumOrd Tup T3 EachIs)
open Enc (enc)
instance : DatumOrd Tx where
  lt a b := decide (a.s.cps.toList < b.s.cps.toList)
  alike a b := by show PySem.W.alike (.str _) (.str _) = true; simp only [PySem.W.alike]
  notNone a := fun e => by cases e
  lt_eq a b := (DatumOrd.lt_eq a.s b.s)
theorem tx_le {a b : Tx} : DatumOrd.lt b a = false ↔ a.s.cps.toList ≤ b.s.cps.toList := by
  show decide _ = false ↔ _
  rw [decide_eq_false_iff_not]
  exact Iff.rfl
instance : LOrd Tx := ⟨fun a b c h h' => by rw [tx_le] at *; exact List.le_trans h h', fun a b => by rw [tx_le, tx_le]; exact List.le_total _ _, fun a b h h' => by
  rw [tx_le] at *
  have e := List.le_antisymm h h'
  refine Tx.s_inj ?_
  have : a.s.cps = b.s.cps := by
    rw [← Array.toList_inj]; exact e
  cases ha : a.s
  cases hb : b.s
  rw [ha, hb] at this
  exact congrArg Str.mk this⟩
instance : SortK Tx := ⟨.inr fun b => ⟨fun z => (nomatch z), fun xs z => (nomatch z)⟩, by decide⟩
section
variable {S : Sig} {ρ ρ1 : Env} {a b c e f : Expr} {pos p2 p3 pos2 p' : Pos} {pin : List Nat} {up : O → Env} {T : Type} [DecidableEq T] [Datum T] [Enc T]
/-- xs[i], xs owned -/
theorem tv_ixO [Inhabited T] {xs : List T} {i : Int} (ha : XL S ρ a (oL xs) up) (hb : TP S ρ b i) (h : (0 ≤ i ∧ i < xs.length) ∨ (i < 0 ∧ 0 ≤ i + xs.length)) (hs : PlainIx b := by intro _ _; rfl) : TP S ρ (.Subscript a b pos) (atD xs i) := by
  obtain ⟨t, h1, h2⟩ := ha
  obtain ⟨tb, b1, b2⟩ := hb
  refine ⟨tOp (rIxL S.K) t tb, fun q ok => pe_ix (X := S.cx q) ix_list (h1 q ok) (b1 q ok) hs, fun σ F H A Q w n q => h2 σ F H A _ w n fun v B C fo => b2 σ F H A _ w n fun y F1 H1 g r => ?_⟩
  obtain ⟨ow, pm, bk⟩ := fo
  unfold oL at ow
  cases ow with
  | lst hx rr =>
    obtain ⟨rr, e⟩ := Owns.fros_inv rr
    cases r
    have e1 : atI (xs.map enc) i = some (enc (atD xs i)) := by rw [atI_map, atD_ok h]; rfl
    obtain ⟨u, e2, e3⟩ := rr.atI e1
    exact ⟨_, _, _, u, rfl, rfl, .of (g.hh _ _ hx), e2, q _ _ _ g (e3.mono g.stp.fs)⟩
/-- x = e, of any frozen kind -/
theorem xs_sD {d : D} {ρ2 : Env} (i : Nat) {x : Str} {p' : Pos} (h : XP S ρ e (.ok d)) (hq : ρ.set i (some (.fro d)) = ρ2 := by rfl) (hi : Nat.blt i ρ.length = true := by rfl) (hp : i ∉ pin := by decide) (hN : S.N[i]? = some x := by rfl) (hx : Loc S.scope x := by first | exact .inl rfl | exact .inr rfl) (hst : S.st x = true ∨ S.scope.names.lookup x = some .local := by first | exact .inl rfl | exact .inr rfl)
    (hs : ∀ env : PySem.Env, swapsWith e (some (.Name x p')) pos.line { env with scope := S.scope } = pure false := by intro _; rfl) : XS S pin ρ (.Assign [.Name x p'] e pos) (.nx ρ2) := by
  subst hq
  exact xs_setF i h hi hp hN hx hst hs
end
end G

namespace G
open PySem PySem.Spec PyProof.Rows L2
open PySem.W (Datum DatumOrd Tup T3 EachIs)
open Enc (enc)
/-! ### {k: v}, k a tuple -/
def tDisp1 (tk tv : TE) : TE := fun σ H Q => ∀ p, H p = none → tPairs [(tk, tv)] σ (upd H p (.dT [])) fun ps H2 => H2 p = some (.dT []) ∧ ∃ (ks : List Key) (b : Addr) (y : V), ps = [(.ref b, y)] ∧ H2 b = some (.tup (ks.map kV)) ∧ Q (.ref p) (upd H2 p (.dT [(ks, y)]))
theorem pe_disp1 {X : Cx} {k v : Expr} {tk tv : TE} {pos : Pos} (hu : X.A.units + 1 < cLine) (hk : PE X k tk) (hv : PE X v tv) : PE X (.Dict [some k] [v] pos) (tDisp1 tk tv) := by
  refine ⟨fun pins s σ H Q I q => ?_⟩
  have hn := I.hok.fresh (Nat.le_refl s.heap.objs.size)
  have I1 := I.laid (a := s.heap.objs.size) (o := .dT []) (h' := s.heap.push { cls := .type "dict", data := .dict #[] }) (t' := s.toks) (fun _ _ q => Heap.get?_push_of_some _ q) (Nat.le_refl _) (dt_empty s.heap I.big)
  have hp : PPs X pos [some k] [v] [(tk, tv)] := pps_cons hk hv pps_nil
  have hsh := zip_pairTrees [some k] [v] X.env pos rfl rfl
  have hlen := pairTrees_length [some k] [v] X.env pos rfl rfl
  rw [arm_eval_Dict, hsh, dictDisplay_pairs (pairTrees [some k] [v] X.env pos) (fun he => by rw [he] at hlen; cases hlen) (by rw [hlen]; show 1 < 17; decide)]
  refine wpAny_bind (wpAny_standAt (wpAny_bind (wpAny_subDictH (knd := tupleKind (mixKind X.prog X.w)) (Q := fun d s' => wpAny (model X.prog X.w) X.A (pure (Value.ref d)) (L2.EP X pins σ Q) X.xe s') (show X.A.units < cLine by omega) (by rw [hlen]; show 1 ≤ 15; decide) ?_)))
  refine thn (hp.run pins _ σ _ _ I1 (q _ hn)) fun ws s2 ⟨ps, H2, I2, rel, e, ks, b, y, ep, eb, q2⟩ => ?_
  subst ep
  cases rel with
  | @cons a0 w0 as0 ws0 h r =>
    cases r
    obtain ⟨wk, wv⟩ := w0
    obtain ⟨h1, h2⟩ := h
    cases (show wk = Value.ref b from h1)
    obtain ⟨z, hd, xs, rx, dd⟩ := dt_of I2.hok e
    have hx : xs = [] := by
      cases xs with
      | nil => rfl
      | cons _ _ => cases rx
    subst hx
    refine ⟨[(ks, b, wv)], ⟨rfl, rfl, key_of I2.hok eb, trivial⟩, dd, fun h' tk' dd' hs => wpAny_pure ?_⟩
    refine ⟨.ref s.heap.objs.size, _, ?_, rfl, q2⟩
    obtain ⟨q0, es, epo, hq, g2, g3, g4, g5, g6⟩ := dd'
    refine d_write I2 (by rw [e]; exact True.intro) hs ⟨q0, hq⟩ ⟨by show 1 ≤ sizeLine; rw [sizeLine_eq]; omega, hd, [(ks, b, wv)], .cons ⟨rfl, by rw [upd_ne (ne_of eb e (fun z => nomatch z))]; exact eb, h2⟩ .nil, q0, es, epo, hq, g2, g3, g4, g6⟩
section
variable {κ β : Type} [DecidableEq κ] [Datum κ] [Enc κ] [DKey κ] [DecidableEq β] [Datum β] [Enc β]
variable {S : Sig} {ρ ρ1 : Env} {a b c e f : Expr} {pos p2 p3 pos2 p' : Pos} {pin : List Nat} {up : O → Env} {d : List (κ × β)} {k : κ} {x : β} {ss : List Stmt}
/-- {k: v}, k a tuple -/
theorem xx_d1 (ht : DKey.tk κ = true) (hk : TP S ρ a k) (hv : TP S ρ b x) : XX S ρ (.Dict [some a] [b] pos) (.ok (oD [(k, x)]) ρ) := by
  obtain ⟨tk, k1, k2⟩ := hk
  obtain ⟨tv, v1, v2⟩ := hv
  refine ⟨tDisp1 tk tv, fun q ok => pe_disp1 (X := S.cx q) (by have := ok.units; show q.A.units + 1 < cLine; omega) (k1 q ok) (v1 q ok), fun σ F H A Q w n q p hp => ?_⟩
  obtain ⟨w3, s3, n3⟩ := grow_own (o := .dT []) w n (Grow.refl w.sub) hp
  refine k2 σ F _ A _ w3.right n3 fun y F1 H1 g1 r1 => v2 σ F1 H1 A _ (g1.wf w3.right) (g1.envs n3) fun z F2 H2 g2 r2 => ?_
  have g := g1.trans g2
  have hp2 : H2 p = some (.dT []) := g.hh _ _ upd_same
  obtain ⟨bb, rfl, hb⟩ := DKey.rept ht k r1
  have w4 : WF F2 H2 ([p] ++ A) := g.wf w3
  have n4 := g.envs n3
  have pA : p ∉ A := fun h => w.on p h (imm_none hp)
  have u5 : WF F2 (upd H2 p (.dT [(DKey.kt k, z)])) ([p] ++ A) ∧ Stp F2 H2 ([p] ++ A) F2 (upd H2 p (.dT [(DKey.kt k, z)])) ([p] ++ A) := by
    refine ⟨⟨fun a v h => ?_, w4.nd, w4.off, fun a h => ?_⟩, ⟨Ext.refl _, fun a v h n => ?_, fun a v h => .inl h, fun a h => .inl h, fun a h => ?_⟩⟩
    · rw [upd_ne fun z => by rw [z, w4.off p (by simp)] at h; cases h]
      exact w4.sub a v h
    · by_cases z : a = p
      · subst z; rw [upd_same]; exact fun z => z
      · rw [upd_ne z]; exact w4.on a h
    · rw [upd_ne fun z => n (by rw [z]; simp)]; exact h
    · by_cases z : a = p
      · subst z; rw [upd_same] at h; cases h
      · rw [upd_ne z] at h; exact h
  refine ⟨hp2, DKey.kt k, bb, z, rfl, g2.ext _ _ (g2.stp.fs _ _ hb), q _ F2 _ [p] A u5.1 ((s3.trans ((g.stp.mono (by simp) (A' := [p] ++ A)).more (C := [p] ++ A) fun a h => .inl h)).trans u5.2) ?_ ?_⟩
  · exact DLay.own (.inl ⟨ht, _, upd_same, rfl, .cons r2 .nil⟩)
  · exact n4.mono (Ext.refl _) (S := A) (fun a u e h => by rw [upd_ne fun z => pA (by rw [← z]; exact h)]; exact e) fun _ h => h
end
end G

namespace G
open PySem PySem.Spec PyProof.Rows L2
open PySem.W (Datum DatumOrd Tup T3)
open Enc (enc)
/-! ### a callee that is reckoned -/
theorem pe_callE {X : Cx} {CX : CXT} {k : Nat} {f : Addr} {fd : FuncData} {ps : List Str} {sp : Sp} {E : L2.St → XK} {pos : Pos} {g e : Expr} {es : List Expr} {tg : TE} {t : TA} (hgE : PE X g tg) (F : FnOk X.prog X.w X.K X.mg X.base CX k f fd ps sp) (hr : Room k X.A) (hk : PySem.W.keepIn X.K (.ref f) = true) (hb : Binds X.K fd ps []) (hx : ∀ σ, PassesAt CX X σ (E σ))
    (ha : PA X (e :: es) t) (he : starEach (e :: es) X.env = (false, eval e X.env) :: starEach es X.env) (hpl : (backTo pos (starEach es X.env)).any (·.1) = false)
    (hc : eval (.Call g (e :: es) [] pos) X.env = (do callWith pos (← eval g X.env) [] (backTo pos (starEach (e :: es) X.env)) (backToKw pos (keywordEach [] X.env)))) :
    PE X (.Call g (e :: es) [] pos) (fun σ H Q => tg σ H fun v H1 => v = .ref f ∧ t σ H1 fun vs H2 => sp vs H2 Q (E σ)) := by
  refine ⟨fun pins s σ H Q I h => ?_⟩
  rw [hc]
  refine wpAny_bind (thn (hgE.run pins s σ H _ I h) fun u s1 ⟨v, H1, I1, rv, ev, q⟩ => ?_)
  subst ev
  obtain rfl : u = Value.ref f := rv
  refine PySem.W.callWith_K (h₀ := X.base) I.ok.mod.kin hk (thn (ha.run pos pins s1 σ H1 _ I1 q) fun us s2 ⟨vs, H2, I2, r, q2⟩ => ⟨I2.kIn, ?_⟩) he hpl
  exact run_fnS F hr hb (hx σ) I2 r q2
section
variable {S : Sig} {ρ ρ1 : Env} {a b c e g : Expr} {d d1 d2 d3 : D} {ds : List D} {pos p2 : Pos} {pin : List Nat} {es : List Expr} {x : Str} {ps : List Str} {k : Nat} {f : Addr}
variable {τ : Type} {dd : τ → List D} {pre : τ → Prop} {rese : τ → Except Str O}
theorem xx_callEx [Calm S] (hg : XP S ρ g (.ok (.obj f))) (hG : FnG S.P S.w S.K S.mg S.base k x ps (spP S.K dd pre rese)) (hf : S.mg x = some (.ref f)) (y : τ) (hp : pre y) (ha : XA S ρ (e :: es) (dd y)) (hk : k ≤ S.kk := by exact Nat.le_of_ble_eq_true rfl)
    (he : ∀ env : PySem.Env, starEach (e :: es) env = (false, eval e env) :: starEach es env := by intro _; rfl) (hpl : ∀ env : PySem.Env, (backTo pos (starEach es env)).any (·.1) = false := by intro _; rfl)
    (hc : ∀ env : PySem.Env, eval (.Call g (e :: es) [] pos) env = (do callWith pos (← eval g env) [] (backTo pos (starEach (e :: es) env)) (backToKw pos (keywordEach [] env))) := by intro _; rfl) : XX S ρ (.Call g (e :: es) [] pos) (exX ρ (rese y)) := by
  obtain ⟨f', fd, F, hm, kp, b⟩ := hG.h
  rw [hf] at hm
  obtain rfl : f = f' := by injection hm with hm; injection hm
  obtain ⟨t, a1, a2⟩ := ha
  obtain ⟨tg, g1, g2⟩ := hg
  refine ⟨_, fun q ok => pe_callE (X := S.cx q) (g1 q ok) F ((ok.calm Calm.h).mono hk) kp b (fun σ => L2N.passAt ok.tk σ) (a1 q ok) (he _) (hpl _) (hc _), fun σ F0 H A Q w n q => g2 σ F0 H A _ w n fun v F1 H1 g r => ?_⟩
  cases r
  refine ⟨rfl, ex_call y a2 hp σ F1 H1 A Q (g.wf w) (g.envs n) ?_⟩
  cases hz : rese y with
  | ok o =>
    rw [hz] at q
    exact fun v F' H' B A' w' s' ow n' => q v F' H' B A' w' (((g.stp.mono (by simp) (A' := A)).more (C := A) fun a h => .inl h).trans s') ow n'
  | error z =>
    rw [hz] at q
    exact fun F' H' A' w' s' n' => q F' H' A' w' (((g.stp.mono (by simp) (A' := A)).more (C := A) fun a h => .inl h).trans s') n'
end
/-! ### results that are frozen, while what is owned changes -/
theorem Grow.stpA {F H F' H' : Hp} {A : List Addr} (g : Grow F H F' H') : Stp F H A F' H' A := (g.stp.mono (by simp) (A' := A)).more (C := A) fun a h => .inl h
abbrev XM (S : Sig) (ρ : Env) (e : Expr) (d : D) (ρ1 : Env) : Prop := XX S ρ e (.ok (.fro d) ρ1)
section
variable {S : Sig} {ρ ρ1 ρ2 : Env} {a b c e : Expr} {d d1 d2 d3 : D} {ds : List D} {pos p2 : Pos} {pin : List Nat} {es : List Expr} {ss : List Stmt} {r : RS}
theorem exm {t : TE} (h : EX S t ρ (.ok (.fro d) ρ1)) (σ : L2.St) (F H : Hp) (A : List Addr) (Q : VK) (w : WF F H A) (n : Envs S.K F H σ ρ A) (q : ∀ v F' H' A', WF F' H' A' → Stp F H A F' H' A' → Rep S.K F' v d → Envs S.K F' H' σ ρ1 A' → Q v H') : t σ H Q :=
  h σ F H A Q w n fun v F' H' B A' w' s' ow n' => by
    cases ow with
    | fro r => exact q v F' H' A' w' s' r n'
theorem exm_of {t : TE} (h : ∀ (σ : L2.St) (F H : Hp) (A : List Addr) (Q : VK), WF F H A → Envs S.K F H σ ρ A → (∀ v F' H' A', WF F' H' A' → Stp F H A F' H' A' → Rep S.K F' v d → Envs S.K F' H' σ ρ1 A' → Q v H') → t σ H Q) : EX S t ρ (.ok (.fro d) ρ1) :=
  fun σ F H A Q w n q => h σ F H A Q w n fun v F' H' A' w' s' r n' => q v F' H' [] A' w' s' (.fro r) n'
theorem XM.cast {d' : D} (h : XM S ρ e d ρ1) (q : d = d') : XM S ρ e d' ρ1 := q ▸ h
theorem exm_bin {r : R2} {ta tb : TE} (hr : OD S r d1 d2 d) (ha : EX S ta ρ (.ok (.fro d1) ρ1)) (hb : EX S tb ρ1 (.ok (.fro d2) ρ2)) : EX S (tOp r ta tb) ρ (.ok (.fro d) ρ2) :=
  exm_of fun σ F H A Q w n q => exm ha σ F H A _ w n fun x F1 H1 A1 w1 s1 r1 n1 => exm hb σ F1 H1 A1 _ w1 n1 fun y F2 H2 A2 w2 s2 r2 n2 =>
    hr x y F2 H2 Q w2.sub ((r1.mono s2.fs).mono w2.sub) (r2.mono w2.sub) fun v F3 H3 g r3 => q v F3 H3 A2 (g.wf w2) ((s1.trans s2).trans g.stpA) r3 (g.envs n2)
theorem xm_bin {op : Operator} (ho : OB S op d1 d2 d) (ha : XM S ρ a d1 ρ1) (hb : XM S ρ1 b d2 ρ2) : XM S ρ (.BinOp a op b pos) d ρ2 := by
  obtain ⟨r, h1, h2⟩ := ho.h
  obtain ⟨ta, a1, a2⟩ := ha
  obtain ⟨tb, b1, b2⟩ := hb
  exact ⟨_, fun q k => pe_op (h1 q k) (a1 q k) (b1 q k), exm_bin h2 a2 b2⟩
theorem xm_cmp {op : CmpOp} {c : Bool} (ho : OC S op d1 d2 c) (ha : XM S ρ a d1 ρ1) (hb : XM S ρ1 b d2 ρ2) (hm : behindInMarks op b = false := by first | exact nomark _ | rfl) : XM S ρ (.Compare a [op] [b] pos) (.bl c) ρ2 := by
  obtain ⟨r, h1, h2⟩ := ho.h
  obtain ⟨ta, a1, a2⟩ := ha
  obtain ⟨tb, b1, b2⟩ := hb
  exact ⟨_, fun q k => pe_cmpR (h1 q k) (a1 q k) (b1 q k) hm, exm_bin h2 a2 b2⟩
/-- tests -/
def ETM (S : Sig) (t : TT) (ρ : Env) (b : Bool) (ρ1 : Env) : Prop := ∀ (σ : L2.St) (F H : Hp) (A : List Addr) (Q : Bool → Hp → Prop), WF F H A → Envs S.K F H σ ρ A →
  (∀ F' H' A', WF F' H' A' → Stp F H A F' H' A' → Envs S.K F' H' σ ρ1 A' → Q b H') → t σ H Q
def XTM (S : Sig) (ρ : Env) (e : Expr) (b : Bool) (ρ1 : Env) : Prop := ∃ t, (∀ q, S.Ok q → PT (S.cx q) e t) ∧ ETM S t ρ b ρ1
def XWM (S : Sig) (ρ : Env) (e : Expr) (b : Bool) (ρ1 : Env) : Prop := ∃ t, (∀ q, S.Ok q → PW (S.cx q) e t) ∧ ETM S t ρ b ρ1
theorem XT.m {k : Bool} (h : XT S ρ e k) : XTM S ρ e k ρ := let ⟨t, h1, h2⟩ := h; ⟨t, h1, fun σ F H A Q w n q => h2 σ F H A Q w n fun F' H' g => q F' H' A (g.wf w) g.stpA (g.envs n)⟩
theorem XTM.cast {k k' : Bool} (h : XTM S ρ e k ρ1) (q : k = k') : XTM S ρ e k' ρ1 := q ▸ h
theorem XWM.t {k : Bool} (h : XWM S ρ e k ρ1) : XTM S ρ e k ρ1 := let ⟨t, h1, h2⟩ := h; ⟨t, fun q o => (h1 q o).pt, h2⟩
theorem xtm_cmp {op : CmpOp} {c : Bool} (ho : OC S op d1 d2 c) (ha : XM S ρ a d1 ρ1) (hb : XM S ρ1 b d2 ρ2) (hm : behindInMarks op b = false := by first | exact nomark _ | rfl) : XTM S ρ (.Compare a [op] [b] pos) c ρ2 := by
  obtain ⟨r, h1, h2⟩ := ho.h
  obtain ⟨ta, a1, a2⟩ := ha
  obtain ⟨tb, b1, b2⟩ := hb
  refine ⟨_, fun q k => pt_cmpR (h1 q k) (a1 q k) (b1 q k) hm, fun σ F H A Q w n q => exm (exm_bin h2 a2 b2) σ F H A _ w n fun v F' H' A' w' s' r n' => ?_⟩
  cases r
  exact ⟨c, rfl, q F' H' A' w' s' n'⟩
theorem xtm_not {k : Bool} (h : XTM S ρ a k ρ1) : XTM S ρ (.UnaryOp .Not a pos) (!k) ρ1 := let ⟨t, h1, h2⟩ := h; ⟨_, fun q o => pt_not (h1 q o), fun σ F H A Q w n q => h2 σ F H A _ w n fun F' H' A' w' s' n' => q F' H' A' w' s' n'⟩
theorem xtm_val {k : Bool} (h : XM S ρ e (.bl k) ρ1) (he : ∀ (env : PySem.Env) (whole : Sem Value), isTrue e env whole = (do let v ← whole; standAt e.pos; holding [v] (truthy v)) := by intro _ _; rfl) : XTM S ρ e k ρ1 := by
  obtain ⟨t, h1, h2⟩ := h
  refine ⟨_, fun q o => pt_val (h1 q o) (he _), fun σ F H A Q w n q => exm h2 σ F H A _ w n fun v F' H' A' w' s' r n' => ?_⟩
  cases r
  exact ⟨k, rfl, q F' H' A' w' s' n'⟩
theorem xwm_or1 {k : Bool} (h : XTM S ρ a k ρ1) : XWM S ρ (.BoolOp .Or [a] pos) k ρ1 := let ⟨t, h1, h2⟩ := h; ⟨t, fun q o => pw_or1 (h1 q o), h2⟩
theorem xwm_and1 {k : Bool} (h : XTM S ρ a k ρ1) : XWM S ρ (.BoolOp .And [a] pos) k ρ1 := let ⟨t, h1, h2⟩ := h; ⟨t, fun q o => pw_and1 (h1 q o), h2⟩
theorem xwm_or {l : Bool} {rest : List Expr} (h : XTM S ρ a false ρ1) (h' : XWM S ρ1 (.BoolOp .Or (b :: rest) pos) l ρ2) : XWM S ρ (.BoolOp .Or (a :: b :: rest) pos) l ρ2 := by
  obtain ⟨t, h1, h2⟩ := h
  obtain ⟨u, h3, h4⟩ := h'
  refine ⟨_, fun q o => pw_or (h1 q o) (h3 q o), fun σ F H A Q w n q => h2 σ F H A _ w n fun F1 H1 A1 w1 s1 n1 => ?_⟩
  show u σ H1 Q
  exact h4 σ F1 H1 A1 Q w1 n1 fun F' H' A' w' s' n' => q F' H' A' w' (s1.trans s') n'
theorem xwm_orT {rest : List Expr} (h : XTM S ρ a true ρ1) : XWM S ρ (.BoolOp .Or (a :: b :: rest) pos) true ρ1 := by
  obtain ⟨t, h1, h2⟩ := h
  refine ⟨L2.tOr t fun _ _ _ => False, fun q o => pw_or (h1 q o) ⟨fun _ _ _ _ _ _ _ z => z.elim⟩, fun σ F H A Q w n q => h2 σ F H A _ w n fun F1 H1 A1 w1 s1 n1 => ?_⟩
  show Q true H1
  exact q F1 H1 A1 w1 s1 n1
theorem xwm_and {l : Bool} {rest : List Expr} (h : XTM S ρ a true ρ1) (h' : XWM S ρ1 (.BoolOp .And (b :: rest) pos) l ρ2) : XWM S ρ (.BoolOp .And (a :: b :: rest) pos) l ρ2 := by
  obtain ⟨t, h1, h2⟩ := h
  obtain ⟨u, h3, h4⟩ := h'
  refine ⟨_, fun q o => pw_and (h1 q o) (h3 q o), fun σ F H A Q w n q => h2 σ F H A _ w n fun F1 H1 A1 w1 s1 n1 => ?_⟩
  show u σ H1 Q
  exact h4 σ F1 H1 A1 Q w1 n1 fun F' H' A' w' s' n' => q F' H' A' w' (s1.trans s') n'
theorem xwm_andF {rest : List Expr} (h : XTM S ρ a false ρ1) : XWM S ρ (.BoolOp .And (a :: b :: rest) pos) false ρ1 := by
  obtain ⟨t, h1, h2⟩ := h
  refine ⟨L2.tAnd t fun _ _ _ => False, fun q o => pw_and (h1 q o) ⟨fun _ _ _ _ _ _ _ z => z.elim⟩, fun σ F H A Q w n q => h2 σ F H A _ w n fun F1 H1 A1 w1 s1 n1 => ?_⟩
  show Q false H1
  exact q F1 H1 A1 w1 s1 n1
/-- values: a and b -/
theorem xm_one {op : BoolOp} {r} (h : XX S ρ a r) : XX S ρ (.BoolOp op [a] pos) r := let ⟨t, h1, h2⟩ := h; ⟨t, fun q o => pe_one (h1 q o), h2⟩
theorem xm_and {l : Bool} {rest : List Expr} (h : XM S ρ a (.bl true) ρ1) (h' : XM S ρ1 (.BoolOp .And (b :: rest) pos) (.bl l) ρ2) : XM S ρ (.BoolOp .And (a :: b :: rest) pos) (.bl l) ρ2 := by
  obtain ⟨t, h1, h2⟩ := h
  obtain ⟨u, h3, h4⟩ := h'
  refine ⟨_, fun q o => pe_and (h1 q o) (h3 q o), exm_of fun σ F H A Q w n q => exm h2 σ F H A _ w n fun v F1 H1 A1 w1 s1 r1 n1 => ?_⟩
  cases r1
  refine ⟨true, rfl, ?_⟩
  exact exm h4 σ F1 H1 A1 Q w1 n1 fun v F' H' A' w' s' r' n' => q v F' H' A' w' (s1.trans s') r' n'
/-- arguments, displays -/
def EAM (S : Sig) (t : TA) (ρ : Env) (ds : List D) (ρ1 : Env) : Prop := ∀ (σ : L2.St) (F H : Hp) (A : List Addr) (Q : List V → Hp → Prop), WF F H A → Envs S.K F H σ ρ A →
  (∀ vs F' H' A', WF F' H' A' → Stp F H A F' H' A' → Reps S.K F' vs ds → Envs S.K F' H' σ ρ1 A' → Q vs H') → t σ H Q
def XAM (S : Sig) (ρ : Env) (es : List Expr) (ds : List D) (ρ1 : Env) : Prop := ∃ t, (∀ q, S.Ok q → PA (S.cx q) es t) ∧ EAM S t ρ ds ρ1
theorem XA.m (h : XA S ρ es ds) : XAM S ρ es ds ρ := let ⟨t, h1, h2⟩ := h; ⟨t, h1, fun σ F H A Q w n q => h2 σ F H A Q w n fun vs F' H' g r => q vs F' H' A (g.wf w) g.stpA r (g.envs n)⟩
theorem xam_nil : XAM S ρ [] [] ρ := xa_nil.m
theorem xam_cons (h : XM S ρ e d ρ1) (r : XAM S ρ1 es ds ρ2) (hs : ∀ env : PySem.Env, starEach (e :: es) env = (false, eval e env) :: starEach es env := by intro _; rfl) : XAM S ρ (e :: es) (d :: ds) ρ2 := by
  obtain ⟨t, h1, h2⟩ := h
  obtain ⟨u, h3, h4⟩ := r
  exact ⟨_, fun q k => pa_cons (h1 q k) (h3 q k) (hs _), fun σ F H A Q w n q => exm h2 σ F H A _ w n fun v F1 H1 A1 w1 s1 r1 n1 => h4 σ F1 H1 A1 _ w1 n1 fun vs F2 H2 A2 w2 s2 r2 n2 => q (v :: vs) F2 H2 A2 w2 (s1.trans s2) (.cons (r1.mono s2.fs) r2) n2⟩
theorem xm_tup {k} (h : XAM S ρ es ds ρ1) (hl : ds.length ≤ 1000000 := by simp) : XM S ρ (.Tuple es k pos) (.tup ds) ρ1 := by
  obtain ⟨t, h1, h2⟩ := h
  refine ⟨_, fun q k => pe_tup (h1 q k), exm_of fun σ F H A Q w n q => h2 σ F H A _ w n fun vs F1 H1 A1 w1 s1 r n1 => ⟨line_le (by rw [r.length]; exact hl), fun p hp => ?_⟩⟩
  have g : Grow F1 H1 (upd F1 p (.tup vs)) (upd H1 p (.tup vs)) := Grow.new w1.sub hp
  exact q (.ref p) _ _ A1 (g.wf w1) (s1.trans g.stpA) (.tup upd_same (reps_new w1.sub hp r)) (g.envs n1)
/-! if -/
theorem xb_ifF {A : List Stmt} (hc : XTM S ρ c false ρ1) (h : XB S pin ρ1 ss r) : XB S pin ρ (.If c A [] pos :: ss) r := by
  obtain ⟨t, h1, h2⟩ := hc
  refine xb_cons ⟨tIfS t tNever (fun D => D.nx), fun q ok => ps_if (h1 q ok) pss_never pss_nil, fun σ F H A D w n q => h2 σ F H A _ w n fun F1 H1 A1 w1 s1 n1 => ?_⟩ h
  show D.nx σ H1
  exact q σ F1 H1 A1 w1 s1 n1 Pin.refl
theorem xb_ifE {A B : List Stmt} {ρ2 : Env} (hc : XTM S ρ c false ρ1) (hB : XB S pin ρ1 B (.nx ρ2)) (h : XB S pin ρ2 ss r) : XB S pin ρ (.If c A B pos :: ss) r := by
  obtain ⟨t, h1, h2⟩ := hc
  obtain ⟨u, h3, h4⟩ := hB
  refine xb_cons ⟨tIfS t tNever u, fun q ok => ps_if (h1 q ok) pss_never (h3 q ok), fun σ F H A D w n q => h2 σ F H A _ w n fun F1 H1 A1 w1 s1 n1 => ?_⟩ h
  show u D σ H1
  exact h4 σ F1 H1 A1 D w1 n1 (EPost.trans q s1 Pin.refl)
theorem xb_ifT {A B : List Stmt} (hc : XTM S ρ c true ρ1) (h : XB S pin ρ1 A r) (hr : ∀ ρ, r ≠ .nx ρ) : XB S pin ρ (.If c A B pos :: ss) r := by
  obtain ⟨t, h1, h2⟩ := hc
  obtain ⟨u, h3, h4⟩ := h
  refine xb_stop ⟨tIfS t u tNever, fun q ok => ps_if (h1 q ok) (h3 q ok) pss_never, fun σ F H A D w n q => h2 σ F H A _ w n fun F1 H1 A1 w1 s1 n1 => ?_⟩ hr
  show u D σ H1
  exact h4 σ F1 H1 A1 D w1 n1 (EPost.trans q s1 Pin.refl)
theorem xb_ifN {A B : List Stmt} {ρ2 : Env} (hc : XTM S ρ c true ρ1) (hA : XB S pin ρ1 A (.nx ρ2)) (h : XB S pin ρ2 ss r) : XB S pin ρ (.If c A B pos :: ss) r := by
  obtain ⟨t, h1, h2⟩ := hc
  obtain ⟨u, h3, h4⟩ := hA
  refine xb_cons ⟨tIfS t u tNever, fun q ok => ps_if (h1 q ok) (h3 q ok) pss_never, fun σ F H A D w n q => h2 σ F H A _ w n fun F1 H1 A1 w1 s1 n1 => ?_⟩ h
  show u D σ H1
  exact h4 σ F1 H1 A1 D w1 n1 (EPost.trans q s1 Pin.refl)
/-! an owned name, handed on -/
theorem xx_own (i : Nat) {x : Str} {o : O} (hρ : ρ[i]? = some (some o) := by rfl) (hN : S.N[i]? = some x := by rfl) (hv : Vis S.scope x := by first | exact Or.inl rfl | exact Or.inr (Or.inl rfl) | exact Or.inr (Or.inr rfl))
    (hd : (x == ("__debug__" : Str)) = false := by decide) (hcd : (x == ("__classdict__" : Str)) = false := by decide) : XX S ρ (.Name x pos) (.ok o (ρ.set i none)) :=
  ⟨tVar i, fun q _ => pe_var hN hv hd hcd, fun σ F H A Q w n q => by
    obtain ⟨v, B, A', h1, h2, h3, h4⟩ := n.get hρ
    exact ⟨v, h1, q v F H B A' (w.perm h4) (Stp.refl.perm (fun _ => Iff.rfl) fun a h => h4.mem_iff.mpr h) h2 h3⟩⟩
/-! x.append(e), where e changes what is owned -/
theorem xx_appM (i : Nat) {x : Str} {apos cpos : Pos} {os0 os : List O} (he : XM S ρ e d ρ1) (h0 : ρ[i]? = some (some (.lst os0)) := by rfl) (hl : ρ1[i]? = some (some (.lst os)) := by rfl) (hn : os.length < 1000000 := by simp; omega) (hN : S.N[i]? = some x := by rfl) (hv : Vis S.scope x := by first | exact Or.inl rfl | exact Or.inr (Or.inl rfl) | exact Or.inr (Or.inr rfl))
    (hd : (x == ("__debug__" : Str)) = false := by decide) (hcd : (x == ("__classdict__" : Str)) = false := by decide)
    (hbase : ∀ env : PySem.Env, attributeBase (.Name x p2) "append" env (eval (.Name x p2) env) = eval (.Name x p2) env := by intro _; rfl)
    (hfew : ∀ env : PySem.Env, ((backTo cpos (starEach [e] env)).all (fun x => !x.1) && (backToKw cpos (keywordEach [] env)).all (fun x => x.1.isSome) && decide ([e].length + ([] : List Keyword).length + (if ([] : List Keyword).isEmpty then 0 else 1) < 30)) = true := by intro _; rfl)
    (hline : (apos.endLine == cpos.line) = true := by rfl) (hs : ∀ env : PySem.Env, starEach [e] env = (false, eval e env) :: starEach [] env := by intro _; rfl) (hplain : ∀ env : PySem.Env, (backTo cpos (starEach [] env)).any (·.1) = false := by intro _; rfl) :
    XX S ρ (.Call (.Attribute (.Name x p2) "append" apos) [e] [] cpos) (.ok (.fro .non) (ρ1.set i (some (.lst (os ++ [.fro d]))))) := by
  obtain ⟨ta, a1, a2⟩ := xam_cons he xam_nil hs
  refine ⟨tBM S.K "list" rAppend (tVar i) ta, fun q ok => pe_bm PySem.F.plainAttrs_list PySem.F.slot_list_append PySem.F.type_list_append mt_append (pe_var hN hv hd hcd) (a1 q ok) (hbase _) (hfew _) hline (hs _) (hplain _), fun σ F H A Q w n q => ?_⟩
  obtain ⟨v, B, A', g1, g2, g3, g4⟩ := n.get h0
  cases g2 with
  | lst hx0 r0 =>
  rename_i l xs0 B0
  refine ⟨_, g1, .inl ⟨rfl, _, SqL.of hx0⟩, a2 σ F H A _ w n fun vs F1 H1 A1 w1 s1 rr n1 => ?_⟩
  obtain ⟨y, rfl, ry⟩ := reps1 rr
  obtain ⟨v', B', A'', k1, k2, k3, k4⟩ := n1.get hl
  rw [g1] at k1
  obtain rfl : V.ref l = v' := by injection k1 with k1; injection k1
  cases k2 with
  | lst hx r =>
  rename_i xs A0
  have fo : Foc S.K F1 H1 σ A1 (.ref l) (.lst os) (fun o' => ρ1.set i (some o')) (l :: A0) A'' := ⟨.lst hx r, k4, fun F' H' o' B' e k ow => by
    have e2 : (ρ1.set i none)[i]? = some none := by
      rw [List.getElem?_set_self]
      exact (List.getElem?_eq_some_iff.mp hl).1
    obtain ⟨A2, n3, p3⟩ := (k3.mono e (S := A'') k fun _ h => h).back ow e2 g1
    rw [List.set_set] at n3
    exact ⟨A2, n3, p3⟩⟩
  have len := r.length
  have lA : l ∉ A0 := fun z => (List.nodup_cons.mp (w1.perm k4).left.nd).1 z
  refine ⟨l, xs, y, rfl, rfl, hx, line_lt (by omega), ?_⟩
  obtain ⟨A3, n', w', s'⟩ := Foc.mut (B2 := []) (A1 := A0 ++ []) (X := []) (u := .lst (xs ++ [y])) (o' := .lst (os ++ [.fro d])) w1 fo (by simp) (.lst upd_same (Owns.append (r.mono (Ext.refl _) (S := A0) (fun x u h hx => by rw [upd_ne fun z => lA (by rw [← z]; exact hx)]; exact h) fun _ h => h) (Owns.fros (ds := [d]) (.cons ry .nil))))
  exact q .non F1 _ [] A3 w' (s1.trans s') (.fro .non) n'
end
/-! ### a def of which one argument is owned -/
theorem Owns.splitW {K : PySem.W.Frag} {F H : Hp} {ds2 : List D} {s : O} : ∀ {ds1 : List D} {vs : List V} {A : List Addr}, Owns K F H vs (ds1.map O.fro ++ s :: ds2.map O.fro) A → ∃ vs1 v vs2, vs = vs1 ++ v :: vs2 ∧ Reps K F vs1 ds1 ∧ Reps K F vs2 ds2 ∧ Own K F H v s A
  | [], vs, A, h => by
    cases h with
    | cons ow r =>
      obtain ⟨r2, rfl⟩ := Owns.fros_inv r
      exact ⟨[], _, _, rfl, .nil, r2, by rw [List.append_nil]; exact ow⟩
  | d :: ds1, vs, A, h => by
    cases h with
    | cons ow r =>
      cases ow with
      | fro r0 =>
        obtain ⟨vs1, v, vs2, rfl, r1, r2, ow⟩ := r.splitW
        exact ⟨_ :: vs1, v, vs2, rfl, .cons r0 r1, r2, ow⟩
theorem Owns.joinW {K : PySem.W.Frag} {F H : Hp} {ds2 : List D} {s : O} {v : V} {vs2 : List V} {A : List Addr} (r2 : Reps K F vs2 ds2) (ow : Own K F H v s A) : ∀ {ds1 : List D} {vs1 : List V}, Reps K F vs1 ds1 → Owns K F H (vs1 ++ v :: vs2) (ds1.map O.fro ++ s :: ds2.map O.fro) A
  | [], _, .nil => by
    have := Owns.cons ow (Owns.fros (H := H) r2)
    rw [List.append_nil] at this
    exact this
  | d :: ds1, _, .cons r0 r1 => Owns.cons (A := []) (B := A) (.fro r0) (Owns.joinW r2 ow r1)
def rmW (ds1 ds2 : List D) : Except Str O × O → RM
  | (.ok o, s) => .ok o (ds1.map O.fro ++ s :: ds2.map O.fro)
  | (.error x, s) => .ex x (ds1.map O.fro ++ s :: ds2.map O.fro)
abbrev spW (K : PySem.W.Frag) {τ : Type} (dd1 : τ → List D) (slf : τ → O) (dd2 : τ → List D) (pre : τ → Prop) (res : τ → Except Str O × O) : Sp := spG K (fun x => (dd1 x).map O.fro ++ slf x :: (dd2 x).map O.fro) pre fun x => rmW (dd1 x) (dd2 x) (res x)
section
variable {S : Sig} {ρ ρ1 : Env} {a b c e : Expr} {d : D} {ds ds1 ds2 : List D} {pos p2 : Pos} {pin : List Nat} {es : List Expr} {x : Str} {ps : List Str} {k : Nat}
variable {τ : Type} {dd1 dd2 : τ → List D} {pre : τ → Prop} {slf : τ → O} {res : τ → Except Str O × O}
def EAW (S : Sig) (t : TA) (ρ : Env) (ds1 : List D) (i : Nat) (ds2 : List D) : Prop := ∀ (σ : L2.St) (F H : Hp) (A : List Addr) (Q : List V → Hp → Prop), WF F H A → Envs S.K F H σ ρ A →
  (∀ vs1 v vs2 F' H', Grow F H F' H' → Reps S.K F' vs1 ds1 → Reps S.K F' vs2 ds2 → σ[i]? = some (some v) → Q (vs1 ++ v :: vs2) H') → t σ H Q
def XAW (S : Sig) (ρ : Env) (es : List Expr) (ds1 : List D) (i : Nat) (ds2 : List D) : Prop := ∃ t, (∀ q, S.Ok q → PA (S.cx q) es t) ∧ EAW S t ρ ds1 i ds2
theorem xaw_here (i : Nat) {x : Str} {o : O} (r : XA S ρ es ds) (hρ : ρ[i]? = some (some o) := by rfl) (hN : S.N[i]? = some x := by rfl) (hv : Vis S.scope x := by first | exact Or.inl rfl | exact Or.inr (Or.inl rfl) | exact Or.inr (Or.inr rfl))
    (hd : (x == ("__debug__" : Str)) = false := by decide) (hcd : (x == ("__classdict__" : Str)) = false := by decide) (hs : ∀ env : PySem.Env, starEach (.Name x pos :: es) env = (false, eval (.Name x pos) env) :: starEach es env := by intro _; rfl) : XAW S ρ (.Name x pos :: es) [] i ds := by
  obtain ⟨t, a1, a2⟩ := r
  refine ⟨_, fun q ok => pa_cons (pe_var hN hv hd hcd) (a1 q ok) (hs _), fun σ F H A Q w n q => ?_⟩
  obtain ⟨v, B, A', h1, h2, h3, h4⟩ := n.get hρ
  exact ⟨v, h1, a2 σ F H A _ w n fun vs F1 H1 g rr => q [] v vs F1 H1 g .nil rr h1⟩
theorem xaw_cons {i : Nat} (h : XP S ρ e (.ok d)) (r : XAW S ρ es ds1 i ds2) (hs : ∀ env : PySem.Env, starEach (e :: es) env = (false, eval e env) :: starEach es env := by intro _; rfl) : XAW S ρ (e :: es) (d :: ds1) i ds2 := by
  obtain ⟨t, h1, h2⟩ := h
  obtain ⟨u, r1, r2⟩ := r
  exact ⟨_, fun q o => pa_cons (h1 q o) (r1 q o) (hs _), fun σ F H A Q w n q => h2 σ F H A _ w n fun v F1 H1 g1 p1 => r2 σ F1 H1 A _ (g1.wf w) (g1.envs n) fun vs1 v' vs2 F2 H2 g2 q1 q2 z => q (v :: vs1) v' vs2 F2 H2 (g1.trans g2) (.cons (p1.mono g2.stp.fs) q1) q2 z⟩
theorem ex_callW {t : TA} (y : τ) {i : Nat} (hρ : ρ[i]? = some (some (slf y))) (ha : EAW S t ρ (dd1 y) i (dd2 y)) (hp : pre y) : EX S (tCallS (spW S.K dd1 slf dd2 pre res) (WE S.wx) t) ρ (exM (fun s => ρ.set i (some s)) (res y)) := fun σ F H A Q w n q => ha σ F H A _ w n fun vs1 v vs2 F1 H1 g r1 r2 hv => by
  obtain ⟨v', B, C0, h1, h2, h3, h4⟩ := n.get hρ
  rw [hv] at h1
  obtain rfl : v = v' := by injection h1 with h1; injection h1
  have fo : Foc S.K F1 H1 σ A v (slf y) (fun o' => ρ.set i (some o')) B C0 := (Foc.mk h2 h4 fun F' H' o' B' e k ow => by
    have e2 : (ρ.set i none)[i]? = some none := by
      rw [List.getElem?_set_self]
      exact (List.getElem?_eq_some_iff.mp hρ).1
    obtain ⟨A2, n3, p3⟩ := (h3.mono e (S := C0) k fun _ h => h).back ow e2 hv
    rw [List.set_set] at n3
    exact ⟨A2, n3, p3⟩ : Foc S.K F H σ A v (slf y) (fun o' => ρ.set i (some o')) B C0).grow g
  have w1 := (g.wf w).perm fo.perm
  refine ⟨y, F1, B, w1.left, Owns.joinW r2 fo.own r1, hp, ?_⟩
  show RM.Post _ _ _ _ _ _ _ (rmW (dd1 y) (dd2 y) (res y))
  have s0 : Stp F H A F1 H1 (B ++ C0) := (g.stpA (A := A)).perm (fun _ => Iff.rfl) fun a h => fo.perm.mem_iff.mpr h
  have lenE : ∀ {F2 H2 A2 s}, Owns S.K F2 H2 (vs1 ++ v :: vs2) ((dd1 y).map O.fro ++ s :: (dd2 y).map O.fro) A2 → Own S.K F2 H2 v s A2 := fun {F2 H2 A2 s} ows => by
    obtain ⟨u1, u, u2, e, q1, q2, ow⟩ := ows.splitW
    obtain ⟨_, e2⟩ := List.append_inj e (by rw [r1.length, q1.length])
    injection e2 with e3 e4
    rw [e3]; exact ow
  rcases hr : res y with ⟨z | z, s⟩
  · rw [hr] at q
    intro F2 H2 A2 w2 s2 ows
    obtain ⟨w3, s3, k3⟩ := frame w1 s2 w2
    obtain ⟨A', n', p'⟩ := fo.back F2 H2 s A2 s2.fs k3 (lenE ows)
    exact q F2 H2 A' (w3.perm p'.symm) ((s0.trans s3).perm (fun _ => Iff.rfl) fun a h => p'.mem_iff.mp h) n'
  · rw [hr] at q
    intro u F2 H2 Bo A2 w2 s2 ow2 ows
    obtain ⟨w3, s3, k3⟩ := frame w1 s2 w2
    obtain ⟨A', n', p'⟩ := fo.back F2 H2 s A2 s2.fs k3 (lenE ows)
    have p2 : (Bo ++ A2 ++ C0).Perm (Bo ++ A') := by
      rw [List.append_assoc]
      exact List.Perm.append_left Bo p'.symm
    exact q u F2 H2 Bo A' (w3.perm p2) ((s0.trans s3).perm (fun _ => Iff.rfl) fun a h => p2.mem_iff.mpr h) ow2 n'
/-- f(.., x, ..), x owned -/
theorem xx_callW [Calm S] (hG : FnG S.P S.w S.K S.mg S.base k x ps (spW S.K dd1 slf dd2 pre res)) (y : τ) (hp : pre y) (i : Nat) (ha : XAW S ρ (e :: es) (dd1 y) i (dd2 y)) (hρ : ρ[i]? = some (some (slf y)) := by rfl) (hk : k ≤ S.kk := by exact Nat.le_of_ble_eq_true rfl) (hg : S.scope.names.lookup x = some .globalImplicit := by rfl) (hdb : (x == ("__debug__" : Str)) = false := by decide)
    (he : ∀ env : PySem.Env, starEach (e :: es) env = (false, eval e env) :: starEach es env := by intro _; rfl) (hpl : ∀ env : PySem.Env, (backTo pos (starEach es env)).any (·.1) = false := by intro _; rfl) : XX S ρ (.Call (.Name x p2) (e :: es) [] pos) (exM (fun s => ρ.set i (some s)) (res y)) := by
  obtain ⟨f, fd, F, hm, kp, b⟩ := hG.h
  obtain ⟨t, a1, a2⟩ := ha
  exact ⟨_, fun q ok => pe_callS (X := S.cx q) F ((ok.calm Calm.h).mono hk) (show S.scope.names.lookup x = some .globalImplicit from hg) hm kp b (fun σ => L2N.passAt ok.tk σ) (a1 q ok) hdb (he _) (hpl _), ex_callW y hρ a2 hp⟩
end
inductive FitsW (j : Nat) : RS → Except Str O × O → Prop
  | rt {o ρ s r} (h0 : ρ[j]? = some (some s)) (h : (.ok o, s) = r) : FitsW j (.rt o (some ρ)) r
  | nx {ρ s r} (h0 : ρ[j]? = some (some s)) (h : (.ok (.fro .non), s) = r) : FitsW j (.nx ρ) r
  | ex {x ρ s r} (h0 : ρ[j]? = some (some s)) (h : (.error x, s) = r) : FitsW j (.ex x (some ρ)) r
section
variable {P : Program} {w : World} {K : PySem.W.Frag} {mg : Str → Option Value} {base : Heap}
theorem self_outW {j : Nat} {F H : Hp} {σ σ0 : L2.St} {ρ : Env} {A : List Addr} {v : V} {s : O} (n : Envs K F H σ ρ A) (h0 : ρ[j]? = some (some s)) (e0 : σ0[j]? = some (some v)) (p : Pin [j] σ0 σ) : ∃ B A', Own K F H v s B ∧ A.Perm (B ++ A') := by
  obtain ⟨v', B, A', h1, h2, h3, h4⟩ := n.get h0
  have := p.at_ j (by simp)
  rw [h1, e0] at this
  cases this
  exact ⟨B, A', h2, h4⟩
theorem def_W {x qual : Str} {st : Stmt} {f : Addr} {fd : FuncData} {N ps : List Str} {k : Nat} {τ : Type} {dd1 dd2 : τ → List D} {slf : τ → O} {pre : τ → Prop} {res : τ → Except Str O × O} (j : Nat) (F : ∃ dvs kws, FunD K x qual (defArgs st) (defBody st) (defScope st) dvs kws f fd) (Sc : FnScope N ps (defScope st)) (hl : ∀ y, (dd1 y).length + ((dd2 y).length + 1) = ps.length) (hj : ∀ y, (dd1 y).length = j)
    (body : ∀ (y : τ) (E : XK), pre y → ∃ r, XB (sigOf P w K mg base N (defScope st) k E) [j] (((dd1 y).map (fun d => some (O.fro d)) ++ some (slf y) :: (dd2 y).map (fun d => some (O.fro d))) ++ List.replicate (N.length - ps.length) none) (defBody st) r ∧ FitsW j r (res y)) :
    FnOk P w K mg base (L2N.CX P w) (k + 1) f fd ps (spW K dd1 slf dd2 pre res) := by
  obtain ⟨dvs, kws, F⟩ := F
  refine F.ok Sc (fun vs H Q E h => ?_) (fun cdv A outer s H vs Q E hr h => ?_)
  · obtain ⟨y, F1, A1, _, ow, _⟩ := h
    rw [ow.length, List.length_append, List.length_cons, List.length_map, List.length_map, hl]
  · obtain ⟨y, F1, A1, w1, ow, hp, post⟩ := h
    obtain ⟨r, ⟨t, h1, h2⟩, fit⟩ := body y E hp
    obtain ⟨q, ok, e⟩ := sig_ok (P := P) (w := w) (K := K) (mg := mg) (base := base) (cd := cdv) (outer := outer) (H := H) (E := E) Sc hr
    refine ⟨t, by rw [← e]; exact h1 q ok, ?_⟩
    have n1 := start_of (N := N) ow
    rw [List.length_append, List.length_cons, List.length_map, List.length_map, hl, List.map_append, List.map_cons, List.map_map, List.map_map] at n1
    refine h2 _ F1 H A1 _ w1 n1 ?_
    have post' : RM.Post K vs F1 H A1 Q E (rmW (dd1 y) (dd2 y) (res y)) := post
    obtain ⟨vs1, v0, vs2, rfl, r1, r2, ow0⟩ := ow.splitW
    have z0 : (L2.start N (vs1 ++ v0 :: vs2))[j]? = some (some v0) := by
      unfold L2.start
      rw [← hj y, ← r1.length, List.getElem?_append_left (by simp), List.getElem?_map, List.getElem?_append_right (Nat.le_refl _), Nat.sub_self]
      rfl
    cases fit with
    | rt h0 z =>
      rw [← z] at post'
      intro v σ' F' H' B A' w' s' ow' n' p'
      obtain ⟨B1, A2, o1, p1⟩ := self_outW n' h0 z0 p'
      have p2 : (B ++ A').Perm ((B ++ B1) ++ A2) := by
        rw [List.append_assoc]
        exact List.Perm.append_left B p1
      exact post' v F' H' B B1 (w'.perm p2).left (s'.perm (fun a => Iff.rfl) fun a h => p2.mem_iff.mpr (List.mem_append_left _ h)) ow' (Owns.joinW (r2.mono s'.fs) o1 (r1.mono s'.fs))
    | nx h0 z =>
      rw [← z] at post'
      intro σ' F' H' A' w' s' n' p'
      obtain ⟨B1, A2, o1, p1⟩ := self_outW n' h0 z0 p'
      exact post' .non F' H' [] B1 (w'.perm p1).left (s'.perm (fun a => Iff.rfl) fun a h => p1.mem_iff.mpr (List.mem_append_left _ h)) (.fro .non) (Owns.joinW (r2.mono s'.fs) o1 (r1.mono s'.fs))
    | ex h0 z =>
      rw [← z] at post'
      intro σ' F' H' A' w' s' n' p'
      obtain ⟨B1, A2, o1, p1⟩ := self_outW n' h0 z0 p'
      exact post' F' H' B1 (w'.perm p1).left (s'.perm (fun a => Iff.rfl) fun a h => p1.mem_iff.mpr (List.mem_append_left _ h)) (Owns.joinW (r2.mono s'.fs) o1 (r1.mono s'.fs))
end
end G

namespace G
open PySem PySem.Spec PyProof.Rows L2
open PySem.W (Datum DatumOrd Tup T3)
open Enc (enc)
section
variable {S : Sig} {ρ ρ1 ρ2 : Env} {a b c e it tg : Expr} {d d1 d2 d3 : D} {ds : List D} {pos p2 : Pos} {pin : List Nat} {es : List Expr} {ss body : List Stmt} {r : RS}
/-! range, downward -/
def rngD (lo hi : Int) : List Int := (List.range (lo - hi).toNat).map fun i => lo - (i : Nat)
theorem rngD_len (lo hi : Int) : (rngD lo hi).length = (lo - hi).toNat := by unfold rngD; simp
theorem rngD_get {lo hi : Int} {i : Nat} {x : Int} (h : (rngD lo hi)[i]? = some x) : i < (lo - hi).toNat ∧ x = lo - (i : Nat) := by
  unfold rngD at h
  rw [List.getElem?_map] at h
  by_cases hi' : i < (lo - hi).toNat
  · rw [List.getElem?_range hi'] at h
    exact ⟨hi', by injection h with h; exact h.symm⟩
  · rw [List.getElem?_eq_none (by simp; omega)] at h
    cases h
theorem rng_get' {lo hi : Int} {i : Nat} {x : Int} (h : (rng lo hi)[i]? = some x) : i < (hi - lo).toNat ∧ x = lo + (i : Nat) := by
  have := (List.getElem?_eq_some_iff.mp h).1
  rw [rng_len] at this
  rw [rng_get this] at h
  exact ⟨this, by injection h with h; exact h.symm⟩
theorem src_rngD {K : PySem.W.Frag} {F : Hp} {lo hi : Int} : Src K (Itc lo (-1) (lo - hi).toNat) F ((rngD lo hi).map enc) := by
  refine ⟨_, _, by rw [List.length_map, rngD_len]; exact walk_rangeC, fun _ _ => trivial, fun i H2 x H3 F2 hh e e2 y => ?_⟩
  rw [List.length_map, rngD_len] at hh
  obtain ⟨rfl, rfl⟩ := y
  refine ⟨F2, .int (lo + (i : Nat) * (-1)), ?_, Grow.refl e2, .int⟩
  unfold rngD
  rw [List.getElem?_map, List.getElem?_map, List.getElem?_range hh]
  show some (D.int _) = some (D.int _)
  congr 2
  dsimp only
  omega
theorem xi_rngD {lo hi : Int} (hm : S.mg "range" = none) (h : TP S ρ a lo) (h' : TP S ρ b hi) (h'' : TP S ρ c (-1)) (hb : -(2 ^ 62) ≤ lo ∧ lo < 2 ^ 62 ∧ -(2 ^ 62) ≤ hi ∧ hi < 2 ^ 62) (hg : S.scope.names.lookup ("range" : Str) = some .globalImplicit := by rfl)
    (hs : ∀ env : PySem.Env, starEach [a, b, c] env = (false, eval a env) :: starEach [b, c] env := by intro _; rfl) (hs2 : ∀ env : PySem.Env, starEach [b, c] env = (false, eval b env) :: starEach [c] env := by intro _; rfl) (hs3 : ∀ env : PySem.Env, starEach [c] env = (false, eval c env) :: starEach [] env := by intro _; rfl)
    (hpl : ∀ env : PySem.Env, (backTo pos (starEach [b, c] env)).any (·.1) = false := by intro _; rfl) : XI S ρ tg (.Call (.Name "range" p2) [a, b, c] [] pos) ((rngD lo hi).map enc) := by
  obtain ⟨t, h1, h2⟩ := xa_cons h (xa_cons h' (xa_cons h'' xa_nil hs3) hs2) hs
  refine ⟨_, fun q ok => pi_range3 (X := S.cx q) (show S.scope.names.lookup ("range" : Str) = some .globalImplicit from hg) hm (h1 q ok) (hs _) (hpl _), fun σ F H A R w n k => h2 σ F H A _ w n fun vs F1 H1 g rr => ?_⟩
  cases rr with
  | cons r rr => cases rr with
    | cons r' rr => cases rr with
      | cons r'' rr =>
        cases rr
        cases r; cases r'; cases r''
        exact ⟨lo, hi, -1, _, rfl, RgC.neg hb.1 hb.2.1 hb.2.2.1 hb.2.2.2, k _ F1 H1 g src_rngD⟩
/-! a loop whose state is the turn's number -/
theorem xb_forC [Calm S] {α : Type} (xs : List α) (g : α → D) (R : Nat → Env) {tgt : TG} (ρb : Nat → α → Env) (hi : XI S (R 0) tg it (xs.map g)) (hg : ∀ q, S.Ok q → PG (S.cx q) tg tgt) (hG : ∀ s x, EG S pin tgt (R s) (g x) (ρb s x))
    (hb : ∀ i x, xs[i]? = some x → XB S pin (ρb i x) body (.nx (R (i + 1)))) (h : XB S pin (R xs.length) ss r) (hq : ρ = R 0 := by rfl)
    (hs : ∀ (env : PySem.Env) (x : Value), foldedSetIterable it env x = pure x := by intro _ _; rfl) : XB S pin ρ (.For tg it body [] pos :: ss) r := by
  subst hq
  have z := xs_forN (pin := pin) (body := body) (pos := pos) xs g R (fun i _ => i + 1) (fun i s => s = i) ρb 0 hi hg hG rfl (fun i s x hx e => by subst e; exact ⟨hb _ x hx, rfl⟩) hs
  have e : ∀ (xs : List α) (n : Nat), xs.foldl (fun i _ => i + 1) n = n + xs.length := by
    intro xs
    induction xs with
    | nil => intro n; rfl
    | cons x xs ih => intro n; rw [List.foldl_cons, ih, List.length_cons]; omega
  rw [e, Nat.zero_add] at z
  exact xb_cons z h
/-- e.f = v, of a field that is there -/
theorem xs_fldR {C : Addr} {ns : List Str} {os : List O} {f : Str} {value : Expr} {pos' : Pos} {o2 : O} {up : O → Env} (j : Nat) (c : Cls S.K C) (na : NoAttr S.K C f) (hv : XX S ρ value (.ok o2 ρ1)) (h : XL S ρ1 e (.ins C ns os) up) (hf : fidx f ns = some j := by decide) (hl : ns.length < 900 := by decide) (hj : Nat.blt j os.length = true := by rfl) (hq : up (.ins C ns (os.set j o2)) = ρ2 := by rfl)
    (hs : ∀ env : PySem.Env, swapsWith value (some (.Attribute e f pos')) pos.line env = pure false := by intro _; rfl) : XS S pin ρ (.Assign [.Attribute e f pos'] value pos) (.nx ρ2) := by
  subst hq
  exact xs_fldO j c na hv h hf hl (Nat.le_of_ble_eq_true hj) hs
theorem xm_r {q : RE} (h : XX S ρ e q) (hr : q = .ok (.fro d) ρ1 := by rfl) : XM S ρ e d ρ1 := by subst hr; exact h
theorem xs_retM {q : RE} {o : O} (h : XX S ρ e q) (hr : q = .ok o ρ1 := by rfl) : XS S pin ρ (.Return (some e) pos) (.rt o (some ρ1)) := by
  subst hr
  exact xs_ret h
end
section
variable {S : Sig} {ρ ρ1 ρ2 : Env} {a b : Expr} {pos : Pos} {T : Type} [DecidableEq T] [Datum T] [Enc T] {u v : T}
theorem xtm_neF (ha : XM S ρ a (enc u) ρ1) (hb : XM S ρ1 b (enc v) ρ2) (e : u = v) (hd : Datum.depth T ≤ 64 := by decide) : XTM S ρ (.Compare a [.NotEq] [b] pos) false ρ2 := (xtm_cmp (oc_ne hd) ha hb).cast (by rw [decide_eq_true e]; rfl)
theorem xtm_neT (ha : XM S ρ a (enc u) ρ1) (hb : XM S ρ1 b (enc v) ρ2) (e : u ≠ v) (hd : Datum.depth T ≤ 64 := by decide) : XTM S ρ (.Compare a [.NotEq] [b] pos) true ρ2 := (xtm_cmp (oc_ne hd) ha hb).cast (by rw [decide_eq_false e]; rfl)
theorem xtm_eqF (ha : XM S ρ a (enc u) ρ1) (hb : XM S ρ1 b (enc v) ρ2) (e : u ≠ v) (hd : Datum.depth T ≤ 64 := by decide) : XTM S ρ (.Compare a [.Eq] [b] pos) false ρ2 := (xtm_cmp (oc_eq hd) ha hb).cast (decide_eq_false e)
theorem xtm_eqT (ha : XM S ρ a (enc u) ρ1) (hb : XM S ρ1 b (enc v) ρ2) (e : u = v) (hd : Datum.depth T ≤ 64 := by decide) : XTM S ρ (.Compare a [.Eq] [b] pos) true ρ2 := (xtm_cmp (oc_eq hd) ha hb).cast (decide_eq_true e)
theorem xm_eqT (ha : XM S ρ a (enc u) ρ1) (hb : XM S ρ1 b (enc v) ρ2) (e : u = v) (hd : Datum.depth T ≤ 64 := by decide) : XM S ρ (.Compare a [.Eq] [b] pos) (.bl true) ρ2 := (xm_cmp (oc_eq hd) ha hb).cast (by rw [decide_eq_true e])
end
section
variable {S : Sig} {ρ ρ1 ρ2 : Env} {a b e : Expr} {pos p2 : Pos} {T : Type} [DecidableEq T] [Datum T] [Enc T]
theorem xx_appMT (i : Nat) {x : Str} {apos cpos : Pos} {xs0 xs : List T} {v : T} (he : XM S ρ e (enc v) ρ1) (h0 : ρ[i]? = some (ov xs0) := by rfl) (hl : ρ1[i]? = some (ov xs) := by rfl) (hn : xs.length < 1000000) (hN : S.N[i]? = some x := by rfl) (hv : Vis S.scope x := by first | exact Or.inl rfl | exact Or.inr (Or.inl rfl) | exact Or.inr (Or.inr rfl))
    (hd : (x == ("__debug__" : Str)) = false := by decide) (hcd : (x == ("__classdict__" : Str)) = false := by decide)
    (hbase : ∀ env : PySem.Env, attributeBase (.Name x p2) "append" env (eval (.Name x p2) env) = eval (.Name x p2) env := by intro _; rfl)
    (hfew : ∀ env : PySem.Env, ((backTo cpos (starEach [e] env)).all (fun x => !x.1) && (backToKw cpos (keywordEach [] env)).all (fun x => x.1.isSome) && decide ([e].length + ([] : List Keyword).length + (if ([] : List Keyword).isEmpty then 0 else 1) < 30)) = true := by intro _; rfl)
    (hline : (apos.endLine == cpos.line) = true := by rfl) (hs : ∀ env : PySem.Env, starEach [e] env = (false, eval e env) :: starEach [] env := by intro _; rfl) (hplain : ∀ env : PySem.Env, (backTo cpos (starEach [] env)).any (·.1) = false := by intro _; rfl) :
    XX S ρ (.Call (.Attribute (.Name x p2) "append" apos) [e] [] cpos) (.ok (.fro .non) (ρ1.set i (ov (xs ++ [v])))) := by
  have z := xx_appM (apos := apos) (cpos := cpos) (p2 := p2) i he h0 hl (by simpa using hn) hN hv hd hcd hbase hfew hline hs hplain
  rw [show ov (xs ++ [v]) = some (.lst ((xs.map enc).map O.fro ++ [.fro (enc v)])) by show some (O.lst (((xs ++ [v]).map enc).map O.fro)) = _; rw [List.map_append, List.map_append]; rfl]
  exact z
end
section
variable {S : Sig} {ρ ρ1 ρ2 : Env} {pos : Pos} {es : List Expr} {ds : List D}
theorem xx_lstM (h : XAM S ρ es ds ρ1) (hl : ds.length ≤ 1000000 := by simp) : XX S ρ (.List es pos) (.ok (.lst (ds.map O.fro)) ρ1) := by
  obtain ⟨t, h1, h2⟩ := h
  refine ⟨_, fun q o => pe_lst (h1 q o), fun σ F H A Q w n q => h2 σ F H A _ w n fun vs F1 H1 A1 w1 s1 r n1 => ⟨?_, fun p hp => ?_⟩⟩
  · rw [r.length]; exact Nat.le_trans hl (by decide)
  · obtain ⟨w3, s3, n3⟩ := grow_own (o := .lst vs) w1 n1 (Grow.refl w1.sub) hp
    exact q _ _ _ [p] A1 w3 (s1.trans s3) (.lst upd_same (Owns.fros r)) n3
end
theorem cut_init {α : Type} (xs : List α) (x : α) : cutL (xs ++ [x]) none (some (-1)) = xs := by
  have h1 : HT.sIx (xs ++ [x]).length 0 none = 0 := rfl
  have h2 : HT.sIx (xs ++ [x]).length (xs ++ [x]).length (some (-1)) = xs.length := by
    rw [List.length_append, List.length_singleton]
    show (if (-1 : Int) < 0 then ((-1 : Int) + ((xs.length + 1 : Nat) : Int)).toNat else min (-1 : Int).toNat (xs.length + 1)) = xs.length
    rw [if_pos (by decide)]
    omega
  unfold cutL
  rw [h1, h2]
  simp
theorem at_last {α : Type} (xs : List α) (x : α) : atI (xs ++ [x]) (-1) = some x := by
  unfold atI
  rw [List.length_append, List.length_singleton]
  have : ixN (xs.length + 1) (-1) = some xs.length := by
    unfold ixN
    rw [if_neg (by decide), if_pos (by omega)]
    congr 1
    omega
  rw [this]
  simp
end G

namespace G
open PySem PySem.Spec PyProof.Rows L2
open PySem.W (Datum DatumOrd Tup T3)
open Enc (enc)
section
variable {S : Sig} {ρ ρ1 ρ2 : Env} {a b c e : Expr} {d d1 d2 d3 : D} {ds : List D} {pos p2 : Pos} {pin : List Nat} {es : List Expr} {ss : List Stmt} {r : RS} {x : Str} {ps : List Str} {k : Nat}
/-! subscripts, built-in calls, calls, of what changes what is owned -/
theorem xm_ix (ho : OI S d1 d2 d) (ha : XM S ρ a d1 ρ1) (hb : XM S ρ1 b d2 ρ2) (hs : PlainIx b := by intro _ _; rfl) : XM S ρ (.Subscript a b pos) d ρ2 := by
  obtain ⟨r, h1, h2⟩ := ho.h
  obtain ⟨ta, a1, a2⟩ := ha
  obtain ⟨tb, b1, b2⟩ := hb
  refine ⟨_, fun q k => pe_ix (h1 q k) (a1 q k) (b1 q k) hs, ?_⟩
  exact exm_of fun σ F H A Q w n q => exm a2 σ F H A _ w n fun x F1 H1 A1 w1 s1 r1 n1 => exm b2 σ F1 H1 A1 _ w1 n1 fun y F2 H2 A2 w2 s2 r2 n2 =>
    h2 x y F2 H2 Q w2.sub (r1.mono s2.fs) r2 fun v F3 H3 g r3 => q v F3 H3 A2 (g.wf w2) ((s1.trans s2).trans g.stpA) r3 (g.envs n2)
theorem xm_cb {id : String} {p : Pos} (hc : CB S id ds d) (hm : S.mg x = none) (ha : XAM S ρ (e :: es) ds ρ1) (hg : S.scope.names.lookup x = some .globalImplicit := by rfl) (hv : bootBuiltins x = some (.builtin id) := by decide +kernel) (hn : x ≠ "__name__" := by decide) (hdb : (x == ("__debug__" : Str)) = false := by decide)
    (he : ∀ env : PySem.Env, starEach (e :: es) env = (false, eval e env) :: starEach es env := by intro _; rfl) (hpl : ∀ env : PySem.Env, (backTo pos (starEach es env)).any (·.1) = false := by intro _; rfl) : XM S ρ (.Call (.Name x p) (e :: es) [] pos) d ρ1 := by
  obtain ⟨r, h1, h2⟩ := hc.h
  obtain ⟨t, a1, a2⟩ := ha
  refine ⟨_, fun q o => pe_callB (X := S.cx q) (h1 q o) (show S.scope.names.lookup x = some .globalImplicit from hg) hm hv (a1 q o) hn hdb (he _) (hpl _), ?_⟩
  exact exm_of fun σ F H A Q w n q => a2 σ F H A _ w n fun vs F1 H1 A1 w1 s1 r1 n1 => h2 vs F1 H1 Q w1.sub (r1.mono w1.sub) fun v F2 H2 g r2 => q v F2 H2 A1 (g.wf w1) (s1.trans g.stpA) r2 (g.envs n1)
variable {τ : Type} {dd : τ → List D} {pre : τ → Prop} {rese : τ → Except Str O}
theorem ex_callM (y : τ) {t : TA} (ha : EAM S t ρ (dd y) ρ1) (hp : pre y) : EX S (tCallS (spP S.K dd pre rese) (WE S.wx) t) ρ (exX ρ1 (rese y)) := fun σ F H A Q w0 n0 q => ha σ F H A _ w0 n0 fun vs F1 H1 A1 w s1 r n => by
  refine ⟨y, F1, [], WF.none w.sub, Owns.fros r, hp, ?_⟩
  show RM.Post _ _ _ _ _ _ _ (rmF (dd y) (rese y))
  cases e : rese y with
  | ok o =>
    rw [e] at q
    intro v F2 H2 B A' w2 s2 ow ows
    obtain ⟨_, rfl⟩ := Owns.fros_inv ows
    rw [List.append_nil] at w2 s2
    obtain ⟨w3, s3, n3⟩ := beside w n s2 w2
    exact q v F2 H2 B A1 w3 (s1.trans s3) ow n3
  | error x =>
    rw [e] at q
    intro F2 H2 A' w2 s2 ows
    obtain ⟨_, rfl⟩ := Owns.fros_inv ows
    have g : Grow F1 H1 F2 H2 := ⟨s2, w2.sub⟩
    exact q F2 H2 A1 (g.wf w) (s1.trans g.stpA) (g.envs n)
theorem xx_callM [Calm S] (hG : FnG S.P S.w S.K S.mg S.base k x ps (spP S.K dd pre rese)) (y : τ) (hp : pre y) (ha : XAM S ρ (e :: es) (dd y) ρ1) (hk : k ≤ S.kk := by exact Nat.le_of_ble_eq_true rfl) (hg : S.scope.names.lookup x = some .globalImplicit := by rfl) (hdb : (x == ("__debug__" : Str)) = false := by decide)
    (he : ∀ env : PySem.Env, starEach (e :: es) env = (false, eval e env) :: starEach es env := by intro _; rfl) (hpl : ∀ env : PySem.Env, (backTo pos (starEach es env)).any (·.1) = false := by intro _; rfl) : XX S ρ (.Call (.Name x p2) (e :: es) [] pos) (exX ρ1 (rese y)) := by
  obtain ⟨f, fd, F, hm, kp, b⟩ := hG.h
  obtain ⟨t, a1, a2⟩ := ha
  exact ⟨_, fun q ok => pe_callS (X := S.cx q) F ((ok.calm Calm.h).mono hk) (show S.scope.names.lookup x = some .globalImplicit from hg) hm kp b (fun σ => L2N.passAt ok.tk σ) (a1 q ok) hdb (he _) (hpl _), ex_callM y a2 hp⟩
theorem xs_ifMT {A B : List Stmt} (hc : XTM S ρ c true ρ1) (hA : XB S pin ρ1 A r) : XS S pin ρ (.If c A B pos) r := by
  obtain ⟨t, h1, h2⟩ := hc
  obtain ⟨u, h3, h4⟩ := hA
  refine ⟨tIfS t u tNever, fun q ok => ps_if (h1 q ok) (h3 q ok) pss_never, fun σ F H A D w n q => h2 σ F H A _ w n fun F1 H1 A1 w1 s1 n1 => ?_⟩
  show u D σ H1
  exact h4 σ F1 H1 A1 D w1 n1 (EPost.trans q s1 Pin.refl)
theorem xs_ifMF {A B : List Stmt} (hc : XTM S ρ c false ρ1) (hB : XB S pin ρ1 B r) : XS S pin ρ (.If c A B pos) r := by
  obtain ⟨t, h1, h2⟩ := hc
  obtain ⟨u, h3, h4⟩ := hB
  refine ⟨tIfS t tNever u, fun q ok => ps_if (h1 q ok) pss_never (h3 q ok), fun σ F H A D w n q => h2 σ F H A _ w n fun F1 H1 A1 w1 s1 n1 => ?_⟩
  show u D σ H1
  exact h4 σ F1 H1 A1 D w1 n1 (EPost.trans q s1 Pin.refl)
theorem xb_forI [Calm S] {tg it : Expr} {body : List Stmt} {α σ : Type} (xs : List α) (g : α → D) (R : σ → Env) (f : σ → α → σ) (I : Nat → σ → Prop) {tgt : TG} (ρb : σ → α → Env) (s0 : σ)
    (hi : XI S (R s0) tg it (xs.map g)) (hg : ∀ q, S.Ok q → PG (S.cx q) tg tgt) (hG : ∀ s x, EG S pin tgt (R s) (g x) (ρb s x)) (h0 : I 0 s0)
    (hb : ∀ i s x, xs[i]? = some x → I i s → XB S pin (ρb s x) body (.nx (R (f s x))) ∧ I (i + 1) (f s x))
    (hk : ∀ w, I xs.length w → XB S pin (R w) ss r) (hq : ρ = R s0 := by rfl)
    (hs : ∀ (env : PySem.Env) (x : Value), foldedSetIterable it env x = pure x := by intro _ _; rfl) : XB S pin ρ (.For tg it body [] pos :: ss) r := by
  subst hq
  refine xb_cons (xs_forN xs g R f I ρb s0 hi hg hG h0 hb hs) (hk _ ?_)
  have := inv_foldl f I xs 0 s0 h0 (fun i s x hx h => by rw [Nat.zero_add] at h ⊢; exact (hb i s x hx h).2)
  rw [Nat.zero_add] at this
  exact this
/-! list(e), owned -/
theorem xn_lstO {T : Type} [DecidableEq T] [Datum T] [Enc T] {xs : List T} (hm : S.mg "list" = none) (h : TP S ρ a xs) (hg : S.scope.names.lookup ("list" : Str) = some .globalImplicit := by rfl) (he : ∀ env : PySem.Env, starEach [a] env = (false, eval a env) :: starEach [] env := by intro _; rfl)
    (hpl : ∀ env : PySem.Env, (backTo pos (starEach [] env)).any (·.1) = false := by intro _; rfl) : XX S ρ (.Call (.Name "list" p2) [a] [] pos) (.ok (oL xs) ρ) := by
  obtain ⟨t, a1, a2⟩ := xa_cons h xa_nil he
  refine ⟨_, fun q o => pe_callTy (X := S.cx q) (r := rListQ S.K) call_list_of (show S.scope.names.lookup ("list" : Str) = some .globalImplicit from hg) hm (by decide +kernel) (a1 q o) (by decide) (by decide) (he _) (hpl _), fun σ F H A Q w n q => a2 σ F H A _ w n fun vs F1 H1 g rr => ?_⟩
  obtain ⟨v, rfl, r⟩ := reps1 rr
  cases r with
  | lst h r =>
    refine ⟨_, _, rfl, .inl (.of (g.ext _ _ h)), fun l hl => ?_⟩
    obtain ⟨w3, s3, n3⟩ := grow_own (o := .lst _) w n g hl
    exact q _ _ _ [l] A w3 s3 (.lst upd_same (Owns.fros r)) n3
theorem tp_lstP {T : Type} [DecidableEq T] [Datum T] [Enc T] {p : T × T} (hm : S.mg "list" = none) (h : TP S ρ a p) (hg : S.scope.names.lookup ("list" : Str) = some .globalImplicit := by rfl) (he : ∀ env : PySem.Env, starEach [a] env = (false, eval a env) :: starEach [] env := by intro _; rfl) : TP S ρ (.Call (.Name "list" p2) [a] [] pos) [p.1, p.2] :=
  xp_ct (p := p2) (pos := pos) (ct_list_tup (S := S) (ds := [enc p.1, enc p.2])) hm (xa_cons h xa_nil he) hg (by decide +kernel) (by decide) (by decide) he (by intro _; rfl)
theorem xm_len {T : Type} [DecidableEq T] [Datum T] [Enc T] {xs : List T} (hm : S.mg "len" = none) (h : XM S ρ a (enc xs) ρ1) (hg : S.scope.names.lookup ("len" : Str) = some .globalImplicit := by rfl) (he : ∀ env : PySem.Env, starEach [a] env = (false, eval a env) :: starEach [] env := by intro _; rfl) : XM S ρ (.Call (.Name "len" p2) [a] [] pos) (enc ((xs.length : Nat) : Int)) ρ1 := by
  have := xm_cb (p := p2) (pos := pos) (cb_len_lst (S := S) (ds := xs.map enc)) hm (xam_cons h xam_nil he) hg (by decide +kernel) (by decide) (by decide) he (by intro _; rfl)
  rw [List.length_map] at this
  exact this
theorem xtm_isnnF {j} {pos2 : Pos} (ha : XM S ρ a .non ρ1) : XTM S ρ (.Compare a [.IsNot] [.Constant .none j p2] pos2) false ρ1 := (xtm_cmp (oc_isnN true (by intro v F h; cases h; rfl)) ha (XP.x xp_non)).cast rfl
end
section
variable {S : Sig} {ρ ρ1 ρ2 : Env} {a b : Expr} {pos p2 : Pos}
theorem xm_ix3c {T T' T'' : Type} [DecidableEq T] [Datum T] [Enc T] [DecidableEq T'] [Datum T'] [Enc T'] [DecidableEq T''] [Datum T''] [Enc T''] {p : T3 T T' T''} (ha : XM S ρ a (enc p) ρ1) {j} {pos'} : XM S ρ (.Subscript a (.Constant (.int 2) j pos') pos) (enc p.c) ρ1 := xm_ix (oi_tup (i := 2) rfl) ha (XP.x xp_int)
end
section
variable {S : Sig} {ρ ρ1 ρ2 : Env} {a b : Expr} {pos : Pos} {T : Type} [DecidableEq T] [Datum T] [Enc T] {u : T} {xs : Tup T} {ys : List T}
theorem xtm_inTT (ha : XM S ρ a (enc u) ρ1) (hb : XM S ρ1 b (enc xs) ρ2) (h : u ∈ xs.items) (hd : Datum.depth T ≤ 63 := by decide) (hm : behindInMarks .In b = false := by rfl) : XTM S ρ (.Compare a [.In] [b] pos) true ρ2 := (xtm_cmp (oc_inT hd) ha hb hm).cast (decide_eq_true h)
theorem xtm_inTF (ha : XM S ρ a (enc u) ρ1) (hb : XM S ρ1 b (enc xs) ρ2) (h : u ∉ xs.items) (hd : Datum.depth T ≤ 63 := by decide) (hm : behindInMarks .In b = false := by rfl) : XTM S ρ (.Compare a [.In] [b] pos) false ρ2 := (xtm_cmp (oc_inT hd) ha hb hm).cast (decide_eq_false h)
end
end G

namespace G
open PySem PySem.Spec PyProof.Rows L2
open PySem.W (Datum DatumOrd Tup T3)
open Enc (enc)
abbrev freshSet (w : World) : Obj := { cls := .type "set", dict := none, data := .set #[] 0 (.fresh 0 0 (!w.params.followText "set-order")) }
/-- what the loop over the items makes of a new set -/
structure SetLoop (P : Program) (w : World) (A : Around) (s : Shared) (items : Array Value) (Φ : Heap → Prop) : Prop where
  run : ∀ {B : Around} {s1 : Shared} {it : Addr} {fp wr : List Addr} {G : Array GenState → Array GenState → Prop} {Pv : Nat → Value → Prop} {St : Nat → Shared → Prop} {R : Result → Shared → Prop}, WalksS P w B.in1 it fp wr G items.size Pv St → (∀ i v, Pv i v → items[i]? = some v) → s.heap.objs.size ∉ fp → (∀ b ∈ wr, s.heap.get? b = none) → St 0 s1 →
    s1.heap.get? s.heap.objs.size = some (freshSet w) → (∀ b o, s.heap.get? b = some o → s1.heap.get? b = some o) → B.in1.units ≤ A.units + 3 →
    (∀ s', Moved (s.heap.objs.size :: wr) G s1 s' → Φ s'.heap → R (.ok (.ret .none)) s') → codeAny (model P w) B (.builtin "set.update.loop" ⟨[.ref s.heap.objs.size, .ref it], []⟩) R s1
section
variable {P : Program} {w : World} {A : Around} {E : Value → Shared → Prop} {s : Shared}

theorem set_any_list {l : Addr} {items : Array Value} {Φ : Heap → Prop} {Q : Value → Shared → Prop} (hh : A.handled = none) (hl : s.heap.IsList l items) (lp : SetLoop P w A s items Φ)
    (fin : ∀ (h' : Heap) (tk : Nat), Φ h' → (∀ b o, s.heap.get? b = some o → h'.get? b = some o) → Q (.ref s.heap.objs.size) { s with heap := h', toks := tk }) : wpAny (model P w) A (call (.type "set") [.ref l]) Q E s := by
  obtain ⟨_, _, hmro⟩ := F.called_set.mro
  refine wpAny_call (codeAny_of_tree ?_)
  show wpAny _ _ (callAny (.type "set") _) _ _ _
  refine wpAny_pure ⟨Code.quiet_builtin _ (by decide +kernel), codeAny_builtin F.entry_type_call ?_⟩
  have fa := F.called_set.made; have fb := F.called_set.sub; have fc := F.called_set.notType; have fd := F.called_set.canCreate; have fe := F.typeCall_set_1 (.ref l)
  rw [Around.under_plain (weight_type_call_type "set" [.ref l] []) rfl]
  repeat (any_goals (first | assumption | wp_step))
  refine codeAny_mono (code_set_led1 (.ref l) (E := E) (Q₁ := fun u z => u = .ref s.heap.objs.size ∧ z = { s with heap := s.heap.push (freshSet w) }) ⟨rfl, rfl⟩) fun r z hz => ?_
  rcases r with e | fl
  · exact hz
  cases fl <;> try exact (show False from hz).elim
  obtain ⟨rfl, rfl⟩ := hz
  have at_S : (s.heap.push (freshSet w)).get? s.heap.objs.size = some (freshSet w) := Heap.get?_push_size _ rfl
  have ty_S : Shared.TypeIs { s with heap := s.heap.push (freshSet w) } (.ref s.heap.objs.size) "set" := ⟨_, at_S, rfl⟩
  have ff := F.called_set.init.lookup; have fg := F.called_set.init.bind (.ref s.heap.objs.size)
  repeat (any_goals (first | assumption | wp_step))
  refine codeAny_mono (codeAny_call_builtin (R := wants (fun r z => r = .none ∧ ∃ h' tk, z = { s with heap := h', toks := tk } ∧ Φ h' ∧ ∀ b o, s.heap.get? b = some o → h'.get? b = some o) E) F.called_set.init.plain F.entry_set_init (check_set_init_1 ty_S ?_)) fun r z hz => ?_
  rotate_left
  · rcases r with e | fl
    · exact hz
    cases fl <;> try exact (show False from hz).elim
    obtain ⟨rfl, h', tk, rfl, hΦ, hk⟩ := hz
    repeat (any_goals (first | assumption | wp_step))
    exact fin _ _ hΦ hk
  obtain ⟨⟨oc, od, odt, osl⟩, hol, hcl, nl, hdl⟩ := hl
  simp only at hcl hdl
  subst hcl hdl
  have at_l : (s.heap.push (freshSet w)).get? l = some { cls := .type "list", dict := od, data := .seq items nl, slots := osl } := Heap.get?_push_of_some _ hol
  have is_l : (s.heap.push (freshSet w)).IsList l items := ⟨_, at_l, rfl, nl, rfl⟩
  have fi := F.sub_list_set; have fj := F.sub_list_frozenset; have fk : (Value.type "list" == Value.type "dict") = false := by decide
  unfold Builtin.«set.__init__» noKeywords Builtin.Frozenset.updateFrom
  generalize hPI : pyIter = PI
  wp_walk
  subst hPI
  refine wpAny_pyIter_list is_l (wpAny_bind (wpAny_runValue ?_))
  have lt_l : l < s.heap.objs.size := Heap.lt_size hol
  have sz : (s.heap.push (freshSet w)).objs.size = s.heap.objs.size + 1 := Heap.size_push ..
  have ne_l : l ≠ (s.heap.push (freshSet w)).objs.size := by rw [sz]; exact Nat.ne_of_lt (Nat.lt_succ_of_lt lt_l)
  refine lp.run (wr := [(s.heap.push (freshSet w)).objs.size]) ((Walks.list (by simp [hh]) _ l ne_l items).toS) (fun i v q => q) (by simp only [List.mem_cons, List.not_mem_nil, or_false, not_or]; exact ⟨by rw [sz]; exact Nat.ne_of_lt (Nat.lt_succ_self _), Nat.ne_of_gt lt_l⟩) (fun b hb => ?_) ⟨⟨_, Heap.get?_push_size _ rfl, rfl, rfl⟩, is_l.push _⟩ (Heap.get?_push_of_some _ at_S) (fun b o e => Heap.get?_push_of_some _ (Heap.get?_push_of_some _ e)) (Nat.le_refl _) fun s' hm hΦ => ?_
  · rw [List.mem_singleton.mp hb]
    cases q : s.heap.get? (s.heap.push (freshSet w)).objs.size with
    | none => rfl
    | some o => exact absurd (Heap.lt_size q) (by rw [sz]; exact Nat.not_lt_of_le (Nat.le_succ _))
  obtain ⟨h', g2, d', tk', os'⟩ := s'
  obtain rfl : g2 = s.gens := hm.gens
  obtain rfl : d' = s.drawn := hm.drawn
  obtain rfl : os' = s.os := hm.os
  show wpAny _ _ _ _ _ _
  refine wpAny_pure ?_
  show wpAny _ _ (ret Value.none) _ _ _
  refine wpAny_pure ⟨rfl, h', tk', rfl, hΦ, fun b o e => ?_⟩
  have b0 : b < s.heap.objs.size := Heap.lt_size e
  exact hm.heap b o (by simp only [List.mem_cons, List.not_mem_nil, or_false, not_or]; exact ⟨Nat.ne_of_lt b0, by rw [sz]; exact Nat.ne_of_lt (Nat.lt_succ_of_lt b0)⟩) (Heap.get?_push_of_some _ (Heap.get?_push_of_some _ e))

theorem set_any_tuple {l : Addr} {items : Array Value} {Φ : Heap → Prop} {Q : Value → Shared → Prop} (hh : A.handled = none) (hl : s.heap.IsTuple l items) (lp : SetLoop P w A s items Φ)
    (fin : ∀ (h' : Heap) (tk : Nat), Φ h' → (∀ b o, s.heap.get? b = some o → h'.get? b = some o) → Q (.ref s.heap.objs.size) { s with heap := h', toks := tk }) : wpAny (model P w) A (call (.type "set") [.ref l]) Q E s := by
  obtain ⟨_, _, hmro⟩ := F.called_set.mro
  refine wpAny_call (codeAny_of_tree ?_)
  show wpAny _ _ (callAny (.type "set") _) _ _ _
  refine wpAny_pure ⟨Code.quiet_builtin _ (by decide +kernel), codeAny_builtin F.entry_type_call ?_⟩
  have fa := F.called_set.made; have fb := F.called_set.sub; have fc := F.called_set.notType; have fd := F.called_set.canCreate; have fe := F.typeCall_set_1 (.ref l)
  rw [Around.under_plain (weight_type_call_type "set" [.ref l] []) rfl]
  repeat (any_goals (first | assumption | wp_step))
  refine codeAny_mono (code_set_led1 (.ref l) (E := E) (Q₁ := fun u z => u = .ref s.heap.objs.size ∧ z = { s with heap := s.heap.push (freshSet w) }) ⟨rfl, rfl⟩) fun r z hz => ?_
  rcases r with e | fl
  · exact hz
  cases fl <;> try exact (show False from hz).elim
  obtain ⟨rfl, rfl⟩ := hz
  have at_S : (s.heap.push (freshSet w)).get? s.heap.objs.size = some (freshSet w) := Heap.get?_push_size _ rfl
  have ty_S : Shared.TypeIs { s with heap := s.heap.push (freshSet w) } (.ref s.heap.objs.size) "set" := ⟨_, at_S, rfl⟩
  have ff := F.called_set.init.lookup; have fg := F.called_set.init.bind (.ref s.heap.objs.size)
  repeat (any_goals (first | assumption | wp_step))
  refine codeAny_mono (codeAny_call_builtin (R := wants (fun r z => r = .none ∧ ∃ h' tk, z = { s with heap := h', toks := tk } ∧ Φ h' ∧ ∀ b o, s.heap.get? b = some o → h'.get? b = some o) E) F.called_set.init.plain F.entry_set_init (check_set_init_1 ty_S ?_)) fun r z hz => ?_
  rotate_left
  · rcases r with e | fl
    · exact hz
    cases fl <;> try exact (show False from hz).elim
    obtain ⟨rfl, h', tk, rfl, hΦ, hk⟩ := hz
    repeat (any_goals (first | assumption | wp_step))
    exact fin _ _ hΦ hk
  obtain ⟨⟨oc, od, odt, osl⟩, hol, hcl, nl, hdl⟩ := hl
  simp only at hcl hdl
  subst hcl hdl
  have at_l : (s.heap.push (freshSet w)).get? l = some { cls := .type "tuple", dict := od, data := .seq items nl, slots := osl } := Heap.get?_push_of_some _ hol
  have is_l : (s.heap.push (freshSet w)).IsTuple l items := ⟨_, at_l, rfl, nl, rfl⟩
  have fi := F.sub_tuple_set; have fj := F.sub_tuple_frozenset; have fk : (Value.type "tuple" == Value.type "dict") = false := by decide
  unfold Builtin.«set.__init__» noKeywords Builtin.Frozenset.updateFrom
  generalize hPI : pyIter = PI
  wp_walk
  subst hPI
  refine wpAny_pyIter_tuple is_l (wpAny_bind (wpAny_runValue ?_))
  have lt_l : l < s.heap.objs.size := Heap.lt_size hol
  have sz : (s.heap.push (freshSet w)).objs.size = s.heap.objs.size + 1 := Heap.size_push ..
  have ne_l : l ≠ (s.heap.push (freshSet w)).objs.size := by rw [sz]; exact Nat.ne_of_lt (Nat.lt_succ_of_lt lt_l)
  refine lp.run (wr := [(s.heap.push (freshSet w)).objs.size]) ((Walks.tuple (by simp [hh]) _ l ne_l items).toS) (fun i v q => q) (by simp only [List.mem_cons, List.not_mem_nil, or_false, not_or]; exact ⟨by rw [sz]; exact Nat.ne_of_lt (Nat.lt_succ_self _), Nat.ne_of_gt lt_l⟩) (fun b hb => ?_) ⟨⟨_, Heap.get?_push_size _ rfl, rfl, rfl⟩, is_l.push _⟩ (Heap.get?_push_of_some _ at_S) (fun b o e => Heap.get?_push_of_some _ (Heap.get?_push_of_some _ e)) (Nat.le_refl _) fun s' hm hΦ => ?_
  · rw [List.mem_singleton.mp hb]
    cases q : s.heap.get? (s.heap.push (freshSet w)).objs.size with
    | none => rfl
    | some o => exact absurd (Heap.lt_size q) (by rw [sz]; exact Nat.not_lt_of_le (Nat.le_succ _))
  obtain ⟨h', g2, d', tk', os'⟩ := s'
  obtain rfl : g2 = s.gens := hm.gens
  obtain rfl : d' = s.drawn := hm.drawn
  obtain rfl : os' = s.os := hm.os
  show wpAny _ _ _ _ _ _
  refine wpAny_pure ?_
  show wpAny _ _ (ret Value.none) _ _ _
  refine wpAny_pure ⟨rfl, h', tk', rfl, hΦ, fun b o e => ?_⟩
  have b0 : b < s.heap.objs.size := Heap.lt_size e
  exact hm.heap b o (by simp only [List.mem_cons, List.not_mem_nil, or_false, not_or]; exact ⟨Nat.ne_of_lt b0, by rw [sz]; exact Nat.ne_of_lt (Nat.lt_succ_of_lt b0)⟩) (Heap.get?_push_of_some _ (Heap.get?_push_of_some _ e))
end
end G

namespace G
open PySem PySem.Spec PyProof.Rows L2
open PySem.W (Datum DatumOrd Tup T3)
open Enc (enc)
section
variable {P : Program} {w : World} {A : Around} {E : Value → Shared → Prop} {s : Shared}
/-! set(xs), set(t) of ints, of tuples of ints -/
theorem loop_ints {items : Array Value} {ns : List Int} (hit : IntsAre items.toList ns) (hb : ns.length + 1 < scanBound) : SetLoop P w A s items fun h' => ∃ c, SetR w h' s.heap.objs.size (fun j => decide (j ∈ ns)) c ∧ c ≤ ns.length := by
  have len : items.size = ns.length := by
    have q := IntsAre.length hit
    rwa [Array.length_toList] at q
  refine ⟨fun W hv hS hw st at_S keep hu q => ?_⟩
  refine set_update_ints W _ hS ns len hb (fun i v z => ?_) _ 0 _ rfl (Nat.zero_le _) st ⟨0, Nat.le_refl 0, setR_new_at at_S⟩ fun s' c hm hc hR => q s' hm ⟨c, hR, by omega⟩
  have hi := hv i v z
  have lt : i < ns.length := by rw [← len]; exact (Array.getElem?_eq_some_iff.mp hi).1
  obtain ⟨t, e⟩ := PyProof.Rows.IntsAre.int_at hit i v (by rw [Array.getElem?_toList]; exact hi)
  exact ⟨ns[i], t, List.getElem?_eq_getElem lt, by rw [e, List.getD_eq_getElem?_getD, List.getElem?_eq_getElem lt]; rfl⟩
theorem loop_tups {items : Array Value} {ks : List (Addr × List Int)} (hit : items.toList = ks.map fun p => Value.ref p.1) (hk : ∀ p ∈ ks, IsT P w s.heap p.2 p.1) (hf : ks.length < 64) (hu : A.units + 3 < cLine) :
    SetLoop P w A s items fun h' => ∃ L es ep t, SetTR P w h' s.heap.objs.size L es ep t ∧ Got ks ks.length L := by
  have len : items.size = ks.length := by
    have q := congrArg List.length hit
    rwa [Array.length_toList, List.length_map] at q
  refine ⟨fun W hv hS hw st at_S keep hu' q => ?_⟩
  refine set_update_tups W _ hS ks len hf (fun i v z => ?_) s.heap hk ?_ hw (by omega) _ 0 _ rfl (Nat.zero_le _) st keep ⟨[], #[], 0, _, setTR_fresh at_S, Got.zero ks⟩ fun s' L es ep t hm hR g _ => q s' hm ⟨L, es, ep, t, hR, by rw [← len]; exact g⟩
  · have hi : items.toList[i]? = some v := by rw [Array.getElem?_toList]; exact hv i v z
    rw [hit, List.getElem?_map] at hi
    obtain ⟨p, e1, e2⟩ := Option.map_eq_some_iff.mp hi
    exact ⟨p, e1, e2.symm⟩
  · cases q : s.heap.get? s.heap.objs.size with
    | none => rfl
    | some o => exact absurd (Heap.lt_size q) (Nat.lt_irrefl _)
end
def rSetOfI (K : PySem.W.Frag) (w : World) : List V → Hp → VK → Prop := fun xs H Q => ∃ (l : Addr) (ns : List Int), xs = [V.ref l] ∧ SqL K H l (ns.map V.int) ∧ ns.length < 1000 ∧ ∀ a c, H a = none → c ≤ ns.length → Q (.ref a) (upd H a (SetO w a (fun j => decide (j ∈ ns)) c))
def rSetOfTt (K : PySem.W.Frag) (P : Program) (w : World) : List V → Hp → VK → Prop := fun xs H Q => ∃ (l : Addr) (ks : List (Addr × List Int)), xs = [V.ref l] ∧ SqT K H l (ks.map fun p => V.ref p.1) ∧ (∀ p ∈ ks, SqT K H p.1 (p.2.map V.int)) ∧ ks.length < 64 ∧
  ∀ a L, H a = none → (∀ p ∈ L, p ∈ ks) → (∀ p ∈ ks, p.2 ∈ L.map (·.2)) → Q (.ref a) (upd H a (SetTO P w a L))
theorem cr_setOfI {X : Cx} (hc : X.calm = true) : CallR X (.type "set") (rSetOfI X.K X.w) := by
  intro pins s σ H xs us Q I r h
  obtain ⟨l, ns, rfl, hl, hb, q⟩ := h
  rw [Vals.ref1 r]
  obtain ⟨its, rv, pl, hz⟩ := I.list hl
  have hit : IntsAre its.toArray.toList ns := by simpa using rv.ints
  refine set_any_list (P := X.prog) (w := X.w) (I.ok.hd hc) pl.isList (loop_ints hit (by unfold scanBound; omega)) fun h' tk ⟨c, hR, hc⟩ k => ?_
  exact ⟨.ref s.heap.objs.size, upd H s.heap.objs.size (SetO X.w s.heap.objs.size (fun j => decide (j ∈ ns)) c), I.laid (t' := tk) k (Nat.le_refl _) (setO_new hR), rfl, q _ c (I.hok.fresh (Nat.le_refl _)) hc⟩
theorem cr_setOfTt {X : Cx} (hc : X.calm = true) (hu : X.A.units + 64 < cLine) : CallR X (.type "set") (rSetOfTt X.K X.prog X.w) := by
  intro pins s σ H xs us Q I r h
  obtain ⟨l, ks, rfl, hl, hk, hf, q⟩ := h
  rw [Vals.ref1 r]
  obtain ⟨its, rv, pl, hz⟩ := I.tuple hl
  obtain ⟨o, ho, hcl, n, hd⟩ := pl
  refine set_any_tuple (P := X.prog) (w := X.w) (I.ok.hd hc) ⟨o, ho, hcl, n, hd⟩ (loop_tups (ks := ks) (by simpa using refs_of_vals rv) (fun p hp => I.isT (hk p hp)) hf (by omega)) fun h' tk ⟨L, es, ep, t, R, g⟩ k => ?_
  exact ⟨.ref s.heap.objs.size, upd H s.heap.objs.size (SetTO X.prog X.w s.heap.objs.size L), I.laid (t' := tk) k (Nat.le_refl _) (setTO_new R.t0), rfl, q _ L (I.hok.fresh (Nat.le_refl _)) (fun p hp => List.mem_of_mem_take (g.sub p hp)) fun p hp => g.all p (by rw [List.take_length]; exact hp)⟩
section
variable {S : Sig} {ρ : Env} {a : Expr} {pos p2 p3 pos2 : Pos}
theorem srt_ints {ns xs : List Int} (pw : ns.Pairwise (· < ·)) (m : ∀ k : Int, k ∈ ns ↔ k ∈ xs) : ns = sset xs :=
  sset_of (pw.imp fun {a b} h => by rw [lt_int]; exact decide_eq_false (by omega)) (pw.imp fun {a b} h e => by omega) m
/-- sorted(set(xs)), ints -/
theorem tp_ssetI [Calm S] {xs : List Int} (hm : S.mg "sorted" = none) (hm2 : S.mg "set" = none) (h : TP S ρ a xs) (hl : xs.length < 64) (hg : S.scope.names.lookup ("sorted" : Str) = some .globalImplicit := by rfl) (hg2 : S.scope.names.lookup ("set" : Str) = some .globalImplicit := by rfl) (he : ∀ env : PySem.Env, starEach [a] env = (false, eval a env) :: starEach [] env := by intro _; rfl) :
    TP S ρ (.Call (.Name "sorted" p2) [.Call (.Name "set" p3) [a] [] pos2] [] pos) (sset xs) := by
  obtain ⟨t, h1, h2⟩ := h
  refine ⟨tCB (rSortedSet S.w) (tCons (tCB (rSetOfI S.K S.w) (tCons t tNil)) tNil), fun q ok => ?_, fun σ F H A Q w n qq => ?_⟩
  · exact pe_callB (X := S.cx q) (cr_sortedSet (X := S.cx q) Calm.h) (show S.scope.names.lookup _ = some .globalImplicit from hg) hm (by decide +kernel) (pa_cons (pe_callTy (X := S.cx q) (cr_setOfI (X := S.cx q) Calm.h) (show S.scope.names.lookup _ = some .globalImplicit from hg2) hm2 (by decide +kernel) (pa_cons (h1 q ok) pa_nil (he _)) (by decide) (by decide) (he _) (by rfl)) pa_nil) (by decide) (by decide) (by rfl) (by rfl)
  · refine h2 σ F H A _ w n fun v F1 H1 g r => ?_
    cases r with
    | lst hv r =>
      rename_i l vs
      have e1 := map_int_reps r
      subst e1
      refine ⟨l, xs, rfl, .of (g.ext _ _ hv), by omega, fun st c hs hc => ?_⟩
      have g2 := g.trans (Grow.side (o := SetO S.w st (fun j => decide (j ∈ xs)) c) g.ext hs)
      refine ⟨st, _, c, rfl, upd_same, by omega, fun ns p pw hm hlen hp => ?_⟩
      have e : ns = sset xs := srt_ints pw fun k => by rw [hm]; exact decide_eq_true_iff
      have g3 := g2.trans (Grow.new (o := .lst (ns.map V.int)) g2.ext hp)
      refine qq (.ref p) _ _ g3 (.lst upd_same ?_)
      rw [← e]
      exact Reps.ints ns
end
/-! min of a list of typed data; [x] * n -/
theorem vals_at : ∀ {vs : List V} {us : List Value} {i : Nat} {u : Value}, Vals vs us → us[i]? = some u → ∃ v, vs[i]? = some v ∧ RelV v u
  | _, _, _, _, .nil, e => by simp at e
  | _, _, 0, _, .cons r _, e => by simp at e; subst e; exact ⟨_, rfl, r⟩
  | _, _, i + 1, u, .cons _ t, e => by
    obtain ⟨v, h1, h2⟩ := vals_at (i := i) (u := u) t (by simpa using e)
    exact ⟨v, by simpa using h1, h2⟩
section
variable {T : Type} [DecidableEq T] [DatumOrd T] [Enc T]
theorem reads_at {h : Heap} : ∀ {xs : List T} {us : List Value} {as : List Addr} {i : Nat} {u : Value}, PySem.ReadsAll h us (xs.map Datum.toD) as → us[i]? = some u → ∃ x, xs[i]? = some x ∧ PySem.W.Holds h u x
  | [], _, _, _, _, r, e => by cases r; simp at e
  | x :: xs, _, _, 0, _, r, e => by
    cases r with
    | cons r t => simp at e; subst e; exact ⟨x, rfl, _, r⟩
  | x :: xs, _, _, i + 1, u, r, e => by
    cases r with
    | cons r t =>
      obtain ⟨z, h1, h2⟩ := reads_at (i := i) (u := u) t (by simpa using e)
      exact ⟨z, by simpa using h1, h2⟩
theorem holds_one {h : Heap} {u : Value} {x y : T} (hx : PySem.W.Holds h u x) (hy : PySem.W.Holds h u y) : x = y := by
  obtain ⟨as, rx⟩ := hx
  obtain ⟨bs, ry⟩ := hy
  have e := (PySem.Reads.unique rx _ _ ry).1
  have z := Datum.eqv x y
  rw [← e, Datum.eqv x x] at z
  exact of_decide_eq_true (z.symm.trans (decide_eq_true rfl))
def rMinT (K : PySem.W.Frag) (x : T) (xs : List T) : List V → Hp → VK → Prop := fun ws H Q => ∃ (l : Addr) (ys : List V), ws = [V.ref l] ∧ SqL K H l ys ∧ Reps K H ys ((x :: xs).map enc) ∧ ∀ (i : Nat) (y : V), ys[i]? = some y → (x :: xs)[i]? = some (PySem.W.minOf x xs) → Q y H
theorem cr_minT {X : Cx} {x : T} {xs : List T} (hc : X.calm = true) (hu : X.A.units + 64 < cLine) (hd : Datum.depth T ≤ 60) : CallR X (.builtin "min") (rMinT X.K x xs) := by
  intro pins s σ H ws us Q I r h
  obtain ⟨l, ys, rfl, hs, r1, q⟩ := h
  rw [Vals.ref1 r]
  obtain ⟨its, rv, pl, hz⟩ := I.list hs
  have HA : PySem.W.HoldAll s.heap its (x :: xs) := holdAll_of I r1 rv
  refine PySem.W.min_list_datum (vs := its.toArray) (I.ok.hd hc) pl.isList (by simpa using HA) (by omega) fun i v h' tk hi hv k => ?_
  have hi' : its[i]? = some v := by simpa using hi
  obtain ⟨y, hy, ry⟩ := vals_at rv hi'
  obtain ⟨as, rd⟩ := HA
  obtain ⟨z, hz1, hz2⟩ := reads_at rd hi'
  have e := holds_one (hz2.keeps k) hv
  exact ⟨y, H, I.kept (t' := tk) k, ry, q i y hy (by rw [← e]; exact hz1)⟩
def minDL [Inhabited T] : List T → T
  | [] => default
  | x :: r => PySem.W.minOf x r
variable {S : Sig} {ρ : Env} {a b : Expr} {pos p2 : Pos}
theorem tp_minDL [Inhabited T] [Calm S] {xs : List T} (hm : S.mg "min" = none) (h : TP S ρ a xs) (hn : 0 < xs.length) (hd : Datum.depth T ≤ 60 := by decide) (hg : S.scope.names.lookup ("min" : Str) = some .globalImplicit := by rfl) (he : ∀ env : PySem.Env, starEach [a] env = (false, eval a env) :: starEach [] env := by intro _; rfl) :
    TP S ρ (.Call (.Name "min" p2) [a] [] pos) (minDL xs) := by
  cases xs with
  | nil => cases hn
  | cons x r =>
    obtain ⟨t, h1, h2⟩ := xa_cons h xa_nil he
    refine ⟨tCB (rMinT S.K x r) t, fun q ok => pe_callB (X := S.cx q) (cr_minT (X := S.cx q) Calm.h ok.units hd) (show S.scope.names.lookup ("min" : Str) = some .globalImplicit from hg) hm (by decide +kernel) (h1 q ok) (by decide) (by decide) (he _) (by rfl), fun σ F H A Q w n q => h2 σ F H A _ w n fun vs F1 H1 g rr => ?_⟩
    obtain ⟨v, rfl, rv⟩ := reps1 rr
    cases rv with
    | lst hv rv =>
      refine ⟨_, _, rfl, .of (g.ext _ _ hv), rv.mono g.ext, fun i y hy hx => ?_⟩
      obtain ⟨d, hd1, hd2⟩ := rv.get' hy
      rw [List.getElem?_map, hx] at hd1
      injection hd1 with hd1
      rw [← hd1] at hd2
      exact q y F1 H1 g hd2
end
section
variable {T : Type} [DecidableEq T] [Datum T] [Enc T] {S : Sig} {ρ : Env} {a b : Expr} {pos : Pos}
theorem tp_repL {xs : List T} {k : Int} (ha : TP S ρ a xs) (hb : TP S ρ b k) (hk : -(2 ^ 63) ≤ k ∧ k < 2 ^ 63) (hl : xs.length * k.toNat ≤ 1000000) : TP S ρ (.BinOp a .Mult b pos) (List.replicate k.toNat xs).flatten :=
  (xp_binF (ob_rep hk (by simpa using hl)) ha hb).cast (by show _ = Except.ok (D.lst ((List.replicate k.toNat xs).flatten.map enc)); rw [List.map_flatten, List.map_replicate])
end
end G

namespace G
open PySem PySem.Spec PyProof.Rows L2
open PySem.W (Datum DatumOrd Tup T3 EachIs)
open Enc (enc)
section
variable {S : Sig} {ρ : Env} {a : Expr} {pos p2 p3 pos2 : Pos}
theorem tp_ssetT [Calm S] {zs : Tup Cell} (hm : S.mg "sorted" = none) (hm2 : S.mg "set" = none) (h : TP S ρ a zs) (hb : ∀ c ∈ zs.items, (0 ≤ c.1 ∧ c.1 < 64) ∧ 0 ≤ c.2 ∧ c.2 < 64) (hl : zs.items.length < 64) (hg : S.scope.names.lookup ("sorted" : Str) = some .globalImplicit := by rfl) (hg2 : S.scope.names.lookup ("set" : Str) = some .globalImplicit := by rfl) (he : ∀ env : PySem.Env, starEach [a] env = (false, eval a env) :: starEach [] env := by intro _; rfl) :
    TP S ρ (.Call (.Name "sorted" p2) [.Call (.Name "set" p3) [a] [] pos2] [] pos) (sset zs.items) := by
  obtain ⟨xs⟩ := zs
  dsimp only at hb hl ⊢
  obtain ⟨t, h1, h2⟩ := h
  refine ⟨tCB (rSortedT S.K S.P S.w) (tCons (tCB (rSetOfTt S.K S.P S.w) (tCons t tNil)) tNil), fun q ok => ?_, fun σ F H A Q w n qq => ?_⟩
  · have hu : (S.cx q).A.units + 64 < cLine := by have := ok.room.un; show q.A.units + 64 < cLine; omega
    exact pe_callB (X := S.cx q) (cr_sortedT (X := S.cx q) Calm.h) (show S.scope.names.lookup _ = some .globalImplicit from hg) hm (by decide +kernel) (pa_cons (pe_callTy (X := S.cx q) (cr_setOfTt (X := S.cx q) Calm.h hu) (show S.scope.names.lookup _ = some .globalImplicit from hg2) hm2 (by decide +kernel) (pa_cons (h1 q ok) pa_nil (he _)) (by decide) (by decide) (he _) (by rfl)) pa_nil) (by decide) (by decide) (by rfl) (by rfl)
  · refine h2 σ F H A _ w n fun v F1 H1 g r => ?_
    cases r with
    | tup hv r =>
      rename_i l vs
      obtain ⟨ks, e1, e2, e3⟩ := cells_ks r
      subst e1
      have len : ks.length = xs.length := by simpa using congrArg List.length e3
      refine ⟨l, ks, rfl, .of (g.ext _ _ hv), fun p hp => .of (g.ext _ _ (e2 p hp)), by omega, fun s L hs hL hK => ?_⟩
      have g2 := g.trans (Grow.side (o := SetTO S.P S.w s L) g.ext hs)
      have inks : ∀ p ∈ ks, ∃ c ∈ xs, p.2 = [c.1, c.2] := fun p hp => by
        have : p.2 ∈ ks.map (·.2) := List.mem_map.mpr ⟨p, hp, rfl⟩
        rw [e3] at this
        obtain ⟨c, hc, e⟩ := List.mem_map.mp this
        exact ⟨c, hc, e.symm⟩
      refine ⟨s, L, 2, 64, rfl, upd_same, fun p hp => .of (g2.ext _ _ (e2 p (hL p hp))), by decide, fun p hp => ?_, fun L' p pm nd fw pw hp => ?_⟩
      · obtain ⟨c, hc, e⟩ := inks p (hL p hp)
        rw [e]
        refine ⟨rfl, fun n hn => ?_⟩
        have := hb c hc
        rcases List.mem_cons.mp hn with rfl | hn
        · exact this.1
        · rw [List.mem_singleton.mp hn]; exact this.2
      · have inL : ∀ q ∈ L', ∃ c ∈ xs, q.2 = [c.1, c.2] := fun q hq => inks q (hL q (pm.mem_iff.mp hq))
        have ys : L'.map (fun q => cel q.2) = sset xs := by
          refine sset_of ?_ ?_ fun v => ?_
          · refine List.pairwise_map.mpr ?_
            have nd2 : L'.Pairwise fun q r => q.2 ≠ r.2 := List.pairwise_map.mp nd
            refine (List.pairwise_iff_forall_sublist.mpr fun {q r} hs => ?_)
            have hq : q ∈ L' := hs.subset (by simp)
            have hr : r ∈ L' := hs.subset (by simp)
            obtain ⟨c, hc, ec⟩ := inL q hq
            obtain ⟨d, hd, ed⟩ := inL r hr
            have c1 := List.pairwise_iff_forall_sublist.mp pw hs
            have c2 := List.pairwise_iff_forall_sublist.mp nd2 hs
            rw [ec, ed] at c1 c2 ⊢
            exact code_lt (x := c) (y := d) c1 c2 (hb c hc) (hb d hd)
          · refine List.pairwise_map.mpr ?_
            have nd2 : L'.Pairwise fun q r => q.2 ≠ r.2 := List.pairwise_map.mp nd
            refine (List.pairwise_iff_forall_sublist.mpr fun {q r} hs e => ?_)
            have hq : q ∈ L' := hs.subset (by simp)
            have hr : r ∈ L' := hs.subset (by simp)
            obtain ⟨c, hc, ec⟩ := inL q hq
            obtain ⟨d, hd, ed⟩ := inL r hr
            have c2 := List.pairwise_iff_forall_sublist.mp nd2 hs
            rw [ec, ed] at e c2
            have e' : c = d := e
            exact c2 (by rw [e'])
          · rw [List.mem_map]
            constructor
            · rintro ⟨q, hq, rfl⟩
              obtain ⟨c, hc, ec⟩ := inL q hq
              rw [ec]; exact hc
            · intro hv
              have : [v.1, v.2] ∈ ks.map (·.2) := by rw [e3]; exact List.mem_map.mpr ⟨v, hv, rfl⟩
              obtain ⟨p', hp', e'⟩ := List.mem_map.mp this
              have := hK p' hp'
              obtain ⟨q, hq, eq⟩ := List.mem_map.mp this
              refine ⟨q, pm.mem_iff.mpr hq, ?_⟩
              show cel q.2 = v
              have eq' : q.2 = p'.2 := eq
              rw [eq', e']; rfl
        have rep : Reps S.K F1 (L'.map fun q => V.ref q.1) ((sset xs).map enc) := by
          rw [← ys, List.map_map]
          have all : ∀ q ∈ L', Rep S.K F1 (.ref q.1) (enc (cel q.2)) := fun q hq => by
            obtain ⟨c, hc, ec⟩ := inL q hq
            have ht := e2 q (hL q (pm.mem_iff.mp hq))
            rw [ec] at ht ⊢
            exact .tup ht (.cons .int (.cons .int .nil))
          clear ys nd pw pm fw inL
          induction L' with
          | nil => exact .nil
          | cons q L' ih => exact .cons (all q (by simp)) (ih fun r hr => all r (by simp [hr]))
        have g3 := Grow.new (o := .lst (L'.map fun q => V.ref q.1)) g2.ext hp
        exact qq (.ref p) _ _ (g2.trans g3) (.lst upd_same (rep.mono g3.stp.fs))
end
end G

namespace G
open PySem PySem.Spec PyProof.Rows L2
open PySem.W (Datum DatumOrd Tup T3 EachIs)
open Enc (enc)
/-! ### enumerate over a text -/
def ItX (x : Str) : It where
  go := fun i _ => i < x.cps.size
  yld := fun i H v H' => ∃ T c, v = V.ref T ∧ H T = none ∧ H' = upd H T (.tup [.int (i : Nat), .str ⟨#[c]⟩]) ∧ x.cps[i]? = some c
  stop := fun i _ => i = x.cps.size
theorem turn_enumS {P : Program} {w : World} {K : PySem.W.Frag} {elts : List Expr} {kk : Nat} {tpos : Pos} (x : Str) (t : Tok) (ty : String) (hty : ty = "str_ascii_iterator" ∨ ty = "str_iterator") (e it : Addr) :
    Turn P w K (.Tuple elts kk tpos) (ItX x) [e, it] e (fun i h => (∃ old, IsEnum h e it (i : Nat) old) ∧ h.IsStrIter it ty x t i ∧ e ≠ it) where
  mem := by simp
  obj := fun i h st b hb => by
    obtain ⟨⟨old, he⟩, ⟨o, ho, hc, hd⟩, ne⟩ := st
    have hb' : b = e ∨ b = it := by simpa using hb
    rcases hb' with z | z
    · rw [z]; exact ⟨_, he, fun v q => nomatch q⟩
    · rw [z]; exact ⟨o, ho, fun v q => by rw [hd] at q; cases q⟩
  keep := fun i h h' st k => by
    obtain ⟨⟨old, he⟩, ⟨o, ho, hc, hd⟩, ne⟩ := st
    exact ⟨⟨old, k e (by simp) _ he⟩, ⟨o, k it (by simp) _ ho, hc, hd⟩, ne⟩
  item := fun X hP hw hK hc i pins s σ H E I hf st hg => by
    subst hP hw hK
    obtain ⟨⟨old, he⟩, hit, ne⟩ := st
    have hel := Heap.lt_size he
    have hil : it < s.heap.objs.size := by obtain ⟨o, ho, _⟩ := hit; exact Heap.lt_size ho
    have D : Draws X.prog X.w X.A.in1 it [it] x.cps.size (fun i v => ∃ c u, x.cps[i]? = some c ∧ v = Value.str ⟨#[c]⟩ u) (fun i h => h.IsStrIter it ty x t i) := by
      rcases hty with z | z
      · rw [z]; exact Draws.strAscii (A := X.A.in1) (show X.A.in1.handled = none from I.ok.hd hc) it x t
      · rw [z]; exact Draws.strWide (A := X.A.in1) (show X.A.in1.handled = none from I.ok.hd hc) it x t
    refine wpAny_pyNext_enum_itemD D he hit hg ne (by simpa using ne) fun v h' tk ⟨c, u, hcx, hv⟩ ho hit' hT hsz hk => ⟨Value.ref s.heap.objs.size, rfl, wpAny_letOwnedTupleGo_enum ho fun h'' he' sb => ?_⟩
    subst hv
    have hT2 := (sb.2 _ (Nat.ne_of_gt hel)).trans hT
    have new : ObjOk X.prog X.w (upd H s.heap.objs.size (.tup [.int (i : Nat), .str ⟨#[c]⟩])) h'' s.heap.objs.size (.tup [.int (i : Nat), .str ⟨#[c]⟩]) := ⟨by show 2 ≤ sizeLine; decide, [Value.int (i : Nat) tk, Value.str ⟨#[c]⟩ u], .cons ⟨tk, rfl⟩ (.cons ⟨u, rfl⟩ .nil), _, hT2, rfl, 0, rfl⟩
    have I1 := Inv.turnedNew (ch := [e, it]) (t' := tk + 1) I (fun b ob hb q => by
      have n1 : b ≠ e := fun z => hb (by rw [z]; simp)
      have n2 : b ≠ it := fun z => hb (by rw [z]; simp)
      exact (sb.2 b n1).trans (hk b ob n1 n2 q)) hf (Nat.le_refl _) new
    have e1 : ((i : Nat) : Int) + 1 = ((i + 1 : Nat) : Int) := by omega
    refine ⟨.ref s.heap.objs.size, _, I1, rfl, ⟨_, c, rfl, I.hok.fresh (Nat.le_refl _), rfl, hcx⟩, ⟨⟨_, by rw [← e1]; exact he'⟩, ?_, ne⟩, fun b hb => ?_⟩
    · obtain ⟨o, ho2, h3, h4⟩ := hit'
      exact ⟨o, (sb.2 it (Ne.symm ne)).trans ho2, h3, h4⟩
    · have hb' : b = e ∨ b = it := by simpa using hb
      have lt : b < s.heap.objs.size := by rcases hb' with z | z <;> rw [z] <;> assumption
      rw [upd_ne (Nat.ne_of_lt lt)]
      exact (hf b hb).1
  done := fun X hP hw hK hc i pins s σ H E I hf st hg => by
    subst hP hw hK
    obtain ⟨⟨old, he⟩, hit, ne⟩ := st
    have hg' : i = x.cps.size := hg
    rw [hg'] at hit
    have D : Draws X.prog X.w X.A.in1 it [it] x.cps.size (fun i v => ∃ c u, x.cps[i]? = some c ∧ v = Value.str ⟨#[c]⟩ u) (fun i h => h.IsStrIter it ty x t i) := by
      rcases hty with z | z
      · rw [z]; exact Draws.strAscii (A := X.A.in1) (show X.A.in1.handled = none from I.ok.hd hc) it x t
      · rw [z]; exact Draws.strWide (A := X.A.in1) (show X.A.in1.handled = none from I.ok.hd hc) it x t
    obtain ⟨f0, f1, f2, f3, f4, f5⟩ := hf it (by simp)
    exact wpAny_pyNext_enum_endD D he hit fun h' eb => ⟨rfl, Inv.turned I (fun b o hb q => eb b o hb q) f0 f1 f3 f4 f5⟩
  self := fun A i s Q E st h => by
    obtain ⟨⟨old, he⟩, _⟩ := st
    exact wpAny_pyIter_enum he h
def iEnumS (ta : TA) : TI := fun σ H R => ta σ H fun vs H1 => ∃ z, vs = [.str z] ∧ R (ItX z) H1
theorem pi_enumS {X : Cx} {e : Expr} {ta : TA} {p pos tpos : Pos} {elts : List Expr} {kk : Nat} (hg : Gl X ("enumerate" : Str)) (hm : X.mg ("enumerate" : Str) = none) (ha : PA X [e] ta) (hs : starEach [e] X.env = [(false, eval e X.env)]) :
    PI X (.Tuple elts kk tpos) (.Call (.Name "enumerate" p) [e] [] pos) (iEnumS ta) := by
  refine ⟨fun pins s σ H R I h => PyProof.Rows.Call_ (ld_blt I hg hm PyProof.Rows.boot_enumerate (PyProof.Rows.callWith_type1 (thn (ha.run pos pins s σ H _ I h) fun us s1 ⟨vs, H1, I1, r1, z, ex, q⟩ => ?_) hs rfl) (by decide) (by decide)) rfl⟩
  subst ex
  cases r1 with
  | cons r rr =>
    cases rr
    obtain ⟨t, rfl⟩ := r
    refine call_enumerate_str fun h' he hit hsz hk => wpAny_pyIter_enum he ⟨s1.heap.objs.size + 1, [s1.heap.objs.size + 1, s1.heap.objs.size], _, ItX z, H1, rfl, Inv.kept I1 hk, turn_enumS z t (strIterType z) ?_ (s1.heap.objs.size + 1) s1.heap.objs.size, ⟨⟨_, he⟩, hit, Nat.succ_ne_self _⟩, fun b hb => ?_, q⟩
    · unfold strIterType
      split
      · exact .inl rfl
      · exact .inr rfl
    · have hb' : b = s1.heap.objs.size + 1 ∨ b = s1.heap.objs.size := by simpa using hb
      have le : s1.heap.objs.size ≤ b := by
        rcases hb' with z | z
        · rw [z]; exact Nat.le_succ _
        · rw [z]; exact Nat.le_refl _
      exact I1.fpOk le (I1.hok.fresh le)
theorem walk_enumS {z : Str} : Walk (ItX z) z.cps.size (fun _ => True) (YPair (fun i => some (V.int (i : Nat))) fun i => (z.cps[i]?).map fun c => V.str ⟨#[c]⟩) :=
  ⟨fun i _ hi _ => hi, fun _ _ => rfl, fun i H v H' _ _ y => by
    obtain ⟨T, c, h1, h2, h3, h4⟩ := y
    exact ⟨T, _, _, h1, h2, h3, rfl, by show (z.cps[i]?).map _ = _; rw [h4]; rfl⟩⟩
section
variable {S : Sig} {ρ ρ1 : Env} {a b c e f : Expr} {pos p2 p3 pos2 p' : Pos} {pin : List Nat}
theorem xi_enX {elts : List Expr} {kk : Nat} {tpos : Pos} {t : Tx} (hm : S.mg "enumerate" = none) (h : TP S ρ a t) (hg : S.scope.names.lookup ("enumerate" : Str) = some .globalImplicit := by rfl) (hs : ∀ env : PySem.Env, starEach [a] env = [(false, eval a env)] := by intro _; rfl) :
    XI S ρ (.Tuple elts kk tpos) (.Call (.Name "enumerate" p2) [a] [] pos) ((enumL (chs t)).map enc) := by
  obtain ⟨u, h1, h2⟩ := xa_cons h xa_nil (fun env => hs env)
  refine ⟨iEnumS u, fun q ok => pi_enumS (X := S.cx q) (show S.scope.names.lookup ("enumerate" : Str) = some .globalImplicit from hg) hm (h1 q ok) (hs _), fun σ F H A R w n k => h2 σ F H A _ w n fun vs F1 H1 g rr => ?_⟩
  obtain ⟨v, rfl, r⟩ := reps1 rr
  cases r
  have len : (enumL (chs t)).length = t.s.cps.size := by rw [enumL_len]; unfold chs Tx.s; simp
  refine ⟨_, rfl, k _ F1 H1 g (src_pair (by rw [List.length_map, len]) walk_enumS (fun H2 e => trivial) fun i u v hi hu hv => ?_)⟩
  cases hu
  cases z : t.l[i]? with
  | none =>
    have : t.s.cps[i]? = none := by unfold Tx.s; simp [z]
    rw [this] at hv; cases hv
  | some ch =>
    have : t.s.cps[i]? = some ch.toNat := by unfold Tx.s; simp [z]
    rw [this] at hv
    cases hv
    have z2 : (chs t)[i]? = some ⟨[ch]⟩ := by unfold chs; rw [List.getElem?_map, z]; rfl
    exact ⟨_, _, by rw [List.getElem?_map, enumL_get z2]; rfl, .int, .str⟩
end
/-! ### split, join -/
def spC (S : List Char) : Nat → List Char → List Char → List (List Char)
  | _, acc, [] => [acc]
  | 0, acc, c :: r => if S.isPrefixOf (c :: r) = true then acc :: spC S (S.length - 1) [] r else spC S 0 (acc ++ [c]) r
  | k + 1, acc, _ :: r => spC S k acc r
def jnC (s : List Char) : List (List Char) → List Char
  | [] => []
  | [p] => p
  | p :: q :: r => p ++ (s ++ jnC s (q :: r))
def splitX (y t : Tx) : List Tx := (spC y.l 0 [] t.l).map Tx.mk
def joinX (y : Tx) (ts : List Tx) : Tx := ⟨jnC y.l (ts.map Tx.l)⟩
theorem toNat_inj {c d : Char} (h : c.toNat = d.toNat) : c = d := Char.ext (UInt32.toNat.inj h)
theorem pre_chars : ∀ (S L : List Char), TL.pre (S.map Char.toNat) (L.map Char.toNat) = S.isPrefixOf L
  | [], L => by simp [TL.pre]
  | c :: S, [] => by simp [TL.pre, List.isPrefixOf]
  | c :: S, d :: L => by
    have ih := pre_chars S L
    unfold TL.pre at ih ⊢
    simp only [List.map_cons, List.length_cons, List.take_succ_cons, List.isPrefixOf]
    rw [← ih]
    by_cases e : c = d
    · subst e; simp
    · have : ¬ d.toNat = c.toNat := fun z => e (toNat_inj z).symm
      have e1 : (d.toNat == c.toNat) = false := by simpa using this
      have e2 : (c == d) = false := by simpa using e
      simp only [List.length_map, List.cons_beq_cons]
      rw [e1, e2]
theorem spl_chars (S : List Char) : ∀ (L : List Char) (k : Nat) (acc : List Char), TL.spl (S.map Char.toNat) k (acc.map Char.toNat) (L.map Char.toNat) = (spC S k acc L).map (List.map Char.toNat)
  | [], k, acc => by
    rw [List.map_nil, TL.spl_nil]
    cases k <;> rfl
  | c :: r, 0, acc => by
    have p := pre_chars S (c :: r)
    rw [List.map_cons] at p ⊢
    unfold spC
    by_cases e : S.isPrefixOf (c :: r) = true
    · rw [if_pos e, TL.spl_hit (by rw [p]; exact e), List.length_map, List.map_cons]
      have := spl_chars S r (S.length - 1) []
      rw [List.map_nil] at this
      rw [this]
    · rw [if_neg e, TL.spl_miss (by rw [p]; exact Bool.eq_false_iff.mpr e)]
      have := spl_chars S r 0 (acc ++ [c])
      rw [List.map_append, List.map_cons, List.map_nil] at this
      rw [this]
  | c :: r, k + 1, acc => by
    rw [List.map_cons, TL.spl_pass]
    unfold spC
    rw [List.drop_succ_cons, ← TL.spl_pass]
    exact spl_chars S r k acc
theorem tl_s (t : Tx) : TL.tl t.s = t.l.map Char.toNat := by unfold Tx.s; simp [TL.tl]
theorem split_s {y t : Tx} (hn : y.l ≠ []) (hk : (y.l.all fun c => decide (c.toNat < 256)) = true) : Txt.split t.s y.s = (splitX y t).map Tx.s := by
  refine TL.map_tl_inj ?_
  rw [TL.split_spl _ _ (by rw [tl_s]; simpa using hn) (TL.kind_ok (by unfold Tx.s; rw [List.all_toArray, List.all_map]; exact hk)), tl_s, tl_s]
  have := spl_chars y.l t.l 0 []
  rw [List.map_nil] at this
  rw [this]
  unfold splitX
  rw [List.map_map, List.map_map]
  exact List.map_congr_left fun l _ => (tl_s ⟨l⟩).symm
theorem joinL_chars (s : List Char) : ∀ ps : List (List Char), TL.joinL (s.map Char.toNat) (ps.map (List.map Char.toNat)) = (jnC s ps).map Char.toNat
  | [] => rfl
  | [p] => rfl
  | p :: q :: r => by
    have ih := joinL_chars s (q :: r)
    show p.map Char.toNat ++ (s.map Char.toNat ++ TL.joinL _ ((q :: r).map (List.map Char.toNat))) = _
    rw [ih]
    show _ = (p ++ (s ++ jnC s (q :: r))).map Char.toNat
    rw [List.map_append, List.map_append]
theorem join_s (y : Tx) (ts : List Tx) : Txt.join y.s (ts.map Tx.s) = (joinX y ts).s := by
  refine TL.ext_tl ?_
  rw [TL.join_eq, TL.tl_join, tl_s, tl_s, List.map_map]
  have : ts.map (TL.tl ∘ Tx.s) = (ts.map Tx.l).map (List.map Char.toNat) := by
    rw [List.map_map]; exact List.map_congr_left fun t _ => tl_s t
  rw [this, joinL_chars]
  rfl
theorem reps_strs {K : PySem.W.Frag} {F : Hp} : ∀ ts : List Tx, Reps K F ((ts.map Tx.s).map V.str) (ts.map enc)
  | [] => .nil
  | t :: ts => .cons .str (reps_strs ts)
theorem strs_reps {K : PySem.W.Frag} {F : Hp} : ∀ {ts : List Tx} {vs : List V}, Reps K F vs (ts.map enc) → vs = (ts.map Tx.s).map V.str
  | [], _, r => by cases r; rfl
  | t :: ts, _, r => by
    cases r with
    | cons h r =>
      cases h
      rw [strs_reps r]
      rfl
section
variable {S : Sig} {ρ ρ1 : Env} {a b c e f : Expr} {pos p2 p3 pos2 p' : Pos} {pin : List Nat}
theorem tp_split {t y : Tx} {apos : Pos} (ha : TP S ρ a t) (he : TP S ρ e y) (hl : t.l.length ≤ 1000000) (hn : y.l ≠ [] := by decide) (hk : (y.l.all fun c => decide (c.toNat < 256)) = true := by decide)
    (hbase : ∀ env : PySem.Env, attributeBase a "split" env (eval a env) = eval a env := by intro _; rfl)
    (hline : (apos.endLine == pos.line) = true := by rfl) (ht : ∀ env : PySem.Env, starEach [e] env = [(false, eval e env)] := by intro _; rfl) :
    TP S ρ (.Call (.Attribute a "split" apos) [e] [] pos) (splitX y t) := by
  obtain ⟨ta, h1, h2⟩ := ha
  obtain ⟨te, e1, e2⟩ := he
  refine ⟨_, fun q ok => pe_split (X := S.cx q) (h1 q ok) (e1 q ok) (ht _) (hbase _) hline, fun σ F H A Q w n q => h2 σ F H A _ w n fun v F1 H1 g r => ?_⟩
  cases r
  refine ⟨⟨_, rfl⟩, e2 σ F1 H1 A _ (g.wf w) (g.envs n) fun u F2 H2 g2 r2 => ?_⟩
  cases r2
  refine ⟨t.s, y.s, rfl, rfl, ?_, ?_, fun p hp => ?_⟩
  · rw [TL.len_tl, tl_s, List.length_map]
    simpa using hn
  · rw [TL.len_tl, tl_s, List.length_map]
    exact Nat.le_trans (Nat.add_le_add_right hl 2) (by decide)
  · rw [split_s hn hk]
    have g3 := (g.trans g2).trans (Grow.new (o := .lst (((splitX y t).map Tx.s).map V.str)) g2.ext hp)
    exact q (.ref p) _ _ g3 (.lst upd_same (reps_strs _))
def rJoinQ (K : PySem.W.Frag) : V → List V → Hp → VK → Prop := fun x xs H Q => ∃ a p, ∃ ys : List Str, x = .str a ∧ xs = [.ref p] ∧ (SqL K H p (ys.map V.str) ∨ SqT K H p (ys.map V.str)) ∧ (ys.map fun x => x.length).sum + ys.length * a.length ≤ 16777216 ∧ Q (.str (Txt.join a ys)) H
theorem tp_join {y : Tx} {ts : List Tx} {apos : Pos} (ha : TP S ρ a y) (he : TP S ρ e ts) (hl : (ts.map fun t => t.l.length).sum + ts.length * y.l.length ≤ 16777216)
    (hbase : ∀ env : PySem.Env, attributeBase a "join" env (eval a env) = eval a env := by intro _; rfl)
    (hline : (apos.endLine == pos.line) = true := by rfl) (ht : ∀ env : PySem.Env, starEach [e] env = [(false, eval e env)] := by intro _; rfl) :
    TP S ρ (.Call (.Attribute a "join" apos) [e] [] pos) (joinX y ts) := by
  obtain ⟨ta, h1, h2⟩ := ha
  obtain ⟨te, e1, e2⟩ := he
  refine ⟨tM1 (rJoinQ S.K) ta te, fun q ok => pe_join (X := S.cx q) (h1 q ok) (e1 q ok) (ht _) (hbase _) hline, fun σ F H A Q w n q => h2 σ F H A _ w n fun v F1 H1 g r => ?_⟩
  cases r
  refine ⟨⟨_, rfl⟩, e2 σ F1 H1 A _ (g.wf w) (g.envs n) fun u F2 H2 g2 r2 => ?_⟩
  cases r2 with
  | lst hx r2 =>
    rename_i l vs
    have ev := strs_reps r2
    subst ev
    refine ⟨y.s, l, ts.map Tx.s, rfl, rfl, .inl (.of (g2.ext _ _ hx)), ?_, ?_⟩
    · rw [List.map_map, List.length_map, TL.len_tl, tl_s, List.length_map]
      have : ts.map ((fun x => x.length) ∘ Tx.s) = ts.map fun t => t.l.length := List.map_congr_left fun t _ => by show t.s.length = _; rw [TL.len_tl, tl_s, List.length_map]
      rw [this]
      exact hl
    · rw [join_s]
      exact q _ _ _ (g.trans g2) .str
end
end G

namespace G
open PySem PySem.Spec PyProof.Rows L2
open PySem.W (Datum DatumOrd Tup T3 EachIs)
open Enc (enc)
/-! ### t * k, of a text -/
def repX (t : Tx) (k : Int) : Tx := ⟨(List.replicate k.toNat t.l).flatten⟩
theorem fold_rep (z : Array Nat) : ∀ (n : Nat) (acc : Array Nat), ((List.replicate n z).foldl (fun x1 x2 => x1 ++ x2) acc).toList = acc.toList ++ (List.replicate n z.toList).flatten
  | 0, acc => by simp
  | n + 1, acc => by
    rw [List.replicate_succ, List.foldl_cons, fold_rep z n, List.replicate_succ, List.flatten_cons]
    simp
theorem mul_s (t : Tx) (k : Int) : Txt.mul t.s k = (repX t k).s := by
  refine TL.ext_tl ?_
  rw [tl_s]
  unfold Txt.mul repX
  split
  · rename_i h
    have : k.toNat = 0 := by omega
    rw [this]; rfl
  · split
    · rename_i h h2
      rw [tl_s]
      rcases Bool.or_eq_true_iff.mp h2 with z | z
      · have : k = 1 := by simpa using z
        rw [this]
        simp
      · have : t.l = [] := by
          have : t.s.length = 0 := by simpa using z
          rw [Tx.len] at this
          exact List.length_eq_zero_iff.mp this
        rw [this]
        simp
    · rename_i h h2
      show TL.tl ⟨_⟩ = _
      unfold TL.tl
      dsimp only
      rw [fold_rep]
      have : t.s.cps.toList = t.l.map Char.toNat := tl_s t
      rw [this, List.map_flatten, List.map_replicate]
      rfl
def rMulX : R2 := fun x y H Q => ∃ i k, x = .str i ∧ y = .int k ∧ MulOk i k ∧ Q (.str (Txt.mul i k)) H
theorem op_mulX {X : Cx} : OpR X (binaryOp .Mult) rMulX := by
  intro pins s σ H x y v u Q I rx ry h
  obtain ⟨i, k, rfl, rfl, ok, q⟩ := h
  obtain ⟨t, rfl⟩ := rx
  obtain ⟨t2, rfl⟩ := ry
  exact SB.mul ok fun t' k' => ⟨.str _, H, I.tok _, ⟨_, rfl⟩, q⟩
theorem mul_ok {x : Str} {k : Int} (h1 : x.length ≤ 100) (h2 : k ≤ 1000) (h3 : -1000 ≤ k) : MulOk x k := by
  refine ⟨?_, fun a _ => ?_, fun a _ => ?_⟩
  · rw [Bool.or_eq_false_iff]
    exact ⟨decide_eq_false (by omega), decide_eq_false (by omega)⟩
  · have hk : 0 < k := by omega
    have : (100 : Int) ≤ (2 ^ 63 - 1) / k := Int.le_ediv_of_mul_le hk (by omega)
    omega
  · have : x.length * k.toNat ≤ 100 * 1000 := Nat.mul_le_mul h1 (by omega)
    unfold Builtin.Str.tooLong
    simp
    exact Nat.le_trans this (by decide)
theorem ob_mulX {t : Tx} {k : Int} (h1 : t.l.length ≤ 100) (h2 : k ≤ 1000) (h3 : -1000 ≤ k) : OB S .Mult (enc t) (.int k) (enc (repX t k)) := ⟨_, fun _ _ => op_mulX, fun x y F H Q e rx ry q => by
  cases rx; cases ry
  refine ⟨_, _, rfl, rfl, mul_ok (by rw [Tx.len]; exact h1) h2 h3, ?_⟩
  rw [mul_s]
  exact q _ F H (Grow.refl e) .str⟩
/-! ### a sign in a text -/
def inX (u t : Tx) : Bool := !(Builtin.Str.occurrences t.s u.s 0 t.s.length 1).isEmpty
theorem inX_one (c : Char) (t : Tx) : inX ⟨[c]⟩ t = decide (c ∈ t.l) := by
  unfold inX
  have := PySem.StrLaws.found_one t.s c.toNat
  rw [show (⟨[c]⟩ : Tx).s = ⟨#[c.toNat]⟩ from rfl, this]
  refine decide_eq_decide.mpr ?_
  rw [show t.s.cps.toList = t.l.map Char.toNat from tl_s t, List.mem_map]
  constructor
  · rintro ⟨d, hd, e⟩
    rw [← toNat_inj e]; exact hd
  · intro h
    exact ⟨c, h, rfl⟩
theorem oc_inX {S : Sig} {u t : Tx} : OC S .In (enc u) (enc t) (inX u t) := ⟨_, fun _ _ => op_in_str, fun x y F H Q e rx ry q => by
  cases rx; cases ry
  exact ⟨_, _, rfl, rfl, q _ F H (Grow.refl e) .bl⟩⟩
theorem oc_niX {S : Sig} {u t : Tx} : OC S .NotIn (enc u) (enc t) (!inX u t) := ⟨_, fun _ _ => op_notin_str, fun x y F H Q e rx ry q => by
  cases rx; cases ry
  exact ⟨_, _, rfl, rfl, q _ F H (Grow.refl e) .bl⟩⟩
section
variable {S : Sig} {ρ ρ1 : Env} {a b c e f : Expr} {pos p2 p3 pos2 p' : Pos} {pin : List Nat}
theorem tp_mulX {t : Tx} {k : Int} (ha : TP S ρ a t) (hb : TP S ρ b k) (h1 : t.l.length ≤ 100) (h2 : k ≤ 1000) (h3 : -1000 ≤ k) : TP S ρ (.BinOp a .Mult b pos) (repX t k) := xp_bin (ob_mulX h1 h2 h3) ha.v hb.v
theorem te_inX {u t : Tx} (ha : TV S ρ a u) (hb : TV S ρ b t) (hm : behindInMarks .In b = false := by first | exact nomark _ | rfl) : XT S ρ (.Compare a [.In] [b] pos) (inX u t) := xt_cmp oc_inX ha hb hm
theorem te_niX {u t : Tx} (ha : TV S ρ a u) (hb : TV S ρ b t) (hm : behindInMarks .NotIn b = false := by first | exact nomark _ | rfl) : XT S ρ (.Compare a [.NotIn] [b] pos) (!inX u t) := xt_cmp oc_niX ha hb hm
theorem cut_s (t : Tx) (lo hi : Option Int) : cutS t.s lo hi = (⟨cutL t.l lo hi⟩ : Tx).s := by
  refine TL.ext_tl ?_
  rw [tl_s]
  unfold cutS
  rw [TL.tl_mk, Tx.len, show t.s.cps.toList = t.l.map Char.toNat from tl_s t, ← List.map_drop, ← List.map_take]
  rfl
theorem tp_slX {t : Tx} {el eh : Option Expr} {lo hi : Option Int} (ha : TP S ρ a t) (hl : XO S ρ el lo) (hh : XO S ρ eh hi) (hn : t.l.length ≤ 1000000) : TP S ρ (.Subscript a (.Slice el eh none p2) pos) (⟨cutL t.l lo hi⟩ : Tx) :=
  xp_sl (r := rSlS) (fun _ _ => sl_str) (fun x F H Q e rx q => by
    cases rx
    refine ⟨_, rfl, by rw [Tx.len]; exact line_le hn, ?_⟩
    rw [cut_s]
    exact q _ F H (Grow.refl e) .str) ha hl hh
/-- a + b, a new list that is owned -/
theorem xx_catO {T : Type} [DecidableEq T] [Datum T] [Enc T] {xs ys : List T} (ha : TP S ρ a xs) (hb : TP S ρ b ys) (hl : xs.length + ys.length ≤ 1000000) : XX S ρ (.BinOp a .Add b pos) (.ok (oL (xs ++ ys)) ρ) := by
  obtain ⟨ta, a1, a2⟩ := ha
  obtain ⟨tb, b1, b2⟩ := hb
  refine ⟨tOp rCat ta tb, fun q k => pe_op op_cat (a1 q k) (b1 q k), fun σ F H A Q w n q => a2 σ F H A _ w n fun x F1 H1 g1 r1 => b2 σ F1 H1 A _ (g1.wf w) (g1.envs n) fun y F2 H2 g2 r2 => ?_⟩
  cases r1 with
  | lst h1 r1 =>
    cases r2 with
    | lst h2 r2 =>
      refine ⟨_, _, _, _, rfl, rfl, g2.hh _ _ (g1.ext _ _ h1), g2.ext _ _ h2, ?_, fun p hp => ?_⟩
      · have l1 := r1.length
        have l2 := r2.length
        rw [List.length_map] at l1 l2
        exact line_le (by omega)
      · obtain ⟨w3, s3, n3⟩ := grow_own (o := .lst _) w n (g1.trans g2) hp
        refine q _ _ _ [p] A w3 s3 (.lst upd_same ?_) n3
        have r3 := (r1.mono g2.stp.fs).append r2
        rw [← List.map_append] at r3
        exact Owns.fros r3
theorem xs_sOX {T : Type} [DecidableEq T] [Datum T] [Enc T] {v : List T} {ρ2 : Env} (i : Nat) {x : Str} (h : XX S ρ e (.ok (oL v) ρ)) (hq : ρ.set i (ov v) = ρ2 := by rfl) (hi : Nat.blt i ρ.length = true := by rfl) (hp : i ∉ pin := by decide) (hN : S.N[i]? = some x := by rfl) (hx : Loc S.scope x := by first | exact .inl rfl | exact .inr rfl) (hst : S.st x = true ∨ S.scope.names.lookup x = some .local := by first | exact .inl rfl | exact .inr rfl)
    (hs : ∀ env : PySem.Env, swapsWith e (some (.Name x p')) pos.line { env with scope := S.scope } = pure false := by intro _; rfl) : XS S pin ρ (.Assign [.Name x p'] e pos) (.nx ρ2) := by
  subst hq
  exact xs_set i h hi hp hN hx hst hs
end
end G

namespace G
open PySem PySem.Spec PyProof.Rows L2
open PySem.W (Datum DatumOrd Tup T3 EachIs)
open Enc (enc)
/-! ### a comprehension whose elements are new and owned -/
section
variable {S : Sig} {ρ ρ1 : Env} {a b c e f it tg elt : Expr} {d : D} {ds : List D} {pos p2 p3 pos2 p' : Pos} {pin : List Nat} {es : List Expr}
theorem xn_lst (h : XA S ρ es ds) (hl : ds.length ≤ 1000000 := by simp) : XN S ρ (.List es pos) (.lst (ds.map O.fro)) := by
  obtain ⟨t, h1, h2⟩ := h
  refine ⟨_, fun q o => pe_lst (h1 q o), fun σ F H A Q w n q => h2 σ F H A _ w n fun vs F1 H1 g r => ⟨?_, fun p hp => ?_⟩⟩
  · rw [r.length]; exact Nat.le_trans hl (by decide)
  · obtain ⟨s1, w1⟩ := Grow.own1 (o := .lst vs) g.ext hp
    exact q _ F1 _ [p] (g.stp.trans s1) w1 (.lst upd_same (Owns.fros r))
theorem en_lcO {α : Type} (xs : List α) (g : α → D) (h : α → O) (own : List Nat) {wi : TI} {tgt : TG} {tt : TT} {te : TE} {S' : Sig} (hK : S'.K = S.K) (ρb : α → Env)
    (hi : ∀ (σ : L2.St) (F H : Hp) (A : List Addr) (R : It → Hp → Prop), WF F H A → Envs S.K F H σ ρ A → (∀ J F' H', Grow F H F' H' → Src S.K J F' (xs.map g) → R J H') → wi σ H R)
    (ho : TgOwn tgt own) (hG : ∀ x ∈ xs, EG S' [] tgt (wipeE ρ own) (g x) (ρb x)) (ht : ∀ x ∈ xs, ET S' tt (ρb x) true) (he : ∀ x ∈ xs, EN S' te (ρb x) (h x)) (hl : xs.length ≤ 1000000) :
    EN S (tLc wi tgt tt te own) ρ (.lst (xs.map h)) := fun σ F H A Q w n q => hi σ F H A _ w n fun J F1 H1 gr src => by
  intro D hD
  obtain ⟨G, Y, wk, hG1, hY⟩ := src.h
  rw [List.length_map] at wk hY
  have w1 := gr.wf w
  obtain ⟨A1, n1, w2, m2⟩ := Envs.wipe w1 (gr.envs n) own
  refine lc_own wk ho (fun i H' => ∃ F' acc B, WF F' H' (D :: B) ∧ Stp F1 H1 [] F' H' (D :: B) ∧ H' D = some (.lst acc) ∧ Owns S.K F' H' acc ((xs.take i).map h) B) ?_ ?_ ?_ ?_
  · obtain ⟨s1, w3⟩ := Grow.own1 (o := .lst []) gr.ext hD
    exact ⟨F1, [], [], w3, s1, upd_same, .nil⟩
  · rintro i H' hi ⟨F', acc, B, w', s', hd, r'⟩
    exact hG1 H' (s'.fs.trans w'.sub)
  · rintro i v H' H'' hi ⟨F', acc, B, w', s', hd, r'⟩ y
    obtain ⟨F2, d, hd2, g2, rep⟩ := hY i H' v H'' F' hi s'.fs w'.sub y
    have hx : xs[i]? = some xs[i] := List.getElem?_eq_getElem hi
    have hm : xs[i] ∈ xs := List.getElem_mem hi
    rw [List.getElem?_map, hx] at hd2
    cases hd2
    have big : ∀ (F3 H3 : Hp), Grow F' H' F3 H3 → WF F3 H3 A1 ∧ Envs S.K F3 H3 (L2.wipe σ own) (wipeE ρ own) A1 ∧ H3 D = some (.lst acc) ∧ WF F3 H3 (D :: B) := fun F3 H3 g3 => by
      obtain ⟨w5, s5, n5⟩ := beside w2 n1 s' w'
      have w6 := g3.wf w5
      exact ⟨w6.right, g3.envs n5, g3.hh _ _ hd, w6.left⟩
    obtain ⟨w7, n7, _, _⟩ := big F2 H'' g2
    refine hG xs[i] hm (L2.wipe σ own) F2 H'' A1 v _ w7 (by rw [hK]; exact n7) (by rw [hK]; exact rep) fun σ3 A3 w8 m8 n8 p8 => ?_
    refine ht xs[i] hm σ3 F2 H'' A3 _ w8 n8 fun F4 H4 g4 => ?_
    have e1 : xs.take (i + 1) = xs.take i ++ [xs[i]] := by rw [List.take_add_one, hx]; rfl
    rw [if_pos rfl]
    refine he xs[i] hm σ3 F4 H4 A3 _ (g4.wf w8) (g4.envs n8) fun y F5 H5 B5 s5 w5 ow5 => ?_
    have g6 := g2.trans g4
    obtain ⟨_, _, d4, w9⟩ := big F4 H4 g6
    obtain ⟨w10, s10, k10⟩ := frame (B := []) (C := D :: B) w9 s5 w5
    have d5 : H5 D = some (.lst acc) := k10 D _ d4 (by simp)
    have pm : (B5 ++ (D :: B)).Perm (D :: (B ++ B5)) := by
      refine List.perm_append_comm.trans ?_
      exact List.Perm.refl _
    have w11 := w10.perm pm
    have nd := w11.nd
    have nDB : D ∉ B ++ B5 := (List.nodup_cons.mp nd).1
    have nD1 : D ∉ B := fun z => nDB (List.mem_append_left _ z)
    have nD2 : D ∉ B5 := fun z => nDB (List.mem_append_right _ z)
    have rl := r'.length
    rw [List.length_map, List.length_take] at rl
    refine ⟨acc, d5, line_lt (by omega), F5, acc ++ [y], B ++ B5, ⟨fun a u hu => ?_, nd, w11.off, fun a ha => ?_⟩, ?_, upd_same, ?_⟩
    · rw [upd_ne fun z => by rw [z, w11.off D (by simp)] at hu; cases hu]
      exact w11.sub a u hu
    · by_cases z : a = D
      · rw [z, upd_same]; exact fun z => z
      · rw [upd_ne z]; exact w11.on a ha
    · have s6 : Stp F1 H1 [] F5 H5 (D :: (B ++ B5)) := ((s'.trans ((g6.stp.mono (by simp) (A' := D :: B)).more (C := D :: B) fun a h => .inl h)).trans s10).perm (fun a => Iff.rfl) fun a h => pm.mem_iff.mpr h
      refine ⟨s6.fs, fun a u hu _ => ?_, s6.new, s6.foot, fun a ha => ?_⟩
      · rw [upd_ne (ne_of_none hu hD)]
        exact s6.keep a u hu (by simp)
      · by_cases z : a = D
        · rw [z]; exact hD
        · rw [upd_ne z] at ha; exact s6.alive a ha
    · rw [e1, List.map_append]
      have ow6 : Own S.K F5 H5 y (h xs[i]) B5 := by rw [← hK]; exact ow5
      have r5 : Owns S.K F5 H5 acc ((xs.take i).map h) B := (g6.owns r').mono s5.fs (S := B) (fun a u hu hb => k10 a u hu (by simp [hb])) fun _ h => h
      refine Owns.append (r5.mono (Ext.refl _) (S := B) (fun a u hu hb => by rw [upd_ne fun z => nD1 (by rw [← z]; exact hb)]; exact hu) fun _ h => h) ?_
      have o7 := ow6.mono (Ext.refl _) (S := B5) (H' := upd H5 D (.lst (acc ++ [y]))) (fun a u hu hb => by rw [upd_ne fun z => nD2 (by rw [← z]; exact hb)]; exact hu) fun _ h => h
      have := Owns.cons o7 (Owns.nil (K := S.K) (F := F5) (H := upd H5 D (.lst (acc ++ [y]))))
      rw [List.append_nil] at this
      exact this
  · rintro H' ⟨F', acc, B, w', s', hd, r'⟩
    rw [List.take_length] at r'
    exact q (.ref D) F' H' (D :: B) (gr.stp.trans s') w' (.lst hd r')
def tAnyN (S : Sig) (e : Expr) (o : O) (ρ : Env) : TE := fun σ H Q => ∃ t, (∀ q, S.Ok q → PE (S.cx q) e t) ∧ t σ H Q
section
variable {α : Type} (xs : List α) (g : α → D) (h : α → O) (own : List (Str × Nat)) {scope : Scope} {tgt : TG} (ρb : α → Env)
/-- y = [e for ..], e new and owned -/
theorem ps_lcOO [Calm S] (i : Nat) {y : Str} {py spos : Pos} (hi : XI S ρ tg it (xs.map g)) (hg : ∀ q, (S.blk scope).Ok q → PG ((S.blk scope).cx q) tg tgt) (ho : TgOwn tgt (own.map (·.2)))
    (hG : ∀ x ∈ xs, EG (S.blk scope) [] tgt (wipeE ρ (own.map (·.2))) (g x) (ρb x)) (he : ∀ x ∈ xs, XN (S.blk scope) (ρb x) elt (h x)) (hl : xs.length ≤ 1000000)
    (hn : Nat.blt i ρ.length = true := by rfl) (hp : i ∉ pin := by decide) (hN : S.N[i]? = some y := by rfl) (hy : S.scope.names.lookup y = some .local := by rfl) (hsw : ∀ env : PySem.Env, swapsWith (.ListComp elt [⟨tg, it, [], 0⟩] scope pos) (some (.Name y py)) spos.line { env with scope := S.scope } = pure true := by intro _; exact sw_true rfl rfl rfl (by decide +kernel)) (bo : blkC S.N S.scope scope own = true := by (try dsimp only [sigOf, Sig.blk]); decide +kernel)
    (hs : ∀ (env : PySem.Env) (x : Value), foldedSetIterable it env x = pure x := by intro _ _; rfl) : XS S pin ρ (.Assign [.Name y py] (.ListComp elt [⟨tg, it, [], 0⟩] scope pos) spos) (.nx (ρ.set i (some (.lst (xs.map h))))) := by
  obtain ⟨wi, i1, i2⟩ := hi
  have en : EN S (tLc wi tgt (tAnyTs (S.blk scope) []) (tAnyE (S.blk scope) elt) (own.map (·.2))) ρ (.lst (xs.map h)) := en_lcO (S := S) xs g h (own.map Prod.snd) (S' := S.blk scope) rfl ρb i2 ho hG (fun x hx => by
      obtain ⟨t, h1, h2⟩ := xts_nil (S := S.blk scope) (ρ := ρb x)
      exact fun σ F H A Q w n q => ⟨t, h1, h2 σ F H A Q w n q⟩) (fun x hx => by
      obtain ⟨t, h1, h2⟩ := he x hx
      exact fun σ F H A Q w n q => ⟨t, h1, h2 σ F H A Q w n q⟩) hl
  refine ⟨_, fun q ok => ps_setLc (X := S.cx q) (i := i) Calm.h ok.nd hN hy (hsw _) (i1 q ok) (blkOk_by bo) (fun s H C cl fp => ?_) (fun s H C cl fp => ?_) (fun s H C cl fp => ?_) (hs _), es_set en.x (Nat.le_of_ble_eq_true hn) hp⟩
  · obtain ⟨q', ok', e⟩ := blk_cx S q ok scope s H C cl fp
    rw [← e]; exact hg q' ok'
  · obtain ⟨q', ok', e⟩ := blk_cx S q ok scope s H C cl fp
    rw [← e]; exact pts_any ok' []
  · obtain ⟨q', ok', e⟩ := blk_cx S q ok scope s H C cl fp
    rw [← e]; exact pe_any ok' elt
end
/-! ### the place of an item of an owned list -/
def XLG (S : Sig) (ρ : Env) (e : Expr) (o : O) (up : O → Env) : Prop := ∃ t : TE, (∀ q, S.Ok q → PE (S.cx q) e t) ∧ ∀ (σ : L2.St) (F H : Hp) (A : List Addr) (Q : VK), WF F H A → Envs S.K F H σ ρ A → (∀ v B C F1 H1, Grow F H F1 H1 → Foc S.K F1 H1 σ A v o up B C → Q v H1) → t σ H Q
theorem Owns.get {K : PySem.W.Frag} {F H : Hp} : ∀ {vs : List V} {os : List O} {A : List Addr}, Owns K F H vs os A → vs.length = os.length
  | [], _, _, .nil => rfl
  | _ :: _, _, _, .cons _ r => by rw [List.length_cons, List.length_cons, r.get]
theorem xlg_ix {os : List O} {o : O} {up : O → Env} {i : Int} (j : Nat) (ha : XL S ρ a (.lst os) up) (hb : TP S ρ b i) (hij : i = (j : Int)) (ho : os[j]? = some o) (hs : PlainIx b := by intro _ _; rfl) :
    XLG S ρ (.Subscript a b pos) o (fun o' => up (.lst (os.set j o'))) := by
  subst hij
  obtain ⟨t, h1, h2⟩ := ha
  obtain ⟨tb, b1, b2⟩ := hb
  refine ⟨tOp (rIxL S.K) t tb, fun q ok => pe_ix (X := S.cx q) ix_list (h1 q ok) (b1 q ok) hs, fun σ F H A Q w n q => h2 σ F H A _ w n fun v B C0 fo => b2 σ F H A _ w n fun y F1 H1 g r => ?_⟩
  have fo := fo.grow g
  obtain ⟨ow, p, bk⟩ := fo
  cases ow with
  | lst hx rr =>
    rename_i l vs A0
    obtain ⟨u, B1, C1, g1, g2, g3, g4⟩ := rr.foc ho
    cases r
    have e2 : atI vs (j : Int) = some u := by
      unfold atI ixN
      have lt : j < vs.length := (List.getElem?_eq_some_iff.mp g1).1
      rw [if_pos (by omega), if_pos (by omega)]
      exact g1
    refine ⟨_, _, _, u, rfl, rfl, .of hx, e2, q u B1 (l :: C1 ++ C0) F1 H1 g ⟨g2, ?_, fun F' H' o' B' e k ow => ?_⟩⟩
    · refine p.trans ?_
      rw [← List.append_assoc]
      exact List.Perm.append_right C0 (perm_mid (D := [l]) g3)
    · obtain ⟨A1, n1, p1⟩ := g4 F' H' o' B' e (fun x u h hc => k x u h (by simp [hc])) ow
      obtain ⟨A2, n2, p2⟩ := bk F' H' (.lst (os.set j o')) (l :: A1) e (fun x u h hc => k x u h (by simp [hc])) (.lst (k l _ hx (by simp)) n1)
      refine ⟨A2, n2, p2.trans ?_⟩
      rw [← List.append_assoc]
      exact List.Perm.append_right C0 (perm_mid (D := [l]) p1)
/-- a[i].append(e) -/
theorem xx_appG {os : List O} {up : O → Env} {apos cpos : Pos} (hl : XLG S ρ a (.lst os) up) (he : XP S ρ e (.ok d)) (hn : os.length < 1000000)
    (hbase : ∀ env : PySem.Env, attributeBase a "append" env (eval a env) = eval a env := by intro _; rfl)
    (hfew : ∀ env : PySem.Env, ((backTo cpos (starEach [e] env)).all (fun x => !x.1) && (backToKw cpos (keywordEach [] env)).all (fun x => x.1.isSome) && decide ([e].length + ([] : List Keyword).length + (if ([] : List Keyword).isEmpty then 0 else 1) < 30)) = true := by intro _; rfl)
    (hline : (apos.endLine == cpos.line) = true := by rfl) (hs : ∀ env : PySem.Env, starEach [e] env = (false, eval e env) :: starEach [] env := by intro _; rfl) (hplain : ∀ env : PySem.Env, (backTo cpos (starEach [] env)).any (·.1) = false := by intro _; rfl) :
    XX S ρ (.Call (.Attribute a "append" apos) [e] [] cpos) (.ok (.fro .non) (up (.lst (os ++ [.fro d])))) := by
  obtain ⟨t, h1, h2⟩ := hl
  obtain ⟨ta, a1, a2⟩ := xa_cons he xa_nil hs
  refine ⟨tBM S.K "list" rAppend t ta, fun q ok => pe_bm PySem.F.plainAttrs_list PySem.F.slot_list_append PySem.F.type_list_append mt_append (h1 q ok) (a1 q ok) (hbase _) (hfew _) hline (hs _) (hplain _), fun σ F H A Q w n q => h2 σ F H A _ w n fun v B C F0 H0 g0 fo => ?_⟩
  cases fo with
  | mk ow p bk =>
  cases ow with
  | lst hx r =>
    rename_i l xs A0
    refine ⟨.inl ⟨rfl, _, SqL.of hx⟩, a2 σ F0 H0 A _ (g0.wf w) (g0.envs n) fun vs F1 H1 g rr => ?_⟩
    obtain ⟨y, rfl, ry⟩ := reps1 rr
    have len := r.length
    have fo := (Foc.mk (.lst hx r) p bk : Foc S.K F0 H0 σ A (.ref l) (.lst os) up (l :: A0) C).grow g
    have gg := g0.trans g
    have w1 := gg.wf w
    have lA : l ∉ A0 := fun z => by
      have := (w1.perm fo.perm).left.nd
      exact (List.nodup_cons.mp this).1 z
    refine ⟨l, xs, y, rfl, rfl, g.hh _ _ hx, line_lt (by omega), ?_⟩
    obtain ⟨A', n', w', s'⟩ := Foc.mut (B2 := []) (A1 := A0 ++ []) (X := []) (u := .lst (xs ++ [y])) (o' := .lst (os ++ [.fro d])) w1 fo (by simp) (.lst upd_same (Owns.append ((g.owns r).mono (Ext.refl _) (S := A0) (fun x u h hx => by rw [upd_ne fun z => lA (by rw [← z]; exact hx)]; exact h) fun _ h => h) (Owns.fros (ds := [d]) (.cons ry .nil))))
    refine q .non F1 _ [] A' w' (Stp.trans ((gg.stp.mono (by simp) (A' := A)).more (C := A) fun a h => .inl h) s') (.fro .non) n'
end
end G

namespace G
open PySem PySem.Spec PyProof.Rows L2
open PySem.W (Datum DatumOrd Tup T3 EachIs)
open Enc (enc)
section
variable {S : Sig} {ρ ρ1 : Env} {a b c e f it tg elt : Expr} {pos p2 p3 pos2 p' : Pos} {pin : List Nat} {es : List Expr}
theorem rgV_eq (k : Int) : rgV 0 k = (rng 0 k).map V.int := by
  unfold rgV rng
  rw [List.map_map]
  rfl
theorem tp_lstR [Calm S] {n : Int} (hm : S.mg "list" = none) (hm2 : S.mg "range" = none) (h : TP S ρ a n) (hb : -1000000 ≤ n ∧ n ≤ 1000000) (hg : S.scope.names.lookup ("list" : Str) = some .globalImplicit := by rfl) (hg2 : S.scope.names.lookup ("range" : Str) = some .globalImplicit := by rfl)
    (he : ∀ env : PySem.Env, starEach [.Call (.Name "range" p3) [a] [] pos2] env = (false, eval (.Call (.Name "range" p3) [a] [] pos2) env) :: starEach [] env := by intro _; rfl) (he2 : ∀ env : PySem.Env, starEach [a] env = (false, eval a env) :: starEach [] env := by intro _; rfl) :
    TP S ρ (.Call (.Name "list" p2) [.Call (.Name "range" p3) [a] [] pos2] [] pos) (rng 0 n) := by
  obtain ⟨t, h1, h2⟩ := h
  refine ⟨tLstRg (tRg1 t), fun q ok => pe_listRg (X := S.cx q) Calm.h (show S.scope.names.lookup ("list" : Str) = some .globalImplicit from hg) hm (prg_1 (show S.scope.names.lookup ("range" : Str) = some .globalImplicit from hg2) hm2 (h1 q ok) (he2 _)) (he _), fun σ F H A Q w n q => h2 σ F H A _ w n fun v F1 H1 g r => ?_⟩
  cases r
  refine ⟨_, rfl, ⟨by omega, by omega, by omega, by omega, by omega⟩, fun p hp => ?_⟩
  rw [rgV_eq]
  exact q _ _ _ (g.trans (Grow.new g.ext hp)) (.lst upd_same (Reps.ints _))
/-- for x in reversed(xs) -/
theorem xi_rev {T : Type} [DecidableEq T] [Datum T] [Enc T] {xs : List T} (hm : S.mg "reversed" = none) (h : TP S ρ a xs) (hg : S.scope.names.lookup ("reversed" : Str) = some .globalImplicit := by rfl) (hs : ∀ env : PySem.Env, starEach [a] env = [(false, eval a env)] := by intro _; rfl) :
    XI S ρ tg (.Call (.Name "reversed" p2) [a] [] pos) (xs.reverse.map enc) := by
  obtain ⟨t, h1, h2⟩ := xa_cons h xa_nil (fun env => hs env)
  refine ⟨iRev S.K t, fun q ok => pi_reversed (X := S.cx q) (show S.scope.names.lookup ("reversed" : Str) = some .globalImplicit from hg) hm (h1 q ok) (hs _), fun σ F H A R w n k => h2 σ F H A _ w n fun vs F1 H1 g rr => ?_⟩
  obtain ⟨v, rfl, r⟩ := reps1 rr
  cases r with
  | lst hl r =>
    rename_i l ys
    have len := r.length
    rw [List.length_map] at len
    refine ⟨_, _, rfl, .of (g.ext _ _ hl), k _ F1 H1 g ⟨fun H => SqL S.K H l ys, fun i H x H' => H' = H ∧ ys[ys.length - 1 - i]? = some x, by rw [List.length_map, List.length_reverse, ← len]; exact walk_rev, fun H2 e => SqL.of (e _ _ hl), fun i H2 x H3 F2 hi e e2 y => ?_⟩⟩
    obtain ⟨e3, hx⟩ := y
    subst e3
    rw [List.length_map, List.length_reverse] at hi
    obtain ⟨d, d1, d2⟩ := r.get' hx
    refine ⟨F2, d, ?_, Grow.refl e2, d2.mono e⟩
    rw [List.getElem?_map, List.getElem?_reverse (by omega), ← d1, List.getElem?_map, len]
/-- rows of rows, owned -/
def oLL {T : Type} [DecidableEq T] [Datum T] [Enc T] (ms : List (List T)) : O := .lst (ms.map oL)
theorem oLL_d {T : Type} [DecidableEq T] [Datum T] [Enc T] (ms : List (List T)) : (oLL ms).d = enc ms := by
  show O.d (.lst _) = D.lst _
  simp only [O.d]
  congr 1
  induction ms with
  | nil => rfl
  | cons m ms ih =>
    simp only [List.map_cons, O.ds]
    rw [oL_d, ih]
theorem xx_appIx {T : Type} [DecidableEq T] [Datum T] [Enc T] {ms : List (List T)} {up : O → Env} {x : List T} {v : T} {apos cpos pos1 : Pos} (j : Nat) (ha : XL S ρ a (oLL ms) up) (hb : TP S ρ b ((j : Nat) : Int)) (hj : ms[j]? = some x) (he : TP S ρ e v) (hn : x.length < 1000000) (hs1 : PlainIx b := by intro _ _; rfl)
    (hbase : ∀ env : PySem.Env, attributeBase (.Subscript a b pos1) "append" env (eval (.Subscript a b pos1) env) = eval (.Subscript a b pos1) env := by intro _; rfl)
    (hfew : ∀ env : PySem.Env, ((backTo cpos (starEach [e] env)).all (fun x => !x.1) && (backToKw cpos (keywordEach [] env)).all (fun x => x.1.isSome) && decide ([e].length + ([] : List Keyword).length + (if ([] : List Keyword).isEmpty then 0 else 1) < 30)) = true := by intro _; rfl)
    (hline : (apos.endLine == cpos.line) = true := by rfl) (hs : ∀ env : PySem.Env, starEach [e] env = (false, eval e env) :: starEach [] env := by intro _; rfl) (hplain : ∀ env : PySem.Env, (backTo cpos (starEach [] env)).any (·.1) = false := by intro _; rfl) :
    XX S ρ (.Call (.Attribute (.Subscript a b pos1) "append" apos) [e] [] cpos) (.ok (.fro .non) (up (oLL (ms.set j (x ++ [v]))))) := by
  have ho : (ms.map oL)[j]? = some (O.lst ((x.map enc).map .fro)) := by rw [List.getElem?_map, hj]; rfl
  have z := xx_appG (apos := apos) (cpos := cpos) (xlg_ix (pos := pos1) j ha hb rfl ho hs1) he (by simpa using hn) hbase hfew hline hs hplain
  have e1 : O.lst ((ms.map oL).set j (O.lst (((x.map enc).map O.fro) ++ [.fro (enc v)]))) = oLL (ms.set j (x ++ [v])) := by
    unfold oLL
    rw [List.map_set]
    unfold oL
    rw [List.map_append, List.map_append]
    rfl
  rw [e1] at z
  exact z
end
/-! xs.index(x), by a word of one's own -/
def idxD {T : Type} [DecidableEq T] (xs : List T) (x : T) : Nat := xs.findIdx fun y => decide (y = x)
theorem idxD_eq {T : Type} [DecidableEq T] (x : T) : ∀ xs : List T, xs.idxOf x = idxD xs x
  | [] => rfl
  | y :: r => by
    unfold idxD
    rw [List.idxOf_cons, List.findIdx_cons, idxD_eq x r]
    unfold idxD
    by_cases h : y = x
    · simp [h]
    · have h2 : (y == x) = false := by simpa using h
      rw [h2, decide_eq_false h]
theorem idxD_lt {T : Type} [DecidableEq T] {xs : List T} {x : T} (h : x ∈ xs) : idxD xs x < xs.length := List.findIdx_lt_length_of_exists ⟨x, h, decide_eq_true rfl⟩
theorem idxD_get {T : Type} [DecidableEq T] {xs : List T} {x : T} (h : x ∈ xs) : xs[idxD xs x]? = some x := by
  have lt := idxD_lt h
  rw [List.getElem?_eq_getElem lt]
  have := List.findIdx_getElem (xs := xs) (p := fun y => decide (y = x)) (w := lt)
  have e : xs[idxD xs x] = x := of_decide_eq_true this
  rw [e]
section
variable {S : Sig} {ρ : Env} {a e : Expr} {pos : Pos} {T : Type} [DecidableEq T] [Datum T] [Enc T] {xs : List T} {v : T}
theorem tp_ixOf {apos : Pos} (ha : TV S ρ a xs) (he : TP S ρ e v) (hm : v ∈ xs) (hd : Datum.depth T ≤ 60 := by decide)
    (hbase : ∀ env : PySem.Env, attributeBase a "index" env (eval a env) = eval a env := by intro _; rfl)
    (hfew : ∀ env : PySem.Env, ((backTo pos (starEach [e] env)).all (fun x => !x.1) && (backToKw pos (keywordEach [] env)).all (fun x => x.1.isSome) && decide ([e].length + ([] : List Keyword).length + (if ([] : List Keyword).isEmpty then 0 else 1) < 30)) = true := by intro _; rfl)
    (hline : (apos.endLine == pos.line) = true := by rfl) (hs : ∀ env : PySem.Env, starEach [e] env = (false, eval e env) :: starEach [] env := by intro _; rfl) (hplain : ∀ env : PySem.Env, (backTo pos (starEach [] env)).any (·.1) = false := by intro _; rfl) :
    TP S ρ (.Call (.Attribute a "index" apos) [e] [] pos) ((idxD xs v : Nat) : Int) := by
  have := tp_index (apos := apos) (pos := pos) ha he hm hd hbase hfew hline hs hplain
  rw [idxD_eq] at this
  exact this
end
end G

namespace G
open PySem PySem.Spec PyProof.Rows L2
open PySem.W (Datum DatumOrd Tup T3 EachIs)
open Enc (enc)
/-! ### the keys of a dict with tuple keys: list(d), sorted(d) -/
section
open PySem.W PySem.Calls
variable {prog : Program} {w : World} {A : Around} {E : Value → Shared → Prop} {s : Shared} {β : Type} {R : Value → β → Prop} {en : β → PyData} {vs : List Value} {bs : List β}
theorem sorted_dataC {v0 : Value} {Q : Value → Shared → Prop} (hcol : ∀ (R : List Value → Shared → Prop), (∀ (h1 : Heap) (tk : Nat), (∀ b o, s.heap.get? b = some o → h1.get? b = some o) → R vs { s with heap := h1, toks := tk }) → wpAny (model prog w) A.in1 (collect v0) R E s) (e : EachIs R vs bs) (er : EachIs (fun v b => ∃ as, Reads s.heap v (en b) as) vs bs) (hal : AllAlike (bs.map en)) (hk : Sortable (bs.map en)) (hL : bs.length ≤ sizeLine)
    (hu : ∀ b, b ∈ bs → A.units + 2 + (en b).depth < cLine) (h : ∀ (h2 : Heap) (tk : Nat) (p : Addr) (c : Nat) (out : List Value), (∀ b o, s.heap.get? b = some o → h2.get? b = some o) → s.heap.get? p = none → h2.get? p = some (seqObj "list" out.toArray c) → out.length = bs.length → EachIs R out (bs.mergeSort (dataLe false en)) → Q (.ref p) { s with heap := h2, toks := tk }) :
    wpAny (model prog w) A (call (.builtin "sorted") [v0]) Q E s := by
  have hlen : vs.length = bs.length := e.length
  refine call_function_entry kind_sorted plain_sorted entry_sorted (args_sorted1 _) ?_
  unfold Builtin.«sorted»
  refine wpAny_bind (m := checkCount "sorted" 1 1 _) (wpAny_pure ?_)
  refine wpAny_bind (hcol _ fun h1 tk k1 => ?_)
  refine wpAny_bind (wpAny_newList ?_ (Nat.le_trans (Nat.le_of_eq (by simp [hlen])) hL))
  have hp : (h1.push (seqObj "list" vs.toArray 0)).get? h1.objs.size = some (seqObj "list" vs.toArray 0) := Heap.get?_push_size _ rfl
  have keep1 : ∀ b o, s.heap.get? b = some o → (h1.push (seqObj "list" vs.toArray 0)).get? b = some o := fun b o q => Heap.get?_push_of_some _ (k1 b o q)
  have lt1 : ∀ b o, s.heap.get? b = some o → b ≠ h1.objs.size := fun b o q => Nat.ne_of_lt (Heap.lt_size (k1 b o q))
  have er' : EachIs (fun v b => ∃ as, Reads (sortingHeap (h1.push (seqObj "list" vs.toArray 0)) h1.objs.size vs) v (en b) as) vs bs := er.mono fun _ _ ⟨as, r⟩ => ⟨as, PyProof.Rows.Reads.keeps (fun b o q => sortingHeap_old (lt1 b o q) (keep1 b o q)) r⟩
  have S : SortsAt prog w A.in1.in1 { s with toks := tk, heap := sortingHeap (h1.push (seqObj "list" vs.toArray 0)) h1.objs.size vs } (dataKind (sortingHeap (h1.push (seqObj "list" vs.toArray 0)) h1.objs.size vs) (bs.map en)) vs :=
    SortsAt.data (each_map (R := fun v d => ∃ as, Reads (sortingHeap (h1.push (seqObj "list" vs.toArray 0)) h1.objs.size vs) v d as) en er') hal hk (bound_map hu)
  refine wpAny_bind (wpAny_holding (wpAny_call_entry slot_list_sort ⟨_, hp, rfl⟩ entry_list_sort (wpAny_mono (list_sort_vals (s := { s with toks := tk, heap := h1.push (seqObj "list" vs.toArray 0) }) (P := fun f s' => f = .done (.ret .none) ∧ s' = { s with toks := tk, heap := sortedHeap (h1.push (seqObj "list" vs.toArray 0)) h1.objs.size vs (sortVals (dataKind (sortingHeap (h1.push (seqObj "list" vs.toArray 0)) h1.objs.size vs) (bs.map en)) false vs vs).toArray }) hp S (by rw [hlen]; exact hL) ⟨rfl, rfl⟩) (fun f s' hf => ?_) fun _ _ e => e) (args_list_sort _)))
  obtain ⟨rfl, rfl⟩ := hf
  refine ⟨_, rfl, wpAny_pure ⟨_, rfl, ?_⟩⟩
  obtain ⟨c, hc2⟩ := sortedHeap_at (vs := vs) (out := (sortVals (dataKind (sortingHeap (h1.push (seqObj "list" vs.toArray 0)) h1.objs.size vs) (bs.map en)) false vs vs).toArray) hp
  have le1 : s.heap.get? h1.objs.size = none := by
    cases q : s.heap.get? h1.objs.size with
    | none => rfl
    | some o => exact absurd rfl (lt1 _ _ q)
  exact h _ _ h1.objs.size c _ (fun b o q => (sortedHeap_old (lt1 b o q) (Heap.lt_size (keep1 b o q))).trans (keep1 b o q)) le1 hc2 (by rw [sortVals_length false rfl]; exact hlen) (sortVals_data false e er' hal)
end
section
variable {β : Type} [DecidableEq β] [Datum β] [Enc β]
theorem keys_grow {K : PySem.W.Frag} {F H : Hp} {bs : List Addr} (e : Ext F H) : ∀ {kvs : List (List Key × V)} {cs : List (Int × Int)}, kvs.map (·.1) = cs.map (DKey.kt (κ := Int × Int)) → IsKeys H kvs bs →
    Grow F H (frz F H bs) H ∧ Reps K (frz F H bs) (bs.map V.ref) (cs.map enc) := fun {kvs cs} hk k => by
  have tups : ∀ b ∈ bs, ∃ xs, H b = some (.tup xs) := by
    unfold IsKeys at k
    induction k generalizing cs with
    | nil => intro b hb; cases hb
    | cons h _ ih =>
      cases cs with
      | nil => cases hk
      | cons c cs =>
        intro b hb
        rcases List.mem_cons.mp hb with rfl | hb
        · exact ⟨_, h⟩
        · exact ih (by rw [List.map_cons, List.map_cons] at hk; exact (List.cons.inj hk).2) b hb
  have xF : Ext F (frz F H bs) := fun a o h => by
    by_cases q : a ∈ bs
    · rw [frz_in q]; exact e a o h
    · rw [frz_out q]; exact h
  refine ⟨⟨⟨xF, fun _ _ h _ => h, fun a o h => ?_, fun _ h => (by cases h), fun _ h => h⟩, fun a o h => ?_⟩, ?_⟩
  · by_cases q : a ∈ bs
    · obtain ⟨xs, z⟩ := tups a q; exact .inr (.inr (imm_tup z))
    · rw [frz_out q] at h; exact .inl h
  · by_cases q : a ∈ bs
    · rw [frz_in q] at h; exact h
    · rw [frz_out q] at h; exact e a o h
  · have sub : ∀ b ∈ bs, frz F H bs b = H b := fun b hb => frz_in hb
    generalize frz F H bs = F' at sub
    clear tups xF e
    unfold IsKeys at k
    induction k generalizing cs with
    | nil =>
      cases cs with
      | nil => exact .nil
      | cons _ _ => cases hk
    | @cons p b ps bs h _ ih =>
      cases cs with
      | nil => cases hk
      | cons c cs =>
        rw [List.map_cons, List.map_cons] at hk
        obtain ⟨h1, h2⟩ := List.cons.inj hk
        refine .cons ?_ (ih h2 fun b hb => sub b (by simp [hb]))
        have : F' b = some (.tup ((DKey.kt c).map kV)) := by rw [sub b (by simp), h, h1]
        exact .tup this (.cons .int (.cons .int .nil))
def rSortDC (K : PySem.W.Frag) : List V → Hp → VK → Prop := fun vs H Q => ∃ (F : Hp) (a : Addr) (kvs : List (List Key × V)) (cs : List (Int × Int)), vs = [.ref a] ∧ Ext F H ∧ H a = some (.dT kvs) ∧ kvs.map (·.1) = cs.map (DKey.kt (κ := Int × Int)) ∧
  ∀ bs ys p, IsKeys H kvs bs → Reps K (frz F H bs) ys ((sortT cs).map enc) → H p = none → Q (.ref p) (upd H p (.lst ys))
theorem cr_sortDC {X : Cx} (hc : X.calm = true) (hu : X.A.units + 100 < cLine) : CallR X (.builtin "sorted") (rSortDC X.K) := by
  intro pins s σ H vs us Q I r h
  obtain ⟨F, a, kvs, cs, rfl, e, hd, hk, q⟩ := h
  obtain ⟨u, rfl, ru⟩ := vals1 r
  obtain rfl : u = Value.ref a := ru
  obtain ⟨z, hs, ks, pr, o, es, ep, ho, hx, hdt, he, hn⟩ := (show ObjOk X.prog X.w H s.heap a (.dT kvs) from I.hok a _ hd)
  have l1 : es.size = ks.length := size_of_entries he
  have l2 : kvs.length = ks.length := Paired.length pr
  have lc : cs.length = ks.length := by
    have := congrArg List.length hk
    rw [List.length_map, List.length_map] at this
    omega
  obtain ⟨g, rr⟩ := keys_grow (K := X.K) (F := F) e hk (isKeys_of pr)
  obtain ⟨e1, e2⟩ := each_of (T := Int × Int) I g.ext rr (vals_refs _)
  refine sorted_dataC (vs := (ks.map fun x => x.2.1).map Value.ref) (bs := cs) (en := Datum.toD) (fun R hR => ?_) e1 e2 (PySem.W.AllAlike.of fun a b => DatumOrd.alike a b) ?_ (by omega) (fun b _ => ?_) fun h2 tk p c out kp hp hp2 hlo eo => ?_
  · refine PySem.W.kdu_collect (kdl_raw hs hx hdt) (I.ok.hd hc) ho (by omega) fun h' tk acc' kp it => ?_
    have ea : acc'.toList = (ks.map fun x => x.2.1).map Value.ref := by
      have hl : acc'.toList.length = ks.length := by rw [Array.length_toList, it.1]; exact l1
      apply List.ext_getElem?
      intro j
      rw [List.getElem?_map, List.getElem?_map]
      cases hj : acc'.toList[j]? with
      | none =>
        have h1 := List.getElem?_eq_none_iff.mp hj
        rw [List.getElem?_eq_none (by omega)]
        rfl
      | some v =>
        obtain ⟨en, hen, hv⟩ := it.2 j v (by rw [← Array.getElem?_toList]; exact hj)
        have qe := entry_at he j
        rw [hen] at qe
        cases hb : ks[j]? with
        | none =>
          rw [hb] at qe
          exact nomatch (show some en = none from qe)
        | some b =>
          rw [hb] at qe
          have e2 : en = entryOfKey (tupleKind (mixKind X.prog X.w)) b := Option.some.inj qe
          rw [hv, e2]
          rfl
    rw [ea]
    exact hR h' tk kp
  · rcases (inferInstance : SortK (Int × Int)).h with h | h
    · exact PySem.W.Sortable.tuples h
    · exact PySem.W.Sortable.others h
  · have := Datum.depth_le b
    have := (inferInstance : SortK (Int × Int)).d
    omega
  · obtain ⟨ys, h1, h3⟩ := each_back eo
    have hlen : ys.length ≤ sizeLine := by rw [h1.length, hlo]; omega
    have e3 : cs.mergeSort (PySem.W.dataLe false Datum.toD) = sortT cs := by
      unfold sortT
      rw [PySem.W.dataLe_eq]
      congr 1
      funext a b
      show (!PySem.W.dataLt (Datum.toD b) (Datum.toD a)) = _
      rw [DatumOrd.lt_eq]
    rw [e3] at h3
    have hn : H p = none := I.hok.gone hp
    exact ⟨.ref _, upd H p (.lst ys), I.laidN (t' := tk) kp hp hn ⟨hlen, out.toArray.toList, c, by simpa using h1, hp2⟩, rfl, q _ ys _ (isKeys_of pr) h3 hn⟩
variable {S : Sig} {ρ : Env} {a e : Expr} {es : List Expr} {pos p2 : Pos}
theorem cb_sortedDC [Calm S] {d : List ((Int × Int) × β)} : CB S "sorted" [fD d] (enc (sortT (d.map (·.1)))) := ⟨rSortDC S.K, fun q o => cr_sortDC (X := S.cx q) Calm.h (by have := o.room.un; show q.A.units + 100 < cLine; omega), fun vs F H Q e rr q => by
  obtain ⟨v, rfl, r⟩ := reps1 rr
  obtain ⟨l, rfl, ly⟩ := DLay.of_rep r
  rcases ly with ⟨_, kvs, h, hk, _⟩ | ⟨t, _⟩
  · have hk2 : kvs.map (·.1) = (d.map (·.1)).map (DKey.kt (κ := Int × Int)) := by rw [hk, List.map_map]; rfl
    refine ⟨F, l, kvs, d.map (·.1), rfl, e, h, hk2, fun bs ys p ik hy hp => ?_⟩
    obtain ⟨g, _⟩ := keys_grow (K := S.K) (F := F) e hk2 ik
    have g2 := Grow.new (o := .lst ys) g.ext hp
    exact q (.ref p) _ _ (g.trans g2) (.lst upd_same (hy.mono g2.stp.fs))
  · cases t⟩
theorem tp_sortedDC [Calm S] {d : List ((Int × Int) × β)} (hm : S.mg "sorted" = none) (h : XV S ρ a (fD d)) (hg : S.scope.names.lookup ("sorted" : Str) = some .globalImplicit := by rfl) (he : ∀ env : PySem.Env, starEach [a] env = (false, eval a env) :: starEach [] env := by intro _; rfl) : TP S ρ (.Call (.Name "sorted" p2) [a] [] pos) (sortT (d.map (·.1))) :=
  xp_cb (p := p2) (pos := pos) cb_sortedDC hm (xav_cons h xav_nil he) hg (by decide +kernel) (by decide) (by decide) he (by intro _; rfl)
theorem tp_listDC [Calm S] {d : List ((Int × Int) × β)} (hm : S.mg "list" = none) (ha : XV S ρ a (fD d)) (hg : S.scope.names.lookup ("list" : Str) = some .globalImplicit := by rfl) (he : ∀ env : PySem.Env, starEach [a] env = (false, eval a env) :: starEach [] env := by intro _; rfl) (hpl : ∀ env : PySem.Env, (backTo pos (starEach [] env)).any (·.1) = false := by intro _; rfl) : TP S ρ (.Call (.Name "list" p2) [a] [] pos) (d.map (·.1)) := by
  obtain ⟨t, a1, a2⟩ := xav_cons ha xav_nil he
  refine ⟨_, fun q o => pe_callTy (X := S.cx q) (call_list_dT (X := S.cx q) Calm.h) (show S.scope.names.lookup ("list" : Str) = some .globalImplicit from hg) hm (by decide +kernel) (a1 q o) (by decide) (by decide) (he _) (hpl _), fun σ F H A Q w n q => a2 σ F H A _ w n fun vs F1 H1 g r1 => ?_⟩
  obtain ⟨v, rfl, r⟩ := reps1 r1
  obtain ⟨l, rfl, ly⟩ := DLay.of_rep r
  rcases ly with ⟨_, kvs, h, hk, _⟩ | ⟨t, _⟩
  · have hk2 : kvs.map (·.1) = (d.map (·.1)).map (DKey.kt (κ := Int × Int)) := by rw [hk, List.map_map]; rfl
    refine ⟨l, kvs, rfl, .inl h, fun p bs hp ik => ?_⟩
    obtain ⟨g2, hy⟩ := keys_grow (K := S.K) (F := F1) g.ext hk2 ik
    have g3 := Grow.new (o := .lst (bs.map V.ref)) g2.ext hp
    exact q (.ref p) _ _ ((g.trans g2).trans g3) (.lst upd_same (hy.mono g3.stp.fs))
  · cases t
end
end G

namespace G
open PySem PySem.Spec PyProof.Rows L2
open PySem.W (Datum DatumOrd Tup T3 EachIs)
open Enc (enc)
/-! ### a comprehension over what a method tells -/
section
variable {S : Sig} {ρ ρ1 : Env} {it tg elt : Expr} {ds : List D} {pos : Pos}
def XIM (S : Sig) (ρ : Env) (tg it : Expr) (ds : List D) (ρ1 : Env) : Prop := ∃ wi : TI, (∀ q, S.Ok q → PI (S.cx q) tg it wi) ∧
  ∀ (σ : L2.St) (F H : Hp) (A : List Addr) (R : It → Hp → Prop), WF F H A → Envs S.K F H σ ρ A → (∀ J F' H' A', WF F' H' A' → Stp F H A F' H' A' → Envs S.K F' H' σ ρ1 A' → Src S.K J F' ds → R J H') → wi σ H R
theorem xim_lst (h : XX S ρ it (.ok (.fro (.lst ds)) ρ1)) : XIM S ρ tg it ds ρ1 := by
  obtain ⟨t, h1, h2⟩ := h
  refine ⟨iList S.K t, fun q ok => pi_list (h1 q ok), fun σ F H A R w n k => h2 σ F H A _ w n fun v F1 H1 B A1 w1 s1 ow n1 => ?_⟩
  cases ow with
  | fro r =>
    cases r with
    | lst hl r => exact ⟨_, rfl, ⟨_, .of (w1.sub _ _ hl)⟩, k _ F1 H1 A1 w1 s1 n1 (src_at r walk_list fun H2 e => .of (e _ _ hl))⟩
theorem ex_lcM {α : Type} (xs : List α) (g : α → D) (p : α → Bool) (h : α → D) (own : List Nat) {wi : TI} {tgt : TG} {tt : TT} {te : TE} {S' : Sig} (hK : S'.K = S.K) (ρb : α → Env)
    (hi : ∀ (σ : L2.St) (F H : Hp) (A : List Addr) (R : It → Hp → Prop), WF F H A → Envs S.K F H σ ρ A → (∀ J F' H' A', WF F' H' A' → Stp F H A F' H' A' → Envs S.K F' H' σ ρ1 A' → Src S.K J F' (xs.map g) → R J H') → wi σ H R)
    (ho : TgOwn tgt own) (hG : ∀ x ∈ xs, EG S' [] tgt (wipeE ρ1 own) (g x) (ρb x)) (ht : ∀ x ∈ xs, ET S' tt (ρb x) (p x)) (he : ∀ x ∈ xs, p x = true → EP S' te (ρb x) (.ok (h x))) (hl : xs.length ≤ 1000000) :
    EX S (tLc wi tgt tt te own) ρ (.ok (.lst (((xs.filter p).map h).map O.fro)) ρ1) := fun σ F H A Q w n q => hi σ F H A _ w n fun J F1 H1 A0 w1 st1 n1 src => by
  intro D hD
  obtain ⟨G, Y, wk, hG1, hY⟩ := src.h
  rw [List.length_map] at wk hY
  obtain ⟨A1, nw, w2, m2⟩ := Envs.wipe w1 n1 own
  have nDF : F1 D = none := by
    cases z : F1 D with
    | none => rfl
    | some u => rw [w1.sub D u z] at hD; cases hD
  refine lc_own wk ho (fun i H' => ∃ F' acc, WF F' H' [D] ∧ Stp F1 H1 [] F' H' [D] ∧ H' D = some (.lst acc) ∧ Reps S.K F' acc (((xs.take i).filter p).map h)) ?_ ?_ ?_ ?_
  · obtain ⟨s1, w3⟩ := Grow.own1 (o := .lst []) w1.sub hD
    exact ⟨F1, [], w3, s1, upd_same, .nil⟩
  · rintro i H' hi ⟨F', acc, w', s', hd, r'⟩
    exact hG1 H' (s'.fs.trans w'.sub)
  · rintro i v H' H'' hi ⟨F', acc, w', s', hd, r'⟩ y
    obtain ⟨F2, d, hd2, g2, rep⟩ := hY i H' v H'' F' hi s'.fs w'.sub y
    have hx : xs[i]? = some xs[i] := List.getElem?_eq_getElem hi
    have hm : xs[i] ∈ xs := List.getElem_mem hi
    rw [List.getElem?_map, hx] at hd2
    cases hd2
    have big : ∀ (F3 H3 : Hp), Grow F' H' F3 H3 → WF F3 H3 A1 ∧ Envs S.K F3 H3 (L2.wipe σ own) (wipeE ρ1 own) A1 ∧ H3 D = some (.lst acc) ∧ WF F3 H3 [D] := fun F3 H3 g3 => by
      obtain ⟨w5, s5, n5⟩ := beside w2 nw s' w'
      have w6 := g3.wf w5
      exact ⟨w6.right, g3.envs n5, g3.hh _ _ hd, w6.left⟩
    obtain ⟨w7, n7, _, _⟩ := big F2 H'' g2
    refine hG xs[i] hm (L2.wipe σ own) F2 H'' A1 v _ w7 (by rw [hK]; exact n7) (by rw [hK]; exact rep) fun σ3 A3 w8 m8 n8 p8 => ?_
    refine ht xs[i] hm σ3 F2 H'' A3 _ w8 n8 fun F4 H4 g4 => ?_
    have e1 : xs.take (i + 1) = xs.take i ++ [xs[i]] := by rw [List.take_add_one, hx]; rfl
    cases ep : p xs[i] with
    | false =>
      rw [if_neg (by simp)]
      obtain ⟨_, _, d4, w9⟩ := big F4 H4 (g2.trans g4)
      refine ⟨F4, acc, w9, s'.trans (((g2.trans g4).stp.mono (by simp) (A' := [D])).more (C := [D]) fun a h => .inl h), d4, ?_⟩
      rw [e1, List.filter_append, List.filter_cons_of_neg (by simp [ep]), List.filter_nil, List.append_nil]
      exact r'.mono (g2.trans g4).stp.fs
    | true =>
      rw [if_pos rfl]
      refine he xs[i] hm ep σ3 F4 H4 A3 _ (g4.wf w8) (g4.envs n8) fun y F5 H5 g5 r5 => ?_
      have g6 := (g2.trans g4).trans g5
      obtain ⟨_, _, d5, w9⟩ := big F5 H5 g6
      have rl := r'.length
      rw [List.length_map] at rl
      have rl2 := List.length_filter_le p (xs.take i)
      have rl3 : (xs.take i).length ≤ i := by rw [List.length_take]; omega
      refine ⟨acc, d5, line_lt (by omega), F5, acc ++ [y], ⟨?_, w9.nd, w9.off, ?_⟩, ?_, upd_same, ?_⟩
      · intro a u hu
        rw [upd_ne fun z => by rw [z, w9.off D (by simp)] at hu; cases hu]
        exact w9.sub a u hu
      · intro a ha
        rw [List.mem_singleton.mp ha, upd_same]
        exact fun z => z
      · have s6 : Stp F1 H1 [] F5 H5 [D] := s'.trans ((g6.stp.mono (by simp) (A' := [D])).more (C := [D]) fun a h => .inl h)
        refine ⟨s6.fs, fun a u hu _ => ?_, s6.new, s6.foot, fun a ha => ?_⟩
        · rw [upd_ne (ne_of_none hu hD)]
          exact s6.keep a u hu (by simp)
        · by_cases z : a = D
          · rw [z]; exact hD
          · rw [upd_ne z] at ha; exact s6.alive a ha
      · rw [e1, List.filter_append, List.filter_cons_of_pos ep, List.filter_nil, List.map_append]
        rw [hK] at r5
        exact (r'.mono g6.stp.fs).append (.cons r5 .nil)
  · rintro H' ⟨F', acc, w', s', hd, r'⟩
    rw [List.take_length] at r'
    obtain ⟨w5, s5, n5⟩ := beside w1 n1 s' w'
    exact q (.ref D) F' H' [D] A0 w5 (st1.trans s5) (.lst hd (Owns.fros r')) n5
section
variable {α : Type} (xs : List α) (g : α → D) (p : α → Bool) (h : α → D) (own : List (Str × Nat)) {scope : Scope} {tgt : TG} {ifs : List Expr} (ρb : α → Env)
theorem xx_lcM [Calm S] (hi : XIM S ρ tg it (xs.map g) ρ1) (hg : ∀ q, (S.blk scope).Ok q → PG ((S.blk scope).cx q) tg tgt) (ho : TgOwn tgt (own.map (·.2)))
    (hG : ∀ x ∈ xs, EG (S.blk scope) [] tgt (wipeE ρ1 (own.map (·.2))) (g x) (ρb x)) (ht : ∀ x ∈ xs, XTs (S.blk scope) (ρb x) ifs (p x)) (he : ∀ x ∈ xs, p x = true → XP (S.blk scope) (ρb x) elt (.ok (h x))) (hl : xs.length ≤ 1000000) (bo : blkC S.N S.scope scope own = true := by (try dsimp only [sigOf, Sig.blk]); decide +kernel)
    (hs : ∀ (env : PySem.Env) (x : Value), foldedSetIterable it env x = pure x := by intro _ _; rfl) : XX S ρ (.ListComp elt [⟨tg, it, ifs, 0⟩] scope pos) (.ok (.lst (((xs.filter p).map h).map O.fro)) ρ1) := by
  obtain ⟨wi, i1, i2⟩ := hi
  refine ⟨tLc wi tgt (tAnyTs (S.blk scope) ifs) (tAnyE (S.blk scope) elt) (own.map (·.2)), fun q ok => pe_lc (X := S.cx q) Calm.h ok.nd (i1 q ok) (blkOk_by bo) (fun s H C cl fp => ?_) (fun s H C cl fp => ?_) (fun s H C cl fp => ?_) (hs _), ex_lcM (S := S) xs g p h (own.map Prod.snd) (S' := S.blk scope) rfl ρb i2 ho hG (fun x hx => ?_) (fun x hx hp => ?_) hl⟩
  · obtain ⟨q', ok', e⟩ := blk_cx S q ok scope s H C cl fp
    rw [← e]; exact hg q' ok'
  · obtain ⟨q', ok', e⟩ := blk_cx S q ok scope s H C cl fp
    rw [← e]; exact pts_any ok' ifs
  · obtain ⟨q', ok', e⟩ := blk_cx S q ok scope s H C cl fp
    rw [← e]; exact pe_any ok' elt
  · obtain ⟨t, h1, h2⟩ := ht x hx
    exact fun σ F H A Q w n q => ⟨t, h1, h2 σ F H A Q w n q⟩
  · obtain ⟨t, h1, h2⟩ := he x hx hp
    exact fun σ F H A Q w n q => ⟨t, h1, h2 σ F H A Q w n q⟩
end
end
section
variable {S : Sig} {ρ ρ1 : Env} {it tg elt c : Expr} {pos : Pos} {T : Type} [DecidableEq T] [Datum T] [Enc T] (own : List (Str × Nat)) {scope : Scope} {tgt : TG}
/-- [x for x in o.m() if c] -/
theorem tx_lcf [Calm S] {r : RE} (xs : List T) (p : T → Bool) (ρb : T → Env) (hi : XX S ρ it r) (hg : ∀ q, (S.blk scope).Ok q → PG ((S.blk scope).cx q) tg tgt) (ho : TgOwn tgt (own.map (·.2)))
    (hG : ∀ x ∈ xs, EG (S.blk scope) [] tgt (wipeE ρ1 (own.map (·.2))) (enc x) (ρb x)) (ht : ∀ x ∈ xs, XT (S.blk scope) (ρb x) c (p x)) (he : ∀ x ∈ xs, p x = true → TP (S.blk scope) (ρb x) elt x) (hl : xs.length ≤ 1000000) (hr : r = .ok (.fro (enc xs)) ρ1 := by rfl) (bo : blkC S.N S.scope scope own = true := by (try dsimp only [sigOf, Sig.blk]); decide +kernel)
    (hs : ∀ (env : PySem.Env) (x : Value), foldedSetIterable it env x = pure x := by intro _ _; rfl) : XX S ρ (.ListComp elt [⟨tg, it, [c], 0⟩] scope pos) (.ok (.lst (((xs.filter p).map enc).map O.fro)) ρ1) :=
  xx_lcM xs enc p enc own ρb (xim_lst (hr ▸ hi)) hg ho hG (fun x hx => xts_one (ht x hx)) he hl bo hs
end
end G

namespace G
open PySem PySem.Spec PyProof.Rows L2
open PySem.W (Datum DatumOrd Tup T3 EachIs)
open Enc (enc)
/-! ### a method that only looks at its object -/
section
variable {S : Sig} {ρ ρ1 : Env} {a b c e : Expr} {d d1 d2 d3 : D} {ds dr : List D} {pos p2 : Pos} {pin : List Nat} {es : List Expr} {o : O} {x m : Str} {ps ns : List Str} {k : Nat} {C : Addr}
variable {τ : Type} {dd : τ → List D} {pre : τ → Prop} {rese : τ → Except Str O}
theorem ev_meth {t : TE} {ta : TA} (y : τ) (hp : pre y) (ho : rese y = .ok o) (hm : fidx m ns = none) (hd : dd y = .ins C ns ds :: dr) (hl : EV S t ρ (.ins C ns ds)) (ha : EA S ta ρ dr) :
    EV S (tMethS C m (spP S.K dd pre rese) (WE S.wx) t ta) ρ o.d := fun σ F H A Q w n q => hl σ F H A _ w n fun v F1 H1 g r => by
  cases r with
  | ins hx hn r =>
    rename_i l dx fs
    subst hn
    have w1 := g.wf w
    refine ⟨l, dx, fs, rfl, hx, fidx_none hm, ha σ F1 H1 A _ w1 (g.envs n) fun vs F2 H2 g2 rr => ?_⟩
    have rx : Rep S.K H1 (.ref l) (.ins C (fs.map (·.1)) ds) := .ins hx rfl r
    have ra : Reps S.K H2 (.ref l :: vs) (dd y) := by
      rw [hd]
      exact .cons (rx.mono g2.hh) (rr.mono g2.ext)
    refine ⟨y, H2, [], WF.none (Ext.refl _), Owns.fros ra, hp, ?_⟩
    show RM.Post _ _ _ _ _ _ _ (rmF (dd y) (rese y))
    rw [ho]
    have g0 := g.trans g2
    intro v F3 H3 B A' w3 s3 ow ows
    obtain ⟨_, rfl⟩ := Owns.fros_inv ows
    refine q v F2 H3 (g0.trans ⟨⟨Ext.refl _, fun x o h _ => s3.keep x o h (by simp), fun x o h => .inl h, by simp, s3.alive⟩, fun x o h => ?_⟩) (ow.rep w3.sub)
    exact s3.keep x o (g0.ext x o h) (by simp)
theorem xv_meth [Calm S] {apos : Pos} {pl : PySem.Env → Sem Bool} (hG : MeG S.P S.w S.K S.mg S.base k C m ps (spP S.K dd pre rese)) (y : τ) (hp : pre y) (ho : rese y = .ok o) (hl : XV S ρ a (.ins C ns ds)) (hd : dd y = .ins C ns ds :: dr) (ha : XA S ρ (e :: es) dr) (hk : k ≤ S.kk := by exact Nat.le_of_ble_eq_true rfl) (hm : fidx m ns = none := by decide)
    (he : ∀ env : PySem.Env, starEach (e :: es) env = (false, eval e env) :: starEach es env := by intro _; rfl) (hpl : ∀ env : PySem.Env, (backTo pos (starEach es env)).any (·.1) = false := by intro _; rfl)
    (ht : ∀ env : PySem.Env, eval (.Call (.Attribute a m apos) (e :: es) [] pos) env = (do
      let ov ← eval a env
      standAt apos.atName
      let (f, first) ← holding [ov] (getMethod ov m (pl env))
      callWith pos f first (backTo pos (starEach (e :: es) env)) (backToKw pos (keywordEach [] env))) := by intro _; rfl) : XV S ρ (.Call (.Attribute a m apos) (e :: es) [] pos) o.d := by
  obtain ⟨f, fd, F, me, b⟩ := hG.h
  obtain ⟨t, h1, h2⟩ := hl
  obtain ⟨ta, a1, a2⟩ := ha
  exact ⟨_, fun q ok => pe_methS (X := S.cx q) (h1 q ok) hG.c me F ((ok.calm Calm.h).mono hk) b (fun σ => L2N.passAt ok.tk σ) (a1 q ok) (he _) (hpl _) (ht _), ev_meth y hp ho hm hd h2 a2⟩
variable {T : Type} [DecidableEq T] [Datum T] [Enc T]
theorem tp_meth [Calm S] {apos : Pos} {pl : PySem.Env → Sem Bool} {v : T} (hG : MeG S.P S.w S.K S.mg S.base k C m ps (spP S.K dd pre rese)) (y : τ) (hp : pre y) (hl : XV S ρ a (.ins C ns ds)) (ha : XA S ρ (e :: es) dr) (hd : dd y = .ins C ns ds :: dr := by rfl) (ho : rese y = oF v := by rfl) (hf : Flat (enc v) = true := by rfl) (hk : k ≤ S.kk := by exact Nat.le_of_ble_eq_true rfl) (hm : fidx m ns = none := by decide)
    (he : ∀ env : PySem.Env, starEach (e :: es) env = (false, eval e env) :: starEach es env := by intro _; rfl) (hpl : ∀ env : PySem.Env, (backTo pos (starEach es env)).any (·.1) = false := by intro _; rfl)
    (ht : ∀ env : PySem.Env, eval (.Call (.Attribute a m apos) (e :: es) [] pos) env = (do
      let ov ← eval a env
      standAt apos.atName
      let (f, first) ← holding [ov] (getMethod ov m (pl env))
      callWith pos f first (backTo pos (starEach (e :: es) env)) (backToKw pos (keywordEach [] env))) := by intro _; rfl) : TP S ρ (.Call (.Attribute a m apos) (e :: es) [] pos) v :=
  XV.p (d := enc v) (xv_meth (o := .fro (enc v)) hG y hp ho hl hd ha hk hm he hpl ht) hf
end
end G

namespace G
open PySem PySem.Spec PyProof.Rows L2
open PySem.W (Datum DatumOrd Tup T3 EachIs)
open Enc (enc)
/-! ### try whose suite knows the names as the body left them -/
section
variable {S : Sig} {ρ ρ1 : Env} {pos pos' np : Pos} {pin : List Nat} {body suite : List Stmt} {b0 : Stmt} {x y : Str} {r : RS} {o : O}
def TryKeep (S : Sig) (pin : List Nat) (x : Str) (su : List Stmt) : RS → RS → Prop
  | .ex y (some ρ1), r => PySem.W.exmOne S.K (.ref (He.ga S.K y)) (.ref (He.ga S.K x)) = some true ∧ ∃ o ρ2, r = .rt o ρ2 ∧ ∀ a, XB (S.suite a y) pin ρ1 su (.rt o ρ2)
  | .ex _ none, _ => False
  | rb, r => r = rb
theorem xs_try_keep {rb : RS} (hb : ∀ W, XB (S.tr W) pin ρ body rb) (he : TryKeep S pin x (b0 :: suite) rb r) (g : S.mg x = some (.ref (He.ga S.K x)))
    (hh : S.hot = none := by rfl) (ht : S.top = true := by rfl) (hg : S.scope.names.lookup x = some .globalImplicit := by rfl) (hdb : (x == ("__debug__" : Str)) = false := by decide) :
    XS S pin ρ (.Try body [.ExceptHandler (some (.Name x np)) none (b0 :: suite) pos'] [] [] pos) r := by
  have hb' : ∀ W, ∃ t, (∀ q, (S.tr W).Ok q → PSs ((S.tr W).cx q) body t) ∧ ES (S.tr W) pin t ρ rb := hb
  obtain ⟨ts, hts1, hts2⟩ : ∃ ts : Addr → Value → Option Addr → TS, (∀ q, S.Ok q → ∀ (a : Addr) (oe : Obj) (cls : Value) (d : Option Addr) (pn : List (Addr × Obj)), L2N.Zn cls d oe → (∃ vs, oe.data = .fields vs) → PSs ((S.cx q).suite a ((a, oe) :: pn)) (b0 :: suite) (ts a cls d)) ∧
      ∀ y ρo, rb = .ex y ρo → ∀ a D σ H, tAnyB (S.suite a y) (b0 :: suite) D σ H → ts a (.ref (He.ga S.K y)) none D σ H := by
    refine ⟨fun a cls d D σ H => ∃ y, cls = .ref (He.ga S.K y) ∧ d = none ∧ tAnyB (S.suite a y) (b0 :: suite) D σ H, fun q ok a oe cls d pn hz hf => ⟨fun pins s σ H D I ⟨y, e1, e2, t, h, z⟩ => ?_⟩, fun y ρo e a D σ H h => ⟨y, rfl, rfl, h⟩⟩
    subst e1 e2
    exact (h _ (suite_ok ok hz hf)).run pins s σ H D I z
  refine ⟨fun D σ H => Classical.choose (hb' (wMany S.K S.wx D [(.ref (He.ga S.K x), ts)])) D σ H, fun q ok => ?_, fun σ F H A D w nv post => ?_⟩
  · obtain ⟨st, sf⟩ := ok.top ht
    exact L2N.ps_try_many (X := S.cx q) (tb := fun W => Classical.choose (hb' W)) (l := [(.ref (He.ga S.K x), ts)]) (Wout := S.wx) st sf ok.tk
      (fun W pn xe tk po => (Classical.choose_spec (hb' W)).1 _ (tr_ok ok hh tk po)) (.cons ⟨hg, hdb, .inl g⟩ (fun a oe cls d pn hz hf => hts1 q ok a oe cls d pn hz hf) .nil)
  · refine (Classical.choose_spec (hb' _)).2 σ F H A D w nv ?_
    cases rb with
    | nx ρ' => obtain rfl : r = _ := he; exact post
    | bk ρ' => obtain rfl : r = _ := he; exact post
    | ct ρ' => obtain rfl : r = _ := he; exact post
    | rt o ρ' => obtain rfl : r = _ := he; exact post
    | ex y ρ' =>
      cases ρ' with
      | none => exact False.elim he
      | some ρ' =>
        obtain ⟨e1, o, ρ2, rfl, hsu⟩ := he
        intro σ' F' H' A' w' s' n' p'
        refine ⟨true, e1, fun _ a na => hts2 y (some ρ') rfl a _ _ _ ?_, fun z => nomatch z⟩
        have n' : Envs S.K F' H' σ' ρ' A' := n'
        refine (hsu a).any _ F' H' A' _ w' n' ?_
        intro v σ2 F2 H2 B A2 w2 s2 ow n4 p4
        exact post v σ2 F2 H2 B A2 w2 (s'.trans s2) ow n4 (p'.trans p4)
theorem xs_retEr {e : Expr} {re : RE} (h : XX S ρ e re) (hr : re = .ex y ρ1) : XS S pin ρ (.Return (some e) pos) (.ex y (some ρ1)) := xs_retE (hr ▸ h) (.inr rfl)
theorem xs_retr {e : Expr} {re : RE} (h : XX S ρ e re) (hr : re = .ok o ρ1) : XS S pin ρ (.Return (some e) pos) (.rt o (some ρ1)) := xs_ret (hr ▸ h)
end
end G

namespace G
open PySem PySem.Spec PyProof.Rows L2
open PySem.W (Datum DatumOrd Tup T3 EachIs)
open Enc (enc)
/-! ### a set of many items, few of them unlike -/
theorem len_few {α : Type} [DecidableEq α] : ∀ {l D : List α}, l.Nodup → (∀ x ∈ l, x ∈ D) → l.length ≤ D.length
  | [], _, _, _ => Nat.zero_le _
  | x :: r, D, n, h => by
    have nx := List.nodup_cons.mp n
    have := len_few (l := r) (D := D.erase x) nx.2 fun y hy => (List.mem_erase_of_ne (fun e : y = x => nx.1 (by rw [← e]; exact hy))).mpr (h y (List.mem_cons_of_mem _ hy))
    rw [List.length_erase_of_mem (h x List.mem_cons_self)] at this
    have pos := List.length_pos_of_mem (h x List.mem_cons_self)
    rw [List.length_cons]
    omega
section
variable {P : Program} {w : World} {A : Around} {E : Value → Shared → Prop} {s : Shared}
/-- one item more -/
theorem few_add {S x : Addr} {k : List Int} {L : List (Addr × List Int)} {es : Array (Int × Value)} {ep : Nat} {t : SetTable} {Q : Bool → Shared → Prop} (R : SetTR P w s.heap S L es ep t) (hx : IsT P w s.heap k x) (hu : A.units < cLine) (hf : L.length + 1 < 64)
    (h : ∀ b h' L' es' ep' t', Heap.SameBut S s.heap h' → SetTR P w h' S L' es' ep' t' → (k ∈ L.map (·.2) → L' = L) → (k ∉ L.map (·.2) → L'.Perm ((x, k) :: L)) → Q b { s with heap := h', toks := s.toks + (k.length + 1) }) : wpAny (model P w) A (setAdd S (.ref x)) Q E s := by
  unfold setAdd
  refine wpAny_holding (wpAny_bind (wpAny_pyHash_tuple hu hx ?_))
  exact add_at (s := { s with toks := s.toks + (k.length + 1) }) R hx hu hf fun b h' L' es' ep' t' hsb hS2 c1 c2 => h b h' L' es' ep' t' hsb hS2 c1 c2
/-- all that are still to come -/
theorem few_run {it S : Addr} {fp wr : List Addr} {G : Array GenState → Array GenState → Prop} {Pv : Nat → Value → Prop} {St : Nat → Shared → Prop} {R : Result → Shared → Prop} {ks : List (Addr × List Int)} {h0 : Heap} (W : WalksS P w A.in1 it fp wr G ks.length Pv St)
    (hS : S ∉ fp) (hv : ∀ i v, Pv i v → ∃ p, ks[i]? = some p ∧ v = .ref p.1) (hk : ∀ p ∈ ks, IsT P w h0 p.2 p.1) (h0S : h0.get? S = none) (h0w : ∀ b ∈ wr, h0.get? b = none) (hu : A.in1.units < cLine) {D : List (List Int)} (hD : D.length ≤ 62) (inD : ∀ p ∈ ks, p.2 ∈ D) :
    ∀ (m i : Nat) (s : Shared), i + m = ks.length → St i s → (∀ b o, h0.get? b = some o → s.heap.get? b = some o) → (∃ L es ep t, SetTR P w s.heap S L es ep t ∧ Got ks i L) →
      (∀ s', Moved (S :: wr) G s s' → (∃ L es ep t, SetTR P w s'.heap S L es ep t ∧ Got ks ks.length L) → R (.ok (.ret .none)) s') → codeAny (model P w) A (.builtin "set.update.loop" ⟨[.ref S, .ref it], []⟩) R s
  | m, i, s, hm, hst, old, ⟨L, es, ep, t, hR, g⟩, q => by
    have more : ∀ b ∈ wr, b ∈ S :: wr := fun b hb => List.mem_cons_of_mem _ hb
    have nS : S ∉ wr := fun z => hS (W.sub _ z)
    have inks : ∀ p ∈ L, p ∈ ks := fun p hp => List.mem_of_mem_take (g.sub p hp)
    -- what a turn of the iterator leaves
    have turned : ∀ {s1 : Shared}, Moved wr G s s1 → (∀ b o, h0.get? b = some o → s1.heap.get? b = some o) ∧ SetTR P w s1.heap S L es ep t := fun {s1} mv => by
      have old1 : ∀ b o, h0.get? b = some o → s1.heap.get? b = some o := fun b o e => mv.heap b o (fun hb => by rw [h0w b hb] at e; cases e) (old b o e)
      exact ⟨old1, hR.keep (fun o e => mv.heap S o nS e) fun p hp => isT_keep (hk p (inks p hp)) old1⟩
    refine codeAny_builtin F.entry_set_update_loop ?_
    rw [Around.under_plainId F.plain_set_update_loop _]
    show wpAny _ A.in1 (pyNext (.ref it) >>= _) _ _ s
    match m, hm with
    | 0, hm =>
      obtain rfl : i = ks.length := hm
      exact wpAny_bind (W.done s _ _ hst fun s1 mv => wpAny_pure (q s1 (mv.mono more) ⟨L, es, ep, t, (turned mv).2, g⟩))
    | m + 1, hm =>
      refine wpAny_bind (W.item i s _ _ (by omega) hst fun v s1 pv hst1 mv => ?_)
      obtain ⟨p, hp, rfl⟩ := hv i v pv
      obtain ⟨old1, hR1⟩ := turned mv
      have few : L.length + 1 < 64 := by
        have := len_few hR1.nd fun v hv => by
          obtain ⟨z, hz, e⟩ := List.mem_map.mp hv
          rw [← e]
          exact inD z (inks z hz)
        rw [List.length_map] at this
        omega
      show wpAny _ A.in1 (holding [Value.ref p.1] (setAdd S (.ref p.1)) >>= _) _ _ s1
      refine wpAny_bind (wpAny_holding (few_add hR1 (isT_keep (hk p (List.mem_of_getElem? hp)) old1) hu few fun b h' L' es' ep' t' sb hR2 c1 c2 => ?_))
      have old2 : ∀ b o, h0.get? b = some o → h'.get? b = some o := fun b o e => (sb.2 b (fun z => by rw [z, h0S] at e; cases e)).trans (old1 b o e)
      have g2 : Got ks (i + 1) L' := by
        by_cases c : p.2 ∈ L.map (·.2)
        · rw [c1 c]; exact g.same hp c
        · exact g.more hp (c2 c)
      refine wpAny_pure ⟨plainId_quiet F.plain_set_update_loop _, few_run W hS hv hk h0S h0w hu hD inD m (i + 1) _ (by omega) (W.frame _ s1 _ _ hst1 (Nat.le_add_right _ _) fun b hb o e => (sb.2 b fun z => hS (by rw [← z]; exact hb)).trans e) old2 ⟨L', es', ep', t', hR2, g2⟩ fun s2 mv2 r => q s2 ?_ r⟩
      exact Moved.trans W.gtrans ((mv.mono more).then_heap (Nat.le_add_right _ _) fun b o hb e => (sb.2 b fun z => hb (by rw [z]; exact List.mem_cons_self)).trans e) mv2
theorem loop_few {items : Array Value} {ks : List (Addr × List Int)} {D : List (List Int)} (hit : items.toList = ks.map fun p => Value.ref p.1) (hk : ∀ p ∈ ks, IsT P w s.heap p.2 p.1) (hD : D.length ≤ 62) (inD : ∀ p ∈ ks, p.2 ∈ D) (hu : A.units + 3 < cLine) :
    SetLoop P w A s items fun h' => ∃ L es ep t, SetTR P w h' s.heap.objs.size L es ep t ∧ Got ks ks.length L := by
  have len : items.size = ks.length := by
    have q := congrArg List.length hit
    rwa [Array.length_toList, List.length_map] at q
  refine ⟨fun W hv hS hw st at_S keep hu' q => ?_⟩
  rw [len] at W
  refine few_run W hS (fun i v z => ?_) hk ?_ hw (by omega) hD inD ks.length 0 _ (Nat.zero_add _) st keep ⟨[], #[], 0, _, setTR_fresh at_S, Got.zero ks⟩ fun s' mv r => q s' mv r
  · have hi : items.toList[i]? = some v := by rw [Array.getElem?_toList]; exact hv i v z
    rw [hit, List.getElem?_map] at hi
    obtain ⟨p, e1, e2⟩ := Option.map_eq_some_iff.mp hi
    exact ⟨p, e1, e2.symm⟩
  · cases q : s.heap.get? s.heap.objs.size with
    | none => rfl
    | some o => exact absurd (Heap.lt_size q) (Nat.lt_irrefl _)
end
section
variable {X : Cx}
def rSetFew (K : PySem.W.Frag) (P : Program) (w : World) : List V → Hp → VK → Prop := fun xs H Q => ∃ (l : Addr) (ks : List (Addr × List Int)) (D : List (List Int)), xs = [V.ref l] ∧ SqL K H l (ks.map fun p => V.ref p.1) ∧ (∀ p ∈ ks, SqT K H p.1 (p.2.map V.int)) ∧ D.length ≤ 62 ∧ (∀ p ∈ ks, p.2 ∈ D) ∧
  ∀ a L, H a = none → (∀ p ∈ L, p ∈ ks) → (∀ p ∈ ks, p.2 ∈ L.map (·.2)) → Q (.ref a) (upd H a (SetTO P w a L))
theorem cr_setFew (hc : X.calm = true) (hu : X.A.units + 64 < cLine) : CallR X (.type "set") (rSetFew X.K X.prog X.w) := by
  intro pins s σ H xs us Q I r h
  obtain ⟨l, ks, D, rfl, hl, hk, hD, inD, q⟩ := h
  rw [Vals.ref1 r]
  obtain ⟨its, rv, pl, hz⟩ := I.list hl
  refine set_any_list (P := X.prog) (w := X.w) (I.ok.hd hc) pl.isList (loop_few (ks := ks) (by simpa using refs_of_vals rv) (fun p hp => I.isT (hk p hp)) hD inD (by omega)) fun h' tk ⟨L, es, ep, t, R, g⟩ k => ?_
  exact ⟨.ref s.heap.objs.size, upd H s.heap.objs.size (SetTO X.prog X.w s.heap.objs.size L), I.laid (t' := tk) k (Nat.le_refl _) (setTO_new R.t0), rfl, q _ L (I.hok.fresh (Nat.le_refl _)) (fun p hp => List.mem_of_mem_take (g.sub p hp)) fun p hp => g.all p (by rw [List.take_length]; exact hp)⟩
end
section
variable {S : Sig} {ρ : Env} {a : Expr} {pos p2 p3 pos2 : Pos}
theorem tp_ssetF [Calm S] {xs D : List Cell} (hm : S.mg "sorted" = none) (hm2 : S.mg "set" = none) (h : TP S ρ a xs) (hb : ∀ c ∈ xs, (0 ≤ c.1 ∧ c.1 < 64) ∧ 0 ≤ c.2 ∧ c.2 < 64) (hD : D.length ≤ 62) (inD : ∀ c ∈ xs, c ∈ D) (hg : S.scope.names.lookup ("sorted" : Str) = some .globalImplicit := by rfl) (hg2 : S.scope.names.lookup ("set" : Str) = some .globalImplicit := by rfl) (he : ∀ env : PySem.Env, starEach [a] env = (false, eval a env) :: starEach [] env := by intro _; rfl) :
    TP S ρ (.Call (.Name "sorted" p2) [.Call (.Name "set" p3) [a] [] pos2] [] pos) (sset xs) := by
  obtain ⟨t, h1, h2⟩ := h
  refine ⟨tCB (rSortedT S.K S.P S.w) (tCons (tCB (rSetFew S.K S.P S.w) (tCons t tNil)) tNil), fun q ok => ?_, fun σ F H A Q w n qq => ?_⟩
  · have hu : (S.cx q).A.units + 64 < cLine := by have := ok.room.un; show q.A.units + 64 < cLine; omega
    exact pe_callB (X := S.cx q) (cr_sortedT (X := S.cx q) Calm.h) (show S.scope.names.lookup _ = some .globalImplicit from hg) hm (by decide +kernel) (pa_cons (pe_callTy (X := S.cx q) (cr_setFew (X := S.cx q) Calm.h hu) (show S.scope.names.lookup _ = some .globalImplicit from hg2) hm2 (by decide +kernel) (pa_cons (h1 q ok) pa_nil (he _)) (by decide) (by decide) (he _) (by rfl)) pa_nil) (by decide) (by decide) (by rfl) (by rfl)
  · refine h2 σ F H A _ w n fun v F1 H1 g r => ?_
    cases r with
    | lst hv r =>
      rename_i l vs
      obtain ⟨ks, e1, e2, e3⟩ := cells_ks r
      subst e1
      have len : ks.length = xs.length := by simpa using congrArg List.length e3
      have inks : ∀ p ∈ ks, ∃ c ∈ xs, p.2 = [c.1, c.2] := fun p hp => by
        have : p.2 ∈ ks.map (·.2) := List.mem_map.mpr ⟨p, hp, rfl⟩
        rw [e3] at this
        obtain ⟨c, hc, e⟩ := List.mem_map.mp this
        exact ⟨c, hc, e.symm⟩
      refine ⟨l, ks, D.map fun c => [c.1, c.2], rfl, .of (g.ext _ _ hv), fun p hp => .of (g.ext _ _ (e2 p hp)), by rw [List.length_map]; exact hD, fun p hp => (by obtain ⟨c, hc, e⟩ := inks p hp; rw [e]; exact List.mem_map.mpr ⟨c, inD c hc, rfl⟩), fun s L hs hL hK => ?_⟩
      have g2 := g.trans (Grow.side (o := SetTO S.P S.w s L) g.ext hs)
      refine ⟨s, L, 2, 64, rfl, upd_same, fun p hp => .of (g2.ext _ _ (e2 p (hL p hp))), by decide, fun p hp => ?_, fun L' p pm nd fw pw hp => ?_⟩
      · obtain ⟨c, hc, e⟩ := inks p (hL p hp)
        rw [e]
        refine ⟨rfl, fun n hn => ?_⟩
        have := hb c hc
        rcases List.mem_cons.mp hn with rfl | hn
        · exact this.1
        · rw [List.mem_singleton.mp hn]; exact this.2
      · have inL : ∀ q ∈ L', ∃ c ∈ xs, q.2 = [c.1, c.2] := fun q hq => inks q (hL q (pm.mem_iff.mp hq))
        have ys : L'.map (fun q => cel q.2) = sset xs := by
          refine sset_of ?_ ?_ fun v => ?_
          · refine List.pairwise_map.mpr ?_
            have nd2 : L'.Pairwise fun q r => q.2 ≠ r.2 := List.pairwise_map.mp nd
            refine (List.pairwise_iff_forall_sublist.mpr fun {q r} hs => ?_)
            have hq : q ∈ L' := hs.subset (by simp)
            have hr : r ∈ L' := hs.subset (by simp)
            obtain ⟨c, hc, ec⟩ := inL q hq
            obtain ⟨d, hd, ed⟩ := inL r hr
            have c1 := List.pairwise_iff_forall_sublist.mp pw hs
            have c2 := List.pairwise_iff_forall_sublist.mp nd2 hs
            rw [ec, ed] at c1 c2 ⊢
            exact code_lt (x := c) (y := d) c1 c2 (hb c hc) (hb d hd)
          · refine List.pairwise_map.mpr ?_
            have nd2 : L'.Pairwise fun q r => q.2 ≠ r.2 := List.pairwise_map.mp nd
            refine (List.pairwise_iff_forall_sublist.mpr fun {q r} hs e => ?_)
            have hq : q ∈ L' := hs.subset (by simp)
            have hr : r ∈ L' := hs.subset (by simp)
            obtain ⟨c, hc, ec⟩ := inL q hq
            obtain ⟨d, hd, ed⟩ := inL r hr
            have c2 := List.pairwise_iff_forall_sublist.mp nd2 hs
            rw [ec, ed] at e c2
            have e' : c = d := e
            exact c2 (by rw [e'])
          · rw [List.mem_map]
            constructor
            · rintro ⟨q, hq, rfl⟩
              obtain ⟨c, hc, ec⟩ := inL q hq
              rw [ec]; exact hc
            · intro hv
              have : [v.1, v.2] ∈ ks.map (·.2) := by rw [e3]; exact List.mem_map.mpr ⟨v, hv, rfl⟩
              obtain ⟨p', hp', e'⟩ := List.mem_map.mp this
              have := hK p' hp'
              obtain ⟨q, hq, eq⟩ := List.mem_map.mp this
              refine ⟨q, pm.mem_iff.mpr hq, ?_⟩
              show cel q.2 = v
              have eq' : q.2 = p'.2 := eq
              rw [eq', e']; rfl
        have rep : Reps S.K F1 (L'.map fun q => V.ref q.1) ((sset xs).map enc) := by
          rw [← ys, List.map_map]
          have all : ∀ q ∈ L', Rep S.K F1 (.ref q.1) (enc (cel q.2)) := fun q hq => by
            obtain ⟨c, hc, ec⟩ := inL q hq
            have ht := e2 q (hL q (pm.mem_iff.mp hq))
            rw [ec] at ht ⊢
            exact .tup ht (.cons .int (.cons .int .nil))
          clear ys nd pw pm fw inL
          induction L' with
          | nil => exact .nil
          | cons q L' ih => exact .cons (all q (by simp)) (ih fun r hr => all r (by simp [hr]))
        have g3 := Grow.new (o := .lst (L'.map fun q => V.ref q.1)) g2.ext hp
        exact qq (.ref p) _ _ (g2.trans g3) (.lst upd_same (rep.mono g3.stp.fs))
end
end G

namespace G
open PySem PySem.Spec PyProof.Rows L2
open PySem.W (Datum DatumOrd Tup T3 EachIs)
open Enc (enc)
/-! ### t[::-1] of a text; what is owned, looked at; a method without arguments that only looks -/
def tRevS (te : TE) : TE := fun σ H Q => te σ H fun x H1 => ∃ z : Str, x = .str z ∧ z.length ≤ sizeLine ∧ Q (.str ⟨z.cps.toList.reverse.toArray⟩) H1
theorem cp_all {α : Type} (xs : Array α) : (List.range xs.size).filterMap (xs[·]?) = xs.toList := PySem.W.krv_all xs
theorem picked_rev (z : Str) : (Builtin.Str.strSliceIndices none none (-1) z.length).filterMap (z.cps[·]?) = z.cps.toList.reverse := by
  show ((sliceRange ((z.cps.size : Int) - 1) (-1) (-1)).filterMap (z.cps[·]?)) = _
  rw [PySem.W.krv_sliceRange, PySem.W.krv_range, List.filterMap_reverse, cp_all]
theorem pe_revS {X : Cx} {e : Expr} {te : TE} {k : Nat} {p1 p2 p3 pos : Pos} (he : PE X e te) : PE X (.Subscript e (.Slice none none (some (.UnaryOp .USub (.Constant (.int 1) k p1) p2)) p3) pos) (tRevS te) := by
  refine ⟨fun pins s σ H Q I h => ?_⟩
  refine Subscript_ (thn (he.run pins s σ H _ I h) fun v s1 ⟨x, H1, I1, r1, q1⟩ => ?_)
  obtain ⟨z, ex, hz, q⟩ := q1
  subst ex
  obtain ⟨t, rfl⟩ := r1
  have hst : PO X (some (.UnaryOp .USub (.Constant (.int 1) k p1) p2)) (tPart (tUn (rU fun i => .int (-i)) (tC (.int 1)))) := po_some (pe_un un_neg pe_int)
  refine wpAny_Slice (thn (po_none.run pins s1 σ H1 (fun o H2 => o = none ∧ H2 = H1) I1 ⟨rfl, rfl⟩) fun vl s2 ⟨l, H2, I2, pl, el, e2⟩ => ?_)
  subst el e2
  refine thn (po_none.run pins s2 σ H2 (fun o H3 => o = none ∧ H3 = H2) I2 ⟨rfl, rfl⟩) fun vu s3 ⟨u, H3, I3, pu, eu, e3⟩ => ?_
  subst eu e3
  refine thn (hst.run pins s3 σ H3 (fun o H4 => o = some (-1) ∧ H4 = H3) I3 ⟨1, rfl, -1, rfl, rfl, rfl⟩) fun vs s4 ⟨o, H4, I4, ps, eo, e4⟩ => ?_
  subst eo e4
  obtain ⟨l, rfl, el⟩ := IsPart.raw pl
  obtain ⟨u, rfl, eu⟩ := IsPart.raw pu
  obtain ⟨st, rfl, es⟩ := IsPart.raw ps
  have I5 : Inv X pins σ H4 { s4 with heap := s4.heap.push { cls := .type "slice", data := .fields #[partValue l, partValue u, partValue st] } } := I4.kept (t' := s4.toks) fun b ob q => Heap.get?_push_of_some _ q
  show wpAny (model X.prog X.w) X.A (subscriptTail e (.Slice none none (some (.UnaryOp .USub (.Constant (.int 1) k p1) p2)) p3) (.str z t) (.ref s4.heap.objs.size)) (L2.EP X pins σ Q) X.xe { s4 with heap := s4.heap.push { cls := .type "slice", data := .fields #[partValue l, partValue u, partValue st] } }
  refine tail_any (ops := [.ref s4.heap.objs.size, .str z t]) (typeIs_str _ _ _) (F.slot_str_getitem.lookup) ?_ (by with_unfolding_all rfl)
  refine wpAny_getItem_str_slice (l := l) (u := u) (st := st) ⟨_, Heap.get?_push_size _ rfl, rfl, rfl⟩ (by rw [es]; rfl) ?_
  unfold sliceMade slicePicked
  rw [el, eu, es]
  show Made.post (if ((-1 : Int) == 1 && _) = true then _ else Made.str ⟨((Builtin.Str.strSliceIndices none none (-1) z.length).filterMap (z.cps[·]?)).toArray⟩) (L2.EP X pins σ Q) _
  rw [if_neg (by rw [show ((-1 : Int) == 1) = false by decide]; simp), picked_rev]
  exact ⟨by show (z.cps.toList.reverse.toArray).size ≤ _; rw [List.size_toArray, List.length_reverse, Array.length_toList]; exact hz, .str _, H4, I5.tok _, ⟨_, rfl⟩, q⟩
section
variable {S : Sig} {ρ ρ1 : Env} {a b e : Expr} {o : O} {pos p2 p3 pos2 : Pos}
theorem tp_revX {t : Tx} {k : Nat} (h : TP S ρ a t) (hl : t.l.length ≤ 1000000) : TP S ρ (.Subscript a (.Slice none none (some (.UnaryOp .USub (.Constant (.int 1) k p2) p3)) pos2) pos) (⟨t.l.reverse⟩ : Tx) := by
  obtain ⟨te, h1, h2⟩ := h
  refine ⟨tRevS te, fun q ok => pe_revS (h1 q ok), fun σ F H A Q w n q => h2 σ F H A _ w n fun v F1 H1 g r => ?_⟩
  cases r
  refine ⟨t.s, rfl, ?_, ?_⟩
  · rw [TL.len_tl, tl_s, List.length_map]
    exact Nat.le_trans hl (by decide)
  · have e : (⟨t.s.cps.toList.reverse.toArray⟩ : Str) = (⟨t.l.reverse⟩ : Tx).s := by
      show (⟨(t.l.map Char.toNat).toArray.toList.reverse.toArray⟩ : Str) = ⟨(t.l.reverse.map Char.toNat).toArray⟩
      rw [List.toList_toArray, List.map_reverse]
    rw [e]
    exact q _ _ _ g .str
/-- what is owned and new, taken as frozen -/
theorem XX.fz (h : XX S ρ e (.ok o ρ1)) : XM S ρ e o.d ρ1 := by
  obtain ⟨t, h1, h2⟩ := h
  refine ⟨t, h1, exm_of fun σ F H A Q w n q => h2 σ F H A Q w n fun v F' H' B A' w1 s1 ow n1 => ?_⟩
  have s3 := frz_stp w1
  exact q v (frz F' H' B) H' A' (frz_wf w1) (s1.trans s3) (ow.frz (S := B) s3.fs fun _ h => h) (n1.mono s3.fs (S := A') (fun a u h _ => h) fun _ h => h)
theorem XX.fzL {T : Type} [DecidableEq T] [Datum T] [Enc T] {xs : List T} (h : XX S ρ e (.ok (.lst ((xs.map enc).map O.fro)) ρ1)) : XM S ρ e (enc xs) ρ1 := by
  have := XX.fz h
  rw [show (O.lst ((xs.map enc).map O.fro)).d = enc xs from oL_d xs] at this
  exact this
theorem xm_rO {T : Type} [DecidableEq T] [Datum T] [Enc T] {q : RE} (xs : List T) (h : XX S ρ e q) (hr : q = .ok (.lst ((xs.map enc).map O.fro)) ρ1 := by rfl) : XM S ρ e (enc xs) ρ1 := XX.fzL (hr ▸ h)
end
section
variable {S : Sig} {ρ : Env} {a : Expr} {ds : List D} {pos : Pos} {o : O} {m : Str} {ps ns : List Str} {k : Nat} {C : Addr}
variable {τ : Type} {dd : τ → List D} {pre : τ → Prop} {rese : τ → Except Str O} {T : Type} [DecidableEq T] [Datum T] [Enc T]
theorem tp_meth0 [Calm S] {apos : Pos} {pl : PySem.Env → Sem Bool} {v : T} (hG : MeG S.P S.w S.K S.mg S.base k C m ps (spP S.K dd pre rese)) (y : τ) (hp : pre y) (hl : XV S ρ a (.ins C ns ds)) (hd : dd y = [.ins C ns ds] := by rfl) (ho : rese y = oF v := by rfl) (hf : Flat (enc v) = true := by rfl) (hk : k ≤ S.kk := by exact Nat.le_of_ble_eq_true rfl) (hm : fidx m ns = none := by decide)
    (ht : ∀ env : PySem.Env, eval (.Call (.Attribute a m apos) [] [] pos) env = (do
      let ov ← eval a env
      standAt apos.atName
      let (f, first) ← holding [ov] (getMethod ov m (pl env))
      callWith pos f first (backTo pos (starEach [] env)) (backToKw pos (keywordEach [] env))) := by intro _; rfl) : TP S ρ (.Call (.Attribute a m apos) [] [] pos) v := by
  obtain ⟨f, fd, F, me, b⟩ := hG.h
  obtain ⟨t, h1, h2⟩ := hl
  refine XV.p (d := enc v) ⟨_, fun q ok => pe_methS0 (X := S.cx q) (h1 q ok) hG.c me F ((ok.calm Calm.h).mono hk) b (fun σ => L2N.passAt ok.tk σ) (ht _), ?_⟩ hf
  exact ev_meth (dr := []) y hp ho hm hd h2 (fun σ F H A Q w n q => q [] F H (Grow.refl w.sub) .nil)
end
end G

namespace G
open PySem PySem.Spec PyProof.Rows L2
open PySem.W (Datum DatumOrd Tup T3 EachIs)
open Enc (enc)
/-! ### tables of sets, of up to 512 slots -/
def Msz (m : Nat) : Prop := m = 7 ∨ m = 31 ∨ m = 127 ∨ m = 511
def orbit (m : Nat) : Nat → Nat → List Nat
  | 0, _ => []
  | n + 1, x => x :: orbit m n ((x * 5 + 1) % (m + 1))
theorem orbit_mem {m : Nat} : ∀ {n a y : Nat}, y ∈ orbit m n (lcgN m a) → ∃ i, i < n ∧ y = lcgN m (a + i)
  | 0, _, _, h => nomatch h
  | n + 1, a, y, h => by
    rcases List.mem_cons.mp h with rfl | h
    · exact ⟨0, Nat.succ_pos _, rfl⟩
    · obtain ⟨i, hi, e⟩ := orbit_mem (a := a + 1) h
      exact ⟨i + 1, by omega, by rw [e, Nat.add_right_comm, Nat.add_assoc]⟩
def allMet (m : Nat) (o : List Nat) : Bool := (List.range (m + 1)).all o.contains
theorem met7 : allMet 7 (orbit 7 8 0) = true := by decide +kernel
theorem met31 : allMet 31 (orbit 31 32 0) = true := by decide +kernel
theorem met127 : allMet 127 (orbit 127 128 0) = true := by decide +kernel
theorem met511 : allMet 511 (orbit 511 512 0) = true := by decide +kernel
theorem Msz.whole {m : Nat} (h : Msz m) {j : Nat} (hj : j ≤ m) : ∃ b, b ≤ m ∧ lcgN m b = j := by
  have go : allMet m (orbit m (m + 1) 0) = true → ∃ b, b ≤ m ∧ lcgN m b = j := fun z => by
    have y := List.all_eq_true.mp z j (List.mem_range.mpr (by omega))
    obtain ⟨i, hi, e⟩ := orbit_mem (a := 0) (List.contains_iff_mem.mp y)
    exact ⟨i, by omega, by rw [e, Nat.zero_add]⟩
  rcases h with rfl | rfl | rfl | rfl
  · exact go met7
  · exact go met31
  · exact go met127
  · exact go met511
theorem Msz.turn {m : Nat} (h : Msz m) : lcgN m (m + 1) = 0 := by
  rcases h with rfl | rfl | rfl | rfl <;> decide +kernel
theorem Msz.again {m : Nat} (h : Msz m) : ∀ k, lcgN m (k + (m + 1)) = lcgN m k
  | 0 => by rw [Nat.zero_add]; exact h.turn
  | k + 1 => by
    rw [Nat.add_right_comm]
    exact congrArg (fun z => (z * 5 + 1) % (m + 1)) (h.again k)
theorem Msz.any {m : Nat} (h : Msz m) {i j : Nat} (hi : i ≤ m) (hj : j ≤ m) : ∃ k, k ≤ m ∧ lcgI m i k = j := by
  obtain ⟨a, ha, rfl⟩ := h.whole hi
  obtain ⟨b, hb, rfl⟩ := h.whole hj
  by_cases c : a ≤ b
  · exact ⟨b - a, by omega, by rw [lcgN_add, Nat.add_sub_cancel' c]⟩
  · refine ⟨b + (m + 1) - a, by omega, ?_⟩
    rw [lcgN_add, show a + (b + (m + 1) - a) = b + (m + 1) by omega, h.again]
theorem Msz.run {m : Nat} (h : Msz m) (x : Int) {j : Nat} (hj : j ≤ m) : ∃ n, n ≤ m + 12 ∧ runI m (SetTable.bits x) n = j := by
  obtain ⟨k, hk, e⟩ := h.any (runI_le m (SetTable.bits x) 12) hj
  exact ⟨12 + k, by omega, (runI_tail (bits_lt x) k).trans e⟩
theorem Msz.met {m : Nat} (h : Msz m) (x : Int) {j : Nat} (hj : j ≤ m) : ∃ k, k < 10 * SetTable.turns m ∧ way m x k = j := by
  obtain ⟨n, hn, rfl⟩ := h.run x hj
  obtain ⟨k, hk, e⟩ := run_nth m (SetTable.bits x) n
  exact ⟨k, by unfold SetTable.turns; omega, congrArg SetTable.Probe.j e⟩
theorem way_in (m : Nat) (x : Int) (k : Nat) : way m x k ≤ m := by
  have b0 : SetTable.bits x % (m + 1) ≤ m := Nat.le_of_lt_succ (Nat.mod_lt _ (Nat.succ_pos _))
  have e0 := runEnd_bd b0
  have st : (runAt m (SetTable.bits x % (m + 1)) (SetTable.bits x)).j + (runAt m (SetTable.bits x % (m + 1)) (SetTable.bits x)).more ≤ m := by
    unfold runAt
    dsimp only
    omega
  exact Nat.le_trans (Nat.le_add_right _ _) (nth_in k _ st)
theorem Msz.odd {m : Nat} (h : Msz m) : m % 2 = 1 := by
  rcases h with rfl | rfl | rfl | rfl <;> rfl
theorem Msz.le {m : Nat} (h : Msz m) : m ≤ 511 := by
  rcases h with rfl | rfl | rfl | rfl <;> decide
/-- all that stands in a table is met on its way -/
structure Tb (t : SetTable) (hs : List Int) : Prop where
  up : Ris t.place.toList
  nod : t.dummies = #[]
  cnt : t.place.size = hs.length
  m : Msz t.mask
  lim : ∀ x ∈ t.place.toList, x ≤ t.mask
  rch : ∀ (i : Nat) (x : Int) (j : Nat), hs[i]? = some x → t.place.toList[i]? = some j → ∃ k, way t.mask x k = j ∧ ∀ q, q < k → way t.mask x q ∈ t.place.toList
theorem Tb.gap {t : SetTable} {hs : List Int} (T : Tb t hs) (hl : hs.length ≤ t.mask) (x : Int) : ∃ n, n < 10 * SetTable.turns t.mask ∧ way t.mask x n ∉ t.place.toList ∧ ∀ q, q < n → way t.mask x q ∈ t.place.toList := by
  obtain ⟨j, hj, no⟩ := st_missing t.place.toList (t.mask + 1) (by rw [Array.length_toList, T.cnt]; omega)
  obtain ⟨k, hk, rfl⟩ := T.m.met x (Nat.le_of_lt_succ hj)
  obtain ⟨n, h1, h2, h3⟩ := st_least (p := fun q => way t.mask x q ∉ t.place.toList) k no
  exact ⟨n, by omega, h2, fun q hq => Classical.byContradiction fun z => h3 q hq z⟩
theorem Tb.ahead {t : SetTable} {hs : List Int} (T : Tb t hs) {x : Int} {n i j : Nat} (no : way t.mask x n ∉ t.place.toList) (hi : hs[i]? = some x) (hj : t.place.toList[i]? = some j) : ∃ k, k < n ∧ way t.mask x k = j := by
  obtain ⟨k, rfl, q⟩ := T.rch i x j hi hj
  refine ⟨k, Nat.lt_of_not_le fun z => ?_, rfl⟩
  rcases Nat.eq_or_lt_of_le z with e | l
  · exact no (e ▸ List.mem_of_getElem? hj)
  · exact no (q n l)
/-- one more -/
theorem Tb.more {t : SetTable} {hs : List Int} (T : Tb t hs) {x : Int} {n p : Nat} (no : way t.mask x n ∉ t.place.toList) (yes : ∀ q, q < n → way t.mask x q ∈ t.place.toList) (hp : SetTable.below t.place (way t.mask x n) = p) :
    p ≤ hs.length ∧ Tb (t.put (way t.mask x n)).1 (hs.take p ++ x :: hs.drop p) ∧ (t.put (way t.mask x n)).1.fill = hs.length + 1 := by
  subst hp
  have cut := (below_cut T.up (way t.mask x n)).1
  have ph : SetTable.below t.place (way t.mask x n) ≤ hs.length := T.cnt ▸ cut
  have pl : SetTable.below t.place (way t.mask x n) ≤ t.place.toList.length := by rw [Array.length_toList]; exact cut
  have eq := put_place t (way t.mask x n)
  have mem : ∀ {y : Nat}, y ∈ (t.put (way t.mask x n)).1.place.toList ↔ y = way t.mask x n ∨ y ∈ t.place.toList := fun {y} => by rw [eq]; exact mem_ins
  have size : (t.put (way t.mask x n)).1.place.size = hs.length + 1 := by
    rw [← Array.length_toList, eq, len_ins _ pl, Array.length_toList, T.cnt]
  refine ⟨ph, ⟨?_, put_dm T.nod _, by rw [size, len_ins _ ph], T.m, fun y hy => ?_, fun i y j h1 h2 => ?_⟩, ?_⟩
  · exact ris_insert T.up fun z => no (List.mem_of_getElem? (by rw [Array.getElem?_toList]; exact z))
  · rcases mem.mp hy with rfl | hy
    · exact way_in _ _ _
    · exact T.lim y hy
  · rw [eq, tins_get _ pl] at h2
    rw [tins_get _ ph] at h1
    have old : ∀ i0, hs[i0]? = some y → t.place.toList[i0]? = some j → ∃ k, way t.mask y k = j ∧ ∀ q, q < k → way t.mask y q ∈ (t.put (way t.mask x n)).1.place.toList := fun i0 a b => by
      obtain ⟨k, e, z⟩ := T.rch i0 y j a b
      exact ⟨k, e, fun q hq => mem.mpr (.inr (z q hq))⟩
    by_cases c : i < SetTable.below t.place (way t.mask x n)
    · rw [if_pos c] at h1 h2; exact old i h1 h2
    · rw [if_neg c] at h1 h2
      by_cases d : i = SetTable.below t.place (way t.mask x n)
      · rw [if_pos d] at h1 h2
        cases h1
        cases h2
        exact ⟨n, rfl, fun q hq => mem.mpr (.inr (yes q hq))⟩
      · rw [if_neg d] at h1 h2; exact old (i - 1) h1 h2
  · unfold SetTable.fill
    rw [size, put_dm T.nod]
    rfl
/-! ### all laid anew -/
theorem free_gap {m : Nat} (h : Msz m) (ow : Array (Option Nat)) (x : Int) {j : Nat} (hj : j ≤ m) (e : oAt ow j = none) :
    ∃ n, SetTable.layClean.free m ow (SetTable.turns m) (SetTable.bits x % (m + 1)) (SetTable.bits x) = some (way m x n) ∧ oAt ow (way m x n) = none ∧ ∀ q, q < n → oAt ow (way m x q) ≠ none := by
  obtain ⟨r, hr, z⟩ := h.run x hj
  have at_r : way m x (off m (SetTable.bits x % (m + 1)) (SetTable.bits x) r) = j := by
    have := congrArg SetTable.Probe.j (nth_off m r (SetTable.bits x % (m + 1)) (SetTable.bits x))
    rw [itL_run] at this
    exact this.trans z
  obtain ⟨n, h1, h2, h3⟩ := st_least (p := fun q => oAt ow (way m x q) = none) _ (at_r ▸ e)
  refine ⟨n, free_spec m ow (SetTable.turns m) r _ _ n (by unfold SetTable.turns; omega) h1 (fun q hq => ?_) ?_, h2, h3⟩
  · have y := h3 q hq
    cases u : oAt ow (nth m (runAt m (SetTable.bits x % (m + 1)) (SetTable.bits x)) q).j with
    | none => exact absurd u y
    | some _ => rfl
  · rw [show oAt ow (nth m (runAt m (SetTable.bits x % (m + 1)) (SetTable.bits x)) n).j = none from h2]
    rfl
theorem own_one {m : Nat} (h : Msz m) {done : List Int} {ow : Array (Option Nat)} (W : L2.Own m done ow) (hl : done.length ≤ m) (x : Int) :
    ∃ j, SetTable.layClean.free m ow (SetTable.turns m) (SetTable.bits x % (m + 1)) (SetTable.bits x) = some j ∧ L2.Own m (done ++ [x]) (ow.setIfInBounds j (some done.length)) := by
  obtain ⟨ps, pn, pin⟩ := W.ps
  obtain ⟨j0, lt0, no0⟩ := st_missing ps (m + 1) (by omega)
  have e0 : oAt ow j0 = none := Classical.byContradiction fun z => no0 (pin j0 (Nat.le_of_lt_succ lt0) z)
  obtain ⟨n, f1, f2, f3⟩ := free_gap h ow x (Nat.le_of_lt_succ lt0) e0
  have lim := way_in m x n
  have self := oAt_set_self (owner := ow) (some done.length) (j := way m x n) (by rw [W.sz]; omega)
  have else_ : ∀ {i}, i ≠ way m x n → oAt (ow.setIfInBounds (way m x n) (some done.length)) i = oAt ow i := fun {i} z => oAt_set_ne _ z
  have stay : ∀ {i}, oAt ow i ≠ none → oAt (ow.setIfInBounds (way m x n) (some done.length)) i ≠ none := fun {i} z => by
    by_cases c : i = way m x n
    · subst c; exact absurd f2 z
    · rw [else_ c]; exact z
  refine ⟨_, f1, by rw [Array.size_setIfInBounds]; exact W.sz, fun j k hj e => ?_, fun k hk => ?_, way m x n :: ps, by rw [List.length_cons, pn, List.length_append]; rfl, fun j hj e => ?_⟩
  · by_cases c : j = way m x n
    · subst c
      rw [self] at e
      cases e
      exact ⟨x, n, by simp, rfl, fun q hq => stay (f3 q hq)⟩
    · rw [else_ c] at e
      obtain ⟨y, r, a1, a2, a3⟩ := W.at_ j k hj e
      exact ⟨y, r, by rw [List.getElem?_append_left (List.getElem?_eq_some_iff.mp a1).1]; exact a1, a2, fun q hq => stay (a3 q hq)⟩
  · rw [List.length_append, List.length_singleton] at hk
    rcases Nat.lt_or_ge k done.length with c | c
    · obtain ⟨j, hj, e⟩ := W.all k c
      exact ⟨j, hj, by rw [else_ fun z => by rw [z, f2] at e; cases e]; exact e⟩
    · exact ⟨_, lim, by rw [self]; congr 1; omega⟩
  · by_cases c : j = way m x n
    · exact c ▸ List.mem_cons_self
    · rw [else_ c] at e
      exact List.mem_cons_of_mem _ (pin j hj e)
theorem own_all {m : Nat} (h : Msz m) : ∀ (rest done : List Int) (ow : Array (Option Nat)), L2.Own m done ow → done.length + rest.length ≤ m → ∃ ow', rest.foldl (stepF m) (some (ow, done.length)) = some (ow', (done ++ rest).length) ∧ L2.Own m (done ++ rest) ow'
  | [], done, ow, W, _ => ⟨ow, by rw [List.append_nil]; rfl, by rw [List.append_nil]; exact W⟩
  | x :: rest, done, ow, W, hl => by
    rw [List.length_cons] at hl
    obtain ⟨j, e, V⟩ := own_one h W (by omega) x
    have l1 : (done ++ [x]).length = done.length + 1 := by simp
    obtain ⟨ow', f, U⟩ := own_all h rest (done ++ [x]) _ V (by omega)
    rw [List.append_assoc, l1] at f
    rw [List.append_assoc] at U
    refine ⟨ow', ?_, U⟩
    rw [List.foldl_cons, stepF_some e]
    exact f
theorem Tb.anew (t : SetTable) {hs : Array Int} {wanted m : Nat} (hw : SetTable.sizeAbove wanted - 1 = m) (h : Msz m) (hn : hs.size ≤ m) :
    ∃ t' order, t.relaid hs wanted = some (t', order) ∧ order.toList.Perm (List.range hs.size) ∧ Tb t' (order.toList.map fun i => hs.getD i 0) ∧ t'.mask = m ∧ t'.led = t.led ∧ t'.plain = t.plain := by
  obtain ⟨ow, f, W⟩ := own_all h hs.toList [] _ (Own.init m) (by simpa using hn)
  rw [List.nil_append] at f W
  have lay : SetTable.layClean m hs = some ow := by
    rw [layClean_eq, show hs.toList.foldl (stepF m) (some (Array.replicate (m + 1) none, 0)) = some (ow, hs.toList.length) from f]
    rfl
  obtain ⟨up, sub⟩ := ris_live (fun j => ow.getD j none) (List.range (m + 1)) (show Ris _ from List.pairwise_lt_range)
  have up : Ris ((liveOf m ow).map (·.1)) := up
  have sub : ∀ x ∈ (liveOf m ow).map (·.1), x ∈ List.range (m + 1) := sub
  have nd : ((liveOf m ow).map (fun q => q.1)).Nodup := List.Pairwise.imp (fun z => Nat.ne_of_lt z) up
  have len : (liveOf m ow).length = hs.size := by
    refine Nat.le_antisymm ?_ ?_
    · obtain ⟨ps, pn, pin⟩ := W.ps
      have := nat_nodup_len ((liveOf m ow).map (fun q => q.1)) ps nd fun x hx => by
        obtain ⟨⟨y, k⟩, hq, rfl⟩ := List.mem_map.mp hx
        obtain ⟨b1, b2⟩ := (mem_live W.sz).1 hq
        exact pin y b1 (by rw [b2]; exact fun z => nomatch z)
      rw [List.length_map, pn, Array.length_toList] at this
      exact this
    · have := nat_nodup_len (List.range hs.size) ((liveOf m ow).map (·.2)) List.nodup_range fun k hk => by
        obtain ⟨j, b1, b2⟩ := W.all k (by rw [Array.length_toList]; exact List.mem_range.mp hk)
        exact List.mem_map.mpr ⟨(j, k), (mem_live W.sz).2 ⟨b1, b2⟩, rfl⟩
      rw [List.length_range, List.length_map] at this
      exact this
  refine ⟨tabOf t m ow, ((liveOf m ow).map (·.2)).toArray, by rw [relaid_eq, hw, lay]; rfl, ?_, ⟨up, rfl, ?_, h, fun x hx => ?_, fun i x j h1 h2 => ?_⟩, rfl, rfl, rfl⟩
  · refine perm_range _ _ ((List.length_map ..).trans len) fun k hk => ?_
    obtain ⟨j, b1, b2⟩ := W.all k (by rw [Array.length_toList]; exact hk)
    exact List.mem_map.mpr ⟨(j, k), (mem_live W.sz).2 ⟨b1, b2⟩, rfl⟩
  · simp [tabOf]
  · have := List.mem_range.mp (sub x hx)
    show x ≤ m
    omega
  · have h1 : (((liveOf m ow).map (·.2)).map fun i => hs.getD i 0)[i]? = some x := h1
    have h2 : ((liveOf m ow).map (·.1))[i]? = some j := h2
    rw [List.getElem?_map] at h2
    obtain ⟨⟨y, k⟩, hq, e1⟩ := Option.map_eq_some_iff.mp h2
    have e1 : y = j := e1
    subst e1
    rw [List.map_map, List.getElem?_map, hq] at h1
    have e2 : hs.getD k 0 = x := Option.some.inj h1
    obtain ⟨b1, b2⟩ := (mem_live W.sz).1 (List.mem_of_getElem? hq)
    obtain ⟨x0, n, a1, a2, a3⟩ := W.at_ y k b1 b2
    have e3 : x0 = x := by
      rw [← e2, Array.getD_eq_getD_getElem?, ← Array.getElem?_toList, a1]
      rfl
    subst e3
    refine ⟨n, a2, fun q hq => ?_⟩
    show way m x0 q ∈ (liveOf m ow).map (·.1)
    cases z : oAt ow (way m x0 q) with
    | none => exact absurd z (a3 q hq)
    | some k2 => exact List.mem_map.mpr ⟨(way m x0 q, k2), (mem_live W.sz).2 ⟨way_in _ _ _, z⟩, rfl⟩
theorem grow5 : SetTable.sizeAbove (SetTable.grown 5) = 32 := by decide +kernel
theorem grow19 : SetTable.sizeAbove (SetTable.grown 19) = 128 := by decide +kernel
theorem grow77 : SetTable.sizeAbove (SetTable.grown 77) = 512 := by decide +kernel
end G

namespace G
open PySem PySem.Spec PyProof.Rows L2
open PySem.W (Datum DatumOrd Tup T3 EachIs)
open Enc (enc)
/-! ### sets of nested keys: numbers, and tuples of such -/
mutual
def nkP : NestedKey → Bool
  | .none => true
  | .num _ => true
  | .text _ => false
  | .tup ks => nkPs ks
def nkPs : List NestedKey → Bool
  | [] => true
  | k :: ks => nkP k && nkPs ks
end
section
variable {P : Program} {w : World}
def HBV (P : Program) (w : World) (n : Nat) (s : Shared) (v : Value) : Prop := ∀ (A : Around) (E : Value → Shared → Prop) (Q : Bool → Shared → Prop), Q true s → wpAny (model P w) A (hashByValue n v) Q E s
def NOC (P : Program) (w : World) (n : Nat) (s : Shared) (v : Value) : Prop := ∀ (A : Around) (E : Value → Shared → Prop) (Q : Bool → Shared → Prop), Q false s → wpAny (model P w) A (ofAClassStatement n v) Q E s
theorem HBV.tup {n m : Nat} {s : Shared} {a : Addr} {o : Obj} {vs : Array Value} (g : s.heap.get? a = some o) (c : o.cls = .type "tuple") (d : o.data = .seq vs m) (all : ∀ v ∈ vs.toList, HBV P w n s v) : HBV P w (n + 1) s (.ref a) := fun A E Q q => by
  unfold hashByValue
  refine wpAny_bind (wpAny_specialOf (show s.TypeIs (.ref a) "tuple" from ⟨o, g, c⟩) F.slot_tuple_hash.lookup ?_)
  show wpAny _ _ (seqItems? (.ref a) >>= _) _ _ s
  refine wpAny_bind (wpAny_seqItems g d (wpAny_bind ?_))
  show wpAny _ _ (forIn vs _ _) _ _ s
  rw [← Array.forIn_toList]
  refine wpAny_forIn_list _ (fun l r s' => (r.1 = none ∧ s' = s) ∧ ∀ v ∈ l, HBV P w n s v) _ (fun v l r s' => ?_) (fun r s' => ?_) _ _ ⟨⟨rfl, rfl⟩, all⟩
  · rintro ⟨⟨e, rfl⟩, z⟩
    refine wpAny_bind (z v List.mem_cons_self _ _ _ ?_)
    simp only [Bool.not_true, Bool.false_eq_true, if_false]
    exact wpAny_pure ⟨⟨rfl, rfl⟩, fun u hu => z u (List.mem_cons_of_mem _ hu)⟩
  · obtain ⟨r1, r2⟩ := r
    rintro ⟨⟨e, rfl⟩, _⟩
    simp only at e
    subst e
    exact wpAny_pure q
theorem NOC.tup {n m : Nat} {s : Shared} {a : Addr} {o : Obj} {vs : Array Value} (g : s.heap.get? a = some o) (c : o.cls = .type "tuple") (d : o.data = .seq vs m) (all : ∀ v ∈ vs.toList, NOC P w n s v) : NOC P w (n + 1) s (.ref a) := fun A E Q q => by
  unfold ofAClassStatement
  refine wpAny_bind (wpAny_typeOf (show s.TypeIs (.ref a) "tuple" from ⟨o, g, c⟩) ?_)
  dsimp only
  simp only [show (("tuple" : String) == "tuple") = true by decide, if_true, Bool.not_true, Bool.false_eq_true, if_false]
  try refine wpAny_bind (wpAny_pure ?_)
  try simp only [Bool.not_true, Bool.false_eq_true, if_false]
  show wpAny _ _ (seqItems? (.ref a) >>= _) _ _ s
  refine wpAny_bind (wpAny_seqItems g d ?_)
  dsimp only
  refine wpAny_bind ?_
  show wpAny _ _ (forIn vs _ _) _ _ s
  rw [← Array.forIn_toList]
  refine wpAny_forIn_list _ (fun l r s' => (r.1 = none ∧ s' = s) ∧ ∀ v ∈ l, NOC P w n s v) _ (fun v l r s' => ?_) (fun r s' => ?_) _ _ ⟨⟨rfl, rfl⟩, all⟩
  · rintro ⟨⟨e, rfl⟩, z⟩
    refine wpAny_bind (z v List.mem_cons_self _ _ _ ?_)
    simp only [Bool.false_eq_true, if_false]
    exact wpAny_pure ⟨⟨rfl, rfl⟩, fun u hu => z u (List.mem_cons_of_mem _ hu)⟩
  · obtain ⟨r1, r2⟩ := r
    rintro ⟨⟨e, rfl⟩, _⟩
    simp only at e
    subst e
    exact wpAny_pure q
mutual
theorem nk_by : ∀ (k : NestedKey) (v : Value) (n : Nat) (s : Shared), NestedIs s.heap k v → nkP k = true → k.depth ≤ n → HBV P w n s v ∧ NOC P w n s v
  | .none, _, n, s, x, _, _ => by cases x; exact ⟨fun A E Q q => by cases n <;> exact wpAny_pure q, fun A E Q q => by cases n <;> exact wpAny_pure q⟩
  | .num _, _, n, s, x, _, _ => by cases x <;> exact ⟨fun A E Q q => by cases n <;> exact wpAny_pure q, fun A E Q q => by cases n <;> exact wpAny_pure q⟩
  | .text _, _, _, _, _, z, _ => nomatch z
  | .tup ks, _, n, s, x, z, l => by
    cases x with
    | tup g c d r =>
      cases n with
      | zero => simp only [NestedKey.depth] at l; omega
      | succ n =>
        have all := nk_bys ks _ n s r z (by simp only [NestedKey.depth] at l; omega)
        exact ⟨.tup g c d fun v hv => (all v hv).1, .tup g c d fun v hv => (all v hv).2⟩
theorem nk_bys : ∀ (ks : List NestedKey) (vs : List Value) (n : Nat) (s : Shared), NestedAll s.heap ks vs → nkPs ks = true → NestedKey.depthAll ks ≤ n → ∀ v ∈ vs, HBV P w n s v ∧ NOC P w n s v
  | [], _, _, _, x, _, _, _, hv => by cases x; cases hv
  | k :: ks, _, n, s, x, z, l, v, hv => by
    cases x with
    | cons x1 x2 =>
      have z : (nkP k && nkPs ks) = true := z
      rw [Bool.and_eq_true] at z
      simp only [NestedKey.depthAll] at l
      rcases List.mem_cons.mp hv with rfl | hv
      · exact nk_by k _ n s x1 z.1 (by omega)
      · exact nk_bys ks _ n s x2 z.2 (by omega) v hv
end
/-- at a stands the key k -/
def IsN (P : Program) (w : World) (h : Heap) (k : NestedKey) (a : Addr) : Prop := (nestedKind P w).is h k a ∧ nkP k = true
theorem IsN.keep {h h' : Heap} {k : NestedKey} {a : Addr} (x : IsN P w h k a) (g : ∀ b o, h.get? b = some o → h'.get? b = some o) : IsN P w h' k a := ⟨nestedKind_stays.stays (fun b o vs n e _ => g b o e) x.1, x.2⟩
theorem IsN.off {h h' : Heap} {k : NestedKey} {a b : Addr} {o : Obj} {es : Array (Int × Value)} {ep : Nat} {t : SetTable} (x : IsN P w h k b) (g : h.get? a = some o) (d : o.data = .set es ep t) (sb : Heap.SameBut a h h') : IsN P w h' k b :=
  ⟨nestedKind_stays.stays (fun c u vs n e z => (sb.2 c fun y => by
    subst y
    rw [g] at e
    cases e
    rw [d] at z
    cases z).trans e) x.1, x.2⟩
theorem IsN.by {s : Shared} {k : NestedKey} {a : Addr} (x : IsN P w s.heap k a) : HBV P w 8 s (.ref a) ∧ NOC P w 8 s (.ref a) := nk_by k _ 8 s x.1.1 x.2 x.1.2
theorem IsN.inj {h : Heap} {j k : NestedKey} {a : Addr} (x : IsN P w h j a) (y : IsN P w h k a) : j = k := (nestedKind P w).inj x.1 y.1
def rowsN (w : World) (L : List (Addr × NestedKey)) : List (Int × Value) := L.map fun p => (p.2.hash w, Value.ref p.1)
structure SetN (P : Program) (w : World) (h : Heap) (a : Addr) (L : List (Addr × NestedKey)) (es : Array (Int × Value)) (ep : Nat) (t : SetTable) : Prop where
  ob : ∃ o, h.get? a = some o ∧ o.ExactSet ∧ o.data = .set es ep t
  rows : es.toList = rowsN w L
  tab : Tb t (L.map fun p => p.2.hash w)
  nd : (L.map (·.2)).Nodup
  key : ∀ p ∈ L, IsN P w h p.2 p.1
  plain : t.plain = true
  led : w.params.followText "set-order" = true ∨ t.led = true
  room : L.length * 5 < t.mask * 3
  few : L.length ≤ 300
end
section
variable {P : Program} {w : World} {A : Around} {E : Value → Shared → Prop} {s : Shared} {a x : Addr} {k : NestedKey} {L : List (Addr × NestedKey)} {es : Array (Int × Value)} {ep : Nat} {t : SetTable}
theorem rowsN_size (h : es.toList = rowsN w L) : es.size = L.length := by
  rw [← Array.length_toList, h]
  exact List.length_map ..
theorem SetN.fits (R : SetN P w s.heap a L es ep t) : t.fits es.size = true := by
  have c := R.tab.cnt
  rw [List.length_map] at c
  have r := R.room
  unfold SetTable.fits SetTable.fill
  rw [R.tab.nod, rowsN_size R.rows, c]
  simp
  omega
theorem SetN.entry (R : SetN P w s.heap a L es ep t) {i : Nat} {p : Addr × NestedKey} (h : L[i]? = some p) : es[i]? = some (p.2.hash w, Value.ref p.1) := by
  rw [← Array.getElem?_toList, R.rows]
  unfold rowsN
  rw [List.getElem?_map, h]
  rfl
theorem SetN.whole (R : SetN P w s.heap a L es ep t) : ¬ t.gaveWay = true := by
  unfold SetTable.gaveWay
  rw [R.tab.m.odd]
  decide
theorem unseen (hx : IsN P w s.heap k x) {ys : List Value} (hy : ∀ y ∈ ys, ∃ k' c, y = Value.ref c ∧ IsN P w s.heap k' c) {Q : Bool → Shared → Prop} (h : Q false s) : wpAny (model P w) A (searchCouldBeSeen (.ref x) ys) Q E s := by
  unfold searchCouldBeSeen
  refine wpAny_bind ?_
  refine wpAny_forIn_list _ (fun l r s' => (r.1 = none ∧ s' = s) ∧ ∀ y ∈ l, ∃ k' c, y = Value.ref c ∧ IsN P w s.heap k' c) _ (fun v l r s' => ?_) (fun r s' => ?_) _ _ ⟨⟨rfl, rfl⟩, hy⟩
  · rintro ⟨⟨e, rfl⟩, z⟩
    obtain ⟨k', c, rfl, hc⟩ := z v List.mem_cons_self
    have on : ∀ y ∈ l, ∃ k' c, y = Value.ref c ∧ IsN P w s'.heap k' c := fun u hu => z u (List.mem_cons_of_mem _ hu)
    dsimp only
    by_cases b : (x == c || (carriedByValue (.ref x) && carriedByValue (.ref c))) = true
    · exact wp_if_pos b (wpAny_pure ⟨⟨rfl, rfl⟩, on⟩)
    · refine wp_if_neg b (wpAny_bind ((nestedKind P w).quiet hx.1 ?_))
      simp only [Bool.not_true, Bool.false_eq_true, if_false]
      refine wpAny_bind ((nestedKind P w).quiet hc.1 ?_)
      simp only [Bool.not_true, Bool.false_eq_true, if_false]
      refine wpAny_bind (hx.by.2 _ _ _ ?_)
      simp only [Bool.false_eq_true, if_false]
      refine wpAny_bind (hc.by.2 _ _ _ ?_)
      simp only [Bool.false_eq_true, if_false]
      exact wpAny_pure ⟨⟨rfl, rfl⟩, on⟩
  · obtain ⟨r1, r2⟩ := r
    rintro ⟨⟨e, rfl⟩, _⟩
    simp only at e
    subst e
    exact wpAny_pure h
/-- the c-th step of a search -/
abbrev stp9 (t : SetTable) (h : Int) (c : Nat) : SetTable.Probe := nth t.mask (runAt t.mask (SetTable.bits h % (t.mask + 1)) (SetTable.bits h)) c
theorem nodum (m : Nat) : ∀ (n : Nat) (p : SetTable.Probe), p.dummy = none → (nth m p n).dummy = none
  | 0, _, h => h
  | n + 1, p, h => nodum m n (adv m p) (by unfold adv; split <;> exact h)
theorem look_from (R : SetN P w s.heap a L es ep t) (hx : IsN P w s.heap k x) (hu : A.units + 8 < cLine) {n : Nat} (hn : n < 10 * SetTable.turns t.mask) (no : way t.mask (k.hash w) n ∉ t.place.toList) (yes : ∀ q, q < n → way t.mask (k.hash w) q ∈ t.place.toList) {Q : SetFound → Shared → Prop}
    (q1 : k ∈ L.map (·.2) → Q (.there none) s) (q2 : k ∉ L.map (·.2) → Q (.free (way t.mask (k.hash w) n) false) s) :
    ∀ (f c : Nat) (st : Option SetTable.Probe), st.getD (t.probeStart (k.hash w)) = stp9 t (k.hash w) c → c ≤ n → n - c < f → (∀ (i : Nat) p, L[i]? = some p → p.2 = k → ∃ d, (c ≤ d ∧ d < n) ∧ t.place.toList[i]? = some (way t.mask (k.hash w) d)) →
      wpAny (model P w) A (setSearchFrom a (.ref x) (k.hash w) true f st) Q E s
  | 0, _, _, _, _, l, _ => absurd l (Nat.not_lt_zero _)
  | f + 1, c, st, hst, hc, l, hre => by
    obtain ⟨o, g, _, d⟩ := R.ob
    rw [setSearchFrom_succ]
    refine wpAny_bind (wpAny_setState_of g d R.fits ?_)
    dsimp only
    refine wp_if_neg R.whole ?_
    try refine wpAny_bind (wpAny_pure ?_)
    have step : ∀ q, nth t.mask (stp9 t (k.hash w) c) q = stp9 t (k.hash w) (c + q) := fun q => (nth_add t.mask c _ q).symm
    have jay : ∀ q, (nth t.mask (stp9 t (k.hash w) c) q).j = way t.mask (k.hash w) (c + q) := fun q => congrArg SetTable.Probe.j (step q)
    have hash : ∀ (i : Nat) p, L[i]? = some p → (fun i => (es[i]?.map (·.1)).getD 0) i = p.2.hash w := fun i p hp => by
      dsimp only
      rw [R.entry hp]
      rfl
    rcases go_spec t R.tab.up R.tab.nod (fun i => (es[i]?.map (·.1)).getD 0) (k.hash w) (10 * SetTable.turns t.mask) (n - c) (stp9 t (k.hash w) c) (nodum _ _ _ rfl) (by omega) (fun q hq => by rw [jay]; exact yes _ (by omega)) (by rw [jay, Nat.add_sub_cancel' hc]; exact no) with ⟨q, i, hq, hi, _, pass, pr⟩ | ⟨pass, pr⟩
    · rw [jay] at hi
      have pr2 : t.probe (fun i => (es[i]?.map (·.1)).getD 0) (k.hash w) (st.getD (t.probeStart (k.hash w))) = some (.candidate (way t.mask (k.hash w) (c + q)) i (stp9 t (k.hash w) (c + (q + 1)))) := by
        rw [hst, ← jay, ← step]
        exact pr
      rw [pr2]
      dsimp only
      have il : i < L.length := by
        have z := (List.getElem?_eq_some_iff.mp hi).1
        rw [Array.length_toList, R.tab.cnt, List.length_map] at z
        exact z
      obtain ⟨p, hp⟩ : ∃ p, L[i]? = some p := ⟨_, List.getElem?_eq_getElem il⟩
      have pm := List.mem_of_getElem? hp
      have live := slot_live R.tab.up hi
      have more : wpAny (model P w) A (searchRest a (.ref x) (k.hash w) true f es t (way t.mask (k.hash w) (c + q)) i (stp9 t (k.hash w) (c + (q + 1)))) Q E s := by
        unfold searchRest
        rw [R.entry hp]
        dsimp only
        refine wpAny_bind (wpAny_holding ((nestedKind P w).eqBool hu (R.key p pm).1 hx.1 ?_))
        refine wpAny_bind (wpAny_setState_of g d R.fits ?_)
        dsimp only
        by_cases same : p.2 = k
        · exact wp_if_pos (by simp [same]) (wpAny_pure (q1 (List.mem_map.mpr ⟨p, pm, same⟩)))
        · refine wp_if_neg (by simp [same]) ?_
          try refine wpAny_bind (wpAny_pure ?_)
          rw [sameMem]
          dsimp only
          simp only [if_true, live, R.entry hp]
          refine wpAny_bind (wpAny_isSame_ref_self (wpAny_bind (wpAny_pure ?_)))
          simp only [if_true]
          refine wp_if_neg (by simp [same]) (look_from R hx hu hn no yes q1 q2 f (c + (q + 1)) _ rfl (by omega) (by omega) fun i2 p2 h2 e2 => ?_)
          obtain ⟨r, ⟨r1, r2⟩, r3⟩ := hre i2 p2 h2 e2
          refine ⟨r, ⟨?_, r2⟩, r3⟩
          by_cases b1 : r < c + q
          · exact absurd ((hash i2 p2 h2).trans (congrArg _ e2)) (pass (r - c) i2 (by omega) (by rw [jay, Nat.add_sub_cancel' r1]; exact r3))
          · by_cases b2 : r = c + q
            · subst b2
              have z := slot_live R.tab.up r3
              rw [live] at z
              cases z
              rw [hp] at h2
              cases h2
              exact absurd e2 same
            · omega
      by_cases ld : t.led = true
      · refine wp_if_neg (by simp [ld]) ?_
        try refine wpAny_bind (wpAny_pure ?_)
        exact more
      · refine wp_if_pos (by simp [ld]) (wpAny_bind (unseen hx (fun y hy => ?_) ?_))
        · obtain ⟨e, he, rfl⟩ := List.mem_map.mp hy
          have e1 : e ∈ es.toList := by simpa using (show e ∈ es ∧ e.1 = k.hash w by simpa using he).1
          rw [R.rows] at e1
          obtain ⟨p2, hp2, rfl⟩ := List.mem_map.mp e1
          exact ⟨p2.2, p2.1, rfl, R.key p2 hp2⟩
        · refine wp_if_neg (by decide) ?_
          try refine wpAny_bind (wpAny_pure ?_)
          exact more
    · rw [jay, Nat.add_sub_cancel' hc] at pr
      have pr2 : t.probe (fun i => (es[i]?.map (·.1)).getD 0) (k.hash w) (st.getD (t.probeStart (k.hash w))) = some (.empty (way t.mask (k.hash w) n) none) := by
        rw [hst]
        exact pr
      rw [pr2]
      dsimp only
      refine wpAny_pure (q2 fun z => ?_)
      obtain ⟨p, hp, e⟩ := List.mem_map.mp z
      obtain ⟨i, hi⟩ := List.mem_iff_getElem?.mp hp
      obtain ⟨r, ⟨r1, r2⟩, r3⟩ := hre i p hi e
      exact pass (r - c) i (by omega) (by rw [jay, Nat.add_sub_cancel' r1]; exact r3) ((hash i p hi).trans (congrArg _ e))
theorem look_set (R : SetN P w s.heap a L es ep t) (hx : IsN P w s.heap k x) (hu : A.units + 8 < cLine) {Q : SetFound → Shared → Prop} (q1 : k ∈ L.map (·.2) → Q (.there none) s)
    (q2 : ∀ n, k ∉ L.map (·.2) → way t.mask (k.hash w) n ∉ t.place.toList → (∀ q, q < n → way t.mask (k.hash w) q ∈ t.place.toList) → Q (.free (way t.mask (k.hash w) n) false) s) : wpAny (model P w) A (setSearch a (.ref x) (k.hash w) true) Q E s := by
  have r := R.room
  have ml := R.tab.m.le
  obtain ⟨n, hn, no, yes⟩ := R.tab.gap (by rw [List.length_map]; omega) (k.hash w)
  have big : n < 100000 := by unfold SetTable.turns at hn; omega
  unfold setSearch
  refine look_from R hx hu hn no yes q1 (fun z => q2 n z no yes) 100000 0 none rfl (Nat.zero_le _) (by omega) fun i p hp e => ?_
  have hi : (L.map fun p => p.2.hash w)[i]? = some (k.hash w) := by rw [List.getElem?_map, hp, ← e]; rfl
  have il : i < t.place.toList.length := by
    rw [Array.length_toList, R.tab.cnt]
    exact (List.getElem?_eq_some_iff.mp hi).1
  have hj := List.getElem?_eq_getElem il
  obtain ⟨c, hc, z⟩ := R.tab.ahead no hi hj
  exact ⟨c, ⟨Nat.zero_le _, hc⟩, by rw [hj, z]⟩
end
end G

namespace G
open PySem PySem.Spec PyProof.Rows L2
open PySem.W (Datum DatumOrd Tup T3 EachIs)
open Enc (enc)
/-! ### sets of nested keys: one more, laid anew, a loop -/
section
variable {P : Program} {w : World} {A : Around} {E : Value → Shared → Prop} {s : Shared} {a x : Addr} {k : NestedKey} {L : List (Addr × NestedKey)} {es : Array (Int × Value)} {ep : Nat} {t : SetTable}
theorem filt_range {α : Type} (l : List α) : (List.range l.length).filterMap (fun i => l[i]?) = l := by
  apply List.ext_getElem?
  intro i
  have e : (List.range l.length).filterMap (fun i => l[i]?) = ((List.range l.length).map fun i => l[i]?).filterMap id := by rw [List.filterMap_map]; rfl
  have e2 : (List.range l.length).map (fun i => l[i]?) = l.map some := by
    apply List.ext_getElem?
    intro j
    rw [List.getElem?_map, List.getElem?_map]
    by_cases h : j < l.length
    · rw [List.getElem?_range h, List.getElem?_eq_getElem h]
      simp [h]
    · rw [List.getElem?_eq_none (by rw [List.length_range]; omega), List.getElem?_eq_none (by omega)]
      rfl
  rw [e, e2, List.filterMap_map]
  simp
theorem turned_rows (hr : es.toList = rowsN w L) {order : Array Nat} (hp : order.toList.Perm (List.range L.length)) :
    ∃ L2, (order.filterMap (es[·]?)).toList = rowsN w L2 ∧ L2.Perm L ∧ (L2.map fun p => p.2.hash w) = order.toList.map fun i => (es.map (·.1)).getD i 0 := by
  have at_ : ∀ i : Nat, es[i]? = (L[i]?).map fun (p : Addr × NestedKey) => (p.2.hash w, Value.ref p.1) := fun i => by
    rw [← Array.getElem?_toList, hr]
    exact List.getElem?_map ..
  have inr : ∀ i ∈ order.toList, i < L.length := fun i hi => List.mem_range.mp (hp.mem_iff.mp hi)
  refine ⟨order.toList.filterMap fun i => L[i]?, ?_, ?_, ?_⟩
  · rw [Array.toList_filterMap]
    unfold rowsN
    rw [List.map_filterMap]
    exact congrArg (fun f => order.toList.filterMap f) (funext at_)
  · have := hp.filterMap fun i => L[i]?
    rwa [filt_range] at this
  · generalize order.toList = l at inr
    clear hp
    induction l with
    | nil => rfl
    | cons i l ih =>
      have hi := inr i List.mem_cons_self
      rw [List.filterMap_cons_some (List.getElem?_eq_getElem hi), List.map_cons, List.map_cons, ih fun j hj => inr j (List.mem_cons_of_mem _ hj)]
      congr 1
      rw [Array.getD_eq_getD_getElem?, Array.getElem?_map, at_ i, List.getElem?_eq_getElem hi]
      rfl
/-- the table, larger -/
theorem set_anew {o : Obj} (g : s.heap.get? a = some o) (ex : o.ExactSet) (d : o.data = .set es ep t) (hr : es.toList = rowsN w L) (T : Tb t (L.map fun p => p.2.hash w)) (fit : L.length ≤ t.mask) (nd : (L.map (·.2)).Nodup) (key : ∀ p ∈ L, IsN P w s.heap p.2 p.1)
    (pl : t.plain = true) (ld : w.params.followText "set-order" = true ∨ t.led = true) (few : L.length ≤ 300) {wanted m : Nat} (hw : SetTable.sizeAbove wanted = m + 1) (hm : Msz m) (room : L.length * 5 < m * 3) {Q : Unit → Shared → Prop}
    (q : ∀ h' L' es' ep' t', Heap.SameBut a s.heap h' → SetN P w h' a L' es' ep' t' → L'.Perm L → Q () { s with heap := h' }) : wpAny (model P w) A (setRelay a wanted) Q E s := by
  have sz := rowsN_size hr
  have ml := hm.le
  have cnt := T.cnt
  rw [List.length_map] at cnt
  have fits : t.fits es.size = true := by
    unfold SetTable.fits SetTable.fill
    rw [T.nod, sz, cnt]
    simp
    omega
  obtain ⟨t', order, e, pm, T2, em, el, epl⟩ := Tb.anew t (hs := es.map (·.1)) (wanted := wanted) (m := m) (by omega) hm (by rw [Array.size_map, sz]; omega)
  rw [Array.size_map, sz] at pm
  obtain ⟨L2, r1, r2, r3⟩ := turned_rows hr pm
  rw [← r3] at T2
  have s2 : (order.filterMap (es[·]?)).size = es.size := by rw [rowsN_size r1, sz, r2.length_eq]
  rw [setRelay_eq]
  refine wpAny_bind (wpAny_setState_of g d fits ?_)
  dsimp only
  refine wp_if_neg (by rw [sizeLine_eq]; omega) ?_
  try refine wpAny_bind (wpAny_pure ?_)
  rw [e]
  dsimp only
  refine wpAny_bind (wp_if_neg (by rw [s2]; simp) ?_)
  try refine wpAny_bind (wpAny_pure ?_)
  refine wpAny_pure ?_
  dsimp only
  refine wpAny_storeSet_of g d ?_ (by rw [s2, sz, sizeLine_eq]; omega)
  have sb : Heap.SameBut a s.heap (s.heap.update a (Obj.putSet (order.filterMap (es[·]?)) t')) := Heap.SameBut.update ..
  exact q _ L2 _ (ep + 1) t' sb ⟨⟨_, store_at g d, ⟨ex.1, ex.2.1, ex.2.2⟩, rfl⟩, r1, T2, (r2.map (·.2)).nodup_iff.mpr nd, fun p hp => (key p (r2.mem_iff.mp hp)).off g d sb, by rw [epl]; exact pl, by rw [el]; exact ld, by rw [r2.length_eq, em]; exact room, by rw [r2.length_eq]; exact few⟩ r2
/-- one more -/
theorem set_more (R : SetN P w s.heap a L es ep t) (hx : IsN P w s.heap k x) (hu : A.units + 8 < cLine) (few : L.length + 1 ≤ 300) {Q : Bool → Shared → Prop}
    (q : ∀ b h' L' es' ep' t', Heap.SameBut a s.heap h' → SetN P w h' a L' es' ep' t' → (k ∈ L.map (·.2) → L' = L) → (k ∉ L.map (·.2) → L'.Perm ((x, k) :: L)) → Q b { s with heap := h' }) : wpAny (model P w) A (setAddHashed a (.ref x) (k.hash w)) Q E s := by
  obtain ⟨o, g, ex, d⟩ := R.ob
  have sz := rowsN_size R.rows
  have room := R.room
  have ml := R.tab.m.le
  unfold setAddHashed
  refine wpAny_holding ?_
  rw [show (100000 : Nat) = 99999 + 1 from rfl, setAddHashedIn_succ]
  refine wpAny_bind (wpAny_setState_of g d R.fits ?_)
  dsimp only
  refine wp_if_neg (by simp [byScan, Value.scannable]) ?_
  try refine wpAny_bind (wpAny_pure ?_)
  refine wpAny_bind (look_set R hx hu (fun z => ?_) fun n z no yes => ?_)
  · dsimp only
    exact wpAny_pure (q false s.heap L es ep t (Heap.SameBut.refl a s.heap) R (fun _ => rfl) fun y => absurd z y)
  dsimp only
  refine wpAny_bind (wpAny_setState_of g d R.fits ?_)
  dsimp only
  obtain ⟨p, hp⟩ : ∃ p, SetTable.below t.place (way t.mask (k.hash w) n) = p := ⟨_, rfl⟩
  obtain ⟨ple, T1, f1⟩ := R.tab.more no yes hp
  have m1 : (t.put (way t.mask (k.hash w) n)).1.mask = t.mask := rfl
  have l1 : (t.put (way t.mask (k.hash w) n)).1.led = t.led := rfl
  have p1 : (t.put (way t.mask (k.hash w) n)).1.plain = t.plain := rfl
  have at1 : (t.put (way t.mask (k.hash w) n)).2 = p := hp
  generalize t.put (way t.mask (k.hash w) n) = u at T1 f1 m1 l1 p1 at1 ⊢
  obtain ⟨t1, p'⟩ := u
  dsimp only at T1 f1 m1 l1 p1 at1 ⊢
  subst at1
  rw [List.length_map] at f1 ple
  have pl1 : t1.plain = true := by rw [p1]; exact R.plain
  first
    | (refine wpAny_bind ?_; refine wp_if_pos pl1 ?_; refine hx.by.1 _ _ _ ?_)
    | refine wp_if_pos pl1 (wpAny_bind (hx.by.1 _ _ _ ?_))
  simp only [if_true]
  have rows1 : (SetTable.insertAt es p' (k.hash w, Value.ref x)).toList = rowsN w (L.take p' ++ (x, k) :: L.drop p') := by
    rw [SetTable.toList_insertAt, R.rows]
    unfold rowsN
    rw [List.map_append, List.map_cons, List.map_take, List.map_drop]
  have hash1 : (L.take p' ++ (x, k) :: L.drop p').map (fun p => p.2.hash w) = (L.map fun p => p.2.hash w).take p' ++ k.hash w :: (L.map fun p => p.2.hash w).drop p' := by
    rw [List.map_append, List.map_cons, List.map_take, List.map_drop]
  rw [← hash1] at T1
  have pm := put_perm L p' (x, k)
  generalize L.take p' ++ (x, k) :: L.drop p' = L1 at rows1 T1 pm
  have len1 : L1.length = L.length + 1 := pm.length_eq
  have sz1 := rowsN_size rows1
  generalize SetTable.insertAt es p' (k.hash w, Value.ref x) = es1 at rows1 sz1 ⊢
  have nd1 : (L1.map (·.2)).Nodup := (pm.map (·.2)).nodup_iff.mpr (List.nodup_cons.mpr ⟨z, R.nd⟩)
  refine wpAny_bind (wpAny_storeSet_of g d ?_ (by rw [sz1, sizeLine_eq]; omega))
  have sb : Heap.SameBut a s.heap (s.heap.update a (Obj.putSet es1 t1)) := Heap.SameBut.update ..
  have g1 := store_at (es' := es1) (t' := t1) g d
  generalize s.heap.update a (Obj.putSet es1 t1) = h1 at sb g1 ⊢
  have key1 : ∀ p ∈ L1, IsN P w h1 p.2 p.1 := fun p hp => by
    rcases List.mem_cons.mp (pm.mem_iff.mp hp) with rfl | hp
    · exact hx.off g d sb
    · exact (R.key p hp).off g d sb
  have led1 : w.params.followText "set-order" = true ∨ t1.led = true := by rw [l1]; exact R.led
  have full : t1.tooFull = decide (t1.fill * 5 ≥ t1.mask * 3) := rfl
  rw [f1, m1] at full
  by_cases c : t1.tooFull = true
  · have big : (L.length + 1) * 5 ≥ t.mask * 3 := by rw [full] at c; exact of_decide_eq_true c
    have go : ∀ m, SetTable.sizeAbove (SetTable.grown (L.length + 1)) = m + 1 → Msz m → L1.length * 5 < m * 3 → wpAny (model P w) A (setRelay a (SetTable.grown (L.length + 1))) (fun _ s' => wpAny (model P w) A (pure true) Q E s') E { s with heap := h1 } := fun m c1 c2 c3 =>
      set_anew (s := { s with heap := h1 }) g1 ⟨ex.1, ex.2.1, ex.2.2⟩ rfl rows1 T1 (by rw [m1]; omega) nd1 key1 pl1 led1 (by omega) c1 c2 c3 fun h2 L2 es2 ep2 t2 sb2 R2 pm2 =>
        wpAny_pure (q true h2 L2 es2 ep2 t2 (sb.trans sb2) R2 (fun y => absurd y z) fun _ => pm2.trans pm)
    first
      | (refine wpAny_bind ?_; refine wp_if_pos (by simp [c]) ?_)
      | (refine wp_if_pos (by simp [c]) ?_; refine wpAny_bind ?_)
    rw [sz]
    rcases R.tab.m with e | e | e | e
    · have n4 : L.length = 4 := by omega
      exact go 31 (by rw [n4, grow5]) (.inr (.inl rfl)) (by omega)
    · have n18 : L.length = 18 := by omega
      exact go 127 (by rw [n18, grow19]) (.inr (.inr (.inl rfl))) (by omega)
    · have n76 : L.length = 76 := by omega
      exact go 511 (by rw [n76, grow77]) (.inr (.inr (.inr rfl))) (by omega)
    · omega
  · have small : ¬ (L.length + 1) * 5 ≥ t.mask * 3 := fun y => c (by rw [full]; exact decide_eq_true y)
    first
      | refine wp_if_neg (by simp [c]) ?_
      | (refine wpAny_bind ?_; refine wp_if_neg (by simp [c]) ?_; refine wpAny_pure ?_)
    exact wpAny_pure (q true h1 L1 es1 (ep + 1) t1 sb ⟨⟨_, g1, ⟨ex.1, ex.2.1, ex.2.2⟩, rfl⟩, rows1, T1, nd1, key1, pl1, led1, by rw [len1, m1]; omega, by omega⟩ (fun y => absurd y z) fun _ => pm)
theorem SetN.keep {h h' : Heap} (R : SetN P w h a L es ep t) (ga : ∀ o, h.get? a = some o → h'.get? a = some o) (gk : ∀ p ∈ L, IsN P w h' p.2 p.1) : SetN P w h' a L es ep t := by
  obtain ⟨o, g, r⟩ := R.ob
  exact ⟨⟨o, ga o g, r⟩, R.rows, R.tab, R.nd, gk, R.plain, R.led, R.room, R.few⟩
theorem setN_new {h : Heap} (g : h.get? a = some (freshSet w)) : SetN P w h a [] #[] 0 (.fresh 0 0 (!w.params.followText "set-order")) :=
  ⟨⟨_, g, ⟨rfl, rfl, rfl⟩, rfl⟩, rfl, ⟨List.Pairwise.nil, rfl, rfl, .inl rfl, fun x hx => (by cases hx), fun i x j hi => (by simp at hi)⟩, List.nodup_nil, fun p hp => (by cases hp), rfl, by
    show _ ∨ (!w.params.followText "set-order") = true
    cases w.params.followText "set-order"
    · exact .inr rfl
    · exact .inl rfl, by show 0 * 5 < 7 * 3; decide, Nat.zero_le _⟩
/-- what the set has got of the first i -/
structure GotN (ks : List (Addr × NestedKey)) (i : Nat) (L : List (Addr × NestedKey)) : Prop where
  sub : ∀ p ∈ L, p ∈ ks.take i
  all : ∀ p ∈ ks.take i, p.2 ∈ L.map (·.2)
theorem GotN.old {ks : List (Addr × NestedKey)} {i : Nat} {p : Addr × NestedKey} (g : GotN ks i L) (h : ks[i]? = some p) (m : p.2 ∈ L.map (·.2)) : GotN ks (i + 1) L := by
  have e := take_next h
  refine ⟨fun q hq => by rw [e]; exact List.mem_append_left _ (g.sub q hq), fun q hq => ?_⟩
  rw [e, List.mem_append, List.mem_singleton] at hq
  rcases hq with hq | rfl
  · exact g.all q hq
  · exact m
theorem GotN.new {ks L' : List (Addr × NestedKey)} {i : Nat} {p : Addr × NestedKey} (g : GotN ks i L) (h : ks[i]? = some p) (pm : L'.Perm (p :: L)) : GotN ks (i + 1) L' := by
  have e := take_next h
  refine ⟨fun q hq => ?_, fun q hq => ?_⟩
  · rw [e, List.mem_append, List.mem_singleton]
    rcases List.mem_cons.mp (pm.mem_iff.mp hq) with rfl | hq
    · exact .inr rfl
    · exact .inl (g.sub q hq)
  · rw [e, List.mem_append, List.mem_singleton] at hq
    rw [(pm.map (·.2)).mem_iff]
    rcases hq with hq | rfl
    · exact List.mem_cons_of_mem _ (g.all q hq)
    · exact List.mem_cons_self
/-- all that are still to come -/
theorem run_nk {it S : Addr} {fp wr : List Addr} {G : Array GenState → Array GenState → Prop} {Pv : Nat → Value → Prop} {St : Nat → Shared → Prop} {R : Result → Shared → Prop} {ks : List (Addr × NestedKey)} {h0 : Heap} (W : WalksS P w A.in1 it fp wr G ks.length Pv St)
    (hS : S ∉ fp) (hv : ∀ i v, Pv i v → ∃ p, ks[i]? = some p ∧ v = .ref p.1) (hk : ∀ p ∈ ks, IsN P w h0 p.2 p.1) (h0S : h0.get? S = none) (h0w : ∀ b ∈ wr, h0.get? b = none) (hu : A.in1.units + 8 < cLine) {D : List NestedKey} (hD : D.length ≤ 299) (inD : ∀ p ∈ ks, p.2 ∈ D) :
    ∀ (m i : Nat) (s : Shared), i + m = ks.length → St i s → (∀ b o, h0.get? b = some o → s.heap.get? b = some o) → (∃ L es ep t, SetN P w s.heap S L es ep t ∧ GotN ks i L) →
      (∀ s', Moved (S :: wr) G s s' → (∃ L es ep t, SetN P w s'.heap S L es ep t ∧ GotN ks ks.length L) → R (.ok (.ret .none)) s') → codeAny (model P w) A (.builtin "set.update.loop" ⟨[.ref S, .ref it], []⟩) R s
  | m, i, s, hm, hst, old, ⟨L, es, ep, t, hR, g⟩, q => by
    have more : ∀ b ∈ wr, b ∈ S :: wr := fun b hb => List.mem_cons_of_mem _ hb
    have nS : S ∉ wr := fun z => hS (W.sub _ z)
    have inks : ∀ p ∈ L, p ∈ ks := fun p hp => List.mem_of_mem_take (g.sub p hp)
    have turned : ∀ {s1 : Shared}, Moved wr G s s1 → (∀ b o, h0.get? b = some o → s1.heap.get? b = some o) ∧ SetN P w s1.heap S L es ep t := fun {s1} mv => by
      have old1 : ∀ b o, h0.get? b = some o → s1.heap.get? b = some o := fun b o e => mv.heap b o (fun hb => by rw [h0w b hb] at e; cases e) (old b o e)
      exact ⟨old1, hR.keep (fun o e => mv.heap S o nS e) fun p hp => (hk p (inks p hp)).keep old1⟩
    refine codeAny_builtin F.entry_set_update_loop ?_
    rw [Around.under_plainId F.plain_set_update_loop _]
    show wpAny _ A.in1 (pyNext (.ref it) >>= _) _ _ s
    match m, hm with
    | 0, hm =>
      obtain rfl : i = ks.length := hm
      exact wpAny_bind (W.done s _ _ hst fun s1 mv => wpAny_pure (q s1 (mv.mono more) ⟨L, es, ep, t, (turned mv).2, g⟩))
    | m + 1, hm =>
      refine wpAny_bind (W.item i s _ _ (by omega) hst fun v s1 pv hst1 mv => ?_)
      obtain ⟨p, hp, rfl⟩ := hv i v pv
      obtain ⟨old1, hR1⟩ := turned mv
      have few : L.length + 1 ≤ 300 := by
        have := len_few hR1.nd fun v hv => by
          obtain ⟨z, hz, e⟩ := List.mem_map.mp hv
          rw [← e]
          exact inD z (inks z hz)
        rw [List.length_map] at this
        omega
      have hp0 : IsN P w s1.heap p.2 p.1 := (hk p (List.mem_of_getElem? hp)).keep old1
      show wpAny _ A.in1 (holding [Value.ref p.1] (setAdd S (.ref p.1)) >>= _) _ _ s1
      refine wpAny_bind (wpAny_holding ?_)
      unfold setAdd
      refine wpAny_holding (wpAny_bind ((nestedKind P w).pyHash hu hp0.1 ?_))
      refine set_more (s := { s1 with toks := s1.toks + (nestedKind P w).draws p.2 }) hR1 hp0 hu few fun b h' L' es' ep' t' sb hR2 c1 c2 => ?_
      have old2 : ∀ b o, h0.get? b = some o → h'.get? b = some o := fun b o e => (sb.2 b (fun z => by rw [z, h0S] at e; cases e)).trans (old1 b o e)
      have g2 : GotN ks (i + 1) L' := by
        by_cases c : p.2 ∈ L.map (·.2)
        · rw [c1 c]; exact g.old hp c
        · exact g.new hp (c2 c)
      refine wpAny_pure ⟨plainId_quiet F.plain_set_update_loop _, run_nk W hS hv hk h0S h0w hu hD inD m (i + 1) _ (by omega) (W.frame _ s1 _ _ hst1 (Nat.le_add_right _ _) fun b hb o e => (sb.2 b fun z => hS (by rw [← z]; exact hb)).trans e) old2 ⟨L', es', ep', t', hR2, g2⟩ fun s2 mv2 r => q s2 ?_ r⟩
      exact Moved.trans W.gtrans ((mv.mono more).then_heap (Nat.le_add_right _ _) fun b o hb e => (sb.2 b fun z => hb (by rw [z]; exact List.mem_cons_self)).trans e) mv2
theorem loop_nk {items : Array Value} {ks : List (Addr × NestedKey)} {D : List NestedKey} (hit : items.toList = ks.map fun p => Value.ref p.1) (hk : ∀ p ∈ ks, IsN P w s.heap p.2 p.1) (hD : D.length ≤ 299) (inD : ∀ p ∈ ks, p.2 ∈ D) (hu : A.units + 12 < cLine) :
    SetLoop P w A s items fun h' => ∃ L es ep t, SetN P w h' s.heap.objs.size L es ep t ∧ GotN ks ks.length L := by
  have len : items.size = ks.length := by
    have q := congrArg List.length hit
    rwa [Array.length_toList, List.length_map] at q
  refine ⟨fun W hv hS hw st at_S keep hu' q => ?_⟩
  rw [len] at W
  refine run_nk W hS (fun i v z => ?_) hk ?_ hw (by omega) hD inD ks.length 0 _ (Nat.zero_add _) st keep ⟨[], #[], 0, _, setN_new at_S, ⟨fun p h => (by cases h), fun p h => (by simp at h)⟩⟩ fun s' mv r => q s' mv r
  · have hi : items.toList[i]? = some v := by rw [Array.getElem?_toList]; exact hv i v z
    rw [hit, List.getElem?_map] at hi
    obtain ⟨p, e1, e2⟩ := Option.map_eq_some_iff.mp hi
    exact ⟨p, e1, e2.symm⟩
  · cases q : s.heap.get? s.heap.objs.size with
    | none => rfl
    | some o => exact absurd (Heap.lt_size q) (Nat.lt_irrefl _)
end
end G

namespace G
open PySem PySem.Spec PyProof.Rows L2
open PySem.W (Datum DatumOrd Tup T3 EachIs)
open Enc (enc)
/-! ### sorted of what is collected in any order -/
section
open PySem.W PySem.Calls
variable {prog : Program} {w : World} {A : Around} {E : Value → Shared → Prop} {s : Shared} {β : Type} {R : Value → β → Prop} {en : β → PyData} {vs0 : List Value} {bs0 : List β}
theorem sorted_dataP {v0 : Value} {Q : Value → Shared → Prop} (hcol : ∀ (R : List Value → Shared → Prop), (∀ (vs : List Value) (s1 : Shared), (∀ b o, s.heap.get? b = some o → s1.heap.get? b = some o) → s1.gens = s.gens → s1.os = s.os → vs.Perm vs0 → R vs s1) → wpAny (model prog w) A.in1 (collect v0) R E s)
    (dat : ∀ vs : List Value, vs.Perm vs0 → ∃ bs : List β, bs.Perm bs0 ∧ EachIs R vs bs ∧ EachIs (fun v b => ∃ as, Reads s.heap v (en b) as) vs bs) (hal : ∀ bs : List β, AllAlike (bs.map en)) (hk : ∀ bs : List β, Sortable (bs.map en)) (hL : bs0.length ≤ sizeLine) (hu : ∀ b : β, A.units + 2 + (en b).depth < cLine)
    (h : ∀ (s2 : Shared) (p : Addr) (c : Nat) (out : List Value) (bs : List β), (∀ b o, s.heap.get? b = some o → s2.heap.get? b = some o) → s2.gens = s.gens → s2.os = s.os → s.heap.get? p = none → s2.heap.get? p = some (seqObj "list" out.toArray c) → out.length = bs0.length → bs.Perm bs0 → EachIs R out (bs.mergeSort (dataLe false en)) → Q (.ref p) s2) :
    wpAny (model prog w) A (call (.builtin "sorted") [v0]) Q E s := by
  refine call_function_entry kind_sorted plain_sorted entry_sorted (args_sorted1 _) ?_
  unfold Builtin.«sorted»
  refine wpAny_bind (m := checkCount "sorted" 1 1 _) (wpAny_pure ?_)
  refine wpAny_bind (hcol _ fun vs s1 k1 g1 o1 pv => ?_)
  obtain ⟨bs, pb, e, er⟩ := dat vs pv
  have lb := pb.length_eq
  have lv : vs.length = bs.length := e.length
  obtain ⟨hp1, gs1, d1, tk1, os1⟩ := s1
  have g1 : gs1 = s.gens := g1
  have o1 : os1 = s.os := o1
  have k1 : ∀ b o, s.heap.get? b = some o → hp1.get? b = some o := k1
  refine wpAny_bind (wpAny_newList ?_ (by rw [lv, lb]; exact hL))
  have at_p : (hp1.push (seqObj "list" vs.toArray 0)).get? hp1.objs.size = some (seqObj "list" vs.toArray 0) := Heap.get?_push_size _ rfl
  have keep1 : ∀ b o, s.heap.get? b = some o → (hp1.push (seqObj "list" vs.toArray 0)).get? b = some o := fun b o q => Heap.get?_push_of_some _ (k1 b o q)
  have off1 : ∀ b o, s.heap.get? b = some o → b ≠ hp1.objs.size := fun b o q => Nat.ne_of_lt (Heap.lt_size (k1 b o q))
  have er1 : EachIs (fun v b => ∃ as, Reads (sortingHeap (hp1.push (seqObj "list" vs.toArray 0)) hp1.objs.size vs) v (en b) as) vs bs := er.mono fun _ _ ⟨as, r⟩ => ⟨as, PyProof.Rows.Reads.keeps (fun b o q => sortingHeap_old (off1 b o q) (keep1 b o q)) r⟩
  have S : SortsAt prog w A.in1.in1 ⟨sortingHeap (hp1.push (seqObj "list" vs.toArray 0)) hp1.objs.size vs, gs1, d1, tk1, os1⟩ (dataKind (sortingHeap (hp1.push (seqObj "list" vs.toArray 0)) hp1.objs.size vs) (bs.map en)) vs :=
    SortsAt.data (each_map (R := fun v d => ∃ as, Reads (sortingHeap (hp1.push (seqObj "list" vs.toArray 0)) hp1.objs.size vs) v d as) en er1) (hal bs) (hk bs) (bound_map fun b _ => hu b)
  refine wpAny_bind (wpAny_holding (wpAny_call_entry slot_list_sort ⟨_, at_p, rfl⟩ entry_list_sort (wpAny_mono (list_sort_vals (s := ⟨hp1.push (seqObj "list" vs.toArray 0), gs1, d1, tk1, os1⟩) (P := fun f s' => f = .done (.ret .none) ∧ s' = ⟨sortedHeap (hp1.push (seqObj "list" vs.toArray 0)) hp1.objs.size vs (sortVals (dataKind (sortingHeap (hp1.push (seqObj "list" vs.toArray 0)) hp1.objs.size vs) (bs.map en)) false vs vs).toArray, gs1, d1, tk1, os1⟩) at_p S (by rw [lv, lb]; exact hL) ⟨rfl, rfl⟩) (fun f s' hf => ?_) fun _ _ e => e) (args_list_sort _)))
  obtain ⟨rfl, rfl⟩ := hf
  refine ⟨_, rfl, wpAny_pure ⟨_, rfl, ?_⟩⟩
  obtain ⟨c, at_q⟩ := sortedHeap_at (vs := vs) (out := (sortVals (dataKind (sortingHeap (hp1.push (seqObj "list" vs.toArray 0)) hp1.objs.size vs) (bs.map en)) false vs vs).toArray) at_p
  have none1 : s.heap.get? hp1.objs.size = none := by
    cases q : s.heap.get? hp1.objs.size with
    | none => rfl
    | some o => exact absurd rfl (off1 _ _ q)
  exact h _ hp1.objs.size c _ bs (fun b o q => (sortedHeap_old (off1 b o q) (Heap.lt_size (keep1 b o q))).trans (keep1 b o q)) g1 o1 none1 at_q (by rw [sortVals_length false rfl, lv, lb]) pb (sortVals_data false e er1 (hal bs))
end
/-! ### sets of couples of cells -/
def nkC (p : Cell × Cell) : NestedKey := .tup [.tup [.num p.1.1, .num p.1.2], .tup [.num p.2.1, .num p.2.2]]
theorem nkC_inj {p q : Cell × Cell} (h : nkC p = nkC q) : p = q := by
  obtain ⟨⟨a, b⟩, c, d⟩ := p
  obtain ⟨⟨a', b'⟩, c', d'⟩ := q
  unfold nkC at h
  simp only [NestedKey.tup.injEq, NestedKey.num.injEq, List.cons.injEq, and_true] at h
  obtain ⟨⟨h1, h2⟩, h3, h4⟩ := h
  rw [h1, h2, h3, h4]
def CpV (K : PySem.W.Frag) (H : Hp) (p : Cell × Cell) (a : Addr) : Prop := ∃ b c, SqT K H a [.ref b, .ref c] ∧ SqT K H b [.int p.1.1, .int p.1.2] ∧ SqT K H c [.int p.2.1, .int p.2.2]
theorem vals_2 {x y : V} {us : List Value} (r : Vals [x, y] us) : ∃ u v, us = [u, v] ∧ RelV x u ∧ RelV y v := by
  cases r with
  | cons h r => cases r with
    | cons h2 r => cases r; exact ⟨_, _, rfl, h, h2⟩
theorem CpV.is {X : Cx} {pins : List (Addr × Obj)} {σ : L2.St} {H : Hp} {s : Shared} {p : Cell × Cell} {a : Addr} (I : Inv X pins σ H s) (h : CpV X.K H p a) : IsN X.prog X.w s.heap (nkC p) a := by
  obtain ⟨b, c, ha, hb, hc⟩ := h
  have two : ∀ {b : Addr} {i j : Int}, SqT X.K H b [.int i, .int j] → NestedIs s.heap (.tup [.num i, .num j]) (.ref b) := fun {b i j} hb => by
    obtain ⟨its, r, ⟨o, g, t, n, d⟩, _⟩ := I.tuple hb
    obtain ⟨u, v, rfl, ⟨t1, rfl⟩, ⟨t2, rfl⟩⟩ := vals_2 r
    exact .tup g t d (by simpa using NestedAll.cons (.int _ _) (.cons (.int _ _) .nil))
  obtain ⟨its, r, ⟨o, g, t, n, d⟩, _⟩ := I.tuple ha
  obtain ⟨u, v, rfl, e1, e2⟩ := vals_2 r
  obtain rfl : u = Value.ref b := e1
  obtain rfl : v = Value.ref c := e2
  exact ⟨⟨.tup g t d (by simpa using NestedAll.cons (two hb) (.cons (two hc) .nil)), by show 2 ≤ 8; decide⟩, rfl⟩
theorem cps_ks {K : PySem.W.Frag} {F : Hp} : ∀ {vs : List V} {xs : List (Cell × Cell)}, Reps K F vs (xs.map enc) →
    ∃ ks : List (Addr × (Cell × Cell)), vs = ks.map (fun p => V.ref p.1) ∧ ks.map (·.2) = xs ∧ ∀ p ∈ ks, (∀ H, Ext F H → CpV K H p.2 p.1) ∧ Rep K F (.ref p.1) (enc p.2)
  | _, [], .nil => ⟨[], rfl, rfl, fun p h => nomatch h⟩
  | v :: _, x :: xs, .cons h r => by
    obtain ⟨ks, e1, e2, e3⟩ := cps_ks r
    have h0 := h
    cases h with
    | tup ha r2 =>
      rename_i a ws
      cases r2 with
      | cons h1 r2 =>
        cases r2 with
        | cons h2 r2 =>
          cases r2
          cases h1 with
          | tup hb r3 =>
            cases r3 with
            | cons i1 r3 => cases r3 with
              | cons i2 r3 =>
                cases r3
                cases i1
                cases i2
                cases h2 with
                | tup hc r4 =>
                  cases r4 with
                  | cons i3 r4 => cases r4 with
                    | cons i4 r4 =>
                      cases r4
                      cases i3
                      cases i4
                      refine ⟨(a, x) :: ks, by rw [e1]; rfl, by rw [List.map_cons, e2], fun p hp => ?_⟩
                      rcases List.mem_cons.mp hp with rfl | hp
                      · exact ⟨fun H e => ⟨_, _, .of (e _ _ ha), .of (e _ _ hb), .of (e _ _ hc)⟩, h0⟩
                      · exact e3 p hp
/-- the set of couples at a -/
def SetC0 (P : Program) (w : World) (h : Heap) (a : Addr) (L : List (Addr × NestedKey)) : Prop := ∃ (es : Array (Int × Value)) (ep : Nat) (t : SetTable), (∃ o, h.get? a = some o ∧ o.ExactSet ∧ o.data = .set es ep t) ∧ es.toList = rowsN w L ∧ Tb t (L.map fun p => p.2.hash w) ∧ (L.map (·.2)).Nodup ∧ t.plain = true ∧ (w.params.followText "set-order" = true ∨ t.led = true) ∧ L.length * 5 < t.mask * 3 ∧ L.length ≤ 300
def ckey (p : Addr × (Cell × Cell)) : Addr × NestedKey := (p.1, nkC p.2)
def SetCO (P : Program) (w : World) (a : Addr) (M : List (Addr × (Cell × Cell))) : HO := .ext fun h => SetC0 P w h a (M.map ckey)
theorem setCO_new {P : Program} {w : World} {H : Hp} {h : Heap} {a : Addr} {M : List (Addr × (Cell × Cell))} (R : SetC0 P w h a (M.map ckey)) : ObjOk P w H h a (SetCO P w a M) := by
  obtain ⟨es, ep, t, ⟨o, ho, r⟩, q⟩ := id R
  refine ⟨R, ⟨o, ho⟩, fun h1 h2 p k => ?_⟩
  obtain ⟨es', ep', t', ⟨o', ho', r'⟩, q'⟩ := id p
  exact ⟨es', ep', t', ⟨o', k o' ho', r'⟩, q'⟩
theorem unmap {α β : Type} {f : α → β} {ks : List α} : ∀ {l : List β}, (∀ q ∈ l, q ∈ ks.map f) → ∃ M : List α, l = M.map f ∧ ∀ p ∈ M, p ∈ ks
  | [], _ => ⟨[], rfl, fun p h => nomatch h⟩
  | q :: l, h => by
    obtain ⟨p, hp, rfl⟩ := List.mem_map.mp (h q List.mem_cons_self)
    obtain ⟨M, rfl, e⟩ := unmap (l := l) fun r hr => h r (List.mem_cons_of_mem _ hr)
    refine ⟨p :: M, rfl, fun r hr => ?_⟩
    rcases List.mem_cons.mp hr with rfl | hr
    · exact hp
    · exact e r hr
theorem perm_unmap {α β : Type} {f : α → β} {l l' : List β} (h : l.Perm l') : ∀ M : List α, l' = M.map f → ∃ M' : List α, M'.Perm M ∧ l = M'.map f := by
  induction h with
  | nil => intro M e; exact ⟨[], by rw [List.map_eq_nil_iff.mp e.symm], rfl⟩
  | cons x _ ih =>
    intro M e
    cases M with
    | nil => cases e
    | cons m M =>
      rw [List.map_cons] at e
      obtain ⟨rfl, e2⟩ := List.cons.inj e
      obtain ⟨M', p, rfl⟩ := ih M e2
      exact ⟨m :: M', p.cons m, rfl⟩
  | swap x y l =>
    intro M e
    cases M with
    | nil => cases e
    | cons m M =>
      cases M with
      | nil => cases e
      | cons n M =>
        rw [List.map_cons, List.map_cons] at e
        obtain ⟨rfl, e2⟩ := List.cons.inj e
        obtain ⟨rfl, rfl⟩ := List.cons.inj e2
        exact ⟨n :: m :: M, .swap m n M, rfl⟩
  | trans _ _ ih1 ih2 =>
    intro M e
    obtain ⟨M1, p1, e1⟩ := ih2 M e
    obtain ⟨M2, p2, e2⟩ := ih1 M1 e1
    exact ⟨M2, p2.trans p1, e2⟩
section
variable {X : Cx}
def rSetC (K : PySem.W.Frag) (P : Program) (w : World) : List V → Hp → VK → Prop := fun xs H Q => ∃ (l : Addr) (ks : List (Addr × (Cell × Cell))) (D : List (Cell × Cell)), xs = [V.ref l] ∧ SqL K H l (ks.map fun p => V.ref p.1) ∧ (∀ p ∈ ks, CpV K H p.2 p.1) ∧ D.length ≤ 299 ∧ (∀ p ∈ ks, p.2 ∈ D) ∧
  ∀ a M, H a = none → (∀ p ∈ M, p ∈ ks) → (M.map (·.2)).Nodup → (∀ p ∈ ks, p.2 ∈ M.map (·.2)) → Q (.ref a) (upd H a (SetCO P w a M))
theorem refs_vals {α : Type} {f : α → Addr} : ∀ {ks : List α} {us : List Value}, Vals (ks.map fun p => V.ref (f p)) us → us = ks.map fun p => Value.ref (f p)
  | [], _, .nil => rfl
  | p :: ks, _, .cons r t => by cases r; rw [refs_vals t]; rfl
theorem vals_refsM {α : Type} {f : α → Addr} : ∀ (ks : List α), Vals (ks.map fun p => V.ref (f p)) (ks.map fun p => Value.ref (f p))
  | [] => .nil
  | p :: ks => .cons rfl (vals_refsM ks)
theorem cr_setC (hc : X.calm = true) (hu : X.A.units + 64 < cLine) : CallR X (.type "set") (rSetC X.K X.prog X.w) := by
  intro pins s σ H xs us Q I r h
  obtain ⟨l, ks, D, rfl, hl, hk, hD, inD, q⟩ := h
  rw [Vals.ref1 r]
  obtain ⟨its, rv, pl, hz⟩ := I.list hl
  refine set_any_list (P := X.prog) (w := X.w) (I.ok.hd hc) pl.isList (loop_nk (ks := ks.map ckey) (D := D.map nkC) (by rw [List.map_map]; show its.toArray.toList = ks.map fun p => Value.ref p.1; rw [List.toList_toArray]; exact refs_vals (f := fun p : Addr × (Cell × Cell) => p.1) rv) (fun p hp => ?_) (by rw [List.length_map]; exact hD) (fun p hp => ?_) (by omega)) fun h' tk ⟨L, es, ep, t, R, g⟩ k => ?_
  · obtain ⟨p0, h0, rfl⟩ := List.mem_map.mp hp
    exact (hk p0 h0).is I
  · obtain ⟨p0, h0, rfl⟩ := List.mem_map.mp hp
    exact List.mem_map.mpr ⟨_, inD p0 h0, rfl⟩
  · obtain ⟨M, rfl, sub⟩ := unmap fun p hp => List.mem_of_mem_take (g.sub p hp)
    have nd := R.nd
    rw [List.map_map] at nd
    have e0 : SetC0 X.prog X.w h' s.heap.objs.size (M.map ckey) := ⟨es, ep, t, R.ob, R.rows, R.tab, R.nd, R.plain, R.led, R.room, R.few⟩
    refine ⟨.ref s.heap.objs.size, upd H s.heap.objs.size (SetCO X.prog X.w s.heap.objs.size M), I.laid (t' := tk) k (Nat.le_refl _) (setCO_new e0), rfl, q _ M (I.hok.fresh (Nat.le_refl _)) sub ?_ fun p hp => ?_⟩
    · refine List.pairwise_map.mpr ((List.pairwise_map.mp nd).imp fun {p q} z e => z ?_)
      show nkC p.2 = nkC q.2
      rw [e]
    · have := g.all (ckey p) (by rw [List.take_of_length_le (Nat.le_refl _)]; exact List.mem_map.mpr ⟨p, hp, rfl⟩)
      rw [List.map_map] at this
      obtain ⟨q0, hq, e⟩ := List.mem_map.mp this
      exact List.mem_map.mpr ⟨q0, hq, nkC_inj e⟩
def rSortC (K : PySem.W.Frag) (P : Program) (w : World) : List V → Hp → VK → Prop := fun vs H Q => ∃ (F : Hp) (a : Addr) (M : List (Addr × (Cell × Cell))), vs = [V.ref a] ∧ Ext F H ∧ H a = some (SetCO P w a M) ∧ (∀ p ∈ M, CpV K H p.2 p.1 ∧ Rep K F (.ref p.1) (enc p.2)) ∧
  ∀ ys cs p, cs.Perm (M.map (·.2)) → Reps K F ys ((sortT cs).map enc) → H p = none → Q (.ref p) (upd H p (.lst ys))
theorem cr_sortC (hc : X.calm = true) (hu : X.A.units + 100 < cLine) : CallR X (.builtin "sorted") (rSortC X.K X.prog X.w) := by
  intro pins s σ H vs us Q I r h
  obtain ⟨F, a, M, rfl, e, ha, hk, q⟩ := h
  rw [Vals.ref1 r]
  obtain ⟨es, ep, t, ob, r1, r2, r3, r4, r5, r6, r7⟩ : SetC0 X.prog X.w s.heap a (M.map ckey) := (I.hok a _ ha).1
  have R : SetN X.prog X.w s.heap a (M.map ckey) es ep t := ⟨ob, r1, r2, r3, fun p hp => by
    obtain ⟨p0, h0, rfl⟩ := List.mem_map.mp hp
    exact (hk p0 h0).1.is I, r4, r5, r6, r7⟩
  obtain ⟨o, ho, hex, hd⟩ := ob
  have sz := rowsN_size r1
  rw [List.length_map] at sz r7
  have vals : es.toList.map (·.2) = M.map fun p => Value.ref p.1 := by
    rw [r1]
    unfold rowsN
    rw [List.map_map, List.map_map]
    rfl
  refine sorted_dataP (vs0 := M.map fun p => Value.ref p.1) (bs0 := M.map (·.2)) (en := Datum.toD) (R := fun u b => ∃ v, RelV v u ∧ Rep X.K F v (enc b)) (fun R' hR' => ?_) (fun vs pv => ?_) (fun bs => PySem.W.AllAlike.of fun a b => DatumOrd.alike a b) (fun bs => ?_) (by rw [List.length_map, sizeLine_eq]; omega) (fun b => ?_) fun s2 p c out bs kp g1 o1 np at_p hlo pb eo => ?_
  · refine collect_set (A := X.A.in1) (I.ok.hd hc) ⟨o, ho, hex.1, hd⟩ R.fits (by unfold scanBound; omega) R.tab.up R.led fun s1 vs k1 hz g1 o1 pm => ?_
    rw [vals] at pm
    exact hR' vs s1 k1 g1 o1 pm
  · obtain ⟨M', pm, rfl⟩ := perm_unmap pv M rfl
    have rr : Reps X.K F (M'.map fun p => V.ref p.1) ((M'.map (·.2)).map enc) := by
      have sub : ∀ p ∈ M', p ∈ M := fun p hp => pm.mem_iff.mp hp
      clear pm pv
      induction M' with
      | nil => exact .nil
      | cons p M' ih => exact .cons (hk p (sub p List.mem_cons_self)).2 (ih fun q hq => sub q (List.mem_cons_of_mem _ hq))
    obtain ⟨e1, e2⟩ := each_of I e rr (vals_refsM M')
    exact ⟨M'.map (·.2), pm.map _, e1, e2⟩
  · rcases (inferInstance : SortK (Cell × Cell)).h with h | h
    · exact PySem.W.Sortable.tuples h
    · exact PySem.W.Sortable.others h
  · have := Datum.depth_le b
    have := (inferInstance : SortK (Cell × Cell)).d
    omega
  · obtain ⟨ys, h1, h3⟩ := each_back eo
    have hlen : ys.length ≤ sizeLine := by rw [h1.length, hlo, List.length_map, sizeLine_eq]; omega
    have e3 : bs.mergeSort (PySem.W.dataLe false Datum.toD) = sortT bs := by
      unfold sortT
      rw [PySem.W.dataLe_eq]
      congr 1
      funext a b
      show (!PySem.W.dataLt (Datum.toD b) (Datum.toD a)) = _
      rw [DatumOrd.lt_eq]
    rw [e3] at h3
    have hn : H p = none := I.hok.gone np
    have J : Inv X pins σ (upd H p (.lst ys)) s2 := I.call' (ch := []) o1 (Un.laidN kp np hn) (I.hok.laidN kp hn ⟨hlen, out.toArray.toList, c, by simpa using h1, at_p⟩) (by rw [g1]; exact I.bare) (fun _ z => nomatch z)
    exact ⟨.ref p, _, J, rfl, q ys bs p pb h3 hn⟩
end
section
variable {S : Sig} {ρ : Env} {a : Expr} {pos p2 p3 pos2 : Pos}
/-- sorted(set(xs)), xs couples of cells of which all lie in a list of at most 299 -/
theorem tp_ssetC [Calm S] {xs D : List (Cell × Cell)} (hm : S.mg "sorted" = none) (hm2 : S.mg "set" = none) (h : TP S ρ a xs) (hD : D.length ≤ 299) (inD : ∀ c ∈ xs, c ∈ D) (hg : S.scope.names.lookup ("sorted" : Str) = some .globalImplicit := by rfl) (hg2 : S.scope.names.lookup ("set" : Str) = some .globalImplicit := by rfl) (he : ∀ env : PySem.Env, starEach [a] env = (false, eval a env) :: starEach [] env := by intro _; rfl) :
    TP S ρ (.Call (.Name "sorted" p2) [.Call (.Name "set" p3) [a] [] pos2] [] pos) (sset xs) := by
  obtain ⟨t, h1, h2⟩ := h
  refine ⟨tCB (rSortC S.K S.P S.w) (tCons (tCB (rSetC S.K S.P S.w) (tCons t tNil)) tNil), fun q ok => ?_, fun σ F H A Q w n qq => ?_⟩
  · have hu : (S.cx q).A.units + 100 < cLine := by have := ok.room.un; show q.A.units + 100 < cLine; omega
    exact pe_callB (X := S.cx q) (cr_sortC (X := S.cx q) Calm.h hu) (show S.scope.names.lookup _ = some .globalImplicit from hg) hm (by decide +kernel) (pa_cons (pe_callTy (X := S.cx q) (cr_setC (X := S.cx q) Calm.h (by omega)) (show S.scope.names.lookup _ = some .globalImplicit from hg2) hm2 (by decide +kernel) (pa_cons (h1 q ok) pa_nil (he _)) (by decide) (by decide) (he _) (by rfl)) pa_nil) (by decide) (by decide) (by rfl) (by rfl)
  · refine h2 σ F H A _ w n fun v F1 H1 g r => ?_
    cases r with
    | lst hv r =>
      rename_i l vs
      obtain ⟨ks, rfl, rfl, e3⟩ := cps_ks r
      refine ⟨l, ks, D, rfl, .of (g.ext _ _ hv), fun p hp => (e3 p hp).1 _ g.ext, hD, fun p hp => inD _ (List.mem_map.mpr ⟨p, hp, rfl⟩), fun s M hs sub nd all => ?_⟩
      have g2 := g.trans (Grow.side (o := SetCO S.P S.w s M) g.ext hs)
      refine ⟨F1, s, M, rfl, g2.ext, upd_same, fun p hp => ⟨(e3 p (sub p hp)).1 _ g2.ext, (e3 p (sub p hp)).2⟩, fun ys cs p pm hy hp => ?_⟩
      have eq : sortT cs = sset (ks.map (·.2)) := by
        refine sset_of (sortT_srt cs) (((sortT_perm cs).trans pm).nodup_iff.mpr nd) fun v => ?_
        rw [(sortT_perm cs).mem_iff, pm.mem_iff]
        constructor
        · intro z
          obtain ⟨p, hp, rfl⟩ := List.mem_map.mp z
          exact List.mem_map.mpr ⟨p, sub p hp, rfl⟩
        · intro z
          obtain ⟨p, hp, rfl⟩ := List.mem_map.mp z
          exact all p hp
      rw [eq] at hy
      have g3 := Grow.new (o := .lst ys) g2.ext hp
      exact qq (.ref p) _ _ (g2.trans g3) (.lst upd_same (hy.mono g3.stp.fs))
end
end G

namespace G
open PySem PySem.Spec PyProof.Rows L2
open PySem.W (Datum DatumOrd Tup T3 EachIs)
open Enc (enc)
/-! ### min(x, y), max(x, y) of typed data -/
section
open PySem.W PySem.Calls
variable {P : Program} {w : World} {A : Around} {E : Value → Shared → Prop} {s : Shared} {α : Type} [DecidableEq α] [DatumOrd α] {a b : Value} {x y : α} {Q : Value → Shared → Prop}
theorem hold_two {h : Heap} (Ha : Holds h a x) (Hb : Holds h b y) : ∃ as, ReadsAll h (#[a, b] : Array Value).toList ([x, y].map Datum.toD) as := by
  obtain ⟨as, ra⟩ := Ha
  obtain ⟨bs, rb⟩ := Hb
  exact ⟨_, .cons ra (.cons rb .nil)⟩
theorem min_pair (hh : A.handled = none) (Ha : Holds s.heap a x) (Hb : Holds s.heap b y) (hu : A.units + 1 + Datum.depth α < cLine) (h : ∀ h' tk, (∀ c o, s.heap.get? c = some o → h'.get? c = some o) → Q (if DatumOrd.lt y x = true then b else a) { s with heap := h', toks := tk }) :
    wpAny (model P w) A (call (.builtin "min") [a, b]) Q E s := by
  refine call_function_tree F.kind_min F.plain_min F.entry_min (F.args_min2 _ _) ?_
  show wpAny _ A.in1 (Builtin.Builtins.bindParams "min" ["key", "default"] 0 ⟨[], []⟩ >>= _) _ _ s
  refine wpAny_bind (wpAny_of_eq (show Builtin.Builtins.bindParams "min" ["key", "default"] 0 ⟨[], []⟩ = pure [none, none] from rfl) ?_)
  show wpAny _ A.in1 (newTuple [a, b] >>= _) _ _ s
  refine wpAny_bind (wpAny_newObj_type ?_)
  obtain ⟨h1, e1⟩ : ∃ h1, s.heap.push { cls := .type "tuple", data := .seq #[a, b] } = h1 := ⟨_, rfl⟩
  have hT : h1.IsTuple s.heap.objs.size #[a, b] := by rw [← e1]; exact ⟨_, Heap.get?_push_size _ rfl, rfl, 0, rfl⟩
  have k1 : ∀ c o, s.heap.get? c = some o → h1.get? c = some o := fun c o e => by rw [← e1]; exact Heap.get?_push_of_some _ e
  obtain ⟨as, rs⟩ := hold_two (Ha.keeps k1) (Hb.keeps k1)
  show wpAny _ A.in1 (pyIter (.ref s.heap.objs.size) >>= _) _ _ { s with heap := s.heap.push { cls := .type "tuple", data := .seq #[a, b] } }
  rw [e1]
  refine wpAny_bind (iter_tupleW (A := A.in1) (s := { s with heap := h1 }) hh hT fun s2 e W st hfp hw hk => ?_)
  refine wpAny_bind (wpAny_newObj_type ?_)
  rw [show (toString "min" ++ toString ".loop" : String) = "min.loop" by decide]
  refine wpAny_pure ⟨plainId_quiet F.plain_min_loop _, codeAny_min_loop_firstH W h1 hw _ (cmpIn_lt (s := { s with heap := h1 }) (A := A.in1) rs (alikeAll_datum [x, y]) (room_all (depthAll_map [x, y]) (by show A.units + 1 + _ < _; exact hu))) s2.heap.objs.size (fun z => Nat.lt_irrefl _ (hfp _ z)) (fresh_in hk) _ (by show 0 < 2; decide) (fun c o z => Heap.get?_push_of_some _ (hk c o z)) (W.frame 0 s2 _ s2.toks st (Nat.le_refl _) fun c _ o z => Heap.get?_push_of_some _ z) (Heap.get?_push_size _ rfl) fun v s' hP m => ?_⟩
  obtain ⟨h', tk, rfl, k'⟩ := moved_old e rfl (Moved.drop_new (tk := s2.toks) m (Nat.le_refl _))
  have best : argBest (fun i j => dataLt (([x, y].map Datum.toD).getD i .none) (([x, y].map Datum.toD).getD j .none)) 1 = if DatumOrd.lt y x = true then 1 else 0 := by
    show (if dataLt (Datum.toD y) (Datum.toD x) = true then 1 else 0) = _
    rw [DatumOrd.lt_eq]
  have hP : #[a, b][argBest (fun i j => dataLt (([x, y].map Datum.toD).getD i .none) (([x, y].map Datum.toD).getD j .none)) 1]? = some v := hP
  rw [best] at hP
  have ev : v = if DatumOrd.lt y x = true then b else a := by
    by_cases c : DatumOrd.lt y x = true
    · rw [if_pos c] at hP ⊢; exact (Option.some.inj hP).symm
    · rw [if_neg c] at hP ⊢; exact (Option.some.inj hP).symm
  rw [ev]
  exact h h' tk fun c o z => k' c o (k1 c o z)
theorem max_pair (hh : A.handled = none) (Ha : Holds s.heap a x) (Hb : Holds s.heap b y) (hu : A.units + 1 + Datum.depth α < cLine) (h : ∀ h' tk, (∀ c o, s.heap.get? c = some o → h'.get? c = some o) → Q (if DatumOrd.lt x y = true then b else a) { s with heap := h', toks := tk }) :
    wpAny (model P w) A (call (.builtin "max") [a, b]) Q E s := by
  refine call_function_tree F.kind_max F.plain_max F.entry_max (F.args_max2 _ _) ?_
  show wpAny _ A.in1 (Builtin.Builtins.bindParams "max" ["key", "default"] 0 ⟨[], []⟩ >>= _) _ _ s
  refine wpAny_bind (wpAny_of_eq (show Builtin.Builtins.bindParams "max" ["key", "default"] 0 ⟨[], []⟩ = pure [none, none] from rfl) ?_)
  show wpAny _ A.in1 (newTuple [a, b] >>= _) _ _ s
  refine wpAny_bind (wpAny_newObj_type ?_)
  obtain ⟨h1, e1⟩ : ∃ h1, s.heap.push { cls := .type "tuple", data := .seq #[a, b] } = h1 := ⟨_, rfl⟩
  have hT : h1.IsTuple s.heap.objs.size #[a, b] := by rw [← e1]; exact ⟨_, Heap.get?_push_size _ rfl, rfl, 0, rfl⟩
  have k1 : ∀ c o, s.heap.get? c = some o → h1.get? c = some o := fun c o e => by rw [← e1]; exact Heap.get?_push_of_some _ e
  obtain ⟨as, rs⟩ := hold_two (Ha.keeps k1) (Hb.keeps k1)
  show wpAny _ A.in1 (pyIter (.ref s.heap.objs.size) >>= _) _ _ { s with heap := s.heap.push { cls := .type "tuple", data := .seq #[a, b] } }
  rw [e1]
  refine wpAny_bind (iter_tupleW (A := A.in1) (s := { s with heap := h1 }) hh hT fun s2 e W st hfp hw hk => ?_)
  refine wpAny_bind (wpAny_newObj_type ?_)
  rw [show (toString "max" ++ toString ".loop" : String) = "max.loop" by decide]
  refine wpAny_pure ⟨plainId_quiet F.plain_max_loop _, codeAny_max_loop_firstH W h1 hw _ (cmpIn_gt (s := { s with heap := h1 }) (A := A.in1) rs (alikeAll_datum [x, y]) (room_all (depthAll_map [x, y]) (by show A.units + 1 + _ < _; exact hu))) s2.heap.objs.size (fun z => Nat.lt_irrefl _ (hfp _ z)) (fresh_in hk) _ (by show 0 < 2; decide) (fun c o z => Heap.get?_push_of_some _ (hk c o z)) (W.frame 0 s2 _ s2.toks st (Nat.le_refl _) fun c _ o z => Heap.get?_push_of_some _ z) (Heap.get?_push_size _ rfl) fun v s' hP m => ?_⟩
  obtain ⟨h', tk, rfl, k'⟩ := moved_old e rfl (Moved.drop_new (tk := s2.toks) m (Nat.le_refl _))
  have best : argBest (fun i j => dataLt (([x, y].map Datum.toD).getD j .none) (([x, y].map Datum.toD).getD i .none)) 1 = if DatumOrd.lt x y = true then 1 else 0 := by
    show (if dataLt (Datum.toD x) (Datum.toD y) = true then 1 else 0) = _
    rw [DatumOrd.lt_eq]
  have hP : #[a, b][argBest (fun i j => dataLt (([x, y].map Datum.toD).getD j .none) (([x, y].map Datum.toD).getD i .none)) 1]? = some v := hP
  rw [best] at hP
  have ev : v = if DatumOrd.lt x y = true then b else a := by
    by_cases c : DatumOrd.lt x y = true
    · rw [if_pos c] at hP ⊢; exact (Option.some.inj hP).symm
    · rw [if_neg c] at hP ⊢; exact (Option.some.inj hP).symm
  rw [ev]
  exact h h' tk fun c o z => k' c o (k1 c o z)
end
section
variable {T : Type} [DecidableEq T] [DatumOrd T] [Enc T]
def rPairK (K : PySem.W.Frag) (x y : T) (k : Bool) : List V → Hp → VK → Prop := fun ws H Q => ∃ u v, ws = [u, v] ∧ Rep K H u (enc x) ∧ Rep K H v (enc y) ∧ Q (if k = true then v else u) H
theorem cr_minP {X : Cx} {x y : T} (hc : X.calm = true) (hu : X.A.units + 64 < cLine) (hd : Datum.depth T ≤ 60) : CallR X (.builtin "min") (rPairK X.K x y (DatumOrd.lt y x)) := by
  intro pins s σ H ws us Q I r h
  obtain ⟨u, v, rfl, ru, rv, q⟩ := h
  obtain ⟨a, b, rfl, ea, eb⟩ := vals_2 r
  refine min_pair (x := x) (y := y) (I.ok.hd hc) (holds_of I ru ea) (holds_of I rv eb) (by omega) fun h' tk k => ⟨_, H, I.kept (t' := tk) k, ?_, q⟩
  split <;> assumption
theorem cr_maxP {X : Cx} {x y : T} (hc : X.calm = true) (hu : X.A.units + 64 < cLine) (hd : Datum.depth T ≤ 60) : CallR X (.builtin "max") (rPairK X.K x y (DatumOrd.lt x y)) := by
  intro pins s σ H ws us Q I r h
  obtain ⟨u, v, rfl, ru, rv, q⟩ := h
  obtain ⟨a, b, rfl, ea, eb⟩ := vals_2 r
  refine max_pair (x := x) (y := y) (I.ok.hd hc) (holds_of I ru ea) (holds_of I rv eb) (by omega) fun h' tk k => ⟨_, H, I.kept (t' := tk) k, ?_, q⟩
  split <;> assumption
variable {S : Sig} {ρ : Env} {a b : Expr} {pos p2 : Pos} {x y : T}
theorem reps_2 {K : PySem.W.Frag} {F : Hp} {vs : List V} {d e : D} (r : Reps K F vs [d, e]) : ∃ u v, vs = [u, v] ∧ Rep K F u d ∧ Rep K F v e := by
  cases r with
  | cons h r => cases r with
    | cons h2 r => cases r; exact ⟨_, _, rfl, h, h2⟩
theorem tp_minP [Calm S] (hm : S.mg "min" = none) (h : TP S ρ a x) (h' : TP S ρ b y) (hd : Datum.depth T ≤ 60 := by decide) (hg : S.scope.names.lookup ("min" : Str) = some .globalImplicit := by rfl) (he : ∀ env : PySem.Env, starEach [a, b] env = (false, eval a env) :: starEach [b] env := by intro _; rfl) (he2 : ∀ env : PySem.Env, starEach [b] env = (false, eval b env) :: starEach [] env := by intro _; rfl) (hpl : ∀ env : PySem.Env, (backTo pos (starEach [b] env)).any (·.1) = false := by intro _; rfl) :
    TP S ρ (.Call (.Name "min" p2) [a, b] [] pos) (if DatumOrd.lt y x = true then y else x) := by
  obtain ⟨t, h1, h2⟩ := xa_cons h (xa_cons h' xa_nil he2) he
  refine ⟨tCB (rPairK S.K x y (DatumOrd.lt y x)) t, fun q ok => pe_callB (X := S.cx q) (cr_minP (X := S.cx q) Calm.h ok.units hd) (show S.scope.names.lookup ("min" : Str) = some .globalImplicit from hg) hm (by decide +kernel) (h1 q ok) (by decide) (by decide) (he _) (hpl _), fun σ F H A Q w n q => h2 σ F H A _ w n fun vs F1 H1 g rr => ?_⟩
  obtain ⟨u, v, rfl, r1, r2⟩ := reps_2 rr
  exact ⟨u, v, rfl, r1.mono g.ext, r2.mono g.ext, q _ F1 H1 g (by split <;> assumption)⟩
theorem tp_maxP [Calm S] (hm : S.mg "max" = none) (h : TP S ρ a x) (h' : TP S ρ b y) (hd : Datum.depth T ≤ 60 := by decide) (hg : S.scope.names.lookup ("max" : Str) = some .globalImplicit := by rfl) (he : ∀ env : PySem.Env, starEach [a, b] env = (false, eval a env) :: starEach [b] env := by intro _; rfl) (he2 : ∀ env : PySem.Env, starEach [b] env = (false, eval b env) :: starEach [] env := by intro _; rfl) (hpl : ∀ env : PySem.Env, (backTo pos (starEach [b] env)).any (·.1) = false := by intro _; rfl) :
    TP S ρ (.Call (.Name "max" p2) [a, b] [] pos) (if DatumOrd.lt x y = true then y else x) := by
  obtain ⟨t, h1, h2⟩ := xa_cons h (xa_cons h' xa_nil he2) he
  refine ⟨tCB (rPairK S.K x y (DatumOrd.lt x y)) t, fun q ok => pe_callB (X := S.cx q) (cr_maxP (X := S.cx q) Calm.h ok.units hd) (show S.scope.names.lookup ("max" : Str) = some .globalImplicit from hg) hm (by decide +kernel) (h1 q ok) (by decide) (by decide) (he _) (hpl _), fun σ F H A Q w n q => h2 σ F H A _ w n fun vs F1 H1 g rr => ?_⟩
  obtain ⟨u, v, rfl, r1, r2⟩ := reps_2 rr
  exact ⟨u, v, rfl, r1.mono g.ext, r2.mono g.ext, q _ F1 H1 g (by split <;> assumption)⟩
end
end G

namespace My
open PySem PySem.Spec PyProof.Rows L2 G
open PySem.W (Datum DatumOrd Tup T3)
open Enc (enc)
def top (i : Nat) : Stmt := PySem.Challenge.pw_lampfloor_k41_whole_keeper.main.body.getD i (.Pass ⟨0, 0, 0, 0⟩)
abbrev s_is_on : Stmt := top 6
abbrev s_need_cell : Stmt := top 7
abbrev s_is_solid : Stmt := top 8
abbrev s_all_cells : Stmt := top 9
abbrev s_open_cells : Stmt := top 10
abbrev s_with_solid : Stmt := top 11
abbrev s_without_solid : Stmt := top 12
abbrev s_sign_of : Stmt := top 14
abbrev s_Line___init__ : Stmt := inClass (top 15) 0
abbrev s_Line_step_of : Stmt := inClass (top 15) 1
abbrev s_Line_next_cell : Stmt := inClass (top 15) 2
abbrev s_is_squeezed : Stmt := top 17
abbrev s_is_free : Stmt := top 18
abbrev s_looks : Stmt := top 19
abbrev s_sees : Stmt := top 20
abbrev s_couples_of : Stmt := top 21
abbrev s_Keeper___init__ : Stmt := inClass (top 23) 0
abbrev s_Keeper_book : Stmt := inClass (top 23) 1
abbrev s_Keeper_look_anew : Stmt := inClass (top 23) 2
abbrev s_Keeper_put_solid : Stmt := inClass (top 23) 3
abbrev s_Keeper_take_solid : Stmt := inClass (top 23) 4
abbrev s_Keeper_now : Stmt := inClass (top 23) 5
abbrev s_Keeper_seen : Stmt := inClass (top 23) 6
abbrev s_Keeper_do_see : Stmt := inClass (top 23) 7
abbrev s_Keeper_looked : Stmt := inClass (top 23) 8
abbrev s__law_cell : Stmt := top 25
abbrev s__law_drawn : Stmt := top 26
abbrev s__law_floor : Stmt := top 27
abbrev s__law_cells : Stmt := top 28
abbrev s__law_open : Stmt := top 29
abbrev s__law_off : Stmt := top 30
abbrev s__law_turned : Stmt := top 31
abbrev s_law : Stmt := top 32
def d0 : He.DefD := ⟨("is_on", none), "is_on", "is_on", defArgs s_is_on, defBody s_is_on, defScope s_is_on, [], []⟩
def d1 : He.DefD := ⟨("need_cell", none), "need_cell", "need_cell", defArgs s_need_cell, defBody s_need_cell, defScope s_need_cell, [], []⟩
def d2 : He.DefD := ⟨("is_solid", none), "is_solid", "is_solid", defArgs s_is_solid, defBody s_is_solid, defScope s_is_solid, [], []⟩
def d3 : He.DefD := ⟨("all_cells", none), "all_cells", "all_cells", defArgs s_all_cells, defBody s_all_cells, defScope s_all_cells, [], []⟩
def d4 : He.DefD := ⟨("open_cells", none), "open_cells", "open_cells", defArgs s_open_cells, defBody s_open_cells, defScope s_open_cells, [], []⟩
def d5 : He.DefD := ⟨("with_solid", none), "with_solid", "with_solid", defArgs s_with_solid, defBody s_with_solid, defScope s_with_solid, [], []⟩
def d6 : He.DefD := ⟨("without_solid", none), "without_solid", "without_solid", defArgs s_without_solid, defBody s_without_solid, defScope s_without_solid, [], []⟩
def d7 : He.DefD := ⟨("sign_of", none), "sign_of", "sign_of", defArgs s_sign_of, defBody s_sign_of, defScope s_sign_of, [], []⟩
def d8 : He.DefD := ⟨("Line", some "__init__"), "__init__", "Line.__init__", defArgs s_Line___init__, defBody s_Line___init__, defScope s_Line___init__, [], []⟩
def d9 : He.DefD := ⟨("Line", some "step_of"), "step_of", "Line.step_of", defArgs s_Line_step_of, defBody s_Line_step_of, defScope s_Line_step_of, [], []⟩
def d10 : He.DefD := ⟨("Line", some "next_cell"), "next_cell", "Line.next_cell", defArgs s_Line_next_cell, defBody s_Line_next_cell, defScope s_Line_next_cell, [], []⟩
def d11 : He.DefD := ⟨("is_squeezed", none), "is_squeezed", "is_squeezed", defArgs s_is_squeezed, defBody s_is_squeezed, defScope s_is_squeezed, [], []⟩
def d12 : He.DefD := ⟨("is_free", none), "is_free", "is_free", defArgs s_is_free, defBody s_is_free, defScope s_is_free, [], []⟩
def d13 : He.DefD := ⟨("looks", none), "looks", "looks", defArgs s_looks, defBody s_looks, defScope s_looks, [], []⟩
def d14 : He.DefD := ⟨("sees", none), "sees", "sees", defArgs s_sees, defBody s_sees, defScope s_sees, [], []⟩
def d15 : He.DefD := ⟨("couples_of", none), "couples_of", "couples_of", defArgs s_couples_of, defBody s_couples_of, defScope s_couples_of, [], []⟩
def d16 : He.DefD := ⟨("Keeper", some "__init__"), "__init__", "Keeper.__init__", defArgs s_Keeper___init__, defBody s_Keeper___init__, defScope s_Keeper___init__, [], []⟩
def d17 : He.DefD := ⟨("Keeper", some "book"), "book", "Keeper.book", defArgs s_Keeper_book, defBody s_Keeper_book, defScope s_Keeper_book, [], []⟩
def d18 : He.DefD := ⟨("Keeper", some "look_anew"), "look_anew", "Keeper.look_anew", defArgs s_Keeper_look_anew, defBody s_Keeper_look_anew, defScope s_Keeper_look_anew, [], []⟩
def d19 : He.DefD := ⟨("Keeper", some "put_solid"), "put_solid", "Keeper.put_solid", defArgs s_Keeper_put_solid, defBody s_Keeper_put_solid, defScope s_Keeper_put_solid, [], []⟩
def d20 : He.DefD := ⟨("Keeper", some "take_solid"), "take_solid", "Keeper.take_solid", defArgs s_Keeper_take_solid, defBody s_Keeper_take_solid, defScope s_Keeper_take_solid, [], []⟩
def d21 : He.DefD := ⟨("Keeper", some "now"), "now", "Keeper.now", defArgs s_Keeper_now, defBody s_Keeper_now, defScope s_Keeper_now, [], []⟩
def d22 : He.DefD := ⟨("Keeper", some "seen"), "seen", "Keeper.seen", defArgs s_Keeper_seen, defBody s_Keeper_seen, defScope s_Keeper_seen, [], []⟩
def d23 : He.DefD := ⟨("Keeper", some "do_see"), "do_see", "Keeper.do_see", defArgs s_Keeper_do_see, defBody s_Keeper_do_see, defScope s_Keeper_do_see, [], []⟩
def d24 : He.DefD := ⟨("Keeper", some "looked"), "looked", "Keeper.looked", defArgs s_Keeper_looked, defBody s_Keeper_looked, defScope s_Keeper_looked, [], []⟩
def d25 : He.DefD := ⟨("_law_cell", none), "_law_cell", "_law_cell", defArgs s__law_cell, defBody s__law_cell, defScope s__law_cell, [], []⟩
def d26 : He.DefD := ⟨("_law_drawn", none), "_law_drawn", "_law_drawn", defArgs s__law_drawn, defBody s__law_drawn, defScope s__law_drawn, [], []⟩
def d27 : He.DefD := ⟨("_law_floor", none), "_law_floor", "_law_floor", defArgs s__law_floor, defBody s__law_floor, defScope s__law_floor, [], []⟩
def d28 : He.DefD := ⟨("_law_cells", none), "_law_cells", "_law_cells", defArgs s__law_cells, defBody s__law_cells, defScope s__law_cells, [], []⟩
def d29 : He.DefD := ⟨("_law_open", none), "_law_open", "_law_open", defArgs s__law_open, defBody s__law_open, defScope s__law_open, [], []⟩
def d30 : He.DefD := ⟨("_law_off", none), "_law_off", "_law_off", defArgs s__law_off, defBody s__law_off, defScope s__law_off, [], []⟩
def d31 : He.DefD := ⟨("_law_turned", none), "_law_turned", "_law_turned", defArgs s__law_turned, defBody s__law_turned, defScope s__law_turned, [], []⟩
def d32 : He.DefD := ⟨("law", none), "law", "law", defArgs s_law, defBody s_law, defScope s_law, [], []⟩
def fn : List He.DefD := [d0, d1, d2, d3, d4, d5, d6, d7, d8, d9, d10, d11, d12, d13, d14, d15, d16, d17, d18, d19, d20, d21, d22, d23, d24, d25, d26, d27, d28, d29, d30, d31, d32]
def fa_0 : List He.Fa := [.glo "LampError", .exc "LampError", .glo "OffFloor", .exc "OffFloor", .glo "InWall", .exc "InWall", .glo "NotWall", .exc "NotWall", .glo "is_on", .glo "need_cell", .glo "is_solid", .glo "all_cells", .glo "open_cells", .glo "with_solid", .glo "without_solid", .glo "sign_of", .glo "Line", .cls "Line", .mkr "Line", .meth "Line" "step_of", .meth "Line" "next_cell", .noat "Line" "cells", .noat "Line" "couples", .noat "Line" "down", .noat "Line" "right", .glo "is_squeezed", .glo "is_free", .glo "looks", .glo "sees", .glo "couples_of"]
def fa_1 : List He.Fa := [.glo "Keeper", .cls "Keeper", .mkr "Keeper", .meth "Keeper" "book", .meth "Keeper" "look_anew", .meth "Keeper" "put_solid", .meth "Keeper" "take_solid", .meth "Keeper" "now", .meth "Keeper" "seen", .meth "Keeper" "do_see", .meth "Keeper" "looked", .noat "Keeper" "by_cell", .noat "Keeper" "couples", .noat "Keeper" "floor", .noat "Keeper" "many", .glo "_law_cell", .glo "_law_drawn", .glo "_law_floor", .glo "_law_cells", .glo "_law_open", .glo "_law_off", .glo "_law_turned", .glo "law", .free "ValueError", .free "abs", .free "any", .free "enumerate", .free "int", .free "len", .free "list"]
def fa_2 : List He.Fa := [.free "max", .free "min", .free "range", .free "set", .free "sorted", .free "tuple", .exm "LampError" "LampError" true, .exm "LampError" "OffFloor" false, .exm "LampError" "InWall" false, .exm "LampError" "NotWall" false, .exm "OffFloor" "LampError" true, .exm "OffFloor" "OffFloor" true, .exm "OffFloor" "InWall" false, .exm "OffFloor" "NotWall" false, .exm "InWall" "LampError" true, .exm "InWall" "OffFloor" false, .exm "InWall" "InWall" true, .exm "InWall" "NotWall" false, .exm "NotWall" "LampError" true, .exm "NotWall" "OffFloor" false, .exm "NotWall" "InWall" false, .exm "NotWall" "NotWall" true]
def fa : List He.Fa := fa_0 ++ fa_1 ++ fa_2
def names_0 : List PySem.Str := ["LampError", "OffFloor", "InWall", "NotWall", "is_on", "need_cell", "is_solid", "all_cells", "open_cells", "with_solid", "without_solid", "sign_of", "Line", "is_squeezed", "is_free", "looks", "sees", "couples_of", "Keeper", "_law_cell", "_law_drawn", "_law_floor", "_law_cells", "_law_open", "_law_off", "_law_turned"]
def names : List PySem.Str := names_0
def exf_0 : List G.KF := []
def exf : List G.KF := exf_0
def tabs : List He.Tab := []
abbrev R : PySem.W.OpenRow := PySem.W.OpenLaw.row PySem.Challenge.rw_lampfloor_k41_whole_keeper
abbrev hk : PySem.W.Hook := G.hookY 6 exf fa fn tabs
def ob (s : PySem.W.SharedT) : G.AlY := G.obsYG 6 exf fa fn tabs (HandSHeadRun.getT s)
theorem ob_eq (s : PySem.W.SharedT) : ob s = hk.obs s.abs := G.obsYG_eq (HandSHeadRun.getT_eq s)
theorem run (w : World) : HandSHeadRun.RunEq R (PySem.W.view R.prog [32]) hk ob 3000 names w := by
  intro os
  kernel_rfl
section
variable {P : Program} {w : World} {K : PySem.W.Frag} {mg : Str → Option Value} {base : Heap} {f : Addr} {fd : FuncData}

/-! sign_of -/
def m_sign (n : Int) : Int := (if decide (0 < n) then 1 else 0) - (if decide (n < 0) then 1 else 0)
theorem sc_sign : FnScope ["number"] ["number"] (defScope s_sign_of) := ⟨rfl, rfl, rfl, by decide +kernel, rfl, by decide +kernel, by decide +kernel⟩
abbrev sp_sign (K : PySem.W.Frag) : Sp := spP K (fun (n : Int) => [enc n]) (fun _ => True) (fun n => oF (m_sign n))
theorem ok_sign_of (F : FnF K "sign_of" "sign_of" s_sign_of f fd) (m_int : mg "int" = none) : FnOk P w K mg base (L2N.CX P w) 1 f fd ["number"] (sp_sign K) := by
  refine def_pure F sc_sign (fun _ => rfl) fun n E hp => ?_
  refine ⟨rF (m_sign n), ?_, fits_F⟩
  exact xb_ret rF _ (xs_retF (tp_sub (tp_intb m_int (tp_gt (xp_var 0) tp_int)) (tp_intb m_int (tp_lt (xp_var 0) tp_int)))) trivial
/-! Line -/
structure LineS where
  cells : List Cell
  cps : List (Cell × Cell)
  right : Int
  down : Int
def lineO (C : Addr) (l : LineS) : O := .ins C ["cells", "couples", "right", "down"] [oL l.cells, oL l.cps, .fro (enc l.right), .fro (enc l.down)]
def m_step (lead : Int) : Cell := (if decide (0 ≤ lead) then 1 else 0, if decide (lead ≤ 0) then 1 else 0)
theorem sc_step : FnScope ["self", "lead"] ["self", "lead"] (defScope s_Line_step_of) := ⟨rfl, rfl, rfl, by decide +kernel, rfl, by decide +kernel, by decide +kernel⟩
abbrev sp_step (K : PySem.W.Frag) (C : Addr) : Sp := spM K (fun (y : LineS × Int) => [enc y.2]) (fun y => lineO C y.1) (fun _ => True) (fun y => (oF (m_step y.2), lineO C y.1))
theorem ok_Line_step_of {C : Addr} (F : FnF K "step_of" "Line.step_of" s_Line_step_of f fd) (m_int : mg "int" = none) : FnOk P w K mg base (L2N.CX P w) 1 f fd ["self", "lead"] (sp_step K C) := by
  refine def_meth F sc_step (fun _ => rfl) fun y E hp => ?_
  obtain ⟨l, lead⟩ := y
  refine ⟨.rt (.fro (enc (m_step lead))) (some [some (lineO C l), some (.fro (enc lead))]), ?_, .rt rfl rfl⟩
  exact xb_stop (xs_ret (XP.x (tp_2 (xa_cons (tp_intb m_int (tp_ge (xp_var 1) tp_int)) (xa_cons (tp_intb m_int (tp_le (xp_var 1) tp_int)) xa_nil))))) (fun _ z => nomatch z)
def m_there (l : LineS) (here : Cell) (lead : Int) : Cell := (here.1 + l.right * (m_step lead).1, here.2 + l.down * (m_step lead).2)
def m_next (l : LineS) (here : Cell) (lead : Int) : LineS :=
  if decide (lead = 0) = true then { l with cps := l.cps ++ [two ((m_there l here lead).1, here.2) (here.1, (m_there l here lead).2)] } else l
theorem m_step_b (lead : Int) : (-(2 ^ 64) < (m_step lead).1 ∧ (m_step lead).1 < 2 ^ 64) ∧ (-(2 ^ 64) < (m_step lead).2 ∧ (m_step lead).2 < 2 ^ 64) := by
  unfold m_step; constructor <;> (dsimp only; split <;> decide)
theorem sc_next : FnScope ["self", "here", "lead", "step", "there"] ["self", "here", "lead"] (defScope s_Line_next_cell) := ⟨rfl, rfl, rfl, by decide +kernel, rfl, by decide +kernel, by decide +kernel⟩
abbrev sp_next (K : PySem.W.Frag) (C : Addr) : Sp := spM K (fun (y : LineS × Cell × Int) => [enc y.2.1, enc y.2.2]) (fun y => lineO C y.1) (fun y => y.1.cps.length < 1000) (fun y => (oF (m_there y.1 y.2.1 y.2.2), lineO C (m_next y.1 y.2.1 y.2.2)))
theorem ok_Line_next_cell {C : Addr} (F : FnF K "next_cell" "Line.next_cell" s_Line_next_cell f fd) (m_tuple : mg "tuple" = none) (m_sorted : mg "sorted" = none) (cl_Line : Cls K C) (na_Line_couples : NoAttr K C "couples") (na_Line_right : NoAttr K C "right") (na_Line_down : NoAttr K C "down")
    (h_Line_step_of : MeG P w K mg base 1 C "step_of" ["self", "lead"] (sp_step K C)) : FnOk P w K mg base (L2N.CX P w) 2 f fd ["self", "here", "lead"] (sp_next K C) := by
  refine def_meth F sc_next (fun _ => rfl) fun y E hp => ?_
  obtain ⟨l, here, lead⟩ := y
  refine ⟨.rt (.fro (enc (m_there l here lead))) (some [some (lineO C (m_next l here lead)), some (.fro (enc here)), some (.fro (enc lead)), some (.fro (enc (m_step lead))), some (.fro (enc (m_there l here lead)))]), ?_, .rt rfl rfl⟩
  refine xb_cons (ρ1 := [some (lineO C l), some (.fro (enc here)), some (.fro (enc lead)), some (.fro (enc (m_step lead))), none]) (xs_setM 3 (xx_meth h_Line_step_of (l, lead) trivial (xl_var 0) rfl (xa_cons (xp_var 2) xa_nil))) ?_
  refine xb_cons (ρ1 := [some (lineO C l), some (.fro (enc here)), some (.fro (enc lead)), some (.fro (enc (m_step lead))), some (.fro (enc (m_there l here lead)))])
    (xs_setF 4 (tp_2 (xa_cons (tp_add (tp_ix2a (xp_var 1)) (tp_mul (XL.p (xl_fld 2 cl_Line na_Line_right (xl_var 0))) (tp_ix2a (xp_var 3)) (.inr (m_step_b lead).1))) (xa_cons (tp_add (tp_ix2b (xp_var 1)) (tp_mul (XL.p (xl_fld 3 cl_Line na_Line_down (xl_var 0))) (tp_ix2b (xp_var 3)) (.inr (m_step_b lead).2))) xa_nil)))) ?_
  refine XB.cast (xb_ifj (fun cps => RS.rt (.fro (enc (m_there l here lead))) (some [some (lineO C { l with cps := cps }), some (.fro (enc here)), some (.fro (enc lead)), some (.fro (enc (m_step lead))), some (.fro (enc (m_there l here lead)))]))
    (fun cps => [some (lineO C { l with cps := cps }), some (.fro (enc here)), some (.fro (enc lead)), some (.fro (enc (m_step lead))), some (.fro (enc (m_there l here lead)))]) id (s1 := l.cps ++ [two ((m_there l here lead).1, here.2) (here.1, (m_there l here lead).2)]) (s2 := l.cps)
    (tt_eq (XP.v (xp_var 2)) (XP.v tp_int)) (fun hc => ?_) (fun _ => xb_nil) (fun cps _ => xb_stop (xs_ret (XP.x (xp_var 4))) (fun _ z => nomatch z))) ?_
  · exact xb_one (xs_exprM (xx_app (xl_fld 1 cl_Line na_Line_couples (xl_var 0)) (tp_tsort2 m_tuple m_sorted (tp_lst2 (xa_cons (tp_2 (xa_cons (tp_ix2a (xp_var 4)) (xa_cons (tp_ix2b (xp_var 1)) xa_nil))) (xa_cons (tp_2 (xa_cons (tp_ix2a (xp_var 1)) (xa_cons (tp_ix2b (xp_var 4)) xa_nil))) xa_nil)))) (Nat.lt_trans hp (by decide))))
  · unfold m_next
    show RS.rt _ (some [some (lineO C { l with cps := id (if _ then _ else _) }), _, _, _, _]) = _
    split <;> rfl


structure LState where
  cells : List Cell
  cps : List (Cell × Cell)
  lead : Int
  here : Cell
def absI (i : Int) : Int := if i < 0 then -i else i
def m_right (one other : Cell) : Int := m_sign (other.1 - one.1)
def m_down (one other : Cell) : Int := m_sign (other.2 - one.2)
def m_across (one other : Cell) : Int := absI (other.1 - one.1)
def m_along (one other : Cell) : Int := absI (other.2 - one.2)
def m_ls (one other : Cell) (s : LState) : LineS := ⟨s.cells, s.cps, m_right one other, m_down one other⟩
def m_go (one other : Cell) (s : LState) : LState where
  cells := s.cells ++ [m_there (m_ls one other s) s.here s.lead]
  cps := (m_next (m_ls one other s) s.here s.lead).cps
  lead := s.lead - 2 * m_along one other * (m_step s.lead).1 + 2 * m_across one other * (m_step s.lead).2
  here := m_there (m_ls one other s) s.here s.lead
def m_ini (one other : Cell) : LState := ⟨[one], [], m_across one other - m_along one other, one⟩
def m_run (one other : Cell) (n : Nat) (s : LState) : Option (LO LState Empty) := whL (fun s => !decide (s.here = other)) (fun s => .nx (m_go one other s)) n s
def LineOk (one other : Cell) : Prop := ∃ s, m_run one other 100 (m_ini one other) = some (.nx s)
def m_line (one other : Cell) : LState := match m_run one other 100 (m_ini one other) with
  | some (.nx s) => s
  | _ => m_ini one other
theorem m_line_ok {one other : Cell} (h : LineOk one other) : m_run one other 100 (m_ini one other) = some (.nx (m_line one other)) := by
  obtain ⟨s, h⟩ := h
  unfold m_line
  rw [h]
theorem m_next_ls (l : LineS) (here : Cell) (lead : Int) : m_next l here lead = ⟨l.cells, (m_next l here lead).cps, l.right, l.down⟩ := by
  unfold m_next; split <;> rfl
theorem m_next_len (l : LineS) (here : Cell) (lead : Int) : (m_next l here lead).cps.length ≤ l.cps.length + 1 := by
  unfold m_next; split <;> simp
theorem sc_init : FnScope ["self", "one", "other", "across", "along", "lead", "here", "step"] ["self", "one", "other"] (defScope s_Line___init__) := ⟨rfl, rfl, rfl, by decide +kernel, rfl, by decide +kernel, by decide +kernel⟩
abbrev sp_init (K : PySem.W.Frag) (C : Addr) : Sp := spM K (fun (y : Cell × Cell) => [enc y.1, enc y.2]) (fun _ => .ins C [] []) (fun y => LineOk y.1 y.2) (fun y => (.ok (.fro .non), lineO C (m_ls y.1 y.2 (m_line y.1 y.2))))
def R_init (C : Addr) (one other : Cell) (s : LState) : G.Env := [some (lineO C (m_ls one other s)), some (.fro (enc one)), some (.fro (enc other)), some (.fro (enc (m_across one other))), some (.fro (enc (m_along one other))), some (.fro (enc s.lead)), some (.fro (enc s.here)), none]
theorem ok_Line___init__ {C : Addr} (F : FnF K "__init__" "Line.__init__" s_Line___init__ f fd) (m_abs : mg "abs" = none) (cl_Line : Cls K C) (na_Line_cells : NoAttr K C "cells") (na_Line_couples : NoAttr K C "couples") (na_Line_right : NoAttr K C "right") (na_Line_down : NoAttr K C "down")
    (h_sign_of : FnG P w K mg base 1 "sign_of" ["number"] (sp_sign K)) (h_Line_step_of : MeG P w K mg base 1 C "step_of" ["self", "lead"] (sp_step K C)) (h_Line_next_cell : MeG P w K mg base 2 C "next_cell" ["self", "here", "lead"] (sp_next K C)) : FnOk P w K mg base (L2N.CX P w) 3 f fd ["self", "one", "other"] (sp_init K C) := by
  refine def_meth F sc_init (fun _ => rfl) fun y E hp => ?_
  obtain ⟨one, other⟩ := y
  refine ⟨.nx (R_init C one other (m_line one other)), ?_, .nx rfl rfl⟩
  refine xb_cons (ρ1 := [some (.ins C ["cells"] [oL [one]]), some (.fro (enc one)), some (.fro (enc other)), none, none, none, none, none]) (xs_fldM cl_Line na_Line_cells (xx_lst (xa_cons (xp_var 1) xa_nil)) (xl_var 0)) ?_
  refine xb_cons (ρ1 := [some (.ins C ["cells", "couples"] [oL [one], oL ([] : List (Cell × Cell))]), some (.fro (enc one)), some (.fro (enc other)), none, none, none, none, none]) (xs_fldM cl_Line na_Line_couples (xx_lst xa_nil) (xl_var 0)) ?_
  refine xb_cons (ρ1 := [some (.ins C ["cells", "couples", "right"] [oL [one], oL ([] : List (Cell × Cell)), .fro (enc (m_right one other))]), some (.fro (enc one)), some (.fro (enc other)), none, none, none, none, none]) (xs_fldM cl_Line na_Line_right (xx_call h_sign_of (other.1 - one.1) trivial (xa_cons (tp_sub (tp_ix2a (xp_var 2)) (tp_ix2a (xp_var 1))) xa_nil)) (xl_var 0)) ?_
  refine xb_cons (ρ1 := [some (lineO C ⟨[one], [], m_right one other, m_down one other⟩), some (.fro (enc one)), some (.fro (enc other)), none, none, none, none, none]) (xs_fldM cl_Line na_Line_down (xx_call h_sign_of (other.2 - one.2) trivial (xa_cons (tp_sub (tp_ix2b (xp_var 2)) (tp_ix2b (xp_var 1))) xa_nil)) (xl_var 0)) ?_
  refine xb_cons (ρ1 := [some (lineO C ⟨[one], [], m_right one other, m_down one other⟩), some (.fro (enc one)), some (.fro (enc other)), some (.fro (enc (m_across one other))), none, none, none, none]) (xs_setF 3 (tp_abs m_abs (tp_sub (tp_ix2a (xp_var 2)) (tp_ix2a (xp_var 1))))) ?_
  refine xb_cons (ρ1 := [some (lineO C ⟨[one], [], m_right one other, m_down one other⟩), some (.fro (enc one)), some (.fro (enc other)), some (.fro (enc (m_across one other))), some (.fro (enc (m_along one other))), none, none, none]) (xs_setF 4 (tp_abs m_abs (tp_sub (tp_ix2b (xp_var 2)) (tp_ix2b (xp_var 1))))) ?_
  refine xb_cons (ρ1 := [some (lineO C ⟨[one], [], m_right one other, m_down one other⟩), some (.fro (enc one)), some (.fro (enc other)), some (.fro (enc (m_across one other))), some (.fro (enc (m_along one other))), some (.fro (enc (m_across one other - m_along one other))), none, none]) (xs_setF 5 (tp_sub (xp_var 3) (xp_var 4))) ?_
  refine xb_cons (ρ1 := R_init C one other (m_ini one other)) (xs_setF 6 (xp_var 1)) ?_
  refine xb_one ?_
  have hrun := m_line_ok hp
  refine xs_while (β := Empty) (R_init C one other) (fun s => !decide (s.here = other)) (fun s => .nx (m_go one other s)) (fun b => b.elim) (fun s => ∃ k, m_run one other k s = some (.nx (m_line one other)) ∧ s.cells.length + k ≤ 200 ∧ s.cps.length + k ≤ 200) (m_ini one other) 100 hrun ⟨100, hrun, (by show 1 + 100 ≤ 200; omega), (by show 0 + 100 ≤ 200; omega)⟩ (fun b => b.elim) (fun s _ => tt_ne (XP.v (xp_var 6)) (XP.v (xp_var 2))) ?_
  rintro s ⟨k, hk, l1, l2⟩ hc
  obtain ⟨k, rfl⟩ : ∃ j, k = j + 1 := by
    cases k with
    | zero => cases hk
    | succ j => exact ⟨j, rfl⟩
  unfold m_run whL at hk
  rw [hc, if_pos rfl] at hk
  refine ⟨?_, fun s' e => by
    cases e
    refine ⟨k, hk, ?_, ?_⟩
    · show (s.cells ++ [_]).length + k ≤ 200
      rw [List.length_append]; simp; omega
    · have := m_next_len (m_ls one other s) s.here s.lead
      have e2 : (m_ls one other s).cps = s.cps := rfl
      rw [e2] at this
      show (m_next (m_ls one other s) s.here s.lead).cps.length + k ≤ 200
      omega⟩
  show XB _ _ _ _ (.nx (R_init C one other (m_go one other s)))
  refine xb_forgets [7] (ρ1 := [some (lineO C (m_ls one other (m_go one other s))), some (.fro (enc one)), some (.fro (enc other)), some (.fro (enc (m_across one other))), some (.fro (enc (m_along one other))), some (.fro (enc (m_go one other s).lead)), some (.fro (enc (m_go one other s).here)), some (.fro (enc (m_step s.lead)))]) ?_ rfl
  refine xb_cons (ρ1 := [some (lineO C (m_next (m_ls one other s) s.here s.lead)), some (.fro (enc one)), some (.fro (enc other)), some (.fro (enc (m_across one other))), some (.fro (enc (m_along one other))), some (.fro (enc s.lead)), some (.fro (enc (m_go one other s).here)), none]) (xs_setM 6 (xx_meth h_Line_next_cell (m_ls one other s, s.here, s.lead) (show s.cps.length < 1000 by omega) (xl_var 0) rfl (xa_cons (xp_var 6) (xa_cons (xp_var 5) xa_nil)))) ?_
  refine xb_cons (ρ1 := [some (lineO C (m_next (m_ls one other s) s.here s.lead)), some (.fro (enc one)), some (.fro (enc other)), some (.fro (enc (m_across one other))), some (.fro (enc (m_along one other))), some (.fro (enc s.lead)), some (.fro (enc (m_go one other s).here)), some (.fro (enc (m_step s.lead)))]) (xs_setM 7 (xx_meth h_Line_step_of (m_next (m_ls one other s) s.here s.lead, s.lead) trivial (xl_var 0) rfl (xa_cons (xp_var 5) xa_nil))) ?_
  refine xb_cons (ρ1 := [some (lineO C (m_next (m_ls one other s) s.here s.lead)), some (.fro (enc one)), some (.fro (enc other)), some (.fro (enc (m_across one other))), some (.fro (enc (m_along one other))), some (.fro (enc (m_go one other s).lead)), some (.fro (enc (m_go one other s).here)), some (.fro (enc (m_step s.lead)))])
    (xs_setF 5 (tp_add (tp_sub (xp_var 5) (tp_mul (tp_mul tp_int (xp_var 4) (.inl (by decide))) (tp_ix2a (xp_var 7)) (.inr (m_step_b s.lead).1))) (tp_mul (tp_mul tp_int (xp_var 3) (.inl (by decide))) (tp_ix2b (xp_var 7)) (.inr (m_step_b s.lead).2)))) ?_
  rw [m_next_ls]
  exact xb_one (xs_exprM (xx_app (xl_fld 0 cl_Line na_Line_cells (xl_var 0)) (xp_var 6) (show s.cells.length < 1000000 by omega)))
/-! crossed, pinched -/
theorem lineO_d (C : Addr) (l : LineS) : (lineO C l).d = .ins C ["cells", "couples", "right", "down"] [enc l.cells, enc l.cps, enc l.right, enc l.down] := by
  unfold lineO
  simp only [O.d, O.ds, oL_d]

def m_at (c s : Cell) : Cell := (c.1 + s.1, c.2 + s.2)
def sh2 (t : Cell) (p : Cell × Cell) : Cell × Cell := (m_at t p.1, m_at t p.2)
def shift (t : Cell) (s : LState) : LState := ⟨s.cells.map (m_at t), s.cps.map (sh2 t), s.lead, m_at t s.here⟩
theorem at_inj {t x y : Cell} : m_at t x = m_at t y ↔ x = y := by
  unfold m_at
  constructor
  · intro h
    have h1 := congrArg Prod.fst h
    have h2 := congrArg Prod.snd h
    dsimp only at h1 h2
    exact Prod.ext (by omega) (by omega)
  · intro h; rw [h]
theorem lt_at (t x y : Cell) : DatumOrd.lt (m_at t x) (m_at t y) = DatumOrd.lt x y := by
  rw [lt_pair, lt_pair]
  unfold m_at
  simp only [G.lt_int]
  by_cases h : x.1 = y.1
  · rw [if_pos h, if_pos (by rw [h])]
    exact decide_eq_decide.mpr (by omega)
  · rw [if_neg h, if_neg (by omega)]
    exact decide_eq_decide.mpr (by omega)
theorem two_at (t x y : Cell) : two (m_at t x) (m_at t y) = sh2 t (two x y) := by
  unfold two sh2
  rw [lt_at]
  split <;> rfl
theorem go_shift (t : Cell) (a d : Int) (s : LState) : m_go t (t.1 + a, t.2 + d) (shift t s) = shift t (m_go (0, 0) (a, d) s) := by
  have e1 : m_right t (t.1 + a, t.2 + d) = m_right (0, 0) (a, d) := by unfold m_right; congr 1; dsimp only; omega
  have e2 : m_down t (t.1 + a, t.2 + d) = m_down (0, 0) (a, d) := by unfold m_down; congr 1; dsimp only; omega
  have e3 : m_across t (t.1 + a, t.2 + d) = m_across (0, 0) (a, d) := by unfold m_across; congr 1; dsimp only; omega
  have e4 : m_along t (t.1 + a, t.2 + d) = m_along (0, 0) (a, d) := by unfold m_along; congr 1; dsimp only; omega
  have e5 : m_there (m_ls t (t.1 + a, t.2 + d) (shift t s)) (m_at t s.here) s.lead = m_at t (m_there (m_ls (0, 0) (a, d) s) s.here s.lead) := by
    unfold m_there m_ls m_at
    simp only [e1, e2]
    rw [Int.add_assoc, Int.add_assoc]
  unfold m_go
  simp only [e3, e4, shift, LState.mk.injEq, List.map_append, List.map_cons, List.map_nil]
  refine ⟨by rw [← e5]; rfl, ?_, trivial, e5⟩
  show (m_next (m_ls t (t.1 + a, t.2 + d) (shift t s)) (m_at t s.here) s.lead).cps = _
  unfold m_next
  rw [e5]
  by_cases h : decide (s.lead = 0) = true
  · rw [if_pos h, if_pos h]
    show s.cps.map (sh2 t) ++ [two (m_at t ((m_there (m_ls (0, 0) (a, d) s) s.here s.lead).1, s.here.2)) (m_at t (s.here.1, (m_there (m_ls (0, 0) (a, d) s) s.here s.lead).2))] = _
    rw [two_at, List.map_append]
    rfl
  · rw [if_neg h, if_neg h]
    rfl
theorem run_shift (t : Cell) (a d : Int) : ∀ (n : Nat) (s s' : LState), m_run (0, 0) (a, d) n s = some (.nx s') → m_run t (t.1 + a, t.2 + d) n (shift t s) = some (.nx (shift t s'))
  | 0, _, _, h => by cases h
  | n + 1, s, s', h => by
    unfold m_run whL at h ⊢
    have e : decide ((shift t s).here = (t.1 + a, t.2 + d)) = decide (s.here = (a, d)) := decide_eq_decide.mpr (at_inj (t := t) (x := s.here) (y := (a, d)))
    rw [e]
    by_cases c : (!decide (s.here = (a, d))) = true
    · rw [if_pos c] at h ⊢
      show whL _ _ n (m_go t (t.1 + a, t.2 + d) (shift t s)) = _
      rw [go_shift]
      exact run_shift t a d n _ _ h
    · rw [if_neg c] at h ⊢
      cases h
      rfl

theorem rng_mem {lo hi x : Int} (h : lo ≤ x ∧ x < hi) : x ∈ rng lo hi := by
  unfold rng
  exact List.mem_map.mpr ⟨(x - lo).toNat, List.mem_range.mpr (by omega), by omega⟩
theorem mem_rng {lo hi x : Int} : x ∈ rng lo hi ↔ lo ≤ x ∧ x < hi := by
  refine ⟨fun h => ?_, rng_mem⟩
  unfold rng at h
  obtain ⟨i, hi, rfl⟩ := List.mem_map.mp h
  have := List.mem_range.mp hi
  omega
theorem ini_shift (t : Cell) (a d : Int) : m_ini t (t.1 + a, t.2 + d) = shift t (m_ini (0, 0) (a, d)) := by
  have e3 : m_across t (t.1 + a, t.2 + d) = m_across (0, 0) (a, d) := by unfold m_across; congr 1; dsimp only; omega
  have e4 : m_along t (t.1 + a, t.2 + d) = m_along (0, 0) (a, d) := by unfold m_along; congr 1; dsimp only; omega
  have e5 : m_at t (0, 0) = t := by unfold m_at; exact Prod.ext (by dsimp only; omega) (by dsimp only; omega)
  unfold m_ini shift
  simp only [e3, e4, List.map_cons, List.map_nil, e5]
/-- the line from (0, 0) -/
def rel (a d : Int) : Option (LO LState Empty) := m_run (0, 0) (a, d) 100 (m_ini (0, 0) (a, d))
def isNx : Option (LO LState Empty) → Bool
  | some (.nx _) => true
  | _ => false
theorem rel_all : (rng (-6) 7).all (fun a => (rng (-6) 7).all fun d => isNx (rel a d)) = true := by decide +kernel
def relS (a d : Int) : LState := match rel a d with
  | some (.nx s) => s
  | _ => m_ini (0, 0) (a, d)
theorem rel_ok (a d : Int) (h : -7 < a ∧ a < 7 ∧ -7 < d ∧ d < 7) : rel a d = some (.nx (relS a d)) := by
  have z := List.all_eq_true.mp (List.all_eq_true.mp rel_all a (rng_mem (by omega))) d (rng_mem (by omega))
  unfold relS
  cases e : rel a d with
  | none => rw [e] at z; cases z
  | some o =>
    cases o with
    | nx s => rfl
    | bk s => rw [e] at z; cases z
    | rt b => cases b
theorem line_at (t : Cell) (a d : Int) (h : -7 < a ∧ a < 7 ∧ -7 < d ∧ d < 7) : m_run t (t.1 + a, t.2 + d) 100 (m_ini t (t.1 + a, t.2 + d)) = some (.nx (shift t (relS a d))) := by
  rw [ini_shift]
  exact run_shift t a d 100 _ _ (rel_ok a d h)
theorem line_rel (one other : Cell) (h : -7 < other.1 - one.1 ∧ other.1 - one.1 < 7 ∧ -7 < other.2 - one.2 ∧ other.2 - one.2 < 7) : LineOk one other ∧ m_line one other = shift one (relS (other.1 - one.1) (other.2 - one.2)) := by
  have z := line_at one (other.1 - one.1) (other.2 - one.2) h
  have e : ((one.1 + (other.1 - one.1), one.2 + (other.2 - one.2)) : Cell) = other := Prod.ext (by dsimp only; omega) (by dsimp only; omega)
  rw [e] at z
  refine ⟨⟨_, z⟩, ?_⟩
  unfold m_line
  rw [z]


/-! _law_cell, _law_drawn -/
def m_cell (s : Scr) (k : Int) : Int := if decide (s.l = []) = true then 7 * k else (atI s.l (k % (s.l.length : Nat))).getD 0 + 6553 * (k / (s.l.length : Nat))
theorem sc_cell : FnScope ["_law_script", "_law_k"] ["_law_script", "_law_k"] (defScope s__law_cell) := ⟨rfl, rfl, rfl, by decide +kernel, rfl, by decide +kernel, by decide +kernel⟩
abbrev sp_cell (K : PySem.W.Frag) : Sp := spP K (fun (y : Scr × Int) => [enc y.1, enc y.2]) (fun y => y.1.l.length ≤ 1000) (fun y => oF (m_cell y.1 y.2))
theorem ok__law_cell (F : FnF K "_law_cell" "_law_cell" s__law_cell f fd) (m_len : mg "len" = none) : FnOk P w K mg base (L2N.CX P w) 1 f fd ["_law_script", "_law_k"] (sp_cell K) := by
  refine def_pure F sc_cell (fun _ => rfl) fun y E hp => ?_
  obtain ⟨s, k⟩ := y
  have hp : s.l.length ≤ 1000 := hp
  refine ⟨rF (m_cell s k), ?_, fits_F⟩
  refine xb_ifR rF (tt_eqS (y := []) (XP.v (xp_var 0)) (XP.v tp_nilL)) (fun _ => xb_ret rF _ (xs_retF (tp_mul tp_int (xp_var 1) (.inl (by decide)))) trivial) (fun _ z => nomatch z) fun hc => ?_
  have hne : s.l ≠ [] := by simpa using hc
  have hlen : 0 < s.l.length := List.length_pos_iff.mpr hne
  have hl2 : (0 : Int) < (s.l.length : Nat) := by omega
  obtain ⟨v, hv⟩ := atI_ok (xs := s.l) (i := k % (s.l.length : Nat)) ⟨Int.emod_nonneg _ (by omega), Int.emod_lt_of_pos _ hl2⟩
  rw [hv]
  exact xb_ret rF _ (xs_retF (tp_add (tp_ixS (xp_var 0) (tp_mod (xp_var 1) (tp_lenS m_len (XP.v (xp_var 0))) hl2) hv) (tp_mul tp_int (tp_div (xp_var 1) (tp_lenS m_len (XP.v (xp_var 0))) ⟨hl2, by omega⟩) (.inl (by decide))))) trivial
def m_dr1 (s : Scr) (k : Int) : Int := (m_cell s k % 2147483563 * 69069 + 104723 * (k + 1)) % 2147483563
def m_dr2 (c : Int) : Int := (c * c + c / 3) % 2147483399
def m_dr3 (many c : Int) : Int := (c * c + c / 7) % 2147483647 / 11 % many
def m_drawn (s : Scr) (k many : Int) : Int := m_dr3 many (m_dr2 (m_dr1 s k))
theorem m_drawn_b (s : Scr) (k : Int) {many : Int} (h : 0 < many) : 0 ≤ m_drawn s k many ∧ m_drawn s k many < many := ⟨Int.emod_nonneg _ (by omega), Int.emod_lt_of_pos _ h⟩
theorem sc_drawn : FnScope ["_law_script", "_law_k", "_law_many", "_law_cell_here"] ["_law_script", "_law_k", "_law_many"] (defScope s__law_drawn) := ⟨rfl, rfl, rfl, by decide +kernel, rfl, by decide +kernel, by decide +kernel⟩
abbrev sp_drawn (K : PySem.W.Frag) : Sp := spP K (fun (y : Scr × Int × Int) => [enc y.1, enc y.2.1, enc y.2.2]) (fun y => y.1.l.length ≤ 1000 ∧ 0 < y.2.2) (fun y => oF (m_drawn y.1 y.2.1 y.2.2))
theorem ok__law_drawn (F : FnF K "_law_drawn" "_law_drawn" s__law_drawn f fd) (h__law_cell : FnG P w K mg base 1 "_law_cell" ["_law_script", "_law_k"] (sp_cell K)) : FnOk P w K mg base (L2N.CX P w) 2 f fd ["_law_script", "_law_k", "_law_many"] (sp_drawn K) := by
  refine def_pure F sc_drawn (fun _ => rfl) fun y E hp => ?_
  obtain ⟨s, k, many⟩ := y
  obtain ⟨hp1, hp2⟩ : s.l.length ≤ 1000 ∧ 0 < many := hp
  refine ⟨rF (m_drawn s k many), ?_, fits_F⟩
  have b1 : 0 ≤ m_dr1 s k ∧ m_dr1 s k < 2147483563 := ⟨Int.emod_nonneg _ (by decide), Int.emod_lt_of_pos _ (by decide)⟩
  have b2 : 0 ≤ m_dr2 (m_dr1 s k) ∧ m_dr2 (m_dr1 s k) < 2147483399 := ⟨Int.emod_nonneg _ (by decide), Int.emod_lt_of_pos _ (by decide)⟩
  refine xb_cons (ρ1 := [some (.fro (enc s)), some (.fro (enc k)), some (.fro (enc many)), some (.fro (enc (m_dr1 s k)))])
    (xs_setF 3 (tp_mod (tp_add (tp_mul (tp_mod (tp_call h__law_cell (s, k) hp1 (xa_cons (xp_var 0) (xa_cons (xp_var 1) xa_nil))) tp_int (by decide)) tp_int (.inr (by decide))) (tp_mul tp_int (tp_add (xp_var 1) tp_int) (.inl (by decide)))) tp_int (by decide))) ?_
  refine xb_cons (ρ1 := [some (.fro (enc s)), some (.fro (enc k)), some (.fro (enc many)), some (.fro (enc (m_dr2 (m_dr1 s k))))])
    (xs_setF 3 (tp_mod (tp_add (tp_mul (xp_var 3) (xp_var 3) (.inl ⟨by omega, by omega⟩)) (tp_div (xp_var 3) tp_int (by decide))) tp_int (by decide))) ?_
  exact xb_ret rF _ (xs_retF (tp_mod (tp_div (tp_mod (tp_add (tp_mul (xp_var 3) (xp_var 3) (.inl ⟨by omega, by omega⟩)) (tp_div (xp_var 3) tp_int (by decide))) tp_int (by decide)) tp_int (by decide)) (xp_var 2) hp2)) trivial

def m_is_on (wide high : Int) (spot : Cell) : Bool := (decide (0 ≤ spot.1) && decide (spot.1 < wide)) && (decide (0 ≤ spot.2) && decide (spot.2 < high))
def m_need_cell (fl : Floor) (c : Cell) : Except Str Unit := if m_is_on fl.a fl.b c = true then .ok () else .error "OffFloor"
def m_is_solid (fl : Floor) (c : Cell) : Except Str Bool := bindE (m_need_cell fl c) fun _ => .ok (memB c fl.c.items)
def m_need_open (fl : Floor) (c : Cell) : Except Str Unit := bindE (m_is_solid fl c) fun k => if k = true then .error "InWall" else .ok ()
def m_all_cells (fl : Floor) : List Cell := (rng 0 (fl.a * fl.b)).map fun at_ => (at_ / fl.b, at_ % fl.b)
def FlB (fl : Floor) : Prop := 0 < fl.a ∧ fl.a ≤ 1000 ∧ 0 < fl.b ∧ fl.b ≤ 1000
theorem FlB.le {fl : Floor} (h : FlB fl) : 0 ≤ fl.a * fl.b ∧ fl.a * fl.b ≤ 1000000 := by
  obtain ⟨h1, h2, h3, h4⟩ := h
  refine ⟨Int.mul_nonneg (by omega) (by omega), ?_⟩
  exact Int.le_trans (Int.mul_le_mul_of_nonneg_right h2 (by omega)) (by omega)
theorem m_all_len {fl : Floor} (h : FlB fl) : (m_all_cells fl).length ≤ 1000000 := by
  have := h.le
  unfold m_all_cells
  rw [List.length_map, rng_len]
  omega
theorem need_on {fl : Floor} {c : Cell} (h : m_is_on fl.a fl.b c = true) : m_need_cell fl c = .ok () := if_pos h
theorem solid_on {fl : Floor} {c : Cell} (h : m_is_on fl.a fl.b c = true) : m_is_solid fl c = .ok (memB c fl.c.items) := by unfold m_is_solid; rw [need_on h]; rfl
theorem open_on {fl : Floor} {c : Cell} (h : m_is_on fl.a fl.b c = true) (h2 : c ∉ fl.c.items) : m_need_open fl c = .ok () := by unfold m_need_open; rw [solid_on h, memB_no.mpr h2]; rfl
theorem sc_is_on : FnScope ["wide", "high", "spot"] ["wide", "high", "spot"] (defScope s_is_on) := ⟨rfl, rfl, rfl, by decide +kernel, rfl, by decide +kernel, by decide +kernel⟩
abbrev sp_is_on (K : PySem.W.Frag) : Sp := spP K (fun (y : Int × Int × Cell) => [enc y.1, enc y.2.1, enc y.2.2]) (fun _ => True) (fun y => oF (m_is_on y.1 y.2.1 y.2.2))
theorem ok_is_on (F : FnF K "is_on" "is_on" s_is_on f fd) : FnOk P w K mg base (L2N.CX P w) 1 f fd ["wide", "high", "spot"] (sp_is_on K) := by
  refine def_pure F sc_is_on (fun _ => rfl) fun y E hp => ?_
  obtain ⟨wide, high, spot⟩ := y
  refine ⟨rF (m_is_on wide high spot), ?_, fits_F⟩
  exact xb_ret rF _ (xs_retF (xp_and (tp_ch oc_le oc_lt tp_int (tp_ix2a (xp_var 2)) (xp_var 0)) fun _ => xp_one (tp_ch oc_le oc_lt tp_int (tp_ix2b (xp_var 2)) (xp_var 1)))) trivial
theorem sc_need_cell : FnScope ["floor", "cell"] ["floor", "cell"] (defScope s_need_cell) := ⟨rfl, rfl, rfl, by decide +kernel, rfl, by decide +kernel, by decide +kernel⟩
abbrev sp_need_cell (K : PySem.W.Frag) : Sp := spP K (fun (y : Floor × Cell) => [enc y.1, enc y.2]) (fun _ => True) (fun y => oE oF (m_need_cell y.1 y.2))
theorem ok_need_cell (F : FnF K "need_cell" "need_cell" s_need_cell f fd) (h_is_on : FnG P w K mg base 1 "is_on" ["wide", "high", "spot"] (sp_is_on K)) (x_OffFloor : ExcF K "OffFloor") (g_OffFloor : mg "OffFloor" = some (.ref (He.ga K "OffFloor"))) : FnOk P w K mg base (L2N.CX P w) 2 f fd ["floor", "cell"] (sp_need_cell K) := by
  refine def_pure F sc_need_cell (fun _ => rfl) fun y E hp => ?_
  obtain ⟨fl, c⟩ := y
  cases ho : m_is_on fl.a fl.b c with
  | true =>
    refine ⟨.nx [some (.fro (enc fl)), some (.fro (enc c))], ?_, .nx (by show _ = oE oF (m_need_cell fl c); rw [need_on ho]; rfl)⟩
    exact xb_one (xs_if (k := false) (XT.cast (xt_not (tt_b (tp_call h_is_on (fl.a, fl.b, c) trivial (xa_cons (tp_ix3a (xp_var 0)) (xa_cons (tp_ix3b (xp_var 0)) (xa_cons (xp_var 1) xa_nil)))))) (by rw [ho]; rfl)) (fun z => nomatch z) fun _ => xb_nil)
  | false =>
    refine ⟨.ex "OffFloor" none, ?_, .ex (by show _ = oE oF (m_need_cell fl c); unfold m_need_cell; rw [ho]; rfl)⟩
    exact xb_one (xs_if (k := true) (XT.cast (xt_not (tt_b (tp_call h_is_on (fl.a, fl.b, c) trivial (xa_cons (tp_ix3a (xp_var 0)) (xa_cons (tp_ix3b (xp_var 0)) (xa_cons (xp_var 1) xa_nil)))))) (by rw [ho]; rfl)) (fun _ => xb_one (xs_raise x_OffFloor g_OffFloor)) fun z => nomatch z)
theorem sc_is_solid : FnScope ["floor", "cell"] ["floor", "cell"] (defScope s_is_solid) := ⟨rfl, rfl, rfl, by decide +kernel, rfl, by decide +kernel, by decide +kernel⟩
abbrev sp_is_solid (K : PySem.W.Frag) : Sp := spP K (fun (y : Floor × Cell) => [enc y.1, enc y.2]) (fun _ => True) (fun y => oE oF (m_is_solid y.1 y.2))
theorem ok_is_solid (F : FnF K "is_solid" "is_solid" s_is_solid f fd) (h_need_cell : FnG P w K mg base 2 "need_cell" ["floor", "cell"] (sp_need_cell K)) : FnOk P w K mg base (L2N.CX P w) 3 f fd ["floor", "cell"] (sp_is_solid K) := by
  refine def_pure F sc_is_solid (fun _ => rfl) fun y E hp => ?_
  obtain ⟨fl, c⟩ := y
  refine ⟨rE rF (m_is_solid fl c), ?_, fits_EF _⟩
  exact xb_doE rF (fun _ => .ok (memB c fl.c.items)) (xx_callE h_need_cell (fl, c) trivial (xa_cons (xp_var 0) (xa_cons (xp_var 1) xa_nil))) fun _ _ => xb_ret (rE rF) (.ok (memB c fl.c.items)) (xs_rt (tp_memT (XP.v (xp_var 1)) (XP.v (tp_ix3c (xp_var 0))))) trivial
theorem sc_all_cells : FnScope ["floor", "wide", "high", "walls", "at"] ["floor"] (defScope s_all_cells) := ⟨rfl, rfl, rfl, by decide +kernel, rfl, by decide +kernel, by decide +kernel⟩
abbrev sp_all_cells (K : PySem.W.Frag) : Sp := spP K (fun (y : Floor) => [enc y]) FlB (fun y => oF (m_all_cells y))
theorem ok_all_cells (F : FnF K "all_cells" "all_cells" s_all_cells f fd) (m_range : mg "range" = none) : FnOk P w K mg base (L2N.CX P w) 1 f fd ["floor"] (sp_all_cells K) := by
  refine def_pure F sc_all_cells (fun _ => rfl) fun y E hp => ?_
  have hb := hp.le
  obtain ⟨wide, high, walls⟩ := y
  obtain ⟨h1, h2, h3, h4⟩ : 0 < wide ∧ wide ≤ 1000 ∧ 0 < high ∧ high ≤ 1000 := hp
  dsimp only at hb
  refine ⟨rF (m_all_cells ⟨wide, high, walls⟩), ?_, fits_F⟩
  exact xb_cons (ρ1 := [some (.fro (enc (T3.mk wide high walls))), some (.fro (enc wide)), some (.fro (enc high)), some (.fro (enc walls)), none])
    (xs_unpack (tg_t (n := 3) (tgs_1 (tg_n 1) (tgs_1 (tg_n 2) (tgs_1 (tg_n 3) tgs_0)))) (xp_var 0) (eg_tup (egs_cons (eg_name 1) (egs_cons (eg_name 2) (egs_cons (eg_name 3) egs_nil)))))
    (xb_ret rF _ (xs_retF (tp_lcm (rng 0 (wide * high)) enc (fun at_ => ((at_ / high, at_ % high) : Cell)) [("at", 4)] _
      (xi_rng1 m_range (tp_mul (xp_var 1) (xp_var 2) (.inl ⟨by omega, by omega⟩)) (by omega)) (tg_n 4) to_name (fun x hx => eg_name 4)
      (fun x hx => tp_2 (xa_cons (tp_div (xp_var 4) (xp_var 2) (by omega)) (xa_cons (tp_mod (xp_var 4) (xp_var 2) (by omega)) xa_nil))) (by rw [rng_len]; omega))) trivial)
def FlL (fl : Floor) : Prop := 0 < fl.a ∧ fl.a ≤ 6 ∧ 0 < fl.b ∧ fl.b ≤ 6
theorem FlL.b {fl : Floor} (h : FlL fl) : FlB fl := ⟨h.1, by have := h.2.1; omega, h.2.2.1, by have := h.2.2.2; omega⟩
theorem on_iff {a b : Int} {c : Cell} : m_is_on a b c = true ↔ 0 ≤ c.1 ∧ c.1 < a ∧ 0 ≤ c.2 ∧ c.2 < b := by
  unfold m_is_on
  simp only [Bool.and_eq_true, decide_eq_true_eq]
  omega
theorem mem_all {fl : Floor} (h : 0 < fl.b) {c : Cell} : c ∈ m_all_cells fl ↔ m_is_on fl.a fl.b c = true := by
  rw [on_iff]
  unfold m_all_cells
  constructor
  · intro hc
    obtain ⟨i, hi, rfl⟩ := List.mem_map.mp hc
    have hi := mem_rng.mp hi
    dsimp only
    refine ⟨Int.ediv_nonneg hi.1 (by omega), Int.ediv_lt_of_lt_mul h hi.2, Int.emod_nonneg _ (by omega), Int.emod_lt_of_pos _ h⟩
  · rintro ⟨h1, h2, h3, h4⟩
    refine List.mem_map.mpr ⟨c.1 * fl.b + c.2, mem_rng.mpr ⟨Int.add_nonneg (Int.mul_nonneg h1 (by omega)) h3, ?_⟩, ?_⟩
    · have : (c.1 + 1) * fl.b ≤ fl.a * fl.b := Int.mul_le_mul_of_nonneg_right (by omega) (by omega)
      rw [Int.add_mul] at this
      omega
    · refine Prod.ext ?_ ?_
      · show (c.1 * fl.b + c.2) / fl.b = c.1
        rw [Int.add_comm, Int.add_mul_ediv_right _ _ (by omega), Int.ediv_eq_zero_of_lt h3 h4]; omega
      · show (c.1 * fl.b + c.2) % fl.b = c.2
        rw [Int.add_comm, Int.add_mul_emod_self_right, Int.emod_eq_of_lt h3 h4]
theorem on_line {fl : Floor} (h : FlL fl) {c d : Cell} (hc : m_is_on fl.a fl.b c = true) (hd : m_is_on fl.a fl.b d = true) : LineOk c d ∧ m_line c d = shift c (relS (d.1 - c.1) (d.2 - c.2)) := by
  rw [on_iff] at hc hd
  obtain ⟨h1, h2, h3, h4⟩ := h
  exact line_rel c d (by omega)
/-! mirrored, flipped, without a wall -/
def m_mirrored (fl : Floor) : Floor := ⟨fl.a, fl.b, ⟨sortT (fl.c.items.map fun p => (fl.a - 1 - p.1, p.2))⟩⟩
def m_flipped (fl : Floor) : Floor := ⟨fl.b, fl.a, ⟨sortT (fl.c.items.map fun p => (p.2, p.1))⟩⟩
def m_without (fl : Floor) (c : Cell) : Floor := ⟨fl.a, fl.b, ⟨fl.c.items.filter fun v => !decide (v = c)⟩⟩
def FlW (fl : Floor) : Prop := fl.c.items.length ≤ 1000000
theorem sc_without_solid : FnScope ["floor", "cell", "wall"] ["floor", "cell"] (defScope s_without_solid) := ⟨rfl, rfl, rfl, by decide +kernel, rfl, by decide +kernel, by decide +kernel⟩
abbrev sp_without_solid (K : PySem.W.Frag) : Sp := spP K (fun (y : Floor × Cell) => [enc y.1, enc y.2]) (fun y => FlW y.1) (fun y => oE oF (bindE (m_need_cell y.1 y.2) fun _ => .ok (m_without y.1 y.2)))
theorem ok_without_solid (F : FnF K "without_solid" "without_solid" s_without_solid f fd) (m_tuple : mg "tuple" = none) (h_need_cell : FnG P w K mg base 2 "need_cell" ["floor", "cell"] (sp_need_cell K)) : FnOk P w K mg base (L2N.CX P w) 3 f fd ["floor", "cell"] (sp_without_solid K) := by
  refine def_pure F sc_without_solid (fun _ => rfl) fun y E hp => ?_
  obtain ⟨⟨wide, high, walls⟩, c⟩ := y
  refine ⟨rE rF (bindE (m_need_cell ⟨wide, high, walls⟩ c) fun _ => .ok (m_without ⟨wide, high, walls⟩ c)), ?_, fits_EF _⟩
  refine xb_doE rF (fun _ => .ok (m_without ⟨wide, high, walls⟩ c)) (xx_callE h_need_cell (⟨wide, high, walls⟩, c) trivial (xa_cons (xp_var 0) (xa_cons (xp_var 1) xa_nil))) fun _ _ => xb_ret (rE rF) (.ok (m_without ⟨wide, high, walls⟩ c)) (xs_retF ?_) trivial
  exact XP.cast (xp_binF (ob_catT (ds := [enc wide, enc high]) (es := [enc (Tup.mk (walls.items.filter fun v => !decide (v = c)))]) (by show 3 ≤ 1000000; omega)) (XP.cast (xp_slT (ds := [enc wide, enc high, enc walls]) (hi := some 2) (xp_var 0) xo_none (xo_some xp_int)) rfl)
    (xp_tup (xa_cons (tp_tupL m_tuple (XP.cast (tp_lc walls.items enc (fun v => !decide (v = c)) (fun v : Cell => v) [("wall", 2)] _ (xi_tup (tp_ix3c (p := T3.mk wide high walls) (xp_var 0))) (tg_n 2) to_name (fun v hv => eg_name 2) (fun v hv => tt_ne (XP.v (xp_var 2)) (XP.v (xp_var 1))) (fun v hv _ => xp_var 2) hp) (by rw [List.map_id']))) xa_nil))) rfl

def m_shutcol (s : Scr) (at_ rate high x : Int) : List Cell := ((rng 0 high).filter fun y => decide (m_drawn s (at_ + 3 + 8 * x + y) rate = 0)).map fun y => (x, y)
def m_rates : List Int := [2, 3, 3, 5, 9]
def m_rate (s : Scr) (at_ : Int) : Int := (atI m_rates (m_drawn s (at_ + 2) 5)).getD 2
def m_wide (s : Scr) (at_ most : Int) : Int := 1 + m_drawn s at_ most
def m_high (s : Scr) (at_ most : Int) : Int := 1 + m_drawn s (at_ + 1) most
def m_shuts (s : Scr) (at_ most : Int) : List Cell := (rng 0 (m_wide s at_ most)).foldl (fun c x => c ++ m_shutcol s at_ (m_rate s at_) (m_high s at_ most) x) []
def m_law_floor (s : Scr) (at_ most : Int) : Floor := ⟨m_wide s at_ most, m_high s at_ most, ⟨m_shuts s at_ most⟩⟩
theorem rate_ok (s : Scr) (at_ : Int) : atI m_rates (m_drawn s (at_ + 2) 5) = some (m_rate s at_) ∧ 0 < m_rate s at_ := by
  have h := m_drawn_b s (at_ + 2) (many := 5) (by decide)
  have e : m_drawn s (at_ + 2) 5 = 0 ∨ m_drawn s (at_ + 2) 5 = 1 ∨ m_drawn s (at_ + 2) 5 = 2 ∨ m_drawn s (at_ + 2) 5 = 3 ∨ m_drawn s (at_ + 2) 5 = 4 := by omega
  unfold m_rate
  rcases e with e | e | e | e | e <;> rw [e] <;> exact ⟨rfl, by decide⟩
theorem wide_b (s : Scr) (at_ : Int) {most : Int} (h : 0 < most) : 0 < m_wide s at_ most ∧ m_wide s at_ most ≤ most := by
  have := m_drawn_b s at_ h
  unfold m_wide; omega
theorem high_b (s : Scr) (at_ : Int) {most : Int} (h : 0 < most) : 0 < m_high s at_ most ∧ m_high s at_ most ≤ most := by
  have := m_drawn_b s (at_ + 1) h
  unfold m_high; omega
theorem shutcol_len (s : Scr) (at_ rate high x : Int) : (m_shutcol s at_ rate high x).length ≤ high.toNat := by
  unfold m_shutcol
  rw [List.length_map]
  refine Nat.le_trans (List.length_filter_le _ _) ?_
  rw [rng_len]; omega
theorem foldl_app_len {α β : Type} (g : β → List α) (n : Nat) (h : ∀ x, (g x).length ≤ n) : ∀ (xs : List β) (c : List α), (xs.foldl (fun c x => c ++ g x) c).length ≤ c.length + n * xs.length
  | [], c => by simp
  | x :: xs, c => by
    have z := foldl_app_len g n h xs (c ++ g x)
    have := h x
    rw [List.foldl_cons, List.length_cons, Nat.mul_add]
    rw [List.length_append] at z
    omega
theorem mem_foldl_app {α β : Type} (g : β → List α) (v : α) : ∀ (xs : List β) (c : List α), v ∈ xs.foldl (fun c x => c ++ g x) c ↔ v ∈ c ∨ ∃ x ∈ xs, v ∈ g x
  | [], c => by simp
  | x :: xs, c => by
    rw [List.foldl_cons, mem_foldl_app g v xs (c ++ g x), List.mem_append]
    constructor
    · rintro ((h | h) | ⟨y, h1, h2⟩)
      · exact .inl h
      · exact .inr ⟨x, by simp, h⟩
      · exact .inr ⟨y, by simp [h1], h2⟩
    · rintro (h | ⟨y, h1, h2⟩)
      · exact .inl (.inl h)
      · rcases List.mem_cons.mp h1 with rfl | h1
        · exact .inl (.inr h2)
        · exact .inr ⟨y, h1, h2⟩
theorem shuts_on (s : Scr) (at_ most : Int) : ∀ c ∈ m_shuts s at_ most, m_is_on (m_wide s at_ most) (m_high s at_ most) c = true := by
  intro c h
  unfold m_shuts at h
  rcases (mem_foldl_app _ _ _ _).mp h with h | ⟨x, hx, h⟩
  · cases h
  · have hx := mem_rng.mp hx
    unfold m_shutcol at h
    obtain ⟨y, hy, rfl⟩ := List.mem_map.mp h
    have hy := mem_rng.mp (List.mem_filter.mp hy).1
    exact on_iff.mpr ⟨hx.1, hx.2, hy.1, hy.2⟩
theorem shuts_len (s : Scr) (at_ most : Int) (h : 0 < most ∧ most ≤ 100) : (m_shuts s at_ most).length ≤ 10000 := by
  have h1 := wide_b s at_ h.1
  have h2 := high_b s at_ h.1
  have z := foldl_app_len (fun x => m_shutcol s at_ (m_rate s at_) (m_high s at_ most) x) 100 (fun x => Nat.le_trans (shutcol_len _ _ _ _ _) (by omega)) (rng 0 (m_wide s at_ most)) []
  rw [rng_len] at z
  unfold m_shuts
  simp only [List.length_nil] at z
  omega
def m_open (fl : Floor) : List Cell := (m_all_cells fl).filter fun c => !memB c fl.c.items
theorem m_open_len {fl : Floor} (h : FlB fl) : (m_open fl).length ≤ 1000000 := Nat.le_trans (List.length_filter_le _ _) (m_all_len h)
theorem mem_open {fl : Floor} (h : 0 < fl.b) {c : Cell} : c ∈ m_open fl ↔ m_is_on fl.a fl.b c = true ∧ c ∉ fl.c.items := by
  unfold m_open
  rw [List.mem_filter, mem_all h, Bool.not_eq_true', memB_no]
abbrev NLF : List Str := ["_law_script", "_law_at", "_law_most", "_law_wide", "_law_high", "_law_rate", "_law_shuts", "_law_x", "_law_y"]
theorem sc__law_floor : FnScope NLF ["_law_script", "_law_at", "_law_most"] (defScope s__law_floor) := ⟨rfl, rfl, rfl, by decide +kernel, rfl, by decide +kernel, by decide +kernel⟩
abbrev sp__law_floor (K : PySem.W.Frag) : Sp := spP K (fun (y : Scr × Int × Int) => [enc y.1, enc y.2.1, enc y.2.2]) (fun y => y.1.l.length ≤ 1000 ∧ 0 < y.2.2 ∧ y.2.2 ≤ 100) (fun y => oF (m_law_floor y.1 y.2.1 y.2.2))
def R_lf (s : Scr) (at_ most : Int) (c : List Cell) : G.Env := [some (.fro (enc s)), some (.fro (enc at_)), some (.fro (enc most)), some (.fro (enc (m_wide s at_ most))), some (.fro (enc (m_high s at_ most))), some (.fro (enc (m_rate s at_))), some (oL c), none, none]
theorem ok__law_floor (F : FnF K "_law_floor" "_law_floor" s__law_floor f fd) (m_range : mg "range" = none) (m_tuple : mg "tuple" = none) (h__law_drawn : FnG P w K mg base 2 "_law_drawn" ["_law_script", "_law_k", "_law_many"] (sp_drawn K)) : FnOk P w K mg base (L2N.CX P w) 3 f fd ["_law_script", "_law_at", "_law_most"] (sp__law_floor K) := by
  refine def_pure F sc__law_floor (fun _ => rfl) fun y E hp => ?_
  obtain ⟨s, at_, most⟩ := y
  obtain ⟨hl, h0, h1⟩ : s.l.length ≤ 1000 ∧ 0 < most ∧ most ≤ 100 := hp
  have wb := wide_b s at_ h0
  have hb := high_b s at_ h0
  obtain ⟨r1, r2⟩ := rate_ok s at_
  refine ⟨rF (m_law_floor s at_ most), ?_, fits_F⟩
  refine xb_cons (ρ1 := [some (.fro (enc s)), some (.fro (enc at_)), some (.fro (enc most)), some (.fro (enc (m_wide s at_ most))), none, none, none, none, none]) (xs_setF 3 (tp_add tp_int (tp_call h__law_drawn (s, at_, most) ⟨hl, h0⟩ (xa_cons (xp_var 0) (xa_cons (xp_var 1) (xa_cons (xp_var 2) xa_nil)))))) ?_
  refine xb_cons (ρ1 := [some (.fro (enc s)), some (.fro (enc at_)), some (.fro (enc most)), some (.fro (enc (m_wide s at_ most))), some (.fro (enc (m_high s at_ most))), none, none, none, none]) (xs_setF 4 (tp_add tp_int (tp_call h__law_drawn (s, at_ + 1, most) ⟨hl, h0⟩ (xa_cons (xp_var 0) (xa_cons (tp_add (xp_var 1) tp_int) (xa_cons (xp_var 2) xa_nil)))))) ?_
  refine xb_cons (ρ1 := [some (.fro (enc s)), some (.fro (enc at_)), some (.fro (enc most)), some (.fro (enc (m_wide s at_ most))), some (.fro (enc (m_high s at_ most))), some (.fro (enc (m_rate s at_))), none, none, none])
    (xs_setF 5 (tp_ixL (xs := m_rates) (xp_lst (xa_cons tp_int (xa_cons tp_int (xa_cons tp_int (xa_cons tp_int (xa_cons tp_int xa_nil))))) (by show 5 ≤ 1000000; omega)) (tp_call h__law_drawn (s, at_ + 2, 5) ⟨hl, by dsimp only; decide⟩ (xa_cons (xp_var 0) (xa_cons (tp_add (xp_var 1) tp_int) (xa_cons tp_int xa_nil)))) r1)) ?_
  refine xb_cons (ρ1 := R_lf s at_ most []) (xs_setM 6 (xx_lst xa_nil)) ?_
  refine xb_cons (ρ1 := R_lf s at_ most (m_shuts s at_ most)) (xs_forN (rng 0 (m_wide s at_ most)) enc (R_lf s at_ most) (fun c x => c ++ m_shutcol s at_ (m_rate s at_) (m_high s at_ most) x) (fun i c => c.length ≤ 100 * i) (fun c x => (R_lf s at_ most c).set 7 (some (.fro (enc x)))) [] (xi_rng1 m_range (xp_var 3) (by omega)) (tg_n 7) (fun c x => eg_name 7) (by simp) fun i c x hx hI => ⟨?_, ?_⟩) ?_
  · have hi : i < 100 := by
      have h1 := (List.getElem?_eq_some_iff.mp hx).1
      rw [rng_len] at h1
      omega
    refine xb_forgets [7] (ρ1 := (R_lf s at_ most (c ++ m_shutcol s at_ (m_rate s at_) (m_high s at_ most) x)).set 7 (some (.fro (enc x)))) ?_ rfl
    exact xb_one (xs_exprM (xx_ext (xl_var 6) (tp_lc (rng 0 (m_high s at_ most)) enc (fun y => decide (m_drawn s (at_ + 3 + 8 * x + y) (m_rate s at_) = 0)) (fun y => ((x, y) : Cell)) [("_law_y", 8)] _ (xi_rng1 m_range (xp_var 4) (by omega)) (tg_n 8) to_name (fun y hy => eg_name 8)
      (fun y hy => tt_eq (XP.v (tp_call h__law_drawn (s, at_ + 3 + 8 * x + y, m_rate s at_) ⟨hl, r2⟩ (xa_cons (xp_var 0) (xa_cons (tp_add (tp_add (tp_add (xp_var 1) tp_int) (tp_mul tp_int (xp_var 7) (.inl (by decide)))) (xp_var 8)) (xa_cons (xp_var 5) xa_nil))))) (XP.v tp_int))
      (fun y hy _ => tp_2 (xa_cons (xp_var 7) (xa_cons (xp_var 8) xa_nil))) (by rw [rng_len]; omega)) (by have := shutcol_len s at_ (m_rate s at_) (m_high s at_ most) x; unfold m_shutcol at this; omega)))
  · have := shutcol_len s at_ (m_rate s at_) (m_high s at_ most) x
    show (c ++ _).length ≤ _
    rw [List.length_append]; omega
  refine xb_freeze 6 (o := oL (m_shuts s at_ most)) rfl ?_
  rw [oL_d]
  exact xb_ret rF (m_law_floor s at_ most) (xs_retF (tp_3 (p := m_wide s at_ most) (q := m_high s at_ most) (r := Tup.mk (m_shuts s at_ most)) (xa_cons (xp_var 3) (xa_cons (xp_var 4) (xa_cons (tp_tupL m_tuple (xp_var 6)) xa_nil))))) trivial
theorem sc__law_cells : FnScope ["_law_floor_here", "_law_at"] ["_law_floor_here"] (defScope s__law_cells) := ⟨rfl, rfl, rfl, by decide +kernel, rfl, by decide +kernel, by decide +kernel⟩
abbrev sp__law_cells (K : PySem.W.Frag) : Sp := spP K (fun (y : Floor) => [enc y]) FlB (fun y => oF (m_all_cells y))
theorem ok__law_cells (F : FnF K "_law_cells" "_law_cells" s__law_cells f fd) (m_range : mg "range" = none) : FnOk P w K mg base (L2N.CX P w) 1 f fd ["_law_floor_here"] (sp__law_cells K) := by
  refine def_pure F sc__law_cells (fun _ => rfl) fun y E hp => ?_
  have hb := hp.le
  obtain ⟨wide, high, walls⟩ := y
  obtain ⟨h1, h2, h3, h4⟩ : 0 < wide ∧ wide ≤ 1000 ∧ 0 < high ∧ high ≤ 1000 := hp
  dsimp only at hb
  refine ⟨rF (m_all_cells ⟨wide, high, walls⟩), ?_, fits_F⟩
  exact xb_ret rF _ (xs_retF (tp_lcm (rng 0 (wide * high)) enc (fun at_ => ((at_ / high, at_ % high) : Cell)) [("_law_at", 1)] _
      (xi_rng1 m_range (tp_mul (tp_ix3a (p := T3.mk wide high walls) (xp_var 0)) (tp_ix3b (p := T3.mk wide high walls) (xp_var 0)) (.inl ⟨by first | omega | (dsimp only; omega), by first | omega | (dsimp only; omega)⟩)) (by first | omega | (dsimp only; omega))) (tg_n 1) to_name (fun x hx => eg_name 1)
      (fun x hx => tp_2 (xa_cons (tp_div (xp_var 1) (tp_ix3b (p := T3.mk wide high walls) (xp_var 0)) (by first | omega | (dsimp only; omega))) (xa_cons (tp_mod (xp_var 1) (tp_ix3b (p := T3.mk wide high walls) (xp_var 0)) (by first | omega | (dsimp only; omega))) xa_nil))) (by rw [rng_len]; omega))) trivial
theorem sc__law_open : FnScope ["_law_floor_here", "_law_cell_here"] ["_law_floor_here"] (defScope s__law_open) := ⟨rfl, rfl, rfl, by decide +kernel, rfl, by decide +kernel, by decide +kernel⟩
abbrev sp__law_open (K : PySem.W.Frag) : Sp := spP K (fun (y : Floor) => [enc y]) FlB (fun y => oF (m_open y))
theorem ok__law_open (F : FnF K "_law_open" "_law_open" s__law_open f fd) (h__law_cells : FnG P w K mg base 1 "_law_cells" ["_law_floor_here"] (sp__law_cells K)) : FnOk P w K mg base (L2N.CX P w) 2 f fd ["_law_floor_here"] (sp__law_open K) := by
  refine def_pure F sc__law_open (fun _ => rfl) fun fl E hp => ?_
  refine ⟨rF (m_open fl), ?_, fits_F⟩
  exact xb_ret rF _ (xs_retF (XP.cast (tp_lc (m_all_cells fl) enc (fun v => !memB v fl.c.items) (fun v : Cell => v) [("_law_cell_here", 1)] _ (xi_lt (tp_call h__law_cells fl hp (xa_cons (xp_var 0) xa_nil))) (tg_n 1) to_name (fun v hv => eg_name 1) (fun v hv => tt_nmemT (XP.v (xp_var 1)) (XP.v (tp_ix3c (xp_var 0)))) (fun v hv _ => xp_var 1) (m_all_len hp)) (by rw [List.map_id']; rfl))) trivial

def lineD (C : Addr) (l : LineS) : D := .ins C ["cells", "couples", "right", "down"] [enc l.cells, enc l.cps, enc l.right, enc l.down]
def m_squeezed (fl : Floor) (l : LineS) : Bool := (l.cps.map fun p => memB p.1 fl.c.items && memB p.2 fl.c.items).any id
def m_free (fl : Floor) (l : LineS) (cells : List Cell) : Bool := (!(cells.map fun c => memB c fl.c.items).any id) && !m_squeezed fl l
def m_lso (one other : Cell) : LineS := m_ls one other (m_line one other)
def m_looks (fl : Floor) (one other : Cell) : Bool := m_free fl (m_lso one other) (m_line one other).cells
def m_sees (fl : Floor) (one other : Cell) : Except Str Bool := bindE (m_need_cell fl one) fun _ => bindE (m_need_cell fl other) fun _ => .ok (m_looks fl one other)
def m_spots (fl : Floor) (cell other : Cell) : Bool := m_free fl (m_lso cell other) (cutL (m_line cell other).cells none (some (-1)))
def m_seen (fl : Floor) (cell : Cell) : List Cell := (m_all_cells fl).filter (m_spots fl cell)
def m_seen_from (fl : Floor) (cell : Cell) : Except Str (List Cell) := bindE (m_need_open fl cell) fun _ => .ok (m_seen fl cell)
def m_field (fl : Floor) (cell : Cell) : List Cell := (m_seen fl cell).filter fun c => !memB c fl.c.items
theorem sees_on {fl : Floor} {c d : Cell} (hc : m_is_on fl.a fl.b c = true) (hd : m_is_on fl.a fl.b d = true) : m_sees fl c d = .ok (m_looks fl c d) := by unfold m_sees; rw [need_on hc, need_on hd]; rfl
theorem seen_on {fl : Floor} {c : Cell} (hc : m_is_on fl.a fl.b c = true) (h2 : c ∉ fl.c.items) : m_seen_from fl c = .ok (m_seen fl c) := by unfold m_seen_from; rw [open_on hc h2]; rfl
theorem open_is {fl : Floor} {c : Cell} {u : Unit} (h : m_need_open fl c = .ok u) : m_is_on fl.a fl.b c = true ∧ c ∉ fl.c.items := by
  unfold m_need_open m_is_solid m_need_cell at h
  cases ho : m_is_on fl.a fl.b c with
  | false => rw [ho] at h; cases h
  | true =>
    rw [ho] at h
    refine ⟨rfl, fun hm => ?_⟩
    rw [memB_iff.mpr hm] at h
    cases h
theorem foldl_filter {α : Type} (p : α → Bool) : ∀ (xs s : List α), xs.foldl (fun s x => if p x = true then s ++ [x] else s) s = s ++ xs.filter p
  | [], s => by simp
  | x :: xs, s => by
    rw [List.foldl_cons, foldl_filter p xs, List.filter_cons]
    by_cases h : p x = true
    · rw [if_pos h, if_pos h, List.append_assoc]; rfl
    · rw [if_neg h, if_neg h]
theorem sc_is_squeezed : FnScope ["floor", "line", "one", "other"] ["floor", "line"] (defScope s_is_squeezed) := ⟨rfl, rfl, rfl, by decide +kernel, rfl, by decide +kernel, by decide +kernel⟩
abbrev sp_is_squeezed (K : PySem.W.Frag) (C : Addr) : Sp := spP K (fun (y : Floor × LineS) => [enc y.1, lineD C y.2]) (fun y => y.2.cps.length ≤ 1000000) (fun y => oF (m_squeezed y.1 y.2))
theorem ok_is_squeezed {C : Addr} (F : FnF K "is_squeezed" "is_squeezed" s_is_squeezed f fd) (m_any : mg "any" = none) (cl_Line : Cls K C) (na_Line_couples : NoAttr K C "couples") : FnOk P w K mg base (L2N.CX P w) 1 f fd ["floor", "line"] (sp_is_squeezed K C) := by
  refine def_pure F sc_is_squeezed (fun _ => rfl) fun y E hp => ?_
  obtain ⟨fl, l⟩ := y
  refine ⟨rF (m_squeezed fl l), ?_, fits_F⟩
  exact xb_ret rF _ (xs_retF (tp_any m_any (tp_lcm l.cps enc (fun p => memB p.1 fl.c.items && memB p.2 fl.c.items) [("one", 2), ("other", 3)] _ (xi_lst (xp_fld (d := enc l.cps) 1 cl_Line na_Line_couples (xp_var 1))) (tg_t (n := 2) (tgs_1 (tg_n 2) (tgs_1 (tg_n 3) tgs_0))) (to_tup (tos_cons (by decide) (tos_cons (by decide) tos_nil)))
    (fun p hc => eg_tup (egs_cons (eg_name 2) (egs_cons (eg_name 3) egs_nil))) (fun p hc => tp_and (tp_memT (u := p.1) (xs := fl.c) (XP.v (xp_var 2)) (XP.v (tp_ix3c (xp_var 0)))) fun _ => tp_one (tp_memT (u := p.2) (xs := fl.c) (XP.v (xp_var 3)) (XP.v (tp_ix3c (xp_var 0))))) hp))) trivial
theorem sc_is_free : FnScope ["floor", "line", "cells", "cell"] ["floor", "line", "cells"] (defScope s_is_free) := ⟨rfl, rfl, rfl, by decide +kernel, rfl, by decide +kernel, by decide +kernel⟩
abbrev sp_is_free (K : PySem.W.Frag) (C : Addr) : Sp := spP K (fun (y : Floor × LineS × List Cell) => [enc y.1, lineD C y.2.1, enc y.2.2]) (fun y => y.2.1.cps.length ≤ 1000000 ∧ y.2.2.length ≤ 1000000) (fun y => oF (m_free y.1 y.2.1 y.2.2))
theorem ok_is_free {C : Addr} (F : FnF K "is_free" "is_free" s_is_free f fd) (m_any : mg "any" = none) (h_is_squeezed : FnG P w K mg base 1 "is_squeezed" ["floor", "line"] (sp_is_squeezed K C)) : FnOk P w K mg base (L2N.CX P w) 2 f fd ["floor", "line", "cells"] (sp_is_free K C) := by
  refine def_pure F sc_is_free (fun _ => rfl) fun y E hp => ?_
  obtain ⟨fl, l, cells⟩ := y
  refine ⟨rF (m_free fl l cells), ?_, fits_F⟩
  exact xb_ret rF _ (xs_retF (tp_and (tp_not (tp_any m_any (tp_lcm cells enc (fun c => memB c fl.c.items) [("cell", 3)] _ (xi_lst (xp_var 2)) (tg_n 3) to_name (fun c hc => eg_name 3) (fun c hc => tp_memT (u := c) (xs := fl.c) (XP.v (xp_var 3)) (XP.v (tp_ix3c (xp_var 0)))) hp.2)))
    fun _ => tp_one (tp_not (tp_call h_is_squeezed (fl, l) hp.1 (xa_cons (xp_var 0) (xa_cons (xp_var 1) xa_nil)))))) trivial
theorem m_run_len (one other : Cell) : ∀ (n : Nat) (s s' : LState), m_run one other n s = some (.nx s') → s'.cells.length ≤ s.cells.length + n ∧ s'.cps.length ≤ s.cps.length + n
  | 0, _, _, h => by cases h
  | n + 1, s, s', h => by
    unfold m_run whL at h
    by_cases c : (!decide (s.here = other)) = true
    · rw [if_pos c] at h
      have z := m_run_len one other n _ _ h
      have h1 : (m_go one other s).cells.length = s.cells.length + 1 := by show (s.cells ++ [_]).length = _; simp
      have h2 := m_next_len (m_ls one other s) s.here s.lead
      have h3 : (m_ls one other s).cps = s.cps := rfl
      have h4 : (m_go one other s).cps = (m_next (m_ls one other s) s.here s.lead).cps := rfl
      rw [h3] at h2
      rw [h1, h4] at z
      omega
    · rw [if_neg c] at h
      cases h
      omega
theorem line_len {one other : Cell} (h : LineOk one other) : (m_line one other).cells.length ≤ 101 ∧ (m_line one other).cps.length ≤ 100 := by
  have := m_run_len one other 100 _ _ (m_line_ok h)
  have e1 : (m_ini one other).cells.length = 1 := rfl
  have e2 : (m_ini one other).cps.length = 0 := rfl
  omega
theorem sc_looks : FnScope ["floor", "one", "other", "line"] ["floor", "one", "other"] (defScope s_looks) := ⟨rfl, rfl, rfl, by decide +kernel, rfl, by decide +kernel, by decide +kernel⟩
abbrev sp_looks (K : PySem.W.Frag) : Sp := spP K (fun (y : Floor × Cell × Cell) => [enc y.1, enc y.2.1, enc y.2.2]) (fun y => LineOk y.2.1 y.2.2) (fun y => oF (m_looks y.1 y.2.1 y.2.2))
theorem ok_looks {C : Addr} (F : FnF K "looks" "looks" s_looks f fd) (cl_Line : Cls K C) (na_Line_cells : NoAttr K C "cells") (h_Line___init__ : MkG P w K mg base 3 "Line" C ["self", "one", "other"] (sp_init K C)) (h_is_free : FnG P w K mg base 2 "is_free" ["floor", "line", "cells"] (sp_is_free K C)) : FnOk P w K mg base (L2N.CX P w) 5 f fd ["floor", "one", "other"] (sp_looks K) := by
  refine def_pure F sc_looks (fun _ => rfl) fun y E hp => ?_
  obtain ⟨fl, one, other⟩ := y
  have hp : LineOk one other := hp
  have hl := line_len hp
  refine ⟨rF (m_looks fl one other), ?_, fits_F⟩
  refine xb_cons (ρ1 := [some (.fro (enc fl)), some (.fro (enc one)), some (.fro (enc other)), some (.fro (lineD C (m_lso one other)))]) (xs_setF 3 (XP.cast (XN.p (xn_make h_Line___init__ (one, other) hp rfl rfl (xa_cons (xp_var 1) (xa_cons (xp_var 2) xa_nil)))) (by rw [lineO_d]; rfl))) ?_
  exact xb_ret rF _ (xs_retF (tp_call h_is_free (fl, m_lso one other, (m_line one other).cells) ⟨by have := hl.2; show (m_line one other).cps.length ≤ 1000000; omega, by have := hl.1; show (m_line one other).cells.length ≤ 1000000; omega⟩ (xa_cons (xp_var 0) (xa_cons (xp_var 3) (xa_cons (xp_fld (d := enc (m_line one other).cells) 0 cl_Line na_Line_cells (xp_var 3)) xa_nil))))) trivial
theorem sc_sees : FnScope ["floor", "one", "other"] ["floor", "one", "other"] (defScope s_sees) := ⟨rfl, rfl, rfl, by decide +kernel, rfl, by decide +kernel, by decide +kernel⟩
abbrev sp_sees (K : PySem.W.Frag) : Sp := spP K (fun (y : Floor × Cell × Cell) => [enc y.1, enc y.2.1, enc y.2.2]) (fun y => FlL y.1) (fun y => oE oF (m_sees y.1 y.2.1 y.2.2))
theorem ok_sees (F : FnF K "sees" "sees" s_sees f fd) (h_need_cell : FnG P w K mg base 2 "need_cell" ["floor", "cell"] (sp_need_cell K)) (h_looks : FnG P w K mg base 5 "looks" ["floor", "one", "other"] (sp_looks K)) : FnOk P w K mg base (L2N.CX P w) 6 f fd ["floor", "one", "other"] (sp_sees K) := by
  refine def_pure F sc_sees (fun _ => rfl) fun y E hp => ?_
  obtain ⟨fl, one, other⟩ := y
  refine ⟨rE rF (m_sees fl one other), ?_, fits_EF _⟩
  refine xb_doE rF (fun _ => bindE (m_need_cell fl other) fun _ => .ok (m_looks fl one other)) (xx_callE h_need_cell (fl, one) trivial (xa_cons (xp_var 0) (xa_cons (xp_var 1) xa_nil))) fun u hu => ?_
  refine xb_doE rF (fun _ => .ok (m_looks fl one other)) (xx_callE h_need_cell (fl, other) trivial (xa_cons (xp_var 0) (xa_cons (xp_var 2) xa_nil))) fun v hv => ?_
  have on1 : m_is_on fl.a fl.b one = true := by
    unfold m_need_cell at hu
    cases ho : m_is_on fl.a fl.b one with
    | true => rfl
    | false => rw [ho] at hu; cases hu
  have on2 : m_is_on fl.a fl.b other = true := by
    unfold m_need_cell at hv
    cases ho : m_is_on fl.a fl.b other with
    | true => rfl
    | false => rw [ho] at hv; cases hv
  exact xb_ret (rE rF) (.ok (m_looks fl one other)) (xs_rt (tp_call h_looks (fl, one, other) (on_line hp on1 on2).1 (xa_cons (xp_var 0) (xa_cons (xp_var 1) (xa_cons (xp_var 2) xa_nil))))) trivial

def mirC (p : Cell) : Cell := (-p.1, p.2)
def swpC (p : Cell) : Cell := (p.2, p.1)
def two2 (g : Cell → Cell) (p : Cell × Cell) : Cell × Cell := two (g p.1) (g p.2)
def okRel (a d : Int) : Bool :=
  (decide ((relS (-a) (-d)).cells = (relS a d).cells.reverse.map (m_at (-a, -d))) && decide ((relS (-a) (-d)).cps = (relS a d).cps.reverse.map (sh2 (-a, -d)))) &&
  (decide ((relS a d).cells = cutL (relS a d).cells none (some (-1)) ++ [(a, d)]) && memB (0, 0) (relS a d).cells) &&
  ((decide (2 ≤ absI a + absI d) || ((cutL (relS a d).cells none (some (-1))).all (fun c => decide (c = (0, 0))) && (relS a d).cps.isEmpty)) &&
  (decide ((relS (-a) d).cells = (relS a d).cells.map mirC) && decide ((relS (-a) d).cps = (relS a d).cps.map (two2 mirC)))) &&
  (decide ((relS d a).cells = (relS a d).cells.map swpC) && decide ((relS d a).cps = (relS a d).cps.map (two2 swpC)))
theorem okRel_all : (rng (-6) 7).all (fun a => (rng (-6) 7).all fun d => okRel a d) = true := by decide +kernel
structure RelF (a d : Int) : Prop where
  rc : (relS (-a) (-d)).cells = (relS a d).cells.reverse.map (m_at (-a, -d))
  rp : (relS (-a) (-d)).cps = (relS a d).cps.reverse.map (sh2 (-a, -d))
  ini : (relS a d).cells = cutL (relS a d).cells none (some (-1)) ++ [(a, d)]
  hd : ((0, 0) : Cell) ∈ (relS a d).cells
  nr : absI a + absI d < 2 → (∀ c ∈ cutL (relS a d).cells none (some (-1)), c = (0, 0)) ∧ (relS a d).cps = []
  mc : (relS (-a) d).cells = (relS a d).cells.map mirC
  mp : (relS (-a) d).cps = (relS a d).cps.map (two2 mirC)
  fc : (relS d a).cells = (relS a d).cells.map swpC
  fp : (relS d a).cps = (relS a d).cps.map (two2 swpC)
theorem relF (a d : Int) (h : -7 < a ∧ a < 7 ∧ -7 < d ∧ d < 7) : RelF a d := by
  have z := List.all_eq_true.mp (List.all_eq_true.mp okRel_all a (rng_mem (by omega))) d (rng_mem (by omega))
  unfold okRel at z
  simp only [Bool.and_eq_true, Bool.or_eq_true, decide_eq_true_eq, memB_iff, List.all_eq_true, List.isEmpty_iff] at z
  obtain ⟨⟨⟨⟨h1, h2⟩, h3, h4⟩, h5, h6, h7⟩, h8, h9⟩ := z
  exact ⟨h1, h2, h3, h4, fun hn => h5.elim (fun q => absurd q (by omega)) id, h6, h7, h8, h9⟩
abbrev LC (one other : Cell) : List Cell := (m_line one other).cells
abbrev LP (one other : Cell) : List (Cell × Cell) := (m_line one other).cps
abbrev Near (one other : Cell) : Prop := -7 < other.1 - one.1 ∧ other.1 - one.1 < 7 ∧ -7 < other.2 - one.2 ∧ other.2 - one.2 < 7
theorem lc_eq {one other : Cell} (h : Near one other) : LC one other = (relS (other.1 - one.1) (other.2 - one.2)).cells.map (m_at one) := by
  show (m_line one other).cells = _
  rw [(line_rel one other h).2]; rfl
theorem lp_eq {one other : Cell} (h : Near one other) : LP one other = (relS (other.1 - one.1) (other.2 - one.2)).cps.map (sh2 one) := by
  show (m_line one other).cps = _
  rw [(line_rel one other h).2]; rfl
theorem Near.symm {one other : Cell} (h : Near one other) : Near other one := by unfold Near at *; omega
theorem at_at (s t c : Cell) : m_at s (m_at t c) = m_at (m_at s t) c := by unfold m_at; exact Prod.ext (by dsimp only; omega) (by dsimp only; omega)
theorem lc_rev {one other : Cell} (h : Near one other) : LC other one = (LC one other).reverse ∧ LP other one = (LP one other).reverse := by
  have R := relF _ _ h
  have e1 : one.1 - other.1 = -(other.1 - one.1) := by omega
  have e2 : one.2 - other.2 = -(other.2 - one.2) := by omega
  have e3 : m_at other (-(other.1 - one.1), -(other.2 - one.2)) = one := by unfold m_at; exact Prod.ext (by dsimp only; omega) (by dsimp only; omega)
  constructor
  · rw [lc_eq h.symm, lc_eq h, e1, e2, R.rc, List.map_map, ← List.map_reverse]
    congr 1
    funext c
    show m_at other (m_at _ c) = m_at one c
    rw [at_at, e3]
  · rw [lp_eq h.symm, lp_eq h, e1, e2, R.rp, List.map_map, ← List.map_reverse]
    congr 1
    funext p
    show (m_at other (m_at _ p.1), m_at other (m_at _ p.2)) = (m_at one p.1, m_at one p.2)
    rw [at_at, at_at, e3]
theorem lc_ini {one other : Cell} (h : Near one other) : LC one other = cutL (LC one other) none (some (-1)) ++ [other] ∧ one ∈ LC one other := by
  have R := relF _ _ h
  rw [lc_eq h]
  constructor
  · rw [cutL_map]
    conv => lhs; rw [R.ini]
    rw [List.map_append, List.map_cons, List.map_nil]
    congr 2
    unfold m_at; exact Prod.ext (by dsimp only; omega) (by dsimp only; omega)
  · refine List.mem_map.mpr ⟨(0, 0), R.hd, ?_⟩
    unfold m_at; exact Prod.ext (by dsimp only; omega) (by dsimp only; omega)
theorem lc_near {one other : Cell} (h : Near one other) (hn : absI (other.1 - one.1) + absI (other.2 - one.2) < 2) : (∀ c ∈ cutL (LC one other) none (some (-1)), c = one) ∧ LP one other = [] := by
  have R := relF _ _ h
  obtain ⟨h1, h2⟩ := R.nr hn
  rw [lc_eq h, lp_eq h, cutL_map, h2]
  refine ⟨fun c hc => ?_, rfl⟩
  obtain ⟨d, hd, rfl⟩ := List.mem_map.mp hc
  rw [h1 d hd]
  unfold m_at; exact Prod.ext (by dsimp only; omega) (by dsimp only; omega)
/-- a way to move cells that moves lines -/
structure Moves (φ : Cell → Cell) : Prop where
  lc : ∀ one other, Near one other → LC (φ one) (φ other) = (LC one other).map φ
  lp : ∀ one other, Near one other → LP (φ one) (φ other) = (LP one other).map (two2 φ)
theorem moves_mir (w : Int) : Moves fun p => (w - p.1, p.2) := by
  have key : ∀ one c : Cell, m_at (w - one.1, one.2) (mirC c) = (w - (m_at one c).1, (m_at one c).2) := fun one c => by unfold m_at mirC; exact Prod.ext (by dsimp only; omega) rfl
  refine ⟨fun one other h => ?_, fun one other h => ?_⟩
  · have R := relF _ _ h
    have h' : Near (w - one.1, one.2) (w - other.1, other.2) := by unfold Near at *; dsimp only; omega
    rw [lc_eq h', lc_eq h]
    have e1 : (w - other.1, other.2).1 - (w - one.1, one.2).1 = -(other.1 - one.1) := by dsimp only; omega
    rw [e1]
    show ((relS _ (other.2 - one.2)).cells.map _) = _
    rw [R.mc, List.map_map, List.map_map]
    congr 1
    funext c
    exact key one c
  · have R := relF _ _ h
    have h' : Near (w - one.1, one.2) (w - other.1, other.2) := by unfold Near at *; dsimp only; omega
    rw [lp_eq h', lp_eq h]
    have e1 : (w - other.1, other.2).1 - (w - one.1, one.2).1 = -(other.1 - one.1) := by dsimp only; omega
    rw [e1]
    show ((relS _ (other.2 - one.2)).cps.map _) = _
    rw [R.mp, List.map_map, List.map_map]
    congr 1
    funext p
    show sh2 (w - one.1, one.2) (two (mirC p.1) (mirC p.2)) = two _ _
    rw [← two_at, key, key]
    rfl
theorem moves_swp : Moves fun p => (p.2, p.1) := by
  have key : ∀ one c : Cell, m_at (one.2, one.1) (swpC c) = ((m_at one c).2, (m_at one c).1) := fun one c => rfl
  refine ⟨fun one other h => ?_, fun one other h => ?_⟩
  · have R := relF _ _ h
    have h' : Near (one.2, one.1) (other.2, other.1) := by unfold Near at *; dsimp only; omega
    rw [lc_eq h', lc_eq h]
    show ((relS (other.2 - one.2) (other.1 - one.1)).cells.map _) = _
    rw [R.fc, List.map_map, List.map_map]
    rfl
  · have R := relF _ _ h
    have h' : Near (one.2, one.1) (other.2, other.1) := by unfold Near at *; dsimp only; omega
    rw [lp_eq h', lp_eq h]
    show ((relS (other.2 - one.2) (other.1 - one.1)).cps.map _) = _
    rw [R.fp, List.map_map, List.map_map]
    congr 1
    funext p
    show sh2 (one.2, one.1) (two (swpC p.1) (swpC p.2)) = two _ _
    rw [← two_at, key, key]
    rfl

def m_mine (fl : Floor) (one : Cell) : List Cell := (m_all_cells fl).filter (m_looks fl one)
def FreeP (fl : Floor) (cells : List Cell) (cps : List (Cell × Cell)) : Prop := (∀ c ∈ cells, c ∉ fl.c.items) ∧ ∀ p ∈ cps, ¬(p.1 ∈ fl.c.items ∧ p.2 ∈ fl.c.items)
theorem free_iff (fl : Floor) (l : LineS) (cells : List Cell) : m_free fl l cells = true ↔ FreeP fl cells l.cps := by
  unfold m_free m_squeezed FreeP
  rw [Bool.and_eq_true, Bool.not_eq_true', Bool.not_eq_true', List.any_eq_false, List.any_eq_false]
  simp only [List.mem_map, id, Bool.not_eq_true]
  constructor
  · rintro ⟨h1, h2⟩
    refine ⟨fun c hc => memB_no.mp (h1 _ ⟨c, hc, rfl⟩), fun p hp hh => ?_⟩
    have := h2 _ ⟨p, hp, rfl⟩
    rw [memB_iff.mpr hh.1, memB_iff.mpr hh.2] at this
    cases this
  · rintro ⟨h1, h2⟩
    refine ⟨?_, ?_⟩
    · rintro x ⟨c, hc, rfl⟩
      exact memB_no.mpr (h1 c hc)
    · rintro x ⟨p, hp, rfl⟩
      cases e1 : memB p.1 fl.c.items with
      | false => rfl
      | true =>
        cases e2 : memB p.2 fl.c.items with
        | false => rfl
        | true => exact absurd ⟨memB_iff.mp e1, memB_iff.mp e2⟩ (h2 p hp)
theorem looks_iff (fl : Floor) (one other : Cell) : m_looks fl one other = true ↔ FreeP fl (LC one other) (LP one other) := free_iff fl _ _
theorem spots_iff (fl : Floor) (one other : Cell) : m_spots fl one other = true ↔ FreeP fl (cutL (LC one other) none (some (-1))) (LP one other) := free_iff fl _ _
theorem near_on {fl : Floor} (L : FlL fl) {c d : Cell} (hc : m_is_on fl.a fl.b c = true) (hd : m_is_on fl.a fl.b d = true) : Near c d := by
  rw [on_iff] at hc hd
  obtain ⟨h1, h2, h3, h4⟩ := L
  unfold Near; omega
theorem looks_symm {fl : Floor} {c d : Cell} (h : Near c d) : m_looks fl d c = m_looks fl c d := by
  rw [Bool.eq_iff_iff, looks_iff, looks_iff]
  obtain ⟨h1, h2⟩ := lc_rev h
  unfold FreeP
  rw [h1, h2]
  simp only [List.mem_reverse]
theorem looks_spots {fl : Floor} {c d : Cell} (h : Near c d) : m_looks fl c d = true ↔ m_spots fl c d = true ∧ d ∉ fl.c.items := by
  rw [looks_iff, spots_iff]
  unfold FreeP
  have e := (lc_ini h).1
  constructor
  · rintro ⟨h1, h2⟩
    rw [e] at h1
    exact ⟨⟨fun x hx => h1 x (List.mem_append_left _ hx), h2⟩, h1 d (by simp)⟩
  · rintro ⟨⟨h1, h2⟩, h3⟩
    refine ⟨fun x hx => ?_, h2⟩
    rw [e] at hx
    rcases List.mem_append.mp hx with hx | hx
    · exact h1 x hx
    · rw [List.mem_singleton.mp hx]; exact h3
theorem mine_field {fl : Floor} (L : FlL fl) {one : Cell} (h1 : m_is_on fl.a fl.b one = true) : m_field fl one = m_mine fl one := by
  unfold m_field m_seen m_mine
  rw [List.filter_filter]
  refine List.filter_congr fun c hc => ?_
  have N := near_on L h1 ((mem_all L.2.2.1).mp hc)
  rw [Bool.eq_iff_iff, Bool.and_eq_true, Bool.not_eq_true', looks_spots N]
  exact ⟨fun h => ⟨h.2, memB_no.mp h.1⟩, fun h => ⟨memB_no.mpr h.2, h.1⟩⟩
/-! all cells stand in their order -/
theorem lt_tf {x y : Cell} (h : DatumOrd.lt x y = true) : DatumOrd.lt y x = false := by
  rcases LOrd.tot x y with z | z
  · exact z
  · rw [z] at h; cases h
theorem all_strict {fl : Floor} (hb : 0 < fl.b) : (m_all_cells fl).Pairwise fun x y => DatumOrd.lt x y = true := by
  unfold m_all_cells rng
  rw [List.map_map, List.pairwise_map]
  refine List.pairwise_lt_range.imp fun {i j} hij => ?_
  show DatumOrd.lt ((0 + (i : Int)) / fl.b, (0 + (i : Int)) % fl.b) ((0 + (j : Int)) / fl.b, (0 + (j : Int)) % fl.b) = true
  rw [lt_pair]
  simp only [G.lt_int, Int.zero_add]
  have e1 := Int.mul_ediv_add_emod (i : Int) fl.b
  have e2 := Int.mul_ediv_add_emod (j : Int) fl.b
  split
  · rename_i h
    rw [h] at e1
    exact decide_eq_true (by omega)
  · rename_i h
    have := Int.ediv_le_ediv hb (a := (i : Int)) (b := (j : Int)) (by omega)
    exact decide_eq_true (by omega)
theorem all_srt {fl : Floor} (hb : 0 < fl.b) (p : Cell → Bool) : SrtT ((m_all_cells fl).filter p) := ((all_strict hb).filter p).imp lt_tf
theorem all_nodup {fl : Floor} (hb : 0 < fl.b) (p : Cell → Bool) : ((m_all_cells fl).filter p).Nodup := ((all_strict hb).filter p).imp fun {x y} h e => by
  subst e
  rw [lt_self] at h
  cases h
/-- moved floors -/
structure Moved (φ ψ : Cell → Cell) (fl fl' : Floor) : Prop where
  mv : Moves φ
  inv : ∀ c, ψ (φ c) = c
  inv' : ∀ c, φ (ψ c) = c
  wal : ∀ c, φ c ∈ fl'.c.items ↔ c ∈ fl.c.items
  on : ∀ c, m_is_on fl'.a fl'.b (φ c) = m_is_on fl.a fl.b c
  L : FlL fl
  L' : FlL fl'
theorem two2_mem {φ : Cell → Cell} {W : List Cell} (p : Cell × Cell) : ((two2 φ p).1 ∈ W ∧ (two2 φ p).2 ∈ W) ↔ (φ p.1 ∈ W ∧ φ p.2 ∈ W) := by
  unfold two2 two
  split
  · exact ⟨fun h => ⟨h.2, h.1⟩, fun h => ⟨h.2, h.1⟩⟩
  · exact Iff.rfl
theorem Moved.looks {φ ψ : Cell → Cell} {fl fl' : Floor} (M : Moved φ ψ fl fl') {c d : Cell} (h : Near c d) : m_looks fl' (φ c) (φ d) = m_looks fl c d := by
  rw [Bool.eq_iff_iff, looks_iff, looks_iff]
  unfold FreeP
  rw [M.mv.lc c d h, M.mv.lp c d h]
  constructor
  · rintro ⟨h1, h2⟩
    exact ⟨fun x hx hw => h1 (φ x) (List.mem_map.mpr ⟨x, hx, rfl⟩) ((M.wal x).mpr hw), fun p hp hw => h2 (two2 φ p) (List.mem_map.mpr ⟨p, hp, rfl⟩) ((two2_mem p).mpr ⟨(M.wal _).mpr hw.1, (M.wal _).mpr hw.2⟩)⟩
  · rintro ⟨h1, h2⟩
    refine ⟨fun y hy hw => ?_, fun q hq hw => ?_⟩
    · obtain ⟨x, hx, rfl⟩ := List.mem_map.mp hy
      exact h1 x hx ((M.wal x).mp hw)
    · obtain ⟨p, hp, rfl⟩ := List.mem_map.mp hq
      have hw := (two2_mem p).mp hw
      exact h2 p hp ⟨(M.wal _).mp hw.1, (M.wal _).mp hw.2⟩
theorem Moved.mine {φ ψ : Cell → Cell} {fl fl' : Floor} (M : Moved φ ψ fl fl') {one : Cell} (h1 : m_is_on fl.a fl.b one = true) : m_mine fl' (φ one) = sortT ((m_mine fl one).map φ) := by
  symm
  refine sortT_of (all_srt M.L'.2.2.1 _) ((List.perm_ext_iff_of_nodup (all_nodup M.L'.2.2.1 _) ?_).mpr fun v => ?_)
  · refine List.pairwise_map.mpr ((all_nodup M.L.2.2.1 _).imp fun {x y} h e => h ?_)
    rw [← M.inv x, ← M.inv y, e]
  · rw [List.mem_filter, mem_all M.L'.2.2.1]
    constructor
    · rintro ⟨h, hl⟩
      have e := M.inv' v
      rw [← e] at h hl
      rw [M.on] at h
      rw [M.looks (near_on M.L h1 h)] at hl
      exact List.mem_map.mpr ⟨ψ v, List.mem_filter.mpr ⟨(mem_all M.L.2.2.1).mpr h, hl⟩, e⟩
    · intro h
      obtain ⟨c, hc, rfl⟩ := List.mem_map.mp h
      have hc := List.mem_filter.mp hc
      have hon := (mem_all M.L.2.2.1).mp hc.1
      rw [M.on, M.looks (near_on M.L h1 hon)]
      exact ⟨hon, hc.2⟩
theorem Moved.field {φ ψ : Cell → Cell} {fl fl' : Floor} (M : Moved φ ψ fl fl') {one : Cell} (h1 : m_is_on fl.a fl.b one = true) (hw : one ∉ fl.c.items) :
    FlL fl' ∧ m_is_on fl'.a fl'.b (φ one) = true ∧ φ one ∉ fl'.c.items ∧ m_field fl' (φ one) = sortT ((m_mine fl one).map φ) := by
  have h2 : m_is_on fl'.a fl'.b (φ one) = true := by rw [M.on]; exact h1
  exact ⟨M.L', h2, fun h => hw ((M.wal _).mp h), by rw [mine_field M.L' h2, M.mine h1]⟩
theorem moved_mir {fl : Floor} (L : FlL fl) : Moved (fun p => (fl.a - 1 - p.1, p.2)) (fun p => (fl.a - 1 - p.1, p.2)) fl (m_mirrored fl) where
  mv := moves_mir (fl.a - 1)
  inv := fun c => Prod.ext (by dsimp only; omega) rfl
  inv' := fun c => Prod.ext (by dsimp only; omega) rfl
  wal := fun c => by
    show _ ∈ sortT _ ↔ _
    rw [(sortT_perm _).mem_iff, List.mem_map]
    constructor
    · rintro ⟨p, hp, e⟩
      have e1 := congrArg Prod.fst e
      have e2 := congrArg Prod.snd e
      dsimp only at e1 e2
      rw [show c = p from Prod.ext (by omega) e2.symm]
      exact hp
    · intro h
      exact ⟨c, h, rfl⟩
  on := fun c => by
    rw [Bool.eq_iff_iff, on_iff, on_iff]
    show (0 ≤ fl.a - 1 - c.1 ∧ fl.a - 1 - c.1 < fl.a ∧ 0 ≤ c.2 ∧ c.2 < fl.b) ↔ _
    omega
  L := L
  L' := L
theorem moved_swp {fl : Floor} (L : FlL fl) : Moved (fun p => (p.2, p.1)) (fun p => (p.2, p.1)) fl (m_flipped fl) where
  mv := moves_swp
  inv := fun c => rfl
  inv' := fun c => rfl
  wal := fun c => by
    show _ ∈ sortT _ ↔ _
    rw [(sortT_perm _).mem_iff, List.mem_map]
    constructor
    · rintro ⟨p, hp, e⟩
      have e1 := congrArg Prod.fst e
      have e2 := congrArg Prod.snd e
      dsimp only at e1 e2
      rw [show c = p from Prod.ext e2.symm e1.symm]
      exact hp
    · intro h
      exact ⟨c, h, rfl⟩
  on := fun c => by
    rw [Bool.eq_iff_iff, on_iff, on_iff]
    show (0 ≤ c.2 ∧ c.2 < fl.b ∧ 0 ≤ c.1 ∧ c.1 < fl.a) ↔ _
    omega
  L := L
  L' := ⟨L.2.2.1, L.2.2.2, L.1, L.2.1⟩

def m_cpl (fl : Floor) (cells : List Cell) (c : List (Cell × Cell)) (p : Int × Cell) : List (Cell × Cell) := c ++ ((cutL cells (some (p.1 + 1)) none).filter (m_looks fl p.2)).map fun o => (p.2, o)
def m_couples (fl : Floor) : List (Cell × Cell) := (enumL (m_open fl)).foldl (m_cpl fl (m_open fl)) []
def m_anyof (fl : Floor) (cs : List Cell) : List Cell := (m_open fl).filter fun c => ((cs.map (m_field fl)).map fun f => memB c f).any id
def m_allof (fl : Floor) (cs : List Cell) : List Cell := (m_open fl).filter fun c => ((cs.map (m_field fl)).map fun f => memB c f).all id
def OpenC (fl : Floor) (cs : List Cell) : Prop := FlL fl ∧ (∀ c ∈ cs, m_is_on fl.a fl.b c = true ∧ c ∉ fl.c.items) ∧ cs.length ≤ 100000
theorem cutL_len {α : Type} (xs : List α) (lo hi : Option Int) : (cutL xs lo hi).length ≤ xs.length := by
  unfold cutL
  rw [List.length_take, List.length_drop]; omega
theorem cutL_mem {α : Type} {xs : List α} {lo hi : Option Int} {x : α} (h : x ∈ cutL xs lo hi) : x ∈ xs := by
  unfold cutL at h
  exact List.mem_of_mem_drop (List.mem_of_mem_take h)
theorem enumL_mem {α : Type} {xs : List α} {p : Int × α} (h : p ∈ enumL xs) : p.2 ∈ xs := by
  unfold enumL at h
  obtain ⟨q, hq, rfl⟩ := List.mem_map.mp h
  exact (List.of_mem_zip (a := q.1) (b := q.2) hq).2
theorem open_le {fl : Floor} (L : FlL fl) : (m_open fl).length ≤ 36 := by
  refine Nat.le_trans (List.length_filter_le _ _) ?_
  unfold m_all_cells
  rw [List.length_map, rng_len]
  obtain ⟨h1, h2, h3, h4⟩ := L
  have : fl.a * fl.b ≤ 6 * 6 := Int.mul_le_mul h2 h4 (by omega) (by omega)
  omega
theorem sc_open_cells : FnScope ["floor", "cell"] ["floor"] (defScope s_open_cells) := ⟨rfl, rfl, rfl, by decide +kernel, rfl, by decide +kernel, by decide +kernel⟩
abbrev sp_open_cells (K : PySem.W.Frag) : Sp := spP K (fun (y : Floor) => [enc y]) FlB (fun y => oF (m_open y))
theorem ok_open_cells (F : FnF K "open_cells" "open_cells" s_open_cells f fd) (h_all_cells : FnG P w K mg base 1 "all_cells" ["floor"] (sp_all_cells K)) : FnOk P w K mg base (L2N.CX P w) 2 f fd ["floor"] (sp_open_cells K) := by
  refine def_pure F sc_open_cells (fun _ => rfl) fun fl E hp => ?_
  refine ⟨rF (m_open fl), ?_, fits_F⟩
  exact xb_ret rF _ (xs_retF (XP.cast (tp_lc (m_all_cells fl) enc (fun v => !memB v fl.c.items) (fun v : Cell => v) [("cell", 1)] _ (xi_lt (tp_call h_all_cells fl hp (xa_cons (xp_var 0) xa_nil))) (tg_n 1) to_name (fun v hv => eg_name 1) (fun v hv => tt_nmemT (XP.v (xp_var 1)) (XP.v (tp_ix3c (xp_var 0)))) (fun v hv _ => xp_var 1) (m_all_len hp)) (by rw [List.map_id']; rfl))) trivial
theorem sc_couples_of : FnScope ["floor", "cells", "found", "at", "one", "other"] ["floor"] (defScope s_couples_of) := ⟨rfl, rfl, rfl, by decide +kernel, rfl, by decide +kernel, by decide +kernel⟩
abbrev sp_couples_of (K : PySem.W.Frag) : Sp := spP K (fun (y : Floor) => [enc y]) FlL (fun y => oF (m_couples y))
def R_cpl (fl : Floor) (c : List (Cell × Cell)) : G.Env := [some (.fro (enc fl)), some (.fro (enc (m_open fl))), some (oL c), none, none, none]
theorem ok_couples_of (F : FnF K "couples_of" "couples_of" s_couples_of f fd) (m_enumerate : mg "enumerate" = none) (h_open_cells : FnG P w K mg base 2 "open_cells" ["floor"] (sp_open_cells K)) (h_looks : FnG P w K mg base 5 "looks" ["floor", "one", "other"] (sp_looks K)) : FnOk P w K mg base (L2N.CX P w) 6 f fd ["floor"] (sp_couples_of K) := by
  refine def_pure F sc_couples_of (fun _ => rfl) fun fl E hp => ?_
  have hp : FlL fl := hp
  have ol := open_le hp
  refine ⟨rF (m_couples fl), ?_, fits_F⟩
  refine xb_cons (ρ1 := [some (.fro (enc fl)), some (.fro (enc (m_open fl))), none, none, none, none]) (xs_setF 1 (tp_call h_open_cells fl hp.b (xa_cons (xp_var 0) xa_nil))) ?_
  refine xb_cons (ρ1 := R_cpl fl []) (xs_setM 2 (xx_lst xa_nil)) ?_
  refine xb_cons (ρ1 := R_cpl fl (m_couples fl)) (xs_forN (enumL (m_open fl)) (fun p => .tup [.int p.1, enc p.2]) (R_cpl fl) (m_cpl fl (m_open fl)) (fun i c => c.length ≤ 36 * i) (fun c p => ((R_cpl fl c).set 3 (some (.fro (enc p.1)))).set 4 (some (.fro (enc p.2)))) [] (xi_enum m_enumerate (xp_var 1)) (tg_t (n := 2) (tgs_1 (tg_n 3) (tgs_1 (tg_n 4) tgs_0))) (fun c p => eg_tup (egs_cons (eg_name 3) (egs_cons (eg_name 4) egs_nil))) (by simp) fun i c p hx hI => ⟨?_, ?_⟩) ?_
  · have hi : i < 36 := by
      have := (List.getElem?_eq_some_iff.mp hx).1
      rw [enumL_len] at this
      omega
    have pm := enumL_mem (List.mem_of_getElem? hx)
    have on1 := ((mem_open hp.2.2.1).mp pm).1
    have len : ((cutL (m_open fl) (some (p.1 + 1)) none).filter (m_looks fl p.2)).length ≤ 36 := Nat.le_trans (List.length_filter_le _ _) (Nat.le_trans (cutL_len _ _ _) ol)
    refine xb_forgets [3, 4] (ρ1 := ((R_cpl fl (m_cpl fl (m_open fl) c p)).set 3 (some (.fro (enc p.1)))).set 4 (some (.fro (enc p.2)))) ?_ rfl
    exact xb_one (xs_exprM (xx_ext (xl_var 2) (tp_lc (cutL (m_open fl) (some (p.1 + 1)) none) enc (m_looks fl p.2) (fun o => ((p.2, o) : Cell × Cell)) [("other", 5)] _ (xi_lt (tp_slL (xs := m_open fl) (xp_var 1) (xo_some (i := p.1 + 1) (tp_add (xp_var 3) tp_int)) xo_none)) (tg_n 5) to_name (fun o ho => eg_name 5)
      (fun o ho => tt_b (tp_call h_looks (fl, p.2, o) (on_line hp on1 ((mem_open hp.2.2.1).mp (cutL_mem ho)).1).1 (xa_cons (xp_var 0) (xa_cons (xp_var 4) (xa_cons (xp_var 5) xa_nil))))) (fun o ho _ => tp_2 (xa_cons (xp_var 4) (xa_cons (xp_var 5) xa_nil))) (Nat.le_trans (cutL_len _ _ _) (by omega))) (by rw [List.length_map]; omega)))
  · show (c ++ _).length ≤ _
    have len : ((cutL (m_open fl) (some (p.1 + 1)) none).filter (m_looks fl p.2)).length ≤ 36 := Nat.le_trans (List.length_filter_le _ _) (Nat.le_trans (cutL_len _ _ _) ol)
    rw [List.length_append, List.length_map]; omega
  refine xb_freeze 2 (o := oL (m_couples fl)) rfl ?_
  rw [oL_d]
  exact xb_ret rF (m_couples fl) (xs_retF (xp_var 2)) trivial

def m_withS (fl : Floor) (c : Cell) : Floor := ⟨fl.a, fl.b, ⟨sortT (fl.c.items ++ [c])⟩⟩
def m_with (fl : Floor) (c : Cell) : Except Str Floor := bindE (m_is_solid fl c) fun k => if k = true then .ok fl else .ok (m_withS fl c)
def m_put (fl : Floor) (c : Cell) : Floor := if memB c fl.c.items = true then fl else m_withS fl c
theorem with_on {fl : Floor} {c : Cell} (h : m_is_on fl.a fl.b c = true) : m_with fl c = .ok (m_put fl c) := by
  unfold m_with m_put
  rw [solid_on h]
  show (if _ then _ else _) = _
  split <;> rfl
def m_shadow (fl : Floor) (c wall : Cell) : List Cell := (m_field (m_without fl wall) c).filter fun o => (!memB o (m_field fl c)) && !decide (o = wall)
def m_idle (fl : Floor) (c : Cell) : List Cell := fl.c.items.filter fun v => decide (m_shadow fl c v = [])
def OkC (fl : Floor) (c : Cell) : Prop := FlL fl ∧ FlW fl ∧ m_is_on fl.a fl.b c = true ∧ c ∉ fl.c.items
theorem without_no {fl : Floor} {c v : Cell} (h : c ∉ fl.c.items) : c ∉ (m_without fl v).c.items := fun z => h (List.mem_filter.mp z).1
theorem sc_with_solid : FnScope ["floor", "cell"] ["floor", "cell"] (defScope s_with_solid) := ⟨rfl, rfl, rfl, by decide +kernel, rfl, by decide +kernel, by decide +kernel⟩
abbrev sp_with_solid (K : PySem.W.Frag) : Sp := spP K (fun (y : Floor × Cell) => [enc y.1, enc y.2]) (fun y => y.1.c.items.length ≤ 100000) (fun y => oE oF (m_with y.1 y.2))
theorem ok_with_solid (F : FnF K "with_solid" "with_solid" s_with_solid f fd) (m_tuple : mg "tuple" = none) (m_sorted : mg "sorted" = none) (h_is_solid : FnG P w K mg base 3 "is_solid" ["floor", "cell"] (sp_is_solid K)) : FnOk P w K mg base (L2N.CX P w) 4 f fd ["floor", "cell"] (sp_with_solid K) := by
  refine def_pure F sc_with_solid (fun _ => rfl) fun y E hp => ?_
  obtain ⟨⟨wide, high, walls⟩, c⟩ := y
  have hp : walls.items.length ≤ 100000 := hp
  refine ⟨rE rF (m_with ⟨wide, high, walls⟩ c), ?_, fits_EF _⟩
  refine xb_ifRE rF (xp_callE h_is_solid (⟨wide, high, walls⟩, c) trivial (xa_cons (xp_var 0) (xa_cons (xp_var 1) xa_nil))) (fun _ => xb_ret (rE rF) (.ok (T3.mk wide high walls)) (xs_rt (xp_var 0)) trivial) (fun _ z => nomatch z) fun _ => xb_ret (rE rF) (.ok (m_withS ⟨wide, high, walls⟩ c)) (xs_retF ?_) trivial
  exact XP.cast (xp_binF (ob_catT (ds := [enc wide, enc high]) (es := [enc (Tup.mk (sortT (walls.items ++ [c])))]) (by show 3 ≤ 1000000; omega)) (XP.cast (xp_slT (ds := [enc wide, enc high, enc walls]) (hi := some 2) (xp_var 0) xo_none (xo_some xp_int)) rfl)
    (xp_tup (xa_cons (tp_tupL m_tuple (tp_sortedT (xs := Tup.mk (walls.items ++ [c])) m_sorted (tp_catT (ys := Tup.mk [c]) (tp_ix3c (p := T3.mk wide high walls) (xp_var 0)) (xp_tup (xa_cons (xp_var 1) xa_nil)) (by show walls.items.length + 1 ≤ 1000000; omega)))) xa_nil))) rfl

/-! the floors that the laws draw -/
structure Fl4 (n : Int) (fl : Floor) : Prop where
  L : FlL fl
  an : fl.a ≤ n
  bn : fl.b ≤ n
  wl : fl.c.items.length ≤ 100
  on : ∀ c ∈ fl.c.items, m_is_on fl.a fl.b c = true
  st : fl.c.items.Pairwise fun x y => DatumOrd.lt x y = true
theorem lt_tr {x y z : Cell} (h : DatumOrd.lt x y = true) (h' : DatumOrd.lt y z = true) : DatumOrd.lt x z = true := by
  rw [lt_pair] at *
  simp only [G.lt_int] at *
  by_cases e : x.1 = y.1
  · rw [if_pos e] at h
    by_cases e' : y.1 = z.1
    · rw [if_pos e'] at h'
      rw [if_pos (e.trans e')]
      simp at *; omega
    · rw [if_neg e'] at h'
      rw [if_neg (by rw [e]; exact e')]
      simp at *; omega
  · rw [if_neg e] at h
    by_cases e' : y.1 = z.1
    · rw [if_neg (by rw [← e']; exact e)]
      simp at *; omega
    · rw [if_neg e'] at h'
      simp at h h'
      rw [if_neg (by omega)]
      simp; omega
theorem rng_lt {lo hi : Int} : (rng lo hi).Pairwise fun i j => i < j := by
  unfold rng
  rw [List.pairwise_map]
  exact List.pairwise_lt_range.imp fun {i j} h => by omega
theorem shutcol_st (s : Scr) (at_ rate high x : Int) : (m_shutcol s at_ rate high x).Pairwise fun p q => DatumOrd.lt p q = true := by
  unfold m_shutcol
  rw [List.pairwise_map]
  refine (rng_lt.filter _).imp fun {i j} h => ?_
  rw [lt_pair, if_pos rfl]
  exact decide_eq_true h
theorem foldl_app {α β : Type} (g : β → List α) : ∀ (xs : List β) (c : List α), xs.foldl (fun c x => c ++ g x) c = c ++ (xs.map g).flatten
  | [], c => by simp
  | x :: xs, c => by rw [List.foldl_cons, foldl_app g xs, List.map_cons, List.flatten_cons, List.append_assoc]
theorem shuts_st (s : Scr) (at_ most : Int) : (m_shuts s at_ most).Pairwise fun p q => DatumOrd.lt p q = true := by
  unfold m_shuts
  rw [foldl_app, List.nil_append]
  refine List.pairwise_flatten.mpr ⟨fun l hl => ?_, ?_⟩
  · obtain ⟨x, hx, rfl⟩ := List.mem_map.mp hl
    exact shutcol_st _ _ _ _ _
  · rw [List.pairwise_map]
    refine rng_lt.imp fun {i j} h p hp q hq => ?_
    unfold m_shutcol at hp hq
    obtain ⟨y, _, rfl⟩ := List.mem_map.mp hp
    obtain ⟨z, _, rfl⟩ := List.mem_map.mp hq
    rw [lt_pair, if_neg (by dsimp only; omega)]
    exact decide_eq_true h
theorem fl4 (s : Scr) (at_ : Int) {n : Int} (h : 0 < n ∧ n ≤ 5) : Fl4 n (m_law_floor s at_ n) where
  L := ⟨(wide_b s at_ h.1).1, by have := (wide_b s at_ h.1).2; show m_wide s at_ n ≤ 6; omega, (high_b s at_ h.1).1, by have := (high_b s at_ h.1).2; show m_high s at_ n ≤ 6; omega⟩
  an := (wide_b s at_ h.1).2
  bn := (high_b s at_ h.1).2
  wl := by
    have h1 := wide_b s at_ h.1
    have h2 := high_b s at_ h.1
    have z := foldl_app_len (fun x => m_shutcol s at_ (m_rate s at_) (m_high s at_ n) x) 5 (fun x => Nat.le_trans (shutcol_len _ _ _ _ _) (by omega)) (rng 0 (m_wide s at_ n)) []
    rw [rng_len] at z
    simp only [List.length_nil] at z
    show (m_shuts s at_ n).length ≤ 100
    unfold m_shuts
    omega
  on := shuts_on s at_ n
  st := shuts_st s at_ n

/-! couples -/
def pairsT (g : Cell → Cell → Bool) : List Cell → List (Cell × Cell)
  | [] => []
  | x :: r => ((r.filter (g x)).map fun o => (x, o)) ++ pairsT g r
theorem cutL_from {α : Type} (xs : List α) (n : Nat) : cutL xs (some ((n : Int) + 1)) none = xs.drop (n + 1) := by
  have e : ((n : Int) + 1) = ((n + 1 : Nat) : Int) := by omega
  unfold cutL
  rw [e, HT.sIx_nat, HT.sIx_none]
  rw [List.take_of_length_le (by rw [List.length_drop]; omega)]
  by_cases h : n + 1 ≤ xs.length
  · rw [Nat.min_eq_left h]
  · rw [Nat.min_eq_right (by omega), List.drop_eq_nil_of_le (Nat.le_refl _), List.drop_eq_nil_of_le (by omega)]
theorem foldl_flat {α β : Type} (f : β → List α) : ∀ (l : List β) (acc : List α), l.foldl (fun c p => c ++ f p) acc = acc ++ l.flatMap f
  | [], acc => by simp
  | x :: l, acc => by rw [List.foldl_cons, foldl_flat f l, List.flatMap_cons, List.append_assoc]
theorem pairs_enum (g : Cell → Cell → Bool) (xs : List Cell) : ∀ (ys pre : List Cell), xs = pre ++ ys → (((List.range' pre.length ys.length).zip ys).map fun p => (((p.1 : Nat) : Int), p.2)).flatMap (fun p => ((cutL xs (some (p.1 + 1)) none).filter (g p.2)).map fun o => (p.2, o)) = pairsT g ys
  | [], pre, _ => by simp [pairsT]
  | y :: r, pre, e => by
    have ih := pairs_enum g xs r (pre ++ [y]) (by rw [e]; simp)
    rw [List.length_append, List.length_singleton] at ih
    rw [List.length_cons, List.range'_succ, List.zip_cons_cons, List.map_cons, List.flatMap_cons, ih]
    show ((cutL xs (some ((pre.length : Int) + 1)) none).filter (g y)).map _ ++ _ = _
    rw [cutL_from]
    have e2 : xs.drop (pre.length + 1) = r := by
      rw [e, List.drop_append, List.drop_eq_nil_of_le (by omega)]
      simp
    rw [e2]
    rfl
theorem couples_pairs (fl : Floor) : m_couples fl = pairsT (m_looks fl) (m_open fl) := by
  unfold m_couples m_cpl
  rw [foldl_flat (fun p : Int × Cell => ((cutL (m_open fl) (some (p.1 + 1)) none).filter (m_looks fl p.2)).map fun o => (p.2, o)), List.nil_append]
  unfold enumL
  rw [List.range_eq_range']
  exact pairs_enum (m_looks fl) (m_open fl) (m_open fl) [] rfl
theorem mem_pairs (g : Cell → Cell → Bool) {p : Cell × Cell} : ∀ (xs : List Cell), (xs.Pairwise fun x y => DatumOrd.lt x y = true) → (p ∈ pairsT g xs ↔ p.1 ∈ xs ∧ p.2 ∈ xs ∧ DatumOrd.lt p.1 p.2 = true ∧ g p.1 p.2 = true)
  | [], _ => by simp [pairsT]
  | x :: r, h => by
    have h' := List.pairwise_cons.mp h
    have ih := mem_pairs g (p := p) r h'.2
    unfold pairsT
    rw [List.mem_append, ih]
    constructor
    · rintro (h1 | ⟨h1, h2, h3, h4⟩)
      · obtain ⟨o, ho, rfl⟩ := List.mem_map.mp h1
        have ho := List.mem_filter.mp ho
        exact ⟨by simp, List.mem_cons_of_mem _ ho.1, h'.1 o ho.1, ho.2⟩
      · exact ⟨List.mem_cons_of_mem _ h1, List.mem_cons_of_mem _ h2, h3, h4⟩
    · rintro ⟨h1, h2, h3, h4⟩
      rcases List.mem_cons.mp h1 with e1 | h1
      · rcases List.mem_cons.mp h2 with e2 | h2
        · rw [e1, e2, lt_self] at h3; cases h3
        · exact .inl (List.mem_map.mpr ⟨p.2, List.mem_filter.mpr ⟨h2, by rw [← e1]; exact h4⟩, Prod.ext e1.symm rfl⟩)
      · rcases List.mem_cons.mp h2 with e2 | h2
        · have := lt_tf (h'.1 p.1 h1)
          rw [← e2, h3] at this; cases this
        · exact .inr ⟨h1, h2, h3, h4⟩
theorem opn_strict {fl : Floor} (L : FlL fl) : (m_open fl).Pairwise fun x y => DatumOrd.lt x y = true := (all_strict L.2.2.1).filter _
theorem mem_couples {fl : Floor} (L : FlL fl) {p : Cell × Cell} : p ∈ m_couples fl ↔ p.1 ∈ m_open fl ∧ p.2 ∈ m_open fl ∧ DatumOrd.lt p.1 p.2 = true ∧ m_looks fl p.1 p.2 = true := by
  rw [couples_pairs]
  exact mem_pairs (m_looks fl) (m_open fl) (opn_strict L)
theorem looks_mono {fl fl' : Floor} (h : ∀ v, v ∈ fl.c.items → v ∈ fl'.c.items) {x y : Cell} (z : m_looks fl' x y = true) : m_looks fl x y = true := by
  rw [looks_iff] at *
  exact ⟨fun v hv hw => z.1 v hv (h v hw), fun p hp hw => z.2 p hp ⟨h _ hw.1, h _ hw.2⟩⟩
theorem mem_put {fl : Floor} {c v : Cell} : v ∈ (m_put fl c).c.items ↔ v ∈ fl.c.items ∨ v = c := by
  unfold m_put
  by_cases h : memB c fl.c.items = true
  · rw [if_pos h]
    exact ⟨.inl, fun z => z.elim id fun e => by rw [e]; exact memB_iff.mp h⟩
  · rw [if_neg h]
    show v ∈ sortT _ ↔ _
    rw [(sortT_perm _).mem_iff, List.mem_append, List.mem_singleton]
theorem mem_without {fl : Floor} {c v : Cell} : v ∈ (m_without fl c).c.items ↔ v ∈ fl.c.items ∧ v ≠ c := by
  show v ∈ fl.c.items.filter _ ↔ _
  rw [List.mem_filter]
  simp
theorem put_dim (fl : Floor) (c : Cell) : (m_put fl c).a = fl.a ∧ (m_put fl c).b = fl.b := by
  unfold m_put; split <;> exact ⟨rfl, rfl⟩
/-! couples in their order -/
theorem pairs_strict (g : Cell → Cell → Bool) : ∀ {xs : List Cell}, (xs.Pairwise fun x y => DatumOrd.lt x y = true) → (pairsT g xs).Pairwise fun p q => DatumOrd.lt p q = true
  | [], _ => List.Pairwise.nil
  | x :: r, h => by
    have h' := List.pairwise_cons.mp h
    unfold pairsT
    refine List.pairwise_append.mpr ⟨?_, pairs_strict g h'.2, ?_⟩
    · rw [List.pairwise_map]
      refine (h'.2.filter _).imp fun {a b} z => ?_
      rw [lt_pair, if_pos rfl]
      exact z
    · intro p hp q hq
      obtain ⟨o, ho, rfl⟩ := List.mem_map.mp hp
      have q1 := ((mem_pairs g r h'.2).mp hq).1
      have lt := h'.1 q.1 q1
      rw [lt_pair, if_neg (fun e => by dsimp only at e; rw [← e, lt_self] at lt; cases lt)]
      exact lt
theorem couples_strict {fl : Floor} (L : FlL fl) : (m_couples fl).Pairwise fun p q => DatumOrd.lt p q = true := by rw [couples_pairs]; exact pairs_strict _ (opn_strict L)
theorem plt_self (p : Cell × Cell) : DatumOrd.lt p p = false := by rw [lt_pair, if_pos rfl]; exact lt_self _
theorem pst_nodup {zs : List (Cell × Cell)} (h : zs.Pairwise fun p q => DatumOrd.lt p q = true) : zs.Nodup := h.imp fun {x y} h e => by
  rw [e, plt_self] at h; cases h
theorem plt_tf {x y : Cell × Cell} (h : DatumOrd.lt x y = true) : DatumOrd.lt y x = false := by
  rw [lt_pair] at *
  by_cases e : x.1 = y.1
  · rw [if_pos e] at h
    rw [if_pos e.symm]
    exact lt_tf h
  · rw [if_neg e] at h
    rw [if_neg fun z => e z.symm]
    exact lt_tf h
theorem pst_ext {xs ys : List (Cell × Cell)} (hx : xs.Pairwise fun p q => DatumOrd.lt p q = true) (hy : ys.Pairwise fun p q => DatumOrd.lt p q = true) (m : ∀ v, v ∈ xs ↔ v ∈ ys) : xs = ys :=
  srt_unique _ _ (hx.imp plt_tf) (hy.imp plt_tf) ((List.perm_ext_iff_of_nodup (pst_nodup hx) (pst_nodup hy)).mpr m)
/-! all see, all told -/
theorem pairs_sum (g : Cell → Cell → Bool) : ∀ (xs : List Cell), (∀ x ∈ xs, g x x = true) → (∀ x ∈ xs, ∀ y ∈ xs, g x y = g y x) → (xs.map fun c => (xs.filter (g c)).length).sum = xs.length + 2 * (pairsT g xs).length
  | [], _, _ => rfl
  | x :: r, h1, h2 => by
    have ih := pairs_sum g r (fun y hy => h1 y (List.mem_cons_of_mem _ hy)) (fun y hy z hz => h2 y (List.mem_cons_of_mem _ hy) z (List.mem_cons_of_mem _ hz))
    have e : ∀ (l : List Cell), (∀ y ∈ l, y ∈ r) → (l.map fun c => ((x :: r).filter (g c)).length).sum = (l.filter (g x)).length + (l.map fun c => (r.filter (g c)).length).sum := by
      intro l
      induction l with
      | nil => intro _; rfl
      | cons y l ihl =>
        intro hl
        have := ihl fun z hz => hl z (List.mem_cons_of_mem _ hz)
        rw [List.map_cons, List.sum_cons, this, List.map_cons, List.sum_cons]
        have s := h2 y (List.mem_cons_of_mem _ (hl y List.mem_cons_self)) x List.mem_cons_self
        cases hg : g x y with
        | true =>
          rw [List.filter_cons_of_pos (by rw [s]; exact hg), List.filter_cons_of_pos hg, List.length_cons, List.length_cons]; omega
        | false =>
          rw [List.filter_cons_of_neg (by rw [s, hg]; decide), List.filter_cons_of_neg (by rw [hg]; decide)]; omega
    rw [List.map_cons, List.sum_cons, e r fun _ h => h, ih, List.filter_cons_of_pos (h1 x List.mem_cons_self), List.length_cons, List.length_cons]
    have ep : pairsT g (x :: r) = ((r.filter (g x)).map fun o => (x, o)) ++ pairsT g r := rfl
    rw [ep, List.length_append, List.length_map]
    omega

/-! floors by their walls -/
theorem lt_irr (x : Cell) : DatumOrd.lt x x = false := lt_self x
theorem strict_ext {xs ys : List Cell} (hx : xs.Pairwise fun x y => DatumOrd.lt x y = true) (hy : ys.Pairwise fun x y => DatumOrd.lt x y = true) (m : ∀ v, v ∈ xs ↔ v ∈ ys) : xs = ys := by
  have nd : ∀ {zs : List Cell}, zs.Pairwise (fun x y => DatumOrd.lt x y = true) → zs.Nodup := fun h => h.imp fun {x y} h e => by
    rw [e, lt_irr] at h; cases h
  exact srt_unique _ _ (hx.imp lt_tf) (hy.imp lt_tf) ((List.perm_ext_iff_of_nodup (nd hx) (nd hy)).mpr m)
theorem sort_strict {xs : List Cell} (h : xs.Nodup) : (sortT xs).Pairwise fun x y => DatumOrd.lt x y = true := by
  have nd : (sortT xs).Nodup := (sortT_perm xs).nodup_iff.mpr h
  have s := sortT_srt xs
  refine (s.and nd).imp fun {x y} h => ?_
  cases e : DatumOrd.lt x y with
  | true => rfl
  | false => exact absurd (LOrd.anti x y h.1 e) h.2
theorem sortT_congr {xs ys : List Cell} (p : xs.Perm ys) : sortT xs = sortT ys := sortT_of (sortT_srt ys) ((sortT_perm ys).trans p.symm)
theorem lt_at' (t x y : Cell) (h : DatumOrd.lt x y = true) : DatumOrd.lt (m_at t x) (m_at t y) = true := by rw [lt_at]; exact h
theorem strict_nodup {zs : List Cell} (h : zs.Pairwise fun x y => DatumOrd.lt x y = true) : zs.Nodup := h.imp fun {x y} h e => by
  rw [e, lt_irr] at h; cases h
structure FloorOk (fl : Floor) : Prop where
  a1 : 1 ≤ fl.a
  a2 : fl.a ≤ 12
  b1 : 1 ≤ fl.b
  b2 : fl.b ≤ 12
  on : ∀ c ∈ fl.c.items, m_is_on fl.a fl.b c = true
  st : fl.c.items.Pairwise fun x y => DatumOrd.lt x y = true
theorem fl_ext {f g : Floor} (ha : f.a = g.a) (hb : f.b = g.b) (hc : f.c.items = g.c.items) : f = g := by
  obtain ⟨a, b, ⟨c⟩⟩ := f
  obtain ⟨a', b', ⟨c'⟩⟩ := g
  dsimp only at ha hb hc
  subst ha hb hc
  rfl
theorem open_strict {fl : Floor} (hb : 0 < fl.b) : (m_open fl).Pairwise fun x y => DatumOrd.lt x y = true := (all_strict hb).filter _
theorem foldl_snoc {α β : Type} (f : β → α) : ∀ (xs : List β) (c : List α), xs.foldl (fun c x => c ++ [f x]) c = c ++ xs.map f
  | [], c => by simp
  | x :: xs, c => by rw [List.foldl_cons, foldl_snoc f xs, List.append_assoc]; rfl
theorem at_zero (c : Cell) : m_at (0, 0) c = c := Prod.ext (by show 0 + c.1 = c.1; omega) (by show 0 + c.2 = c.2; omega)

theorem all_len36 {fl : Floor} (L : FlL fl) : (m_all_cells fl).length ≤ 36 := by
  unfold m_all_cells
  rw [List.length_map, rng_len]
  have h1 : fl.a * fl.b ≤ 6 * 6 := Int.mul_le_mul L.2.1 L.2.2.2 (by have := L.2.2.1; omega) (by decide)
  omega
theorem put_L {fl : Floor} {c : Cell} (L : FlL fl) : FlL (m_put fl c) := by unfold m_put; split <;> exact L
theorem flip_L {fl : Floor} (L : FlL fl) : FlL (m_flipped fl) := ⟨L.2.2.1, L.2.2.2, L.1, L.2.1⟩
/-! floors with their walls in order -/
structure FS (fl : Floor) : Prop where
  L : FlL fl
  on : ∀ c ∈ fl.c.items, m_is_on fl.a fl.b c = true
  st : fl.c.items.Pairwise fun x y => DatumOrd.lt x y = true
theorem FS.len {fl : Floor} (h : FS fl) : fl.c.items.length ≤ 36 := by
  have e : fl.c.items = (m_all_cells fl).filter fun c => memB c fl.c.items := strict_ext h.st ((all_strict h.L.2.2.1).filter _) fun v => by
    rw [List.mem_filter, mem_all h.L.2.2.1, memB_iff]
    exact ⟨fun z => ⟨h.on v z, z⟩, fun z => z.2⟩
  rw [e]
  exact Nat.le_trans (List.length_filter_le _ _) (all_len36 h.L)
theorem FS.put {fl : Floor} (h : FS fl) {c : Cell} (hc : m_is_on fl.a fl.b c = true) : FS (m_put fl c) := by
  refine ⟨put_L h.L, fun v hv => ?_, ?_⟩
  · rw [(put_dim fl c).1, (put_dim fl c).2]
    rcases mem_put.mp hv with z | z
    · exact h.on v z
    · rw [z]; exact hc
  · unfold m_put
    split
    · exact h.st
    · rename_i hn
      have hn : c ∉ fl.c.items := fun z => hn (memB_iff.mpr z)
      exact sort_strict (List.nodup_append.mpr ⟨strict_nodup h.st, by simp, fun x hx y hy e => by rw [List.mem_singleton] at hy; rw [e, hy] at hx; exact hn hx⟩)
theorem FS.without {fl : Floor} (h : FS fl) (c : Cell) : FS (m_without fl c) := ⟨h.L, fun v hv => h.on v (mem_without.mp hv).1, h.st.filter _⟩
theorem FS.mir {fl : Floor} (h : FS fl) : FS (m_mirrored fl) := by
  refine ⟨h.L, fun v hv => ?_, sort_strict ?_⟩
  · obtain ⟨p, hp, rfl⟩ := List.mem_map.mp ((sortT_perm _).mem_iff.mp hv)
    have := on_iff.mp (h.on p hp)
    exact on_iff.mpr (by show 0 ≤ fl.a - 1 - p.1 ∧ fl.a - 1 - p.1 < fl.a ∧ 0 ≤ p.2 ∧ p.2 < fl.b; omega)
  · rw [List.nodup_iff_pairwise_ne, List.pairwise_map]
    refine (strict_nodup h.st).imp fun {x y} z e => z ?_
    have e1 := congrArg Prod.fst e
    have e2 := congrArg Prod.snd e
    dsimp only at e1 e2
    exact Prod.ext (by omega) e2
theorem FS.flip {fl : Floor} (h : FS fl) : FS (m_flipped fl) := by
  refine ⟨flip_L h.L, fun v hv => ?_, sort_strict ?_⟩
  · obtain ⟨p, hp, rfl⟩ := List.mem_map.mp ((sortT_perm _).mem_iff.mp hv)
    have := on_iff.mp (h.on p hp)
    exact on_iff.mpr (by show 0 ≤ p.2 ∧ p.2 < fl.b ∧ 0 ≤ p.1 ∧ p.1 < fl.a; omega)
  · rw [List.nodup_iff_pairwise_ne, List.pairwise_map]
    refine (strict_nodup h.st).imp fun {x y} z e => z ?_
    exact Prod.ext (congrArg Prod.snd e) (congrArg Prod.fst e)
theorem put_without {fl : Floor} (h : FS fl) {c : Cell} (hc : c ∈ fl.c.items) : m_put (m_without fl c) c = fl := by
  have h2 := (h.without c).put (c := c) (h.on c hc)
  refine fl_ext (put_dim _ _).1 (put_dim _ _).2 (strict_ext h2.st h.st fun v => ?_)
  rw [mem_put, mem_without]
  by_cases e : v = c
  · rw [e]; simp [hc]
  · simp [e]
theorem without_put {fl : Floor} (h : FS fl) {c : Cell} (ho : m_is_on fl.a fl.b c = true) (hc : c ∉ fl.c.items) : m_without (m_put fl c) c = fl := by
  have h2 := (h.put ho).without c
  refine fl_ext (put_dim _ _).1 (put_dim _ _).2 (strict_ext h2.st h.st fun v => ?_)
  rw [mem_without, mem_put]
  by_cases e : v = c
  · rw [e]; simp [hc]
  · simp [e]
theorem without_same {fl : Floor} {c : Cell} (hc : c ∉ fl.c.items) : m_without fl c = fl := by
  refine fl_ext rfl rfl ?_
  show fl.c.items.filter _ = _
  exact List.filter_eq_self.mpr fun v hv => by
    have : v ≠ c := fun e => hc (e ▸ hv)
    simp [this]
theorem put_same {fl : Floor} {c : Cell} (hc : c ∈ fl.c.items) : m_put fl c = fl := by unfold m_put; rw [if_pos (memB_iff.mpr hc)]
theorem mir_mir {fl : Floor} (h : FS fl) : m_mirrored (m_mirrored fl) = fl := by
  refine fl_ext rfl rfl (strict_ext h.mir.mir.st h.st fun v => ?_)
  have M := moved_mir h.L
  have M2 := moved_mir (fl := m_mirrored fl) h.mir.L
  have e : v = (fun p : Cell => (fl.a - 1 - p.1, p.2)) ((fun p : Cell => (fl.a - 1 - p.1, p.2)) v) := Prod.ext (by dsimp only; omega) rfl
  rw [e]
  exact (M2.wal _).trans (M.wal _) |>.trans (by rw [← e])
theorem flip_flip {fl : Floor} (h : FS fl) : m_flipped (m_flipped fl) = fl := by
  refine fl_ext rfl rfl (strict_ext h.flip.flip.st h.st fun v => ?_)
  exact ((moved_swp (fl := m_flipped fl) h.flip.L).wal ((fun p : Cell => (p.2, p.1)) v)).trans ((moved_swp h.L).wal v)

theorem looks_me {fl : Floor} (L : FlL fl) {c : Cell} (h : c ∈ m_open fl) : m_looks fl c c = true := by
  have hc := (mem_open L.2.2.1).mp h
  have N := near_on L hc.1 hc.1
  rw [looks_spots N, spots_iff]
  refine ⟨?_, hc.2⟩
  obtain ⟨h1, h2⟩ := lc_near N (by rw [show c.1 - c.1 = 0 by omega, show c.2 - c.2 = 0 by omega]; decide)
  rw [h2]
  exact ⟨fun d hd => by rw [h1 d hd]; exact hc.2, fun p hp => by cases hp⟩
theorem Moved.open_perm {φ ψ : Cell → Cell} {fl fl' : Floor} (M : Moved φ ψ fl fl') : (m_open fl').Perm ((m_open fl).map φ) := by
  refine (List.perm_ext_iff_of_nodup (strict_nodup (opn_strict M.L')) ?_).mpr fun v => ?_
  · rw [List.nodup_iff_pairwise_ne, List.pairwise_map]
    exact (strict_nodup (opn_strict M.L)).imp fun {x y} z e => z (by rw [← M.inv x, ← M.inv y, e])
  · rw [mem_open M.L'.2.2.1, List.mem_map]
    constructor
    · rintro ⟨h1, h2⟩
      have e := M.inv' v
      rw [← e, M.on] at h1
      rw [← e, M.wal] at h2
      exact ⟨ψ v, (mem_open M.L.2.2.1).mpr ⟨h1, h2⟩, e⟩
    · rintro ⟨x, hx, rfl⟩
      have hx := (mem_open M.L.2.2.1).mp hx
      rw [M.on, M.wal]
      exact hx

def nesw : Tx := ⟨['n', 'e', 's', 'w']⟩
def ways : List Tx := [⟨['n']⟩, ⟨['e']⟩, ⟨['s']⟩, ⟨['w']⟩]
def stepsT : List (Tx × (Int × Int)) := [((⟨['n']⟩ : Tx), (0, -1)), ((⟨['e']⟩ : Tx), (1, 0)), ((⟨['s']⟩ : Tx), (0, 1)), ((⟨['w']⟩ : Tx), (-1, 0))]
theorem ways4 {u : Tx} (h : u ∈ ways) : u = ⟨['n']⟩ ∨ u = ⟨['e']⟩ ∨ u = ⟨['s']⟩ ∨ u = ⟨['w']⟩ := by
  simpa [ways] using h
theorem ways_occ {u : Tx} (h : u ∈ ways) : occX ⟨['n', 'e', 's', 'w']⟩ u ≠ [] := by
  rcases ways4 h with rfl | rfl | rfl | rfl <;> decide +kernel
theorem ways_turn {u : Tx} (h : u ∈ ways) : (0 ≤ (ixX ⟨['n', 'e', 's', 'w']⟩ u + (1 : Int)) % (4 : Int) ∧ (ixX ⟨['n', 'e', 's', 'w']⟩ u + (1 : Int)) % (4 : Int) < (((⟨['n', 'e', 's', 'w']⟩ : Tx).l.length : Nat) : Int)) ∨ ((ixX ⟨['n', 'e', 's', 'w']⟩ u + (1 : Int)) % (4 : Int) < 0 ∧ 0 ≤ (ixX ⟨['n', 'e', 's', 'w']⟩ u + (1 : Int)) % (4 : Int) + (((⟨['n', 'e', 's', 'w']⟩ : Tx).l.length : Nat) : Int)) := by
  refine .inl ⟨Int.emod_nonneg _ (by decide), ?_⟩
  exact Int.emod_lt_of_pos _ (by decide)
theorem ways_key {u : Tx} (h : u ∈ ways) : dHas stepsT u = true := by
  rcases ways4 h with rfl | rfl | rfl | rfl <;> decide +kernel
theorem ways_ch {i : Int} (h : 0 ≤ i ∧ i < 4) : chD ⟨['n', 'e', 's', 'w']⟩ i ∈ ways := by
  have : i = 0 ∨ i = 1 ∨ i = 2 ∨ i = 3 := by omega
  rcases this with rfl | rfl | rfl | rfl <;> decide +kernel
abbrev Eye := T3 Cell Tx Int
structure EyeOk (fl : Floor) (e : Eye) : Prop where
  L : FlL fl
  on : m_is_on fl.a fl.b e.a = true
  op : e.a ∉ fl.c.items
  w : e.b ∈ ways
  c0 : 0 ≤ e.c
  c1 : e.c < 1000
theorem EyeOk.near {fl : Floor} {e : Eye} (ok : EyeOk fl e) {c : Cell} (hc : m_is_on fl.a fl.b c = true) : e.b ∈ ways ∧ ((-1000 < e.a.1 - c.1 ∧ e.a.1 - c.1 < 1000) ∧ -1000 < e.a.2 - c.2 ∧ e.a.2 - c.2 < 1000) ∧ 0 ≤ e.c ∧ e.c < 1000 := by
  have h1 := on_iff.mp ok.on
  have h2 := on_iff.mp hc
  obtain ⟨l1, l2, l3, l4⟩ := ok.L
  exact ⟨ok.w, by omega, ok.c0, ok.c1⟩
theorem enum_len {α : Type} (xs : List α) : (enumL xs).length = xs.length := by
  unfold enumL
  simp
theorem enum_mem {α : Type} {xs : List α} {p : Int × α} (h : p ∈ enumL xs) : p.2 ∈ xs := by
  unfold enumL at h
  obtain ⟨q, hq, rfl⟩ := List.mem_map.mp h
  exact (List.of_mem_zip hq).2

/-! Keeper -/
abbrev Cpl := Cell × Cell
abbrev Bc := List (Cell × List Cpl)
abbrev cK (K : PySem.W.Frag) : Addr := He.ga K "Keeper"
structure Ks where
  fl : Floor
  bc : Bc
  cps : List Cpl
  many : Int
def kO2 (C : Addr) (fl : Floor) (d : Bc) : O := .ins C ["floor", "by_cell"] [.fro (enc fl), oD d]
def kO (C : Addr) (s : Ks) : O := .ins C ["floor", "by_cell", "couples", "many"] [.fro (enc s.fl), oD s.bc, .fro (enc s.cps), .fro (enc s.many)]
def m_met (one other : Cell) : List Cell := (m_line one other).cps.foldl (fun l p => l ++ [p.1, p.2]) (m_line one other).cells
def m_addk (p : Cpl) (d : Bc) (c : Cell) : Bc := dPut d c ((dGet d c).getD [] ++ [p])
def m_book (d : Bc) (one other : Cell) : Bc := (m_met one other).foldl (m_addk (one, other)) d
def DB (n : Nat) (d : Bc) : Prop := d.length ≤ n ∧ ∀ k, ((dGet d k).getD []).length ≤ n
theorem dPut_len (d : Bc) (k : Cell) (x : List Cpl) : (dPut d k x).length ≤ d.length + 1 := by
  unfold dPut
  split
  · rw [List.length_map]; omega
  · simp
theorem DB.add {n : Nat} {d : Bc} (h : DB n d) (p : Cpl) (c : Cell) : DB (n + 1) (m_addk p d c) := by
  refine ⟨Nat.le_trans (dPut_len _ _ _) (by have := h.1; omega), fun k => ?_⟩
  unfold m_addk
  rw [dGet_put]
  split
  · show ((dGet d c).getD [] ++ [p]).length ≤ n + 1
    rw [List.length_append]
    have := h.2 c
    simpa using this
  · exact Nat.le_succ_of_le (h.2 k)
theorem DB.mono {n m : Nat} {d : Bc} (h : DB n d) (hm : n ≤ m) : DB m d := ⟨Nat.le_trans h.1 hm, fun k => Nat.le_trans (h.2 k) hm⟩
theorem DB.fold (p : Cpl) : ∀ (cs : List Cell) {n : Nat} {d : Bc}, DB n d → DB (n + cs.length) (cs.foldl (m_addk p) d)
  | [], _, _, h => h
  | c :: cs, n, d, h => by
    rw [List.foldl_cons, List.length_cons]
    exact (DB.fold p cs (h.add p c)).mono (by omega)
theorem met_fold (l : List Cpl) (acc : List Cell) : (l.foldl (fun l p => l ++ [p.1, p.2]) acc).length = acc.length + 2 * l.length := by
  induction l generalizing acc with
  | nil => simp
  | cons p r ih => rw [List.foldl_cons, ih, List.length_append, List.length_cons]; simp; omega
theorem met_len {one other : Cell} (h : LineOk one other) : (m_met one other).length ≤ 301 := by
  have := line_len h
  unfold m_met
  rw [met_fold]
  omega
theorem DB.book {n : Nat} {d : Bc} (h : DB n d) {one other : Cell} (hl : LineOk one other) : DB (n + 301) (m_book d one other) :=
  (DB.fold _ _ h).mono (by have := met_len hl; omega)
theorem sc_kbook : FnScope ["self", "one", "other", "line", "met", "couple", "cell"] ["self", "one", "other"] (defScope s_Keeper_book) := ⟨rfl, rfl, rfl, by decide +kernel, rfl, by decide +kernel, by decide +kernel⟩
abbrev sp_kbook (K : PySem.W.Frag) : Sp := spM K (fun (y : (Floor × Bc) × Cell × Cell) => [enc y.2.1, enc y.2.2]) (fun y => kO2 (cK K) y.1.1 y.1.2) (fun y => LineOk y.2.1 y.2.2 ∧ DB 900000 y.1.2) (fun y => (.ok (.fro .non), kO2 (cK K) y.1.1 (m_book y.1.2 y.2.1 y.2.2)))
theorem ok_Keeper_book {C : Addr} (F : FnF K "book" "Keeper.book" s_Keeper_book f fd) (cl_Keeper : Cls K (cK K)) (na_Keeper_by_cell : NoAttr K (cK K) "by_cell") (cl_Line : Cls K C) (na_Line_cells : NoAttr K C "cells") (na_Line_couples : NoAttr K C "couples") (m_list : mg "list" = none)
    (h_Line___init__ : MkG P w K mg base 3 "Line" C ["self", "one", "other"] (sp_init K C)) : FnOk P w K mg base (L2N.CX P w) 5 f fd ["self", "one", "other"] (sp_kbook K) := by
  refine def_meth F sc_kbook (fun _ => rfl) fun y E hp => ?_
  obtain ⟨⟨fl, d⟩, one, other⟩ := y
  obtain ⟨hl, hd⟩ : LineOk one other ∧ DB 900000 d := hp
  have ll := line_len hl
  refine ⟨.nx [some (kO2 (cK K) fl (m_book d one other)), fv one, fv other, some (.fro (lineD C (m_lso one other))), fv (m_met one other), none, none], ?_, .nx rfl rfl⟩
  refine xb_cons (ρ1 := [some (kO2 (cK K) fl d), fv one, fv other, some (.fro (lineD C (m_lso one other))), none, none, none]) (xs_setF 3 (XP.cast (XN.p (xn_make h_Line___init__ (one, other) hl rfl rfl (xa_cons (xp_var 1) (xa_cons (xp_var 2) xa_nil)))) (by rw [lineO_d]; rfl))) ?_
  refine xb_cons (ρ1 := [some (kO2 (cK K) fl d), fv one, fv other, some (.fro (lineD C (m_lso one other))), ov (m_line one other).cells, none, none]) (xs_setM 4 (xn_lstO m_list (xs := (m_line one other).cells) (xp_fld (d := enc (m_line one other).cells) 0 cl_Line na_Line_cells (xp_var 3)))) ?_
  refine xb_cons (ρ1 := [some (kO2 (cK K) fl d), fv one, fv other, some (.fro (lineD C (m_lso one other))), ov (m_met one other), none, none]) (XS.cast (xs_forN (m_line one other).cps enc (fun s => [some (kO2 (cK K) fl d), fv one, fv other, some (.fro (lineD C (m_lso one other))), ov s, none, none]) (fun s p => s ++ [p.1, p.2]) (fun i s => s.length ≤ 101 + 2 * i) (fun s x => [some (kO2 (cK K) fl d), fv one, fv other, some (.fro (lineD C (m_lso one other))), ov s, fv x, none]) (m_line one other).cells
    (xi_lt (xp_fld (d := enc (m_line one other).cps) 1 cl_Line na_Line_couples (xp_var 3))) (tg_n 5) (fun s x => eg_name 5) (by omega) fun i s x hx hI => ⟨?_, ?_⟩) rfl) ?_
  · have hi := (List.getElem?_eq_some_iff.mp hx).1
    exact xb_forgets [5] (xb_one (xs_exprM (xx_ext (ys := [x.1, x.2]) (xl_var 4) (tp_lstP m_list (xp_var 5)) (by show s.length + 2 ≤ 1000000; omega)))) rfl
  · rw [List.length_append]; show s.length + 2 ≤ _; omega
  refine xb_fz 4 rfl ?_ (ρ2 := [some (kO2 (cK K) fl d), fv one, fv other, some (.fro (lineD C (m_lso one other))), fv (m_met one other), none, none])
  refine xb_one (XS.cast (xs_forN (m_met one other) enc (fun s => [some (kO2 (cK K) fl s), fv one, fv other, some (.fro (lineD C (m_lso one other))), fv (m_met one other), none, none]) (m_addk (one, other)) (fun i s => DB (900000 + i) s) (fun s x => [some (kO2 (cK K) fl s), fv one, fv other, some (.fro (lineD C (m_lso one other))), fv (m_met one other), none, fv x]) d
    (xi_lt (xp_var 4)) (tg_n 6) (fun s x => eg_name 6) hd fun i s x hx hI => ⟨?_, ?_⟩) rfl)
  · have hi := (List.getElem?_eq_some_iff.mp hx).1
    have := met_len hl
    have h1 := hI.1
    have h2 := hI.2 x
    exact xb_forgets [6] (ρ1 := [some (kO2 (cK K) fl (m_addk (one, other) s x)), fv one, fv other, some (.fro (lineD C (m_lso one other))), fv (m_met one other), none, fv x]) (xb_one (xs_dput (d := s) (x := (dGet s x).getD [] ++ [(one, other)]) (xl_fld 1 cl_Keeper na_Keeper_by_cell (xl_var 0)) (xp_var 6) (tp_catL (xs := (dGet s x).getD []) (ys := [(one, other)]) (tp_dg2O (d := s) (xl_fld 1 cl_Keeper na_Keeper_by_cell (xl_var 0)) (xp_var 6) (tp_nilL (T := Cpl))) (xp_lst (ds := [enc (one, other)]) (xa_cons (tp_2 (xa_cons (xp_var 1) (xa_cons (xp_var 2) xa_nil))) xa_nil) (by show 1 ≤ 1000000; omega)) (by show ((dGet s x).getD []).length + 1 ≤ 1000000; omega)) (by omega))) rfl
  · exact hI.add _ _
theorem sc_kini : FnScope ["self", "floor", "cells", "at", "one", "other"] ["self", "floor"] (defScope s_Keeper___init__) := ⟨rfl, rfl, rfl, by decide +kernel, rfl, by decide +kernel, by decide +kernel⟩
def m_bc (fl : Floor) : Bc := (enumL (m_all_cells fl)).foldl (fun d p => (cutL (m_all_cells fl) (some (p.1 + 1)) none).foldl (fun d o => m_book d p.2 o) d) []
abbrev sp_kini (K : PySem.W.Frag) : Sp := spM K (fun (y : Floor) => [enc y]) (fun _ => .ins (cK K) [] []) (fun y => FlL y) (fun y => (.ok (.fro .non), kO (cK K) ⟨y, m_bc y, m_couples y, 0⟩))
theorem ok_Keeper___init__ (F : FnF K "__init__" "Keeper.__init__" s_Keeper___init__ f fd) (cl_Keeper : Cls K (cK K)) (na_Keeper_floor : NoAttr K (cK K) "floor") (na_Keeper_by_cell : NoAttr K (cK K) "by_cell") (na_Keeper_couples : NoAttr K (cK K) "couples") (na_Keeper_many : NoAttr K (cK K) "many") (m_enumerate : mg "enumerate" = none)
    (h_all_cells : FnG P w K mg base 1 "all_cells" ["floor"] (sp_all_cells K)) (h_couples_of : FnG P w K mg base 6 "couples_of" ["floor"] (sp_couples_of K)) (h_Keeper_book : MeG P w K mg base 5 (cK K) "book" ["self", "one", "other"] (sp_kbook K)) : FnOk P w K mg base (L2N.CX P w) 7 f fd ["self", "floor"] (sp_kini K) := by
  refine def_meth F sc_kini (fun _ => rfl) fun fl E hp => ?_
  have L : FlL fl := hp
  have al := all_len36 L
  haveI : Sm (m_all_cells fl) := ⟨by omega⟩
  refine ⟨.nx [some (kO (cK K) ⟨fl, m_bc fl, m_couples fl, 0⟩), fv fl, fv (m_all_cells fl), none, none, none], ?_, .nx rfl rfl⟩
  refine xb_cons (ρ1 := [some (.ins (cK K) ["floor"] [.fro (enc fl)]), fv fl, none, none, none, none]) (xs_fldM cl_Keeper na_Keeper_floor (XP.x (xp_var 1)) (xl_var 0)) ?_
  refine xb_cons (ρ1 := [some (kO2 (cK K) fl []), fv fl, none, none, none, none]) (xs_fldM cl_Keeper na_Keeper_by_cell (xx_dnew (κ := Cell) (β := List Cpl) (.inl rfl)) (xl_var 0)) ?_
  refine xb_cons (ρ1 := [some (kO2 (cK K) fl []), fv fl, fv (m_all_cells fl), none, none, none]) (xs_setF 2 (tp_call h_all_cells fl L.b (xa_cons (xp_var 1) xa_nil))) ?_
  refine xb_cons (ρ1 := [some (kO2 (cK K) fl (m_bc fl)), fv fl, fv (m_all_cells fl), none, none, none]) (XS.cast (xs_forN (enumL (m_all_cells fl)) enc (fun s => [some (kO2 (cK K) fl s), fv fl, fv (m_all_cells fl), none, none, none]) (fun d p => (cutL (m_all_cells fl) (some (p.1 + 1)) none).foldl (fun d o => m_book d p.2 o) d) (fun i s => DB (10836 * i) s) (fun s x => [some (kO2 (cK K) fl s), fv fl, fv (m_all_cells fl), fv x.1, fv x.2, none]) []
    (xi_en m_enumerate (xp_var 2)) (tg_t (n := 2) (tgs_1 (tg_n 3) (tgs_1 (tg_n 4) tgs_0))) (fun s x => eg_tup (egs_cons (eg_name 3) (egs_cons (eg_name 4) egs_nil))) ⟨by simp, fun k => by simp [dGet]⟩ fun i s x hx hI => ?_) rfl) ?_
  · have hi := (List.getElem?_eq_some_iff.mp hx).1
    rw [enum_len] at hi
    have xm := (mem_all L.2.2.1).mp (enum_mem (List.mem_of_getElem? hx))
    have hz := cutL_len (m_all_cells fl) (some (x.1 + 1)) none
    have inv : ∀ (ys : List Cell) (j : Nat) (d : Bc), (∀ y ∈ ys, y ∈ m_all_cells fl) → DB (10836 * i + 301 * j) d → DB (10836 * i + 301 * (j + ys.length)) (ys.foldl (fun d o => m_book d x.2 o) d) := by
      intro ys
      induction ys with
      | nil => intro j d _ h; exact h
      | cons y ys ih =>
        intro j d hm h
        rw [List.foldl_cons, List.length_cons, show j + (ys.length + 1) = (j + 1) + ys.length by omega]
        have lo := (on_line L xm ((mem_all L.2.2.1).mp (hm y List.mem_cons_self))).1
        exact ih (j + 1) _ (fun z hz => hm z (List.mem_cons_of_mem _ hz)) ((h.book lo).mono (by omega))
    refine ⟨?_, (inv _ 0 s (fun y hy => cutL_mem hy) hI).mono (by omega)⟩
    refine xb_forgets [3, 4] (ρ1 := [some (kO2 (cK K) fl ((cutL (m_all_cells fl) (some (x.1 + 1)) none).foldl (fun d o => m_book d x.2 o) s)), fv fl, fv (m_all_cells fl), fv x.1, fv x.2, none]) ?_ rfl
    exact xb_one (XS.cast (xs_forN (cutL (m_all_cells fl) (some (x.1 + 1)) none) enc (fun s => [some (kO2 (cK K) fl s), fv fl, fv (m_all_cells fl), fv x.1, fv x.2, none]) (fun d o => m_book d x.2 o) (fun j s => DB (10836 * i + 301 * j) s) (fun s o => [some (kO2 (cK K) fl s), fv fl, fv (m_all_cells fl), fv x.1, fv x.2, fv o]) s
      (xi_lt (tp_slL (xs := m_all_cells fl) (xp_var 2) (xo_some (tp_add (xp_var 3) tp_int)) xo_none)) (tg_n 5) (fun s x => eg_name 5) hI fun j s o ho hJ => by
        have hj := (List.getElem?_eq_some_iff.mp ho).1
        have om := (mem_all L.2.2.1).mp (cutL_mem (List.mem_of_getElem? ho))
        have lo := (on_line L xm om).1
        exact ⟨xb_forgets [5] (ρ1 := [some (kO2 (cK K) fl (m_book s x.2 o)), fv fl, fv (m_all_cells fl), fv x.1, fv x.2, fv o]) (xb_one (xs_exprM (xx_meth h_Keeper_book ((fl, s), x.2, o) ⟨lo, hJ.mono (by omega)⟩ (xl_var 0) rfl (xa_cons (xp_var 4) (xa_cons (xp_var 5) xa_nil))))) rfl, (hJ.book lo).mono (by omega)⟩) rfl)
  refine xb_cons (ρ1 := [some (.ins (cK K) ["floor", "by_cell", "couples"] [.fro (enc fl), oD (m_bc fl), .fro (enc (m_couples fl))]), fv fl, fv (m_all_cells fl), none, none, none]) (xs_fldM cl_Keeper na_Keeper_couples (XP.x (tp_call h_couples_of fl L (xa_cons (xp_var 1) xa_nil))) (xl_var 0)) ?_
  exact xb_one (xs_fldM cl_Keeper na_Keeper_many (XP.x (tp_int (i := 0))) (xl_var 0))

def bcOf (s : Ks) (c : Cell) : List Cpl := (dGet s.bc c).getD []
def m_foundOf (s : Ks) (ps : List Cpl) : List Cpl := ps.filter fun p => !eqB (m_looks s.fl p.1 p.2) (memB p s.cps)
def m_anew (s : Ks) (c : Cell) : Ks := { s with many := s.many + ((bcOf s c).length : Int) }
def BcOk (s : Ks) (c : Cell) : Prop := (∀ p ∈ bcOf s c, LineOk p.1 p.2) ∧ (bcOf s c).length ≤ 900000
theorem sc_kanew : FnScope ["self", "cell", "found", "couple", "is_seen"] ["self", "cell"] (defScope s_Keeper_look_anew) := ⟨rfl, rfl, rfl, by decide +kernel, rfl, by decide +kernel, by decide +kernel⟩
abbrev sp_kanew (K : PySem.W.Frag) : Sp := spM K (fun (y : Ks × Cell) => [enc y.2]) (fun y => kO (cK K) y.1) (fun y => BcOk y.1 y.2) (fun y => (oF (m_foundOf y.1 (bcOf y.1 y.2)), kO (cK K) (m_anew y.1 y.2)))
theorem ok_Keeper_look_anew (F : FnF K "look_anew" "Keeper.look_anew" s_Keeper_look_anew f fd) (cl_Keeper : Cls K (cK K)) (na_Keeper_floor : NoAttr K (cK K) "floor") (na_Keeper_by_cell : NoAttr K (cK K) "by_cell") (na_Keeper_couples : NoAttr K (cK K) "couples") (na_Keeper_many : NoAttr K (cK K) "many")
    (h_looks : FnG P w K mg base 5 "looks" ["floor", "one", "other"] (sp_looks K)) : FnOk P w K mg base (L2N.CX P w) 6 f fd ["self", "cell"] (sp_kanew K) := by
  refine def_meth F sc_kanew (fun _ => rfl) fun y E hp => ?_
  obtain ⟨s, c⟩ := y
  obtain ⟨h1, h2⟩ : BcOk s c := hp
  refine ⟨.rt (.fro (enc (m_foundOf s (bcOf s c)))) (some [some (kO (cK K) (m_anew s c)), fv c, fv (m_foundOf s (bcOf s c)), none, none]), ?_, .rt rfl rfl⟩
  refine xb_cons (ρ1 := [some (kO (cK K) s), fv c, ov (m_foundOf s []), none, none]) (xs_setM 2 (xx_lst xa_nil)) ?_
  refine xb_forC (bcOf s c) enc (fun i => [some (kO (cK K) { s with many := s.many + (i : Int) }), fv c, ov (m_foundOf s ((bcOf s c).take i)), none, none]) (fun i x => [some (kO (cK K) { s with many := s.many + (i : Int) }), fv c, ov (m_foundOf s ((bcOf s c).take i)), fv x, none])
    (xi_lt (tp_dg2O (d := s.bc) (xl_fld 1 cl_Keeper na_Keeper_by_cell (xl_var 0)) (xp_var 1) (tp_nilL (T := Cpl)))) (tg_n 3) (fun i x => eg_name 3) (fun i x hx => ?_) ?_ (by rw [show s.many + ((0 : Nat) : Int) = s.many by simp]; rfl)
  · have hi := (List.getElem?_eq_some_iff.mp hx).1
    have lo := h1 x (List.mem_of_getElem? hx)
    have e1 : m_foundOf s ((bcOf s c).take (i + 1)) = if (!eqB (m_looks s.fl x.1 x.2) (memB x s.cps)) = true then m_foundOf s ((bcOf s c).take i) ++ [x] else m_foundOf s ((bcOf s c).take i) := by
      rw [List.take_add_one, hx]
      unfold m_foundOf
      rw [List.filter_append]
      show _ ++ List.filter _ [x] = _
      rw [List.filter_cons, List.filter_nil]
      split
      · rfl
      · simp
    have fl : (m_foundOf s ((bcOf s c).take i)).length < 1000000 := by
      have z1 := List.length_filter_le (fun p => !eqB (m_looks s.fl p.1 p.2) (memB p s.cps)) ((bcOf s c).take i)
      rw [List.length_take] at z1
      show (List.filter _ _).length < _
      omega
    have tm : s.many + ((i + 1 : Nat) : Int) = s.many + (i : Int) + 1 := by omega
    refine xb_cons (ρ1 := [some (kO (cK K) { s with many := s.many + (i : Int) + 1 }), fv c, ov (m_foundOf s ((bcOf s c).take i)), fv x, none]) (xs_fldR 3 cl_Keeper na_Keeper_many (XP.x (tp_add (i := s.many + (i : Int)) (XL.p (xl_fld 3 cl_Keeper na_Keeper_many (xl_var 0))) (tp_int (i := 1)))) (xl_var 0)) ?_
    refine xb_cons (ρ1 := [some (kO (cK K) { s with many := s.many + (i : Int) + 1 }), fv c, ov (m_foundOf s ((bcOf s c).take i)), fv x, fv (m_looks s.fl x.1 x.2)]) (xs_setF 4 (tp_call h_looks (s.fl, x.1, x.2) lo (xa_cons (XL.p (xl_fld 0 cl_Keeper na_Keeper_floor (xl_var 0))) (xa_cons (tp_ix2a (p := x) (xp_var 3)) (xa_cons (tp_ix2b (p := x) (xp_var 3)) xa_nil))))) ?_
    rw [e1]
    refine xb_forgets [3, 4] (ρ1 := [some (kO (cK K) { s with many := s.many + (i : Int) + 1 }), fv c, ov (if (!eqB (m_looks s.fl x.1 x.2) (memB x s.cps)) = true then m_foundOf s ((bcOf s c).take i) ++ [x] else m_foundOf s ((bcOf s c).take i)), fv x, fv (m_looks s.fl x.1 x.2)]) ?_ (by rw [tm]; rfl)
    exact xb_one (xs_ifj (fun z => [some (kO (cK K) { s with many := s.many + (i : Int) + 1 }), fv c, ov z, fv x, fv (m_looks s.fl x.1 x.2)]) (te_ne (u := m_looks s.fl x.1 x.2) (XP.v (xp_var 4)) (XP.v (tv_in (xs := s.cps) (XP.v (xp_var 3)) (XP.v (XL.p (xl_fld 2 cl_Keeper na_Keeper_couples (xl_var 0))))))) (fun _ => xb_one (xs_exprM (xx_app (x := x) (xl_var 2) (xp_var 3) fl))) (fun _ => xb_nil))
  rw [List.take_length]
  refine xb_fz 2 rfl ?_ (ρ2 := [some (kO (cK K) (m_anew s c)), fv c, fv (m_foundOf s (bcOf s c)), none, none])
  exact xb_stop (xs_ret (XP.x (xp_var 2))) (fun _ z => nomatch z)
theorem sc_kput : FnScope ["self", "cell", "found", "couple"] ["self", "cell"] (defScope s_Keeper_put_solid) := ⟨rfl, rfl, rfl, by decide +kernel, rfl, by decide +kernel, by decide +kernel⟩
def m_kfl (s : Ks) (fl : Floor) : Ks := { s with fl := fl }
def m_kputS (s : Ks) (c : Cell) : Ks := m_anew (m_kfl s (m_put s.fl c)) c
def m_kputF (s : Ks) (c : Cell) : List Cpl := m_foundOf (m_kfl s (m_put s.fl c)) (bcOf s c)
def m_kput (s : Ks) (c : Cell) : Ks := { m_kputS s c with cps := s.cps.filter fun p => !memB p (m_kputF s c) }
def KOk (s : Ks) (c : Cell) : Prop := FlL s.fl ∧ s.fl.c.items.length ≤ 1000 ∧ m_is_on s.fl.a s.fl.b c = true ∧ BcOk s c ∧ s.cps.length ≤ 1000
abbrev sp_kput (K : PySem.W.Frag) : Sp := spM K (fun (y : Ks × Cell) => [enc y.2]) (fun y => kO (cK K) y.1) (fun y => KOk y.1 y.2 ∧ y.2 ∉ y.1.fl.c.items) (fun y => (oF (m_kputF y.1 y.2), kO (cK K) (m_kput y.1 y.2)))
theorem found_len (s : Ks) (ps : List Cpl) : (m_foundOf s ps).length ≤ ps.length := List.length_filter_le _ _
theorem ok_Keeper_put_solid (F : FnF K "put_solid" "Keeper.put_solid" s_Keeper_put_solid f fd) (cl_Keeper : Cls K (cK K)) (na_Keeper_floor : NoAttr K (cK K) "floor") (na_Keeper_couples : NoAttr K (cK K) "couples") (h_is_solid : FnG P w K mg base 3 "is_solid" ["floor", "cell"] (sp_is_solid K)) (h_with_solid : FnG P w K mg base 4 "with_solid" ["floor", "cell"] (sp_with_solid K))
    (h_Keeper_look_anew : MeG P w K mg base 6 (cK K) "look_anew" ["self", "cell"] (sp_kanew K)) : FnOk P w K mg base (L2N.CX P w) 7 f fd ["self", "cell"] (sp_kput K) := by
  refine def_meth F sc_kput (fun _ => rfl) fun y E hp => ?_
  obtain ⟨s, c⟩ := y
  obtain ⟨⟨h1, h2, h3, h4, h5⟩, hc⟩ : KOk s c ∧ c ∉ s.fl.c.items := hp
  refine ⟨.rt (.fro (enc (m_kputF s c))) (some [some (kO (cK K) (m_kput s c)), fv c, fv (m_kputF s c), none]), ?_, .rt rfl rfl⟩
  refine xb_ifF (XT.m (tt_b (tp_call (v := false) h_is_solid (s.fl, c) trivial (xa_cons (XL.p (xl_fld 0 cl_Keeper na_Keeper_floor (xl_var 0))) (xa_cons (xp_var 1) xa_nil)) (by dsimp only; rw [solid_on h3, memB_no.mpr hc]; rfl)))) ?_
  refine xb_cons (ρ1 := [some (kO (cK K) (m_kfl s (m_put s.fl c))), fv c, none, none]) (xs_fldR 0 cl_Keeper na_Keeper_floor (XP.x (tp_call (v := m_put s.fl c) h_with_solid (s.fl, c) (by show s.fl.c.items.length ≤ 100000; omega) (xa_cons (XL.p (xl_fld 0 cl_Keeper na_Keeper_floor (xl_var 0))) (xa_cons (xp_var 1) xa_nil)) (by dsimp only; rw [with_on h3]; rfl))) (xl_var 0)) ?_
  refine xb_cons (ρ1 := [some (kO (cK K) (m_kputS s c)), fv c, fv (m_kputF s c), none]) (xs_setM 2 (xx_meth h_Keeper_look_anew (m_kfl s (m_put s.fl c), c) h4 (xl_var 0) rfl (xa_cons (xp_var 1) xa_nil))) ?_
  refine xb_cons (ρ1 := [some (kO (cK K) (m_kput s c)), fv c, fv (m_kputF s c), none]) (xs_fldR 2 cl_Keeper na_Keeper_couples (XP.x (tp_lcf [("couple", 3)] s.cps (fun p => !memB p (m_kputF s c)) _ (xi_lt (XL.p (xl_fld 2 cl_Keeper na_Keeper_couples (xl_var 0)))) (tg_n 3) to_name (fun x hx => eg_name 3) (fun x hx => te_ni (XP.v (xp_var 3)) (XP.v (xp_var 2))) (fun x hx hk => xp_var 3) (by omega))) (xl_var 0)) ?_
  exact xb_stop (xs_ret (XP.x (xp_var 2))) (fun _ z => nomatch z)
theorem sc_ktake : FnScope ["self", "cell", "found"] ["self", "cell"] (defScope s_Keeper_take_solid) := ⟨rfl, rfl, rfl, by decide +kernel, rfl, by decide +kernel, by decide +kernel⟩
def m_ktakeS (s : Ks) (c : Cell) : Ks := m_anew (m_kfl s (m_without s.fl c)) c
def m_ktakeF (s : Ks) (c : Cell) : List Cpl := m_foundOf (m_kfl s (m_without s.fl c)) (bcOf s c)
def m_ktake (s : Ks) (c : Cell) : Ks := { m_ktakeS s c with cps := sortT (s.cps ++ m_ktakeF s c) }
abbrev sp_ktake (K : PySem.W.Frag) : Sp := spM K (fun (y : Ks × Cell) => [enc y.2]) (fun y => kO (cK K) y.1) (fun y => KOk y.1 y.2 ∧ y.2 ∈ y.1.fl.c.items) (fun y => (oF (m_ktakeF y.1 y.2), kO (cK K) (m_ktake y.1 y.2)))
theorem ok_Keeper_take_solid (F : FnF K "take_solid" "Keeper.take_solid" s_Keeper_take_solid f fd) (cl_Keeper : Cls K (cK K)) (na_Keeper_floor : NoAttr K (cK K) "floor") (na_Keeper_couples : NoAttr K (cK K) "couples") (m_sorted : mg "sorted" = none) (h_is_solid : FnG P w K mg base 3 "is_solid" ["floor", "cell"] (sp_is_solid K)) (h_without_solid : FnG P w K mg base 3 "without_solid" ["floor", "cell"] (sp_without_solid K))
    (h_Keeper_look_anew : MeG P w K mg base 6 (cK K) "look_anew" ["self", "cell"] (sp_kanew K)) : FnOk P w K mg base (L2N.CX P w) 7 f fd ["self", "cell"] (sp_ktake K) := by
  refine def_meth F sc_ktake (fun _ => rfl) fun y E hp => ?_
  obtain ⟨s, c⟩ := y
  obtain ⟨⟨h1, h2, h3, h4, h5⟩, hc⟩ : KOk s c ∧ c ∈ s.fl.c.items := hp
  refine ⟨.rt (.fro (enc (m_ktakeF s c))) (some [some (kO (cK K) (m_ktake s c)), fv c, fv (m_ktakeF s c)]), ?_, .rt rfl rfl⟩
  refine xb_ifF (XT.m (XT.cast (xt_not (tt_b (tp_call (v := true) h_is_solid (s.fl, c) trivial (xa_cons (XL.p (xl_fld 0 cl_Keeper na_Keeper_floor (xl_var 0))) (xa_cons (xp_var 1) xa_nil)) (by dsimp only; rw [solid_on h3, memB_iff.mpr hc]; rfl)))) rfl)) ?_
  refine xb_cons (ρ1 := [some (kO (cK K) (m_kfl s (m_without s.fl c))), fv c, none]) (xs_fldR 0 cl_Keeper na_Keeper_floor (XP.x (tp_call (v := m_without s.fl c) h_without_solid (s.fl, c) (by show s.fl.c.items.length ≤ 1000000; omega) (xa_cons (XL.p (xl_fld 0 cl_Keeper na_Keeper_floor (xl_var 0))) (xa_cons (xp_var 1) xa_nil)) (by dsimp only; rw [need_on h3]; rfl))) (xl_var 0)) ?_
  refine xb_cons (ρ1 := [some (kO (cK K) (m_ktakeS s c)), fv c, fv (m_ktakeF s c)]) (xs_setM 2 (xx_meth h_Keeper_look_anew (m_kfl s (m_without s.fl c), c) h4 (xl_var 0) rfl (xa_cons (xp_var 1) xa_nil))) ?_
  have fl := found_len (m_kfl s (m_without s.fl c)) (bcOf s c)
  have h42 := h4.2
  refine xb_cons (ρ1 := [some (kO (cK K) (m_ktake s c)), fv c, fv (m_ktakeF s c)]) (xs_fldR 2 cl_Keeper na_Keeper_couples (XP.x (tp_sorted m_sorted (tp_catL (xs := s.cps) (ys := m_ktakeF s c) (XL.p (xl_fld 2 cl_Keeper na_Keeper_couples (xl_var 0))) (xp_var 2) (by show s.cps.length + (m_foundOf _ _).length ≤ 1000000; omega)))) (xl_var 0)) ?_
  exact xb_stop (xs_ret (XP.x (xp_var 2))) (fun _ z => nomatch z)
theorem sc_know : FnScope ["self"] ["self"] (defScope s_Keeper_now) := ⟨rfl, rfl, rfl, by decide +kernel, rfl, by decide +kernel, by decide +kernel⟩
abbrev sp_know (K : PySem.W.Frag) : Sp := spM K (fun (_ : Ks) => []) (fun y => kO (cK K) y) (fun _ => True) (fun y => (oF y.fl, kO (cK K) y))
theorem ok_Keeper_now (F : FnF K "now" "Keeper.now" s_Keeper_now f fd) (cl_Keeper : Cls K (cK K)) (na_Keeper_floor : NoAttr K (cK K) "floor") : FnOk P w K mg base (L2N.CX P w) 1 f fd ["self"] (sp_know K) := by
  refine def_meth F sc_know (fun _ => rfl) fun s E hp => ?_
  refine ⟨.rt (.fro (enc s.fl)) (some [some (kO (cK K) s)]), ?_, .rt rfl rfl⟩
  exact xb_stop (xs_ret (XP.x (XL.p (xl_fld 0 cl_Keeper na_Keeper_floor (xl_var 0))))) (fun _ z => nomatch z)
theorem sc_kseen : FnScope ["self"] ["self"] (defScope s_Keeper_seen) := ⟨rfl, rfl, rfl, by decide +kernel, rfl, by decide +kernel, by decide +kernel⟩
abbrev sp_kseen (K : PySem.W.Frag) : Sp := spM K (fun (_ : Ks) => []) (fun y => kO (cK K) y) (fun _ => True) (fun y => (oF y.cps, kO (cK K) y))
theorem ok_Keeper_seen (F : FnF K "seen" "Keeper.seen" s_Keeper_seen f fd) (cl_Keeper : Cls K (cK K)) (na_Keeper_couples : NoAttr K (cK K) "couples") (m_list : mg "list" = none) : FnOk P w K mg base (L2N.CX P w) 1 f fd ["self"] (sp_kseen K) := by
  refine def_meth F sc_kseen (fun _ => rfl) fun s E hp => ?_
  refine ⟨.rt (.fro (enc s.cps)) (some [some (kO (cK K) s)]), ?_, .rt rfl rfl⟩
  exact xb_stop (xs_ret (XP.x (tp_lstL m_list (XL.p (xl_fld 2 cl_Keeper na_Keeper_couples (xl_var 0)))))) (fun _ z => nomatch z)

/-! floors with their walls in order -/
theorem couples_sum {fl : Floor} (L : FlL fl) : ((m_open fl).map fun c => ((m_open fl).filter (m_looks fl c)).length).sum = (m_open fl).length + 2 * (m_couples fl).length := by
  rw [couples_pairs]
  exact pairs_sum _ _ (fun x hx => looks_me L hx) fun x hx y hy => (looks_symm (near_on L ((mem_open L.2.2.1).mp hx).1 ((mem_open L.2.2.1).mp hy).1)).symm
theorem sum_perm {α : Type} (f : α → Nat) {xs ys : List α} (h : xs.Perm ys) : (xs.map f).sum = (ys.map f).sum := (h.map f).sum_nat
theorem Moved.many {φ ψ : Cell → Cell} {fl fl' : Floor} (M : Moved φ ψ fl fl') : (m_couples fl').length = (m_couples fl).length := by
  have s1 := couples_sum M.L
  have s2 := couples_sum M.L'
  have p := M.open_perm
  rw [sum_perm _ p, List.map_map] at s2
  have e : ((m_open fl).map ((fun c => ((m_open fl').filter (m_looks fl' c)).length) ∘ φ)) = (m_open fl).map fun c => ((m_open fl).filter (m_looks fl c)).length := by
    refine List.map_congr_left fun c hc => ?_
    show ((m_open fl').filter (m_looks fl' (φ c))).length = _
    rw [(p.filter _).length_eq, List.filter_map, List.length_map]
    congr 1
    refine List.filter_congr fun d hd => ?_
    exact M.looks (near_on M.L ((mem_open M.L.2.2.1).mp hc).1 ((mem_open M.L.2.2.1).mp hd).1)
  rw [e, s1, p.length_eq, List.length_map] at s2
  omega

/-! what a line meets -/
def metR (a d : Int) : List Cell := (relS a d).cps.foldl (fun l p => l ++ [p.1, p.2]) (relS a d).cells
def nodupB : List Cell → Bool
  | [] => true
  | x :: r => !memB x r && nodupB r
theorem nodupB_iff : ∀ {xs : List Cell}, nodupB xs = true → xs.Nodup
  | [], _ => List.nodup_nil
  | x :: r, h => by
    unfold nodupB at h
    rw [Bool.and_eq_true, Bool.not_eq_true'] at h
    exact List.nodup_cons.mpr ⟨memB_no.mp h.1, nodupB_iff h.2⟩
theorem metR_all : (rng (-6) 7).all (fun a => (rng (-6) 7).all fun d => nodupB (metR a d)) = true := by decide +kernel
theorem met_map (t : Cell) (cps : List (Cell × Cell)) : ∀ (acc : List Cell), (cps.map (sh2 t)).foldl (fun l p => l ++ [p.1, p.2]) (acc.map (m_at t)) = (cps.foldl (fun l p => l ++ [p.1, p.2]) acc).map (m_at t) := by
  induction cps with
  | nil => intro acc; rfl
  | cons p r ih =>
    intro acc
    rw [List.map_cons, List.foldl_cons, List.foldl_cons, ← ih]
    congr 1
    rw [List.map_append]
    rfl
theorem met_nodup {one other : Cell} (h : Near one other) : (m_met one other).Nodup := by
  have e : m_met one other = (metR (other.1 - one.1) (other.2 - one.2)).map (m_at one) := by
    show (LP one other).foldl _ (LC one other) = _
    rw [lp_eq h, lc_eq h, met_map]
    rfl
  rw [e, List.nodup_iff_pairwise_ne, List.pairwise_map]
  refine (nodupB_iff (List.all_eq_true.mp (List.all_eq_true.mp metR_all _ (rng_mem (by unfold Near at h; omega))) _ (rng_mem (by unfold Near at h; omega)))).imp fun {x y} z e => z ?_
  unfold m_at at e
  have e1 := congrArg Prod.fst e
  have e2 := congrArg Prod.snd e
  dsimp only at e1 e2
  exact Prod.ext (by omega) (by omega)
theorem mem_met {one other c : Cell} : c ∈ m_met one other ↔ c ∈ LC one other ∨ ∃ p ∈ LP one other, c = p.1 ∨ c = p.2 := by
  have key : ∀ (cps : List (Cell × Cell)) (acc : List Cell), c ∈ cps.foldl (fun l p => l ++ [p.1, p.2]) acc ↔ c ∈ acc ∨ ∃ p ∈ cps, c = p.1 ∨ c = p.2 := by
    intro cps
    induction cps with
    | nil => intro acc; simp
    | cons p r ih =>
      intro acc
      rw [List.foldl_cons, ih, List.mem_append]
      simp only [List.mem_cons, List.not_mem_nil, or_false]
      constructor
      · rintro ((h | h) | ⟨q, hq, h⟩)
        · exact .inl h
        · exact .inr ⟨p, .inl rfl, h⟩
        · exact .inr ⟨q, .inr hq, h⟩
      · rintro (h | ⟨q, rfl | hq, h⟩)
        · exact .inl (.inl h)
        · exact .inl (.inr h)
        · exact .inr ⟨q, hq, h⟩
  exact key _ _
/-- where a line does not meet the one cell that is another, it is as free -/
theorem looks_same {fl fl' : Floor} {c : Cell} (h : ∀ v, v ≠ c → (v ∈ fl'.c.items ↔ v ∈ fl.c.items)) {x y : Cell} (hm : c ∉ m_met x y) : m_looks fl' x y = m_looks fl x y := by
  rw [mem_met] at hm
  have h1 : ∀ v ∈ LC x y, (v ∈ fl'.c.items ↔ v ∈ fl.c.items) := fun v hv => h v fun e => hm (.inl (e ▸ hv))
  have h2 : ∀ p ∈ LP x y, (p.1 ∈ fl'.c.items ↔ p.1 ∈ fl.c.items) ∧ (p.2 ∈ fl'.c.items ↔ p.2 ∈ fl.c.items) := fun p hp => ⟨h _ fun e => hm (.inr ⟨p, hp, .inl e.symm⟩), h _ fun e => hm (.inr ⟨p, hp, .inr e.symm⟩)⟩
  rw [Bool.eq_iff_iff, looks_iff, looks_iff]
  unfold FreeP
  constructor
  · rintro ⟨a, b⟩
    exact ⟨fun v hv hw => a v hv ((h1 v hv).mpr hw), fun p hp hw => b p hp ⟨(h2 p hp).1.mpr hw.1, (h2 p hp).2.mpr hw.2⟩⟩
  · rintro ⟨a, b⟩
    exact ⟨fun v hv hw => a v hv ((h1 v hv).mp hw), fun p hp hw => b p hp ⟨(h2 p hp).1.mp hw.1, (h2 p hp).2.mp hw.2⟩⟩
/-! the book -/
def allPairs (fl : Floor) : List Cpl := pairsT (fun _ _ => true) (m_all_cells fl)
theorem addk_get (p : Cpl) (d : Bc) (c k : Cell) : (dGet (m_addk p d c) k).getD [] = (dGet d k).getD [] ++ if k = c then [p] else [] := by
  unfold m_addk
  rw [dGet_put]
  split
  · rename_i h; subst h; rfl
  · simp
theorem book_get (p : Cpl) (k : Cell) : ∀ (cs : List Cell) (d : Bc), cs.Nodup → (dGet (cs.foldl (m_addk p) d) k).getD [] = (dGet d k).getD [] ++ if memB k cs = true then [p] else []
  | [], d, _ => by
    rw [show memB k ([] : List Cell) = false from memB_no.mpr (by simp)]
    simp
  | c :: cs, d, nd => by
    have nd' := List.nodup_cons.mp nd
    rw [List.foldl_cons, book_get p k cs _ nd'.2, addk_get, List.append_assoc]
    congr 1
    by_cases e : k = c
    · subst e
      rw [if_pos rfl, memB_no.mpr nd'.1, memB_iff.mpr List.mem_cons_self]
      rfl
    · rw [if_neg e]
      by_cases h : k ∈ cs
      · rw [memB_iff.mpr h, memB_iff.mpr (List.mem_cons_of_mem _ h)]; rfl
      · rw [memB_no.mpr h, memB_no.mpr fun z => (List.mem_cons.mp z).elim e h]; rfl
theorem books_get (k : Cell) : ∀ (ps : List Cpl) (d : Bc), (∀ p ∈ ps, Near p.1 p.2) → (dGet (ps.foldl (fun d p => m_book d p.1 p.2) d) k).getD [] = (dGet d k).getD [] ++ ps.filter fun p => memB k (m_met p.1 p.2)
  | [], d, _ => by simp
  | p :: ps, d, h => by
    rw [List.foldl_cons, books_get k ps _ fun q hq => h q (List.mem_cons_of_mem _ hq)]
    show (dGet ((m_met p.1 p.2).foldl (m_addk (p.1, p.2)) d) k).getD [] ++ _ = _
    rw [book_get _ k _ d (met_nodup (h p List.mem_cons_self)), List.append_assoc, List.filter_cons]
    congr 1
    cases memB k (m_met p.1 p.2) <;> rfl
theorem bc_fold (fl : Floor) : m_bc fl = (allPairs fl).foldl (fun d p => m_book d p.1 p.2) [] := by
  have e : ∀ (xs : List (Int × Cell)) (d : Bc), xs.foldl (fun d p => (cutL (m_all_cells fl) (some (p.1 + 1)) none).foldl (fun d o => m_book d p.2 o) d) d = (xs.flatMap fun p => ((cutL (m_all_cells fl) (some (p.1 + 1)) none).filter (fun _ => true)).map fun o => (p.2, o)).foldl (fun d p => m_book d p.1 p.2) d := by
    intro xs
    induction xs with
    | nil => intro d; rfl
    | cons p r ih =>
      intro d
      rw [List.foldl_cons, ih, List.flatMap_cons, List.foldl_append, List.foldl_map, List.filter_eq_self.mpr (fun _ _ => rfl)]
  unfold m_bc
  rw [e]
  unfold allPairs enumL
  rw [List.range_eq_range']
  exact congrArg (fun l => l.foldl (fun (d : Bc) (p : Cpl) => m_book d p.1 p.2) []) (pairs_enum (fun _ _ => true) (m_all_cells fl) (m_all_cells fl) [] rfl)
theorem mem_allPairs {fl : Floor} (L : FlL fl) {p : Cpl} : p ∈ allPairs fl ↔ m_is_on fl.a fl.b p.1 = true ∧ m_is_on fl.a fl.b p.2 = true ∧ DatumOrd.lt p.1 p.2 = true := by
  unfold allPairs
  rw [mem_pairs _ _ (all_strict L.2.2.1), mem_all L.2.2.1, mem_all L.2.2.1]
  simp
theorem bc_is {fl : Floor} (L : FlL fl) (c : Cell) : (dGet (m_bc fl) c).getD [] = (allPairs fl).filter fun p => memB c (m_met p.1 p.2) := by
  rw [bc_fold, books_get c _ [] fun p hp => near_on L ((mem_allPairs L).mp hp).1 ((mem_allPairs L).mp hp).2.1]
  rfl
theorem bc_dims {fl fl' : Floor} (ha : fl'.a = fl.a) (hb : fl'.b = fl.b) : m_bc fl' = m_bc fl := by
  unfold m_bc m_all_cells
  rw [ha, hb]
theorem pairs_len (g : Cell → Cell → Bool) : ∀ (xs : List Cell), (pairsT g xs).length ≤ xs.length * xs.length
  | [] => Nat.zero_le _
  | x :: r => by
    have ih := pairs_len g r
    have ep : pairsT g (x :: r) = ((r.filter (g x)).map fun o => (x, o)) ++ pairsT g r := rfl
    have := List.length_filter_le (g x) r
    rw [ep, List.length_append, List.length_map, List.length_cons]
    have e : (r.length + 1) * (r.length + 1) = r.length * r.length + 2 * r.length + 1 := by rw [Nat.mul_add, Nat.add_mul]; omega
    omega
theorem mul_len {n m : Nat} (h : n ≤ m) : n * n ≤ m * m := Nat.mul_le_mul h h
theorem couples_len {fl : Floor} (L : FlL fl) : (m_couples fl).length ≤ 1000 ∧ (allPairs fl).length ≤ 1296 := by
  have h1 := all_len36 L
  constructor
  · have h2 := couples_sum L
    have h3 : (m_open fl).length ≤ 36 := Nat.le_trans (List.length_filter_le _ _) h1
    have h4 : ∀ (xs : List Cell), (xs.map fun c => ((m_open fl).filter (m_looks fl c)).length).sum ≤ xs.length * 36 := by
      intro xs
      induction xs with
      | nil => exact Nat.zero_le _
      | cons x r ih =>
        rw [List.map_cons, List.sum_cons, List.length_cons]
        have := List.length_filter_le (m_looks fl x) (m_open fl)
        omega
    have := h4 (m_open fl)
    omega
  · have := pairs_len (fun _ _ => true) (m_all_cells fl)
    have := mul_len h1
    show (pairsT _ _).length ≤ _
    omega
theorem bcok {fl : Floor} (L : FlL fl) (s : Ks) (hb : s.bc = m_bc fl) (c : Cell) : BcOk s c := by
  unfold BcOk bcOf
  rw [hb, bc_is L]
  refine ⟨fun p hp => ?_, ?_⟩
  · have := (mem_allPairs L).mp (List.mem_filter.mp hp).1
    exact (on_line L this.1 this.2.1).1
  · have := List.length_filter_le (fun p => memB c (m_met p.1 p.2)) (allPairs fl)
    have := (couples_len L).2
    omega
/-! the keeper tells what is told otherwise -/
theorem couples_mem {fl : Floor} (L : FlL fl) {p : Cpl} : p ∈ m_couples fl ↔ p ∈ allPairs fl ∧ m_looks fl p.1 p.2 = true := by
  rw [mem_couples L, mem_allPairs L, mem_open L.2.2.1, mem_open L.2.2.1]
  constructor
  · rintro ⟨⟨a, _⟩, ⟨b, _⟩, c, d⟩
    exact ⟨⟨a, b, c⟩, d⟩
  · rintro ⟨⟨a, b, c⟩, d⟩
    have N := near_on L a b
    refine ⟨⟨a, ?_⟩, ⟨b, ((looks_spots N).mp d).2⟩, c, d⟩
    exact fun z => ((looks_iff fl p.1 p.2).mp d).1 p.1 (lc_ini N).2 z
def m_diff (fl fl' : Floor) : List Cpl := (allPairs fl).filter fun p => !eqB (m_looks fl' p.1 p.2) (m_looks fl p.1 p.2)
theorem found_diff {fl fl' : Floor} (L : FlL fl) {c : Cell} (h : ∀ v, v ≠ c → (v ∈ fl'.c.items ↔ v ∈ fl.c.items)) (s : Ks) (hb : s.bc = m_bc fl) (hc : s.cps = m_couples fl) : m_foundOf (m_kfl s fl') (bcOf s c) = m_diff fl fl' := by
  unfold m_foundOf bcOf m_kfl m_diff
  dsimp only
  rw [hb, hc, bc_is L, List.filter_filter]
  refine List.filter_congr fun p hp => ?_
  have e : memB p (m_couples fl) = m_looks fl p.1 p.2 := by
    cases hk : m_looks fl p.1 p.2 with
    | true => exact memB_iff.mpr ((couples_mem L).mpr ⟨hp, hk⟩)
    | false => exact memB_no.mpr fun z => by rw [((couples_mem L).mp z).2] at hk; cases hk
  rw [e]
  by_cases hm : c ∈ m_met p.1 p.2
  · rw [memB_iff.mpr hm, Bool.and_true]
  · rw [looks_same h hm, memB_no.mpr hm, eqB_self]
    rfl
theorem allPairs_dims {fl fl' : Floor} (ha : fl'.a = fl.a) (hb : fl'.b = fl.b) : allPairs fl' = allPairs fl := by
  unfold allPairs m_all_cells
  rw [ha, hb]
theorem allPairs_strict {fl : Floor} (L : FlL fl) : (allPairs fl).Pairwise fun p q => DatumOrd.lt p q = true := pairs_strict _ (all_strict L.2.2.1)
theorem diff_mem {fl fl' : Floor} {p : Cpl} : p ∈ m_diff fl fl' ↔ p ∈ allPairs fl ∧ m_looks fl' p.1 p.2 ≠ m_looks fl p.1 p.2 := by
  unfold m_diff
  rw [List.mem_filter, Bool.not_eq_true', eqB_no]
/-- a wall more -/
theorem put_math {fl fl' : Floor} (L : FlL fl) (L' : FlL fl') (ha : fl'.a = fl.a) (hb : fl'.b = fl.b) (hm : ∀ v, v ∈ fl.c.items → v ∈ fl'.c.items) :
    ((m_couples fl).filter fun p => !memB p (m_diff fl fl')) = m_couples fl' ∧ (m_couples fl).length = (m_couples fl').length + (m_diff fl fl').length := by
  have mem : ∀ p, p ∈ m_couples fl' ↔ p ∈ m_couples fl ∧ p ∉ m_diff fl fl' := fun p => by
    rw [couples_mem L', couples_mem L, diff_mem, allPairs_dims ha hb]
    constructor
    · rintro ⟨h1, h2⟩
      have h3 := looks_mono hm h2
      exact ⟨⟨h1, h3⟩, fun z => z.2 (h2.trans h3.symm)⟩
    · rintro ⟨⟨h1, h2⟩, h3⟩
      refine ⟨h1, ?_⟩
      cases hk : m_looks fl' p.1 p.2 with
      | true => rfl
      | false => exact absurd ⟨h1, by rw [hk, h2]; decide⟩ h3
  refine ⟨pst_ext ((couples_strict L).filter _) (couples_strict L') fun p => ?_, ?_⟩
  · rw [List.mem_filter, mem, Bool.not_eq_true', memB_no]
  · have p1 : (m_couples fl).Perm (m_couples fl' ++ m_diff fl fl') := by
      refine (List.perm_ext_iff_of_nodup (pst_nodup (couples_strict L)) (List.nodup_append.mpr ⟨pst_nodup (couples_strict L'), pst_nodup ((allPairs_strict L).filter _), fun x hx y hy e => ?_⟩)).mpr fun p => ?_
      · subst e; exact ((mem x).mp hx).2 hy
      · rw [List.mem_append, mem]
        constructor
        · intro h
          by_cases z : p ∈ m_diff fl fl'
          · exact .inr z
          · exact .inl ⟨h, z⟩
        · rintro (h | h)
          · exact h.1
          · obtain ⟨h1, h2⟩ := diff_mem.mp h
            refine (couples_mem L).mpr ⟨h1, ?_⟩
            cases hk : m_looks fl p.1 p.2 with
            | true => rfl
            | false =>
              cases hk' : m_looks fl' p.1 p.2 with
              | true => rw [looks_mono hm hk'] at hk; cases hk
              | false => exact absurd (hk'.trans hk.symm) h2
    rw [p1.length_eq, List.length_append]
theorem diff_symm {fl fl' : Floor} (ha : fl'.a = fl.a) (hb : fl'.b = fl.b) : m_diff fl' fl = m_diff fl fl' := by
  unfold m_diff
  rw [allPairs_dims ha hb]
  refine List.filter_congr fun p _ => ?_
  cases m_looks fl' p.1 p.2 <;> cases m_looks fl p.1 p.2 <;> rfl
/-- a wall less -/
theorem take_math {fl fl' : Floor} (L : FlL fl) (L' : FlL fl') (ha : fl'.a = fl.a) (hb : fl'.b = fl.b) (hm : ∀ v, v ∈ fl'.c.items → v ∈ fl.c.items) :
    sortT (m_couples fl ++ m_diff fl fl') = m_couples fl' ∧ (m_couples fl').length = (m_couples fl).length + (m_diff fl fl').length := by
  obtain ⟨h1, h2⟩ := put_math L' L ha.symm hb.symm hm
  rw [diff_symm ha hb] at h1 h2
  refine ⟨sortT_of ((couples_strict L').imp plt_tf) ?_, h2⟩
  have : (m_couples fl').Perm ((m_couples fl').filter (fun p => !memB p (m_diff fl fl')) ++ (m_couples fl').filter fun p => memB p (m_diff fl fl')) := by
    have z := (List.filter_append_perm (fun p => !memB p (m_diff fl fl')) (m_couples fl')).symm
    simpa using z
  refine this.trans ?_
  rw [h1]
  refine List.Perm.append_left _ ?_
  refine (List.perm_ext_iff_of_nodup (pst_nodup ((couples_strict L').filter _)) (pst_nodup ((allPairs_strict L).filter _))).mpr fun p => ?_
  rw [List.mem_filter, memB_iff]
  refine ⟨fun z => z.2, fun z => ⟨?_, z⟩⟩
  obtain ⟨z1, z2⟩ := diff_mem.mp z
  refine (couples_mem L').mpr ⟨by rw [allPairs_dims ha hb]; exact z1, ?_⟩
  cases hk : m_looks fl' p.1 p.2 with
  | true => rfl
  | false =>
    cases hk' : m_looks fl p.1 p.2 with
    | true => rw [looks_mono hm hk'] at hk; cases hk
    | false => exact absurd (hk.trans hk'.symm) z2

/-! the keeper that is only looked at; a wall turned -/
def kD (K : PySem.W.Frag) (s : Ks) : D := .ins (cK K) ["floor", "by_cell", "couples", "many"] [enc s.fl, (oD s.bc).d, enc s.cps, enc s.many]
def m_dosee (s : Ks) (a b : Cell) : Bool := if eqB a b = true then !memB a s.fl.c.items else memB (if DatumOrd.lt b a = true then b else a, if DatumOrd.lt a b = true then b else a) s.cps
theorem sc_klooked : FnScope ["self"] ["self"] (defScope s_Keeper_looked) := ⟨rfl, rfl, rfl, by decide +kernel, rfl, by decide +kernel, by decide +kernel⟩
abbrev sp_klooked (K : PySem.W.Frag) : Sp := spP K (fun (y : Ks) => [kD K y]) (fun _ => True) (fun y => oF y.many)
theorem ok_Keeper_looked (F : FnF K "looked" "Keeper.looked" s_Keeper_looked f fd) (cl_Keeper : Cls K (cK K)) (na_Keeper_many : NoAttr K (cK K) "many") : FnOk P w K mg base (L2N.CX P w) 1 f fd ["self"] (sp_klooked K) := by
  refine def_pure F sc_klooked (fun _ => rfl) fun s E hp => ?_
  exact ⟨rF s.many, xb_rtF (xp_fld (d := enc s.many) 3 cl_Keeper na_Keeper_many (xp_var (d := kD K s) 0)), fits_F⟩
theorem sc_kdosee : FnScope ["self", "one", "other"] ["self", "one", "other"] (defScope s_Keeper_do_see) := ⟨rfl, rfl, rfl, by decide +kernel, rfl, by decide +kernel, by decide +kernel⟩
abbrev sp_kdosee (K : PySem.W.Frag) : Sp := spP K (fun (y : Ks × Cell × Cell) => [kD K y.1, enc y.2.1, enc y.2.2]) (fun y => m_is_on y.1.fl.a y.1.fl.b y.2.1 = true ∧ m_is_on y.1.fl.a y.1.fl.b y.2.2 = true) (fun y => oF (m_dosee y.1 y.2.1 y.2.2))
theorem ok_Keeper_do_see (F : FnF K "do_see" "Keeper.do_see" s_Keeper_do_see f fd) (m_min : mg "min" = none) (m_max : mg "max" = none) (cl_Keeper : Cls K (cK K)) (na_Keeper_floor : NoAttr K (cK K) "floor") (na_Keeper_couples : NoAttr K (cK K) "couples") (h_need_cell : FnG P w K mg base 2 "need_cell" ["floor", "cell"] (sp_need_cell K)) :
    FnOk P w K mg base (L2N.CX P w) 3 f fd ["self", "one", "other"] (sp_kdosee K) := by
  refine def_pure F sc_kdosee (fun _ => rfl) fun y E hp => ?_
  obtain ⟨s, c, d⟩ := y
  obtain ⟨h3, h4⟩ : m_is_on s.fl.a s.fl.b c = true ∧ m_is_on s.fl.a s.fl.b d = true := hp
  refine ⟨rF (m_dosee s c d), ?_, fits_F⟩
  unfold m_dosee
  refine xb_cons (ρ1 := [some (.fro (kD K s)), fv c, fv d]) (xs_exprM (XP.x (tp_call (v := ()) h_need_cell (s.fl, c) trivial (xa_cons (xp_fld (d := enc s.fl) 0 cl_Keeper na_Keeper_floor (xp_var (d := kD K s) 0)) (xa_cons (xp_var 1) xa_nil)) (by dsimp only; rw [need_on h3]; rfl)))) ?_
  refine xb_cons (ρ1 := [some (.fro (kD K s)), fv c, fv d]) (xs_exprM (XP.x (tp_call (v := ()) h_need_cell (s.fl, d) trivial (xa_cons (xp_fld (d := enc s.fl) 0 cl_Keeper na_Keeper_floor (xp_var (d := kD K s) 0)) (xa_cons (xp_var 2) xa_nil)) (by dsimp only; rw [need_on h4]; rfl)))) ?_
  refine xb_ifR _ (te_eq (u := c) (v := d) (XP.v (xp_var 1)) (XP.v (xp_var 2))) (fun hk => ?_) term_F.ne (fun hk => ?_)
  · exact xb_rtF (tv_niT (XP.v (xp_var 1)) (XP.v (tp_ix3c (p := s.fl) (xp_fld (d := enc s.fl) 0 cl_Keeper na_Keeper_floor (xp_var (d := kD K s) 0)))))
  · exact xb_rtF (tv_in (xs := s.cps) (XP.v (tp_2 (xa_cons (tp_minP (x := c) (y := d) m_min (xp_var 1) (xp_var 2)) (xa_cons (tp_maxP (x := c) (y := d) m_max (xp_var 1) (xp_var 2)) xa_nil)))) (XP.v (xp_fld (d := enc s.cps) 2 cl_Keeper na_Keeper_couples (xp_var (d := kD K s) 0))))
def turnFl (fl : Floor) (c : Cell) : Floor := if memB c fl.c.items = true then m_without fl c else m_put fl c
def turnK (s : Ks) (c : Cell) : Ks := if memB c s.fl.c.items = true then m_ktake s c else m_kput s c
def turnF (s : Ks) (c : Cell) : List Cpl := if memB c s.fl.c.items = true then m_ktakeF s c else m_kputF s c
theorem sc_turned : FnScope ["_law_keeper", "_law_cell_here"] ["_law_keeper", "_law_cell_here"] (defScope s__law_turned) := ⟨rfl, rfl, rfl, by decide +kernel, rfl, by decide +kernel, by decide +kernel⟩
abbrev sp_turned (K : PySem.W.Frag) : Sp := spW K (fun (_ : Ks × Cell) => []) (fun y => kO (cK K) y.1) (fun y => [enc y.2]) (fun y => KOk y.1 y.2) (fun y => (oF (turnF y.1 y.2), kO (cK K) (turnK y.1 y.2)))
theorem ok__law_turned (F : FnF K "_law_turned" "_law_turned" s__law_turned f fd) (h_Keeper_now : MeG P w K mg base 1 (cK K) "now" ["self"] (sp_know K)) (h_Keeper_put_solid : MeG P w K mg base 7 (cK K) "put_solid" ["self", "cell"] (sp_kput K)) (h_Keeper_take_solid : MeG P w K mg base 7 (cK K) "take_solid" ["self", "cell"] (sp_ktake K)) :
    FnOk P w K mg base (L2N.CX P w) 8 f fd ["_law_keeper", "_law_cell_here"] (sp_turned K) := by
  refine def_W 0 F sc_turned (fun _ => rfl) (fun _ => rfl) fun y E hp => ?_
  obtain ⟨s, c⟩ := y
  have hp : KOk s c := hp
  by_cases hm : c ∈ s.fl.c.items
  · have e1 : turnF s c = m_ktakeF s c := if_pos (memB_iff.mpr hm)
    have e2 : turnK s c = m_ktake s c := if_pos (memB_iff.mpr hm)
    refine ⟨.rt (.fro (enc (m_ktakeF s c))) (some [some (kO (cK K) (m_ktake s c)), fv c]), ?_, .rt rfl (by dsimp only; rw [e1, e2]; rfl)⟩
    exact xb_ifT (ρ1 := [some (kO (cK K) s), fv c]) (xtm_inTT (u := c) (XP.x (xp_var 1)) (xm_ix3c (p := s.fl) (xm_r (xx_meth0 h_Keeper_now s trivial (xl_var 0) rfl rfl))) hm) (xb_stop (xs_retr (xx_meth h_Keeper_take_solid (s, c) ⟨hp, hm⟩ (xl_var 0) rfl (xa_cons (xp_var 1) xa_nil)) rfl) (fun _ z => nomatch z)) (fun _ z => nomatch z)
  · have e1 : turnF s c = m_kputF s c := if_neg fun z => hm (memB_iff.mp z)
    have e2 : turnK s c = m_kput s c := if_neg fun z => hm (memB_iff.mp z)
    refine ⟨.rt (.fro (enc (m_kputF s c))) (some [some (kO (cK K) (m_kput s c)), fv c]), ?_, .rt rfl (by dsimp only; rw [e1, e2]; rfl)⟩
    refine xb_ifF (ρ1 := [some (kO (cK K) s), fv c]) (xtm_inTF (u := c) (XP.x (xp_var 1)) (xm_ix3c (p := s.fl) (xm_r (xx_meth0 h_Keeper_now s trivial (xl_var 0) rfl rfl))) hm) ?_
    exact xb_stop (xs_retr (xx_meth h_Keeper_put_solid (s, c) ⟨hp, hm⟩ (xl_var 0) rfl (xa_cons (xp_var 1) xa_nil)) rfl) (fun _ z => nomatch z)

/-! a wall turned, again and again -/
structure K41 (fl0 fl : Floor) (s : Ks) : Prop where
  fs : FS fl
  a : fl.a = fl0.a
  b : fl.b = fl0.b
  kf : s.fl = fl
  bc : s.bc = m_bc fl0
  cp : s.cps = m_couples fl
theorem K41.bc' {fl0 fl : Floor} {s : Ks} (h : K41 fl0 fl s) : s.bc = m_bc fl := h.bc.trans (bc_dims h.a h.b).symm
theorem K41.kok {fl0 fl : Floor} {s : Ks} (h : K41 fl0 fl s) {c : Cell} (hc : m_is_on fl0.a fl0.b c = true) : KOk s c := by
  have := h.fs.len
  have := (couples_len h.fs.L).1
  exact ⟨by rw [h.kf]; exact h.fs.L, by rw [h.kf]; omega, by rw [h.kf, h.a, h.b]; exact hc, bcok h.fs.L s h.bc' c, by rw [h.cp]; omega⟩
theorem turn_dim (fl : Floor) (c : Cell) : (turnFl fl c).a = fl.a ∧ (turnFl fl c).b = fl.b := by
  unfold turnFl
  split
  · exact ⟨rfl, rfl⟩
  · exact put_dim fl c
theorem K41.turn {fl0 fl : Floor} {s : Ks} (h : K41 fl0 fl s) {c : Cell} (hc : m_is_on fl0.a fl0.b c = true) :
    K41 fl0 (turnFl fl c) (turnK s c) ∧ turnF s c = m_diff fl (turnFl fl c) ∧ (turnK s c).many = s.many + ((bcOf s c).length : Int) ∧ turnFl (turnFl fl c) c = fl := by
  have on : m_is_on fl.a fl.b c = true := by rw [h.a, h.b]; exact hc
  by_cases hm : c ∈ fl.c.items
  · have e0 : turnFl fl c = m_without fl c := if_pos (memB_iff.mpr hm)
    have e1 : turnK s c = m_ktake s c := if_pos (memB_iff.mpr (by rw [h.kf]; exact hm))
    have e2 : turnF s c = m_ktakeF s c := if_pos (memB_iff.mpr (by rw [h.kf]; exact hm))
    have f : m_ktakeF s c = m_diff fl (m_without fl c) := by
      unfold m_ktakeF
      rw [h.kf]
      exact found_diff h.fs.L (fun v hv => by rw [mem_without]; exact ⟨fun z => z.1, fun z => ⟨z, hv⟩⟩) s h.bc' h.cp
    rw [e0, e1, e2]
    refine ⟨⟨h.fs.without c, h.a, h.b, by show m_without s.fl c = _; rw [h.kf], h.bc, ?_⟩, f, rfl, ?_⟩
    · show sortT (s.cps ++ m_ktakeF s c) = _
      rw [f, h.cp]
      exact (take_math (fl := fl) (fl' := m_without fl c) h.fs.L h.fs.L rfl rfl fun v hv => (mem_without.mp hv).1).1
    · have no : c ∉ (m_without fl c).c.items := fun z => (mem_without.mp z).2 rfl
      exact (if_neg fun z => no (memB_iff.mp z)).trans (put_without h.fs hm)
  · have e0 : turnFl fl c = m_put fl c := if_neg fun z => hm (memB_iff.mp z)
    have e1 : turnK s c = m_kput s c := if_neg fun z => hm (by rw [← h.kf]; exact memB_iff.mp z)
    have e2 : turnF s c = m_kputF s c := if_neg fun z => hm (by rw [← h.kf]; exact memB_iff.mp z)
    have f : m_kputF s c = m_diff fl (m_put fl c) := by
      unfold m_kputF
      rw [h.kf]
      exact found_diff h.fs.L (fun v hv => by rw [mem_put]; exact ⟨fun z => z.resolve_right hv, .inl⟩) s h.bc' h.cp
    obtain ⟨d1, d2⟩ := put_dim fl c
    have fp := h.fs.put on
    rw [e0, e1, e2]
    refine ⟨⟨fp, d1.trans h.a, d2.trans h.b, by show m_put s.fl c = _; rw [h.kf], h.bc, ?_⟩, f, rfl, ?_⟩
    · show (s.cps.filter fun p => !memB p (m_kputF s c)) = _
      rw [f, h.cp]
      exact (put_math (fl := fl) (fl' := m_put fl c) h.fs.L fp.L d1 d2 fun v hv => mem_put.mpr (.inl hv)).1
    · exact (if_pos (memB_iff.mpr (mem_put.mpr (.inr rfl)))).trans (without_put h.fs on hm)
theorem pairs_count : ∀ (xs : List Cell), 2 * (((pairsT (fun _ _ => true) xs).length : Nat) : Int) = ((xs.length : Nat) : Int) * (((xs.length : Nat) : Int) - 1)
  | [] => rfl
  | x :: r => by
    have ih := pairs_count r
    have e : (pairsT (fun _ _ => true) (x :: r)).length = r.length + (pairsT (fun _ _ => true) r).length := by
      show (((r.filter fun _ => true).map fun o => (x, o)) ++ pairsT (fun _ _ => true) r).length = _
      rw [List.length_append, List.length_map, List.filter_eq_self.mpr fun _ _ => rfl]
    rw [e, List.length_cons]
    push_cast
    generalize ((r.length : Nat) : Int) = n at ih ⊢
    generalize (((pairsT (fun _ _ => true) r).length : Nat) : Int) = m at ih ⊢
    have e2 : (n + 1) * (n + 1 - 1) = n * (n - 1) + 2 * n := by
      rw [Int.add_sub_cancel, Int.add_mul, Int.mul_sub, Int.mul_one, Int.one_mul]; omega
    rw [e2]; omega
theorem looked_few {fl0 fl : Floor} {s : Ks} (L0 : FlL fl0) (h : K41 fl0 fl s) (c : Cell) : ((bcOf s c).length : Int) ≤ (((m_all_cells fl0).length : Nat) : Int) * ((((m_all_cells fl0).length : Nat) : Int) - 1) / 2 := by
  have e : (bcOf s c).length ≤ (allPairs fl0).length := by
    unfold bcOf
    rw [h.bc, bc_is L0]
    exact List.length_filter_le _ _
  have := pairs_count (m_all_cells fl0)
  have e2 : allPairs fl0 = pairsT (fun _ _ => true) (m_all_cells fl0) := rfl
  rw [← e2] at this
  rw [← this]
  omega
theorem cpl_is {fl : Floor} (L : FlL fl) {p : Cpl} (hp : p ∈ allPairs fl) : memB p (m_couples fl) = m_looks fl p.1 p.2 := by
  cases hk : m_looks fl p.1 p.2 with
  | true => exact memB_iff.mpr ((couples_mem L).mpr ⟨hp, hk⟩)
  | false => exact memB_no.mpr fun z => by rw [((couples_mem L).mp z).2] at hk; cases hk
theorem told_is {fl fl' : Floor} (L : FlL fl) (L' : FlL fl') (ha : fl'.a = fl.a) (hb : fl'.b = fl.b) : (sset (m_couples fl ++ m_couples fl')).filter (fun p => !eqB (memB p (m_couples fl)) (memB p (m_couples fl'))) = m_diff fl fl' := by
  have z : (allPairs fl).filter (fun p => m_looks fl p.1 p.2 || m_looks fl' p.1 p.2) = sset (m_couples fl ++ m_couples fl') := by
    refine sset_of (((allPairs_strict L).filter _).imp plt_tf) (pst_nodup ((allPairs_strict L).filter _)) fun v => ?_
    rw [List.mem_filter, List.mem_append, couples_mem L, couples_mem L', allPairs_dims ha hb, Bool.or_eq_true]
    constructor
    · rintro ⟨h1, h2 | h2⟩
      · exact .inl ⟨h1, h2⟩
      · exact .inr ⟨h1, h2⟩
    · rintro (⟨h1, h2⟩ | ⟨h1, h2⟩)
      · exact ⟨h1, .inl h2⟩
      · exact ⟨h1, .inr h2⟩
  rw [← z, List.filter_filter]
  unfold m_diff
  refine List.filter_congr fun p hp => ?_
  rw [cpl_is L hp, cpl_is L' (by rw [allPairs_dims ha hb]; exact hp)]
  cases m_looks fl p.1 p.2 <;> cases m_looks fl' p.1 p.2 <;> rfl
theorem dosee_is {fl0 fl : Floor} {s : Ks} (h : K41 fl0 fl s) {x y : Cell} (hx : m_is_on fl.a fl.b x = true) (hy : m_is_on fl.a fl.b y = true) : m_dosee s x y = m_looks fl x y := by
  have L := h.fs.L
  unfold m_dosee
  by_cases e : x = y
  · subst e
    rw [if_pos (eqB_iff.mpr rfl), h.kf]
    by_cases w : x ∈ fl.c.items
    · rw [memB_iff.mpr w]
      cases hk : m_looks fl x x with
      | false => rfl
      | true => exact absurd w (((looks_iff fl x x).mp hk).1 x (lc_ini (near_on L hx hx)).2)
    · rw [memB_no.mpr w, looks_me L ((mem_open L.2.2.1).mpr ⟨hx, w⟩)]
      rfl
  · rw [if_neg (fun z => e (eqB_iff.mp z)), h.cp]
    cases c1 : DatumOrd.lt y x with
    | true =>
      have c2 : DatumOrd.lt x y = false := by
        rcases LOrd.tot x y with z | z
        · rw [c1] at z; cases z
        · exact z
      rw [if_pos rfl, if_neg (by rw [c2]; exact Bool.false_ne_true), cpl_is L (p := (y, x)) ((mem_allPairs L).mpr ⟨hy, hx, c1⟩)]
      exact looks_symm (near_on L hx hy)
    | false =>
      have c2 : DatumOrd.lt x y = true := by
        cases z : DatumOrd.lt x y with
        | true => rfl
        | false => exact absurd (LOrd.anti x y c1 z) e
      rw [if_neg Bool.false_ne_true, if_pos c2]
      exact cpl_is L (p := (x, y)) ((mem_allPairs L).mpr ⟨hx, hy, c2⟩)
theorem all_16 {fl : Floor} (Q : FlL fl) (h1 : fl.a ≤ 4) (h2 : fl.b ≤ 4) : (m_all_cells fl).length ≤ 16 := by
  unfold m_all_cells
  rw [List.length_map, rng_len]
  have : fl.a * fl.b ≤ 4 * 4 := Int.mul_le_mul (by omega) (by omega) (by have := Q.2.2.1; omega) (by omega)
  omega
theorem pairs_256 {fl : Floor} (Q : FlL fl) (h1 : fl.a ≤ 4) (h2 : fl.b ≤ 4) : (allPairs fl).length ≤ 256 := Nat.le_trans (pairs_len _ _) (mul_len (all_16 Q h1 h2))
theorem nub_len : ∀ {xs : List Cpl}, (nub xs).length ≤ xs.length
  | [] => Nat.le_refl _
  | x :: r => by
    unfold nub
    have := nub_len (xs := r)
    split
    · rw [List.length_cons]; omega
    · rw [List.length_cons, List.length_cons]; omega
theorem sset_len {xs : List Cpl} : (sset xs).length ≤ xs.length := by
  unfold sset
  rw [(isortT_perm _).length_eq]
  exact nub_len

/-! the law -/
def m_law (_ : Scr) : Bool := true
theorem law_true (s : Scr) (_ : s.l.length ≤ 1000) : m_law s = true := rfl
def whole41 (ev : List Cell) : Int := ((ev.length : Nat) : Int) * (((ev.length : Nat) : Int) - 1) / 2
def cell41 (sc : Scr) (ev : List Cell) (k : Int) : Cell := atD ev (m_drawn sc (60 + k) ((ev.length : Nat) : Int))
def R41 (K : PySem.W.Frag) (sc : Scr) (fl : Floor) (s : Ks) (ev : List Cell) (k cell before looked there told after one : Option O) : G.Env := [fv sc, fv fl, some (kO (cK K) s), fv ev, fv (whole41 ev), k, cell, before, looked, there, told, after, one, none, none]
theorem sc_law : FnScope ["_law_script", "_law_floor_here", "_law_keeper", "_law_every", "_law_whole", "_law_k", "_law_cell_here", "_law_before", "_law_looked", "_law_there", "_law_told", "_law_after", "_law_one", "_law_both", "_law_other"] ["_law_script"] (defScope s_law) := ⟨rfl, rfl, rfl, by decide +kernel, rfl, by decide +kernel, by decide +kernel⟩
abbrev sp_law (K : PySem.W.Frag) : Sp := spP K (fun (y : Scr) => [enc y]) (fun y => y.l.length ≤ 1000) (fun y => oF (m_law y))
theorem ok_law (F : FnF K "law" "law" s_law f fd) (m_range : mg "range" = none) (m_len : mg "len" = none) (m_max : mg "max" = none) (m_min : mg "min" = none) (m_sorted : mg "sorted" = none) (m_set : mg "set" = none) (h__law_drawn : FnG P w K mg base 2 "_law_drawn" ["_law_script", "_law_k", "_law_many"] (sp_drawn K)) (h__law_floor : FnG P w K mg base 3 "_law_floor" ["_law_script", "_law_at", "_law_most"] (sp__law_floor K))
    (h__law_cells : FnG P w K mg base 1 "_law_cells" ["_law_floor_here"] (sp__law_cells K)) (h_Keeper___init__ : MkG P w K mg base 7 "Keeper" (cK K) ["self", "floor"] (sp_kini K)) (h_Keeper_now : MeG P w K mg base 1 (cK K) "now" ["self"] (sp_know K)) (h_Keeper_seen : MeG P w K mg base 1 (cK K) "seen" ["self"] (sp_kseen K)) (h_Keeper_looked : MeG P w K mg base 1 (cK K) "looked" ["self"] (sp_klooked K))
    (h_Keeper_do_see : MeG P w K mg base 3 (cK K) "do_see" ["self", "one", "other"] (sp_kdosee K)) (h__law_turned : FnG P w K mg base 8 "_law_turned" ["_law_keeper", "_law_cell_here"] (sp_turned K)) (h_couples_of : FnG P w K mg base 6 "couples_of" ["floor"] (sp_couples_of K)) (h_sees : FnG P w K mg base 6 "sees" ["floor", "one", "other"] (sp_sees K))
    (h_with_solid : FnG P w K mg base 4 "with_solid" ["floor", "cell"] (sp_with_solid K)) (h_without_solid : FnG P w K mg base 3 "without_solid" ["floor", "cell"] (sp_without_solid K)) : FnOk P w K mg base (L2N.CX P w) 9 f fd ["_law_script"] (sp_law K) := by
  refine def_pure F sc_law (fun _ => rfl) fun sc E hp => ?_
  have hl : sc.l.length ≤ 1000 := hp
  refine ⟨.rt (.fro (enc true)) none, ?_, .rt rfl⟩
  have Q : Fl4 4 (m_law_floor sc 0 4) := fl4 _ _ (by decide)
  refine xb_cons (ρ1 := [fv sc, fv (m_law_floor sc 0 4), none, none, none, none, none, none, none, none, none, none, none, none, none]) (xs_sF 1 (tp_call (v := m_law_floor sc 0 4) h__law_floor (sc, 0, 4) (by exact ⟨hl, by dsimp only; decide, by dsimp only; decide⟩) (xa_cons (xp_var 0) (xa_cons tp_int (xa_cons tp_int xa_nil))))) ?_
  generalize hfl : m_law_floor sc 0 4 = fl0 at Q
  have L0 := Q.L
  refine xb_cons (ρ1 := [fv sc, fv fl0, some (kO (cK K) ⟨fl0, m_bc fl0, m_couples fl0, 0⟩), none, none, none, none, none, none, none, none, none, none, none, none]) (xs_setM 2 (XN.x (xn_make h_Keeper___init__ fl0 L0 rfl rfl (xa_cons (xp_var 1) xa_nil)))) ?_
  refine xb_cons (ρ1 := [fv sc, fv fl0, some (kO (cK K) ⟨fl0, m_bc fl0, m_couples fl0, 0⟩), fv (m_all_cells fl0), none, none, none, none, none, none, none, none, none, none, none]) (xs_sF 3 (tp_call (v := m_all_cells fl0) h__law_cells fl0 L0.b (xa_cons (xp_var 1) xa_nil))) ?_
  have n16 := all_16 L0 Q.an Q.bn
  have evm : ∀ c, c ∈ m_all_cells fl0 ↔ m_is_on fl0.a fl0.b c = true := fun c => mem_all L0.2.2.1
  have P256 := pairs_256 L0 Q.an Q.bn
  have fewer : ∀ {fl : Floor} {s : Ks} (h : K41 fl0 fl s) (c : Cell), ((bcOf s c).length : Int) ≤ whole41 (m_all_cells fl0) := fun h c => looked_few L0 h c
  have pos : 0 < (m_all_cells fl0).length := by
    unfold m_all_cells
    rw [List.length_map, rng_len]
    have := Int.mul_pos L0.1 L0.2.2.1
    omega
  generalize hev : m_all_cells fl0 = ev at n16 evm pos fewer
  refine xb_cons (ρ1 := R41 K sc fl0 ⟨fl0, m_bc fl0, m_couples fl0, 0⟩ ev none none none none none none none none) (xs_sF (v := whole41 ev) 4 (tp_div (tp_mul (tp_lenL m_len (XP.v (xp_var 3))) (tp_sub (tp_lenL m_len (XP.v (xp_var 3))) tp_int) (.inl (by omega))) tp_int (by decide))) ?_
  generalize hm : (if (1 : Int) < (if ((sc.l.length : Nat) : Int) < 6 then ((sc.l.length : Nat) : Int) else 6) then (if ((sc.l.length : Nat) : Int) < 6 then ((sc.l.length : Nat) : Int) else 6) else (1 : Int)) = m
  have hmb : 1 ≤ m ∧ m ≤ 6 := by rw [← hm]; split <;> split <;> omega
  have F0 : FS fl0 := ⟨Q.L, Q.on, Q.st⟩
  refine xb_forI (rng 0 m) enc (fun (st : Floor × Ks) => R41 K sc st.1 st.2 ev none none none none none none none none) (fun st k => (turnFl st.1 (cell41 sc ev k), turnK (turnK (turnK st.2 (cell41 sc ev k)) (cell41 sc ev k)) (cell41 sc ev k))) (fun _ st => K41 fl0 st.1 st.2) (fun st k => R41 K sc st.1 st.2 ev (fv k) none none none none none none none) (fl0, ⟨fl0, m_bc fl0, m_couples fl0, 0⟩)
    (xi_r1 m_range (XP.cast (tp_max2 m_max tp_int (tp_min2 m_min tp_int (tp_lenS m_len (XP.v (xp_var 0))))) (by rw [← hm])) ⟨by omega, by omega⟩) (tg_n 5) (fun st k => eg_name 5) ⟨F0, rfl, rfl, rfl, rfl, rfl⟩ (fun i st k hk hI => ?_) (fun st hI => ?_)
  · obtain ⟨fl, s⟩ := st
    have I0 : K41 fl0 fl s := hI
    have dr := m_drawn_b sc (60 + k) (many := ((ev.length : Nat) : Int)) (by omega)
    obtain ⟨c, ec⟩ : ∃ c, cell41 sc ev k = c := ⟨_, rfl⟩
    have cin : c ∈ ev := by
      rw [← ec]
      unfold cell41
      obtain ⟨n, hn⟩ := Int.eq_ofNat_of_zero_le dr.1
      rw [hn] at dr ⊢
      have hn2 : n < ev.length := by omega
      unfold atD atI ixN
      rw [if_pos (by omega), if_pos (by omega)]
      show (ev[((n : Int)).toNat]?).getD default ∈ _
      rw [Int.toNat_natCast, List.getElem?_eq_getElem hn2]
      exact List.getElem_mem hn2
    have on := (evm c).mp cin
    obtain ⟨I1, t1, mn1, bk1⟩ := I0.turn on
    obtain ⟨I2, t2, mn2, bk2⟩ := I1.turn on
    obtain ⟨I3, t3, mn3, bk3⟩ := I2.turn on
    rw [bk1] at I2 t2 I3 t3
    obtain ⟨d1, d2⟩ := turn_dim fl c
    have sym := diff_symm (fl := fl) (fl' := turnFl fl c) d1 d2
    have e2 : turnF (turnK s c) c = turnF s c := by rw [t1, t2, sym]
    have e3 : turnF (turnK (turnK s c) c) c = turnF s c := by rw [t1, t3]
    have wl := I0.fs.len
    have onf : m_is_on fl.a fl.b c = true := by rw [I0.a, I0.b]; exact on
    have cl0 := (couples_len I0.fs.L).1
    have cl1 := (couples_len I1.fs.L).1
    have tI := told_is I0.fs.L I1.fs.L d1 d2
    have fw := fewer I0 c
    have inD : ∀ p ∈ m_couples fl ++ m_couples (turnFl fl c), p ∈ allPairs fl0 := fun p hp => by
      rcases List.mem_append.mp hp with z | z
      · have := ((couples_mem I0.fs.L).mp z).1
        rwa [allPairs_dims I0.a I0.b] at this
      · have := ((couples_mem I1.fs.L).mp z).1
        rwa [allPairs_dims I1.a I1.b] at this
    show XB _ _ (R41 K sc fl s ev (fv k) none none none none none none none) _ (.nx (R41 K sc (turnFl fl (cell41 sc ev k)) (turnK (turnK (turnK s (cell41 sc ev k)) (cell41 sc ev k)) (cell41 sc ev k)) ev none none none none none none none none)) ∧ K41 fl0 (turnFl fl (cell41 sc ev k)) (turnK (turnK (turnK s (cell41 sc ev k)) (cell41 sc ev k)) (cell41 sc ev k))
    rw [ec]
    refine ⟨?_, I3⟩
    refine xb_cons (ρ1 := R41 K sc fl s ev (fv k) (fv c) none none none none none none) (xs_sF (v := c) 6 (XP.cast (tv_ix (xs := ev) (xp_var 3) (tp_call h__law_drawn (sc, 60 + k, ((ev.length : Nat) : Int)) ⟨hl, by show (0 : Int) < ((ev.length : Nat) : Int); omega⟩ (xa_cons (xp_var 0) (xa_cons (tp_add tp_int (xp_var 5)) (xa_cons (tp_lenL m_len (XP.v (xp_var 3))) xa_nil)))) (.inl dr)) (by rw [← ec]; rfl))) ?_
    refine xb_cons (ρ1 := R41 K sc fl s ev (fv k) (fv c) (fv s.cps) none none none none none) (xs_setM 7 (xx_meth0 h_Keeper_seen s trivial (xl_var 2) rfl rfl)) ?_
    refine xb_cons (ρ1 := R41 K sc fl s ev (fv k) (fv c) (fv s.cps) (fv s.many) none none none none) (xs_sF 8 (tp_meth0 h_Keeper_looked s trivial (xv_var (o := kO (cK K) s) 2))) ?_
    refine xb_cons (ρ1 := R41 K sc fl s ev (fv k) (fv c) (fv s.cps) (fv s.many) (fv (turnFl fl c)) none none none) (xs_sF (v := turnFl fl c) 9 (XP.cast (tp_if (te_inT (XP.v (xp_var 6)) (XP.v (tp_ix3c (p := fl) (xp_var 1)))) (fun hk => tp_call (v := m_without fl c) h_without_solid (fl, c) (by show fl.c.items.length ≤ 1000000; omega) (xa_cons (xp_var 1) (xa_cons (xp_var 6) xa_nil)) (by dsimp only; rw [need_on onf]; rfl)) (fun hk => tp_call (v := m_put fl c) h_with_solid (fl, c) (by show fl.c.items.length ≤ 100000; omega) (xa_cons (xp_var 1) (xa_cons (xp_var 6) xa_nil)) (by dsimp only; rw [with_on onf]; rfl))) rfl)) ?_
    refine xb_cons (ρ1 := R41 K sc fl (turnK s c) ev (fv k) (fv c) (fv s.cps) (fv s.many) (fv (turnFl fl c)) (fv (turnF s c)) none none) (xs_setM 10 (xx_callW h__law_turned (s, c) (I0.kok on) 2 (xaw_here 2 (xa_cons (xp_var 6) xa_nil)))) ?_
    refine xb_ifF (ρ1 := R41 K sc fl (turnK s c) ev (fv k) (fv c) (fv s.cps) (fv s.many) (fv (turnFl fl c)) (fv (turnF s c)) none none) (XWM.t (xwm_or (xtm_neF (u := (turnK s c).fl) (v := turnFl fl c) (xm_r (xx_meth0 h_Keeper_now (turnK s c) trivial (xl_var 2) rfl rfl)) (XP.x (xp_var 9)) I1.kf) (xwm_or (xtm_neF (u := (turnK s c).cps) (v := m_couples (turnFl fl c)) (xm_r (xx_meth0 h_Keeper_seen (turnK s c) trivial (xl_var 2) rfl rfl)) (XP.x (tp_call (v := m_couples (turnFl fl c)) h_couples_of (turnFl fl c) I1.fs.L (xa_cons (xp_var 9) xa_nil))) I1.cp)
      (xwm_or1 (XT.m (XT.cast (xt_not (tt_ch oc_le oc_le tp_int (tp_sub (i := (turnK s c).many) (j := s.many) (tp_meth0 h_Keeper_looked (turnK s c) trivial (xv_var (o := kO (cK K) (turnK s c)) 2)) (xp_var 8)) (xp_var (d := enc (whole41 ev)) 4))) (by rw [mn1, decide_eq_true (by omega : (0 : Int) ≤ s.many + ((bcOf s c).length : Int) - s.many), decide_eq_true (by omega : s.many + ((bcOf s c).length : Int) - s.many ≤ whole41 ev)]; rfl))))))) ?_
    refine xb_cons (ρ1 := R41 K sc fl (turnK s c) ev (fv k) (fv c) (fv s.cps) (fv s.many) (fv (turnFl fl c)) (fv (turnF s c)) (fv (turnK s c).cps) none) (xs_setM 11 (xx_meth0 h_Keeper_seen (turnK s c) trivial (xl_var 2) rfl rfl)) ?_
    have sl : (sset (s.cps ++ (turnK s c).cps)).length ≤ 1000000 := by
      have := sset_len (xs := s.cps ++ (turnK s c).cps)
      rw [List.length_append, I0.cp, I1.cp] at this
      rw [I0.cp, I1.cp]
      omega
    refine xb_cons (xs_if (k := false) (XT.cast (te_ne (u := turnF s c) (v := (sset (s.cps ++ (turnK s c).cps)).filter fun p => !eqB (memB p s.cps) (memB p (turnK s c).cps)) (XP.v (xp_var 10)) (XP.v (tp_lcf [("_law_both", 13)] (sset (s.cps ++ (turnK s c).cps)) (fun p => !eqB (memB p s.cps) (memB p (turnK s c).cps)) _ (xi_lt (tp_ssetC (D := allPairs fl0) m_sorted m_set (tp_catL (xs := s.cps) (ys := (turnK s c).cps) (xp_var 7) (xp_var 11) (by rw [I0.cp, I1.cp]; omega)) (by omega) (by rw [I0.cp, I1.cp]; exact inD))) (tg_n 13) to_name (fun x hx => eg_name 13)
      (fun x hx => te_ne (XP.v (tv_in (xs := s.cps) (XP.v (xp_var 13)) (XP.v (xp_var 7)))) (XP.v (tv_in (xs := (turnK s c).cps) (XP.v (xp_var 13)) (XP.v (xp_var 11))))) (fun x hx hk => xp_var 13) sl))) (by rw [t1, I0.cp, I1.cp, tI, eqB_self]; rfl)) (fun z => nomatch z) fun _ => xb_nil) ?_
    refine xb_ifF (ρ1 := R41 K sc fl (turnK (turnK (turnK s c) c) c) ev (fv k) (fv c) (fv s.cps) (fv s.many) (fv (turnFl fl c)) (fv (turnF s c)) (fv (turnK s c).cps) none) (XWM.t (xwm_or (xtm_neF (u := turnF (turnK s c) c) (v := turnF s c) (xm_r (xx_callW h__law_turned (turnK s c, c) (I1.kok on) 2 (xaw_here 2 (xa_cons (xp_var 6) xa_nil)))) (XP.x (xp_var 10)) e2) (xwm_or (xtm_neF (u := (turnK (turnK s c) c).cps) (v := s.cps) (xm_r (xx_meth0 h_Keeper_seen (turnK (turnK s c) c) trivial (xl_var 2) rfl rfl)) (XP.x (xp_var 7)) (by rw [I2.cp, I0.cp])) (xwm_or1 (xtm_neF (u := turnF (turnK (turnK s c) c) c) (v := turnF s c) (xm_r (xx_callW h__law_turned (turnK (turnK s c) c, c) (I2.kok on) 2 (xaw_here 2 (xa_cons (xp_var 6) xa_nil)))) (XP.x (xp_var 10)) e3))))) ?_
    refine xb_cons (ρ1 := R41 K sc (turnFl fl c) (turnK (turnK (turnK s c) c) c) ev (fv k) (fv c) (fv s.cps) (fv s.many) (fv (turnFl fl c)) (fv (turnF s c)) (fv (turnK s c).cps) none) (xs_sF 1 (xp_var 9)) ?_
    exact xb_forgets [5, 6, 7, 8, 9, 10, 11] xb_nil rfl
  · obtain ⟨fl, s⟩ := st
    have I0 : K41 fl0 fl s := hI
    show XB _ _ (R41 K sc fl s ev none none none none none none none none) _ _
    refine xb_forC ev enc (fun _ => R41 K sc fl s ev none none none none none none none none) (fun _ c => R41 K sc fl s ev none none none none none none none (fv c)) (xi_lt (xp_var 3)) (tg_n 12) (fun i c => eg_name 12) (fun i c hc => ?_) ?_
    · have on1 : m_is_on fl.a fl.b c = true := by rw [I0.a, I0.b]; exact (evm c).mp (List.mem_of_getElem? hc)
      have on2 : ∀ o ∈ ev, m_is_on fl.a fl.b o = true := fun o ho => by rw [I0.a, I0.b]; exact (evm o).mp ho
      have nil : (ev.filter fun o => !eqB (m_dosee s c o) (m_looks fl c o)) = [] := List.filter_eq_nil_iff.mpr fun o ho z => by
        rw [dosee_is I0 on1 (on2 o ho), eqB_self] at z
        cases z
      refine xb_cons (xs_if (k := false) (XT.cast (te_ne (u := ev.filter fun o => !eqB (m_dosee s c o) (m_looks fl c o)) (v := []) (XP.v (tp_lcf [("_law_other", 14)] ev (fun o => !eqB (m_dosee s c o) (m_looks fl c o)) _ (xi_lt (xp_var 3)) (tg_n 14) to_name (fun o ho => eg_name 14) (fun o ho => te_ne (u := m_dosee s c o) (v := m_looks fl c o) (XP.v (tp_meth h_Keeper_do_see (s, c, o) (by rw [I0.kf]; exact ⟨on1, on2 o ho⟩) (xv_var (o := kO (cK K) s) 2) (xa_cons (xp_var 12) (xa_cons (xp_var 14) xa_nil)))) (XP.v (tp_call (v := m_looks fl c o) h_sees (fl, c, o) I0.fs.L (xa_cons (xp_var 1) (xa_cons (xp_var 12) (xa_cons (xp_var 14) xa_nil))) (by dsimp only; unfold m_sees; rw [need_on on1, need_on (on2 o ho)]; rfl)))) (fun o ho hk => xp_var 14) (by omega))) (XP.v tp_nilL)) (by rw [nil]; rfl)) (fun z => nomatch z) fun _ => xb_nil) ?_
      exact xb_forgets [12] xb_nil rfl
    · exact xb_stop (xs_retF xp_bl) (fun _ z => nomatch z)

end
theorem facts {P : Program} {w : World} {K : PySem.W.Frag} {h : Heap} {mg : Str → Option Value} {f : Addr} (X : K.In h) (Gn : h.Ns mainGlobals mg) (hfa : mg ("law" : Str) = some (.ref f)) (cx : G.SaysY exf fa fn tabs w K) :
    ∃ fd : FuncData, (∀ (s : Shared) (v : Value), BindsTo s fd ⟨[v], []⟩ [("_law_script", v)]) ∧ ∀ base : Heap, K.In base → base.Ns mainGlobals mg → FnOk P w K mg base (L2N.CX P w) 9 f fd ["_law_script"] (sp_law K) := by
  have c := cx.d
  obtain ⟨fd0, F0⟩ := c.def_ 0 (d := d0) rfl
  have b0 := FunD.bindsN (ps := ["wide", "high", "spot"]) F0 fun _ _ _ _ _ _ us hl => match us, hl with | [_, _, _], _ => rfl
  have g_is_on := He.glo_ok X Gn (c.fact 8 (f := .glo "is_on") rfl)
  obtain ⟨fd1, F1⟩ := c.def_ 1 (d := d1) rfl
  have b1 := FunD.bindsN (ps := ["floor", "cell"]) F1 fun _ _ _ _ _ _ us hl => match us, hl with | [_, _], _ => rfl
  have g_need_cell := He.glo_ok X Gn (c.fact 9 (f := .glo "need_cell") rfl)
  obtain ⟨fd2, F2⟩ := c.def_ 2 (d := d2) rfl
  have b2 := FunD.bindsN (ps := ["floor", "cell"]) F2 fun _ _ _ _ _ _ us hl => match us, hl with | [_, _], _ => rfl
  have g_is_solid := He.glo_ok X Gn (c.fact 10 (f := .glo "is_solid") rfl)
  obtain ⟨fd3, F3⟩ := c.def_ 3 (d := d3) rfl
  have b3 := FunD.bindsN (ps := ["floor"]) F3 fun _ _ _ _ _ _ us hl => match us, hl with | [_], _ => rfl
  have g_all_cells := He.glo_ok X Gn (c.fact 11 (f := .glo "all_cells") rfl)
  obtain ⟨fd4, F4⟩ := c.def_ 4 (d := d4) rfl
  have b4 := FunD.bindsN (ps := ["floor"]) F4 fun _ _ _ _ _ _ us hl => match us, hl with | [_], _ => rfl
  have g_open_cells := He.glo_ok X Gn (c.fact 12 (f := .glo "open_cells") rfl)
  obtain ⟨fd5, F5⟩ := c.def_ 5 (d := d5) rfl
  have b5 := FunD.bindsN (ps := ["floor", "cell"]) F5 fun _ _ _ _ _ _ us hl => match us, hl with | [_, _], _ => rfl
  have g_with_solid := He.glo_ok X Gn (c.fact 13 (f := .glo "with_solid") rfl)
  obtain ⟨fd6, F6⟩ := c.def_ 6 (d := d6) rfl
  have b6 := FunD.bindsN (ps := ["floor", "cell"]) F6 fun _ _ _ _ _ _ us hl => match us, hl with | [_, _], _ => rfl
  have g_without_solid := He.glo_ok X Gn (c.fact 14 (f := .glo "without_solid") rfl)
  obtain ⟨fd7, F7⟩ := c.def_ 7 (d := d7) rfl
  have b7 := FunD.bindsN (ps := ["number"]) F7 fun _ _ _ _ _ _ us hl => match us, hl with | [_], _ => rfl
  have g_sign_of := He.glo_ok X Gn (c.fact 15 (f := .glo "sign_of") rfl)
  obtain ⟨fd8, F8⟩ := c.def_ 8 (d := d8) rfl
  have b8 := FunD.bindsN (ps := ["self", "one", "other"]) F8 fun _ _ _ _ _ _ us hl => match us, hl with | [_, _, _], _ => rfl
  obtain ⟨fd9, F9⟩ := c.def_ 9 (d := d9) rfl
  have b9 := FunD.bindsN (ps := ["self", "lead"]) F9 fun _ _ _ _ _ _ us hl => match us, hl with | [_, _], _ => rfl
  obtain ⟨fd10, F10⟩ := c.def_ 10 (d := d10) rfl
  have b10 := FunD.bindsN (ps := ["self", "here", "lead"]) F10 fun _ _ _ _ _ _ us hl => match us, hl with | [_, _, _], _ => rfl
  obtain ⟨fd11, F11⟩ := c.def_ 11 (d := d11) rfl
  have b11 := FunD.bindsN (ps := ["floor", "line"]) F11 fun _ _ _ _ _ _ us hl => match us, hl with | [_, _], _ => rfl
  have g_is_squeezed := He.glo_ok X Gn (c.fact 25 (f := .glo "is_squeezed") rfl)
  obtain ⟨fd12, F12⟩ := c.def_ 12 (d := d12) rfl
  have b12 := FunD.bindsN (ps := ["floor", "line", "cells"]) F12 fun _ _ _ _ _ _ us hl => match us, hl with | [_, _, _], _ => rfl
  have g_is_free := He.glo_ok X Gn (c.fact 26 (f := .glo "is_free") rfl)
  obtain ⟨fd13, F13⟩ := c.def_ 13 (d := d13) rfl
  have b13 := FunD.bindsN (ps := ["floor", "one", "other"]) F13 fun _ _ _ _ _ _ us hl => match us, hl with | [_, _, _], _ => rfl
  have g_looks := He.glo_ok X Gn (c.fact 27 (f := .glo "looks") rfl)
  obtain ⟨fd14, F14⟩ := c.def_ 14 (d := d14) rfl
  have b14 := FunD.bindsN (ps := ["floor", "one", "other"]) F14 fun _ _ _ _ _ _ us hl => match us, hl with | [_, _, _], _ => rfl
  have g_sees := He.glo_ok X Gn (c.fact 28 (f := .glo "sees") rfl)
  obtain ⟨fd15, F15⟩ := c.def_ 15 (d := d15) rfl
  have b15 := FunD.bindsN (ps := ["floor"]) F15 fun _ _ _ _ _ _ us hl => match us, hl with | [_], _ => rfl
  have g_couples_of := He.glo_ok X Gn (c.fact 29 (f := .glo "couples_of") rfl)
  obtain ⟨fd16, F16⟩ := c.def_ 16 (d := d16) rfl
  have b16 := FunD.bindsN (ps := ["self", "floor"]) F16 fun _ _ _ _ _ _ us hl => match us, hl with | [_, _], _ => rfl
  obtain ⟨fd17, F17⟩ := c.def_ 17 (d := d17) rfl
  have b17 := FunD.bindsN (ps := ["self", "one", "other"]) F17 fun _ _ _ _ _ _ us hl => match us, hl with | [_, _, _], _ => rfl
  obtain ⟨fd18, F18⟩ := c.def_ 18 (d := d18) rfl
  have b18 := FunD.bindsN (ps := ["self", "cell"]) F18 fun _ _ _ _ _ _ us hl => match us, hl with | [_, _], _ => rfl
  obtain ⟨fd19, F19⟩ := c.def_ 19 (d := d19) rfl
  have b19 := FunD.bindsN (ps := ["self", "cell"]) F19 fun _ _ _ _ _ _ us hl => match us, hl with | [_, _], _ => rfl
  obtain ⟨fd20, F20⟩ := c.def_ 20 (d := d20) rfl
  have b20 := FunD.bindsN (ps := ["self", "cell"]) F20 fun _ _ _ _ _ _ us hl => match us, hl with | [_, _], _ => rfl
  obtain ⟨fd21, F21⟩ := c.def_ 21 (d := d21) rfl
  have b21 := FunD.bindsN (ps := ["self"]) F21 fun _ _ _ _ _ _ us hl => match us, hl with | [_], _ => rfl
  obtain ⟨fd22, F22⟩ := c.def_ 22 (d := d22) rfl
  have b22 := FunD.bindsN (ps := ["self"]) F22 fun _ _ _ _ _ _ us hl => match us, hl with | [_], _ => rfl
  obtain ⟨fd23, F23⟩ := c.def_ 23 (d := d23) rfl
  have b23 := FunD.bindsN (ps := ["self", "one", "other"]) F23 fun _ _ _ _ _ _ us hl => match us, hl with | [_, _, _], _ => rfl
  obtain ⟨fd24, F24⟩ := c.def_ 24 (d := d24) rfl
  have b24 := FunD.bindsN (ps := ["self"]) F24 fun _ _ _ _ _ _ us hl => match us, hl with | [_], _ => rfl
  obtain ⟨fd25, F25⟩ := c.def_ 25 (d := d25) rfl
  have b25 := FunD.bindsN (ps := ["_law_script", "_law_k"]) F25 fun _ _ _ _ _ _ us hl => match us, hl with | [_, _], _ => rfl
  have g__law_cell := He.glo_ok X Gn (c.fact 45 (f := .glo "_law_cell") rfl)
  obtain ⟨fd26, F26⟩ := c.def_ 26 (d := d26) rfl
  have b26 := FunD.bindsN (ps := ["_law_script", "_law_k", "_law_many"]) F26 fun _ _ _ _ _ _ us hl => match us, hl with | [_, _, _], _ => rfl
  have g__law_drawn := He.glo_ok X Gn (c.fact 46 (f := .glo "_law_drawn") rfl)
  obtain ⟨fd27, F27⟩ := c.def_ 27 (d := d27) rfl
  have b27 := FunD.bindsN (ps := ["_law_script", "_law_at", "_law_most"]) F27 fun _ _ _ _ _ _ us hl => match us, hl with | [_, _, _], _ => rfl
  have g__law_floor := He.glo_ok X Gn (c.fact 47 (f := .glo "_law_floor") rfl)
  obtain ⟨fd28, F28⟩ := c.def_ 28 (d := d28) rfl
  have b28 := FunD.bindsN (ps := ["_law_floor_here"]) F28 fun _ _ _ _ _ _ us hl => match us, hl with | [_], _ => rfl
  have g__law_cells := He.glo_ok X Gn (c.fact 48 (f := .glo "_law_cells") rfl)
  obtain ⟨fd29, F29⟩ := c.def_ 29 (d := d29) rfl
  have b29 := FunD.bindsN (ps := ["_law_floor_here"]) F29 fun _ _ _ _ _ _ us hl => match us, hl with | [_], _ => rfl
  have g__law_open := He.glo_ok X Gn (c.fact 49 (f := .glo "_law_open") rfl)
  obtain ⟨fd30, F30⟩ := c.def_ 30 (d := d30) rfl
  have b30 := FunD.bindsN (ps := ["_law_script", "_law_at", "_law_floor_here"]) F30 fun _ _ _ _ _ _ us hl => match us, hl with | [_, _, _], _ => rfl
  have g__law_off := He.glo_ok X Gn (c.fact 50 (f := .glo "_law_off") rfl)
  obtain ⟨fd31, F31⟩ := c.def_ 31 (d := d31) rfl
  have b31 := FunD.bindsN (ps := ["_law_keeper", "_law_cell_here"]) F31 fun _ _ _ _ _ _ us hl => match us, hl with | [_, _], _ => rfl
  have g__law_turned := He.glo_ok X Gn (c.fact 51 (f := .glo "_law_turned") rfl)
  obtain ⟨fd32, F32⟩ := c.def_ 32 (d := d32) rfl
  have b32 := FunD.bindsA (ps := ["_law_script"]) F32 fun _ _ _ _ _ _ us hl => match us, hl with | [_], _ => rfl
  have g_law := He.glo_ok X Gn (c.fact 52 (f := .glo "law") rfl)
  have m_ValueError := He.free_ok X Gn (c.fact 53 (f := .free "ValueError") rfl)
  have m_abs := He.free_ok X Gn (c.fact 54 (f := .free "abs") rfl)
  have m_any := He.free_ok X Gn (c.fact 55 (f := .free "any") rfl)
  have m_enumerate := He.free_ok X Gn (c.fact 56 (f := .free "enumerate") rfl)
  have m_int := He.free_ok X Gn (c.fact 57 (f := .free "int") rfl)
  have m_len := He.free_ok X Gn (c.fact 58 (f := .free "len") rfl)
  have m_list := He.free_ok X Gn (c.fact 59 (f := .free "list") rfl)
  have m_max := He.free_ok X Gn (c.fact 60 (f := .free "max") rfl)
  have m_min := He.free_ok X Gn (c.fact 61 (f := .free "min") rfl)
  have m_range := He.free_ok X Gn (c.fact 62 (f := .free "range") rfl)
  have m_set := He.free_ok X Gn (c.fact 63 (f := .free "set") rfl)
  have m_sorted := He.free_ok X Gn (c.fact 64 (f := .free "sorted") rfl)
  have m_tuple := He.free_ok X Gn (c.fact 65 (f := .free "tuple") rfl)
  have g_LampError := He.glo_ok X Gn (c.fact 0 (f := .glo "LampError") rfl)
  have x_LampError := He.exc_ok (c.fact 1 (f := .exc "LampError") rfl)
  have g_OffFloor := He.glo_ok X Gn (c.fact 2 (f := .glo "OffFloor") rfl)
  have x_OffFloor := He.exc_ok (c.fact 3 (f := .exc "OffFloor") rfl)
  have g_InWall := He.glo_ok X Gn (c.fact 4 (f := .glo "InWall") rfl)
  have x_InWall := He.exc_ok (c.fact 5 (f := .exc "InWall") rfl)
  have g_NotWall := He.glo_ok X Gn (c.fact 6 (f := .glo "NotWall") rfl)
  have x_NotWall := He.exc_ok (c.fact 7 (f := .exc "NotWall") rfl)
  have g_Line := He.glo_ok X Gn (c.fact 16 (f := .glo "Line") rfl)
  have cl_Line := He.cls_ok (c.fact 17 (f := .cls "Line") rfl)
  have na_Line_cells := He.noat_ok (c.fact 21 (f := .noat "Line" "cells") rfl)
  have na_Line_couples := He.noat_ok (c.fact 22 (f := .noat "Line" "couples") rfl)
  have na_Line_down := He.noat_ok (c.fact 23 (f := .noat "Line" "down") rfl)
  have na_Line_right := He.noat_ok (c.fact 24 (f := .noat "Line" "right") rfl)
  have g_Keeper := He.glo_ok X Gn (c.fact 30 (f := .glo "Keeper") rfl)
  have cl_Keeper := He.cls_ok (c.fact 31 (f := .cls "Keeper") rfl)
  have na_Keeper_by_cell := He.noat_ok (c.fact 41 (f := .noat "Keeper" "by_cell") rfl)
  have na_Keeper_couples := He.noat_ok (c.fact 42 (f := .noat "Keeper" "couples") rfl)
  have na_Keeper_floor := He.noat_ok (c.fact 43 (f := .noat "Keeper" "floor") rfl)
  have na_Keeper_many := He.noat_ok (c.fact 44 (f := .noat "Keeper" "many") rfl)
  have xm_LampError_LampError := He.exm_ok (c.fact 66 (f := .exm "LampError" "LampError" true) rfl)
  have xm_LampError_OffFloor := He.exm_ok (c.fact 67 (f := .exm "LampError" "OffFloor" false) rfl)
  have xm_LampError_InWall := He.exm_ok (c.fact 68 (f := .exm "LampError" "InWall" false) rfl)
  have xm_LampError_NotWall := He.exm_ok (c.fact 69 (f := .exm "LampError" "NotWall" false) rfl)
  have xm_OffFloor_LampError := He.exm_ok (c.fact 70 (f := .exm "OffFloor" "LampError" true) rfl)
  have xm_OffFloor_OffFloor := He.exm_ok (c.fact 71 (f := .exm "OffFloor" "OffFloor" true) rfl)
  have xm_OffFloor_InWall := He.exm_ok (c.fact 72 (f := .exm "OffFloor" "InWall" false) rfl)
  have xm_OffFloor_NotWall := He.exm_ok (c.fact 73 (f := .exm "OffFloor" "NotWall" false) rfl)
  have xm_InWall_LampError := He.exm_ok (c.fact 74 (f := .exm "InWall" "LampError" true) rfl)
  have xm_InWall_OffFloor := He.exm_ok (c.fact 75 (f := .exm "InWall" "OffFloor" false) rfl)
  have xm_InWall_InWall := He.exm_ok (c.fact 76 (f := .exm "InWall" "InWall" true) rfl)
  have xm_InWall_NotWall := He.exm_ok (c.fact 77 (f := .exm "InWall" "NotWall" false) rfl)
  have xm_NotWall_LampError := He.exm_ok (c.fact 78 (f := .exm "NotWall" "LampError" true) rfl)
  have xm_NotWall_OffFloor := He.exm_ok (c.fact 79 (f := .exm "NotWall" "OffFloor" false) rfl)
  have xm_NotWall_InWall := He.exm_ok (c.fact 80 (f := .exm "NotWall" "InWall" false) rfl)
  have xm_NotWall_NotWall := He.exm_ok (c.fact 81 (f := .exm "NotWall" "NotWall" true) rfl)
  have e := hfa.symm.trans g_law
  cases e
  refine ⟨fd32, fun s v => b32 s [v] rfl, fun base _ _ => ?_⟩
  have h__law_cell : FnG P w K mg base 1 "_law_cell" ["_law_script", "_law_k"] (sp_cell K) := ⟨_, _, ok__law_cell ⟨_, _, F25⟩ m_len, g__law_cell, F25.kp, b25⟩
  have h__law_drawn : FnG P w K mg base 2 "_law_drawn" ["_law_script", "_law_k", "_law_many"] (sp_drawn K) := ⟨_, _, ok__law_drawn ⟨_, _, F26⟩ h__law_cell, g__law_drawn, F26.kp, b26⟩
  have h__law_floor : FnG P w K mg base 3 "_law_floor" ["_law_script", "_law_at", "_law_most"] (sp__law_floor K) := ⟨_, _, ok__law_floor ⟨_, _, F27⟩ m_range m_tuple h__law_drawn, g__law_floor, F27.kp, b27⟩
  have h__law_cells : FnG P w K mg base 1 "_law_cells" ["_law_floor_here"] (sp__law_cells K) := ⟨_, _, ok__law_cells ⟨_, _, F28⟩ m_range, g__law_cells, F28.kp, b28⟩
  have h_all_cells : FnG P w K mg base 1 "all_cells" ["floor"] (sp_all_cells K) := ⟨_, _, ok_all_cells ⟨_, _, F3⟩ m_range, g_all_cells, F3.kp, b3⟩
  have h_open_cells : FnG P w K mg base 2 "open_cells" ["floor"] (sp_open_cells K) := ⟨_, _, ok_open_cells ⟨_, _, F4⟩ h_all_cells, g_open_cells, F4.kp, b4⟩
  have h_sign_of : FnG P w K mg base 1 "sign_of" ["number"] (sp_sign K) := ⟨_, _, ok_sign_of ⟨_, _, F7⟩ m_int, g_sign_of, F7.kp, b7⟩
  have h_Line_step_of : MeG P w K mg base 1 (He.ga K "Line") "step_of" ["self", "lead"] (sp_step K (He.ga K "Line")) := ⟨⟨_, _, ok_Line_step_of ⟨_, _, F9⟩ m_int, He.meth_ok (c.fact 19 (f := .meth "Line" "step_of") rfl), b9⟩, cl_Line⟩
  have h_Line_next_cell : MeG P w K mg base 2 (He.ga K "Line") "next_cell" ["self", "here", "lead"] (sp_next K (He.ga K "Line")) := ⟨⟨_, _, ok_Line_next_cell ⟨_, _, F10⟩ m_tuple m_sorted cl_Line na_Line_couples na_Line_right na_Line_down h_Line_step_of, He.meth_ok (c.fact 20 (f := .meth "Line" "next_cell") rfl), b10⟩, cl_Line⟩
  have h_Line___init__ : MkG P w K mg base 3 "Line" (He.ga K "Line") ["self", "one", "other"] (sp_init K (He.ga K "Line")) := ⟨_, _, ok_Line___init__ ⟨_, _, F8⟩ m_abs cl_Line na_Line_cells na_Line_couples na_Line_right na_Line_down h_sign_of h_Line_step_of h_Line_next_cell, He.mkr_ok (c.fact 18 (f := .mkr "Line") rfl), b8, g_Line⟩
  have h_is_squeezed : FnG P w K mg base 1 "is_squeezed" ["floor", "line"] (sp_is_squeezed K (He.ga K "Line")) := ⟨_, _, ok_is_squeezed ⟨_, _, F11⟩ m_any cl_Line na_Line_couples, g_is_squeezed, F11.kp, b11⟩
  have h_is_free : FnG P w K mg base 2 "is_free" ["floor", "line", "cells"] (sp_is_free K (He.ga K "Line")) := ⟨_, _, ok_is_free ⟨_, _, F12⟩ m_any h_is_squeezed, g_is_free, F12.kp, b12⟩
  have h_looks : FnG P w K mg base 5 "looks" ["floor", "one", "other"] (sp_looks K) := ⟨_, _, ok_looks ⟨_, _, F13⟩ cl_Line na_Line_cells h_Line___init__ h_is_free, g_looks, F13.kp, b13⟩
  have h_couples_of : FnG P w K mg base 6 "couples_of" ["floor"] (sp_couples_of K) := ⟨_, _, ok_couples_of ⟨_, _, F15⟩ m_enumerate h_open_cells h_looks, g_couples_of, F15.kp, b15⟩
  have h_Keeper_book : MeG P w K mg base 5 (He.ga K "Keeper") "book" ["self", "one", "other"] (sp_kbook K) := ⟨⟨_, _, ok_Keeper_book ⟨_, _, F17⟩ cl_Keeper na_Keeper_by_cell cl_Line na_Line_cells na_Line_couples m_list h_Line___init__, He.meth_ok (c.fact 33 (f := .meth "Keeper" "book") rfl), b17⟩, cl_Keeper⟩
  have h_Keeper___init__ : MkG P w K mg base 7 "Keeper" (He.ga K "Keeper") ["self", "floor"] (sp_kini K) := ⟨_, _, ok_Keeper___init__ ⟨_, _, F16⟩ cl_Keeper na_Keeper_floor na_Keeper_by_cell na_Keeper_couples na_Keeper_many m_enumerate h_all_cells h_couples_of h_Keeper_book, He.mkr_ok (c.fact 32 (f := .mkr "Keeper") rfl), b16, g_Keeper⟩
  have h_Keeper_now : MeG P w K mg base 1 (He.ga K "Keeper") "now" ["self"] (sp_know K) := ⟨⟨_, _, ok_Keeper_now ⟨_, _, F21⟩ cl_Keeper na_Keeper_floor, He.meth_ok (c.fact 37 (f := .meth "Keeper" "now") rfl), b21⟩, cl_Keeper⟩
  have h_Keeper_seen : MeG P w K mg base 1 (He.ga K "Keeper") "seen" ["self"] (sp_kseen K) := ⟨⟨_, _, ok_Keeper_seen ⟨_, _, F22⟩ cl_Keeper na_Keeper_couples m_list, He.meth_ok (c.fact 38 (f := .meth "Keeper" "seen") rfl), b22⟩, cl_Keeper⟩
  have h_Keeper_looked : MeG P w K mg base 1 (He.ga K "Keeper") "looked" ["self"] (sp_klooked K) := ⟨⟨_, _, ok_Keeper_looked ⟨_, _, F24⟩ cl_Keeper na_Keeper_many, He.meth_ok (c.fact 40 (f := .meth "Keeper" "looked") rfl), b24⟩, cl_Keeper⟩
  have h_is_on : FnG P w K mg base 1 "is_on" ["wide", "high", "spot"] (sp_is_on K) := ⟨_, _, ok_is_on ⟨_, _, F0⟩, g_is_on, F0.kp, b0⟩
  have h_need_cell : FnG P w K mg base 2 "need_cell" ["floor", "cell"] (sp_need_cell K) := ⟨_, _, ok_need_cell ⟨_, _, F1⟩ h_is_on x_OffFloor g_OffFloor, g_need_cell, F1.kp, b1⟩
  have h_Keeper_do_see : MeG P w K mg base 3 (He.ga K "Keeper") "do_see" ["self", "one", "other"] (sp_kdosee K) := ⟨⟨_, _, ok_Keeper_do_see ⟨_, _, F23⟩ m_min m_max cl_Keeper na_Keeper_floor na_Keeper_couples h_need_cell, He.meth_ok (c.fact 39 (f := .meth "Keeper" "do_see") rfl), b23⟩, cl_Keeper⟩
  have h_is_solid : FnG P w K mg base 3 "is_solid" ["floor", "cell"] (sp_is_solid K) := ⟨_, _, ok_is_solid ⟨_, _, F2⟩ h_need_cell, g_is_solid, F2.kp, b2⟩
  have h_with_solid : FnG P w K mg base 4 "with_solid" ["floor", "cell"] (sp_with_solid K) := ⟨_, _, ok_with_solid ⟨_, _, F5⟩ m_tuple m_sorted h_is_solid, g_with_solid, F5.kp, b5⟩
  have h_Keeper_look_anew : MeG P w K mg base 6 (He.ga K "Keeper") "look_anew" ["self", "cell"] (sp_kanew K) := ⟨⟨_, _, ok_Keeper_look_anew ⟨_, _, F18⟩ cl_Keeper na_Keeper_floor na_Keeper_by_cell na_Keeper_couples na_Keeper_many h_looks, He.meth_ok (c.fact 34 (f := .meth "Keeper" "look_anew") rfl), b18⟩, cl_Keeper⟩
  have h_Keeper_put_solid : MeG P w K mg base 7 (He.ga K "Keeper") "put_solid" ["self", "cell"] (sp_kput K) := ⟨⟨_, _, ok_Keeper_put_solid ⟨_, _, F19⟩ cl_Keeper na_Keeper_floor na_Keeper_couples h_is_solid h_with_solid h_Keeper_look_anew, He.meth_ok (c.fact 35 (f := .meth "Keeper" "put_solid") rfl), b19⟩, cl_Keeper⟩
  have h_without_solid : FnG P w K mg base 3 "without_solid" ["floor", "cell"] (sp_without_solid K) := ⟨_, _, ok_without_solid ⟨_, _, F6⟩ m_tuple h_need_cell, g_without_solid, F6.kp, b6⟩
  have h_Keeper_take_solid : MeG P w K mg base 7 (He.ga K "Keeper") "take_solid" ["self", "cell"] (sp_ktake K) := ⟨⟨_, _, ok_Keeper_take_solid ⟨_, _, F20⟩ cl_Keeper na_Keeper_floor na_Keeper_couples m_sorted h_is_solid h_without_solid h_Keeper_look_anew, He.meth_ok (c.fact 36 (f := .meth "Keeper" "take_solid") rfl), b20⟩, cl_Keeper⟩
  have h__law_turned : FnG P w K mg base 8 "_law_turned" ["_law_keeper", "_law_cell_here"] (sp_turned K) := ⟨_, _, ok__law_turned ⟨_, _, F31⟩ h_Keeper_now h_Keeper_put_solid h_Keeper_take_solid, g__law_turned, F31.kp, b31⟩
  have h_sees : FnG P w K mg base 6 "sees" ["floor", "one", "other"] (sp_sees K) := ⟨_, _, ok_sees ⟨_, _, F14⟩ h_need_cell h_looks, g_sees, F14.kp, b14⟩
  exact ok_law ⟨_, _, F32⟩ m_range m_len m_max m_min m_sorted m_set h__law_drawn h__law_floor h__law_cells h_Keeper___init__ h_Keeper_now h_Keeper_seen h_Keeper_looked h_Keeper_do_see h__law_turned h_couples_of h_sees h_with_solid h_without_solid
theorem law_sp {K : PySem.W.Frag} {H : Hp} {a : Addr} {ns : List Int} (hl : ns.length ≤ 63) (hS : SqL K H a (ns.map V.int)) : sp_law K [.ref a] H (fun v _ => v = .bl true) fun _ _ _ => False := by
  refine ⟨⟨ns⟩, H, [], WF.none (Ext.refl H), Owns.fros (ds := [enc (⟨ns⟩ : Scr)]) (.cons (.scr hS (Reps.ints ns)) .nil), by show ns.length ≤ 1000; omega, ?_⟩
  show RM.Post _ _ _ _ _ _ _ (rmF _ (oF (m_law ⟨ns⟩)))
  rw [law_true ⟨ns⟩ (show ns.length ≤ 1000 by omega)]
  intro v F' H' B A' w s ow ows
  cases ow with
  | fro r => cases r; rfl
end My
open PySem PySem.W PySem.Calls PyProof.Rows
theorem PySem.Challenge.cw_lampfloor_k41_whole_keeper_holds : PySem.Challenge.rw_lampfloor_k41_whole_keeper.Holds := by
  w_on; o_law
  refine HandSHeadRun.head_any (r := OpenLaw.row PySem.Challenge.rw_lampfloor_k41_whole_keeper) (q := view (OpenLaw.row PySem.Challenge.rw_lampfloor_k41_whole_keeper).prog [32]) (H := My.hk) (ob := My.ob) (M := 3000) (loose := My.names) (d := HandSHeadRun.topDef (OpenLaw.row PySem.Challenge.rw_lampfloor_k41_whole_keeper).prog 32) (kwd := []) My.ob_eq
    (by kernel_rfl) (fun s => by kernel_rfl) My.run (by kernel_rfl) (by kernel_rfl) (by kernel_rfl) (by rfl) (by first | assumption | decide +kernel) (by decide +kernel) ⟨rfl, rfl, rfl, rfl, rfl, by decide +kernel⟩ ?hw ?hc
  case hw => w_witness2
  case hc =>
    refine LamX.walk_ofTsE (l := PySem.Challenge.rw_lampfloor_k41_whole_keeper) (n := 63) (k := 9) (x := "_law_script") (CX := fun w => L2N.CX (PySem.Challenge.rw_lampfloor_k41_whole_keeper).prog w) rfl (by decide) (by kernel_rfl) ⟨rfl, by decide, by decide⟩ ?F (fun _ _ _ _ _ ⟨_, _, _, _, _, _, _, _, _, _, _, _, z⟩ => z)
    intro w mg fa h Y Gn hmg0
    obtain ⟨K, KX, c⟩ := Y
    have hmg : mg ("law" : PySem.Str) = some (.ref fa) := by
      have e : (HandSHeadRun.topDef (OpenLaw.row PySem.Challenge.rw_lampfloor_k41_whole_keeper).prog 32).name = ("law" : PySem.Str) := by kernel_rfl
      rw [← e]
      exact hmg0
    obtain ⟨fd, hb, hF⟩ := My.facts (P := (PySem.Challenge.rw_lampfloor_k41_whole_keeper).prog) (w := w) KX Gn hmg c
    exact ⟨K, KX, fd, [], My.sp_law K, by simp, by simp, by simp, hb, fun H a ns hl _ _ hS => My.law_sp hl hS, fun base k1 k2 _ => hF base k1 k2⟩
