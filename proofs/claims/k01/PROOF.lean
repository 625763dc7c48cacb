import PyProof.Rows.All
import Wide.All
import OpenK.AllK
import Wide.FinOn
import HandS.ForMost
import HandS.Exc
import HandS.TryOnly
import HandS.ExcOwn
import HandS.ExcCtx
import HandS.HotCalls
import HandS.WordsExc
import HandS.HeadHook2
import KE.Datum
import KE.DatumOrd
import KE.DatumMore
import KE.DatumIndex
import KE.SortData
import HandS.TupAny
import HandS.Deep
import HandS.Walk
import HandS.RevRange
import HandS.IsInst
import HandS.TupSets
import PyProof.TupleOfSeq
import HandS.ExcValue
import HandS.ExcIs
import HandS.TryMany
import HandS.Zip
import HandS.Rev
import HandS.Style
import HandS.Dict
import HandS.More
import HandS.HeadHook3
import HandS.Text
import PyProof.PureStr
import KE.KDictDisplayH
import HandS.Conv
import HandS.Iter
import HandS.TupMul
import KE.GoesMore
import KE.KStateDown
import Lean
import HandS.Defaults
import HandS.Head0
import HandS.Head1
import HandS.Head2
import HandS.HeadEnd
import HandS.HeadWalk
import HandS.HeadHook1
import PySem.Challenge.RW_lampfloor_k01_floors_known
set_option Elab.async false
set_option linter.all false
set_option maxRecDepth 100000
set_option maxHeartbeats 0
namespace G
open PySem PySem.Spec PyProof.Rows L2

/-! ### data, and what a heap lays out -/
inductive D where
  | non | bl (b : Bool) | int (i : Int) | str (x : Str)
  | lst (ds : List D) | tup (ds : List D) | scr (ds : List D) | tk (ds : List D)
  | dt (ks : List (List Key)) (ds : List D) | dk (ks : List Key) (ds : List D)
  | ins (C : Addr) (ns : List Str) (ds : List D)
  | obj (a : Addr) | ty (n : String)
instance : Inhabited D := ⟨.non⟩

variable (K : PySem.W.Frag)
mutual
inductive Rep (F : Hp) : V → D → Prop
  | non : Rep F .non .non
  | bl {b} : Rep F (.bl b) (.bl b)
  | int {i} : Rep F (.int i) (.int i)
  | str {x} : Rep F (.str x) (.str x)
  | lst {a xs ds} : F a = some (.lst xs) → Reps F xs ds → Rep F (.ref a) (.lst ds)
  | scr {a xs ds} : SqL K F a xs → Reps F xs ds → Rep F (.ref a) (.scr ds)
  | tup {a xs ds} : F a = some (.tup xs) → Reps F xs ds → Rep F (.ref a) (.tup ds)
  | tk {a xs ds} : SqT K F a xs → Reps F xs ds → Rep F (.ref a) (.tk ds)
  | dt {a kvs ks ds} : F a = some (.dT kvs) → kvs.map (·.1) = ks → Reps F (kvs.map (·.2)) ds → Rep F (.ref a) (.dt ks ds)
  | dk {a kvs ks ds} : F a = some (.dK kvs) → kvs.map (·.1) = ks → Reps F (kvs.map (·.2)) ds → Rep F (.ref a) (.dk ks ds)
  | ins {a C dx fs ns ds} : F a = some (.ins C dx fs) → fs.map (·.1) = ns → Reps F (fs.map (·.2)) ds → Rep F (.ref a) (.ins C ns ds)
  | obj {a} : Rep F (.ref a) (.obj a)
  | ty {n} : Rep F (.ty n) (.ty n)
inductive Reps (F : Hp) : List V → List D → Prop
  | nil : Reps F [] []
  | cons {v d vs ds} : Rep F v d → Reps F vs ds → Reps F (v :: vs) (d :: ds)
end
def Ext (F F' : Hp) : Prop := ∀ a o, F a = some o → F' a = some o
variable {K}
theorem Ext.refl (F : Hp) : Ext F F := fun _ _ h => h
theorem Ext.trans {F F1 F2 : Hp} (a : Ext F F1) (b : Ext F1 F2) : Ext F F2 := fun x o h => b x o (a x o h)
theorem Ext.rd {F F' : Hp} {a : Addr} {u : HO} (e : Ext F F') (h : Rd F a u) : Rd F' a u := by
  rcases h with h | ⟨o, h⟩
  · exact .inl (e a _ h)
  · exact .inr ⟨o, e a _ h⟩
theorem Ext.l {F F' : Hp} {a : Addr} {xs : List V} (e : Ext F F') (h : SqL K F a xs) : SqL K F' a xs := h.imp e.rd id
theorem Ext.t {F F' : Hp} {a : Addr} {xs : List V} (e : Ext F F') (h : SqT K F a xs) : SqT K F' a xs := h.imp e.rd id
mutual
theorem Rep.mono {F F' : Hp} (e : Ext F F') : ∀ {v : V} {d : D}, Rep K F v d → Rep K F' v d
  | _, _, .non => .non
  | _, _, .bl => .bl
  | _, _, .int => .int
  | _, _, .str => .str
  | _, _, .lst h r => .lst (e _ _ h) (Reps.mono e r)
  | _, _, .scr h r => .scr (e.l h) (Reps.mono e r)
  | _, _, .tup h r => .tup (e _ _ h) (Reps.mono e r)
  | _, _, .tk h r => .tk (e.t h) (Reps.mono e r)
  | _, _, .dt h k r => .dt (e _ _ h) k (Reps.mono e r)
  | _, _, .dk h k r => .dk (e _ _ h) k (Reps.mono e r)
  | _, _, .ins h k r => .ins (e _ _ h) k (Reps.mono e r)
  | _, _, .obj => .obj
  | _, _, .ty => .ty
theorem Reps.mono {F F' : Hp} (e : Ext F F') : ∀ {vs : List V} {ds : List D}, Reps K F vs ds → Reps K F' vs ds
  | _, _, .nil => .nil
  | _, _, .cons h r => .cons (Rep.mono e h) (Reps.mono e r)
end
theorem Reps.length {F : Hp} : ∀ {vs : List V} {ds : List D}, Reps K F vs ds → vs.length = ds.length
  | _, _, .nil => rfl
  | _, _, .cons _ r => congrArg (· + 1) r.length
theorem Reps.get {F : Hp} : ∀ {vs : List V} {ds : List D} {i : Nat} {d : D}, Reps K F vs ds → ds[i]? = some d → ∃ v, vs[i]? = some v ∧ Rep K F v d
  | _, _, _, _, .nil, e => by simp at e
  | _, _, 0, _, .cons h _, e => by simp at e; subst e; exact ⟨_, rfl, h⟩
  | _, _, i + 1, d, .cons _ r, e => by
    obtain ⟨v, h1, h2⟩ := Reps.get (i := i) (d := d) r (by simpa using e)
    exact ⟨v, by simpa using h1, h2⟩
theorem Reps.get' {F : Hp} : ∀ {vs : List V} {ds : List D} {i : Nat} {v : V}, Reps K F vs ds → vs[i]? = some v → ∃ d, ds[i]? = some d ∧ Rep K F v d
  | _, _, _, _, .nil, e => by simp at e
  | _, _, 0, _, .cons h _, e => by simp at e; subst e; exact ⟨_, rfl, h⟩
  | _, _, i + 1, d, .cons _ r, e => by
    obtain ⟨v, h1, h2⟩ := Reps.get' (i := i) (v := d) r (by simpa using e)
    exact ⟨v, by simpa using h1, h2⟩
theorem Reps.append {F : Hp} : ∀ {vs ws : List V} {ds es : List D}, Reps K F vs ds → Reps K F ws es → Reps K F (vs ++ ws) (ds ++ es)
  | _, _, _, _, .nil, s => s
  | _, _, _, _, .cons h r, s => .cons h (r.append s)
theorem Reps.take {F : Hp} : ∀ {vs : List V} {ds : List D} (n : Nat), Reps K F vs ds → Reps K F (vs.take n) (ds.take n)
  | _, _, 0, _ => by rw [List.take_zero, List.take_zero]; exact .nil
  | _, _, _ + 1, .nil => .nil
  | _, _, n + 1, .cons h r => .cons h (r.take n)
theorem Reps.drop {F : Hp} : ∀ {vs : List V} {ds : List D} (n : Nat), Reps K F vs ds → Reps K F (vs.drop n) (ds.drop n)
  | _, _, 0, h => h
  | _, _, _ + 1, .nil => .nil
  | _, _, n + 1, .cons _ r => r.drop n
theorem Reps.reverse {F : Hp} : ∀ {vs : List V} {ds : List D}, Reps K F vs ds → Reps K F vs.reverse ds.reverse
  | _, _, .nil => .nil
  | _, _, .cons h r => by rw [List.reverse_cons, List.reverse_cons]; exact r.reverse.append (.cons h .nil)
theorem Reps.ints {F : Hp} : ∀ ns : List Int, Reps K F (ns.map V.int) (ns.map D.int)
  | [] => .nil
  | _ :: r => .cons .int (Reps.ints r)
theorem Reps.split {F : Hp} : ∀ {vs : List V} {ds es : List D}, Reps K F vs (ds ++ es) → ∃ v1 v2, vs = v1 ++ v2 ∧ Reps K F v1 ds ∧ Reps K F v2 es
  | vs, [], es, h => ⟨[], vs, rfl, .nil, h⟩
  | _, d :: ds, es, .cons h r => by
    obtain ⟨v1, v2, e, h1, h2⟩ := r.split
    exact ⟨_ :: v1, v2, by rw [e]; rfl, .cons h h1, h2⟩

/-! ### what is owned -/
inductive O where
  | fro (d : D)
  | lst (os : List O) | dt (ks : List (List Key)) (os : List O) | dk (ks : List Key) (os : List O)
  | ins (C : Addr) (ns : List Str) (os : List O)
instance : Inhabited O := ⟨.fro .non⟩
mutual
def O.d : O → D
  | .fro d => d
  | .lst os => .lst (O.ds os)
  | .dt ks os => .dt ks (O.ds os)
  | .dk ks os => .dk ks (O.ds os)
  | .ins C ns os => .ins C ns (O.ds os)
def O.ds : List O → List D
  | [] => []
  | o :: os => o.d :: O.ds os
end
variable (K)
mutual
inductive Own (F H : Hp) : V → O → List Addr → Prop
  | fro {v d} : Rep K F v d → Own F H v (.fro d) []
  | lst {a xs os A} : H a = some (.lst xs) → Owns F H xs os A → Own F H (.ref a) (.lst os) (a :: A)
  | dt {a kvs ks os A} : H a = some (.dT kvs) → kvs.map (·.1) = ks → Owns F H (kvs.map (·.2)) os A → Own F H (.ref a) (.dt ks os) (a :: A)
  | dk {a kvs ks os A} : H a = some (.dK kvs) → kvs.map (·.1) = ks → Owns F H (kvs.map (·.2)) os A → Own F H (.ref a) (.dk ks os) (a :: A)
  | ins {a C dx fs ns os A} : H a = some (.ins C dx fs) → fs.map (·.1) = ns → Owns F H (fs.map (·.2)) os A → Own F H (.ref a) (.ins C ns os) (a :: A)
inductive Owns (F H : Hp) : List V → List O → List Addr → Prop
  | nil : Owns F H [] [] []
  | cons {v o vs os A B} : Own F H v o A → Owns F H vs os B → Owns F H (v :: vs) (o :: os) (A ++ B)
end
variable {K}
/-- nothing, or a tuple -/
def Imm : Option HO → Prop
  | none => True
  | some (.tup _) => True
  | some _ => False
theorem imm_none {o : Option HO} (h : o = none) : Imm o := by subst h; trivial
theorem imm_tup {o : Option HO} {xs : List V} (h : o = some (.tup xs)) : Imm o := by subst h; trivial
/-- F is the frozen part of H; A the owned addresses -/
structure WF (F H : Hp) (A : List Addr) : Prop where
  sub : Ext F H
  nd : A.Nodup
  off : ∀ a ∈ A, F a = none
  on : ∀ a ∈ A, ¬ Imm (H a)
/-- from (F, H, A) on to (F', H', A') -/
structure Stp (F H : Hp) (A : List Addr) (F' H' : Hp) (A' : List Addr) : Prop where
  fs : Ext F F'
  keep : ∀ a o, H a = some o → a ∉ A → H' a = some o
  new : ∀ a o, F' a = some o → F a = some o ∨ a ∈ A ∨ Imm (H a)
  foot : ∀ a ∈ A', a ∈ A ∨ H a = none
  alive : ∀ a, H' a = none → H a = none
theorem Stp.refl {F H : Hp} {A : List Addr} : Stp F H A F H A := ⟨Ext.refl F, fun _ _ h _ => h, fun _ _ h => .inl h, fun _ h => .inl h, fun _ h => h⟩
theorem Stp.trans {F H F1 H1 F2 H2 : Hp} {A A1 A2 : List Addr} (s : Stp F H A F1 H1 A1) (t : Stp F1 H1 A1 F2 H2 A2) : Stp F H A F2 H2 A2 where
  fs := s.fs.trans t.fs
  keep := fun a o h n => t.keep a o (s.keep a o h n) fun h1 => by
    rcases s.foot a h1 with q | q
    · exact n q
    · rw [h] at q; cases q
  new := fun a o h => by
    rcases t.new a o h with q | q | q
    · exact s.new a o q
    · rcases s.foot a q with z | z
      · exact .inr (.inl z)
      · exact .inr (.inr (imm_none z))
    · by_cases n : a ∈ A
      · exact .inr (.inl n)
      · cases e : H a with
        | none => exact .inr (.inr trivial)
        | some u => rw [s.keep a u e n] at q; exact .inr (.inr q)
  foot := fun a h => by
    rcases t.foot a h with q | q
    · exact s.foot a q
    · exact .inr (s.alive a q)
  alive := fun a h => s.alive a (t.alive a h)
theorem Stp.held {F H F1 H1 : Hp} {A B : List Addr} (s : Stp F H A F1 H1 B) {x : Addr} (hx : x ∉ A) (w : ¬ Imm (H x)) : ¬ Imm (H1 x) := by
  intro z
  cases e : H x with
  | none => exact w (imm_none e)
  | some u => rw [s.keep x u e hx] at z; exact w (by rw [e]; exact z)
theorem Stp.perm {F H F1 H1 : Hp} {A A' B B' : List Addr} (s : Stp F H A F1 H1 B) (e : ∀ a, a ∈ A ↔ a ∈ A') (e' : ∀ a, a ∈ B' → a ∈ B) : Stp F H A' F1 H1 B' :=
  ⟨s.fs, fun a o h n => s.keep a o h fun q => n ((e a).1 q), fun a o h => (s.new a o h).imp id (Or.imp (e a).1 id), fun a h => (s.foot a (e' a h)).imp (e a).1 id, s.alive⟩
/-- a step that touches less -/
theorem Stp.mono {F H F1 H1 : Hp} {A A' B : List Addr} (s : Stp F H A F1 H1 B) (e : ∀ a, a ∈ A → a ∈ A') : Stp F H A' F1 H1 B :=
  ⟨s.fs, fun a o h n => s.keep a o h fun q => n (e a q), fun a o h => (s.new a o h).imp id (Or.imp (e a) id), fun a h => (s.foot a h).imp (e a) id, s.alive⟩
theorem Stp.more {F H F1 H1 : Hp} {A B C : List Addr} (s : Stp F H A F1 H1 B) (e : ∀ a ∈ C, a ∈ A ∨ H a = none) : Stp F H A F1 H1 (B ++ C) :=
  ⟨s.fs, s.keep, s.new, fun a h => (List.mem_append.mp h).elim (s.foot a) (e a), s.alive⟩
theorem WF.perm {F H : Hp} {A A' : List Addr} (w : WF F H A) (e : A.Perm A') : WF F H A' :=
  ⟨w.sub, e.nodup_iff.mp w.nd, fun a h => w.off a (e.mem_iff.mpr h), fun a h => w.on a (e.mem_iff.mpr h)⟩
theorem WF.left {F H : Hp} {A B : List Addr} (w : WF F H (A ++ B)) : WF F H A :=
  ⟨w.sub, (List.nodup_append.mp w.nd).1, fun a h => w.off a (List.mem_append_left _ h), fun a h => w.on a (List.mem_append_left _ h)⟩
theorem WF.right {F H : Hp} {A B : List Addr} (w : WF F H (A ++ B)) : WF F H B :=
  ⟨w.sub, (List.nodup_append.mp w.nd).2.1, fun a h => w.off a (List.mem_append_right _ h), fun a h => w.on a (List.mem_append_right _ h)⟩
theorem WF.dis {F H : Hp} {A B : List Addr} (w : WF F H (A ++ B)) {a : Addr} (h : a ∈ A) : a ∉ B := fun h2 => (List.nodup_append.mp w.nd).2.2 a h a h2 rfl
theorem WF.none {F H : Hp} (h : Ext F H) : WF F H [] := ⟨h, List.nodup_nil, by simp, by simp⟩
mutual
theorem Own.mono {F H F' H' : Hp} {S : List Addr} (e : Ext F F') (k : ∀ a o, H a = some o → a ∈ S → H' a = some o) : ∀ {v : V} {o : O} {B : List Addr}, Own K F H v o B → (∀ b ∈ B, b ∈ S) → Own K F' H' v o B
  | _, _, _, .fro h, _ => .fro (h.mono e)
  | _, _, _, .lst h r, s => .lst (k _ _ h (s _ List.mem_cons_self)) (Owns.mono e k r fun b hb => s b (List.mem_cons_of_mem _ hb))
  | _, _, _, .dt h q r, s => .dt (k _ _ h (s _ List.mem_cons_self)) q (Owns.mono e k r fun b hb => s b (List.mem_cons_of_mem _ hb))
  | _, _, _, .dk h q r, s => .dk (k _ _ h (s _ List.mem_cons_self)) q (Owns.mono e k r fun b hb => s b (List.mem_cons_of_mem _ hb))
  | _, _, _, .ins h q r, s => .ins (k _ _ h (s _ List.mem_cons_self)) q (Owns.mono e k r fun b hb => s b (List.mem_cons_of_mem _ hb))
theorem Owns.mono {F H F' H' : Hp} {S : List Addr} (e : Ext F F') (k : ∀ a o, H a = some o → a ∈ S → H' a = some o) : ∀ {vs : List V} {os : List O} {B : List Addr}, Owns K F H vs os B → (∀ b ∈ B, b ∈ S) → Owns K F' H' vs os B
  | _, _, _, .nil, _ => .nil
  | _, _, _, .cons h r, s => .cons (Own.mono e k h fun b hb => s b (List.mem_append_left _ hb)) (Owns.mono e k r fun b hb => s b (List.mem_append_right _ hb))
end
mutual
/-- what is owned is laid out -/
theorem Own.rep {F H : Hp} (e : Ext F H) : ∀ {v : V} {o : O} {B : List Addr}, Own K F H v o B → Rep K H v o.d
  | _, _, _, .fro h => h.mono e
  | _, _, _, .lst h r => .lst h (Owns.rep e r)
  | _, _, _, .dt h q r => .dt h q (Owns.rep e r)
  | _, _, _, .dk h q r => .dk h q (Owns.rep e r)
  | _, _, _, .ins h q r => .ins h q (Owns.rep e r)
theorem Owns.rep {F H : Hp} (e : Ext F H) : ∀ {vs : List V} {os : List O} {B : List Addr}, Owns K F H vs os B → Reps K H vs (O.ds os)
  | _, _, _, .nil => .nil
  | _, _, _, .cons h r => .cons (Own.rep e h) (Owns.rep e r)
end
theorem Owns.length {F H : Hp} : ∀ {vs : List V} {os : List O} {B : List Addr}, Owns K F H vs os B → vs.length = os.length
  | _, _, _, .nil => rfl
  | _, _, _, .cons _ r => congrArg (· + 1) r.length
/-- all items frozen -/
theorem Owns.fros {F H : Hp} : ∀ {vs : List V} {ds : List D}, Reps K F vs ds → Owns K F H vs (ds.map O.fro) []
  | _, _, .nil => .nil
  | _, _, .cons h r => .cons (A := []) (B := []) (.fro h) (Owns.fros r)
theorem Owns.fros_inv {F H : Hp} : ∀ {vs : List V} {ds : List D} {B : List Addr}, Owns K F H vs (ds.map O.fro) B → Reps K F vs ds ∧ B = []
  | [], [], _, h => by cases h; exact ⟨.nil, rfl⟩
  | _, d :: ds, _, h => by
    cases h with
    | cons h r =>
      cases h with
      | fro h =>
        obtain ⟨q, e⟩ := Owns.fros_inv r
        subst e
        exact ⟨.cons h q, rfl⟩
  | _ :: _, [], _, h => by cases h
theorem ds_fros : ∀ ds : List D, O.ds (ds.map O.fro) = ds
  | [] => by simp [O.ds]
  | d :: ds => by simp [O.ds, O.d, ds_fros ds]
/-- the owned addresses B are frozen -/
def frz (F H : Hp) (B : List Addr) : Hp := fun a => if a ∈ B then H a else F a
theorem frz_ext {F H : Hp} {B : List Addr} (h : ∀ b ∈ B, F b = none) : Ext F (frz F H B) := fun a o e => by
  unfold frz
  by_cases q : a ∈ B
  · rw [h a q] at e; cases e
  · rw [if_neg q]; exact e
theorem frz_in {F H : Hp} {B : List Addr} {a : Addr} (h : a ∈ B) : frz F H B a = H a := by unfold frz; rw [if_pos h]
theorem frz_out {F H : Hp} {B : List Addr} {a : Addr} (h : a ∉ B) : frz F H B a = F a := by unfold frz; rw [if_neg h]
theorem frz_wf {F H : Hp} {B A : List Addr} (w : WF F H (B ++ A)) : WF (frz F H B) H A where
  sub := fun a o e => by
    by_cases q : a ∈ B
    · rw [frz_in q] at e; exact e
    · rw [frz_out q] at e; exact w.sub a o e
  nd := w.right.nd
  off := fun a h => by rw [frz_out fun q => w.dis q h]; exact w.right.off a h
  on := w.right.on
theorem frz_stp {F H : Hp} {B A : List Addr} (w : WF F H (B ++ A)) : Stp F H (B ++ A) (frz F H B) H A where
  fs := frz_ext w.left.off
  keep := fun _ _ h _ => h
  new := fun a o e => by
    by_cases q : a ∈ B
    · exact .inr (.inl (List.mem_append_left _ q))
    · rw [frz_out q] at e; exact .inl e
  foot := fun a h => .inl (List.mem_append_right _ h)
  alive := fun _ h => h
mutual
theorem Own.frz {F H : Hp} {S : List Addr} (e : Ext F (G.frz F H S)) : ∀ {v : V} {o : O} {B : List Addr}, Own K F H v o B → (∀ b ∈ B, b ∈ S) → Rep K (G.frz F H S) v o.d
  | _, _, _, .fro h, _ => h.mono e
  | _, _, _, .lst h r, s => .lst ((frz_in (s _ List.mem_cons_self)).trans h) (Owns.frz e r fun b hb => s b (List.mem_cons_of_mem _ hb))
  | _, _, _, .dt h q r, s => .dt ((frz_in (s _ List.mem_cons_self)).trans h) q (Owns.frz e r fun b hb => s b (List.mem_cons_of_mem _ hb))
  | _, _, _, .dk h q r, s => .dk ((frz_in (s _ List.mem_cons_self)).trans h) q (Owns.frz e r fun b hb => s b (List.mem_cons_of_mem _ hb))
  | _, _, _, .ins h q r, s => .ins ((frz_in (s _ List.mem_cons_self)).trans h) q (Owns.frz e r fun b hb => s b (List.mem_cons_of_mem _ hb))
theorem Owns.frz {F H : Hp} {S : List Addr} (e : Ext F (G.frz F H S)) : ∀ {vs : List V} {os : List O} {B : List Addr}, Owns K F H vs os B → (∀ b ∈ B, b ∈ S) → Reps K (G.frz F H S) vs (O.ds os)
  | _, _, _, .nil, _ => .nil
  | _, _, _, .cons h r, s => .cons (Own.frz e h fun b hb => s b (List.mem_append_left _ hb)) (Owns.frz e r fun b hb => s b (List.mem_append_right _ hb))
end

/-! ### slots -/
abbrev Env := List (Option O)
variable (K)
inductive Envs (F H : Hp) : L2.St → Env → List Addr → Prop
  | nil : Envs F H [] [] []
  | no {x σ ρ A} : Envs F H σ ρ A → Envs F H (x :: σ) (none :: ρ) A
  | so {v o σ ρ B A} : Own K F H v o B → Envs F H σ ρ A → Envs F H (some v :: σ) (some o :: ρ) (B ++ A)
variable {K}
theorem Envs.mono {F H F' H' : Hp} {S : List Addr} (e : Ext F F') (k : ∀ a o, H a = some o → a ∈ S → H' a = some o) : ∀ {σ : L2.St} {ρ : Env} {A : List Addr}, Envs K F H σ ρ A → (∀ b ∈ A, b ∈ S) → Envs K F' H' σ ρ A
  | _, _, _, .nil, _ => .nil
  | _, _, _, .no r, s => .no (r.mono e k s)
  | _, _, _, .so h r, s => .so (h.mono e k fun b hb => s b (List.mem_append_left _ hb)) (r.mono e k fun b hb => s b (List.mem_append_right _ hb))
theorem Envs.length {F H : Hp} : ∀ {σ : L2.St} {ρ : Env} {A : List Addr}, Envs K F H σ ρ A → σ.length = ρ.length
  | _, _, _, .nil => rfl
  | _, _, _, .no r => congrArg (· + 1) r.length
  | _, _, _, .so _ r => congrArg (· + 1) r.length
/-- slot i out -/
theorem Envs.get {F H : Hp} : ∀ {σ : L2.St} {ρ : Env} {A : List Addr} {i : Nat} {o : O}, Envs K F H σ ρ A → ρ[i]? = some (some o) →
    ∃ v B A', σ[i]? = some (some v) ∧ Own K F H v o B ∧ Envs K F H σ (ρ.set i none) A' ∧ A.Perm (B ++ A')
  | _, _, _, _, _, .nil, e => by simp at e
  | _, _, _, 0, _, .no _, e => by simp at e
  | _, _, _, i + 1, o, .no r, e => by
    obtain ⟨v, B, A', h1, h2, h3, h4⟩ := r.get (i := i) (o := o) (by simpa using e)
    exact ⟨v, B, A', by simpa using h1, h2, .no h3, h4⟩
  | _, _, _, 0, o, .so h r, e => by
    simp at e; subst e
    exact ⟨_, _, _, rfl, h, .no r, .refl _⟩
  | _, _, _, i + 1, o, .so (B := B0) h r, e => by
    obtain ⟨v, B, A', h1, h2, h3, h4⟩ := r.get (i := i) (o := o) (by simpa using e)
    refine ⟨v, B, _, by simpa using h1, h2, .so h h3, ?_⟩
    refine (List.Perm.append_left B0 h4).trans ?_
    rw [← List.append_assoc, ← List.append_assoc]
    exact List.Perm.append_right A' List.perm_append_comm
/-- slot i forgotten -/
theorem Envs.drop {F H : Hp} : ∀ {σ : L2.St} {ρ : Env} {A : List Addr} (i : Nat), Envs K F H σ ρ A → ∃ B A', Envs K F H σ (ρ.set i none) A' ∧ A.Perm (B ++ A')
  | _, _, _, _, .nil => ⟨[], [], .nil, .refl _⟩
  | _, _, _, 0, .no r => ⟨[], _, .no r, .refl _⟩
  | _, _, _, i + 1, .no r => by
    obtain ⟨B, A', h1, h2⟩ := r.drop i
    exact ⟨B, A', .no h1, h2⟩
  | _, _, _, 0, .so (B := B) h r => ⟨B, _, .no r, .refl _⟩
  | _, _, _, i + 1, .so (B := B0) h r => by
    obtain ⟨B, A', h1, h2⟩ := r.drop i
    refine ⟨B, _, .so h h1, (List.Perm.append_left B0 h2).trans ?_⟩
    rw [← List.append_assoc, ← List.append_assoc]
    exact List.Perm.append_right A' List.perm_append_comm
/-- slot i in, where nothing is known -/
theorem Envs.put {F H : Hp} {v : V} {o : O} {B : List Addr} (h : Own K F H v o B) : ∀ {σ : L2.St} {ρ : Env} {A : List Addr} {i : Nat}, Envs K F H σ ρ A → ρ[i]? = some none → ∃ A', Envs K F H (σ.set i (some v)) (ρ.set i (some o)) A' ∧ A'.Perm (B ++ A)
  | _, _, _, _, .nil, e => by simp at e
  | _, _, _, 0, .no r, _ => ⟨_, .so h r, .refl _⟩
  | _, _, _, i + 1, .no r, e => by
    obtain ⟨A', h1, h2⟩ := r.put h (i := i) (by simpa using e)
    exact ⟨A', .no h1, h2⟩
  | _, _, _, 0, .so _ _, e => by simp at e
  | _, _, _, i + 1, .so (B := B0) g r, e => by
    obtain ⟨A', h1, h2⟩ := r.put h (i := i) (by simpa using e)
    refine ⟨_, .so g h1, (List.Perm.append_left B0 h2).trans ?_⟩
    rw [← List.append_assoc, ← List.append_assoc]
    exact List.Perm.append_right _ List.perm_append_comm
/-- what slot i was is put back: the very value -/
theorem Envs.back {F H : Hp} {v : V} {o : O} {B : List Addr} (h : Own K F H v o B) : ∀ {σ : L2.St} {ρ : Env} {A : List Addr} {i : Nat}, Envs K F H σ ρ A → ρ[i]? = some none → σ[i]? = some (some v) → ∃ A', Envs K F H σ (ρ.set i (some o)) A' ∧ A'.Perm (B ++ A)
  | _, _, _, _, .nil, e, _ => by simp at e
  | _, _, _, 0, .no r, _, z => by
    simp at z; subst z
    exact ⟨_, .so h r, .refl _⟩
  | _, _, _, i + 1, .no r, e, z => by
    obtain ⟨A', h1, h2⟩ := r.back h (i := i) (by simpa using e) (by simpa using z)
    exact ⟨A', .no h1, h2⟩
  | _, _, _, 0, .so _ _, e, _ => by simp at e
  | _, _, _, i + 1, .so (B := B0) g r, e, z => by
    obtain ⟨A', h1, h2⟩ := r.back h (i := i) (by simpa using e) (by simpa using z)
    refine ⟨_, .so g h1, (List.Perm.append_left B0 h2).trans ?_⟩
    rw [← List.append_assoc, ← List.append_assoc]
    exact List.Perm.append_right _ List.perm_append_comm
/-- another value in a slot of which nothing is known -/
theorem Envs.any {F H : Hp} {x : Option V} : ∀ {σ : L2.St} {ρ : Env} {A : List Addr} {i : Nat}, Envs K F H σ ρ A → ρ[i]? = some none → Envs K F H (σ.set i x) ρ A
  | _, _, _, _, .nil, _ => .nil
  | _, _, _, 0, .no r, _ => .no r
  | _, _, _, i + 1, .no r, e => .no (r.any (i := i) (by simpa using e))
  | _, _, _, 0, .so _ _, e => by simp at e
  | _, _, _, i + 1, .so g r, e => .so g (r.any (i := i) (by simpa using e))
theorem Envs.fros {F H : Hp} : ∀ {vs : List V} {ds : List D} (n : Nat), Reps K F vs ds → Envs K F H (vs.map some ++ List.replicate n none) (ds.map (fun d => some (.fro d)) ++ List.replicate n none) []
  | _, _, 0, .nil => .nil
  | _, _, n + 1, .nil => .no (Envs.fros n .nil)
  | _, _, n, .cons h r => .so (B := []) (A := []) (.fro h) (Envs.fros n r)
theorem Envs.owns {F H : Hp} : ∀ {vs : List V} {os : List O} {A : List Addr} (n : Nat), Owns K F H vs os A → Envs K F H (vs.map some ++ List.replicate n none) (os.map some ++ List.replicate n none) A
  | _, _, _, 0, .nil => .nil
  | _, _, _, n + 1, .nil => .no (Envs.owns n .nil)
  | _, _, _, n, .cons h r => .so h (Envs.owns n r)
end G

namespace G
open PySem PySem.Spec PyProof.Rows L2
open PySem.W (Datum DatumOrd Tup T3)

/-! ### typed data, as the heap lays it out -/
class Enc (α : Type) [DecidableEq α] [Datum α] where
  enc : α → D
  dp : ∀ (K : PySem.W.Frag) (F : Hp) (v : V) (x : α), Rep K F v (enc x) → Dp K F v (Datum.toD x)
open Enc (enc)
section
variable {α β γ : Type} [DecidableEq α] [Datum α] [Enc α] [DecidableEq β] [Datum β] [Enc β] [DecidableEq γ] [Datum γ] [Enc γ]
theorem dp_all {K : PySem.W.Frag} {F : Hp} : ∀ (xs : List α) (vs : List V), Reps K F vs (xs.map enc) → DpAll K F vs (xs.map Datum.toD)
  | [], _, h => by cases h; exact .nil
  | x :: xs, _, h => by cases h with | cons h r => exact .cons (Enc.dp _ _ _ x h) (dp_all xs _ r)
instance : Enc Int := ⟨.int, fun _ _ _ _ h => by cases h; exact .int _⟩
instance : Enc Bool := ⟨.bl, fun _ _ _ _ h => by cases h; exact .bl _⟩
instance : Enc Str := ⟨.str, fun _ _ _ _ h => by cases h; exact .str _⟩
instance : Enc Unit := ⟨fun _ => .non, fun _ _ _ _ h => by cases h; exact .non⟩
instance : Enc (List α) := ⟨fun xs => .lst (xs.map enc), fun _ _ _ xs h => by cases h with | lst h r => exact .lst (.of h) (dp_all xs _ r)⟩
instance : Enc (Tup α) := ⟨fun xs => .tup (xs.items.map enc), fun _ _ _ xs h => by cases h with | tup h r => exact .tup (.of h) (dp_all xs.items _ r)⟩
instance : Enc (α × β) := ⟨fun p => .tup [enc p.1, enc p.2], fun _ _ _ p h => by
  cases h with
  | tup h r =>
    cases r with
    | cons h1 r =>
      cases r with
      | cons h2 r => cases r; exact .tup (.of h) (.cons (Enc.dp _ _ _ _ h1) (.cons (Enc.dp _ _ _ _ h2) .nil))⟩
instance : Enc (T3 α β γ) := ⟨fun p => .tup [enc p.a, enc p.b, enc p.c], fun _ _ _ p h => by
  cases h with
  | tup h r =>
    cases r with
    | cons h1 r =>
      cases r with
      | cons h2 r =>
        cases r with
        | cons h3 r => cases r; exact .tup (.of h) (.cons (Enc.dp _ _ _ _ h1) (.cons (Enc.dp _ _ _ _ h2) (.cons (Enc.dp _ _ _ _ h3) .nil)))⟩
instance [PySem.W.SomeDatum α] : Enc (Option α) := ⟨fun | none => .non | some x => enc x, fun K F v x h => by
  cases x with
  | none => cases h; exact .non
  | some x => exact Enc.dp _ _ _ x h⟩
/-- kinds that are never equal -/
class Apart (α β : Type) [DecidableEq α] [Datum α] [DecidableEq β] [Datum β] : Prop where
  ne : ∀ (x : α) (y : β), PyData.eqv (Datum.toD x) (Datum.toD y) = false
  ne' : ∀ (x : α) (y : β), PyData.eqv (Datum.toD y) (Datum.toD x) = false
instance [h : Apart α β] : Datum (α ⊕ β) where
  toD := fun | .inl x => Datum.toD x | .inr y => Datum.toD y
  plain := fun | .inl x => Datum.plain x | .inr y => Datum.plain y
  eqv := fun
    | .inl x, .inl y => by simp only [Datum.eqv, Sum.inl.injEq]
    | .inr x, .inr y => by simp only [Datum.eqv, Sum.inr.injEq]
    | .inl x, .inr y => by simp only [h.ne]; exact (decide_eq_false (by simp)).symm
    | .inr x, .inl y => by simp only [h.ne']; exact (decide_eq_false (by simp)).symm
  depth := max (Datum.depth α) (Datum.depth β)
  depth_le := fun
    | .inl x => Nat.le_trans (Datum.depth_le x) (Nat.le_max_left _ _)
    | .inr x => Nat.le_trans (Datum.depth_le x) (Nat.le_max_right _ _)
instance [Apart α β] : Enc (α ⊕ β) := ⟨fun | .inl x => enc x | .inr y => enc y, fun K F v x h => by
  cases x with
  | inl x => exact Enc.dp _ _ _ x h
  | inr x => exact Enc.dp _ _ _ x h⟩
end
/-- the script -/
structure Scr where
  l : List Int
  deriving DecidableEq
instance : Datum Scr where
  toD xs := .list (xs.l.map Datum.toD)
  plain xs := Datum.plain xs.l
  eqv xs ys := by
    have h := Datum.eqv xs.l ys.l
    obtain ⟨xs⟩ := xs; obtain ⟨ys⟩ := ys
    rw [show (decide ((⟨xs⟩ : Scr) = ⟨ys⟩)) = decide (xs = ys) from decide_eq_decide.mpr (by simp)]
    exact h
  depth := 1
  depth_le xs := Datum.depth_le xs.l
instance : Enc Scr := ⟨fun xs => .scr (xs.l.map enc), fun _ _ _ xs h => by cases h with | scr h r => exact .lst h (dp_all xs.l _ r)⟩
/-- a text, sign by sign -/
structure Tx where
  l : List Char
  deriving DecidableEq
instance : Inhabited Tx := ⟨⟨[]⟩⟩
def Tx.s (t : Tx) : Str := ⟨(t.l.map Char.toNat).toArray⟩
theorem nat_inj {c d : Char} (h : c.toNat = d.toNat) : c = d := by
  have h1 : c.val.toNat = d.val.toNat := h
  exact Char.ext (UInt32.toNat_inj.mp h1)
theorem Tx.s_inj {t u : Tx} (h : t.s = u.s) : t = u := by
  obtain ⟨t⟩ := t; obtain ⟨u⟩ := u
  have h1 : (t.map Char.toNat).toArray = (u.map Char.toNat).toArray := Str.mk.inj h
  have h2 : t.map Char.toNat = u.map Char.toNat := by simpa using congrArg Array.toList h1
  have h3 : ∀ (t u : List Char), t.map Char.toNat = u.map Char.toNat → t = u := by
    intro t
    induction t with
    | nil => intro u h; cases u with
      | nil => rfl
      | cons _ _ => cases h
    | cons c t ih => intro u h; cases u with
      | nil => cases h
      | cons d u =>
        rw [List.map_cons, List.map_cons] at h
        injection h with a b
        rw [nat_inj a, ih u b]
  rw [h3 t u h2]
instance : Datum Tx where
  toD t := .str t.s
  plain _ := rfl
  eqv x y := by
    simp only [PyData.eqv, Bool.beq_eq_decide_eq]
    by_cases h : x = y
    · simp [h]
    · rw [decide_eq_false h, decide_eq_false fun e => h (Tx.s_inj e)]
  depth := 0
  depth_le _ := Nat.le_refl _
instance : Enc Tx := ⟨fun t => .str t.s, fun _ _ _ _ h => by cases h; exact .str _⟩
instance : PySem.W.SomeDatum Tx := ⟨fun _ => by show PyData.eqv .none (.str _) = false; simp only [PyData.eqv], fun _ => by show PyData.eqv (.str _) .none = false; simp only [PyData.eqv]⟩
end G

namespace G
open PySem PySem.Spec PyProof.Rows L2
open Enc (enc)

/-! ### where a piece of code stands -/
structure Sig where
  P : Program
  w : World
  K : PySem.W.Frag
  mg : Str → Option Value
  base : Heap
  N : List Str
  scope : Scope
  kk : Nat
  wx : WX
  st : Str → Bool
  calm : Bool
  hot : Option (Addr × Str)
  top : Bool
class Calm (S : Sig) : Prop where
  h : S.calm = true
structure Rest where
  A : Around
  s_0 : Shared
  H_0 : Hp
  env : PySem.Env
  outer : List PySem.Env
  stack : List PySem.Env
  ex : List Addr
  fn : Str → Bool
  pn : List (Addr × Obj)
  xe : Value → Shared → Prop
@[reducible] def Sig.cx (S : Sig) (q : Rest) : Cx where
  prog := S.P
  w := S.w
  K := S.K
  mg := S.mg
  base := S.base
  A := q.A
  N := S.N
  s_0 := q.s_0
  H_0 := q.H_0
  env := { q.env with scope := S.scope }
  outer := q.outer
  stack := q.stack
  ex := q.ex
  fn := q.fn
  calm := S.calm
  pn := q.pn
  xe := q.xe
structure Sig.Ok (S : Sig) (q : Rest) : Prop where
  room : L2H.RoomH S.kk q.A
  hd : S.calm = true → q.A.handled = none
  hot : ∀ a y, S.hot = some (a, y) → q.A.handled = some (.ref a) ∧ ∃ oe, (a, oe) ∈ q.pn ∧ L2N.Zn (.ref (He.ga S.K y)) none oe ∧ ∃ vs, oe.data = .fields vs
  top : S.top = true → q.stack = { q.env with scope := S.scope } :: q.outer ∧ q.env.frame = some q.env.locals
  tk : L2N.Takes (S.cx q) S.wx
  fn : ∀ x, S.st x = true → q.fn x = true
  nd : S.N.Nodup
  po : PassesOwn (model S.P S.w) q.A { q.env with scope := S.scope } q.xe

theorem Sig.Ok.calm {S : Sig} {q : Rest} (ok : S.Ok q) (hc : S.calm = true) : Room S.kk q.A := ⟨ok.hd hc, ok.room.dp, ok.room.un⟩
theorem Sig.Ok.units {S : Sig} {q : Rest} (ok : S.Ok q) : q.A.units + 64 < cLine := by have := ok.room.un; omega
/-! ### growing -/
structure Grow (F H F' H' : Hp) : Prop where
  stp : Stp F H [] F' H' []
  ext : Ext F' H'
theorem Grow.refl {F H : Hp} (h : Ext F H) : Grow F H F H := ⟨Stp.refl, h⟩
theorem Grow.trans {F H F1 H1 F2 H2 : Hp} (a : Grow F H F1 H1) (b : Grow F1 H1 F2 H2) : Grow F H F2 H2 := ⟨a.stp.trans b.stp, b.ext⟩
theorem Grow.hh {F H F1 H1 : Hp} (a : Grow F H F1 H1) : Ext H H1 := fun x o h => a.stp.keep x o h (by simp)
theorem Grow.wf {F H F' H' : Hp} {A : List Addr} (g : Grow F H F' H') (w : WF F H A) : WF F' H' A where
  sub := g.ext
  nd := w.nd
  off := fun a h => by
    cases e : F' a with
    | none => rfl
    | some o =>
      rcases g.stp.new a o e with q | q | q
      · rw [w.off a h] at q; cases q
      · cases q
      · exact absurd q (w.on a h)
  on := fun a h q => by
    cases e : H a with
    | none => exact w.on a h (imm_none e)
    | some u => rw [g.hh a u e] at q; exact w.on a h (by rw [e]; exact q)
theorem Grow.own {K : PySem.W.Frag} {F H F' H' : Hp} {v : V} {o : O} {B : List Addr} (g : Grow F H F' H') (h : Own K F H v o B) : Own K F' H' v o B :=
  h.mono g.stp.fs (S := B) (fun a o e _ => g.hh a o e) fun _ h => h
theorem Grow.owns {K : PySem.W.Frag} {F H F' H' : Hp} {v : List V} {o : List O} {B : List Addr} (g : Grow F H F' H') (h : Owns K F H v o B) : Owns K F' H' v o B :=
  h.mono g.stp.fs (S := B) (fun a o e _ => g.hh a o e) fun _ h => h
theorem Grow.envs {K : PySem.W.Frag} {F H F' H' : Hp} {σ : L2.St} {ρ : Env} {A : List Addr} (g : Grow F H F' H') (h : Envs K F H σ ρ A) : Envs K F' H' σ ρ A :=
  h.mono g.stp.fs (S := A) (fun a o e _ => g.hh a o e) fun _ h => h
/-- a new object, frozen at once -/
theorem Grow.new {F H : Hp} {p : Addr} {o : HO} (e : Ext F H) (h : H p = none) : Grow F H (upd F p o) (upd H p o) := by
  have hF : F p = none := by
    cases q : F p with
    | none => rfl
    | some u => rw [e p u q] at h; cases h
  refine ⟨⟨fun a u q => ?_, fun a u q _ => ?_, fun a u q => ?_, by simp, fun a q => ?_⟩, fun a u q => ?_⟩
  · rw [upd_ne (ne_of_none q hF)]; exact q
  · rw [upd_ne (ne_of_none q h)]; exact q
  · by_cases z : a = p
    · subst z; exact .inr (.inr (imm_none h))
    · rw [upd_ne z] at q; exact .inl q
  · by_cases z : a = p
    · subst z; exact h
    · rw [upd_ne z] at q; exact q
  · by_cases z : a = p
    · subst z; rw [upd_same] at q ⊢; exact q
    · rw [upd_ne z] at q ⊢; exact e a u q
/-- a new object that is owned -/
theorem Grow.own1 {F H : Hp} {p : Addr} {o : HO} (e : Ext F H) (h : H p = none) (hi : ¬ Imm (some o) := by exact fun z => z) : Stp F H [] F (upd H p o) [p] ∧ WF F (upd H p o) [p] := by
  have hF : F p = none := by
    cases q : F p with
    | none => rfl
    | some u => rw [e p u q] at h; cases h
  refine ⟨⟨Ext.refl F, fun a u q _ => ?_, fun a u q => .inl q, fun a q => ?_, fun a q => ?_⟩, ⟨fun a u q => ?_, by simp, fun a q => ?_, fun a q => ?_⟩⟩
  · rw [upd_ne (ne_of_none q h)]; exact q
  · rw [List.mem_singleton.mp q]; exact .inr h
  · by_cases z : a = p
    · subst z; exact h
    · rw [upd_ne z] at q; exact q
  · rw [upd_ne (ne_of_none q hF)]; exact e a u q
  · rw [List.mem_singleton.mp q]; exact hF
  · rw [List.mem_singleton.mp q, upd_same]; exact hi

/-! ### readings -/
def EP (S : Sig) (t : TE) (ρ : Env) (r : Except Str D) : Prop := ∀ (σ : L2.St) (F H : Hp) (A : List Addr) (Q : VK), WF F H A → Envs S.K F H σ ρ A →
  (match r with
    | .ok d => ∀ v F' H', Grow F H F' H' → Rep S.K F' v d → Q v H'
    | .error x => ∀ F' H', Grow F H F' H' → S.wx (.ref (He.ga S.K x)) none σ H') → t σ H Q
/-- what is only looked at -/
def EV (S : Sig) (t : TE) (ρ : Env) (d : D) : Prop := ∀ (σ : L2.St) (F H : Hp) (A : List Addr) (Q : VK), WF F H A → Envs S.K F H σ ρ A →
  (∀ v F' H', Grow F H F' H' → Rep S.K H' v d → Q v H') → t σ H Q
def ET (S : Sig) (t : TT) (ρ : Env) (b : Bool) : Prop := ∀ (σ : L2.St) (F H : Hp) (A : List Addr) (Q : Bool → Hp → Prop), WF F H A → Envs S.K F H σ ρ A →
  (∀ F' H', Grow F H F' H' → Q b H') → t σ H Q
/-- arguments: frozen; looked at -/
def EA (S : Sig) (t : TA) (ρ : Env) (ds : List D) : Prop := ∀ (σ : L2.St) (F H : Hp) (A : List Addr) (Q : List V → Hp → Prop), WF F H A → Envs S.K F H σ ρ A →
  (∀ vs F' H', Grow F H F' H' → Reps S.K F' vs ds → Q vs H') → t σ H Q
def EAV (S : Sig) (t : TA) (ρ : Env) (ds : List D) : Prop := ∀ (σ : L2.St) (F H : Hp) (A : List Addr) (Q : List V → Hp → Prop), WF F H A → Envs S.K F H σ ρ A →
  (∀ vs F' H', Grow F H F' H' → Reps S.K H' vs ds → Q vs H') → t σ H Q
inductive RE where
  | ok (o : O) (ρ : Env) | ex (x : Str) (ρ : Env)
def EX (S : Sig) (t : TE) (ρ : Env) (r : RE) : Prop := ∀ (σ : L2.St) (F H : Hp) (A : List Addr) (Q : VK), WF F H A → Envs S.K F H σ ρ A →
  (match r with
    | .ok o ρ' => ∀ v F' H' B A', WF F' H' (B ++ A') → Stp F H A F' H' (B ++ A') → Own S.K F' H' v o B → Envs S.K F' H' σ ρ' A' → Q v H'
    | .ex x ρ' => ∀ F' H' A', WF F' H' A' → Stp F H A F' H' A' → Envs S.K F' H' σ ρ' A' → S.wx (.ref (He.ga S.K x)) none σ H') → t σ H Q
inductive RS where
  | nx (ρ : Env) | rt (o : O) (ρ : Option Env) | bk (ρ : Env) | ct (ρ : Env) | ex (x : Str) (ρ : Option Env)
structure Pin (pin : List Nat) (σ σ' : L2.St) : Prop where
  len : σ'.length = σ.length
  at_ : ∀ i ∈ pin, σ'[i]? = σ[i]?
theorem Pin.refl {pin : List Nat} {σ : L2.St} : Pin pin σ σ := ⟨rfl, fun _ _ => rfl⟩
theorem Pin.trans {pin : List Nat} {σ σ1 σ2 : L2.St} (a : Pin pin σ σ1) (b : Pin pin σ1 σ2) : Pin pin σ σ2 := ⟨b.len.trans a.len, fun i h => (b.at_ i h).trans (a.at_ i h)⟩
theorem Pin.set {pin : List Nat} {σ : L2.St} {i : Nat} {x : Option V} (h : i ∉ pin) : Pin pin σ (σ.set i x) := ⟨by simp, fun j hj => List.getElem?_set_ne fun e => h (by rw [e]; exact hj)⟩
/-- what is said of the slots at the end; nothing perhaps -/
def EnvO (S : Sig) (F H : Hp) (σ : L2.St) (ρ : Option Env) (A : List Addr) : Prop := match ρ with
  | some ρ => Envs S.K F H σ ρ A
  | none => A = []
def EPost (S : Sig) (pin : List Nat) (D : Ends) (σ : L2.St) (F H : Hp) (A : List Addr) : RS → Prop
  | .nx ρ' => ∀ σ' F' H' A', WF F' H' A' → Stp F H A F' H' A' → Envs S.K F' H' σ' ρ' A' → Pin pin σ σ' → D.nx σ' H'
  | .bk ρ' => ∀ σ' F' H' A', WF F' H' A' → Stp F H A F' H' A' → Envs S.K F' H' σ' ρ' A' → Pin pin σ σ' → D.bk σ' H'
  | .ct ρ' => ∀ σ' F' H' A', WF F' H' A' → Stp F H A F' H' A' → Envs S.K F' H' σ' ρ' A' → Pin pin σ σ' → D.ct σ' H'
  | .rt o ρ' => ∀ v σ' F' H' B A', WF F' H' (B ++ A') → Stp F H A F' H' (B ++ A') → Own S.K F' H' v o B → EnvO S F' H' σ' ρ' A' → Pin pin σ σ' → D.rt v H'
  | .ex x ρ' => ∀ σ' F' H' A', WF F' H' A' → Stp F H A F' H' A' → EnvO S F' H' σ' ρ' A' → Pin pin σ σ' → S.wx (.ref (He.ga S.K x)) none σ' H'
def ES (S : Sig) (pin : List Nat) (t : TS) (ρ : Env) (r : RS) : Prop := ∀ (σ : L2.St) (F H : Hp) (A : List Addr) (D : Ends), WF F H A → Envs S.K F H σ ρ A → EPost S pin D σ F H A r → t D σ H

/-! ### the judgements -/
def XP (S : Sig) (ρ : Env) (e : Expr) (r : Except Str D) : Prop := ∃ t, (∀ q, S.Ok q → PE (S.cx q) e t) ∧ EP S t ρ r
def XV (S : Sig) (ρ : Env) (e : Expr) (d : D) : Prop := ∃ t, (∀ q, S.Ok q → PE (S.cx q) e t) ∧ EV S t ρ d
def XT (S : Sig) (ρ : Env) (e : Expr) (b : Bool) : Prop := ∃ t, (∀ q, S.Ok q → PT (S.cx q) e t) ∧ ET S t ρ b
def XA (S : Sig) (ρ : Env) (es : List Expr) (ds : List D) : Prop := ∃ t, (∀ q, S.Ok q → PA (S.cx q) es t) ∧ EA S t ρ ds
def XAV (S : Sig) (ρ : Env) (es : List Expr) (ds : List D) : Prop := ∃ t, (∀ q, S.Ok q → PA (S.cx q) es t) ∧ EAV S t ρ ds
def XX (S : Sig) (ρ : Env) (e : Expr) (r : RE) : Prop := ∃ t, (∀ q, S.Ok q → PE (S.cx q) e t) ∧ EX S t ρ r
def XS (S : Sig) (pin : List Nat) (ρ : Env) (s : Stmt) (r : RS) : Prop := ∃ t, (∀ q, S.Ok q → PS (S.cx q) s t) ∧ ES S pin t ρ r
def XB (S : Sig) (pin : List Nat) (ρ : Env) (s : List Stmt) (r : RS) : Prop := ∃ t, (∀ q, S.Ok q → PSs (S.cx q) s t) ∧ ES S pin t ρ r
section
variable {S : Sig} {ρ : Env} {a b e : Expr} {d d1 d2 : D} {pos : Pos} {pin : List Nat}
theorem EP.v {t : TE} (h : EP S t ρ (.ok d)) : EV S t ρ d := fun σ F H A Q w n q => h σ F H A Q w n fun v F' H' g r => q v F' H' g (r.mono g.ext)
theorem XP.v (h : XP S ρ e (.ok d)) : XV S ρ e d := let ⟨t, h1, h2⟩ := h; ⟨t, h1, h2.v⟩
theorem EP.x {t : TE} (h : EP S t ρ (.ok d)) : EX S t ρ (.ok (.fro d) ρ) := fun σ F H A Q w n q => h σ F H A Q w n fun v F' H' g r =>
  q v F' H' [] A (g.wf w) (g.stp.mono (by simp) |>.more (C := A) fun a h => .inl h) (.fro r) (g.envs n)
theorem XP.x (h : XP S ρ e (.ok d)) : XX S ρ e (.ok (.fro d) ρ) := let ⟨t, h1, h2⟩ := h; ⟨t, h1, h2.x⟩
theorem EP.xe {t : TE} {x : Str} (h : EP S t ρ (.error x)) : EX S t ρ (.ex x ρ) := fun σ F H A Q w n q => h σ F H A Q w n fun F' H' g =>
  q F' H' A (g.wf w) (g.stp.mono (by simp) |>.more (C := A) fun a h => .inl h) (g.envs n)
theorem XP.xe {x : Str} (h : XP S ρ e (.error x)) : XX S ρ e (.ex x ρ) := let ⟨t, h1, h2⟩ := h; ⟨t, h1, h2.xe⟩
/-- flat things need no heap -/
def Flat : D → Bool
  | .non => true | .bl _ => true | .int _ => true | .str _ => true | .obj _ => true | .ty _ => true
  | _ => false
theorem Rep.flat {K : PySem.W.Frag} {F F' : Hp} {v : V} (h : Rep K F v d) (f : Flat d = true) : Rep K F' v d := by
  cases h <;> first | (cases f; done) | constructor
theorem XV.p (h : XV S ρ e d) (f : Flat d = true := by rfl) : XP S ρ e (.ok d) := let ⟨t, h1, h2⟩ := h; ⟨t, h1, fun σ F H A Q w n q => h2 σ F H A Q w n fun v F' H' g r => q v F' H' g (r.flat f)⟩
theorem XP.cast {r r' : Except Str D} (h : XP S ρ e r) (q : r = r') : XP S ρ e r' := q ▸ h
theorem XV.cast {r r' : D} (h : XV S ρ e r) (q : r = r') : XV S ρ e r' := q ▸ h
theorem XT.cast {r r' : Bool} (h : XT S ρ e r) (q : r = r') : XT S ρ e r' := q ▸ h

/-! ### names, constants -/
theorem xp_var (i : Nat) {x : Str} (hρ : ρ[i]? = some (some (.fro d)) := by rfl) (hN : S.N[i]? = some x := by rfl) (hv : Vis S.scope x := by first | exact Or.inl rfl | exact Or.inr (Or.inl rfl) | exact Or.inr (Or.inr rfl))
    (hd : (x == ("__debug__" : Str)) = false := by decide) (hcd : (x == ("__classdict__" : Str)) = false := by decide) : XP S ρ (.Name x pos) (.ok d) :=
  ⟨tVar i, fun q _ => pe_var hN hv hd hcd, fun σ F H A Q w n q => by
    obtain ⟨v, B, A', h1, h2, h3, h4⟩ := n.get hρ
    cases h2 with
    | fro h2 => exact ⟨v, h1, q v F H (Grow.refl w.sub) h2⟩⟩
theorem xv_var (i : Nat) {x : Str} {o : O} (hρ : ρ[i]? = some (some o) := by rfl) (hN : S.N[i]? = some x := by rfl) (hv : Vis S.scope x := by first | exact Or.inl rfl | exact Or.inr (Or.inl rfl) | exact Or.inr (Or.inr rfl))
    (hd : (x == ("__debug__" : Str)) = false := by decide) (hcd : (x == ("__classdict__" : Str)) = false := by decide) : XV S ρ (.Name x pos) o.d :=
  ⟨tVar i, fun q _ => pe_var hN hv hd hcd, fun σ F H A Q w n q => by
    obtain ⟨v, B, A', h1, h2, h3, h4⟩ := n.get hρ
    exact ⟨v, h1, q v F H (Grow.refl w.sub) (h2.rep w.sub)⟩⟩
theorem ep_c {v : V} (h : ∀ F, Rep S.K F v d) : EP S (tC v) ρ (.ok d) := fun σ F H A Q w n q => q v F H (Grow.refl w.sub) (h F)
theorem xp_int {i : Int} {j} : XP S ρ (.Constant (.int i) j pos) (.ok (.int i)) := ⟨_, fun _ _ => pe_int, ep_c fun _ => .int⟩
theorem xp_bl {b : Bool} {j} : XP S ρ (.Constant (.bool b) j pos) (.ok (.bl b)) := ⟨_, fun _ _ => pe_bl, ep_c fun _ => .bl⟩
theorem xp_non {j} : XP S ρ (.Constant .none j pos) (.ok .non) := ⟨_, fun _ _ => pe_non, ep_c fun _ => .non⟩
theorem xp_str {x : Str} {j} : XP S ρ (.Constant (.str x) j pos) (.ok (.str x)) := ⟨_, fun _ _ => pe_str, ep_c fun _ => .str⟩
theorem xp_tx {x : Str} {j} (t : Tx) (h : x = t.s := by decide +kernel) : XP S ρ (.Constant (.str x) j pos) (.ok (enc t)) := by subst h; exact xp_str
theorem xp_glob {x : Str} {v : V} {u : Value} (hm : S.mg x = some u) (r : RelV v u) (h : ∀ F, Rep S.K F v d) (hg : S.scope.names.lookup x = some .globalImplicit := by rfl) (hd : (x == ("__debug__" : Str)) = false := by decide) : XP S ρ (.Name x pos) (.ok d) :=
  ⟨_, fun q _ => pe_glob (X := S.cx q) (show S.scope.names.lookup x = some .globalImplicit from hg) hm r hd, ep_c h⟩

/-! ### operators, by what they say of data -/
def OD (S : Sig) (r : R2) (d1 d2 d : D) : Prop := ∀ (x y : V) (F H : Hp) (Q : VK), Ext F H → Rep S.K H x d1 → Rep S.K H y d2 → (∀ v F' H', Grow F H F' H' → Rep S.K F' v d → Q v H') → r x y H Q
structure OB (S : Sig) (op : Operator) (d1 d2 d : D) : Prop where
  h : ∃ r, (∀ q, S.Ok q → OpR (S.cx q) (binaryOp op) r) ∧ OD S r d1 d2 d
structure OC (S : Sig) (op : CmpOp) (d1 d2 : D) (b : Bool) : Prop where
  h : ∃ r, (∀ q, S.Ok q → OpR (S.cx q) (compareOp op) r) ∧ OD S r d1 d2 (.bl b)
theorem ev_bin {r : R2} {ta tb : TE} (hr : OD S r d1 d2 d) (ha : EV S ta ρ d1) (hb : EV S tb ρ d2) : EP S (tOp r ta tb) ρ (.ok d) := fun σ F H A Q w n q =>
  ha σ F H A _ w n fun x F1 H1 g1 r1 => hb σ F1 H1 A _ (g1.wf w) (g1.envs n) fun y F2 H2 g2 r2 =>
    hr x y F2 H2 Q g2.ext (r1.mono g2.hh) r2 fun v F3 H3 g3 r3 => q v F3 H3 ((g1.trans g2).trans g3) r3
theorem xp_bin {op : Operator} (ho : OB S op d1 d2 d) (ha : XV S ρ a d1) (hb : XV S ρ b d2) : XP S ρ (.BinOp a op b pos) (.ok d) := by
  obtain ⟨r, h1, h2⟩ := ho.h
  obtain ⟨ta, a1, a2⟩ := ha
  obtain ⟨tb, b1, b2⟩ := hb
  exact ⟨_, fun q k => pe_op (h1 q k) (a1 q k) (b1 q k), ev_bin h2 a2 b2⟩
theorem xp_cmp {op : CmpOp} {c : Bool} (ho : OC S op d1 d2 c) (ha : XV S ρ a d1) (hb : XV S ρ b d2) (hm : behindInMarks op b = false := by first | exact nomark _ | rfl) : XP S ρ (.Compare a [op] [b] pos) (.ok (.bl c)) := by
  obtain ⟨r, h1, h2⟩ := ho.h
  obtain ⟨ta, a1, a2⟩ := ha
  obtain ⟨tb, b1, b2⟩ := hb
  exact ⟨_, fun q k => pe_cmpR (h1 q k) (a1 q k) (b1 q k) hm, ev_bin h2 a2 b2⟩
theorem et_test {t : TE} {c : Bool} (h : EP S t ρ (.ok (.bl c))) : ET S (tTest t) ρ c := fun σ F H A Q w n q => h σ F H A _ w n fun v F' H' g r => by
  cases r
  exact ⟨c, rfl, q F' H' g⟩
theorem et_B {t : TE} {c : Bool} (h : EP S t ρ (.ok (.bl c))) : ET S (tB t) ρ c := fun σ F H A Q w n q => h σ F H A _ w n fun v F' H' g r => by
  cases r
  exact ⟨c, rfl, q F' H' g⟩
theorem xt_cmp {op : CmpOp} {c : Bool} (ho : OC S op d1 d2 c) (ha : XV S ρ a d1) (hb : XV S ρ b d2) (hm : behindInMarks op b = false := by first | exact nomark _ | rfl) : XT S ρ (.Compare a [op] [b] pos) c := by
  obtain ⟨r, h1, h2⟩ := ho.h
  obtain ⟨ta, a1, a2⟩ := ha
  obtain ⟨tb, b1, b2⟩ := hb
  exact ⟨_, fun q k => pt_cmpR (h1 q k) (a1 q k) (b1 q k) hm, et_test (ev_bin h2 a2 b2)⟩
/-- a op b op' c -/
theorem ev_chain {r r' : R2} {d3 : D} {k k' : Bool} {ta tb tc : TE} (hr : OD S r d1 d2 (.bl k)) (hr' : k = true → OD S r' d2 d3 (.bl k')) (ha : EV S ta ρ d1) (hb : EV S tb ρ d2) (hc : k = true → EV S tc ρ d3) : EP S (tChain r r' ta tb tc) ρ (.ok (.bl (k && k'))) := fun σ F H A Q w n q =>
  ha σ F H A _ w n fun x F1 H1 g1 r1 => hb σ F1 H1 A _ (g1.wf w) (g1.envs n) fun y F2 H2 g2 r2 =>
    hr x y F2 H2 _ g2.ext (r1.mono g2.hh) r2 fun v F3 H3 g3 r3 => by
      cases r3
      refine ⟨k, rfl, ?_⟩
      cases k with
      | false => exact q _ F3 H3 ((g1.trans g2).trans g3) .bl
      | true =>
        have g := (g1.trans g2).trans g3
        exact hc rfl σ F3 H3 A _ (g.wf w) (g.envs n) fun z F4 H4 g4 r4 => hr' rfl y z F4 H4 Q g4.ext ((r2.mono g3.hh).mono g4.hh) r4 fun v F5 H5 g5 r5 => q v F5 H5 ((g.trans g4).trans g5) r5
theorem xp_chain {op op' : CmpOp} {c : Expr} {d3 : D} {k k' : Bool} (ho : OC S op d1 d2 k) (ho' : OC S op' d2 d3 k') (ha : XV S ρ a d1) (hb : XV S ρ b d2) (hc : XV S ρ c d3) (hm : lastMarks [op, op'] [b, c] = false := by with_unfolding_all rfl) :
    XP S ρ (.Compare a [op, op'] [b, c] pos) (.ok (.bl (k && k'))) := by
  obtain ⟨r, h1, h2⟩ := ho.h
  obtain ⟨r', h1', h2'⟩ := ho'.h
  obtain ⟨ta, a1, a2⟩ := ha
  obtain ⟨tb, b1, b2⟩ := hb
  obtain ⟨tc, c1, c2⟩ := hc
  exact ⟨_, fun q k => pe_chain (h1 q k) (h1' q k) (a1 q k) (b1 q k) (c1 q k) hm, ev_chain h2 (fun _ => h2') a2 b2 fun _ => c2⟩
theorem xt_chain {op op' : CmpOp} {c : Expr} {d3 : D} {k k' : Bool} (ho : OC S op d1 d2 k) (ho' : OC S op' d2 d3 k') (ha : XV S ρ a d1) (hb : XV S ρ b d2) (hc : XV S ρ c d3) (hm : lastMarks [op, op'] [b, c] = false := by with_unfolding_all rfl) :
    XT S ρ (.Compare a [op, op'] [b, c] pos) (k && k') := by
  obtain ⟨r, h1, h2⟩ := ho.h
  obtain ⟨r', h1', h2'⟩ := ho'.h
  obtain ⟨ta, a1, a2⟩ := ha
  obtain ⟨tb, b1, b2⟩ := hb
  obtain ⟨tc, c1, c2⟩ := hc
  exact ⟨_, fun q k => pt_chain (h1 q k) (h1' q k) (a1 q k) (b1 q k) (c1 q k) hm, et_test (ev_chain h2 (fun _ => h2') a2 b2 fun _ => c2)⟩
end
end G

namespace G
open PySem PySem.Spec PyProof.Rows L2
open PySem.W (Datum DatumOrd Tup T3)
open Enc (enc)
section
variable {S : Sig} {ρ : Env} {a b c e : Expr} {d d1 d2 d3 : D} {pos : Pos} {pin : List Nat} {op : Operator}

/-! ### and, or, not, if-else -/
theorem et_and {t u : TT} {k l : Bool} (h1 : ET S t ρ k) (h2 : k = true → ET S u ρ l) : ET S (tAnd t u) ρ (k && l) := fun σ F H A Q w n q =>
  h1 σ F H A _ w n fun F1 H1 g => by
    cases k with
    | true =>
      show u σ H1 Q
      exact h2 rfl σ F1 H1 A Q (g.wf w) (g.envs n) fun F2 H2 g2 => q F2 H2 (g.trans g2)
    | false =>
      show Q false H1
      exact q F1 H1 g
theorem et_or {t u : TT} {k l : Bool} (h1 : ET S t ρ k) (h2 : k = false → ET S u ρ l) : ET S (tOr t u) ρ (k || l) := fun σ F H A Q w n q =>
  h1 σ F H A _ w n fun F1 H1 g => by
    cases k with
    | false =>
      show u σ H1 Q
      exact h2 rfl σ F1 H1 A Q (g.wf w) (g.envs n) fun F2 H2 g2 => q F2 H2 (g.trans g2)
    | true =>
      show Q true H1
      exact q F1 H1 g
def XW (S : Sig) (ρ : Env) (e : Expr) (b : Bool) : Prop := ∃ t, (∀ q, S.Ok q → PW (S.cx q) e t) ∧ ET S t ρ b
theorem XW.t {k : Bool} (h : XW S ρ e k) : XT S ρ e k := let ⟨t, h1, h2⟩ := h; ⟨t, fun q o => (h1 q o).pt, h2⟩
theorem xw_and1 {k : Bool} (h : XT S ρ a k) : XW S ρ (.BoolOp .And [a] pos) k := let ⟨t, h1, h2⟩ := h; ⟨t, fun q o => pw_and1 (h1 q o), h2⟩
theorem xw_or1 {k : Bool} (h : XT S ρ a k) : XW S ρ (.BoolOp .Or [a] pos) k := let ⟨t, h1, h2⟩ := h; ⟨t, fun q o => pw_or1 (h1 q o), h2⟩
theorem xw_and {k l : Bool} {rest : List Expr} (h : XT S ρ a k) (h' : k = true → XW S ρ (.BoolOp .And (b :: rest) pos) l) : XW S ρ (.BoolOp .And (a :: b :: rest) pos) (k && l) := by
  obtain ⟨t, h1, h2⟩ := h
  cases k with
  | true =>
    obtain ⟨u, h3, h4⟩ := h' rfl
    exact ⟨_, fun q o => pw_and (h1 q o) (h3 q o), et_and h2 fun _ => h4⟩
  | false =>
    refine ⟨tAnd t fun _ _ _ => False, fun q o => pw_and (h1 q o) ⟨fun _ _ _ _ _ _ _ z => z.elim⟩, ?_⟩
    exact et_and (l := l) h2 fun z => nomatch z
theorem xw_or {k l : Bool} {rest : List Expr} (h : XT S ρ a k) (h' : k = false → XW S ρ (.BoolOp .Or (b :: rest) pos) l) : XW S ρ (.BoolOp .Or (a :: b :: rest) pos) (k || l) := by
  obtain ⟨t, h1, h2⟩ := h
  cases k with
  | false =>
    obtain ⟨u, h3, h4⟩ := h' rfl
    exact ⟨_, fun q o => pw_or (h1 q o) (h3 q o), et_or h2 fun _ => h4⟩
  | true =>
    refine ⟨tOr t fun _ _ _ => False, fun q o => pw_or (h1 q o) ⟨fun _ _ _ _ _ _ _ z => z.elim⟩, ?_⟩
    exact et_or (l := l) h2 fun z => nomatch z
theorem xt_not {k : Bool} (h : XT S ρ a k) : XT S ρ (.UnaryOp .Not a pos) (!k) := let ⟨t, h1, h2⟩ := h; ⟨_, fun q o => pt_not (h1 q o), fun σ F H A Q w n q => h2 σ F H A _ w n fun F' H' g => q F' H' g⟩
/-- a truth value, as a test -/
theorem xt_val {k : Bool} (h : XP S ρ e (.ok (.bl k))) (he : ∀ (env : PySem.Env) (whole : Sem Value), isTrue e env whole = (do let v ← whole; standAt e.pos; holding [v] (truthy v)) := by intro _ _; rfl) : XT S ρ e k :=
  let ⟨t, h1, h2⟩ := h; ⟨_, fun q o => pt_val (h1 q o) (he _), et_B h2⟩
theorem ep_andV {ta tb : TE} {k l : Bool} (h1 : EP S ta ρ (.ok (.bl k))) (h2 : k = true → EP S tb ρ (.ok (.bl l))) : EP S (tAndV ta tb) ρ (.ok (.bl (k && l))) := fun σ F H A Q w n q =>
  h1 σ F H A _ w n fun v F1 H1 g r => by
    cases r
    refine ⟨k, rfl, ?_⟩
    cases k with
    | true => exact h2 rfl σ F1 H1 A Q (g.wf w) (g.envs n) fun v F2 H2 g2 r => q v F2 H2 (g.trans g2) r
    | false => exact q _ F1 H1 g .bl
theorem ep_orV {ta tb : TE} {k l : Bool} (h1 : EP S ta ρ (.ok (.bl k))) (h2 : k = false → EP S tb ρ (.ok (.bl l))) : EP S (tOrV ta tb) ρ (.ok (.bl (k || l))) := fun σ F H A Q w n q =>
  h1 σ F H A _ w n fun v F1 H1 g r => by
    cases r
    refine ⟨k, rfl, ?_⟩
    cases k with
    | false => exact h2 rfl σ F1 H1 A Q (g.wf w) (g.envs n) fun v F2 H2 g2 r => q v F2 H2 (g.trans g2) r
    | true => exact q _ F1 H1 g .bl
theorem xp_one {op : BoolOp} {r} (h : XP S ρ a r) : XP S ρ (.BoolOp op [a] pos) r := let ⟨t, h1, h2⟩ := h; ⟨t, fun q o => pe_one (h1 q o), h2⟩
theorem xp_and {k l : Bool} {rest : List Expr} (h : XP S ρ a (.ok (.bl k))) (h' : k = true → XP S ρ (.BoolOp .And (b :: rest) pos) (.ok (.bl l))) : XP S ρ (.BoolOp .And (a :: b :: rest) pos) (.ok (.bl (k && l))) := by
  obtain ⟨t, h1, h2⟩ := h
  cases k with
  | true =>
    obtain ⟨u, h3, h4⟩ := h' rfl
    exact ⟨_, fun q o => pe_and (h1 q o) (h3 q o), ep_andV h2 fun _ => h4⟩
  | false => exact ⟨tAndV t fun _ _ _ => False, fun q o => pe_and (h1 q o) ⟨fun _ _ _ _ _ _ z => z.elim⟩, ep_andV (l := l) h2 fun z => nomatch z⟩
theorem xp_or {k l : Bool} {rest : List Expr} (h : XP S ρ a (.ok (.bl k))) (h' : k = false → XP S ρ (.BoolOp .Or (b :: rest) pos) (.ok (.bl l))) : XP S ρ (.BoolOp .Or (a :: b :: rest) pos) (.ok (.bl (k || l))) := by
  obtain ⟨t, h1, h2⟩ := h
  cases k with
  | false =>
    obtain ⟨u, h3, h4⟩ := h' rfl
    exact ⟨_, fun q o => pe_or (h1 q o) (h3 q o), ep_orV h2 fun _ => h4⟩
  | true => exact ⟨tOrV t fun _ _ _ => False, fun q o => pe_or (h1 q o) ⟨fun _ _ _ _ _ _ z => z.elim⟩, ep_orV (l := l) h2 fun z => nomatch z⟩
theorem xp_not {k : Bool} (h : XP S ρ a (.ok (.bl k))) : XP S ρ (.UnaryOp .Not a pos) (.ok (.bl (!k))) := let ⟨t, h1, h2⟩ := h; ⟨_, fun q o => pe_not (h1 q o), fun σ F H A Q w n q => h2 σ F H A _ w n fun v F' H' g r => by
  cases r
  exact ⟨k, rfl, q _ F' H' g .bl⟩⟩
theorem xp_if {k : Bool} {r : Except Str D} (ht : XT S ρ c k) (ha : k = true → XP S ρ a r) (hb : k = false → XP S ρ b r) : XP S ρ (.IfExp c a b pos) r := by
  obtain ⟨t, h1, h2⟩ := ht
  cases k with
  | true =>
    obtain ⟨u, h3, h4⟩ := ha rfl
    refine ⟨tIf t u fun _ _ _ => False, fun q o => pe_ifExp (h1 q o) (h3 q o) ⟨fun _ _ _ _ _ _ z => z.elim⟩, fun σ F H A Q w n q => h2 σ F H A _ w n fun F' H' g => ?_⟩
    show u σ H' Q
    refine h4 σ F' H' A Q (g.wf w) (g.envs n) ?_
    cases r with
    | ok d => exact fun v F2 H2 g2 r2 => q v F2 H2 (g.trans g2) r2
    | error x => exact fun F2 H2 g2 => q F2 H2 (g.trans g2)
  | false =>
    obtain ⟨u, h3, h4⟩ := hb rfl
    refine ⟨tIf t (fun _ _ _ => False) u, fun q o => pe_ifExp (h1 q o) ⟨fun _ _ _ _ _ _ z => z.elim⟩ (h3 q o), fun σ F H A Q w n q => h2 σ F H A _ w n fun F' H' g => ?_⟩
    show u σ H' Q
    refine h4 σ F' H' A Q (g.wf w) (g.envs n) ?_
    cases r with
    | ok d => exact fun v F2 H2 g2 r2 => q v F2 H2 (g.trans g2) r2
    | error x => exact fun F2 H2 g2 => q F2 H2 (g.trans g2)

/-! ### operators on ints -/
theorem od_I {C : Int → Int → Prop} {g : Int → Int → Int} {i j : Int} (hc : C i j) : OD S (rI C fun i j => .int (g i j)) (.int i) (.int j) (.int (g i j)) := fun x y F H Q e rx ry q => by
  cases rx; cases ry
  exact ⟨i, j, rfl, rfl, hc, q _ F H (Grow.refl e) .int⟩
theorem od_I0 {g : Int → Int → Int} {i j : Int} : OD S (rI0 fun i j => .int (g i j)) (.int i) (.int j) (.int (g i j)) := fun x y F H Q e rx ry q => by
  cases rx; cases ry
  exact ⟨i, j, rfl, rfl, q _ F H (Grow.refl e) .int⟩
theorem od_B0 {g : Int → Int → Bool} {i j : Int} : OD S (rI0 fun i j => .bl (g i j)) (.int i) (.int j) (.bl (g i j)) := fun x y F H Q e rx ry q => by
  cases rx; cases ry
  exact ⟨i, j, rfl, rfl, q _ F H (Grow.refl e) .bl⟩
theorem ob_add {i j : Int} : OB S .Add (.int i) (.int j) (.int (i + j)) := ⟨_, fun _ _ => op_add, od_I0⟩
theorem ob_sub {i j : Int} : OB S .Sub (.int i) (.int j) (.int (i - j)) := ⟨_, fun _ _ => op_sub, od_I0⟩
theorem ob_mul {i j : Int} (h : (-(2 ^ 64) < i ∧ i < 2 ^ 64) ∨ (-(2 ^ 64) < j ∧ j < 2 ^ 64)) : OB S .Mult (.int i) (.int j) (.int (i * j)) := ⟨_, fun _ _ => op_mul, od_I h⟩
theorem ob_div {i j : Int} (h : 0 < j ∧ j < 1073741824) : OB S .FloorDiv (.int i) (.int j) (.int (i / j)) := ⟨_, fun _ _ => op_fdiv, od_I h⟩
theorem ob_mod {i j : Int} (h : 0 < j) : OB S .Mod (.int i) (.int j) (.int (i % j)) := ⟨_, fun _ _ => op_mod, od_I h⟩
theorem ob_pow {i j : Int} (h : 0 ≤ j ∧ j ≤ 1000000 ∧ i.natAbs < 2 ^ 64) : OB S .Pow (.int i) (.int j) (.int (i ^ j.toNat)) := ⟨_, fun _ _ => op_pow, od_I h⟩
theorem oc_lt {i j : Int} : OC S .Lt (.int i) (.int j) (decide (i < j)) := ⟨_, fun _ _ => op_lt, od_B0⟩
theorem oc_le {i j : Int} : OC S .LtE (.int i) (.int j) (decide (i ≤ j)) := ⟨_, fun _ _ => op_le, od_B0⟩
theorem oc_gt {i j : Int} : OC S .Gt (.int i) (.int j) (decide (j < i)) := ⟨_, fun _ _ => op_gt, od_B0⟩
theorem oc_ge {i j : Int} : OC S .GtE (.int i) (.int j) (decide (j ≤ i)) := ⟨_, fun _ _ => op_ge, od_B0⟩
theorem xp_neg {i : Int} (h : XP S ρ a (.ok (.int i))) : XP S ρ (.UnaryOp .USub a pos) (.ok (.int (-i))) := let ⟨t, h1, h2⟩ := h; ⟨_, fun q o => pe_un un_neg (h1 q o), fun σ F H A Q w n q => h2 σ F H A _ w n fun v F' H' g r => by
  cases r
  exact ⟨i, rfl, q _ F' H' g .int⟩⟩

/-! ### ==, !=, <, in of typed data -/
section
variable {α : Type} [DecidableEq α] [Datum α] [Enc α]
theorem holds_of {X : Cx} {pins : List (Addr × Obj)} {σ : L2.St} {H : Hp} {s : Shared} (I : Inv X pins σ H s) {v : V} {u : Value} {x : α} (h : Rep X.K H v (enc x)) (r : RelV v u) : PySem.W.Holds s.heap u x := Dp.reads I _ _ _ (Enc.dp _ _ _ _ h) r
theorem holdAll_of {X : Cx} {pins : List (Addr × Obj)} {σ : L2.St} {H : Hp} {s : Shared} (I : Inv X pins σ H s) {vs : List V} {us : List Value} {xs : List α} (h : Reps X.K H vs (xs.map enc)) (r : Vals vs us) : PySem.W.HoldAll s.heap us xs := Dp.readsAll I _ _ _ (dp_all _ _ h) r
def rTyp (K : PySem.W.Frag) (x y : α) (k : Bool) : R2 := fun v u H Q => Rep K H v (enc x) ∧ Rep K H u (enc y) ∧ Q (.bl k) H
theorem od_typ {x y : α} {k : Bool} : OD S (rTyp S.K x y k) (enc x) (enc y) (.bl k) := fun v u F H Q e rx ry q => ⟨rx, ry, q _ F H (Grow.refl e) .bl⟩
theorem oc_eq {x y : α} (hd : Datum.depth α ≤ 64 := by decide) : OC S .Eq (enc x) (enc y) (decide (x = y)) := ⟨rTyp S.K x y _, fun q o pins s σ H v u vv uv Q I rv ru h => by
  obtain ⟨h1, h2, q1⟩ := h
  have := o.units
  exact PySem.W.eq_datum (holds_of I h1 rv) (holds_of I h2 ru) (by show q.A.units + _ < _; omega) ⟨.bl _, H, I, rfl, q1⟩, od_typ⟩
theorem oc_ne {x y : α} (hd : Datum.depth α ≤ 64 := by decide) : OC S .NotEq (enc x) (enc y) (!decide (x = y)) := ⟨rTyp S.K x y _, fun q o pins s σ H v u vv uv Q I rv ru h => by
  obtain ⟨h1, h2, q1⟩ := h
  have := o.units
  rw [← decide_not] at q1
  exact PySem.W.ne_datum (holds_of I h1 rv) (holds_of I h2 ru) (by show q.A.units + _ < _; omega) ⟨.bl _, H, I, rfl, q1⟩, od_typ⟩
def rInTy (K : PySem.W.Frag) (x : α) (xs : List α) (tup : Bool) (k : Bool) : R2 := fun v u H Q => Rep K H v (enc x) ∧ (∃ a vs, u = .ref a ∧ (if tup then SqT K H a vs else SqL K H a vs) ∧ Reps K H vs (xs.map enc)) ∧ Q (.bl k) H
theorem oc_in {x : α} {xs : List α} (hd : Datum.depth α ≤ 63 := by decide) : OC S .In (enc x) (enc xs) (decide (x ∈ xs)) := ⟨rInTy S.K x xs false _, fun q o pins s σ H v u vv uv Q I rv ru h => by
  obtain ⟨h1, ⟨a, vs, rfl, h2, h3⟩, q1⟩ := h
  have := o.units
  obtain ⟨its, r, ⟨o1, n, e1, e2, _, e3⟩, _⟩ := I.list h2
  cases ru
  exact PySem.W.in_list_datum (vs := its.toArray) ⟨o1, e1, e2, n, e3⟩ (holdAll_of I h3 (by simpa using r)) (holds_of I h1 rv) (by show q.A.units + 1 + _ < _; omega) ⟨.bl _, H, I, rfl, q1⟩,
  fun v u F H Q e rx ry q => by
    cases ry with
    | lst h r => exact ⟨rx, ⟨_, _, rfl, .of h, r⟩, q _ F H (Grow.refl e) .bl⟩⟩
theorem oc_notin {x : α} {xs : List α} (hd : Datum.depth α ≤ 63 := by decide) : OC S .NotIn (enc x) (enc xs) (!decide (x ∈ xs)) := ⟨rInTy S.K x xs false (!decide (x ∈ xs)), fun q o pins s σ H v u vv uv Q I rv ru h => by
  obtain ⟨h1, ⟨a, vs, rfl, h2, h3⟩, q1⟩ := h
  have := o.units
  obtain ⟨its, r, ⟨o1, n, e1, e2, _, e3⟩, _⟩ := I.list h2
  cases ru
  rw [← decide_not] at q1
  exact PySem.W.notIn_list_datum (vs := its.toArray) ⟨o1, e1, e2, n, e3⟩ (holdAll_of I h3 (by simpa using r)) (holds_of I h1 rv) (by show q.A.units + 1 + _ < _; omega) ⟨.bl _, H, I, rfl, q1⟩,
  fun v u F H Q e rx ry q => by
    cases ry with
    | lst h r => exact ⟨rx, ⟨_, _, rfl, .of h, r⟩, q _ F H (Grow.refl e) .bl⟩⟩
theorem oc_inT {x : α} {xs : List α} (hd : Datum.depth α ≤ 63 := by decide) : OC S .In (enc x) (.tup (xs.map enc)) (decide (x ∈ xs)) := ⟨rInTy S.K x xs true _, fun q o pins s σ H v u vv uv Q I rv ru h => by
  obtain ⟨h1, ⟨a, vs, rfl, h2, h3⟩, q1⟩ := h
  have := o.units
  obtain ⟨its, r, ⟨o1, e1, e2, n, e3⟩, _⟩ := I.tuple h2
  cases ru
  exact PySem.W.in_tuple_datum (vs := its.toArray) ⟨o1, e1, e2, n, e3⟩ (holdAll_of I h3 (by simpa using r)) (holds_of I h1 rv) (by show q.A.units + 1 + _ < _; omega) ⟨.bl _, H, I, rfl, q1⟩,
  fun v u F H Q e rx ry q => by
    cases ry with
    | tup h r => exact ⟨rx, ⟨_, _, rfl, .of h, r⟩, q _ F H (Grow.refl e) .bl⟩⟩
theorem oc_notinT {x : α} {xs : List α} (hd : Datum.depth α ≤ 63 := by decide) : OC S .NotIn (enc x) (.tup (xs.map enc)) (!decide (x ∈ xs)) := ⟨rInTy S.K x xs true (!decide (x ∈ xs)), fun q o pins s σ H v u vv uv Q I rv ru h => by
  obtain ⟨h1, ⟨a, vs, rfl, h2, h3⟩, q1⟩ := h
  have := o.units
  obtain ⟨its, r, ⟨o1, e1, e2, n, e3⟩, _⟩ := I.tuple h2
  cases ru
  rw [← decide_not] at q1
  exact PySem.W.notIn_tuple_datum (vs := its.toArray) ⟨o1, e1, e2, n, e3⟩ (holdAll_of I h3 (by simpa using r)) (holds_of I h1 rv) (by show q.A.units + 1 + _ < _; omega) ⟨.bl _, H, I, rfl, q1⟩,
  fun v u F H Q e rx ry q => by
    cases ry with
    | tup h r => exact ⟨rx, ⟨_, _, rfl, .of h, r⟩, q _ F H (Grow.refl e) .bl⟩⟩
end
section
variable {α : Type} [DecidableEq α] [DatumOrd α] [Enc α]
theorem oc_ltD {x y : α} (hd : Datum.depth α ≤ 64 := by decide) : OC S .Lt (enc x) (enc y) (DatumOrd.lt x y) := ⟨rTyp S.K x y _, fun q o pins s σ H v u vv uv Q I rv ru h => by
  obtain ⟨h1, h2, q1⟩ := h
  have := o.units
  exact PySem.W.lt_datum (holds_of I h1 rv) (holds_of I h2 ru) (by show q.A.units + _ < _; omega) ⟨.bl _, H, I, rfl, q1⟩, od_typ⟩
theorem oc_gtD {x y : α} (hd : Datum.depth α ≤ 64 := by decide) : OC S .Gt (enc x) (enc y) (DatumOrd.lt y x) := ⟨rTyp S.K x y _, fun q o pins s σ H v u vv uv Q I rv ru h => by
  obtain ⟨h1, h2, q1⟩ := h
  have := o.units
  exact PySem.W.gt_datum (holds_of I h1 rv) (holds_of I h2 ru) (by show q.A.units + _ < _; omega) ⟨.bl _, H, I, rfl, q1⟩, od_typ⟩
end
theorem oc_isN {x : D} (k : Bool) (h : ∀ v F, Rep S.K F v x → decide (v = .non) = k) : OC S .Is x .non k := ⟨_, fun _ _ => op_isN, fun v u F H Q e rx ry q => by
  cases ry
  exact ⟨rfl, by rw [h v H rx]; exact q _ F H (Grow.refl e) .bl⟩⟩
theorem oc_isnN {x : D} (k : Bool) (h : ∀ v F, Rep S.K F v x → decide (v = .non) = k) : OC S .IsNot x .non (!k) := ⟨_, fun _ _ => op_notN, fun v u F H Q e rx ry q => by
  cases ry
  exact ⟨rfl, by rw [h v H rx]; exact q _ F H (Grow.refl e) .bl⟩⟩
end
end G

namespace G
open PySem PySem.Spec PyProof.Rows L2
open PySem.W (Datum DatumOrd Tup T3)
open Enc (enc)
theorem sqT_ext {K : PySem.W.Frag} {F H : Hp} {a : Addr} {xs : List V} (e : Ext F H) (h : SqT K F a xs) : SqT K H a xs := e.t h
section
variable {S : Sig} {ρ : Env} {a b c e : Expr} {d d1 d2 d3 : D} {ds es' : List D} {pos : Pos} {pin : List Nat} {op : Operator} {es : List Expr}

/-! ### arguments, displays -/
theorem xa_nil : XA S ρ [] [] := ⟨_, fun _ _ => pa_nil, fun σ F H A Q w n q => q [] F H (Grow.refl w.sub) .nil⟩
theorem xa_cons (h : XP S ρ e (.ok d)) (r : XA S ρ es ds) (hs : ∀ env : PySem.Env, starEach (e :: es) env = (false, eval e env) :: starEach es env := by intro _; rfl) : XA S ρ (e :: es) (d :: ds) := by
  obtain ⟨t, h1, h2⟩ := h
  obtain ⟨u, r1, r2⟩ := r
  exact ⟨_, fun q o => pa_cons (h1 q o) (r1 q o) (hs _), fun σ F H A Q w n q => h2 σ F H A _ w n fun v F1 H1 g1 p1 => r2 σ F1 H1 A _ (g1.wf w) (g1.envs n) fun vs F2 H2 g2 p2 => q _ F2 H2 (g1.trans g2) (.cons (p1.mono g2.stp.fs) p2)⟩
theorem xav_nil : XAV S ρ [] [] := ⟨_, fun _ _ => pa_nil, fun σ F H A Q w n q => q [] F H (Grow.refl w.sub) .nil⟩
theorem xav_cons (h : XV S ρ e d) (r : XAV S ρ es ds) (hs : ∀ env : PySem.Env, starEach (e :: es) env = (false, eval e env) :: starEach es env := by intro _; rfl) : XAV S ρ (e :: es) (d :: ds) := by
  obtain ⟨t, h1, h2⟩ := h
  obtain ⟨u, r1, r2⟩ := r
  exact ⟨_, fun q o => pa_cons (h1 q o) (r1 q o) (hs _), fun σ F H A Q w n q => h2 σ F H A _ w n fun v F1 H1 g1 p1 => r2 σ F1 H1 A _ (g1.wf w) (g1.envs n) fun vs F2 H2 g2 p2 => q _ F2 H2 (g1.trans g2) (.cons (p1.mono g2.hh) p2)⟩
theorem reps_new {K : PySem.W.Frag} {F H : Hp} {p : Addr} {o : HO} {vs : List V} {ds : List D} (e : Ext F H) (h : H p = none) (r : Reps K F vs ds) : Reps K (upd F p o) vs ds := r.mono (Grow.new (o := o) e h).stp.fs
theorem xp_tup {k} (h : XA S ρ es ds) (hl : ds.length ≤ 1000000 := by simp) : XP S ρ (.Tuple es k pos) (.ok (.tup ds)) := by
  obtain ⟨t, h1, h2⟩ := h
  refine ⟨_, fun q o => pe_tup (h1 q o), fun σ F H A Q w n q => h2 σ F H A _ w n fun vs F1 H1 g r => ⟨?_, fun p hp => ?_⟩⟩
  · rw [r.length]; exact Nat.le_trans hl (by decide)
  · exact q _ _ _ (g.trans (Grow.new g.ext hp)) (.tup upd_same (reps_new g.ext hp r))
theorem xp_lst (h : XA S ρ es ds) (hl : ds.length ≤ 1000000 := by simp) : XP S ρ (.List es pos) (.ok (.lst ds)) := by
  obtain ⟨t, h1, h2⟩ := h
  refine ⟨_, fun q o => pe_lst (h1 q o), fun σ F H A Q w n q => h2 σ F H A _ w n fun vs F1 H1 g r => ⟨?_, fun p hp => ?_⟩⟩
  · rw [r.length]; exact Nat.le_trans hl (by decide)
  · exact q _ _ _ (g.trans (Grow.new g.ext hp)) (.lst upd_same (reps_new g.ext hp r))
/-- .. owned -/
theorem grow_own {K : PySem.W.Frag} {σ : L2.St} {F H F1 H1 : Hp} {A : List Addr} {ρ : Env} {p : Addr} {o : HO} (w : WF F H A) (n : Envs K F H σ ρ A) (g : Grow F H F1 H1) (hp : H1 p = none) (hi : ¬ Imm (some o) := by exact fun z => z) :
    WF F1 (upd H1 p o) ([p] ++ A) ∧ Stp F H A F1 (upd H1 p o) ([p] ++ A) ∧ Envs K F1 (upd H1 p o) σ ρ A := by
  obtain ⟨s1, w1⟩ := Grow.own1 (o := o) g.ext hp hi
  have w2 := g.wf w
  have np : p ∉ A := fun h => w2.on p h (imm_none hp)
  refine ⟨⟨w1.sub, ?_, ?_, ?_⟩, ?_, ?_⟩
  · rw [List.singleton_append]; exact List.nodup_cons.mpr ⟨np, w.nd⟩
  · intro a h
    rcases List.mem_append.mp h with h | h
    · exact w1.off a h
    · exact w2.off a h
  · intro a h
    rcases List.mem_append.mp h with h | h
    · exact w1.on a h
    · rw [upd_ne fun z => np (by rw [← z]; exact h)]; exact w2.on a h
  · have s2 : Stp F H [] F1 (upd H1 p o) [p] := g.stp.trans s1
    exact (s2.mono (by simp)).more fun a h => .inl h
  · refine (g.envs n).mono (Ext.refl _) (S := A) (fun a u e h => ?_) fun _ h => h
    rw [upd_ne fun z => np (by rw [← z]; exact h)]; exact e
theorem xx_lst (h : XA S ρ es ds) (hl : ds.length ≤ 1000000 := by simp) : XX S ρ (.List es pos) (.ok (.lst (ds.map O.fro)) ρ) := by
  obtain ⟨t, h1, h2⟩ := h
  refine ⟨_, fun q o => pe_lst (h1 q o), fun σ F H A Q w n q => h2 σ F H A _ w n fun vs F1 H1 g r => ⟨?_, fun p hp => ?_⟩⟩
  · rw [r.length]; exact Nat.le_trans hl (by decide)
  · obtain ⟨w3, s3, n3⟩ := grow_own (o := .lst vs) w n g hp
    exact q _ _ _ [p] A w3 s3 (.lst upd_same (Owns.fros r)) n3

/-! ### operators whose operands are frozen -/
def OF (S : Sig) (r : R2) (d1 d2 d : D) : Prop := ∀ (x y : V) (F H : Hp) (Q : VK), Ext F H → Rep S.K F x d1 → Rep S.K F y d2 → (∀ v F' H', Grow F H F' H' → Rep S.K F' v d → Q v H') → r x y H Q
structure OBF (S : Sig) (op : Operator) (d1 d2 d : D) : Prop where
  h : ∃ r, (∀ q, S.Ok q → OpR (S.cx q) (binaryOp op) r) ∧ OF S r d1 d2 d
theorem ep_binF {r : R2} {ta tb : TE} (hr : OF S r d1 d2 d) (ha : EP S ta ρ (.ok d1)) (hb : EP S tb ρ (.ok d2)) : EP S (tOp r ta tb) ρ (.ok d) := fun σ F H A Q w n q =>
  ha σ F H A _ w n fun x F1 H1 g1 r1 => hb σ F1 H1 A _ (g1.wf w) (g1.envs n) fun y F2 H2 g2 r2 =>
    hr x y F2 H2 Q g2.ext (r1.mono g2.stp.fs) r2 fun v F3 H3 g3 r3 => q v F3 H3 ((g1.trans g2).trans g3) r3
theorem xp_binF {op : Operator} (ho : OBF S op d1 d2 d) (ha : XP S ρ a (.ok d1)) (hb : XP S ρ b (.ok d2)) : XP S ρ (.BinOp a op b pos) (.ok d) := by
  obtain ⟨r, h1, h2⟩ := ho.h
  obtain ⟨ta, a1, a2⟩ := ha
  obtain ⟨tb, b1, b2⟩ := hb
  exact ⟨_, fun q k => pe_op (h1 q k) (a1 q k) (b1 q k), ep_binF h2 a2 b2⟩
theorem line_le {n : Nat} (h : n ≤ 1000000) : n ≤ sizeLine := Nat.le_trans h (by decide)
theorem line_lt {n : Nat} (h : n < 1000000) : n < sizeLine := Nat.lt_of_lt_of_le h (by decide)
theorem ob_cat {ds es : List D} (hl : ds.length + es.length ≤ 1000000) : OBF S .Add (.lst ds) (.lst es) (.lst (ds ++ es)) := ⟨_, fun _ _ => op_cat, fun x y F H Q e rx ry q => by
  cases rx with
  | lst h1 r1 =>
    cases ry with
    | lst h2 r2 => exact ⟨_, _, _, _, rfl, rfl, e _ _ h1, e _ _ h2, line_le (by rw [r1.length, r2.length]; exact hl), fun p hp => q _ _ _ (Grow.new e hp) (.lst upd_same (reps_new e hp (r1.append r2)))⟩⟩
theorem ob_catT {ds es : List D} (hl : ds.length + es.length ≤ 1000000) : OBF S .Add (.tup ds) (.tup es) (.tup (ds ++ es)) := ⟨rCatA S.K, fun _ _ => op_catA, fun x y F H Q e rx ry q => by
  cases rx with
  | tup h1 r1 =>
    cases ry with
    | tup h2 r2 =>
      refine ⟨_, _, _, _, rfl, rfl, .of (e _ _ h1), .of (e _ _ h2), line_le (by rw [r1.length, r2.length]; exact hl), fun z => ?_, fun _ z => ?_, fun _ _ p hp => q _ _ _ (Grow.new e hp) (.tup upd_same (reps_new e hp (r1.append r2)))⟩
      · subst z
        cases r1
        exact q _ F H (Grow.refl e) (.tup h2 r2)
      · subst z
        cases r2
        exact q _ F H (Grow.refl e) (by rw [List.append_nil]; exact .tup h1 r1)⟩
theorem Reps.flat_rep {K : PySem.W.Frag} {F : Hp} {vs : List V} {ds : List D} (r : Reps K F vs ds) : ∀ n : Nat, Reps K F (List.replicate n vs).flatten (List.replicate n ds).flatten
  | 0 => .nil
  | n + 1 => by
    rw [List.replicate_succ, List.replicate_succ, List.flatten_cons, List.flatten_cons]
    exact r.append (Reps.flat_rep r n)
theorem ob_rep {ds : List D} {k : Int} (hk : -(2 ^ 63) ≤ k ∧ k < 2 ^ 63) (hl : ds.length * k.toNat ≤ 1000000) : OBF S .Mult (.lst ds) (.int k) (.lst (List.replicate k.toNat ds).flatten) := ⟨_, fun _ _ => op_rep, fun x y F H Q e rx ry q => by
  cases rx with
  | lst h1 r1 =>
    cases ry
    exact ⟨_, _, _, rfl, rfl, e _ _ h1, hk.1, hk.2, line_le (by rw [r1.length]; exact hl), fun p hp => q _ _ _ (Grow.new e hp) (.lst upd_same (reps_new e hp (r1.flat_rep _)))⟩⟩
theorem Tx.app (t u : Tx) : t.s ++ u.s = (⟨t.l ++ u.l⟩ : Tx).s := by
  show (⟨(t.l.map Char.toNat).toArray ++ (u.l.map Char.toNat).toArray⟩ : Str) = ⟨((t.l ++ u.l).map Char.toNat).toArray⟩
  simp
theorem Tx.len (t : Tx) : t.s.length = t.l.length := by show ((t.l.map Char.toNat).toArray).size = _; simp
theorem ob_cats {t u : Tx} (hl : t.l.length + u.l.length ≤ 1000000) : OB S .Add (enc t) (enc u) (enc (⟨t.l ++ u.l⟩ : Tx)) := ⟨_, fun _ _ => op_add_str, fun x y F H Q e rx ry q => by
  cases rx; cases ry
  refine ⟨_, _, rfl, rfl, by rw [Tx.len, Tx.len]; exact line_le hl, ?_⟩
  rw [Tx.app]
  exact q _ F H (Grow.refl e) .str⟩

/-! ### subscripts -/
theorem atI_map {α β : Type} (f : α → β) (xs : List α) (i : Int) : atI (xs.map f) i = (atI xs i).map f := by
  unfold atI
  rw [List.length_map]
  cases ixN xs.length i with
  | none => rfl
  | some j => simp
theorem Reps.atI {K : PySem.W.Frag} {F : Hp} {vs : List V} {ds : List D} {i : Int} (r : Reps K F vs ds) (h : L2.atI ds i = some d) : ∃ v, L2.atI vs i = some v ∧ Rep K F v d := by
  unfold L2.atI at h ⊢
  rw [r.length]
  cases e : ixN ds.length i with
  | none => rw [e] at h; cases h
  | some j =>
    rw [e] at h
    exact r.get (i := j) h
structure OI (S : Sig) (d1 d2 d : D) : Prop where
  h : ∃ r, (∀ q, S.Ok q → IxR (S.cx q) r) ∧ OF S r d1 d2 d
theorem xp_ix (ho : OI S d1 d2 d) (ha : XP S ρ a (.ok d1)) (hb : XP S ρ b (.ok d2)) (hs : PlainIx b := by intro _ _; rfl) : XP S ρ (.Subscript a b pos) (.ok d) := by
  obtain ⟨r, h1, h2⟩ := ho.h
  obtain ⟨ta, a1, a2⟩ := ha
  obtain ⟨tb, b1, b2⟩ := hb
  exact ⟨_, fun q k => pe_ix (h1 q k) (a1 q k) (b1 q k) hs, ep_binF h2 a2 b2⟩
theorem oi_lst {ds : List D} {i : Int} (h : atI ds i = some d) : OI S (.lst ds) (.int i) d := ⟨rIxL S.K, fun _ _ => ix_list, fun x y F H Q e rx ry q => by
  cases rx with
  | lst h1 r1 =>
    cases ry
    obtain ⟨v, e1, e2⟩ := r1.atI h
    exact ⟨_, _, _, v, rfl, rfl, .of (e _ _ h1), e1, q _ F H (Grow.refl e) e2⟩⟩
theorem oi_scr {ds : List D} {i : Int} (h : atI ds i = some d) : OI S (.scr ds) (.int i) d := ⟨rIxL S.K, fun _ _ => ix_list, fun x y F H Q e rx ry q => by
  cases rx with
  | scr h1 r1 =>
    cases ry
    obtain ⟨v, e1, e2⟩ := r1.atI h
    exact ⟨_, _, _, v, rfl, rfl, e.l h1, e1, q _ F H (Grow.refl e) e2⟩⟩
theorem oi_tup {ds : List D} {i : Int} (h : atI ds i = some d) : OI S (.tup ds) (.int i) d := ⟨rIxT S.K, fun _ _ => ix_tup, fun x y F H Q e rx ry q => by
  cases rx with
  | tup h1 r1 =>
    cases ry
    obtain ⟨v, e1, e2⟩ := r1.atI h
    exact ⟨_, _, _, v, rfl, rfl, .of (e _ _ h1), e1, q _ F H (Grow.refl e) e2⟩⟩
theorem oi_tx {t : Tx} {i : Int} {c : Char} (h : atI t.l i = some c) (hl : t.l.length ≤ 1000000) : OI S (enc t) (.int i) (enc (⟨[c]⟩ : Tx)) := ⟨_, fun _ _ => ix_str, fun x y F H Q e rx ry q => by
  cases rx; cases ry
  refine ⟨_, i, c.toNat, rfl, rfl, by rw [Tx.len]; exact line_le hl, ?_, q _ F H (Grow.refl e) .str⟩
  show atI (t.l.map Char.toNat).toArray.toList i = _
  rw [show (t.l.map Char.toNat).toArray.toList = t.l.map Char.toNat from rfl, atI_map, h]
  rfl⟩

/-! ### slices -/
def cutL {α : Type} (xs : List α) (lo hi : Option Int) : List α := (xs.drop (HT.sIx xs.length 0 lo)).take (HT.sIx xs.length xs.length hi - HT.sIx xs.length 0 lo)
theorem cutL_map {α β : Type} (f : α → β) (xs : List α) (lo hi : Option Int) : cutL (xs.map f) lo hi = (cutL xs lo hi).map f := by
  unfold cutL
  rw [List.length_map, ← List.map_drop, ← List.map_take]
theorem Reps.cut {K : PySem.W.Frag} {F : Hp} {vs : List V} {ds : List D} (r : Reps K F vs ds) (lo hi : Option Int) : Reps K F (cutV vs lo hi) (cutL ds lo hi) := by
  unfold cutV cutL
  rw [r.length]
  exact (r.drop _).take _
def XO (S : Sig) (ρ : Env) (e : Option Expr) (i : Option Int) : Prop := ∃ t, (∀ q, S.Ok q → PO (S.cx q) e t) ∧ ∀ (σ : L2.St) (F H : Hp) (A : List Addr) (Q : Option Int → Hp → Prop), WF F H A → Envs S.K F H σ ρ A →
  (∀ F' H', Grow F H F' H' → Q i H') → t σ H Q
theorem xo_none : XO S ρ none none := ⟨_, fun _ _ => po_none, fun σ F H A Q w n q => q F H (Grow.refl w.sub)⟩
theorem xo_some {i : Int} (h : XP S ρ e (.ok (.int i))) : XO S ρ (some e) (some i) := let ⟨t, h1, h2⟩ := h; ⟨_, fun q o => po_some (h1 q o), fun σ F H A Q w n q => h2 σ F H A _ w n fun v F' H' g r => by
  cases r
  exact ⟨i, rfl, q F' H' g⟩⟩
def OSl (S : Sig) (r : V → Option Int → Option Int → Hp → VK → Prop) (d1 : D) (lo hi : Option Int) (d : D) : Prop := ∀ (x : V) (F H : Hp) (Q : VK), Ext F H → Rep S.K F x d1 → (∀ v F' H', Grow F H F' H' → Rep S.K F' v d → Q v H') → r x lo hi H Q
theorem xp_sl {r : V → Option Int → Option Int → Hp → VK → Prop} {el eh : Option Expr} {lo hi : Option Int} {p2 : Pos} (h1 : ∀ q, S.Ok q → SlR (S.cx q) r) (h2 : OSl S r d1 lo hi d) (ha : XP S ρ a (.ok d1)) (hl : XO S ρ el lo) (hh : XO S ρ eh hi) : XP S ρ (.Subscript a (.Slice el eh none p2) pos) (.ok d) := by
  obtain ⟨ta, a1, a2⟩ := ha
  obtain ⟨tl, l1, l2⟩ := hl
  obtain ⟨th, k1, k2⟩ := hh
  refine ⟨_, fun q o => pe_slice (h1 q o) (a1 q o) (l1 q o) (k1 q o), fun σ F H A Q w n q => a2 σ F H A _ w n fun x F1 H1 g1 r1 => l2 σ F1 H1 A _ (g1.wf w) (g1.envs n) fun F2 H2 g2 => ?_⟩
  refine k2 σ F2 H2 A _ ((g1.trans g2).wf w) ((g1.trans g2).envs n) fun F3 H3 g3 => ?_
  exact h2 x F3 H3 Q g3.ext ((r1.mono g2.stp.fs).mono g3.stp.fs) fun v F4 H4 g4 r4 => q v F4 H4 (((g1.trans g2).trans g3).trans g4) r4
theorem xp_slL {ds : List D} {el eh : Option Expr} {lo hi : Option Int} {p2 : Pos} (ha : XP S ρ a (.ok (.lst ds))) (hl : XO S ρ el lo) (hh : XO S ρ eh hi) : XP S ρ (.Subscript a (.Slice el eh none p2) pos) (.ok (.lst (cutL ds lo hi))) :=
  xp_sl (r := rSlL S.K) (fun _ _ => sl_list) (fun x F H Q e rx q => by
    cases rx with
    | lst h r => exact ⟨_, _, rfl, .of (e _ _ h), fun p hp => q _ _ _ (Grow.new e hp) (.lst upd_same (reps_new e hp (r.cut lo hi)))⟩) ha hl hh
theorem xp_slT {ds : List D} {el eh : Option Expr} {lo hi : Option Int} {p2 : Pos} (ha : XP S ρ a (.ok (.tup ds))) (hl : XO S ρ el lo) (hh : XO S ρ eh hi) : XP S ρ (.Subscript a (.Slice el eh none p2) pos) (.ok (.tup (cutL ds lo hi))) :=
  xp_sl (r := rSlA S.K) (fun _ _ => sl_tupA) (fun x F H Q e rx q => by
    cases rx with
    | tup h r =>
      refine ⟨_, _, rfl, .of (e _ _ h), fun z => q _ F H (Grow.refl e) (.tup h ?_), fun _ p hp => q _ _ _ (Grow.new e hp) (.tup upd_same (reps_new e hp (r.cut lo hi)))⟩
      rw [r.length] at z
      have : cutL ds lo hi = ds := by unfold cutL; rw [z.1, z.2]; simp
      rw [this]; exact r) ha hl hh

/-! ### calls of built-ins -/
def rLenQ (K : PySem.W.Frag) : List V → Hp → VK → Prop := fun xs H Q => ∃ p ys, xs = [.ref p] ∧ (SqL K H p ys ∨ SqT K H p ys) ∧ Q (.int ys.length) H
def rListQ (K : PySem.W.Frag) : List V → Hp → VK → Prop := fun xs H Q => ∃ p ys, xs = [.ref p] ∧ (SqL K H p ys ∨ SqT K H p ys) ∧ ∀ l, H l = none → Q (.ref l) (upd H l (.lst ys))
def rTupQ (K : PySem.W.Frag) : List V → Hp → VK → Prop := fun xs H Q => ∃ p ys, xs = [.ref p] ∧ ((SqL K H p ys ∧ ∀ l, H l = none → Q (.ref l) (upd H l (.tup ys))) ∨ (SqT K H p ys ∧ Q (.ref p) H))
structure CB (S : Sig) (id : String) (ds : List D) (d : D) : Prop where
  h : ∃ r : List V → Hp → VK → Prop, (∀ q, S.Ok q → CallR (S.cx q) (.builtin id) r) ∧ ∀ (vs : List V) (F H : Hp) (Q : VK), Ext F H → Reps S.K H vs ds → (∀ v F' H', Grow F H F' H' → Rep S.K F' v d → Q v H') → r vs H Q
structure CT (S : Sig) (id : String) (ds : List D) (d : D) : Prop where
  h : ∃ r : List V → Hp → VK → Prop, (∀ q, S.Ok q → CallR (S.cx q) (.type id) r) ∧ ∀ (vs : List V) (F H : Hp) (Q : VK), Ext F H → Reps S.K F vs ds → (∀ v F' H', Grow F H F' H' → Rep S.K F' v d → Q v H') → r vs H Q
structure CBF (S : Sig) (id : String) (ds : List D) (d : D) : Prop where
  h : ∃ r : List V → Hp → VK → Prop, (∀ q, S.Ok q → CallR (S.cx q) (.builtin id) r) ∧ ∀ (vs : List V) (F H : Hp) (Q : VK), Ext F H → Reps S.K F vs ds → (∀ v F' H', Grow F H F' H' → Rep S.K F' v d → Q v H') → r vs H Q
theorem xp_cb {x : Str} {id : String} {p : Pos} (hc : CB S id ds d) (hm : S.mg x = none) (ha : XAV S ρ (e :: es) ds) (hg : S.scope.names.lookup x = some .globalImplicit := by rfl) (hv : bootBuiltins x = some (.builtin id) := by decide +kernel) (hn : x ≠ "__name__" := by decide) (hdb : (x == ("__debug__" : Str)) = false := by decide)
    (he : ∀ env : PySem.Env, starEach (e :: es) env = (false, eval e env) :: starEach es env := by intro _; rfl) (hpl : ∀ env : PySem.Env, (backTo pos (starEach es env)).any (·.1) = false := by intro _; rfl) : XP S ρ (.Call (.Name x p) (e :: es) [] pos) (.ok d) := by
  obtain ⟨r, h1, h2⟩ := hc.h
  obtain ⟨t, a1, a2⟩ := ha
  exact ⟨_, fun q o => pe_callB (X := S.cx q) (h1 q o) (show S.scope.names.lookup x = some .globalImplicit from hg) hm hv (a1 q o) hn hdb (he _) (hpl _), fun σ F H A Q w n q => a2 σ F H A _ w n fun vs F1 H1 g r1 => h2 vs F1 H1 Q g.ext r1 fun v F2 H2 g2 r2 => q v F2 H2 (g.trans g2) r2⟩
theorem xp_cbF {x : Str} {id : String} {p : Pos} (hc : CBF S id ds d) (hm : S.mg x = none) (ha : XA S ρ (e :: es) ds) (hg : S.scope.names.lookup x = some .globalImplicit := by rfl) (hv : bootBuiltins x = some (.builtin id) := by decide +kernel) (hn : x ≠ "__name__" := by decide) (hdb : (x == ("__debug__" : Str)) = false := by decide)
    (he : ∀ env : PySem.Env, starEach (e :: es) env = (false, eval e env) :: starEach es env := by intro _; rfl) (hpl : ∀ env : PySem.Env, (backTo pos (starEach es env)).any (·.1) = false := by intro _; rfl) : XP S ρ (.Call (.Name x p) (e :: es) [] pos) (.ok d) := by
  obtain ⟨r, h1, h2⟩ := hc.h
  obtain ⟨t, a1, a2⟩ := ha
  exact ⟨_, fun q o => pe_callB (X := S.cx q) (h1 q o) (show S.scope.names.lookup x = some .globalImplicit from hg) hm hv (a1 q o) hn hdb (he _) (hpl _), fun σ F H A Q w n q => a2 σ F H A _ w n fun vs F1 H1 g r1 => h2 vs F1 H1 Q g.ext r1 fun v F2 H2 g2 r2 => q v F2 H2 (g.trans g2) r2⟩
theorem xp_ct {x : Str} {id : String} {p : Pos} (hc : CT S id ds d) (hm : S.mg x = none) (ha : XA S ρ (e :: es) ds) (hg : S.scope.names.lookup x = some .globalImplicit := by rfl) (hv : bootBuiltins x = some (.type id) := by decide +kernel) (hn : x ≠ "__name__" := by decide) (hdb : (x == ("__debug__" : Str)) = false := by decide)
    (he : ∀ env : PySem.Env, starEach (e :: es) env = (false, eval e env) :: starEach es env := by intro _; rfl) (hpl : ∀ env : PySem.Env, (backTo pos (starEach es env)).any (·.1) = false := by intro _; rfl) : XP S ρ (.Call (.Name x p) (e :: es) [] pos) (.ok d) := by
  obtain ⟨r, h1, h2⟩ := hc.h
  obtain ⟨t, a1, a2⟩ := ha
  exact ⟨_, fun q o => pe_callTy (X := S.cx q) (h1 q o) (show S.scope.names.lookup x = some .globalImplicit from hg) hm hv (a1 q o) hn hdb (he _) (hpl _), fun σ F H A Q w n q => a2 σ F H A _ w n fun vs F1 H1 g r1 => h2 vs F1 H1 Q g.ext r1 fun v F2 H2 g2 r2 => q v F2 H2 (g.trans g2) r2⟩
theorem reps1 {K : PySem.W.Frag} {F : Hp} {vs : List V} (r : Reps K F vs [d]) : ∃ v, vs = [v] ∧ Rep K F v d := by
  cases r with
  | cons h r => cases r; exact ⟨_, rfl, h⟩
theorem reps2 {K : PySem.W.Frag} {F : Hp} {vs : List V} (r : Reps K F vs [d1, d2]) : ∃ v w, vs = [v, w] ∧ Rep K F v d1 ∧ Rep K F w d2 := by
  cases r with
  | cons h r => obtain ⟨w, e, h2⟩ := reps1 r; exact ⟨_, w, by rw [e], h, h2⟩
theorem cb_len_lst {ds : List D} : CB S "len" [.lst ds] (.int ds.length) := ⟨rLenQ S.K, fun _ _ => call_len_seq, fun vs F H Q e rr q => by
  obtain ⟨v, rfl, r⟩ := reps1 rr
  cases r with
  | lst h r => exact ⟨_, _, rfl, .inl (.of h), by rw [r.length]; exact q _ F H (Grow.refl e) .int⟩⟩
theorem cb_len_scr {ds : List D} : CB S "len" [.scr ds] (.int ds.length) := ⟨rLenQ S.K, fun _ _ => call_len_seq, fun vs F H Q e rr q => by
  obtain ⟨v, rfl, r⟩ := reps1 rr
  cases r with
  | scr h r => exact ⟨_, _, rfl, .inl h, by rw [r.length]; exact q _ F H (Grow.refl e) .int⟩⟩
theorem cb_len_tup {ds : List D} : CB S "len" [.tup ds] (.int ds.length) := ⟨rLenQ S.K, fun _ _ => call_len_seq, fun vs F H Q e rr q => by
  obtain ⟨v, rfl, r⟩ := reps1 rr
  cases r with
  | tup h r => exact ⟨_, _, rfl, .inr (.of h), by rw [r.length]; exact q _ F H (Grow.refl e) .int⟩⟩
theorem cb_len_tx {t : Tx} (hl : t.l.length ≤ 1000000) : CB S "len" [enc t] (.int t.l.length) := ⟨_, fun _ _ => call_len_str, fun vs F H Q e rr q => by
  obtain ⟨v, rfl, r⟩ := reps1 rr
  cases r
  exact ⟨_, rfl, by rw [Tx.len]; exact line_le hl, by rw [Tx.len]; exact q _ F H (Grow.refl e) .int⟩⟩
theorem cb_abs {i : Int} : CB S "abs" [.int i] (.int (if i < 0 then -i else i)) := ⟨_, fun _ _ => call_abs, fun vs F H Q e rr q => by
  obtain ⟨v, rfl, r⟩ := reps1 rr
  cases r
  exact ⟨_, rfl, q _ F H (Grow.refl e) .int⟩⟩
theorem cb_max2 [Calm S] {i j : Int} : CB S "max" [.int i, .int j] (.int (if j > i then j else i)) := ⟨_, fun _ _ => call_max2 Calm.h, fun vs F H Q e rr q => by
  obtain ⟨v, w, rfl, r, r2⟩ := reps2 rr
  cases r; cases r2
  exact ⟨_, _, rfl, q _ F H (Grow.refl e) .int⟩⟩
theorem cb_min2 [Calm S] {i j : Int} : CB S "min" [.int i, .int j] (.int (if j < i then j else i)) := ⟨_, fun _ _ => call_min2 Calm.h, fun vs F H Q e rr q => by
  obtain ⟨v, w, rfl, r, r2⟩ := reps2 rr
  cases r; cases r2
  exact ⟨_, _, rfl, q _ F H (Grow.refl e) .int⟩⟩
theorem ct_int_bl {k : Bool} : CT S "int" [.bl k] (.int (if k then 1 else 0)) := ⟨_, fun _ _ => call_int1, fun vs F H Q e rr q => by
  obtain ⟨v, rfl, r⟩ := reps1 rr
  cases r
  exact .inr ⟨_, rfl, q _ F H (Grow.refl e) .int⟩⟩
theorem ct_list_lst {ds : List D} : CT S "list" [.lst ds] (.lst ds) := ⟨rListQ S.K, fun _ _ => call_list_of, fun vs F H Q e rr q => by
  obtain ⟨v, rfl, r⟩ := reps1 rr
  cases r with
  | lst h r => exact ⟨_, _, rfl, .inl (.of (e _ _ h)), fun l hl => q _ _ _ (Grow.new e hl) (.lst upd_same (reps_new e hl r))⟩⟩
theorem ct_list_tup {ds : List D} : CT S "list" [.tup ds] (.lst ds) := ⟨rListQ S.K, fun _ _ => call_list_of, fun vs F H Q e rr q => by
  obtain ⟨v, rfl, r⟩ := reps1 rr
  cases r with
  | tup h r => exact ⟨_, _, rfl, .inr (.of (e _ _ h)), fun l hl => q _ _ _ (Grow.new e hl) (.lst upd_same (reps_new e hl r))⟩⟩
theorem ct_tuple_lst {ds : List D} : CT S "tuple" [.lst ds] (.tup ds) := ⟨rTupQ S.K, fun _ _ => call_tuple_of, fun vs F H Q e rr q => by
  obtain ⟨v, rfl, r⟩ := reps1 rr
  cases r with
  | lst h r => exact ⟨_, _, rfl, .inl ⟨.of (e _ _ h), fun l hl => q _ _ _ (Grow.new e hl) (.tup upd_same (reps_new e hl r))⟩⟩⟩
theorem ct_tuple_tup {ds : List D} : CT S "tuple" [.tup ds] (.tup ds) := ⟨rTupQ S.K, fun _ _ => call_tuple_of, fun vs F H Q e rr q => by
  obtain ⟨v, rfl, r⟩ := reps1 rr
  cases r with
  | tup h r => exact ⟨_, _, rfl, .inr ⟨.of (e _ _ h), q _ F H (Grow.refl e) (.tup h r)⟩⟩⟩
theorem map_bl_reps {K : PySem.W.Frag} {F : Hp} : ∀ {vs : List V} {bs : List Bool}, Reps K F vs (bs.map D.bl) → vs = bs.map V.bl
  | _, [], h => by cases h; rfl
  | _, b :: bs, h => by
    cases h with
    | cons h r => cases h; rw [List.map_cons, map_bl_reps r]
theorem map_int_reps {K : PySem.W.Frag} {F : Hp} : ∀ {vs : List V} {bs : List Int}, Reps K F vs (bs.map D.int) → vs = bs.map V.int
  | _, [], h => by cases h; rfl
  | _, b :: bs, h => by
    cases h with
    | cons h r => cases h; rw [List.map_cons, map_int_reps r]
theorem cb_any [Calm S] {bs : List Bool} : CB S "any" [.lst (bs.map D.bl)] (.bl (bs.any id)) := ⟨rAny S.K, fun _ _ => cr_any Calm.h, fun vs F H Q e rr q => by
  obtain ⟨v, rfl, r⟩ := reps1 rr
  cases r with
  | lst h r => exact ⟨_, bs, rfl, by rw [← map_bl_reps r]; exact .of h, q _ F H (Grow.refl e) .bl⟩⟩
theorem cb_all [Calm S] {bs : List Bool} : CB S "all" [.lst (bs.map D.bl)] (.bl (bs.all id)) := ⟨rAll S.K, fun _ _ => cr_all Calm.h, fun vs F H Q e rr q => by
  obtain ⟨v, rfl, r⟩ := reps1 rr
  cases r with
  | lst h r => exact ⟨_, bs, rfl, by rw [← map_bl_reps r]; exact .of h, q _ F H (Grow.refl e) .bl⟩⟩
theorem cb_sum [Calm S] {ns : List Int} : CB S "sum" [.lst (ns.map D.int)] (.int ns.sum) := ⟨rSum S.K, fun _ _ => cr_sum Calm.h, fun vs F H Q e rr q => by
  obtain ⟨v, rfl, r⟩ := reps1 rr
  cases r with
  | lst h r => exact ⟨_, ns, rfl, by rw [← map_int_reps r]; exact .of h, q _ F H (Grow.refl e) .int⟩⟩
end
end G

namespace G
open PySem PySem.Spec PyProof.Rows L2
open PySem.W (Datum DatumOrd Tup T3)
open Enc (enc)
section
variable {S : Sig} {ρ ρ1 : Env} {a b c e : Expr} {d d1 d2 d3 : D} {ds : List D} {pos : Pos} {pin : List Nat} {es : List Expr} {st : Stmt} {ss : List Stmt} {r : RS}

/-! ### blocks -/
theorem xb_nil : XB S pin ρ [] (.nx ρ) := ⟨_, fun _ _ => pss_nil, fun σ F H A D w n q => q σ F H A w Stp.refl n Pin.refl⟩
theorem EPost.trans {D : Ends} {σ σ1 : L2.St} {F H F1 H1 : Hp} {A A1 : List Addr} (q : EPost S pin D σ F H A r) (s : Stp F H A F1 H1 A1) (p : Pin pin σ σ1) : EPost S pin D σ1 F1 H1 A1 r := by
  cases r with
  | nx ρ => exact fun σ' F' H' A' w t n k => q σ' F' H' A' w (s.trans t) n (p.trans k)
  | bk ρ => exact fun σ' F' H' A' w t n k => q σ' F' H' A' w (s.trans t) n (p.trans k)
  | ct ρ => exact fun σ' F' H' A' w t n k => q σ' F' H' A' w (s.trans t) n (p.trans k)
  | rt o ρ => exact fun v σ' F' H' B A' w t ow n k => q v σ' F' H' B A' w (s.trans t) ow n (p.trans k)
  | ex x ρ => exact fun σ' F' H' A' w t n k => q σ' F' H' A' w (s.trans t) n (p.trans k)
theorem EPost.nx {D : Ends} {σ : L2.St} {F H : Hp} {A : List Addr} {u : L2.St → Hp → Prop} (q : EPost S pin D σ F H A r) (h : ∀ ρ, r ≠ .nx ρ) : EPost S pin { D with nx := u } σ F H A r := by
  cases r with
  | nx ρ => exact absurd rfl (h ρ)
  | _ => exact q
theorem es_seq {t u : TS} (h : ES S pin t ρ (.nx ρ1)) (h' : ES S pin u ρ1 r) : ES S pin (tSeq t u) ρ r := fun σ F H A D w n q =>
  h σ F H A _ w n fun σ1 F1 H1 A1 w1 s1 n1 p1 => h' σ1 F1 H1 A1 D w1 n1 (q.trans s1 p1)
theorem xb_cons (h : XS S pin ρ st (.nx ρ1)) (h' : XB S pin ρ1 ss r) : XB S pin ρ (st :: ss) r := by
  obtain ⟨t, h1, h2⟩ := h
  obtain ⟨u, h3, h4⟩ := h'
  exact ⟨_, fun q o => pss_cons (h1 q o) (h3 q o), es_seq h2 h4⟩
/-- a statement that does not go on -/
theorem xb_stop (h : XS S pin ρ st r) (hr : ∀ ρ, r ≠ .nx ρ) : XB S pin ρ (st :: ss) r := by
  obtain ⟨t, h1, h2⟩ := h
  exact ⟨tSeq t tNever, fun q o => pss_cons (h1 q o) pss_never, fun σ F H A D w n q => h2 σ F H A _ w n (q.nx hr)⟩
theorem xb_one (h : XS S pin ρ st r) : XB S pin ρ [st] r := by
  obtain ⟨t, h1, h2⟩ := h
  exact ⟨t, fun q o => pss_one (h1 q o), h2⟩
theorem XB.cast {r' : RS} (h : XB S pin ρ ss r) (e : r = r') : XB S pin ρ ss r' := e ▸ h
theorem XS.cast {r' : RS} (h : XS S pin ρ st r) (e : r = r') : XS S pin ρ st r' := e ▸ h

/-! ### storing in a slot -/
theorem Envs.store {K : PySem.W.Frag} {F H : Hp} {σ : L2.St} {A B : List Addr} {v : V} {o : O} {i : Nat} (n : Envs K F H σ ρ A) (ow : Own K F H v o B) (hi : i < ρ.length) (w : WF F H (B ++ A)) :
    ∃ A', Envs K F H (σ.set i (some v)) (ρ.set i (some o)) A' ∧ WF F H A' ∧ ∀ a ∈ A', a ∈ B ++ A := by
  obtain ⟨C, A1, n1, p1⟩ := n.drop i
  have e1 : (ρ.set i none)[i]? = some none := by rw [List.getElem?_set_self hi]
  obtain ⟨A2, n2, p2⟩ := n1.put ow (i := i) e1
  rw [List.set_set] at n2
  have p3 : (B ++ A).Perm (C ++ (B ++ A1)) := by
    refine (List.Perm.append_left B p1).trans ?_
    rw [← List.append_assoc, ← List.append_assoc]
    exact List.Perm.append_right _ List.perm_append_comm
  refine ⟨A2, n2, ((w.perm p3).right).perm p2.symm, fun a h => ?_⟩
  exact p3.mem_iff.mpr (List.mem_append_right _ (p2.mem_iff.mp h))
/-- name = e -/
theorem xs_set (i : Nat) {x : Str} {p' : Pos} {o : O} (h : XX S ρ e (.ok o ρ1)) (hi : Nat.blt i ρ1.length = true := by rfl) (hp : i ∉ pin := by decide) (hN : S.N[i]? = some x := by rfl) (hx : Loc S.scope x := by first | exact .inl rfl | exact .inr rfl) (hst : S.st x = true ∨ S.scope.names.lookup x = some .local := by first | exact .inl rfl | exact .inr rfl)
    (hs : ∀ env : PySem.Env, swapsWith e (some (.Name x p')) pos.line { env with scope := S.scope } = pure false := by intro _; rfl) : XS S pin ρ (.Assign [.Name x p'] e pos) (.nx (ρ1.set i (some o))) := by
  obtain ⟨t, h1, h2⟩ := h
  refine ⟨_, fun q ok => ps_set (X := S.cx q) (i := i) ok.nd hN hx (h1 q ok) (hs _) (hst.elim (fun z => .inl (ok.fn x z)) .inr), fun σ F H A D w n q => h2 σ F H A _ w n fun v F1 H1 B A1 w1 s1 ow n1 => ?_⟩
  obtain ⟨A2, n2, w2, m2⟩ := n1.store ow (Nat.le_of_ble_eq_true hi) w1
  exact q _ _ _ A2 w2 (s1.perm (fun a => Iff.rfl) m2) n2 (Pin.set hp)
theorem xs_setF (i : Nat) {x : Str} {p' : Pos} (h : XP S ρ e (.ok d)) (hi : Nat.blt i ρ.length = true := by rfl) (hp : i ∉ pin := by decide) (hN : S.N[i]? = some x := by rfl) (hx : Loc S.scope x := by first | exact .inl rfl | exact .inr rfl) (hst : S.st x = true ∨ S.scope.names.lookup x = some .local := by first | exact .inl rfl | exact .inr rfl)
    (hs : ∀ env : PySem.Env, swapsWith e (some (.Name x p')) pos.line { env with scope := S.scope } = pure false := by intro _; rfl) : XS S pin ρ (.Assign [.Name x p'] e pos) (.nx (ρ.set i (some (.fro d)))) := xs_set i h.x hi hp hN hx hst hs
theorem xs_setE (i : Nat) {x y : Str} {p' : Pos} {ρ2 : Option Env} (h : XX S ρ e (.ex y ρ1)) (h2 : ρ2 = none ∨ ρ2 = some ρ1) (hN : S.N[i]? = some x := by rfl) (hx : Loc S.scope x := by first | exact .inl rfl | exact .inr rfl) (hst : S.st x = true ∨ S.scope.names.lookup x = some .local := by first | exact .inl rfl | exact .inr rfl)
    (hs : ∀ env : PySem.Env, swapsWith e (some (.Name x p')) pos.line { env with scope := S.scope } = pure false := by intro _; rfl) : XS S pin ρ (.Assign [.Name x p'] e pos) (.ex y ρ2) := by
  obtain ⟨t, h1, h3⟩ := h
  refine ⟨_, fun q ok => ps_set (X := S.cx q) (i := i) ok.nd hN hx (h1 q ok) (hs _) (hst.elim (fun z => .inl (ok.fn x z)) .inr), fun σ F H A D w n q => h3 σ F H A _ w n fun F1 H1 A1 w1 s1 n1 => ?_⟩
  rcases h2 with rfl | rfl
  · exact q σ F1 H1 [] (WF.none w1.sub) (s1.perm (fun a => Iff.rfl) (by simp)) rfl Pin.refl
  · exact q σ F1 H1 A1 w1 s1 n1 Pin.refl
/-- return e -/
theorem xs_ret {o : O} (h : XX S ρ e (.ok o ρ1)) : XS S pin ρ (.Return (some e) pos) (.rt o (some ρ1)) := by
  obtain ⟨t, h1, h2⟩ := h
  exact ⟨_, fun q ok => ps_ret (h1 q ok), fun σ F H A D w n q => h2 σ F H A _ w n fun v F1 H1 B A1 w1 s1 ow n1 => q v σ F1 H1 B A1 w1 s1 ow n1 Pin.refl⟩
theorem xs_ret0 {o : O} (h : XX S ρ e (.ok o ρ1)) : XS S pin ρ (.Return (some e) pos) (.rt o none) := by
  obtain ⟨t, h1, h2⟩ := h
  refine ⟨_, fun q ok => ps_ret (h1 q ok), fun σ F H A D w n q => h2 σ F H A _ w n fun v F1 H1 B A1 w1 s1 ow n1 => q v σ F1 H1 B [] ?_ ?_ ow rfl Pin.refl⟩
  · rw [List.append_nil]; exact w1.left
  · exact s1.perm (fun a => Iff.rfl) (by simp; exact fun a h => .inl h)
theorem xs_retF (h : XP S ρ e (.ok d)) : XS S pin ρ (.Return (some e) pos) (.rt (.fro d) none) := xs_ret0 h.x
theorem xs_retE {y : Str} {ρ2 : Option Env} (h : XX S ρ e (.ex y ρ1)) (h2 : ρ2 = none ∨ ρ2 = some ρ1) : XS S pin ρ (.Return (some e) pos) (.ex y ρ2) := by
  obtain ⟨t, h1, h3⟩ := h
  refine ⟨_, fun q ok => ps_ret (h1 q ok), fun σ F H A D w n q => h3 σ F H A _ w n fun F1 H1 A1 w1 s1 n1 => ?_⟩
  rcases h2 with rfl | rfl
  · exact q σ F1 H1 [] (WF.none w1.sub) (s1.perm (fun a => Iff.rfl) (by simp)) rfl Pin.refl
  · exact q σ F1 H1 A1 w1 s1 n1 Pin.refl
/-- an expression alone -/
theorem xs_expr {o : O} (h : XX S ρ e (.ok o ρ1)) (hs : ∀ env : PySem.Env, swapsWith e none pos.line env = pure false := by intro _; rfl) : XS S pin ρ (.Expr e pos) (.nx ρ1) := by
  obtain ⟨t, h1, h2⟩ := h
  exact ⟨_, fun q ok => ps_expr (h1 q ok) (hs _), fun σ F H A D w n q => h2 σ F H A _ w n fun v F1 H1 B A1 w1 s1 ow n1 => q σ F1 H1 A1 w1.right (s1.perm (fun a => Iff.rfl) fun a h => List.mem_append_right _ h) n1 Pin.refl⟩
theorem xs_exprE {y : Str} {ρ2 : Option Env} (h : XX S ρ e (.ex y ρ1)) (h2 : ρ2 = none ∨ ρ2 = some ρ1) (hs : ∀ env : PySem.Env, swapsWith e none pos.line env = pure false := by intro _; rfl) : XS S pin ρ (.Expr e pos) (.ex y ρ2) := by
  obtain ⟨t, h1, h3⟩ := h
  refine ⟨_, fun q ok => ps_expr (h1 q ok) (hs _), fun σ F H A D w n q => h3 σ F H A _ w n fun F1 H1 A1 w1 s1 n1 => ?_⟩
  rcases h2 with rfl | rfl
  · exact q σ F1 H1 [] (WF.none w1.sub) (s1.perm (fun a => Iff.rfl) (by simp)) rfl Pin.refl
  · exact q σ F1 H1 A1 w1 s1 n1 Pin.refl
/-- slot i is forgotten -/
theorem xs_forget (i : Nat) (h : XB S pin ρ ss (.nx ρ1)) : XB S pin ρ ss (.nx (ρ1.set i none)) := by
  obtain ⟨t, h1, h2⟩ := h
  refine ⟨t, h1, fun σ F H A D w n q => h2 σ F H A D w n fun σ1 F1 H1 A1 w1 s1 n1 p1 => ?_⟩
  obtain ⟨B, A2, n2, p2⟩ := n1.drop i
  exact q σ1 F1 H1 A2 ((w1.perm p2).right) (s1.perm (fun a => Iff.rfl) fun a h => p2.mem_iff.mpr (List.mem_append_right _ h)) n2 p1
/-- what slot i owns is frozen from here on -/
theorem xb_freeze (i : Nat) {o : O} (hρ : ρ[i]? = some (some o)) (h : XB S pin (ρ.set i (some (.fro o.d))) ss r) : XB S pin ρ ss r := by
  obtain ⟨t, h1, h2⟩ := h
  refine ⟨t, h1, fun σ F H A D w n q => ?_⟩
  obtain ⟨v, B, A', e1, ow, n1, p1⟩ := n.get hρ
  have w1 := w.perm p1
  have s1 := frz_stp w1
  have e2 : (ρ.set i none)[i]? = some none := by
    rw [List.getElem?_set_self]
    exact (List.getElem?_eq_some_iff.mp hρ).1
  have n2 : Envs S.K (frz F H B) H σ (ρ.set i none) A' := n1.mono s1.fs (S := A') (fun _ _ h _ => h) fun _ h => h
  have r1 : Rep S.K (frz F H B) v o.d := ow.frz (S := B) s1.fs fun _ h => h
  obtain ⟨A2, n3, p3⟩ := n2.back (.fro r1) e2 e1
  rw [List.set_set] at n3
  have s2 : Stp F H A (frz F H B) H A2 := s1.perm (fun a => p1.mem_iff.symm) fun a h => by simpa using p3.mem_iff.mp h
  exact h2 σ (frz F H B) H A2 D ((frz_wf w1).perm (by simpa using p3.symm)) n3 (q.trans s2 Pin.refl)

/-! ### if -/
theorem xs_if {k : Bool} {A B : List Stmt} (hc : XT S ρ c k) (ha : k = true → XB S pin ρ A r) (hb : k = false → XB S pin ρ B r) : XS S pin ρ (.If c A B pos) r := by
  obtain ⟨t, h1, h2⟩ := hc
  cases k with
  | true =>
    obtain ⟨u, h3, h4⟩ := ha rfl
    refine ⟨tIfS t u tNever, fun q ok => ps_if (h1 q ok) (h3 q ok) pss_never, fun σ F H A D w n q => h2 σ F H A _ w n fun F1 H1 g => ?_⟩
    show u D σ H1
    exact h4 σ F1 H1 A D (g.wf w) (g.envs n) (q.trans ((g.stp.mono (by simp)).more (C := A) fun a h => .inl h) Pin.refl)
  | false =>
    obtain ⟨u, h3, h4⟩ := hb rfl
    refine ⟨tIfS t tNever u, fun q ok => ps_if (h1 q ok) pss_never (h3 q ok), fun σ F H A D w n q => h2 σ F H A _ w n fun F1 H1 g => ?_⟩
    show u D σ H1
    exact h4 σ F1 H1 A D (g.wf w) (g.envs n) (q.trans ((g.stp.mono (by simp)).more (C := A) fun a h => .inl h) Pin.refl)
/-- two ways, two ends -/
theorem xs_if2 {k : Bool} {A B : List Stmt} {r1 r2 : RS} (hc : XT S ρ c k) (ha : k = true → XB S pin ρ A r1) (hb : k = false → XB S pin ρ B r2) : XS S pin ρ (.If c A B pos) (if k = true then r1 else r2) := by
  cases k with
  | true => exact xs_if hc ha fun z => nomatch z
  | false => exact xs_if hc (fun z => nomatch z) hb
/-- both ways go on -/
theorem xs_ifj {τ : Type} {k : Bool} {A B : List Stmt} (R : τ → Env) {s1 s2 : τ} (hc : XT S ρ c k) (ha : k = true → XB S pin ρ A (.nx (R s1))) (hb : k = false → XB S pin ρ B (.nx (R s2))) : XS S pin ρ (.If c A B pos) (.nx (R (if k = true then s1 else s2))) := by
  cases k with
  | true => exact xs_if hc ha fun z => nomatch z
  | false => exact xs_if hc (fun z => nomatch z) hb
/-- if c: (an end); what follows -/
theorem xb_if {k : Bool} {A : List Stmt} {r1 r2 : RS} (hc : XT S ρ c k) (ha : k = true → XB S pin ρ A r1) (hr : ∀ ρ, r1 ≠ .nx ρ) (hb : k = false → XB S pin ρ ss r2) : XB S pin ρ (.If c A [] pos :: ss) (if k = true then r1 else r2) := by
  cases k with
  | true => exact xb_stop (xs_if hc ha fun z => nomatch z) hr
  | false => exact xb_cons (xs_if hc (fun z => nomatch z) fun _ => xb_nil) (hb rfl)

/-! ### targets -/
def EG (S : Sig) (pin : List Nat) (g : TG) (ρ : Env) (d : D) (ρ1 : Env) : Prop := ∀ (σ : L2.St) (F H : Hp) (A : List Addr) (v : V) (Q : L2.St → Hp → Prop), WF F H A → Envs S.K F H σ ρ A → Rep S.K F v d →
  (∀ σ' A', WF F H A' → (∀ a ∈ A', a ∈ A) → Envs S.K F H σ' ρ1 A' → Pin pin σ σ' → Q σ' H) → g v σ H Q
/-- also what slots a target wipes: the comprehensions' own -/
structure XG (S : Sig) (pin : List Nat) (tg : Expr) (own : List Nat) (g : TG) : Prop where
  h : ∀ q, S.Ok q → PG (S.cx q) tg g
  wipe : ∀ v σ H Q, g v σ H Q → g v σ H fun σ' H' => Q σ' H' ∧ wipe σ' own = wipe σ own
theorem eg_name (i : Nat) (hi : Nat.blt i ρ.length = true := by rfl) (hp : i ∉ pin := by decide) : EG S pin (gName i) ρ d (ρ.set i (some (.fro d))) := fun σ F H A v Q w n r q => by
  obtain ⟨A2, n2, w2, m2⟩ := n.store (B := []) (.fro r) (Nat.le_of_ble_eq_true hi) w
  exact q _ A2 w2 m2 n2 (Pin.set hp)
def EGs (S : Sig) (pin : List Nat) (g : TGs) (ρ : Env) (ds : List D) (ρ1 : Env) : Prop := ∀ (σ : L2.St) (F H : Hp) (A : List Addr) (vs : List V) (Q : L2.St → Hp → Prop), WF F H A → Envs S.K F H σ ρ A → Reps S.K F vs ds →
  (∀ σ' A', WF F H A' → (∀ a ∈ A', a ∈ A) → Envs S.K F H σ' ρ1 A' → Pin pin σ σ' → Q σ' H) → g vs σ H Q
theorem egs_nil : EGs S pin gNil ρ [] ρ := fun σ F H A vs Q w n r q => by
  cases r
  exact ⟨rfl, q σ A w (fun _ h => h) n Pin.refl⟩
theorem egs_cons {t : TG} {u : TGs} {ρ2 : Env} (h : EG S pin t ρ d ρ1) (h' : EGs S pin u ρ1 ds ρ2) : EGs S pin (gCons t u) ρ (d :: ds) ρ2 := fun σ F H A vs Q w n r q => by
  cases r with
  | cons r rr => exact ⟨_, _, rfl, h σ F H A _ _ w n r fun σ1 A1 w1 m1 n1 p1 => h' σ1 F H A1 _ _ w1 n1 rr fun σ2 A2 w2 m2 n2 p2 => q σ2 A2 w2 (fun a h => m1 a (m2 a h)) n2 (p1.trans p2)⟩
theorem eg_tup {u : TGs} {n : Nat} (h : EGs S pin u ρ ds ρ1) (hn : ds.length = n := by rfl) : EG S pin (gTup S.K n u) ρ (.tup ds) ρ1 := fun σ F H A v Q w e r q => by
  cases r with
  | tup ht r => exact ⟨_, _, rfl, .of (w.sub _ _ ht), by rw [r.length]; exact hn, h σ F H A _ Q w e r q⟩
/-- a, b = e -/
theorem xs_unpack {tg : Expr} {g : TG} (hg : ∀ q, S.Ok q → PG (S.cx q) tg g) (h : XP S ρ e (.ok d)) (he : EG S pin g ρ d ρ1) (hs : ∀ env : PySem.Env, swapsWithSole [tg] e pos.line env = pure false := by intro _; rfl) (hw : ∀ env : PySem.Env, swappedStores [tg] e env = pure none := by intro _; rfl)
    (h1 : ∀ env : PySem.Env, (assignEach [tg] env).map (·.2) = [assign tg env] := by intro _; rfl) : XS S pin ρ (.Assign [tg] e pos) (.nx ρ1) := by
  obtain ⟨t, a1, a2⟩ := h
  refine ⟨_, fun q ok => ps_asg (a1 q ok) (hg q ok) (hs _) (hw _) (h1 _), fun σ F H A D w n q => a2 σ F H A _ w n fun v F1 H1 g1 r => he σ F1 H1 A v _ (g1.wf w) (g1.envs n) r fun σ' A' w' m n' p => ?_⟩
  exact q σ' F1 H1 A' w' ((g1.stp.mono (by simp) (A' := A)).more (C := A) (fun a h => .inl h) |>.perm (fun a => Iff.rfl) fun a h => List.mem_append_right _ (m a h)) n' p
end
end G

namespace G
open PySem PySem.Spec PyProof.Rows L2
open PySem.W (Datum DatumOrd Tup T3)
open Enc (enc)

/-! ### what a def promises -/
inductive RM where
  | ok (o : O) (os : List O) | ex (x : Str) (os : List O)
/-- args: what is handed in, frozen or owned; res: what is handed back, and what became of what was handed in -/
def RM.Post (K : PySem.W.Frag) (vs : List V) (F H : Hp) (A : List Addr) (Q : VK) (E : XK) : RM → Prop
  | .ok o os => ∀ v F' H' B A', WF F' H' (B ++ A') → Stp F H A F' H' (B ++ A') → Own K F' H' v o B → Owns K F' H' vs os A' → Q v H'
  | .ex e os => ∀ F' H' A', WF F' H' A' → Stp F H A F' H' A' → Owns K F' H' vs os A' → E (.ref (He.ga K e)) none H'
def spG (K : PySem.W.Frag) {τ : Type} (args : τ → List O) (pre : τ → Prop) (res : τ → RM) : Sp := fun vs H Q E => ∃ (x : τ) (F : Hp) (A : List Addr), WF F H A ∧ Owns K F H vs (args x) A ∧ pre x ∧
  (res x).Post K vs F H A Q E
/-- all that is handed in is frozen -/
def rmF (ds : List D) : Except Str O → RM
  | .ok o => .ok o (ds.map O.fro)
  | .error e => .ex e (ds.map O.fro)
abbrev spP (K : PySem.W.Frag) {τ : Type} (ds : τ → List D) (pre : τ → Prop) (res : τ → Except Str O) : Sp := spG K (fun x => (ds x).map O.fro) pre fun x => rmF (ds x) (res x)
/-- a def of the module, as its callers know it -/
structure FnG (P : Program) (w : World) (K : PySem.W.Frag) (mg : Str → Option Value) (base : Heap) (k : Nat) (x : Str) (ps : List Str) (sp : Sp) : Prop where
  h : ∃ f fd, FnOk P w K mg base (L2N.CX P w) k f fd ps sp ∧ mg x = some (.ref f) ∧ PySem.W.keepIn K (.ref f) = true ∧ Binds K fd ps []
section
variable {S : Sig} {ρ ρ1 : Env} {a b c e : Expr} {d d1 d2 d3 : D} {ds : List D} {pos p2 : Pos} {pin : List Nat} {es : List Expr} {st : Stmt} {ss : List Stmt} {r : RS} {x : Str} {ps : List Str} {k : Nat}
variable {τ : Type} {args : τ → List O} {dd : τ → List D} {pre : τ → Prop} {res : τ → RM} {rese : τ → Except Str O}
def exD : Except Str O → Except Str D
  | .ok o => .ok o.d
  | .error e => .error e
def exX (ρ : Env) : Except Str O → RE
  | .ok o => .ok o ρ
  | .error e => .ex e ρ
theorem ex_call (y : τ) {t : TA} (ha : EA S t ρ (dd y)) (hp : pre y) : EX S (tCallS (spP S.K dd pre rese) (WE S.wx) t) ρ (exX ρ (rese y)) := fun σ F H A Q w n q => ha σ F H A _ w n fun vs F1 H1 g r => by
  refine ⟨y, F1, [], WF.none g.ext, Owns.fros r, hp, ?_⟩
  show RM.Post _ _ _ _ _ _ _ (rmF (dd y) (rese y))
  cases e : rese y with
  | ok o =>
    rw [e] at q
    intro v F2 H2 B A' w2 s2 ow ows
    obtain ⟨_, rfl⟩ := Owns.fros_inv ows
    rw [List.append_nil] at w2 s2
    have w1 := g.wf w
    have nB : ∀ b ∈ B, H1 b = none := fun b hb => (s2.foot b hb).elim (fun z => nomatch z) id
    have keep : ∀ x o, H1 x = some o → H2 x = some o := fun x o h => s2.keep x o h (by simp)
    refine q v F2 H2 B A ⟨w2.sub, ?_, ?_, ?_⟩ ?_ ow ?_
    · refine List.nodup_append.mpr ⟨w2.nd, w.nd, fun x hx y hy e => ?_⟩
      subst e
      exact w1.on x hy (imm_none (nB x hx))
    · intro x hx
      rcases List.mem_append.mp hx with hx | hx
      · exact w2.off x hx
      · cases z : F2 x with
        | none => rfl
        | some o =>
          rcases s2.new x o z with z | z | z
          · rw [w1.off x hx] at z; cases z
          · cases z
          · exact absurd z (w1.on x hx)
    · intro x hx
      rcases List.mem_append.mp hx with hx | hx
      · exact w2.on x hx
      · exact s2.held (by simp) (w1.on x hx)
    · exact ((g.stp.trans s2).mono (by simp) (A' := A)).more fun a h => .inl h
    · exact (g.envs n).mono s2.fs (S := A) (fun x o h _ => keep x o h) fun _ h => h
  | error x =>
    rw [e] at q
    intro F2 H2 A' w2 s2 ows
    obtain ⟨_, rfl⟩ := Owns.fros_inv ows
    have g2 : Grow F1 H1 F2 H2 := ⟨s2, w2.sub⟩
    have g3 := g.trans g2
    exact q F2 H2 A (g3.wf w) ((g3.stp.mono (by simp) (A' := A)).more (C := A) fun a h => .inl h) (g3.envs n)
/-- f(a, ..), all frozen -/
theorem xx_call [Calm S] (hG : FnG S.P S.w S.K S.mg S.base k x ps (spP S.K dd pre rese)) (y : τ) (hp : pre y) (ha : XA S ρ (e :: es) (dd y)) (hk : k ≤ S.kk := by exact Nat.le_of_ble_eq_true rfl) (hg : S.scope.names.lookup x = some .globalImplicit := by rfl) (hdb : (x == ("__debug__" : Str)) = false := by decide)
    (he : ∀ env : PySem.Env, starEach (e :: es) env = (false, eval e env) :: starEach es env := by intro _; rfl) (hpl : ∀ env : PySem.Env, (backTo pos (starEach es env)).any (·.1) = false := by intro _; rfl) : XX S ρ (.Call (.Name x p2) (e :: es) [] pos) (exX ρ (rese y)) := by
  obtain ⟨f, fd, F, hm, kp, b⟩ := hG.h
  obtain ⟨t, a1, a2⟩ := ha
  exact ⟨_, fun q ok => pe_callS (X := S.cx q) F ((ok.calm Calm.h).mono hk) (show S.scope.names.lookup x = some .globalImplicit from hg) hm kp b (fun σ => L2N.passAt ok.tk σ) (a1 q ok) hdb (he _) (hpl _), ex_call y a2 hp⟩
theorem ep_call (y : τ) {t : TA} (ha : EA S t ρ (dd y)) (hp : pre y) : EP S (tCallS (spP S.K dd pre rese) (WE S.wx) t) ρ (exD (rese y)) := fun σ F H A Q w n q => ha σ F H A _ w n fun vs F1 H1 g r => by
  refine ⟨y, F1, [], WF.none g.ext, Owns.fros r, hp, ?_⟩
  show RM.Post _ _ _ _ _ _ _ (rmF (dd y) (rese y))
  cases e : rese y with
  | ok o =>
    rw [e] at q
    intro v F2 H2 B A' w2 s2 ow ows
    obtain ⟨_, rfl⟩ := Owns.fros_inv ows
    have s3 := frz_stp w2
    have w3 := frz_wf w2
    have s4 := s2.trans s3
    exact q v (frz F2 H2 B) H2 (g.trans ⟨s4, w3.sub⟩) (ow.frz (S := B) s3.fs fun _ h => h)
  | error x =>
    rw [e] at q
    intro F2 H2 A' w2 s2 ows
    obtain ⟨_, rfl⟩ := Owns.fros_inv ows
    exact q F2 H2 (g.trans ⟨s2, w2.sub⟩)
theorem xp_call [Calm S] (hG : FnG S.P S.w S.K S.mg S.base k x ps (spP S.K dd pre rese)) (y : τ) (hp : pre y) (ha : XA S ρ (e :: es) (dd y)) (hk : k ≤ S.kk := by exact Nat.le_of_ble_eq_true rfl) (hg : S.scope.names.lookup x = some .globalImplicit := by rfl) (hdb : (x == ("__debug__" : Str)) = false := by decide)
    (he : ∀ env : PySem.Env, starEach (e :: es) env = (false, eval e env) :: starEach es env := by intro _; rfl) (hpl : ∀ env : PySem.Env, (backTo pos (starEach es env)).any (·.1) = false := by intro _; rfl) : XP S ρ (.Call (.Name x p2) (e :: es) [] pos) (exD (rese y)) := by
  obtain ⟨f, fd, F, hm, kp, b⟩ := hG.h
  obtain ⟨t, a1, a2⟩ := ha
  exact ⟨_, fun q ok => pe_callS (X := S.cx q) F ((ok.calm Calm.h).mono hk) (show S.scope.names.lookup x = some .globalImplicit from hg) hm kp b (fun σ => L2N.passAt ok.tk σ) (a1 q ok) hdb (he _) (hpl _), ep_call y a2 hp⟩
/-- .. called with what is only looked at: the answer is only looked at, too -/
theorem xv_call [Calm S] (hG : FnG S.P S.w S.K S.mg S.base k x ps (spP S.K dd pre rese)) (y : τ) (hp : pre y) {o : O} (ho : rese y = .ok o) (ha : XAV S ρ (e :: es) (dd y)) (hk : k ≤ S.kk := by exact Nat.le_of_ble_eq_true rfl) (hg : S.scope.names.lookup x = some .globalImplicit := by rfl) (hdb : (x == ("__debug__" : Str)) = false := by decide)
    (he : ∀ env : PySem.Env, starEach (e :: es) env = (false, eval e env) :: starEach es env := by intro _; rfl) (hpl : ∀ env : PySem.Env, (backTo pos (starEach es env)).any (·.1) = false := by intro _; rfl) : XV S ρ (.Call (.Name x p2) (e :: es) [] pos) o.d := by
  obtain ⟨f, fd, F, hm, kp, b⟩ := hG.h
  obtain ⟨t, a1, a2⟩ := ha
  refine ⟨_, fun q ok => pe_callS (X := S.cx q) F ((ok.calm Calm.h).mono hk) (show S.scope.names.lookup x = some .globalImplicit from hg) hm kp b (fun σ => L2N.passAt ok.tk σ) (a1 q ok) hdb (he _) (hpl _), fun σ F H A Q w n q => a2 σ F H A _ w n fun vs F1 H1 g r => ?_⟩
  refine ⟨y, H1, [], WF.none (Ext.refl _), Owns.fros r, hp, ?_⟩
  show RM.Post _ _ _ _ _ _ _ (rmF (dd y) (rese y))
  rw [ho]
  intro v F2 H2 B A' w2 s2 ow ows
  obtain ⟨_, rfl⟩ := Owns.fros_inv ows
  refine q v F1 H2 (g.trans ⟨⟨Ext.refl _, fun x o h _ => s2.keep x o h (by simp), fun x o h => .inl h, by simp, s2.alive⟩, fun x o h => ?_⟩) (ow.rep w2.sub)
  exact s2.keep x o (g.ext x o h) (by simp)
end

/-! ### a def's body keeps its promise -/
/-- the end of the body, and what was promised -/
inductive Fits : RS → Except Str O → Prop
  | rt {o ρ r} (h : .ok o = r) : Fits (.rt o ρ) r
  | nx {ρ r} (h : .ok (.fro .non) = r) : Fits (.nx ρ) r
  | ex {x ρ r} (h : .error x = r) : Fits (.ex x ρ) r
def sigOf (P : Program) (w : World) (K : PySem.W.Frag) (mg : Str → Option Value) (base : Heap) (N : List Str) (sc : Scope) (k : Nat) (E : XK) : Sig := ⟨P, w, K, mg, base, N, sc, k, fun cls d _ H => E cls d H, fun _ => true, true, none, true⟩
instance {P : Program} {w : World} {K : PySem.W.Frag} {mg : Str → Option Value} {base : Heap} {N : List Str} {sc : Scope} {k : Nat} {E : XK} : Calm (sigOf P w K mg base N sc k E) := ⟨rfl⟩
section
variable {P : Program} {w : World} {K : PySem.W.Frag} {mg : Str → Option Value} {base : Heap}
theorem start_of {F H : Hp} {N : List Str} {vs : List V} {os : List O} {A : List Addr} (r : Owns K F H vs os A) : Envs K F H (L2.start N vs) (os.map some ++ List.replicate (N.length - os.length) none) A := by
  unfold L2.start
  rw [r.length]
  exact Envs.owns _ r
theorem sig_ok {N ps : List Str} {qual : Str} {scope : Scope} {f : Addr} {cd : Value} {A : Around} {outer : List PySem.Env} {s : Shared} {H : Hp} {E : XK} {k : Nat} (Sc : FnScope N ps scope) (hr : Room k (A.deeper (envOfC qual scope s.heap.objs.size f cd))) :
    ∃ q : Rest, (sigOf P w K mg base N scope k E).Ok q ∧ (sigOf P w K mg base N scope k E).cx q = cxOf (L2N.CX P w) P w K mg base N qual scope f cd A outer s H E := by
  refine ⟨⟨A.deeper (envOfC qual scope s.heap.objs.size f cd), s, H, envOfC qual scope s.heap.objs.size f cd, outer, envOfC qual scope s.heap.objs.size f cd :: outer, [], fun _ => true, [], (cxOf (L2N.CX P w) P w K mg base N qual scope f cd A outer s H E).xe⟩, ⟨L2H.roomH_of hr, fun _ => hr.hd, (fun _ _ z => nomatch z), fun _ => ⟨rfl, rfl⟩, ?_, fun _ _ => rfl, Sc.nd, ?_⟩, rfl⟩
  · show L2N.Takes (cxOf (L2N.CX P w) P w K mg base N qual scope f cd A outer s H E) fun cls d _ H => E cls d H
    exact L2N.takes_of rfl rfl rfl (by rfl)
  · show PassesOwn (model P w) (cxOf (L2N.CX P w) P w K mg base N qual scope f cd A outer s H E).A (cxOf (L2N.CX P w) P w K mg base N qual scope f cd A outer s H E).env (cxOf (L2N.CX P w) P w K mg base N qual scope f cd A outer s H E).xe
    exact PassesOwn.leaving
theorem def_pure {x qual : Str} {st : Stmt} {f : Addr} {fd : FuncData} {N ps : List Str} {k : Nat} {τ : Type} {ds : τ → List D} {pre : τ → Prop} {res : τ → Except Str O} (F : ∃ dvs kws, FunD K x qual (defArgs st) (defBody st) (defScope st) dvs kws f fd) (Sc : FnScope N ps (defScope st)) (hl : ∀ y, (ds y).length = ps.length)
    (body : ∀ (y : τ) (E : XK), pre y → ∃ r, XB (sigOf P w K mg base N (defScope st) k E) [] ((ds y).map (fun d => some (O.fro d)) ++ List.replicate (N.length - ps.length) none) (defBody st) r ∧ Fits r (res y)) :
    FnOk P w K mg base (L2N.CX P w) (k + 1) f fd ps (spP K ds pre res) := by
  obtain ⟨dvs, kws, F⟩ := F
  refine F.ok Sc (fun vs H Q E h => ?_) (fun cdv A outer s H vs Q E hr h => ?_)
  · obtain ⟨y, F1, A1, _, ow, _⟩ := h
    rw [ow.length, List.length_map, hl]
  · obtain ⟨y, F1, A1, w1, ow, hp, post⟩ := h
    obtain ⟨r, ⟨t, h1, h2⟩, fit⟩ := body y E hp
    obtain ⟨q, ok, e⟩ := sig_ok (P := P) (w := w) (K := K) (mg := mg) (base := base) (cd := cdv) (outer := outer) (H := H) (E := E) Sc hr
    refine ⟨t, by rw [← e]; exact h1 q ok, ?_⟩
    have n1 := start_of (N := N) ow
    rw [List.length_map, hl, List.map_map] at n1
    refine h2 _ F1 H A1 _ w1 n1 ?_
    have post' : RM.Post K vs F1 H A1 Q E (rmF (ds y) (res y)) := post
    obtain ⟨r0, e0⟩ := Owns.fros_inv ow
    subst e0
    cases fit with
    | rt z =>
      rw [← z] at post'
      intro v σ' F' H' B A' w' s' ow' n' p'
      refine post' v F' H' B [] (by rw [List.append_nil]; exact w'.left) (s'.perm (fun a => Iff.rfl) (by simp; exact fun a h => .inl h)) ow' (Owns.fros (r0.mono s'.fs))
    | nx z =>
      rw [← z] at post'
      intro σ' F' H' A' w' s' n' p'
      exact post' .non F' H' [] [] (WF.none w'.sub) (s'.perm (fun a => Iff.rfl) (by simp)) (.fro .non) (Owns.fros (r0.mono s'.fs))
    | ex z =>
      rw [← z] at post'
      intro σ' F' H' A' w' s' n' p'
      exact post' F' H' [] (WF.none w'.sub) (s'.perm (fun a => Iff.rfl) (by simp)) (Owns.fros (r0.mono s'.fs))
end
end G

namespace G
open PySem PySem.Spec PyProof.Rows L2
open PySem.W (Datum DatumOrd Tup T3)
open Enc (enc)

/-! ### one reading for all states -/
def tAnyB (S : Sig) (ss : List Stmt) : TS := fun D σ H => ∃ t, (∀ q, S.Ok q → PSs (S.cx q) ss t) ∧ t D σ H
def tAnyT (S : Sig) (e : Expr) : TT := fun σ H Q => ∃ t, (∀ q, S.Ok q → PT (S.cx q) e t) ∧ t σ H Q
def tAnyE (S : Sig) (e : Expr) : TE := fun σ H Q => ∃ t, (∀ q, S.Ok q → PE (S.cx q) e t) ∧ t σ H Q
theorem pss_any {S : Sig} {q : Rest} (ok : S.Ok q) (ss : List Stmt) : PSs (S.cx q) ss (tAnyB S ss) := ⟨fun pins s σ H D I ⟨t, h, z⟩ => (h q ok).run pins s σ H D I z⟩
theorem pt_any {S : Sig} {q : Rest} (ok : S.Ok q) (e : Expr) : PT (S.cx q) e (tAnyT S e) := ⟨fun pins s σ H Q I ⟨t, h, z⟩ => (h q ok).run pins s σ H Q I z⟩
theorem pe_any {S : Sig} {q : Rest} (ok : S.Ok q) (e : Expr) : PE (S.cx q) e (tAnyE S e) := ⟨fun pins s σ H Q I ⟨t, h, z⟩ => (h q ok).run pins s σ H Q I z⟩
section
variable {S : Sig} {ρ ρ1 : Env} {a b c e it tg : Expr} {d d1 d2 d3 : D} {ds : List D} {pos p2 : Pos} {pin : List Nat} {es : List Expr} {st : Stmt} {ss body : List Stmt} {r : RS} {x : Str}
theorem XB.any (h : XB S pin ρ ss r) : ES S pin (tAnyB S ss) ρ r := let ⟨t, h1, h2⟩ := h; fun σ F H A D w n q => ⟨t, h1, h2 σ F H A D w n q⟩
theorem XT.any {k : Bool} (h : XT S ρ e k) : ET S (tAnyT S e) ρ k := let ⟨t, h1, h2⟩ := h; fun σ F H A D w n q => ⟨t, h1, h2 σ F H A D w n q⟩

/-! ### what is walked -/
/-- the i-th thing that comes is ds[i]; all the while what is frozen stands -/
structure Src (K : PySem.W.Frag) (J : It) (F : Hp) (ds : List D) : Prop where
  h : ∃ (G : Hp → Prop) (Y : Nat → Hp → V → Hp → Prop), Walk J ds.length G Y ∧ (∀ H2, Ext F H2 → G H2) ∧
    ∀ i H2 x H3 F2, i < ds.length → Ext F F2 → Ext F2 H2 → Y i H2 x H3 → ∃ F3 d, ds[i]? = some d ∧ Grow F2 H2 F3 H3 ∧ Rep K F3 x d
def XI (S : Sig) (ρ : Env) (tg it : Expr) (ds : List D) : Prop := ∃ wi : TI, (∀ q, S.Ok q → PI (S.cx q) tg it wi) ∧
  ∀ (σ : L2.St) (F H : Hp) (A : List Addr) (R : It → Hp → Prop), WF F H A → Envs S.K F H σ ρ A → (∀ J F' H', Grow F H F' H' → Src S.K J F' ds → R J H') → wi σ H R
theorem src_at {K : PySem.W.Frag} {F : Hp} {J : It} {xs : List V} {G : Hp → Prop} (r : Reps K F xs ds) (w : Walk J xs.length G (YAt xs)) (g : ∀ H2, Ext F H2 → G H2) : Src K J F ds := by
  refine ⟨G, YAt xs, by rw [← r.length]; exact w, g, fun i H2 x H3 F2 hi e e2 y => ?_⟩
  obtain ⟨rfl, hx⟩ := y
  obtain ⟨d, h1, h2⟩ := r.get' hx
  exact ⟨F2, d, h1, Grow.refl e2, h2.mono e⟩
theorem xi_lst (h : XP S ρ it (.ok (.lst ds))) : XI S ρ tg it ds := by
  obtain ⟨t, h1, h2⟩ := h
  refine ⟨iList S.K t, fun q ok => pi_list (h1 q ok), fun σ F H A R w n k => h2 σ F H A _ w n fun v F1 H1 g r => ?_⟩
  cases r with
  | lst hl r => exact ⟨_, rfl, ⟨_, .of (g.ext _ _ hl)⟩, k _ F1 H1 g (src_at r walk_list fun H2 e => .of (e _ _ hl))⟩
theorem xi_tup (h : XP S ρ it (.ok (.tup ds))) : XI S ρ tg it ds := by
  obtain ⟨t, h1, h2⟩ := h
  refine ⟨iTup S.K t, fun q ok => pi_tup (h1 q ok), fun σ F H A R w n k => h2 σ F H A _ w n fun v F1 H1 g r => ?_⟩
  cases r with
  | tup hl r => exact ⟨_, rfl, ⟨_, .of (g.ext _ _ hl)⟩, k _ F1 H1 g (src_at r walk_tup fun H2 e => .of (e _ _ hl))⟩
/-- lo, lo + 1, .., below hi -/
def rng (lo hi : Int) : List Int := (List.range (hi - lo).toNat).map fun i => lo + (i : Nat)
theorem rng_len (lo hi : Int) : (rng lo hi).length = (hi - lo).toNat := by unfold rng; simp
theorem rng_get {lo hi : Int} {i : Nat} (h : i < (hi - lo).toNat) : (rng lo hi)[i]? = some (lo + (i : Nat)) := by unfold rng; simp [h]
theorem src_rng {K : PySem.W.Frag} {F : Hp} {lo hi : Int} : Src K (Itr lo (hi - lo).toNat) F ((rng lo hi).map D.int) := by
  refine ⟨_, _, by rw [List.length_map, rng_len]; exact walk_range, fun _ _ => trivial, fun i H2 x H3 F2 hh e e2 y => ?_⟩
  rw [List.length_map, rng_len] at hh
  obtain ⟨rfl, rfl⟩ := y
  exact ⟨F2, .int (lo + (i : Nat)), by rw [List.getElem?_map, rng_get hh]; rfl, Grow.refl e2, .int⟩
theorem xi_rng1 {hi : Int} (hm : S.mg "range" = none) (h : XP S ρ a (.ok (.int hi))) (hb : -(2 ^ 62) ≤ hi ∧ hi < 2 ^ 62) (hg : S.scope.names.lookup ("range" : Str) = some .globalImplicit := by rfl) (hs : ∀ env : PySem.Env, starEach [a] env = [(false, eval a env)] := by intro _; rfl) :
    XI S ρ tg (.Call (.Name "range" p2) [a] [] pos) ((rng 0 hi).map D.int) := by
  obtain ⟨t, h1, h2⟩ := xa_cons h xa_nil (fun env => hs env)
  refine ⟨_, fun q ok => pi_range1 (X := S.cx q) (show S.scope.names.lookup ("range" : Str) = some .globalImplicit from hg) hm (h1 q ok) (hs _), fun σ F H A R w n k => h2 σ F H A _ w n fun vs F1 H1 g rr => ?_⟩
  obtain ⟨v, rfl, r⟩ := reps1 rr
  cases r
  exact ⟨hi, rfl, hb.1, hb.2, k _ F1 H1 g (by have := src_rng (K := S.K) (F := F1) (lo := 0) (hi := hi); rw [Int.sub_zero] at this; exact this)⟩
theorem xi_rng2 {lo hi : Int} (hm : S.mg "range" = none) (h : XP S ρ a (.ok (.int lo))) (h' : XP S ρ b (.ok (.int hi))) (hb : -(2 ^ 62) ≤ lo ∧ lo < 2 ^ 62 ∧ -(2 ^ 62) ≤ hi ∧ hi < 2 ^ 62) (hg : S.scope.names.lookup ("range" : Str) = some .globalImplicit := by rfl)
    (hs : ∀ env : PySem.Env, starEach [a, b] env = [(false, eval a env), (false, eval b env)] := by intro _; rfl) (hs2 : ∀ env : PySem.Env, starEach [b] env = [(false, eval b env)] := by intro _; rfl) : XI S ρ tg (.Call (.Name "range" p2) [a, b] [] pos) ((rng lo hi).map D.int) := by
  obtain ⟨t, h1, h2⟩ := xa_cons h (xa_cons h' xa_nil (fun env => hs2 env)) (fun env => by rw [hs env, hs2 env])
  refine ⟨_, fun q ok => pi_range2 (X := S.cx q) (show S.scope.names.lookup ("range" : Str) = some .globalImplicit from hg) hm (h1 q ok) (hs _) (hs2 _), fun σ F H A R w n k => h2 σ F H A _ w n fun vs F1 H1 g rr => ?_⟩
  obtain ⟨v, u, rfl, r, r2⟩ := reps2 rr
  cases r; cases r2
  exact ⟨lo, hi, rfl, hb, k _ F1 H1 g src_rng⟩
/-- sign by sign -/
theorem xi_tx {t : Tx} (h : XP S ρ it (.ok (enc t))) : XI S ρ tg it (t.l.map fun c => enc (⟨[c]⟩ : Tx)) := by
  obtain ⟨u, h1, h2⟩ := h
  refine ⟨_, fun q ok => pi_str (h1 q ok), fun σ F H A R w n k => h2 σ F H A _ w n fun v F1 H1 g r => ?_⟩
  cases r
  refine ⟨_, rfl, k _ F1 H1 g ⟨_, _, by rw [List.length_map, ← Tx.len]; exact walk_str, fun _ _ => trivial, fun i H2 x H3 F2 hh e e2 y => ?_⟩⟩
  obtain ⟨rfl, c, hc, rfl⟩ := y
  have hc' : (t.l.map Char.toNat)[i]? = some c := by
    have : (t.l.map Char.toNat).toArray[i]? = some c := hc
    simpa using this
  rw [List.getElem?_map] at hc'
  cases z : t.l[i]? with
  | none => rw [z] at hc'; cases hc'
  | some ch =>
    rw [z] at hc'
    cases hc'
    exact ⟨F2, enc (⟨[ch]⟩ : Tx), by rw [List.getElem?_map, z]; rfl, Grow.refl e2, .str⟩
/-- pairs, new each time -/
theorem src_pair {K : PySem.W.Frag} {F : Hp} {J : It} {xs ys : Nat → Option V} {G : Hp → Prop} {n : Nat} (hn : n = ds.length) (w : Walk J n G (YPair xs ys)) (g : ∀ H2, Ext F H2 → G H2)
    (r : ∀ i x y, i < n → xs i = some x → ys i = some y → ∃ d1 d2, ds[i]? = some (.tup [d1, d2]) ∧ Rep K F x d1 ∧ Rep K F y d2) : Src K J F ds := by
  subst hn
  refine ⟨G, YPair xs ys, w, g, fun i H2 x H3 F2 hi e e2 y => ?_⟩
  obtain ⟨T, u, v, rfl, nT, rfl, hu, hv⟩ := y
  obtain ⟨d1, d2, h1, h2, h3⟩ := r i u v hi hu hv
  have gr : Grow F2 H2 (upd F2 T (.tup [u, v])) (upd H2 T (.tup [u, v])) := Grow.new e2 nT
  exact ⟨_, _, h1, gr, .tup upd_same (.cons ((h2.mono e).mono gr.stp.fs) (.cons ((h3.mono e).mono gr.stp.fs) .nil))⟩
def enumL {α : Type} (xs : List α) : List (Int × α) := (List.range xs.length).zip xs |>.map fun p => (((p.1 : Nat) : Int), p.2)
theorem enumL_len {α : Type} (xs : List α) : (enumL xs).length = xs.length := by unfold enumL; simp
theorem enumL_get {α : Type} {xs : List α} {i : Nat} {x : α} (h : xs[i]? = some x) : (enumL xs)[i]? = some (((i : Nat) : Int), x) := by
  have hi : i < xs.length := (List.getElem?_eq_some_iff.mp h).1
  unfold enumL
  have e : ((List.range xs.length).zip xs)[i]? = some (i, x) := List.getElem?_zip_eq_some.mpr ⟨by rw [List.getElem?_range hi], h⟩
  rw [List.getElem?_map, e]
  rfl
theorem xi_enum {elts : List Expr} {kk : Nat} {tpos : Pos} {α : Type} {f : α → D} {xs : List α} (hm : S.mg "enumerate" = none) (h : XP S ρ a (.ok (.lst (xs.map f)))) (hg : S.scope.names.lookup ("enumerate" : Str) = some .globalImplicit := by rfl) (hs : ∀ env : PySem.Env, starEach [a] env = [(false, eval a env)] := by intro _; rfl) :
    XI S ρ (.Tuple elts kk tpos) (.Call (.Name "enumerate" p2) [a] [] pos) ((enumL xs).map fun p => .tup [.int p.1, f p.2]) := by
  obtain ⟨t, h1, h2⟩ := xa_cons h xa_nil (fun env => hs env)
  refine ⟨iEnum S.K t, fun q ok => pi_enum (X := S.cx q) (show S.scope.names.lookup ("enumerate" : Str) = some .globalImplicit from hg) hm (h1 q ok) (hs _), fun σ F H A R w n k => h2 σ F H A _ w n fun vs F1 H1 g rr => ?_⟩
  obtain ⟨v, rfl, r⟩ := reps1 rr
  cases r with
  | lst hl r =>
    have len := r.length
    rw [List.length_map] at len
    refine ⟨_, _, rfl, .of (g.ext _ _ hl), k _ F1 H1 g (src_pair (by rw [List.length_map, enumL_len, len]) walk_enum (fun H2 e => .of (e _ _ hl)) fun i u v hi hu hv => ?_)⟩
    cases hu
    obtain ⟨d, e1, e2⟩ := r.get' hv
    rw [List.getElem?_map] at e1
    cases z : xs[i]? with
    | none => rw [z] at e1; cases e1
    | some y =>
      rw [z] at e1
      cases e1
      exact ⟨_, _, by rw [List.getElem?_map, enumL_get z]; rfl, .int, e2⟩
theorem xi_zip {elts : List Expr} {kk : Nat} {tpos : Pos} {α β : Type} {f : α → D} {f' : β → D} {xs : List α} {ys : List β} (hm : S.mg "zip" = none) (h : XP S ρ a (.ok (.lst (xs.map f)))) (h' : XP S ρ b (.ok (.lst (ys.map f')))) (hg : S.scope.names.lookup ("zip" : Str) = some .globalImplicit := by rfl)
    (hs : ∀ env : PySem.Env, starEach [a, b] env = (false, eval a env) :: starEach [b] env := by intro _; rfl) (hs2 : ∀ env : PySem.Env, starEach [b] env = (false, eval b env) :: starEach [] env := by intro _; rfl) (hpl : ∀ env : PySem.Env, (backTo pos (starEach [b] env)).any (·.1) = false := by intro _; rfl) :
    XI S ρ (.Tuple elts kk tpos) (.Call (.Name "zip" p2) [a, b] [] pos) ((xs.zip ys).map fun p => .tup [f p.1, f' p.2]) := by
  obtain ⟨t, h1, h2⟩ := xa_cons h (xa_cons h' xa_nil hs2) hs
  refine ⟨iZip S.K t, fun q ok => pi_zip (X := S.cx q) (show S.scope.names.lookup ("zip" : Str) = some .globalImplicit from hg) hm (h1 q ok) (hs _) (hpl _), fun σ F H A R w n k => h2 σ F H A _ w n fun vs F1 H1 g rr => ?_⟩
  obtain ⟨v, u, rfl, r, r2⟩ := reps2 rr
  cases r with
  | lst hl r =>
    cases r2 with
    | lst hl2 r2 =>
      have len := r.length
      have len2 := r2.length
      rw [List.length_map] at len len2
      refine ⟨_, _, _, _, rfl, .of (g.ext _ _ hl), .of (g.ext _ _ hl2), k _ F1 H1 g (src_pair (n := min xs.length ys.length) (by simp) (walk_zip (by rw [len, len2])) (fun H2 e => ⟨.of (e _ _ hl), .of (e _ _ hl2)⟩) fun i u v hi hu hv => ?_)⟩
      obtain ⟨d, e1, e2⟩ := r.get' hu
      obtain ⟨d', e1', e2'⟩ := r2.get' hv
      rw [List.getElem?_map] at e1 e1'
      cases z : xs[i]? with
      | none => rw [z] at e1; cases e1
      | some y =>
        rw [z] at e1
        cases e1
        cases z' : ys[i]? with
        | none => rw [z'] at e1'; cases e1'
        | some y' =>
          rw [z'] at e1'
          cases e1'
          exact ⟨_, _, by rw [List.getElem?_map, (List.getElem?_zip_eq_some (z := (y, y'))).mpr ⟨z, z'⟩]; rfl, e2, e2'⟩

/-! ### for -/
inductive LO (σ β : Type) where
  | nx (s : σ) | bk (s : σ) | rt (b : β)
def LO.rs {σ β : Type} (R : σ → Env) (fr : β → RS) : LO σ β → RS
  | .nx s => .nx (R s)
  | .bk s => .bk (R s)
  | .rt b => fr b
/-- what ends the def -/
def Term : RS → Prop
  | .rt _ _ => True
  | .ex _ _ => True
  | _ => False
/-- the loop over xs -/
def forL {α σ β : Type} (f : σ → α → LO σ β) : List α → σ → LO σ β
  | [], s => .nx s
  | x :: xs, s => match f s x with
    | .nx s' => forL f xs s'
    | .bk s' => .nx s'
    | .rt b => .rt b
theorem xs_for [Calm S] {α σ β : Type} (xs : List α) (g : α → D) (R : σ → Env) (f : σ → α → LO σ β) (fr : β → RS) (I : Nat → σ → Prop) {tgt : TG} (ρb : σ → α → Env) (s0 : σ)
    (hi : XI S (R s0) tg it (xs.map g)) (hg : ∀ q, S.Ok q → PG (S.cx q) tg tgt) (hG : ∀ s x, EG S pin tgt (R s) (g x) (ρb s x)) (h0 : I 0 s0) (hfr : ∀ b, Term (fr b))
    (hb : ∀ i s x, xs[i]? = some x → I i s → XB S pin (ρb s x) body ((f s x).rs R fr) ∧ ∀ s', f s x = .nx s' → I (i + 1) s')
    (hs : ∀ (env : PySem.Env) (x : Value), foldedSetIterable it env x = pure x := by intro _ _; rfl) : XS S pin (R s0) (.For tg it body [] pos) ((forL f xs s0).rs R fr) := by
  obtain ⟨wi, i1, i2⟩ := hi
  refine ⟨_, fun q ok => ps_for (X := S.cx q) ok.po Calm.h (i1 q ok) (hg q ok) (pss_any ok body) (hs _), fun σ F H A D w n post => i2 σ F H A _ w n fun J F1 H1 gr src => ?_⟩
  obtain ⟨G, Y, wk, hG1, hY⟩ := src.h
  rw [List.length_map] at wk hY
  have st1 : Stp F H A F1 H1 A := (gr.stp.mono (by simp)).more (C := A) fun a h => .inl h
  refine for_it wk (fun i σ' H' => ∃ F' A' s, WF F' H' A' ∧ Stp F H A F' H' A' ∧ Ext F1 F' ∧ Envs S.K F' H' σ' (R s) A' ∧ Pin pin σ σ' ∧ I i s ∧ forL f xs s0 = forL f (xs.drop i) s) ⟨F1, A, s0, gr.wf w, st1, Ext.refl _, gr.envs n, Pin.refl, h0, rfl⟩
    (fun i σ' H' hi ⟨F', A', s, w', s', e', _⟩ => hG1 H' (e'.trans w'.sub)) (fun i v σ' H' H'' hi ⟨F', A', s, w', s', e', n', p', hI, fe⟩ y => ?_) (fun σ' H' ⟨F', A', s, w', s', e', n', p', hI, fe⟩ => ?_)
  · obtain ⟨F2, d, hd, g2, rep⟩ := hY i H' v H'' F' hi e' w'.sub y
    rw [List.getElem?_map, List.getElem?_eq_getElem hi] at hd
    cases hd
    have hx : xs[i]? = some xs[i] := List.getElem?_eq_getElem hi
    have w2 := g2.wf w'
    have st2 : Stp F' H' A' F2 H'' A' := (g2.stp.mono (by simp)).more (C := A') fun a h => .inl h
    obtain ⟨hb1, hb2⟩ := hb i s xs[i] hx hI
    refine hG s xs[i] σ' F2 H'' A' v _ w2 (g2.envs n') rep fun σ3 A3 w3 m3 n3 p3 => ?_
    have st3 : Stp F H A F2 H'' A3 := (s'.trans st2).perm (fun a => Iff.rfl) m3
    have e3 : forL f xs s0 = (match f s xs[i] with
        | .nx s' => forL f (xs.drop (i + 1)) s'
        | .bk s' => .nx s'
        | .rt b => .rt b) := by
      rw [fe, List.drop_eq_getElem_cons hi]
      rfl
    refine hb1.any σ3 F2 H'' A3 _ w3 n3 ?_
    cases ef : f s xs[i] with
    | nx s2 =>
      rw [ef] at e3
      intro σ4 F4 H4 A4 w4 s4 n4 p4
      exact ⟨F4, A4, s2, w4, st3.trans s4, (e'.trans g2.stp.fs).trans s4.fs, n4, (p'.trans p3).trans p4, hb2 s2 ef, e3⟩
    | bk s2 =>
      rw [ef] at e3
      rw [e3] at post
      intro σ4 F4 H4 A4 w4 s4 n4 p4
      exact post σ4 F4 H4 A4 w4 (st3.trans s4) n4 ((p'.trans p3).trans p4)
    | rt b =>
      rw [ef] at e3
      rw [e3] at post
      have post' : EPost S pin D σ F H A (fr b) := post
      have tm := hfr b
      show EPost S pin _ σ3 F2 H'' A3 (fr b)
      cases ec : fr b with
      | nx _ => rw [ec] at tm; exact tm.elim
      | bk _ => rw [ec] at tm; exact tm.elim
      | ct _ => rw [ec] at tm; exact tm.elim
      | rt o ρ' =>
        rw [ec] at post'
        intro u σ4 F4 H4 B A4 w4 s4 ow n4 p4
        exact post' u σ4 F4 H4 B A4 w4 (st3.trans s4) ow n4 ((p'.trans p3).trans p4)
      | ex y ρ' =>
        rw [ec] at post'
        intro σ4 F4 H4 A4 w4 s4 n4 p4
        exact post' σ4 F4 H4 A4 w4 (st3.trans s4) n4 ((p'.trans p3).trans p4)
  · rw [List.drop_length] at fe
    rw [fe] at post
    exact post σ' F' H' A' w' s' n' p'

/-! ### while -/
def whL {σ β : Type} (c : σ → Bool) (f : σ → LO σ β) : Nat → σ → Option (LO σ β)
  | 0, _ => none
  | n + 1, s => if c s = true then (match f s with
    | .nx s' => whL c f n s'
    | .bk s' => some (.nx s')
    | .rt b => some (.rt b)) else some (.nx s)
theorem xs_while {σ β : Type} {cond : Expr} (R : σ → Env) (c : σ → Bool) (f : σ → LO σ β) (fr : β → RS) (I : σ → Prop) (s0 : σ) (n : Nat) {o : LO σ β} (ho : whL c f n s0 = some o) (h0 : I s0) (hfr : ∀ b, Term (fr b))
    (hc : ∀ s, I s → XT S (R s) cond (c s)) (hb : ∀ s, I s → c s = true → XB S pin (R s) body ((f s).rs R fr) ∧ ∀ s', f s = .nx s' → I s') : XS S pin (R s0) (.While cond body [] pos) (o.rs R fr) := by
  refine ⟨_, fun q ok => ps_while (X := S.cx q) ok.po (pt_any ok cond) (pss_any ok body), fun σ F H A D w nv post => ?_⟩
  refine ⟨fun m σ' H' => ∃ F' A' s, WF F' H' A' ∧ Stp F H A F' H' A' ∧ Envs S.K F' H' σ' (R s) A' ∧ Pin pin σ σ' ∧ I s ∧ whL c f m s = some o, ⟨n, F, A, s0, w, Stp.refl, nv, Pin.refl, h0, ho⟩, ?_⟩
  rintro m σ' H' ⟨F', A', s, w', s', n', p', hI, fe⟩
  cases m with
  | zero => cases fe
  | succ m =>
    refine (hc s hI).any σ' F' H' A' _ w' n' fun F2 H2 g => ?_
    have w2 := g.wf w'
    have n2 := g.envs n'
    have st2 : Stp F H A F2 H2 A' := s'.trans ((g.stp.mono (by simp)).more (C := A') fun a h => .inl h)
    unfold whL at fe
    cases ec : c s with
    | false =>
      rw [ec, if_neg (by simp)] at fe
      cases fe
      rw [if_neg (by simp)]
      exact post σ' F2 H2 A' w2 st2 n2 p'
    | true =>
      rw [ec, if_pos rfl] at fe
      rw [if_pos rfl]
      obtain ⟨hb1, hb2⟩ := hb s hI ec
      refine ⟨fun σ'' H'' => ∃ F' A' s, WF F' H'' A' ∧ Stp F H A F' H'' A' ∧ Envs S.K F' H'' σ'' (R s) A' ∧ Pin pin σ σ'' ∧ I s ∧ whL c f m s = some o, fun σ'' H'' h => ⟨m, Nat.lt_succ_self m, h⟩, ?_⟩
      refine hb1.any σ' F2 H2 A' _ w2 n2 ?_
      cases ef : f s with
      | nx s2 =>
        rw [ef] at fe
        intro σ4 F4 H4 A4 w4 s4 n4 p4
        exact ⟨F4, A4, s2, w4, st2.trans s4, n4, p'.trans p4, hb2 s2 ef, fe⟩
      | bk s2 =>
        rw [ef] at fe
        cases fe
        intro σ4 F4 H4 A4 w4 s4 n4 p4
        exact post σ4 F4 H4 A4 w4 (st2.trans s4) n4 (p'.trans p4)
      | rt b =>
        rw [ef] at fe
        cases fe
        have post' : EPost S pin D σ F H A (fr b) := post
        have tm := hfr b
        show EPost S pin _ σ' F2 H2 A' (fr b)
        cases ec : fr b with
        | nx _ => rw [ec] at tm; exact tm.elim
        | bk _ => rw [ec] at tm; exact tm.elim
        | ct _ => rw [ec] at tm; exact tm.elim
        | rt o ρ' =>
          rw [ec] at post'
          intro u σ4 F4 H4 B A4 w4 s4 ow n4 p4
          exact post' u σ4 F4 H4 B A4 w4 (st2.trans s4) ow n4 (p'.trans p4)
        | ex y ρ' =>
          rw [ec] at post'
          intro σ4 F4 H4 A4 w4 s4 n4 p4
          exact post' σ4 F4 H4 A4 w4 (st2.trans s4) n4 (p'.trans p4)
end
end G

namespace G
open PySem PySem.Spec PyProof.Rows L2
open PySem.W (Datum DatumOrd Tup T3)
open Enc (enc)

/-! ### new and owned, nothing else changed -/
def EN (S : Sig) (t : TE) (ρ : Env) (o : O) : Prop := ∀ (σ : L2.St) (F H : Hp) (A : List Addr) (Q : VK), WF F H A → Envs S.K F H σ ρ A →
  (∀ v F' H' B, Stp F H [] F' H' B → WF F' H' B → Own S.K F' H' v o B → Q v H') → t σ H Q
def XN (S : Sig) (ρ : Env) (e : Expr) (o : O) : Prop := ∃ t, (∀ q, S.Ok q → PE (S.cx q) e t) ∧ EN S t ρ o
section
variable {S : Sig} {ρ ρ1 : Env} {a b c e it tg elt : Expr} {d d1 d2 d3 : D} {ds : List D} {pos p2 : Pos} {pin : List Nat} {es : List Expr} {o : O}
theorem EN.p {t : TE} (h : EN S t ρ o) : EP S t ρ (.ok o.d) := fun σ F H A Q w n q => h σ F H A Q w n fun v F' H' B s w' ow => by
  have w0 : WF F' H' (B ++ []) := by rw [List.append_nil]; exact w'
  have s3 := frz_stp w0
  have s' : Stp F H [] F' H' (B ++ []) := by rw [List.append_nil]; exact s
  exact q v (frz F' H' B) H' ⟨s'.trans s3, (frz_wf w0).sub⟩ (ow.frz (S := B) s3.fs fun _ h => h)
theorem XN.p (h : XN S ρ e o) : XP S ρ e (.ok o.d) := let ⟨t, h1, h2⟩ := h; ⟨t, h1, h2.p⟩
theorem beside {K : PySem.W.Frag} {σ : L2.St} {F H F' H' : Hp} {A B : List Addr} (w : WF F H A) (n : Envs K F H σ ρ A) (s : Stp F H [] F' H' B) (w' : WF F' H' B) : WF F' H' (B ++ A) ∧ Stp F H A F' H' (B ++ A) ∧ Envs K F' H' σ ρ A := by
  have nB : ∀ b ∈ B, H b = none := fun b hb => (s.foot b hb).elim (fun z => nomatch z) id
  refine ⟨⟨w'.sub, ?_, ?_, ?_⟩, (s.mono (by simp)).more fun a h => .inl h, n.mono s.fs (S := A) (fun a o h _ => s.keep a o h (by simp)) fun _ h => h⟩
  · refine List.nodup_append.mpr ⟨w'.nd, w.nd, fun x hx y hy e => ?_⟩
    subst e
    exact w.on x hy (imm_none (nB x hx))
  · intro x hx
    rcases List.mem_append.mp hx with hx | hx
    · exact w'.off x hx
    · cases z : F' x with
      | none => rfl
      | some o =>
        rcases s.new x o z with z | z | z
        · rw [w.off x hx] at z; cases z
        · cases z
        · exact absurd z (w.on x hx)
  · intro x hx
    rcases List.mem_append.mp hx with hx | hx
    · exact w'.on x hx
    · exact s.held (by simp) (w.on x hx)
theorem EN.x {t : TE} (h : EN S t ρ o) : EX S t ρ (.ok o ρ) := fun σ F H A Q w n q => h σ F H A Q w n fun v F' H' B s w' ow => by
  obtain ⟨w2, s2, n2⟩ := beside w n s w'
  exact q v F' H' B A w2 s2 ow n2
theorem XN.x (h : XN S ρ e o) : XX S ρ e (.ok o ρ) := let ⟨t, h1, h2⟩ := h; ⟨t, h1, h2.x⟩

/-! ### slots wiped -/
def wipeE (ρ : Env) : List Nat → Env
  | [] => ρ
  | v :: vs => (wipeE ρ vs).set v none
theorem Envs.wipe {K : PySem.W.Frag} {σ : L2.St} {F H : Hp} {A : List Addr} (w : WF F H A) (n : Envs K F H σ ρ A) : ∀ vs : List Nat, ∃ A', Envs K F H (L2.wipe σ vs) (wipeE ρ vs) A' ∧ WF F H A' ∧ ∀ a ∈ A', a ∈ A
  | [] => ⟨A, n, w, fun _ h => h⟩
  | v :: vs => by
    obtain ⟨A1, n1, w1, m1⟩ := Envs.wipe w n vs
    obtain ⟨B, A2, n2, p2⟩ := n1.drop v
    refine ⟨A2, ?_, (w1.perm p2).right, fun a h => m1 a (p2.mem_iff.mpr (List.mem_append_right _ h))⟩
    show Envs K F H ((L2.wipe σ vs).set v none) ((wipeE ρ vs).set v none) A2
    by_cases hv : v < (wipeE ρ vs).length
    · exact n2.any (by rw [List.getElem?_set_self hv])
    · have hl := n2.length
      rw [List.length_set] at hl
      rw [List.set_eq_of_length_le (l := L2.wipe σ vs) (by omega)]
      exact n2

/-! ### a comprehension -/
def relS (scope sc : Scope) : Scope := { scope with names := scope.names.map fun (n, k) => if (k == .free && sc.kind == .function && sc.names.lookup n == some .cell) then (n, .cell) else (n, k) }
/-- where its block stands -/
@[reducible] def Sig.blk (S : Sig) (scope : Scope) : Sig := { S with scope := relS scope S.scope, wx := fun _ _ _ _ => False, st := fun x => scope.names.lookup x == some .cell, hot := none, top := false }
instance {S : Sig} {scope : Scope} [Calm S] : Calm (S.blk scope) := ⟨(Calm.h : S.calm = true)⟩
theorem blk_cx (S : Sig) (q : Rest) (ok : S.Ok q) (scope : Scope) (s : Shared) (H : Hp) (C : Addr) (cl : List (Str × Addr)) (fp : List Addr) :
    ∃ q', (S.blk scope).Ok q' ∧ (S.blk scope).cx q' = (S.cx q).blk s H scope (compEnvC scope cl C (S.cx q).env) fp := by
  refine ⟨⟨q.A, s, H, compEnvC scope cl C (S.cx q).env, (S.cx q).stack, q.stack, fp, fun x => scope.names.lookup x == some .cell, [], fun _ _ => False⟩, ⟨ok.room, ok.hd, (fun _ _ z => nomatch z), (fun z => nomatch z), (fun _ _ ⟨_, _, _, _, _, _, _, _, _, _, _, _, _, _, _, _, z⟩ => z), fun _ h => h, ok.nd, PassesOwn.never⟩, rfl⟩
/-- the tests of a clause -/
def XTs (S : Sig) (ρ : Env) (ifs : List Expr) (b : Bool) : Prop := ∃ t, (∀ q, S.Ok q → PTs (S.cx q) ifs t) ∧ ET S t ρ b
theorem xts_nil : XTs S ρ [] true := ⟨_, fun _ _ => pts_nil, fun σ F H A Q w n q => q F H (Grow.refl w.sub)⟩
theorem xts_one {k : Bool} (h : XT S ρ c k) : XTs S ρ [c] k := let ⟨t, h1, h2⟩ := h; ⟨t, fun q ok => pts_one (h1 q ok), h2⟩
def tAnyTs (S : Sig) (es : List Expr) : TT := fun σ H Q => ∃ t, (∀ q, S.Ok q → PTs (S.cx q) es t) ∧ t σ H Q
theorem pts_any {q : Rest} (ok : S.Ok q) (es : List Expr) : PTs (S.cx q) es (tAnyTs S es) := ⟨fun pins s σ H Q I ⟨t, h, z⟩ => (h q ok).run pins s σ H Q I z⟩
/-- what a target stores lies within own -/
def TgOwn (g : TG) (own : List Nat) : Prop := ∀ v σ H Q, g v σ H Q → g v σ H fun σ' H' => L2.wipe σ' own = L2.wipe σ own ∧ Q σ' H'
theorem wipe_set {σ : L2.St} {x : Option V} {i : Nat} : ∀ {vs : List Nat}, i ∈ vs → L2.wipe (σ.set i x) vs = L2.wipe σ vs
  | [], h => nomatch h
  | v :: vs, h => by
    show (L2.wipe (σ.set i x) vs).set v none = (L2.wipe σ vs).set v none
    by_cases hi : i ∈ vs
    · rw [wipe_set hi]
    · have e : i = v := (List.mem_cons.mp h).resolve_right hi
      subst e
      have comm : ∀ vs : List Nat, i ∉ vs → L2.wipe (σ.set i x) vs = (L2.wipe σ vs).set i x := by
        intro vs
        induction vs with
        | nil => intro _; rfl
        | cons u us ih =>
          intro hn
          have h1 : i ≠ u := fun e => hn (by simp [e])
          have h2 : i ∉ us := fun e => hn (by simp [e])
          show (L2.wipe (σ.set i x) us).set u none = ((L2.wipe σ us).set u none).set i x
          rw [ih h2, List.set_comm _ _ h1]
      rw [comm vs hi, List.set_set]
theorem to_name {i : Nat} {own : List Nat} (h : i ∈ own := by decide) : TgOwn (gName i) own := fun v σ H Q q => ⟨wipe_set h, q⟩
def TgsOwn (g : TGs) (own : List Nat) : Prop := ∀ vs σ H Q, g vs σ H Q → g vs σ H fun σ' H' => L2.wipe σ' own = L2.wipe σ own ∧ Q σ' H'
theorem tos_nil {own : List Nat} : TgsOwn gNil own := fun vs σ H Q ⟨e, q⟩ => ⟨e, rfl, q⟩
theorem tos_cons {i : Nat} {u : TGs} {own : List Nat} (h : i ∈ own) (h' : TgsOwn u own) : TgsOwn (gCons (gName i) u) own := fun vs σ H Q ⟨v, r, e, q⟩ => by
  refine ⟨v, r, e, ?_⟩
  have q1 := h' r _ H Q q
  have e1 : L2.wipe (σ.set i (some v)) own = L2.wipe σ own := wipe_set h
  rw [e1] at q1
  exact q1
theorem to_tup {u : TGs} {own : List Nat} {n : Nat} (h : TgsOwn u own) : TgOwn (gTup S.K n u) own := fun v σ H Q ⟨a, xs, e, ht, hn, q⟩ => ⟨a, xs, e, ht, hn, h xs σ H Q q⟩
theorem wipe_wipe {σ : L2.St} : ∀ {vs : List Nat} (ws : List Nat), (∀ v ∈ vs, v ∈ ws) → L2.wipe (L2.wipe σ vs) ws = L2.wipe σ ws
  | [], ws, _ => rfl
  | v :: vs, ws, h => by
    show L2.wipe ((L2.wipe σ vs).set v none) ws = L2.wipe σ ws
    rw [wipe_set (h v (by simp)), wipe_wipe ws fun u hu => h u (by simp [hu])]
theorem lc_own {J : It} {n : Nat} {G : Hp → Prop} {Y : Nat → Hp → V → Hp → Prop} (w : Walk J n G Y) {g : TG} {tt : TT} {te : TE} {vs : List Nat} {σ : L2.St} {H1 : Hp} {D : Addr} {Qd : Hp → Prop} (ho : TgOwn g vs) (Pv : Nat → Hp → Prop) (h0 : Pv 0 (upd H1 D (.lst []))) (hG : ∀ i H, i ≤ n → Pv i H → G H)
    (hs : ∀ i x H H', i < n → Pv i H → Y i H x H' → g x (L2.wipe σ vs) H' fun σ2 H2 => tt σ2 H2 fun b H3 =>
      if b = true then te σ2 H3 fun y H4 => ∃ acc, H4 D = some (.lst acc) ∧ acc.length < sizeLine ∧ Pv (i + 1) (upd H4 D (.lst (acc ++ [y]))) else Pv (i + 1) H3) (hd : ∀ H, Pv n H → Qd H) :
    ∃ W : Nat → Nat → Hp → Prop, (∃ m, W 0 m (upd H1 D (.lst []))) ∧ ∀ i m H, W i m H →
      (J.stop i H ∧ Qd H) ∨ (J.go i H ∧ ∃ Nx : Hp → Prop, (∀ H', Nx H' → ∃ m', m' < m ∧ W (i + 1) m' H') ∧ ∀ x H', J.yld i H x H' → g x (L2.wipe σ vs) H' fun σ2 H2 => L2.wipe σ2 vs = L2.wipe σ vs ∧ tt σ2 H2 fun b H3 =>
        if b = true then te σ2 H3 fun y H4 => ∃ acc, H4 D = some (.lst acc) ∧ acc.length < sizeLine ∧ Nx (upd H4 D (.lst (acc ++ [y]))) else Nx H3) :=
  lc_it w Pv h0 hG (fun i x H H' hi p y => by
    have z := ho _ _ _ _ (hs i x H H' hi p y)
    rw [wipe_wipe vs fun _ h => h] at z
    exact z) hd
theorem en_lc {α : Type} (xs : List α) (g : α → D) (p : α → Bool) (h : α → D) (own : List Nat) {wi : TI} {tgt : TG} {tt : TT} {te : TE} {S' : Sig} (hK : S'.K = S.K) (ρb : α → Env)
    (hi : ∀ (σ : L2.St) (F H : Hp) (A : List Addr) (R : It → Hp → Prop), WF F H A → Envs S.K F H σ ρ A → (∀ J F' H', Grow F H F' H' → Src S.K J F' (xs.map g) → R J H') → wi σ H R)
    (ho : TgOwn tgt own) (hG : ∀ x ∈ xs, EG S' [] tgt (wipeE ρ own) (g x) (ρb x)) (ht : ∀ x ∈ xs, ET S' tt (ρb x) (p x)) (he : ∀ x ∈ xs, p x = true → EP S' te (ρb x) (.ok (h x))) (hl : xs.length ≤ 1000000) :
    EN S (tLc wi tgt tt te own) ρ (.lst (((xs.filter p).map h).map O.fro)) := fun σ F H A Q w n q => hi σ F H A _ w n fun J F1 H1 gr src => by
  intro D hD
  obtain ⟨G, Y, wk, hG1, hY⟩ := src.h
  rw [List.length_map] at wk hY
  have w1 := gr.wf w
  obtain ⟨A1, n1, w2, m2⟩ := Envs.wipe w1 (gr.envs n) own
  have nDF : F1 D = none := by
    cases z : F1 D with
    | none => rfl
    | some u => rw [gr.ext D u z] at hD; cases hD
  refine lc_own wk ho (fun i H' => ∃ F' acc, WF F' H' [D] ∧ Stp F1 H1 [] F' H' [D] ∧ H' D = some (.lst acc) ∧ Reps S.K F' acc (((xs.take i).filter p).map h)) ?_ ?_ ?_ ?_
  · obtain ⟨s1, w3⟩ := Grow.own1 (o := .lst []) gr.ext hD
    exact ⟨F1, [], w3, s1, upd_same, .nil⟩
  · rintro i H' hi ⟨F', acc, w', s', hd, r'⟩
    exact hG1 H' (s'.fs.trans w'.sub)
  · rintro i v H' H'' hi ⟨F', acc, w', s', hd, r'⟩ y
    obtain ⟨F2, d, hd2, g2, rep⟩ := hY i H' v H'' F' hi s'.fs w'.sub y
    have hx : xs[i]? = some xs[i] := List.getElem?_eq_getElem hi
    have hm : xs[i] ∈ xs := List.getElem_mem hi
    rw [List.getElem?_map, hx] at hd2
    cases hd2
    -- the slots, the list made so far beside them
    have big : ∀ (F3 H3 : Hp), Grow F' H' F3 H3 → WF F3 H3 A1 ∧ Envs S.K F3 H3 (L2.wipe σ own) (wipeE ρ own) A1 ∧ H3 D = some (.lst acc) ∧ WF F3 H3 [D] := fun F3 H3 g3 => by
      obtain ⟨w5, s5, n5⟩ := beside w2 n1 s' w'
      have w6 := g3.wf w5
      exact ⟨w6.right, g3.envs n5, g3.hh _ _ hd, w6.left⟩
    have fin : ∀ (F3 H3 : Hp), Grow F' H' F3 H3 → H3 D = some (.lst acc) := fun F3 H3 g3 => g3.hh _ _ hd
    obtain ⟨w7, n7, _, _⟩ := big F2 H'' g2
    refine hG xs[i] hm (L2.wipe σ own) F2 H'' A1 v _ w7 (by rw [hK]; exact n7) (by rw [hK]; exact rep) fun σ3 A3 w8 m8 n8 p8 => ?_
    refine ht xs[i] hm σ3 F2 H'' A3 _ w8 n8 fun F4 H4 g4 => ?_
    have e1 : xs.take (i + 1) = xs.take i ++ [xs[i]] := by rw [List.take_add_one, hx]; rfl
    cases ep : p xs[i] with
    | false =>
      rw [if_neg (by simp)]
      obtain ⟨_, _, d4, w9⟩ := big F4 H4 (g2.trans g4)
      refine ⟨F4, acc, w9, s'.trans (((g2.trans g4).stp.mono (by simp) (A' := [D])).more (C := [D]) fun a h => .inl h), d4, ?_⟩
      rw [e1, List.filter_append, List.filter_cons_of_neg (by simp [ep]), List.filter_nil, List.append_nil]
      exact r'.mono (g2.trans g4).stp.fs
    | true =>
      rw [if_pos rfl]
      refine he xs[i] hm ep σ3 F4 H4 A3 _ (g4.wf w8) (g4.envs n8) fun y F5 H5 g5 r5 => ?_
      have g6 := (g2.trans g4).trans g5
      obtain ⟨_, _, d5, w9⟩ := big F5 H5 g6
      have rl := r'.length
      rw [List.length_map] at rl
      have rl2 := List.length_filter_le p (xs.take i)
      have rl3 : (xs.take i).length ≤ i := by rw [List.length_take]; omega
      refine ⟨acc, d5, line_lt (by omega), F5, acc ++ [y], ⟨?_, w9.nd, w9.off, ?_⟩, ?_, upd_same, ?_⟩
      · intro a u hu
        rw [upd_ne fun z => by rw [z, w9.off D (by simp)] at hu; cases hu]
        exact w9.sub a u hu
      · intro a ha
        rw [List.mem_singleton.mp ha, upd_same]
        exact fun z => z
      · have s6 : Stp F1 H1 [] F5 H5 [D] := s'.trans ((g6.stp.mono (by simp) (A' := [D])).more (C := [D]) fun a h => .inl h)
        refine ⟨s6.fs, fun a u hu _ => ?_, s6.new, s6.foot, fun a ha => ?_⟩
        · rw [upd_ne (ne_of_none hu hD)]
          exact s6.keep a u hu (by simp)
        · by_cases z : a = D
          · rw [z]; exact hD
          · rw [upd_ne z] at ha; exact s6.alive a ha
      · rw [e1, List.filter_append, List.filter_cons_of_pos ep, List.filter_nil, List.map_append]
        rw [hK] at r5
        exact (r'.mono g6.stp.fs).append (.cons r5 .nil)
  · rintro H' ⟨F', acc, w', s', hd, r'⟩
    rw [List.take_length] at r'
    exact q (.ref D) F' H' [D] (gr.stp.trans s') w' (.lst hd (Owns.fros r'))
section
variable {α : Type} (xs : List α) (g : α → D) (p : α → Bool) (h : α → D) (own : List (Str × Nat)) {scope : Scope} {tgt : TG} {ifs : List Expr} (ρb : α → Env)
theorem lc_of (hi : XI S ρ tg it (xs.map g)) (hg : ∀ q, (S.blk scope).Ok q → PG ((S.blk scope).cx q) tg tgt) (ho : TgOwn tgt (own.map (·.2)))
    (hG : ∀ x ∈ xs, EG (S.blk scope) [] tgt (wipeE ρ (own.map (·.2))) (g x) (ρb x)) (ht : ∀ x ∈ xs, XTs (S.blk scope) (ρb x) ifs (p x)) (he : ∀ x ∈ xs, p x = true → XP (S.blk scope) (ρb x) elt (.ok (h x))) (hl : xs.length ≤ 1000000) (bo : blkC S.N S.scope scope own = true)
    : ∃ (wi : TI) (tt : TT) (te : TE), (∀ q, S.Ok q → PI (S.cx q) tg it wi) ∧ (∀ q, S.Ok q → ∀ (s : Shared) (H : Hp) (C : Addr) (cl : List (Str × Addr)) (fp : List Addr), PG ((S.cx q).blk s H scope (compEnvC scope cl C (S.cx q).env) fp) tg tgt) ∧
      (∀ q, S.Ok q → ∀ (s : Shared) (H : Hp) (C : Addr) (cl : List (Str × Addr)) (fp : List Addr), PTs ((S.cx q).blk s H scope (compEnvC scope cl C (S.cx q).env) fp) ifs tt) ∧
      (∀ q, S.Ok q → ∀ (s : Shared) (H : Hp) (C : Addr) (cl : List (Str × Addr)) (fp : List Addr), PE ((S.cx q).blk s H scope (compEnvC scope cl C (S.cx q).env) fp) elt te) ∧
      EN S (tLc wi tgt tt te (own.map (·.2))) ρ (.lst (((xs.filter p).map h).map O.fro)) := by
  obtain ⟨wi, i1, i2⟩ := hi
  refine ⟨wi, tAnyTs (S.blk scope) ifs, tAnyE (S.blk scope) elt, i1, fun q ok s H C cl fp => ?_, fun q ok s H C cl fp => ?_, fun q ok s H C cl fp => ?_, en_lc (S := S) xs g p h (own.map Prod.snd) (S' := S.blk scope) rfl ρb i2 ho hG (fun x hx => ?_) (fun x hx hp => ?_) hl⟩
  · obtain ⟨q', ok', e⟩ := blk_cx S q ok scope s H C cl fp
    rw [← e]; exact hg q' ok'
  · obtain ⟨q', ok', e⟩ := blk_cx S q ok scope s H C cl fp
    rw [← e]; exact pts_any ok' ifs
  · obtain ⟨q', ok', e⟩ := blk_cx S q ok scope s H C cl fp
    rw [← e]; exact pe_any ok' elt
  · obtain ⟨t, h1, h2⟩ := ht x hx
    exact fun σ F H A Q w n q => ⟨t, h1, h2 σ F H A Q w n q⟩
  · obtain ⟨t, h1, h2⟩ := he x hx hp
    exact fun σ F H A Q w n q => ⟨t, h1, h2 σ F H A Q w n q⟩
theorem xn_lc [Calm S] (hi : XI S ρ tg it (xs.map g)) (hg : ∀ q, (S.blk scope).Ok q → PG ((S.blk scope).cx q) tg tgt) (ho : TgOwn tgt (own.map (·.2)))
    (hG : ∀ x ∈ xs, EG (S.blk scope) [] tgt (wipeE ρ (own.map (·.2))) (g x) (ρb x)) (ht : ∀ x ∈ xs, XTs (S.blk scope) (ρb x) ifs (p x)) (he : ∀ x ∈ xs, p x = true → XP (S.blk scope) (ρb x) elt (.ok (h x))) (hl : xs.length ≤ 1000000) (bo : blkC S.N S.scope scope own = true := by (try dsimp only [sigOf, Sig.blk]); decide +kernel)
    (hs : ∀ (env : PySem.Env) (x : Value), foldedSetIterable it env x = pure x := by intro _ _; rfl) : XN S ρ (.ListComp elt [⟨tg, it, ifs, 0⟩] scope pos) (.lst (((xs.filter p).map h).map O.fro)) := by
  obtain ⟨wi, tt, te, i1, g1, t1, e1, en⟩ := lc_of xs g p h own ρb hi hg ho hG ht he hl bo
  exact ⟨_, fun q ok => pe_lc (X := S.cx q) Calm.h ok.nd (i1 q ok) (blkOk_by bo) (g1 q ok) (t1 q ok) (e1 q ok) (hs _), en⟩
theorem es_set {t : TE} {i : Nat} (h : EX S t ρ (.ok o ρ1)) (hi : i < ρ1.length) (hp : i ∉ pin) : ES S pin (tAsg t (gName i)) ρ (.nx (ρ1.set i (some o))) := fun σ F H A D w n q => h σ F H A _ w n fun v F1 H1 B A1 w1 s1 ow n1 => by
  obtain ⟨A2, n2, w2, m2⟩ := n1.store ow hi w1
  exact q _ _ _ A2 w2 (s1.perm (fun a => Iff.rfl) m2) n2 (Pin.set hp)
/-- y = [..], a local name, on one line: owned; frozen -/
theorem ps_lcO [Calm S] (i : Nat) {y : Str} {py spos : Pos} (hi : XI S ρ tg it (xs.map g)) (hg : ∀ q, (S.blk scope).Ok q → PG ((S.blk scope).cx q) tg tgt) (ho : TgOwn tgt (own.map (·.2)))
    (hG : ∀ x ∈ xs, EG (S.blk scope) [] tgt (wipeE ρ (own.map (·.2))) (g x) (ρb x)) (ht : ∀ x ∈ xs, XTs (S.blk scope) (ρb x) ifs (p x)) (he : ∀ x ∈ xs, p x = true → XP (S.blk scope) (ρb x) elt (.ok (h x))) (hl : xs.length ≤ 1000000)
    (hn : Nat.blt i ρ.length = true := by rfl) (hp : i ∉ pin := by decide) (hN : S.N[i]? = some y := by rfl) (hy : S.scope.names.lookup y = some .local := by rfl) (hsw : ∀ env : PySem.Env, swapsWith (.ListComp elt [⟨tg, it, ifs, 0⟩] scope pos) (some (.Name y py)) spos.line { env with scope := S.scope } = pure true := by intro _; exact sw_true rfl rfl rfl (by decide +kernel)) (bo : blkC S.N S.scope scope own = true := by (try dsimp only [sigOf, Sig.blk]); decide +kernel)
    (hs : ∀ (env : PySem.Env) (x : Value), foldedSetIterable it env x = pure x := by intro _ _; rfl) : XS S pin ρ (.Assign [.Name y py] (.ListComp elt [⟨tg, it, ifs, 0⟩] scope pos) spos) (.nx (ρ.set i (some (.lst (((xs.filter p).map h).map O.fro))))) := by
  obtain ⟨wi, tt, te, i1, g1, t1, e1, en⟩ := lc_of xs g p h own ρb hi hg ho hG ht he hl bo
  exact ⟨_, fun q ok => ps_setLc (X := S.cx q) (i := i) Calm.h ok.nd hN hy (hsw _) (i1 q ok) (blkOk_by bo) (g1 q ok) (t1 q ok) (e1 q ok) (hs _), es_set en.x (Nat.le_of_ble_eq_true hn) hp⟩
theorem ps_lcF [Calm S] (i : Nat) {y : Str} {py spos : Pos} (hi : XI S ρ tg it (xs.map g)) (hg : ∀ q, (S.blk scope).Ok q → PG ((S.blk scope).cx q) tg tgt) (ho : TgOwn tgt (own.map (·.2)))
    (hG : ∀ x ∈ xs, EG (S.blk scope) [] tgt (wipeE ρ (own.map (·.2))) (g x) (ρb x)) (ht : ∀ x ∈ xs, XTs (S.blk scope) (ρb x) ifs (p x)) (he : ∀ x ∈ xs, p x = true → XP (S.blk scope) (ρb x) elt (.ok (h x))) (hl : xs.length ≤ 1000000)
    (hn : Nat.blt i ρ.length = true := by rfl) (hp : i ∉ pin := by decide) (hN : S.N[i]? = some y := by rfl) (hy : S.scope.names.lookup y = some .local := by rfl) (hsw : ∀ env : PySem.Env, swapsWith (.ListComp elt [⟨tg, it, ifs, 0⟩] scope pos) (some (.Name y py)) spos.line { env with scope := S.scope } = pure true := by intro _; exact sw_true rfl rfl rfl (by decide +kernel)) (bo : blkC S.N S.scope scope own = true := by (try dsimp only [sigOf, Sig.blk]); decide +kernel)
    (hs : ∀ (env : PySem.Env) (x : Value), foldedSetIterable it env x = pure x := by intro _ _; rfl) : XS S pin ρ (.Assign [.Name y py] (.ListComp elt [⟨tg, it, ifs, 0⟩] scope pos) spos) (.nx (ρ.set i (some (.fro (.lst ((xs.filter p).map h)))))) := by
  obtain ⟨wi, tt, te, i1, g1, t1, e1, en⟩ := lc_of xs g p h own ρb hi hg ho hG ht he hl bo
  have en2 := en.p.x
  have e2 : O.d (.lst (((xs.filter p).map h).map O.fro)) = .lst ((xs.filter p).map h) := by
    simp only [O.d]; rw [ds_fros]
  rw [e2] at en2
  exact ⟨_, fun q ok => ps_setLc (X := S.cx q) (i := i) Calm.h ok.nd hN hy (hsw _) (i1 q ok) (blkOk_by bo) (g1 q ok) (t1 q ok) (e1 q ok) (hs _), es_set en2 (Nat.le_of_ble_eq_true hn) hp⟩
theorem xp_lc [Calm S] (hi : XI S ρ tg it (xs.map g)) (hg : ∀ q, (S.blk scope).Ok q → PG ((S.blk scope).cx q) tg tgt) (ho : TgOwn tgt (own.map (·.2)))
    (hG : ∀ x ∈ xs, EG (S.blk scope) [] tgt (wipeE ρ (own.map (·.2))) (g x) (ρb x)) (ht : ∀ x ∈ xs, XTs (S.blk scope) (ρb x) ifs (p x)) (he : ∀ x ∈ xs, p x = true → XP (S.blk scope) (ρb x) elt (.ok (h x))) (hl : xs.length ≤ 1000000) (bo : blkC S.N S.scope scope own = true := by (try dsimp only [sigOf, Sig.blk]); decide +kernel)
    (hs : ∀ (env : PySem.Env) (x : Value), foldedSetIterable it env x = pure x := by intro _ _; rfl) : XP S ρ (.ListComp elt [⟨tg, it, ifs, 0⟩] scope pos) (.ok (.lst ((xs.filter p).map h))) := by
  have z := (xn_lc (pos := pos) xs g p h own ρb hi hg ho hG ht he hl bo hs).p
  have e2 : O.d (.lst (((xs.filter p).map h).map O.fro)) = .lst ((xs.filter p).map h) := by
    simp only [O.d]; rw [ds_fros]
  rw [e2] at z
  exact z
end
end
end G

namespace G
open PySem PySem.Spec PyProof.Rows L2
open PySem.W (Datum DatumOrd Tup T3)
open Enc (enc)

/-! ### ends of a def, typed -/
section
variable {T U : Type} [DecidableEq T] [Datum T] [Enc T]
def rF (v : T) : RS := .rt (.fro (enc v)) none
def rO (v : List T) : RS := .rt (.lst ((v.map enc).map O.fro)) none
def rE (f : U → RS) : Except Str U → RS
  | .ok v => f v
  | .error x => .ex x none
def oF (v : T) : Except Str O := .ok (.fro (enc v))
def oO (v : List T) : Except Str O := .ok (.lst ((v.map enc).map O.fro))
def oE (g : U → Except Str O) : Except Str U → Except Str O
  | .ok v => g v
  | .error x => .error x
theorem fits_F {v : T} : Fits (rF v) (oF v) := .rt rfl
theorem fits_O {v : List T} : Fits (rO v) (oO v) := .rt rfl
theorem fits_E {f : U → RS} {g : U → Except Str O} (h : ∀ v, Fits (f v) (g v)) : ∀ r, Fits (rE f r) (oE g r)
  | .ok v => h v
  | .error _ => .ex rfl
theorem term_F {v : T} : Term (rF v) := trivial
theorem term_O {v : List T} : Term (rO v) := trivial
theorem term_E {f : U → RS} (h : ∀ v, Term (f v)) : ∀ r, Term (rE f r)
  | .ok v => h v
  | .error _ => trivial
end
theorem Term.ne {r : RS} (h : Term r) : ∀ ρ, r ≠ .nx ρ := fun ρ e => by subst e; exact h
def bindE {T U : Type} : Except Str T → (T → Except Str U) → Except Str U
  | .ok v, k => k v
  | .error x, _ => .error x
def LO.fin {σ β : Type} (k : σ → β) : LO σ β → β
  | .nx s => k s
  | .bk s => k s
  | .rt b => b

section
variable {S : Sig} {ρ ρ1 : Env} {a b c e it tg : Expr} {d d1 d2 d3 : D} {ds : List D} {pos p2 : Pos} {pin : List Nat} {es : List Expr} {st : Stmt} {ss body : List Stmt} {r : RS} {x : Str}
variable {T U V' : Type}
/-! ### blocks, typed -/
theorem xb_let (f : U → RS) (ρ' : T → Env) (m : T → U) (v : T) (h : XS S pin ρ st (.nx (ρ' v))) (k : ∀ w, w = v → XB S pin (ρ' w) ss (f (m w))) : XB S pin ρ (st :: ss) (f (m v)) := xb_cons h (k v rfl)
theorem xb_ret (f : U → RS) (v : U) (h : XS S pin ρ st (f v)) (ht : Term (f v)) : XB S pin ρ (st :: ss) (f v) := xb_stop h ht.ne
/-- if c: (an end); what follows -/
theorem xb_ifR (f : U → RS) {k : Bool} {A : List Stmt} {v1 v2 : U} (hc : XT S ρ c k) (ha : k = true → XB S pin ρ A (f v1)) (ht : ∀ ρ, f v1 ≠ .nx ρ) (hb : k = false → XB S pin ρ ss (f v2)) : XB S pin ρ (.If c A [] pos :: ss) (f (if k = true then v1 else v2)) := by
  cases k with
  | true => exact xb_stop (xs_if hc ha fun z => nomatch z) ht
  | false => exact xb_cons (xs_if hc (fun z => nomatch z) fun _ => xb_nil) (hb rfl)
/-- if c: .. else: .., both ends -/
theorem xb_if2 (f : U → RS) {k : Bool} {A B : List Stmt} {v1 v2 : U} (hc : XT S ρ c k) (ha : k = true → XB S pin ρ A (f v1)) (hb : k = false → XB S pin ρ B (f v2)) : XB S pin ρ [.If c A B pos] (f (if k = true then v1 else v2)) := by
  cases k with
  | true => exact xb_one (xs_if hc ha fun z => nomatch z)
  | false => exact xb_one (xs_if hc (fun z => nomatch z) hb)
/-- if c: .. else: .., both go on -/
theorem xb_ifj (f : U → RS) (R : T → Env) (m : T → U) {k : Bool} {A B : List Stmt} {s1 s2 : T} (hc : XT S ρ c k) (ha : k = true → XB S pin ρ A (.nx (R s1))) (hb : k = false → XB S pin ρ B (.nx (R s2))) (hk : ∀ w, w = (if k = true then s1 else s2) → XB S pin (R w) ss (f (m w))) :
    XB S pin ρ (.If c A B pos :: ss) (f (m (if k = true then s1 else s2))) := xb_cons (xs_ifj R hc ha hb) (hk _ rfl)
theorem xb_nx (f : U → RS) (v : U) (h : f v = .nx ρ) : XB S pin ρ [] (f v) := h ▸ xb_nil
theorem nx_fr {σ : Type} {R : σ → Env} {fr : U → RS} {s : σ} : (LO.nx s : LO σ U).rs R fr = .nx (R s) := rfl
/-- a loop that is left by its end alone -/
theorem xs_forN [Calm S] {α σ : Type} (xs : List α) (g : α → D) (R : σ → Env) (f : σ → α → σ) (I : Nat → σ → Prop) {tgt : TG} (ρb : σ → α → Env) (s0 : σ)
    (hi : XI S (R s0) tg it (xs.map g)) (hg : ∀ q, S.Ok q → PG (S.cx q) tg tgt) (hG : ∀ s x, EG S pin tgt (R s) (g x) (ρb s x)) (h0 : I 0 s0)
    (hb : ∀ i s x, xs[i]? = some x → I i s → XB S pin (ρb s x) body (.nx (R (f s x))) ∧ I (i + 1) (f s x))
    (hs : ∀ (env : PySem.Env) (x : Value), foldedSetIterable it env x = pure x := by intro _ _; rfl) : XS S pin (R s0) (.For tg it body [] pos) (.nx (R (xs.foldl f s0))) := by
  have h := xs_for (β := Empty) (pos := pos) xs g R (fun s x => .nx (f s x)) (fun b => b.elim) I ρb s0 hi hg hG h0 (fun b => b.elim) (fun i s x hx hI => ⟨(hb i s x hx hI).1, fun s' e => by cases e; exact (hb i s x hx hI).2⟩) hs
  have e : ∀ (xs : List α) (s : σ), forL (β := Empty) (fun s x => .nx (f s x)) xs s = .nx (xs.foldl f s) := by
    intro xs
    induction xs with
    | nil => intro s; rfl
    | cons x xs ih => intro s; exact ih (f s x)
  rw [e] at h
  exact h
theorem inv_foldl {α σ : Type} (f : σ → α → σ) (I : Nat → σ → Prop) : ∀ (xs : List α) (n : Nat) (s : σ), I n s → (∀ i s x, xs[i]? = some x → I (n + i) s → I (n + i + 1) (f s x)) → I (n + xs.length) (xs.foldl f s)
  | [], n, s, h, _ => h
  | x :: xs, n, s, h, k => by
    have h1 := k 0 s x rfl h
    have z := inv_foldl f I xs (n + 1) (f s x) h1 fun i s' x' hx hI => by
      have e1 : n + 1 + i = n + (i + 1) := by omega
      rw [e1] at hI ⊢
      exact k (i + 1) s' x' (by simpa using hx) hI
    have e2 : n + 1 + xs.length = n + (x :: xs).length := by simp; omega
    rw [e2] at z
    exact z
theorem xb_forN [Calm S] (fr : U → RS) {α σ : Type} (xs : List α) (g : α → D) (R : σ → Env) (f : σ → α → σ) (I : Nat → σ → Prop) {tgt : TG} (ρb : σ → α → Env) (s0 : σ) (m : σ → U)
    (hi : XI S (R s0) tg it (xs.map g)) (hg : ∀ q, S.Ok q → PG (S.cx q) tg tgt) (hG : ∀ s x, EG S pin tgt (R s) (g x) (ρb s x)) (h0 : I 0 s0)
    (hI : ∀ i s x, xs[i]? = some x → I i s → I (i + 1) (f s x))
    (hb : ∀ i s x, xs[i]? = some x → I i s → XB S pin (ρb s x) body (.nx (R (f s x))))
    (hk : ∀ w, w = xs.foldl f s0 → I xs.length w → XB S pin (R w) ss (fr (m w)))
    (hs : ∀ (env : PySem.Env) (x : Value), foldedSetIterable it env x = pure x := by intro _ _; rfl) : XB S pin (R s0) (.For tg it body [] pos :: ss) (fr (m (xs.foldl f s0))) :=
  xb_cons (xs_forN xs g R f I ρb s0 hi hg hG h0 (fun i s x hx h => ⟨hb i s x hx h, hI i s x hx h⟩) hs) (hk _ rfl (by
    have := inv_foldl f I xs 0 s0 h0 (fun i s x hx h => by rw [Nat.zero_add] at h ⊢; exact hI i s x hx h)
    rw [Nat.zero_add] at this; exact this))
theorem inv_forL {α σ β : Type} (f : σ → α → LO σ β) (I : Nat → σ → Prop) (J : σ → Prop) (hJ : ∀ n s, I n s → J s) : ∀ (xs : List α) (n : Nat) (s : σ), I n s → (∀ i s x s', xs[i]? = some x → I (n + i) s → f s x = .nx s' → I (n + i + 1) s') → (∀ i s x s', xs[i]? = some x → I (n + i) s → f s x = .bk s' → J s') → ∀ s', forL f xs s = .nx s' → J s'
  | [], n, s, h, _, _, s', e => by cases e; exact hJ n s h
  | x :: xs, n, s, h, k, kb, s', e => by
    unfold forL at e
    cases ef : f s x with
    | nx s1 =>
      rw [ef] at e
      refine inv_forL f I J hJ xs (n + 1) s1 (k 0 s x s1 rfl h ef) (fun i s2 x2 s3 hx hI hf => ?_) (fun i s2 x2 s3 hx hI hf => ?_) s' e
      · have e1 : n + 1 + i = n + (i + 1) := by omega
        rw [e1] at hI ⊢
        exact k (i + 1) s2 x2 s3 (by simpa using hx) hI hf
      · have e1 : n + 1 + i = n + (i + 1) := by omega
        rw [e1] at hI
        exact kb (i + 1) s2 x2 s3 (by simpa using hx) hI hf
    | bk s1 =>
      rw [ef] at e
      cases e
      exact kb 0 s x s' rfl h ef
    | rt b => rw [ef] at e; cases e
/-- a loop that may end the def -/
theorem xb_for [Calm S] (fr : U → RS) (hfr : ∀ b, Term (fr b)) {α σ : Type} (xs : List α) (g : α → D) (R : σ → Env) (f : σ → α → LO σ U) (I : Nat → σ → Prop) {tgt : TG} (ρb : σ → α → Env) (s0 : σ) (m : σ → U)
    (hi : XI S (R s0) tg it (xs.map g)) (hg : ∀ q, S.Ok q → PG (S.cx q) tg tgt) (hG : ∀ s x, EG S pin tgt (R s) (g x) (ρb s x)) (h0 : I 0 s0)
    (hI : ∀ i s x s', xs[i]? = some x → I i s → f s x = .nx s' → I (i + 1) s')
    (hb : ∀ i s x, xs[i]? = some x → I i s → XB S pin (ρb s x) body ((f s x).rs R fr))
    (hk : ∀ w, forL f xs s0 = .nx w → XB S pin (R w) ss (fr (m w)))
    (hs : ∀ (env : PySem.Env) (x : Value), foldedSetIterable it env x = pure x := by intro _ _; rfl) : XB S pin (R s0) (.For tg it body [] pos :: ss) (fr ((forL f xs s0).fin m)) := by
  have h := xs_for (pos := pos) xs g R f fr I ρb s0 hi hg hG h0 hfr (fun i s x hx h => ⟨hb i s x hx h, fun s' e => hI i s x s' hx h e⟩) hs
  cases e : forL f xs s0 with
  | nx w =>
    rw [e] at h
    exact xb_cons h (hk w e)
  | bk w =>
    have nb : ∀ (xs : List α) (s : σ), forL f xs s ≠ .bk w := by
      intro xs
      induction xs with
      | nil => intro s z; cases z
      | cons x xs ih =>
        intro s z
        unfold forL at z
        cases ef : f s x with
        | nx s1 => rw [ef] at z; exact ih s1 z
        | bk s1 => rw [ef] at z; cases z
        | rt b => rw [ef] at z; cases z
    exact absurd e (nb xs s0)
  | rt b =>
    rw [e] at h
    exact xb_stop h (hfr b).ne
/-- while -/
theorem xb_while (fr : U → RS) (hfr : ∀ b, Term (fr b)) {σ : Type} {cond : Expr} (R : σ → Env) (cc : σ → Bool) (f : σ → LO σ U) (I : σ → Prop) (s0 : σ) (n : Nat) {o : LO σ U} (m : σ → U) (ho : whL cc f n s0 = some o) (h0 : I s0)
    (hc : ∀ s, I s → XT S (R s) cond (cc s)) (hI : ∀ s s', I s → cc s = true → f s = .nx s' → I s') (hb : ∀ s, I s → cc s = true → XB S pin (R s) body ((f s).rs R fr))
    (hk : ∀ w, o = .nx w → XB S pin (R w) ss (fr (m w))) : XB S pin (R s0) (.While cond body [] pos :: ss) (fr (o.fin m)) := by
  have h := xs_while (pos := pos) R cc f fr I s0 n ho h0 hfr hc fun s hs hcs => ⟨hb s hs hcs, fun s' e => hI s s' hs hcs e⟩
  cases o with
  | nx w => exact xb_cons h (hk w rfl)
  | bk w =>
    have nb : ∀ (n : Nat) (s : σ), whL cc f n s ≠ some (.bk w) := by
      intro n
      induction n with
      | zero => intro s z; cases z
      | succ n ih =>
        intro s z
        unfold whL at z
        split at z
        · cases ef : f s with
          | nx s1 => rw [ef] at z; exact ih s1 z
          | bk s1 => rw [ef] at z; cases z
          | rt b => rw [ef] at z; cases z
        · cases z
    exact absurd ho (nb n s0)
  | rt b => exact xb_stop h (hfr b).ne
/-- f(..), that may raise, alone -/
theorem xb_exprE (f : U → RS) (m : T → Except Str U) {r : Except Str T} {g : T → Except Str O} (h : XX S ρ e (exX ρ (oE g r))) (hg : ∀ v, ∃ o, g v = .ok o) (k : ∀ w, r = .ok w → XB S pin ρ ss (rE f (m w))) (hs : ∀ env : PySem.Env, swapsWith e none pos.line env = pure false := by intro _; rfl) :
    XB S pin ρ (.Expr e pos :: ss) (rE f (bindE r m)) := by
  cases r with
  | ok v =>
    obtain ⟨o, e1⟩ := hg v
    have h' : XX S ρ e (.ok o ρ) := by
      have : oE g (.ok v) = .ok o := e1
      rw [this] at h
      exact h
    exact xb_cons (xs_expr h' hs) (k v rfl)
  | error x => exact xb_stop (xs_exprE h (.inl rfl) hs) fun ρ z => nomatch z
/-- x = f(..), that may raise; the answer frozen -/
theorem xb_letE (f : U → RS) (i : Nat) {y : Str} {p' : Pos} (ρ' : T → Env) (m : T → Except Str U) {r : Except Str T} {g : T → Except Str D} (h : XP S ρ e (match r with | .ok v => g v | .error x => .error x)) (hg : ∀ v, ∃ d, g v = .ok d ∧ ρ' v = ρ.set i (some (.fro d))) (k : ∀ w, r = .ok w → XB S pin (ρ' w) ss (rE f (m w)))
    (hi : Nat.blt i ρ.length = true := by rfl) (hp : i ∉ pin := by decide) (hN : S.N[i]? = some y := by rfl) (hx : Loc S.scope y := by first | exact .inl rfl | exact .inr rfl) (hst : S.st y = true ∨ S.scope.names.lookup y = some .local := by first | exact .inl rfl | exact .inr rfl)
    (hs : ∀ env : PySem.Env, swapsWith e (some (.Name y p')) pos.line { env with scope := S.scope } = pure false := by intro _; rfl) : XB S pin ρ (.Assign [.Name y p'] e pos :: ss) (rE f (bindE r m)) := by
  cases r with
  | ok v =>
    obtain ⟨d, e1, e2⟩ := hg v
    have h' : XP S ρ e (.ok d) := h.cast e1
    exact xb_cons ((xs_setF (pin := pin) i h' hi hp hN hx hst hs).cast (by rw [e2])) (k v rfl)
  | error x => exact xb_stop (xs_setE i h.xe (.inl rfl) hN hx hst hs) fun ρ z => nomatch z
end

/-! ### targets, in short -/
section
variable {S : Sig} {pos : Pos}
abbrev TG1 (S : Sig) (tg : Expr) (g : TG) : Prop := ∀ q, S.Ok q → PG (S.cx q) tg g
abbrev TGN (S : Sig) (tgs : List Expr) (g : TGs) : Prop := ∀ q, S.Ok q → PGs (S.cx q) tgs g
theorem tg_n (i : Nat) {x : Str} (hN : S.N[i]? = some x := by rfl) (hx : Loc S.scope x := by first | exact .inl rfl | exact .inr rfl) (hst : S.st x = true ∨ S.scope.names.lookup x = some .local := by first | exact .inl rfl | exact .inr rfl) : TG1 S (.Name x pos) (gName i) := fun q ok => pg_name (X := S.cx q) (i := i) ok.nd hN hx (hst.elim (fun z => .inl (ok.fn x z)) .inr)
theorem tgs_0 : TGN S [] gNil := fun q ok => pgs_nil
theorem tgs_1 {e : Expr} {es : List Expr} {t : TG} {u : TGs} (h1 : TG1 S e t) (h2 : TGN S es u) (hs : ∀ env : PySem.Env, (assignEach (e :: es) env).map (·.2) = assign e env :: (assignEach es env).map (·.2) := by intro _; rfl) : TGN S (e :: es) (gCons t u) := fun q ok => pgs_cons (h1 q ok) (h2 q ok) (hs _)
theorem tg_t [Calm S] {es : List Expr} {k : Nat} {t : TGs} {n : Nat} (h : TGN S es t) (hn : ∀ env : PySem.Env, (assignEach es env).length = n := by intro _; rfl) (hst : ∀ env : PySem.Env, (assignEach es env).findIdx? (·.1) = none := by intro _; rfl) : TG1 S (.Tuple es k pos) (gTup S.K n t) := fun q ok => pg_tup (X := S.cx q) Calm.h (h q ok) (hn _) (hst _)
end
/-! ### expressions, typed -/
section
variable {S : Sig} {ρ ρ1 : Env} {a b c e it tg elt : Expr} {pos p2 : Pos} {pin : List Nat} {es : List Expr}
abbrev TP {T : Type} [DecidableEq T] [Datum T] [Enc T] (S : Sig) (ρ : Env) (e : Expr) (v : T) : Prop := XP S ρ e (.ok (enc v))
abbrev TV {T : Type} [DecidableEq T] [Datum T] [Enc T] (S : Sig) (ρ : Env) (e : Expr) (v : T) : Prop := XV S ρ e (enc v)
section
variable {i j : Int}
theorem tp_add (ha : TP S ρ a i) (hb : TP S ρ b j) : TP S ρ (.BinOp a .Add b pos) (i + j) := xp_bin ob_add ha.v hb.v
theorem tp_sub (ha : TP S ρ a i) (hb : TP S ρ b j) : TP S ρ (.BinOp a .Sub b pos) (i - j) := xp_bin ob_sub ha.v hb.v
theorem tp_mul (ha : TP S ρ a i) (hb : TP S ρ b j) (h : (-(2 ^ 64) < i ∧ i < 2 ^ 64) ∨ (-(2 ^ 64) < j ∧ j < 2 ^ 64)) : TP S ρ (.BinOp a .Mult b pos) (i * j) := xp_bin (ob_mul h) ha.v hb.v
theorem tp_div (ha : TP S ρ a i) (hb : TP S ρ b j) (h : 0 < j ∧ j < 1073741824) : TP S ρ (.BinOp a .FloorDiv b pos) (i / j) := xp_bin (ob_div h) ha.v hb.v
theorem tp_mod (ha : TP S ρ a i) (hb : TP S ρ b j) (h : 0 < j) : TP S ρ (.BinOp a .Mod b pos) (i % j) := xp_bin (ob_mod h) ha.v hb.v
theorem tp_pow (ha : TP S ρ a i) (hb : TP S ρ b j) (h : 0 ≤ j ∧ j ≤ 1000000 ∧ i.natAbs < 2 ^ 64) : TP S ρ (.BinOp a .Pow b pos) (i ^ j.toNat) := xp_bin (ob_pow h) ha.v hb.v
theorem tp_neg (ha : TP S ρ a i) : TP S ρ (.UnaryOp .USub a pos) (-i) := xp_neg ha
theorem tp_int {j} : TP S ρ (.Constant (.int i) j pos) i := xp_int
theorem tt_lt (ha : TP S ρ a i) (hb : TP S ρ b j) : XT S ρ (.Compare a [.Lt] [b] pos) (decide (i < j)) := xt_cmp oc_lt ha.v hb.v
theorem tt_le (ha : TP S ρ a i) (hb : TP S ρ b j) : XT S ρ (.Compare a [.LtE] [b] pos) (decide (i ≤ j)) := xt_cmp oc_le ha.v hb.v
theorem tt_gt (ha : TP S ρ a i) (hb : TP S ρ b j) : XT S ρ (.Compare a [.Gt] [b] pos) (decide (j < i)) := xt_cmp oc_gt ha.v hb.v
theorem tt_ge (ha : TP S ρ a i) (hb : TP S ρ b j) : XT S ρ (.Compare a [.GtE] [b] pos) (decide (j ≤ i)) := xt_cmp oc_ge ha.v hb.v
theorem tp_lt (ha : TP S ρ a i) (hb : TP S ρ b j) : TP S ρ (.Compare a [.Lt] [b] pos) (decide (i < j)) := xp_cmp oc_lt ha.v hb.v
theorem tp_le (ha : TP S ρ a i) (hb : TP S ρ b j) : TP S ρ (.Compare a [.LtE] [b] pos) (decide (i ≤ j)) := xp_cmp oc_le ha.v hb.v
theorem tp_gt (ha : TP S ρ a i) (hb : TP S ρ b j) : TP S ρ (.Compare a [.Gt] [b] pos) (decide (j < i)) := xp_cmp oc_gt ha.v hb.v
theorem tp_ge (ha : TP S ρ a i) (hb : TP S ρ b j) : TP S ρ (.Compare a [.GtE] [b] pos) (decide (j ≤ i)) := xp_cmp oc_ge ha.v hb.v
end
section
variable {T T' U : Type} [DecidableEq T] [Datum T] [Enc T] [DecidableEq T'] [Datum T'] [Enc T'] {u v : T}
theorem tt_eq (ha : TV S ρ a u) (hb : TV S ρ b v) (hd : Datum.depth T ≤ 64 := by decide) : XT S ρ (.Compare a [.Eq] [b] pos) (decide (u = v)) := xt_cmp (oc_eq hd) ha hb
theorem tt_ne (ha : TV S ρ a u) (hb : TV S ρ b v) (hd : Datum.depth T ≤ 64 := by decide) : XT S ρ (.Compare a [.NotEq] [b] pos) (!decide (u = v)) := xt_cmp (oc_ne hd) ha hb
theorem tp_eq (ha : TV S ρ a u) (hb : TV S ρ b v) (hd : Datum.depth T ≤ 64 := by decide) : TP S ρ (.Compare a [.Eq] [b] pos) (decide (u = v)) := xp_cmp (oc_eq hd) ha hb
theorem tp_ne (ha : TV S ρ a u) (hb : TV S ρ b v) (hd : Datum.depth T ≤ 64 := by decide) : TP S ρ (.Compare a [.NotEq] [b] pos) (!decide (u = v)) := xp_cmp (oc_ne hd) ha hb
theorem tt_in {xs : List T} (ha : TV S ρ a u) (hb : TV S ρ b xs) (hd : Datum.depth T ≤ 63 := by decide) (hm : behindInMarks .In b = false := by rfl) : XT S ρ (.Compare a [.In] [b] pos) (decide (u ∈ xs)) := xt_cmp (oc_in hd) ha hb hm
theorem tt_ni {xs : List T} (ha : TV S ρ a u) (hb : TV S ρ b xs) (hd : Datum.depth T ≤ 63 := by decide) (hm : behindInMarks .NotIn b = false := by rfl) : XT S ρ (.Compare a [.NotIn] [b] pos) (!decide (u ∈ xs)) := xt_cmp (oc_notin hd) ha hb hm
theorem tp_in {xs : List T} (ha : TV S ρ a u) (hb : TV S ρ b xs) (hd : Datum.depth T ≤ 63 := by decide) (hm : behindInMarks .In b = false := by rfl) : TP S ρ (.Compare a [.In] [b] pos) (decide (u ∈ xs)) := xp_cmp (oc_in hd) ha hb hm
theorem tp_ni {xs : List T} (ha : TV S ρ a u) (hb : TV S ρ b xs) (hd : Datum.depth T ≤ 63 := by decide) (hm : behindInMarks .NotIn b = false := by rfl) : TP S ρ (.Compare a [.NotIn] [b] pos) (!decide (u ∈ xs)) := xp_cmp (oc_notin hd) ha hb hm
theorem tt_inT {xs : Tup T} (ha : TV S ρ a u) (hb : TV S ρ b xs) (hd : Datum.depth T ≤ 63 := by decide) (hm : behindInMarks .In b = false := by rfl) : XT S ρ (.Compare a [.In] [b] pos) (decide (u ∈ xs.items)) := xt_cmp (oc_inT hd) ha hb hm
theorem tt_niT {xs : Tup T} (ha : TV S ρ a u) (hb : TV S ρ b xs) (hd : Datum.depth T ≤ 63 := by decide) (hm : behindInMarks .NotIn b = false := by rfl) : XT S ρ (.Compare a [.NotIn] [b] pos) (!decide (u ∈ xs.items)) := xt_cmp (oc_notinT hd) ha hb hm
theorem tp_inT {xs : Tup T} (ha : TV S ρ a u) (hb : TV S ρ b xs) (hd : Datum.depth T ≤ 63 := by decide) (hm : behindInMarks .In b = false := by rfl) : TP S ρ (.Compare a [.In] [b] pos) (decide (u ∈ xs.items)) := xp_cmp (oc_inT hd) ha hb hm
theorem tp_niT {xs : Tup T} (ha : TV S ρ a u) (hb : TV S ρ b xs) (hd : Datum.depth T ≤ 63 := by decide) (hm : behindInMarks .NotIn b = false := by rfl) : TP S ρ (.Compare a [.NotIn] [b] pos) (!decide (u ∈ xs.items)) := xp_cmp (oc_notinT hd) ha hb hm
/-- a op b op c -/
theorem tt_ch {op op' : CmpOp} {T'' : Type} [DecidableEq T''] [Datum T''] [Enc T''] {w : T'} {z : T''} {k k' : Bool} (ho : OC S op (enc u) (enc w) k) (ho' : OC S op' (enc w) (enc z) k') (ha : TP S ρ a u) (hb : TP S ρ b w) (hc : TP S ρ c z) (hm : lastMarks [op, op'] [b, c] = false := by with_unfolding_all rfl) : XT S ρ (.Compare a [op, op'] [b, c] pos) (k && k') := xt_chain ho ho' ha.v hb.v hc.v hm
theorem tp_ch {op op' : CmpOp} {T'' : Type} [DecidableEq T''] [Datum T''] [Enc T''] {w : T'} {z : T''} {k k' : Bool} (ho : OC S op (enc u) (enc w) k) (ho' : OC S op' (enc w) (enc z) k') (ha : TP S ρ a u) (hb : TP S ρ b w) (hc : TP S ρ c z) (hm : lastMarks [op, op'] [b, c] = false := by with_unfolding_all rfl) : TP S ρ (.Compare a [op, op'] [b, c] pos) (k && k') := xp_chain ho ho' ha.v hb.v hc.v hm
/-- items -/
theorem tp_ixL {xs : List T} {i : Int} (ha : TP S ρ a xs) (hb : TP S ρ b i) (h : atI xs i = some v) (hs : PlainIx b := by intro _ _; rfl) : TP S ρ (.Subscript a b pos) v := xp_ix (oi_lst (by rw [atI_map, h]; rfl)) ha hb hs
theorem tp_ixT {xs : Tup T} {i : Int} (ha : TP S ρ a xs) (hb : TP S ρ b i) (h : atI xs.items i = some v) (hs : PlainIx b := by intro _ _; rfl) : TP S ρ (.Subscript a b pos) v := xp_ix (oi_tup (by rw [atI_map, h]; rfl)) ha hb hs
theorem tp_ix2a {p : T × T'} (ha : TP S ρ a p) {j} {pos'} : TP S ρ (.Subscript a (.Constant (.int 0) j pos') pos) p.1 := xp_ix (oi_tup (i := 0) rfl) ha xp_int
theorem tp_ix2b {p : T × T'} (ha : TP S ρ a p) {j} {pos'} : TP S ρ (.Subscript a (.Constant (.int 1) j pos') pos) p.2 := xp_ix (oi_tup (i := 1) rfl) ha xp_int
theorem tp_ix3a {T'' : Type} [DecidableEq T''] [Datum T''] [Enc T''] {p : T3 T T' T''} (ha : TP S ρ a p) {j} {pos'} : TP S ρ (.Subscript a (.Constant (.int 0) j pos') pos) p.a := xp_ix (oi_tup (i := 0) rfl) ha xp_int
theorem tp_ix3b {T'' : Type} [DecidableEq T''] [Datum T''] [Enc T''] {p : T3 T T' T''} (ha : TP S ρ a p) {j} {pos'} : TP S ρ (.Subscript a (.Constant (.int 1) j pos') pos) p.b := xp_ix (oi_tup (i := 1) rfl) ha xp_int
theorem tp_ix3c {T'' : Type} [DecidableEq T''] [Datum T''] [Enc T''] {p : T3 T T' T''} (ha : TP S ρ a p) {j} {pos'} : TP S ρ (.Subscript a (.Constant (.int 2) j pos') pos) p.c := xp_ix (oi_tup (i := 2) rfl) ha xp_int
/-- made -/
theorem tp_2 {p : T} {q : T'} (h : XA S ρ es [enc p, enc q]) {k} : TP S ρ (.Tuple es k pos) (p, q) := xp_tup h
theorem tp_3 {T'' : Type} [DecidableEq T''] [Datum T''] [Enc T''] {p : T} {q : T'} {r : T''} (h : XA S ρ es [enc p, enc q, enc r]) {k} : TP S ρ (.Tuple es k pos) (T3.mk p q r) := xp_tup h
theorem tp_catL {xs ys : List T} (ha : TP S ρ a xs) (hb : TP S ρ b ys) (h : xs.length + ys.length ≤ 1000000) : TP S ρ (.BinOp a .Add b pos) (xs ++ ys) := (xp_binF (ob_cat (by simpa using h)) ha hb).cast (by show _ = Except.ok (D.lst ((xs ++ ys).map enc)); rw [List.map_append])
theorem tp_catT {xs ys : Tup T} (ha : TP S ρ a xs) (hb : TP S ρ b ys) (h : xs.items.length + ys.items.length ≤ 1000000) : TP S ρ (.BinOp a .Add b pos) (Tup.mk (xs.items ++ ys.items)) := (xp_binF (ob_catT (by simpa using h)) ha hb).cast (by show _ = Except.ok (D.tup ((xs.items ++ ys.items).map enc)); rw [List.map_append])
theorem tp_slL {xs : List T} {el eh : Option Expr} {lo hi : Option Int} (ha : TP S ρ a xs) (hl : XO S ρ el lo) (hh : XO S ρ eh hi) : TP S ρ (.Subscript a (.Slice el eh none p2) pos) (cutL xs lo hi) := (xp_slL ha hl hh).cast (by show _ = Except.ok (D.lst ((cutL xs lo hi).map enc)); rw [cutL_map])
theorem tp_slT {xs : Tup T} {el eh : Option Expr} {lo hi : Option Int} (ha : TP S ρ a xs) (hl : XO S ρ el lo) (hh : XO S ρ eh hi) : TP S ρ (.Subscript a (.Slice el eh none p2) pos) (Tup.mk (cutL xs.items lo hi)) := (xp_slT ha hl hh).cast (by show _ = Except.ok (D.tup ((cutL xs.items lo hi).map enc)); rw [cutL_map])
theorem tp_if {k : Bool} (ht : XT S ρ c k) (ha : k = true → TP S ρ a u) (hb : k = false → TP S ρ b v) : TP S ρ (.IfExp c a b pos) (if k = true then u else v) := by
  cases k with
  | true => exact xp_if ht ha fun z => nomatch z
  | false => exact xp_if ht (fun z => nomatch z) hb
end
section
variable {α T : Type} [DecidableEq T] [Datum T] [Enc T] (xs : List α) (g : α → D) (p : α → Bool) (f : α → T) (own : List (Str × Nat)) {scope : Scope} {tgt : TG} {ifs : List Expr} (ρb : α → Env)
theorem map_enc {l : List α} : l.map (fun x => enc (f x)) = (l.map f).map enc := by rw [List.map_map]; rfl
theorem tp_lc [Calm S] (hi : XI S ρ tg it (xs.map g)) (hg : ∀ q, (S.blk scope).Ok q → PG ((S.blk scope).cx q) tg tgt) (ho : TgOwn tgt (own.map (·.2)))
    (hG : ∀ x ∈ xs, EG (S.blk scope) [] tgt (wipeE ρ (own.map (·.2))) (g x) (ρb x)) (ht : ∀ x ∈ xs, XT (S.blk scope) (ρb x) c (p x)) (he : ∀ x ∈ xs, p x = true → TP (S.blk scope) (ρb x) elt (f x)) (hl : xs.length ≤ 1000000) (bo : blkC S.N S.scope scope own = true := by (try dsimp only [sigOf, Sig.blk]); decide +kernel)
    (hs : ∀ (env : PySem.Env) (x : Value), foldedSetIterable it env x = pure x := by intro _ _; rfl) : TP S ρ (.ListComp elt [⟨tg, it, [c], 0⟩] scope pos) ((xs.filter p).map f) :=
  (xp_lc xs g p (fun x => enc (f x)) own ρb hi hg ho hG (fun x hx => xts_one (ht x hx)) he hl bo hs).cast (by rw [map_enc]; rfl)
theorem tp_lcm [Calm S] (hi : XI S ρ tg it (xs.map g)) (hg : ∀ q, (S.blk scope).Ok q → PG ((S.blk scope).cx q) tg tgt) (ho : TgOwn tgt (own.map (·.2)))
    (hG : ∀ x ∈ xs, EG (S.blk scope) [] tgt (wipeE ρ (own.map (·.2))) (g x) (ρb x)) (he : ∀ x ∈ xs, TP (S.blk scope) (ρb x) elt (f x)) (hl : xs.length ≤ 1000000) (bo : blkC S.N S.scope scope own = true := by (try dsimp only [sigOf, Sig.blk]); decide +kernel)
    (hs : ∀ (env : PySem.Env) (x : Value), foldedSetIterable it env x = pure x := by intro _ _; rfl) : TP S ρ (.ListComp elt [⟨tg, it, [], 0⟩] scope pos) (xs.map f) :=
  (xp_lc xs g (fun _ => true) (fun x => enc (f x)) own ρb hi hg ho hG (fun x hx => xts_nil) (fun x hx _ => he x hx) hl bo hs).cast (by rw [map_enc, List.filter_eq_self.mpr (by simp)]; rfl)
theorem ts_lc [Calm S] (i : Nat) {y : Str} {py spos : Pos} (hi : XI S ρ tg it (xs.map g)) (hg : ∀ q, (S.blk scope).Ok q → PG ((S.blk scope).cx q) tg tgt) (ho : TgOwn tgt (own.map (·.2)))
    (hG : ∀ x ∈ xs, EG (S.blk scope) [] tgt (wipeE ρ (own.map (·.2))) (g x) (ρb x)) (ht : ∀ x ∈ xs, XT (S.blk scope) (ρb x) c (p x)) (he : ∀ x ∈ xs, p x = true → TP (S.blk scope) (ρb x) elt (f x)) (hl : xs.length ≤ 1000000)
    (hn : Nat.blt i ρ.length = true := by rfl) (hp : i ∉ pin := by decide) (hN : S.N[i]? = some y := by rfl) (hy : S.scope.names.lookup y = some .local := by rfl) (hsw : ∀ env : PySem.Env, swapsWith (.ListComp elt [⟨tg, it, [c], 0⟩] scope pos) (some (.Name y py)) spos.line { env with scope := S.scope } = pure true := by intro _; exact sw_true rfl rfl rfl (by decide +kernel)) (bo : blkC S.N S.scope scope own = true := by (try dsimp only [sigOf, Sig.blk]); decide +kernel)
    (hs : ∀ (env : PySem.Env) (x : Value), foldedSetIterable it env x = pure x := by intro _ _; rfl) : XS S pin ρ (.Assign [.Name y py] (.ListComp elt [⟨tg, it, [c], 0⟩] scope pos) spos) (.nx (ρ.set i (some (.fro (enc ((xs.filter p).map f)))))) :=
  (ps_lcF xs g p (fun x => enc (f x)) own ρb i hi hg ho hG (fun x hx => xts_one (ht x hx)) he hl hn hp hN hy hsw bo hs).cast (by rw [map_enc]; rfl)
theorem ts_lcm [Calm S] (i : Nat) {y : Str} {py spos : Pos} (hi : XI S ρ tg it (xs.map g)) (hg : ∀ q, (S.blk scope).Ok q → PG ((S.blk scope).cx q) tg tgt) (ho : TgOwn tgt (own.map (·.2)))
    (hG : ∀ x ∈ xs, EG (S.blk scope) [] tgt (wipeE ρ (own.map (·.2))) (g x) (ρb x)) (he : ∀ x ∈ xs, TP (S.blk scope) (ρb x) elt (f x)) (hl : xs.length ≤ 1000000)
    (hn : Nat.blt i ρ.length = true := by rfl) (hp : i ∉ pin := by decide) (hN : S.N[i]? = some y := by rfl) (hy : S.scope.names.lookup y = some .local := by rfl) (hsw : ∀ env : PySem.Env, swapsWith (.ListComp elt [⟨tg, it, [], 0⟩] scope pos) (some (.Name y py)) spos.line { env with scope := S.scope } = pure true := by intro _; exact sw_true rfl rfl rfl (by decide +kernel)) (bo : blkC S.N S.scope scope own = true := by (try dsimp only [sigOf, Sig.blk]); decide +kernel)
    (hs : ∀ (env : PySem.Env) (x : Value), foldedSetIterable it env x = pure x := by intro _ _; rfl) : XS S pin ρ (.Assign [.Name y py] (.ListComp elt [⟨tg, it, [], 0⟩] scope pos) spos) (.nx (ρ.set i (some (.fro (enc (xs.map f)))))) :=
  (ps_lcF xs g (fun _ => true) (fun x => enc (f x)) own ρb i hi hg ho hG (fun x hx => xts_nil) (fun x hx _ => he x hx) hl hn hp hN hy hsw bo hs).cast (by rw [map_enc, List.filter_eq_self.mpr (by simp)]; rfl)
/-- owned -/
theorem tn_lc [Calm S] (hi : XI S ρ tg it (xs.map g)) (hg : ∀ q, (S.blk scope).Ok q → PG ((S.blk scope).cx q) tg tgt) (ho : TgOwn tgt (own.map (·.2)))
    (hG : ∀ x ∈ xs, EG (S.blk scope) [] tgt (wipeE ρ (own.map (·.2))) (g x) (ρb x)) (ht : ∀ x ∈ xs, XT (S.blk scope) (ρb x) c (p x)) (he : ∀ x ∈ xs, p x = true → TP (S.blk scope) (ρb x) elt (f x)) (hl : xs.length ≤ 1000000) (bo : blkC S.N S.scope scope own = true := by (try dsimp only [sigOf, Sig.blk]); decide +kernel)
    (hs : ∀ (env : PySem.Env) (x : Value), foldedSetIterable it env x = pure x := by intro _ _; rfl) : XN S ρ (.ListComp elt [⟨tg, it, [c], 0⟩] scope pos) (.lst ((((xs.filter p).map f).map enc).map O.fro)) := by
  rw [← map_enc]; exact xn_lc xs g p (fun x => enc (f x)) own ρb hi hg ho hG (fun x hx => xts_one (ht x hx)) he hl bo hs
theorem tn_lcm [Calm S] (hi : XI S ρ tg it (xs.map g)) (hg : ∀ q, (S.blk scope).Ok q → PG ((S.blk scope).cx q) tg tgt) (ho : TgOwn tgt (own.map (·.2)))
    (hG : ∀ x ∈ xs, EG (S.blk scope) [] tgt (wipeE ρ (own.map (·.2))) (g x) (ρb x)) (he : ∀ x ∈ xs, TP (S.blk scope) (ρb x) elt (f x)) (hl : xs.length ≤ 1000000) (bo : blkC S.N S.scope scope own = true := by (try dsimp only [sigOf, Sig.blk]); decide +kernel)
    (hs : ∀ (env : PySem.Env) (x : Value), foldedSetIterable it env x = pure x := by intro _ _; rfl) : XN S ρ (.ListComp elt [⟨tg, it, [], 0⟩] scope pos) (.lst (((xs.map f).map enc).map O.fro)) := by
  rw [← map_enc]
  have := xn_lc (pos := pos) xs g (fun _ => true) (fun x => enc (f x)) own ρb hi hg ho hG (fun x hx => xts_nil) (fun x hx _ => he x hx) hl bo hs
  rw [List.filter_eq_self.mpr (by simp)] at this
  exact this
end
end
end G

namespace G
open PySem PySem.Spec PyProof.Rows L2
open PySem.W (Datum DatumOrd Tup T3)
open Enc (enc)
variable {K : PySem.W.Frag}

/-! ### places within what is owned -/
theorem perm_mid {A B C D : List Addr} (h : A.Perm (B ++ C)) : (D ++ A).Perm (B ++ (D ++ C)) := by
  refine (List.Perm.append_left D h).trans ?_
  rw [← List.append_assoc, ← List.append_assoc]
  exact List.Perm.append_right C List.perm_append_comm
theorem Owns.foc {F H : Hp} : ∀ {vs : List V} {os : List O} {A : List Addr} {j : Nat} {o : O}, Owns K F H vs os A → os[j]? = some o → ∃ v B C, vs[j]? = some v ∧ Own K F H v o B ∧ A.Perm (B ++ C) ∧
    ∀ F' H' o' B', Ext F F' → (∀ a u, H a = some u → a ∈ C → H' a = some u) → Own K F' H' v o' B' → ∃ A', Owns K F' H' vs (os.set j o') A' ∧ A'.Perm (B' ++ C)
  | _, _, _, _, _, .nil, e => by simp at e
  | _, _, _, 0, o, .cons (B := C) h r, e => by
    simp at e; subst e
    exact ⟨_, _, C, rfl, h, .refl _, fun F' H' o' B' e k ow => ⟨_, .cons ow (r.mono e (S := C) k fun _ h => h), .refl _⟩⟩
  | _, _, _, j + 1, o, .cons (A := A1) h r, e => by
    obtain ⟨v, B, C, h1, h2, h3, h4⟩ := r.foc (j := j) (o := o) (by simpa using e)
    refine ⟨v, B, A1 ++ C, by simpa using h1, h2, perm_mid h3, fun F' H' o' B' e k ow => ?_⟩
    obtain ⟨A', a1, a2⟩ := h4 F' H' o' B' e (fun a u h hc => k a u h (List.mem_append_right _ hc)) ow
    exact ⟨_, .cons (h.mono e (S := A1) (fun a u z hz => k a u z (List.mem_append_left _ hz)) fun _ h => h) a1, perm_mid a2⟩
structure Foc (K : PySem.W.Frag) (F H : Hp) (σ : L2.St) (A : List Addr) (v : V) (o : O) (up : O → Env) (B C : List Addr) : Prop where
  own : Own K F H v o B
  perm : A.Perm (B ++ C)
  back : ∀ F' H' o' B', Ext F F' → (∀ a u, H a = some u → a ∈ C → H' a = some u) → Own K F' H' v o' B' → ∃ A', Envs K F' H' σ (up o') A' ∧ A'.Perm (B' ++ C)
theorem Foc.grow {F H F1 H1 : Hp} {σ : L2.St} {A B C : List Addr} {v : V} {o : O} {up : O → Env} (f : Foc K F H σ A v o up B C) (g : Grow F H F1 H1) : Foc K F1 H1 σ A v o up B C :=
  ⟨g.own f.own, f.perm, fun F' H' o' B' e k ow => f.back F' H' o' B' (g.stp.fs.trans e) (fun a u h hc => k a u (g.hh a u h) hc) ow⟩
theorem Own.head {F H : Hp} {l : Addr} {o : O} {B : List Addr} (h : Own K F H (.ref l) o (l :: B)) : ¬ Imm (H l) := by
  cases h with
  | lst h _ => rw [h]; exact fun z => z
  | dt h _ _ => rw [h]; exact fun z => z
  | dk h _ _ => rw [h]; exact fun z => z
  | ins h _ _ => rw [h]; exact fun z => z
/-- one object changed, some new ones taken in, some left -/
theorem Foc.mut {F H : Hp} {σ : L2.St} {A A0 A1 B2 C X : List Addr} {l : Addr} {o o' : O} {up : O → Env} {u : HO} (w : WF F H (B2 ++ A)) (f : Foc K F H σ A (.ref l) o up (l :: A0) C) (p : ((l :: A1) ++ X).Perm ((l :: A0) ++ B2)) (ow : Own K F (upd H l u) (.ref l) o' (l :: A1)) :
    ∃ A', Envs K F (upd H l u) σ (up o') A' ∧ WF F (upd H l u) A' ∧ Stp F H (B2 ++ A) F (upd H l u) A' := by
  have w1 : WF F H ((l :: A0) ++ C) := w.right.perm f.perm
  have lC : l ∉ C := w1.dis (by simp)
  obtain ⟨A', e1, p1⟩ := f.back F (upd H l u) o' (l :: A1) (Ext.refl _) (fun a v h hc => by rw [upd_ne fun z => lC (by rw [← z]; exact hc)]; exact h) ow
  have pp : (B2 ++ A).Perm (X ++ A') := by
    refine (List.Perm.append_left B2 f.perm).trans ?_
    rw [← List.append_assoc]
    refine (List.Perm.append_right C (List.perm_append_comm.trans p.symm)).trans ?_
    refine (List.Perm.append_right C List.perm_append_comm).trans ?_
    rw [List.append_assoc]
    exact List.Perm.append_left X p1.symm
  have w2 : WF F H A' := (w.perm pp).right
  have lA : l ∈ A' := p1.mem_iff.mpr (by simp)
  refine ⟨A', e1, ⟨fun a v h => ?_, w2.nd, w2.off, fun a h => ?_⟩, ⟨Ext.refl _, fun a v h n => ?_, fun a v h => .inl h, fun a h => .inl (pp.mem_iff.mpr (List.mem_append_right _ h)), fun a h => ?_⟩⟩
  · rw [upd_ne fun z => by rw [z, w2.off l lA] at h; cases h]
    exact w2.sub a v h
  · by_cases z : a = l
    · subst z; exact ow.head
    · rw [upd_ne z]; exact w2.on a h
  · rw [upd_ne fun z => n (pp.mem_iff.mpr (List.mem_append_right _ (by rw [z]; exact lA)))]; exact h
  · by_cases z : a = l
    · subst z; rw [upd_same] at h; cases h
    · rw [upd_ne z] at h; exact h
/-- what stands beside is not touched -/
theorem frame {F H F' H' : Hp} {B C B' : List Addr} (w : WF F H (B ++ C)) (s : Stp F H B F' H' B') (w' : WF F' H' B') : WF F' H' (B' ++ C) ∧ Stp F H (B ++ C) F' H' (B' ++ C) ∧ ∀ a u, H a = some u → a ∈ C → H' a = some u := by
  have cB : ∀ a ∈ C, a ∉ B := fun a h z => w.dis z h
  refine ⟨⟨w'.sub, ?_, ?_, ?_⟩, (s.mono (fun a h => List.mem_append_left _ h)).more (fun a h => .inl (List.mem_append_right _ h)), fun a u h hc => s.keep a u h (cB a hc)⟩
  · refine List.nodup_append.mpr ⟨w'.nd, w.right.nd, fun x hx y hy e => ?_⟩
    subst e
    rcases s.foot x hx with q | q
    · exact cB x hy q
    · exact w.right.on x hy (imm_none q)
  · intro x hx
    rcases List.mem_append.mp hx with hx | hx
    · exact w'.off x hx
    · cases z : F' x with
      | none => rfl
      | some o =>
        rcases s.new x o z with q | q | q
        · rw [w.right.off x hx] at q; cases q
        · exact absurd q (cB x hx)
        · exact absurd q (w.right.on x hx)
  · intro x hx
    rcases List.mem_append.mp hx with hx | hx
    · exact w'.on x hx
    · exact s.held (cB x hx) (w.right.on x hx)
theorem Owns.append {F H : Hp} : ∀ {vs ws : List V} {os qs : List O} {A B : List Addr}, Owns K F H vs os A → Owns K F H ws qs B → Owns K F H (vs ++ ws) (os ++ qs) (A ++ B)
  | _, _, _, _, _, _, .nil, s => s
  | _, _, _, _, _, _, .cons h r, s => by rw [List.append_assoc]; exact .cons h (r.append s)

def XL (S : Sig) (ρ : Env) (e : Expr) (o : O) (up : O → Env) : Prop := ∃ t : TE, (∀ q, S.Ok q → PE (S.cx q) e t) ∧ ∀ (σ : L2.St) (F H : Hp) (A : List Addr) (Q : VK), WF F H A → Envs S.K F H σ ρ A → (∀ v B C, Foc S.K F H σ A v o up B C → Q v H) → t σ H Q
section
variable {S : Sig} {ρ ρ1 : Env} {a b c e : Expr} {d d1 d2 d3 : D} {ds : List D} {pos p2 : Pos} {pin : List Nat} {es : List Expr} {o : O} {up : O → Env}
theorem xl_var (i : Nat) {x : Str} (hρ : ρ[i]? = some (some o) := by rfl) (hN : S.N[i]? = some x := by rfl) (hv : Vis S.scope x := by first | exact Or.inl rfl | exact Or.inr (Or.inl rfl) | exact Or.inr (Or.inr rfl))
    (hd : (x == ("__debug__" : Str)) = false := by decide) (hcd : (x == ("__classdict__" : Str)) = false := by decide) : XL S ρ (.Name x pos) o (fun o' => ρ.set i (some o')) :=
  ⟨tVar i, fun q _ => pe_var hN hv hd hcd, fun σ F H A Q w n q => by
    obtain ⟨v, B, A', h1, h2, h3, h4⟩ := n.get hρ
    refine ⟨v, h1, q v B A' ⟨h2, h4, fun F' H' o' B' e k ow => ?_⟩⟩
    have e2 : (ρ.set i none)[i]? = some none := by
      rw [List.getElem?_set_self]
      exact (List.getElem?_eq_some_iff.mp hρ).1
    obtain ⟨A2, n3, p3⟩ := (h3.mono e (S := A') k fun _ h => h).back ow e2 h1
    rw [List.set_set] at n3
    exact ⟨A2, n3, p3⟩⟩
/-- the place of a field -/
def fidx (f : Str) : List Str → Option Nat
  | [] => none
  | g :: r => if f = g then some 0 else (fidx f r).map (· + 1)
theorem fidx_get {f : Str} : ∀ {fs : List (Str × V)} {j : Nat}, fidx f (fs.map (·.1)) = some j → fs.lookup f = (fs.map (·.2))[j]?
  | [], _, e => by cases e
  | (g, v) :: r, j, e => by
    simp only [List.map_cons, fidx] at e
    by_cases h : f = g
    · rw [if_pos h] at e
      cases e
      subst h
      simp [List.lookup]
    · rw [if_neg h] at e
      cases z : fidx f (r.map (·.1)) with
      | none => rw [z] at e; cases e
      | some k =>
        rw [z] at e
        cases e
        have := fidx_get z
        simp only [List.map_cons, List.getElem?_cons_succ, ← this, List.lookup]
        rw [beq_eq_false_iff_ne.mpr h]
theorem fidx_none {f : Str} : ∀ {fs : List (Str × V)}, fidx f (fs.map (·.1)) = none → fs.lookup f = none
  | [], _ => rfl
  | (g, v) :: r, e => by
    simp only [List.map_cons, fidx] at e
    by_cases h : f = g
    · rw [if_pos h] at e; cases e
    · rw [if_neg h] at e
      have : fidx f (r.map (·.1)) = none := by
        cases z : fidx f (r.map (·.1)) with
        | none => rfl
        | some k => rw [z] at e; cases e
      simp only [List.lookup]
      rw [beq_eq_false_iff_ne.mpr h]
      exact fidx_none this
theorem putF_new {f : Str} {v : V} : ∀ {fs : List (Str × V)}, fidx f (fs.map (·.1)) = none → putF f v fs = fs ++ [(f, v)]
  | [], _ => rfl
  | (g, x) :: r, e => by
    simp only [List.map_cons, fidx] at e
    by_cases h : f = g
    · rw [if_pos h] at e; cases e
    · rw [if_neg h] at e
      have z : fidx f (r.map (·.1)) = none := by
        cases z : fidx f (r.map (·.1)) with
        | none => rfl
        | some k => rw [z] at e; cases e
      show (if g = f then _ else _) = _
      rw [if_neg fun z => h z.symm, putF_new z]
      rfl
theorem putF_old {f : Str} {v : V} : ∀ {fs : List (Str × V)} {j : Nat}, fidx f (fs.map (·.1)) = some j → (putF f v fs).map (·.1) = fs.map (·.1) ∧ (putF f v fs).map (·.2) = (fs.map (·.2)).set j v
  | [], _, e => by cases e
  | (g, x) :: r, j, e => by
    simp only [List.map_cons, fidx] at e
    by_cases h : f = g
    · rw [if_pos h] at e
      cases e
      subst h
      show (if f = f then _ else _ : List (Str × V)).map _ = _ ∧ (if f = f then _ else _ : List (Str × V)).map _ = _
      rw [if_pos rfl]
      exact ⟨rfl, rfl⟩
    · rw [if_neg h] at e
      cases z : fidx f (r.map (·.1)) with
      | none => rw [z] at e; cases e
      | some k =>
        rw [z] at e
        cases e
        obtain ⟨h1, h2⟩ := putF_old (v := v) z
        show (if g = f then _ else _ : List (Str × V)).map _ = _ ∧ (if g = f then _ else _ : List (Str × V)).map _ = _
        rw [if_neg fun z => h z.symm]
        exact ⟨by rw [List.map_cons, h1]; rfl, by rw [List.map_cons, h2]; rfl⟩
theorem xl_fld {C : Addr} {ns : List Str} {os : List O} {f : Str} (j : Nat) (c : Cls S.K C) (na : NoAttr S.K C f) (h : XL S ρ e (.ins C ns os) up) (hf : fidx f ns = some j := by decide) (hj : os[j]? = some o := by rfl) (hb : ∀ env : PySem.Env, attributeBase e f env (eval e env) = eval e env := by intro _; rfl) :
    XL S ρ (.Attribute e f pos) o (fun o' => up (.ins C ns (os.set j o'))) := by
  obtain ⟨t, h1, h2⟩ := h
  refine ⟨tFld S.K t f, fun q ok => pe_fld (h1 q ok) (hb _), fun σ F H A Q w n q => h2 σ F H A _ w n fun v B C0 fo => ?_⟩
  cases fo with
  | mk ow p bk =>
  cases ow with
  | ins ha hn r =>
    rename_i a dx fs A0
    obtain ⟨v, B1, C1, g1, g2, g3, g4⟩ := r.foc hj
    subst hn
    refine ⟨a, C, dx, fs, v, rfl, ha, c, na, by rw [fidx_get hf]; exact g1, q v B1 (a :: C1 ++ C0) ⟨g2, ?_, fun F' H' o' B' e k ow => ?_⟩⟩
    · refine p.trans ?_
      rw [← List.append_assoc]
      exact List.Perm.append_right C0 (perm_mid (D := [a]) g3)
    · obtain ⟨A1, n1, p1⟩ := g4 F' H' o' B' e (fun x u h hc => k x u h (by simp [hc])) ow
      obtain ⟨A2, n2, p2⟩ := bk F' H' (.ins C (fs.map (·.1)) (os.set j o')) (a :: A1) e (fun x u h hc => k x u h (by simp [hc])) (.ins (k a _ ha (by simp)) rfl n1)
      refine ⟨A2, n2, p2.trans ?_⟩
      rw [← List.append_assoc]
      exact List.Perm.append_right C0 (perm_mid (D := [a]) p1)
theorem XL.p (h : XL S ρ e (.fro d) up) : XP S ρ e (.ok d) := by
  obtain ⟨t, h1, h2⟩ := h
  refine ⟨t, h1, fun σ F H A Q w n q => h2 σ F H A _ w n fun v B C fo => ?_⟩
  cases fo with
  | mk ow p bk =>
  cases ow with
  | fro r => exact q v F H (Grow.refl w.sub) r
theorem XL.v (h : XL S ρ e o up) : XV S ρ e o.d := by
  obtain ⟨t, h1, h2⟩ := h
  exact ⟨t, h1, fun σ F H A Q w n q => h2 σ F H A _ w n fun v B C fo => q v F H (Grow.refl w.sub) (fo.own.rep w.sub)⟩
/-- a field of a frozen instance -/
theorem xp_fld {C : Addr} {ns : List Str} {f : Str} (j : Nat) (c : Cls S.K C) (na : NoAttr S.K C f) (h : XP S ρ e (.ok (.ins C ns ds))) (hf : fidx f ns = some j := by decide) (hj : ds[j]? = some d := by rfl) (hb : ∀ env : PySem.Env, attributeBase e f env (eval e env) = eval e env := by intro _; rfl) :
    XP S ρ (.Attribute e f pos) (.ok d) := by
  obtain ⟨t, h1, h2⟩ := h
  refine ⟨tFld S.K t f, fun q ok => pe_fld (h1 q ok) (hb _), fun σ F H A Q w n q => h2 σ F H A _ w n fun v F1 H1 g r => ?_⟩
  cases r with
  | ins ha hn r =>
    subst hn
    obtain ⟨v, g1, g2⟩ := r.get hj
    exact ⟨_, _, _, _, v, rfl, g.ext _ _ ha, c, na, by rw [fidx_get hf]; exact g1, q v F1 H1 g g2⟩
theorem xv_fld {C : Addr} {ns : List Str} {f : Str} (j : Nat) (c : Cls S.K C) (na : NoAttr S.K C f) (h : XV S ρ e (.ins C ns ds)) (hf : fidx f ns = some j := by decide) (hj : ds[j]? = some d := by rfl) (hb : ∀ env : PySem.Env, attributeBase e f env (eval e env) = eval e env := by intro _; rfl) :
    XV S ρ (.Attribute e f pos) d := by
  obtain ⟨t, h1, h2⟩ := h
  refine ⟨tFld S.K t f, fun q ok => pe_fld (h1 q ok) (hb _), fun σ F H A Q w n q => h2 σ F H A _ w n fun v F1 H1 g r => ?_⟩
  cases r with
  | ins ha hn r =>
    subst hn
    obtain ⟨v, g1, g2⟩ := r.get hj
    exact ⟨_, _, _, _, v, rfl, ha, c, na, by rw [fidx_get hf]; exact g1, q v F1 H1 g g2⟩

/-! ### lists: append, extend -/
theorem xx_append {os : List O} {apos cpos : Pos} (hl : XL S ρ a (.lst os) up) (he : XP S ρ e (.ok d)) (hn : os.length < 1000000)
    (hbase : ∀ env : PySem.Env, attributeBase a "append" env (eval a env) = eval a env := by intro _; rfl)
    (hfew : ∀ env : PySem.Env, ((backTo cpos (starEach [e] env)).all (fun x => !x.1) && (backToKw cpos (keywordEach [] env)).all (fun x => x.1.isSome) && decide ([e].length + ([] : List Keyword).length + (if ([] : List Keyword).isEmpty then 0 else 1) < 30)) = true := by intro _; rfl)
    (hline : (apos.endLine == cpos.line) = true := by rfl) (hs : ∀ env : PySem.Env, starEach [e] env = (false, eval e env) :: starEach [] env := by intro _; rfl) (hplain : ∀ env : PySem.Env, (backTo cpos (starEach [] env)).any (·.1) = false := by intro _; rfl) :
    XX S ρ (.Call (.Attribute a "append" apos) [e] [] cpos) (.ok (.fro .non) (up (.lst (os ++ [.fro d])))) := by
  obtain ⟨t, h1, h2⟩ := hl
  obtain ⟨ta, a1, a2⟩ := xa_cons he xa_nil hs
  refine ⟨tBM S.K "list" rAppend t ta, fun q ok => pe_bm PySem.F.plainAttrs_list PySem.F.slot_list_append PySem.F.type_list_append mt_append (h1 q ok) (a1 q ok) (hbase _) (hfew _) hline (hs _) (hplain _), fun σ F H A Q w n q => h2 σ F H A _ w n fun v B C fo => ?_⟩
  cases fo with
  | mk ow p bk =>
  cases ow with
  | lst hx r =>
    rename_i l xs A0
    refine ⟨.inl ⟨rfl, _, SqL.of hx⟩, a2 σ F H A _ w n fun vs F1 H1 g rr => ?_⟩
    obtain ⟨y, rfl, ry⟩ := reps1 rr
    have len := r.length
    have fo := (Foc.mk (.lst hx r) p bk : Foc S.K F H σ A (.ref l) (.lst os) up (l :: A0) C).grow g
    have w1 := g.wf w
    have lA : l ∉ A0 := fun z => by
      have := (w1.perm fo.perm).left.nd
      exact (List.nodup_cons.mp this).1 z
    refine ⟨l, xs, y, rfl, rfl, g.hh _ _ hx, line_lt (by omega), ?_⟩
    obtain ⟨A', n', w', s'⟩ := Foc.mut (B2 := []) (A1 := A0 ++ []) (X := []) (u := .lst (xs ++ [y])) (o' := .lst (os ++ [.fro d])) w1 fo (by simp) (.lst upd_same (Owns.append ((g.owns r).mono (Ext.refl _) (S := A0) (fun x u h hx => by rw [upd_ne fun z => lA (by rw [← z]; exact hx)]; exact h) fun _ h => h) (Owns.fros (ds := [d]) (.cons ry .nil))))
    refine q .non F1 _ [] A' w' (Stp.trans ((g.stp.mono (by simp) (A' := A)).more (C := A) fun a h => .inl h) s') (.fro .non) n'
theorem xx_extend {os : List O} {apos cpos : Pos} (hl : XL S ρ a (.lst os) up) (he : XP S ρ e (.ok (.lst ds))) (hn : os.length + ds.length ≤ 1000000)
    (hbase : ∀ env : PySem.Env, attributeBase a "extend" env (eval a env) = eval a env := by intro _; rfl)
    (hfew : ∀ env : PySem.Env, ((backTo cpos (starEach [e] env)).all (fun x => !x.1) && (backToKw cpos (keywordEach [] env)).all (fun x => x.1.isSome) && decide ([e].length + ([] : List Keyword).length + (if ([] : List Keyword).isEmpty then 0 else 1) < 30)) = true := by intro _; rfl)
    (hline : (apos.endLine == cpos.line) = true := by rfl) (hs : ∀ env : PySem.Env, starEach [e] env = (false, eval e env) :: starEach [] env := by intro _; rfl) (hplain : ∀ env : PySem.Env, (backTo cpos (starEach [] env)).any (·.1) = false := by intro _; rfl) :
    XX S ρ (.Call (.Attribute a "extend" apos) [e] [] cpos) (.ok (.fro .non) (up (.lst (os ++ ds.map .fro)))) := by
  obtain ⟨t, h1, h2⟩ := hl
  obtain ⟨ta, a1, a2⟩ := xa_cons he xa_nil hs
  refine ⟨tBM S.K "list" rExtend t ta, fun q ok => pe_bm PySem.F.plainAttrs_list PySem.F.slot_list_extend PySem.F.type_list_extend mt_extend (h1 q ok) (a1 q ok) (hbase _) (hfew _) hline (hs _) (hplain _), fun σ F H A Q w n q => h2 σ F H A _ w n fun v B C fo => ?_⟩
  cases fo with
  | mk ow p bk =>
  cases ow with
  | lst hx r =>
    rename_i l xs A0
    refine ⟨.inl ⟨rfl, _, SqL.of hx⟩, a2 σ F H A _ w n fun vs F1 H1 g rr => ?_⟩
    obtain ⟨y, rfl, ry⟩ := reps1 rr
    cases ry with
    | lst hz rz =>
    rename_i b zs
    have len := r.length
    have len2 := rz.length
    have fo := (Foc.mk (.lst hx r) p bk : Foc S.K F H σ A (.ref l) (.lst os) up (l :: A0) C).grow g
    have w1 := g.wf w
    have lA : l ∉ A0 := fun z => by
      have := (w1.perm fo.perm).left.nd
      exact (List.nodup_cons.mp this).1 z
    refine ⟨l, b, xs, zs, rfl, rfl, g.hh _ _ hx, g.ext _ _ hz, line_le (by omega), ?_⟩
    obtain ⟨A', n', w', s'⟩ := Foc.mut (B2 := []) (A1 := A0 ++ []) (X := []) (u := .lst (xs ++ zs)) (o' := .lst (os ++ ds.map .fro)) w1 fo (by simp) (.lst upd_same (Owns.append ((g.owns r).mono (Ext.refl _) (S := A0) (fun x u h hx => by rw [upd_ne fun z => lA (by rw [← z]; exact hx)]; exact h) fun _ h => h) (Owns.fros rz)))
    refine q .non F1 _ [] A' w' (Stp.trans ((g.stp.mono (by simp) (A' := A)).more (C := A) fun a h => .inl h) s') (.fro .non) n'

/-! ### e.f = v -/
theorem xs_fldN {C : Addr} {ns : List Str} {os : List O} {f : Str} {value : Expr} {pos' : Pos} {o2 : O} (c : Cls S.K C) (na : NoAttr S.K C f) (hv : XX S ρ value (.ok o2 ρ1)) (h : XL S ρ1 e (.ins C ns os) up) (hf : fidx f ns = none := by decide) (hl : ns.length < 900 := by decide)
    (hs : ∀ env : PySem.Env, swapsWith value (some (.Attribute e f pos')) pos.line env = pure false := by intro _; rfl) : XS S pin ρ (.Assign [.Attribute e f pos'] value pos) (.nx (up (.ins C (ns ++ [f]) (os ++ [o2])))) := by
  obtain ⟨tv, v1, v2⟩ := hv
  obtain ⟨t, h1, h2⟩ := h
  refine ⟨sFld S.K t tv f, fun q ok => ps_fld (h1 q ok) (v1 q ok) (hs _), fun σ F H A D w n q => v2 σ F H A _ w n fun y F1 H1 B2 A1 w1 s1 ow n1 => h2 σ F1 H1 A1 _ w1.right n1 fun v B C0 fo => ?_⟩
  cases fo with
  | mk ow1 p bk =>
  cases ow1 with
  | ins ha hn r =>
    rename_i l dx fs A0
    subst hn
    have fo : Foc S.K F1 H1 σ A1 (.ref l) (.ins C (fs.map (·.1)) os) up (l :: A0) C0 := .mk (.ins ha rfl r) p bk
    have lA : l ∉ A0 := fun z => (List.nodup_cons.mp (w1.right.perm p).left.nd).1 z
    have lB : l ∉ B2 := fun z => w1.dis z (p.mem_iff.mpr (by simp))
    have kp : ∀ {S' : List Addr}, l ∉ S' → ∀ x u', H1 x = some u' → x ∈ S' → upd H1 l (.ins C dx (fs ++ [(f, y)])) x = some u' := fun hS x u' h hx => by rw [upd_ne fun z => hS (by rw [← z]; exact hx)]; exact h
    rw [List.length_map] at hl
    have e0 := putF_new (v := y) hf
    obtain ⟨A', n', w', s'⟩ := Foc.mut (B2 := B2) (A1 := A0 ++ (B2 ++ [])) (X := []) (u := .ins C dx (fs ++ [(f, y)])) (o' := .ins C (fs.map (·.1) ++ [f]) (os ++ [o2])) w1 fo (by simp) (.ins upd_same (by rw [List.map_append]; rfl) (by
      rw [List.map_append]
      exact Owns.append (r.mono (Ext.refl _) (S := A0) (kp lA) fun _ h => h) (.cons (ow.mono (Ext.refl _) (S := B2) (kp lB) fun _ h => h) .nil)))
    exact ⟨l, C, dx, fs, rfl, ha, c, na, by omega, by rw [e0]; exact q σ F1 _ A' w' (s1.trans s') n' Pin.refl⟩
theorem Owns.set {F H : Hp} {v : V} {o : O} {B : List Addr} (h : Own K F H v o B) : ∀ {vs : List V} {os : List O} {A : List Addr} {j : Nat}, Owns K F H vs os A → j < os.length → ∃ A' X, Owns K F H (vs.set j v) (os.set j o) A' ∧ (A' ++ X).Perm (A ++ B)
  | _, _, _, _, .nil, e => by simp at e
  | _, _, _, 0, .cons (A := A1) (B := A2) g r, _ => ⟨_, A1, .cons h r, List.perm_iff_count.mpr fun a => by simp only [List.count_append]; omega⟩
  | _, _, _, j + 1, .cons (A := A1) (B := A2) g r, e => by
    obtain ⟨A', X, h1, h2⟩ := r.set h (j := j) (by simpa using e)
    exact ⟨_, X, .cons g h1, by rw [List.append_assoc, List.append_assoc]; exact List.Perm.append_left A1 h2⟩
theorem xs_fldO {C : Addr} {ns : List Str} {os : List O} {f : Str} {value : Expr} {pos' : Pos} {o2 : O} (j : Nat) (c : Cls S.K C) (na : NoAttr S.K C f) (hv : XX S ρ value (.ok o2 ρ1)) (h : XL S ρ1 e (.ins C ns os) up) (hf : fidx f ns = some j := by decide) (hl : ns.length < 900 := by decide) (hj : j < os.length := by decide)
    (hs : ∀ env : PySem.Env, swapsWith value (some (.Attribute e f pos')) pos.line env = pure false := by intro _; rfl) : XS S pin ρ (.Assign [.Attribute e f pos'] value pos) (.nx (up (.ins C ns (os.set j o2)))) := by
  obtain ⟨tv, v1, v2⟩ := hv
  obtain ⟨t, h1, h2⟩ := h
  refine ⟨sFld S.K t tv f, fun q ok => ps_fld (h1 q ok) (v1 q ok) (hs _), fun σ F H A D w n q => v2 σ F H A _ w n fun y F1 H1 B2 A1 w1 s1 ow n1 => h2 σ F1 H1 A1 _ w1.right n1 fun v B C0 fo => ?_⟩
  cases fo with
  | mk ow1 p bk =>
  cases ow1 with
  | ins ha hn r =>
    rename_i l dx fs A0
    subst hn
    have fo : Foc S.K F1 H1 σ A1 (.ref l) (.ins C (fs.map (·.1)) os) up (l :: A0) C0 := .mk (.ins ha rfl r) p bk
    have lA : l ∉ A0 := fun z => (List.nodup_cons.mp (w1.right.perm p).left.nd).1 z
    have lB : l ∉ B2 := fun z => w1.dis z (p.mem_iff.mpr (by simp))
    have kp : ∀ {S' : List Addr}, l ∉ S' → ∀ x u', H1 x = some u' → x ∈ S' → upd H1 l (.ins C dx (putF f y fs)) x = some u' := fun hS x u' h hx => by rw [upd_ne fun z => hS (by rw [← z]; exact hx)]; exact h
    rw [List.length_map] at hl
    obtain ⟨e1, e2⟩ := putF_old (v := y) hf
    obtain ⟨A1', X, ows, pp⟩ := Owns.set (ow.mono (Ext.refl _) (S := B2) (kp lB) fun _ h => h) (r.mono (Ext.refl _) (S := A0) (kp lA) fun _ h => h) hj
    obtain ⟨A', n', w', s'⟩ := Foc.mut (B2 := B2) (A1 := A1') (X := X) (u := .ins C dx (putF f y fs)) (o' := .ins C (fs.map (·.1)) (os.set j o2)) w1 fo (by exact pp.cons l) (.ins upd_same e1 (by rw [e2]; exact ows))
    exact ⟨l, C, dx, fs, rfl, ha, c, na, by omega, q σ F1 _ A' w' (s1.trans s') n' Pin.refl⟩
end

/-! ### methods -/
def rmM (ds : List D) : Except Str O × O → RM
  | (.ok o, s) => .ok o (s :: ds.map O.fro)
  | (.error x, s) => .ex x (s :: ds.map O.fro)
/-- the receiver is owned, all else is frozen -/
abbrev spM (K : PySem.W.Frag) {τ : Type} (dd : τ → List D) (slf : τ → O) (pre : τ → Prop) (res : τ → Except Str O × O) : Sp := spG K (fun x => slf x :: (dd x).map O.fro) pre fun x => rmM (dd x) (res x)
structure MeG (P : Program) (w : World) (K : PySem.W.Frag) (mg : Str → Option Value) (base : Heap) (k : Nat) (C : Addr) (m : Str) (ps : List Str) (sp : Sp) : Prop where
  h : ∃ f fd, FnOk P w K mg base (L2N.CX P w) k f fd ps sp ∧ Meth K C m f ∧ Binds K fd ps []
  c : Cls K C
structure MkG (P : Program) (w : World) (K : PySem.W.Frag) (mg : Str → Option Value) (base : Heap) (k : Nat) (x : Str) (C : Addr) (ps : List Str) (sp : Sp) : Prop where
  h : ∃ f fd, FnOk P w K mg base (L2N.CX P w) k f fd ps sp ∧ Mk K C f ∧ Binds K fd ps [] ∧ mg x = some (.ref C)
def tMethS (C : Addr) (m : Str) (sp : Sp) (E : L2.St → XK) (ta : TE) (t : TA) : TE := fun σ H Q => ta σ H fun x H1 => ∃ a dx fs, x = .ref a ∧ H1 a = some (.ins C dx fs) ∧ fs.lookup m = none ∧ t σ H1 fun vs H2 => sp (x :: vs) H2 Q (E σ)
theorem pe_methS {X : Cx} {CX : CXT} {k : Nat} {f C : Addr} {fd : FuncData} {ps : List Str} {sp : Sp} {E : L2.St → XK} {m : Str} {pos apos : Pos} {e o : Expr} {es : List Expr} {ta : TE} {t : TA} {pl : Sem Bool} (he : PE X o ta) (c : Cls X.K C) (hm : Meth X.K C m f)
    (F : FnOk X.prog X.w X.K X.mg X.base CX k f fd ps sp) (hr : Room k X.A) (hb : Binds X.K fd ps []) (hx : ∀ σ, PassesAt CX X σ (E σ)) (ha : PA X (e :: es) t)
    (hst : starEach (e :: es) X.env = (false, eval e X.env) :: starEach es X.env) (hpl : (backTo pos (starEach es X.env)).any (·.1) = false)
    (ht : eval (.Call (.Attribute o m apos) (e :: es) [] pos) X.env = (do
      let ov ← eval o X.env
      standAt apos.atName
      let (f, first) ← holding [ov] (getMethod ov m pl)
      callWith pos f first (backTo pos (starEach (e :: es) X.env)) (backToKw pos (keywordEach [] X.env)))) :
    PE X (.Call (.Attribute o m apos) (e :: es) [] pos) (tMethS C m sp E ta t) := by
  refine ⟨fun pins s σ H Q I h => ?_⟩
  refine PySem.W.methodCall_KW (pl := pl) (thn (he.run pins s σ H _ I h) fun u s1 ⟨x, H1, I1, rx, a, dx, fs, ex, ea, l, q⟩ => ?_) ht
  subst ex
  obtain rfl : u = Value.ref a := rx
  refine getmeth_ok I1 ea c hm l ?_
  refine PySem.W.callWith_K (first := [.ref a]) (h₀ := X.base) I.ok.mod.kin hm.kp (thn (ha.run pos pins s1 σ H1 _ I1 q) fun us s2 ⟨vs, H2, I2, r, q2⟩ => ⟨I2.kIn, ?_⟩) hst hpl
  exact run_fnS (us := .ref a :: us) (vs := .ref a :: vs) F hr hb (hx σ) I2 (.cons rfl r) q2
theorem pe_methS0 {X : Cx} {CX : CXT} {k : Nat} {f C : Addr} {fd : FuncData} {ps : List Str} {sp : Sp} {E : L2.St → XK} {m : Str} {pos apos : Pos} {o : Expr} {ta : TE} {pl : Sem Bool} (he : PE X o ta) (c : Cls X.K C) (hm : Meth X.K C m f)
    (F : FnOk X.prog X.w X.K X.mg X.base CX k f fd ps sp) (hr : Room k X.A) (hb : Binds X.K fd ps []) (hx : ∀ σ, PassesAt CX X σ (E σ))
    (ht : eval (.Call (.Attribute o m apos) [] [] pos) X.env = (do
      let ov ← eval o X.env
      standAt apos.atName
      let (f, first) ← holding [ov] (getMethod ov m pl)
      callWith pos f first (backTo pos (starEach [] X.env)) (backToKw pos (keywordEach [] X.env)))) :
    PE X (.Call (.Attribute o m apos) [] [] pos) (tMethS C m sp E ta tNil) := by
  refine ⟨fun pins s σ H Q I h => ?_⟩
  refine PySem.W.methodCall_KW (pl := pl) (thn (he.run pins s σ H _ I h) fun u s1 ⟨x, H1, I1, rx, a, dx, fs, ex, ea, l, q⟩ => ?_) ht
  subst ex
  obtain rfl : u = Value.ref a := rx
  refine getmeth_ok I1 ea c hm l ?_
  exact PySem.W.callWith_K0 (first := [.ref a]) I1.kIn hm.kp (run_fnS (us := [.ref a]) (vs := [.ref a]) F hr hb (hx σ) I1 (.cons rfl .nil) q)
theorem run_makeS {X : Cx} {CX : CXT} {k : Nat} {f C : Addr} {fd : FuncData} {ps : List Str} {sp : Sp} {E : L2.St → XK} {pins : List (Addr × Obj)} {σ : L2.St} {H : Hp} {s : Shared} {Q : VK} {us : List Value} {vs : List V} (M : Mk X.K C f) (F : FnOk X.prog X.w X.K X.mg X.base CX k f fd ps sp) (hr : Room (k + 1) X.A) (hb : Binds X.K fd ps [])
    (hx : PassesAt CX X σ (E σ)) (I : Inv X pins σ H s) (r : Vals vs us)
    (h : ∀ x dx, H x = none → H dx = none → dx ≠ x → sp (.ref x :: vs) (upd (upd H dx (.own x)) x (.ins C dx [])) (fun v H2 => v = .non ∧ Q (.ref x) H2) (E σ)) :
    wpAny (model X.prog X.w) X.A (call (.ref C) us) (L2.EP X pins σ Q) X.xe s := by
  have hq := h (s.heap.objs.size + 1) s.heap.objs.size (I.hok.fresh (Nat.le_succ _)) (I.hok.fresh (Nat.le_refl _)) (Nat.ne_of_lt (Nat.lt_succ_self _))
  have I2 := Inv.made (C := C) I
  have r2 : Vals (V.ref (s.heap.objs.size + 1) :: vs) (Value.ref (s.heap.objs.size + 1) :: us) := .cons rfl r
  have hl : (Value.ref (s.heap.objs.size + 1) :: us).length = ps.length := by
    have e := r2.length
    rw [F.len _ _ _ _ hq] at e
    exact e.symm
  have b := hb _ (Value.ref (s.heap.objs.size + 1) :: us) I2.kIn (by rw [List.append_nil]; exact hl)
  rw [List.append_nil] at b
  refine wpAny_call (make_map (f := f) I.kIn M.makes M.init (beq_iff_eq.mp M.fn) (codeAny_mono (F.run _ X.stack _ _ ⟨Value.ref (s.heap.objs.size + 1) :: us, []⟩ (Value.ref (s.heap.objs.size + 1) :: us) _ _ (E σ) (hr.make C us [])
    (I2.env0.make C us []) b r2 hq) fun r s' hq' => ?_))
  cases r with
  | error e => exact hx pins _ _ e s' I2 hq'
  | ok fl =>
    cases fl with
    | ret u =>
      obtain ⟨v, H', I3, rv, ev, q3⟩ := I2.after hq'
      subst ev
      exact ⟨rv, ⟨V.ref (s.heap.objs.size + 1), H', I3, rfl, q3⟩⟩
    | next => exact False.elim hq'
    | brk => exact False.elim hq'
    | cont => exact False.elim hq'
def tMakeS (C : Addr) (sp : Sp) (E : L2.St → XK) (t : TA) : TE := fun σ H Q => t σ H fun vs H1 => ∀ x dx, H1 x = none → H1 dx = none → dx ≠ x →
  sp (.ref x :: vs) (upd (upd H1 dx (.own x)) x (.ins C dx [])) (fun v H2 => v = .non ∧ Q (.ref x) H2) (E σ)
theorem pe_makeS {X : Cx} {CX : CXT} {k : Nat} {f C : Addr} {fd : FuncData} {ps : List Str} {sp : Sp} {E : L2.St → XK} {x : Str} {p pos : Pos} {e : Expr} {es : List Expr} {t : TA} (M : Mk X.K C f) (F : FnOk X.prog X.w X.K X.mg X.base CX k f fd ps sp) (hr : Room (k + 1) X.A) (hg : Gl X x) (hm : X.mg x = some (.ref C)) (hb : Binds X.K fd ps []) (hx : ∀ σ, PassesAt CX X σ (E σ))
    (ha : PA X (e :: es) t) (hdb : (x == ("__debug__" : Str)) = false) (he : starEach (e :: es) X.env = (false, eval e X.env) :: starEach es X.env) (hpl : (backTo pos (starEach es X.env)).any (·.1) = false) :
    PE X (.Call (.Name x p) (e :: es) [] pos) (tMakeS C sp E t) := by
  refine ⟨fun pins s σ H Q I h => ?_⟩
  refine wpAny_Call_Name_kw (ld_glob I hg hm ?_ hdb)
  refine PySem.W.callWith_K (h₀ := X.base) I.ok.mod.kin M.kp (thn (ha.run pos pins s σ H _ I h) fun us s1 ⟨vs, H1, I1, r, q⟩ => ⟨I1.kIn, ?_⟩) he hpl
  exact run_makeS M F hr hb (hx σ) I1 r q
section
variable {S : Sig} {ρ ρ1 : Env} {a b c e : Expr} {d d1 d2 d3 : D} {ds : List D} {pos p2 : Pos} {pin : List Nat} {es : List Expr} {o : O} {up : O → Env} {x m : Str} {ps : List Str} {k : Nat} {C : Addr}
variable {τ : Type} {dd : τ → List D} {pre : τ → Prop} {slf : τ → O} {res : τ → Except Str O × O}
def exM (up : O → Env) : Except Str O × O → RE
  | (.ok o, s) => .ok o (up s)
  | (.error x, s) => .ex x (up s)
theorem ex_meth {t : TE} {ta : TA} (y : τ) (hp : pre y) {ns : List Str} {os : List O} (hC : slf y = .ins C ns os) (hm : fidx m ns = none)
    (hl : ∀ (σ : L2.St) (F H : Hp) (A : List Addr) (Q : VK), WF F H A → Envs S.K F H σ ρ A → (∀ v B C, Foc S.K F H σ A v (slf y) up B C → Q v H) → t σ H Q) (ha : EA S ta ρ (dd y)) :
    EX S (tMethS C m (spM S.K dd slf pre res) (WE S.wx) t ta) ρ (exM up (res y)) := fun σ F H A Q w n q => hl σ F H A _ w n fun v B C0 fo => by
  have ow1 := fo.own
  rw [hC] at ow1
  cases ow1 with
  | ins hx hn r =>
    rename_i l dx fs A0
    subst hn
    refine ⟨l, dx, fs, rfl, hx, fidx_none hm, ha σ F H A _ w n fun vs F1 H1 g rr => ?_⟩
    have fo := fo.grow g
    have w1 := (g.wf w).perm fo.perm
    refine ⟨y, F1, (l :: A0) ++ [], by rw [List.append_nil]; exact w1.left, .cons fo.own (Owns.fros rr), hp, ?_⟩
    rw [List.append_nil]
    show RM.Post _ _ _ _ _ _ _ (rmM (dd y) (res y))
    have s0 : Stp F H A F1 H1 ((l :: A0) ++ C0) := ((g.stp.mono (by simp) (A' := A)).more (C := A) fun a h => .inl h).perm (fun _ => Iff.rfl) fun a h => by simpa using fo.perm.mem_iff.mpr h
    rcases hr : res y with ⟨z | z, s⟩
    · rw [hr] at q
      intro F2 H2 A2 w2 s2 ows
      cases ows with
      | cons ow r2 =>
        rename_i B1 B2
        obtain ⟨_, rfl⟩ := Owns.fros_inv r2
        rw [List.append_nil] at w2 s2
        obtain ⟨w3, s3, k3⟩ := frame w1 s2 w2
        obtain ⟨A', n', p'⟩ := fo.back F2 H2 s B1 s2.fs k3 ow
        exact q F2 H2 A' (w3.perm p'.symm) ((s0.trans s3).perm (fun _ => Iff.rfl) fun a h => p'.mem_iff.mp h) n'
    · rw [hr] at q
      intro v F2 H2 Bo A2 w2 s2 ow2 ows
      cases ows with
      | cons ow r2 =>
        rename_i B1 B2
        obtain ⟨_, rfl⟩ := Owns.fros_inv r2
        rw [List.append_nil] at w2 s2
        obtain ⟨w3, s3, k3⟩ := frame w1 s2 w2
        obtain ⟨A', n', p'⟩ := fo.back F2 H2 s B1 s2.fs k3 ow
        have p2 : (Bo ++ B1 ++ C0).Perm (Bo ++ A') := by
          rw [List.append_assoc]
          exact List.Perm.append_left Bo p'.symm
        exact q v F2 H2 Bo A' (w3.perm p2) ((s0.trans s3).perm (fun _ => Iff.rfl) fun a h => p2.mem_iff.mpr h) ow2 n'
/-- e.m(a, ..) -/
theorem xx_meth [Calm S] {apos : Pos} {pl : PySem.Env → Sem Bool} (hG : MeG S.P S.w S.K S.mg S.base k C m ps (spM S.K dd slf pre res)) (y : τ) (hp : pre y) (hl : XL S ρ a (slf y) up) {ns : List Str} {os : List O} (hC : slf y = .ins C ns os) (ha : XA S ρ (e :: es) (dd y)) (hk : k ≤ S.kk := by exact Nat.le_of_ble_eq_true rfl) (hm : fidx m ns = none := by decide)
    (he : ∀ env : PySem.Env, starEach (e :: es) env = (false, eval e env) :: starEach es env := by intro _; rfl) (hpl : ∀ env : PySem.Env, (backTo pos (starEach es env)).any (·.1) = false := by intro _; rfl)
    (ht : ∀ env : PySem.Env, eval (.Call (.Attribute a m apos) (e :: es) [] pos) env = (do
      let ov ← eval a env
      standAt apos.atName
      let (f, first) ← holding [ov] (getMethod ov m (pl env))
      callWith pos f first (backTo pos (starEach (e :: es) env)) (backToKw pos (keywordEach [] env))) := by intro _; rfl) : XX S ρ (.Call (.Attribute a m apos) (e :: es) [] pos) (exM up (res y)) := by
  obtain ⟨f, fd, F, me, b⟩ := hG.h
  obtain ⟨t, h1, h2⟩ := hl
  obtain ⟨ta, a1, a2⟩ := ha
  exact ⟨_, fun q ok => pe_methS (X := S.cx q) (h1 q ok) hG.c me F ((ok.calm Calm.h).mono hk) b (fun σ => L2N.passAt ok.tk σ) (a1 q ok) (he _) (hpl _) (ht _), ex_meth y hp hC hm h2 a2⟩
/-- e.m() -/
theorem xx_meth0 [Calm S] {apos : Pos} {pl : PySem.Env → Sem Bool} (hG : MeG S.P S.w S.K S.mg S.base k C m ps (spM S.K dd slf pre res)) (y : τ) (hp : pre y) (hl : XL S ρ a (slf y) up) {ns : List Str} {os : List O} (hC : slf y = .ins C ns os) (hd : dd y = []) (hk : k ≤ S.kk := by exact Nat.le_of_ble_eq_true rfl) (hm : fidx m ns = none := by decide)
    (ht : ∀ env : PySem.Env, eval (.Call (.Attribute a m apos) [] [] pos) env = (do
      let ov ← eval a env
      standAt apos.atName
      let (f, first) ← holding [ov] (getMethod ov m (pl env))
      callWith pos f first (backTo pos (starEach [] env)) (backToKw pos (keywordEach [] env))) := by intro _; rfl) : XX S ρ (.Call (.Attribute a m apos) [] [] pos) (exM up (res y)) := by
  obtain ⟨f, fd, F, me, b⟩ := hG.h
  obtain ⟨t, h1, h2⟩ := hl
  exact ⟨_, fun q ok => pe_methS0 (X := S.cx q) (h1 q ok) hG.c me F ((ok.calm Calm.h).mono hk) b (fun σ => L2N.passAt ok.tk σ) (ht _), ex_meth y hp hC hm h2 (by rw [hd]; exact fun σ F H A Q w n q => q [] F H (Grow.refl w.sub) .nil)⟩
/-- C(a, ..) -/
theorem en_make {t : TA} (y : τ) (hp : pre y) (hs : slf y = .ins C [] []) {s : O} (hr : res y = (.ok (.fro .non), s)) (ha : EA S t ρ (dd y)) : EN S (tMakeS C (spM S.K dd slf pre res) (WE S.wx) t) ρ s := fun σ F H A Q w n q => ha σ F H A _ w n fun vs F1 H1 g rr => by
  intro x dx hx hdx hne
  have g0 := g.ext
  have s1 : Stp F1 H1 [] F1 (upd (upd H1 dx (.own x)) x (.ins C dx [])) [x] := by
    refine ⟨Ext.refl _, fun a u h _ => ?_, fun a u h => .inl h, fun a h => ?_, fun a h => ?_⟩
    · rw [upd_ne (ne_of_none h hx), upd_ne (ne_of_none h hdx)]; exact h
    · rw [List.mem_singleton.mp h]; exact .inr hx
    · by_cases z : a = x
      · subst z; exact hx
      · rw [upd_ne z] at h
        by_cases z2 : a = dx
        · subst z2; exact hdx
        · rw [upd_ne z2] at h; exact h
  have w1 : WF F1 (upd (upd H1 dx (.own x)) x (.ins C dx [])) [x] := by
    refine ⟨fun a u h => ?_, by simp, fun a h => ?_, fun a h => ?_⟩
    · exact s1.keep a u (g0 a u h) (by simp)
    · rw [List.mem_singleton.mp h]
      cases z : F1 x with
      | none => rfl
      | some u => rw [g0 x u z] at hx; cases hx
    · rw [List.mem_singleton.mp h, upd_same]; exact fun z => z
  refine ⟨y, F1, [x] ++ [], by simpa using w1, .cons (by rw [hs]; exact .ins (dx := dx) (fs := []) upd_same rfl .nil) (Owns.fros rr), hp, ?_⟩
  show RM.Post _ _ _ _ _ _ _ (rmM (dd y) (res y))
  rw [hr]
  intro v F2 H2 Bo A2 w2 s2 ow2 ows
  cases ow2 with
  | fro r0 =>
  cases r0
  refine ⟨rfl, ?_⟩
  cases ows with
  | cons ow r2 =>
    rename_i B1 B2
    obtain ⟨_, rfl⟩ := Owns.fros_inv r2
    simp only [List.nil_append, List.append_nil] at w2 s2
    exact q (.ref x) F2 H2 B1 ((g.stp.trans s1).trans s2) w2 ow
theorem ex_makeE {t : TA} (y : τ) (hp : pre y) (hs : slf y = .ins C [] []) {s : O} {z : Str} (hr : res y = (.error z, s)) (ha : EA S t ρ (dd y)) : EX S (tMakeS C (spM S.K dd slf pre res) (WE S.wx) t) ρ (.ex z ρ) := fun σ F H A Q w n q => ha σ F H A _ w n fun vs F1 H1 g rr => by
  intro x dx hx hdx hne
  have g0 := g.ext
  have s1 : Stp F1 H1 [] F1 (upd (upd H1 dx (.own x)) x (.ins C dx [])) [x] := by
    refine ⟨Ext.refl _, fun a u h _ => ?_, fun a u h => .inl h, fun a h => ?_, fun a h => ?_⟩
    · rw [upd_ne (ne_of_none h hx), upd_ne (ne_of_none h hdx)]; exact h
    · rw [List.mem_singleton.mp h]; exact .inr hx
    · by_cases z : a = x
      · subst z; exact hx
      · rw [upd_ne z] at h
        by_cases z2 : a = dx
        · subst z2; exact hdx
        · rw [upd_ne z2] at h; exact h
  have w1 : WF F1 (upd (upd H1 dx (.own x)) x (.ins C dx [])) [x] := by
    refine ⟨fun a u h => ?_, by simp, fun a h => ?_, fun a h => ?_⟩
    · exact s1.keep a u (g0 a u h) (by simp)
    · rw [List.mem_singleton.mp h]
      cases z : F1 x with
      | none => rfl
      | some u => rw [g0 x u z] at hx; cases hx
    · rw [List.mem_singleton.mp h, upd_same]; exact fun z => z
  refine ⟨y, F1, [x] ++ [], by simpa using w1, .cons (by rw [hs]; exact .ins (dx := dx) (fs := []) upd_same rfl .nil) (Owns.fros rr), hp, ?_⟩
  show RM.Post _ _ _ _ _ _ _ (rmM (dd y) (res y))
  rw [hr]
  intro F2 H2 A2 w2 s2 ows
  cases ows with
  | cons ow r2 =>
    rename_i B1 B2
    obtain ⟨_, rfl⟩ := Owns.fros_inv r2
    simp only [List.nil_append, List.append_nil] at w2 s2
    obtain ⟨w3, s3, n3⟩ := beside (g.wf w) (g.envs n) (s1.trans s2) w2
    exact q F2 H2 A w3.right (((g.stp.mono (by simp) (A' := A)).more (C := A) (fun a h => .inl h)).trans (s3.perm (fun _ => by simp) fun a h => List.mem_append_right _ h)) n3
theorem xn_make [Calm S] (hG : MkG S.P S.w S.K S.mg S.base k x C ps (spM S.K dd slf pre res)) (y : τ) (hp : pre y) (hs : slf y = .ins C [] []) {s : O} (hr : res y = (.ok (.fro .non), s)) (ha : XA S ρ (e :: es) (dd y)) (hk : k + 1 ≤ S.kk := by exact Nat.le_of_ble_eq_true rfl) (hg : S.scope.names.lookup x = some .globalImplicit := by rfl) (hdb : (x == ("__debug__" : Str)) = false := by decide)
    (he : ∀ env : PySem.Env, starEach (e :: es) env = (false, eval e env) :: starEach es env := by intro _; rfl) (hpl : ∀ env : PySem.Env, (backTo pos (starEach es env)).any (·.1) = false := by intro _; rfl) : XN S ρ (.Call (.Name x p2) (e :: es) [] pos) s := by
  obtain ⟨f, fd, F, M, b, hm⟩ := hG.h
  obtain ⟨t, a1, a2⟩ := ha
  exact ⟨_, fun q ok => pe_makeS (X := S.cx q) M F ((ok.calm Calm.h).mono hk) (show S.scope.names.lookup x = some .globalImplicit from hg) hm b (fun σ => L2N.passAt ok.tk σ) (a1 q ok) hdb (he _) (hpl _), en_make y hp hs hr a2⟩
theorem xx_makeE [Calm S] (hG : MkG S.P S.w S.K S.mg S.base k x C ps (spM S.K dd slf pre res)) (y : τ) (hp : pre y) (hs : slf y = .ins C [] []) {s : O} {z : Str} (hr : res y = (.error z, s)) (ha : XA S ρ (e :: es) (dd y)) (hk : k + 1 ≤ S.kk := by exact Nat.le_of_ble_eq_true rfl) (hg : S.scope.names.lookup x = some .globalImplicit := by rfl) (hdb : (x == ("__debug__" : Str)) = false := by decide)
    (he : ∀ env : PySem.Env, starEach (e :: es) env = (false, eval e env) :: starEach es env := by intro _; rfl) (hpl : ∀ env : PySem.Env, (backTo pos (starEach es env)).any (·.1) = false := by intro _; rfl) : XX S ρ (.Call (.Name x p2) (e :: es) [] pos) (.ex z ρ) := by
  obtain ⟨f, fd, F, M, b, hm⟩ := hG.h
  obtain ⟨t, a1, a2⟩ := ha
  exact ⟨_, fun q ok => pe_makeS (X := S.cx q) M F ((ok.calm Calm.h).mono hk) (show S.scope.names.lookup x = some .globalImplicit from hg) hm b (fun σ => L2N.passAt ok.tk σ) (a1 q ok) hdb (he _) (hpl _), ex_makeE y hp hs hr a2⟩
end

/-! ### a method's body keeps its promise -/
inductive FitsM : RS → Except Str O × O → Prop
  | rt {o ρ s r} (h0 : ρ[0]? = some (some s)) (h : (.ok o, s) = r) : FitsM (.rt o (some ρ)) r
  | nx {ρ s r} (h0 : ρ[0]? = some (some s)) (h : (.ok (.fro .non), s) = r) : FitsM (.nx ρ) r
  | ex {x ρ s r} (h0 : ρ[0]? = some (some s)) (h : (.error x, s) = r) : FitsM (.ex x (some ρ)) r
section
variable {P : Program} {w : World} {K : PySem.W.Frag} {mg : Str → Option Value} {base : Heap}
theorem self_out {F H : Hp} {σ σ0 : L2.St} {ρ : Env} {A : List Addr} {v : V} {s : O} (n : Envs K F H σ ρ A) (h0 : ρ[0]? = some (some s)) (e0 : σ0[0]? = some (some v)) (p : Pin [0] σ0 σ) : ∃ B A', Own K F H v s B ∧ A.Perm (B ++ A') := by
  obtain ⟨v', B, A', h1, h2, h3, h4⟩ := n.get h0
  have := p.at_ 0 (by simp)
  rw [h1, e0] at this
  cases this
  exact ⟨B, A', h2, h4⟩
theorem def_meth {x qual : Str} {st : Stmt} {f : Addr} {fd : FuncData} {N ps : List Str} {k : Nat} {τ : Type} {dd : τ → List D} {slf : τ → O} {pre : τ → Prop} {res : τ → Except Str O × O} (F : ∃ dvs kws, FunD K x qual (defArgs st) (defBody st) (defScope st) dvs kws f fd) (Sc : FnScope N ps (defScope st)) (hl : ∀ y, (dd y).length + 1 = ps.length)
    (body : ∀ (y : τ) (E : XK), pre y → ∃ r, XB (sigOf P w K mg base N (defScope st) k E) [0] (some (slf y) :: ((dd y).map (fun d => some (O.fro d)) ++ List.replicate (N.length - ps.length) none)) (defBody st) r ∧ FitsM r (res y)) :
    FnOk P w K mg base (L2N.CX P w) (k + 1) f fd ps (spM K dd slf pre res) := by
  obtain ⟨dvs, kws, F⟩ := F
  refine F.ok Sc (fun vs H Q E h => ?_) (fun cdv A outer s H vs Q E hr h => ?_)
  · obtain ⟨y, F1, A1, _, ow, _⟩ := h
    rw [ow.length, List.length_cons, List.length_map, hl]
  · obtain ⟨y, F1, A1, w1, ow, hp, post⟩ := h
    obtain ⟨r, ⟨t, h1, h2⟩, fit⟩ := body y E hp
    obtain ⟨q, ok, e⟩ := sig_ok (P := P) (w := w) (K := K) (mg := mg) (base := base) (cd := cdv) (outer := outer) (H := H) (E := E) Sc hr
    refine ⟨t, by rw [← e]; exact h1 q ok, ?_⟩
    have n1 := start_of (N := N) ow
    rw [List.length_cons, List.length_map, hl, List.map_cons, List.map_map] at n1
    refine h2 _ F1 H A1 _ w1 n1 ?_
    have post' : RM.Post K vs F1 H A1 Q E (rmM (dd y) (res y)) := post
    cases ow with
    | cons ow0 ow1 =>
    rename_i v0 vs B0 C0
    obtain ⟨r0, e0⟩ := Owns.fros_inv ow1
    subst e0
    have z0 : (L2.start N (v0 :: vs))[0]? = some (some v0) := rfl
    cases fit with
    | rt h0 z =>
      rw [← z] at post'
      intro v σ' F' H' B A' w' s' ow' n' p'
      obtain ⟨B1, A2, o1, p1⟩ := self_out n' h0 z0 p'
      have p2 : (B ++ A').Perm ((B ++ (B1 ++ [])) ++ A2) := by
        rw [List.append_nil, List.append_assoc]
        exact List.Perm.append_left B p1
      exact post' v F' H' B (B1 ++ []) (w'.perm p2).left (s'.perm (fun a => Iff.rfl) fun a h => p2.mem_iff.mpr (List.mem_append_left _ h)) ow' (.cons o1 (Owns.fros (r0.mono s'.fs)))
    | nx h0 z =>
      rw [← z] at post'
      intro σ' F' H' A' w' s' n' p'
      obtain ⟨B1, A2, o1, p1⟩ := self_out n' h0 z0 p'
      have p2 : A'.Perm (([] ++ (B1 ++ [])) ++ A2) := by
        rw [List.append_nil, List.nil_append]
        exact p1
      exact post' .non F' H' [] (B1 ++ []) (w'.perm p2).left (s'.perm (fun a => Iff.rfl) fun a h => p2.mem_iff.mpr (List.mem_append_left _ h)) (.fro .non) (.cons o1 (Owns.fros (r0.mono s'.fs)))
    | ex h0 z =>
      rw [← z] at post'
      intro σ' F' H' A' w' s' n' p'
      obtain ⟨B1, A2, o1, p1⟩ := self_out n' h0 z0 p'
      have p2 : A'.Perm ((B1 ++ []) ++ A2) := by
        rw [List.append_nil]
        exact p1
      exact post' F' H' (B1 ++ []) (w'.perm p2).left (s'.perm (fun a => Iff.rfl) fun a h => p2.mem_iff.mpr (List.mem_append_left _ h)) (.cons o1 (Owns.fros (r0.mono s'.fs)))
end
/-! ### as statements -/
section
variable {S : Sig} {ρ ρ1 ρ2 : Env} {e : Expr} {pos : Pos} {pin : List Nat} {o : O} {r : RE}
/-- x = (whatever it is) -/
theorem xs_setM (i : Nat) {x : Str} {p' : Pos} (h : XX S ρ e r) (hr : r = .ok o ρ1 := by rfl) (hq : ρ1.set i (some o) = ρ2 := by rfl) (hi : Nat.blt i ρ1.length = true := by rfl) (hp : i ∉ pin := by decide) (hN : S.N[i]? = some x := by rfl) (hx : Loc S.scope x := by first | exact .inl rfl | exact .inr rfl) (hst : S.st x = true ∨ S.scope.names.lookup x = some .local := by first | exact .inl rfl | exact .inr rfl)
    (hs : ∀ env : PySem.Env, swapsWith e (some (.Name x p')) pos.line { env with scope := S.scope } = pure false := by intro _; rfl) : XS S pin ρ (.Assign [.Name x p'] e pos) (.nx ρ2) := by
  subst hr; subst hq
  exact xs_set i h hi hp hN hx hst hs
theorem xs_exprM (h : XX S ρ e r) (hr : r = .ok o ρ1 := by rfl) (hq : ρ1 = ρ2 := by rfl) (hs : ∀ env : PySem.Env, swapsWith e none pos.line env = pure false := by intro _; rfl) : XS S pin ρ (.Expr e pos) (.nx ρ2) := by
  subst hr; subst hq
  exact xs_expr h hs
theorem xs_fldM {C : Addr} {ns : List Str} {os : List O} {f : Str} {value b : Expr} {pos' : Pos} {o2 : O} {up : O → Env} (c : Cls S.K C) (na : NoAttr S.K C f) (hv : XX S ρ value r) (h : XL S ρ b (.ins C ns os) up) (hr : r = .ok o2 ρ := by rfl) (hf : fidx f ns = none := by decide) (hl : ns.length < 900 := by decide) (hq : up (.ins C (ns ++ [f]) (os ++ [o2])) = ρ2 := by rfl)
    (hs : ∀ env : PySem.Env, swapsWith value (some (.Attribute b f pos')) pos.line env = pure false := by intro _; rfl) : XS S pin ρ (.Assign [.Attribute b f pos'] value pos) (.nx ρ2) := by
  subst hr; subst hq
  exact xs_fldN c na hv h hf hl hs
end
end G

namespace G
open PySem PySem.Spec PyProof.Rows L2
open PySem.W (Datum DatumOrd Tup T3 EachIs)
open Enc (enc)

/-! ### sorted -/
def sortT {T : Type} [DecidableEq T] [DatumOrd T] (xs : List T) : List T := xs.mergeSort fun a b => !DatumOrd.lt b a
/-- what the sort asks of the items' kind -/
class SortK (T : Type) [DecidableEq T] [Datum T] : Prop where
  h : (∀ b : T, ∃ x r, Datum.toD b = .tuple (x :: r)) ∨ (∀ b : T, Datum.toD b ≠ .none ∧ ∀ xs, Datum.toD b ≠ .tuple xs)
  d : Datum.depth T ≤ 60
instance : SortK Int := ⟨.inr fun b => ⟨fun z => (nomatch z), fun xs z => (nomatch z)⟩, by decide⟩
instance : SortK (Int × Int) := ⟨.inl fun b => ⟨_, _, rfl⟩, by decide⟩
instance : SortK (Int × (Int × Int)) := ⟨.inl fun b => ⟨_, _, rfl⟩, by decide⟩
instance : SortK ((Int × Int) × (Int × Int)) := ⟨.inl fun b => ⟨_, _, rfl⟩, by decide⟩
section
variable {T : Type} [DecidableEq T] [DatumOrd T] [Enc T] [SortK T]
def rSortD (K : PySem.W.Frag) (T : Type) [DecidableEq T] [DatumOrd T] [Enc T] : List V → Hp → VK → Prop := fun vs H Q => ∃ (F : Hp) (a : Addr) (xs : List V) (bs : List T), vs = [.ref a] ∧ Ext F H ∧ SqL K H a xs ∧ Reps K F xs (bs.map enc) ∧
  ∀ ys p, Reps K F ys ((sortT bs).map enc) → H p = none → Q (.ref p) (upd H p (.lst ys))
theorem each_of {X : Cx} {pins : List (Addr × Obj)} {σ : L2.St} {H F : Hp} {s : Shared} (I : Inv X pins σ H s) (e : Ext F H) : ∀ {xs : List V} {us : List Value} {bs : List T}, Reps X.K F xs (bs.map enc) → Vals xs us →
    EachIs (fun u b => ∃ v, RelV v u ∧ Rep X.K F v (enc b)) us bs ∧ EachIs (fun u b => ∃ as, Reads s.heap u (Datum.toD b) as) us bs
  | [], _, [], _, .nil => ⟨.nil, .nil⟩
  | v :: xs, u :: us, b :: bs, .cons h r, .cons rv rr => by
    obtain ⟨h1, h2⟩ := each_of I e r rr
    exact ⟨.cons ⟨v, rv, h⟩ h1, .cons (holds_of I (h.mono e) rv) h2⟩
  | [], _, b :: bs, r, _ => by cases r
  | v :: xs, _, [], r, _ => by cases r
theorem each_back {K : PySem.W.Frag} {F : Hp} : ∀ {us : List Value} {bs : List T}, EachIs (fun u b => ∃ v, RelV v u ∧ Rep K F v (enc b)) us bs → ∃ ys, Vals ys us ∧ Reps K F ys (bs.map enc)
  | _, _, .nil => ⟨[], .nil, .nil⟩
  | _, _, .cons ⟨v, r, h⟩ t => by
    obtain ⟨ys, h1, h2⟩ := each_back t
    exact ⟨v :: ys, .cons r h1, .cons h h2⟩
theorem cr_sortD {X : Cx} (hu : X.A.units + 100 < cLine) : CallR X (.builtin "sorted") (rSortD X.K T) := by
  intro pins s σ H vs us Q I r h
  obtain ⟨F, a, xs, bs, rfl, e, hs, rs, q⟩ := h
  obtain ⟨its, rv, hl, hz⟩ := I.list hs
  obtain ⟨u, rfl, ru⟩ := vals1 r
  obtain rfl : u = Value.ref a := ru
  obtain ⟨e1, e2⟩ := each_of I e rs rv
  have len1 := rs.length
  rw [List.length_map] at len1
  have len2 := rv.length
  refine PySem.W.sorted_data (vs := its) (bs := bs) (enc := Datum.toD) hl.isList e1 e2 (PySem.W.AllAlike.of fun a b => DatumOrd.alike a b) ?_ (by omega) (fun b _ => ?_) fun out ho eo => ?_
  · rcases (inferInstance : SortK T).h with h | h
    · exact PySem.W.Sortable.tuples h
    · exact PySem.W.Sortable.others h
  · have := Datum.depth_le b
    have := (inferInstance : SortK T).d
    omega
  · obtain ⟨ys, h1, h2⟩ := each_back eo
    obtain ⟨ep, he'⟩ := PyProof.Rows.sortedAll_at s.heap its out.toArray
    have hlen : ys.length ≤ sizeLine := by rw [h1.length, ho]; omega
    have e3 : bs.mergeSort (PySem.W.dataLe false Datum.toD) = sortT bs := by
      unfold sortT
      rw [PySem.W.dataLe_eq]
      congr 1
      funext a b
      show (!PySem.W.dataLt (Datum.toD b) (Datum.toD a)) = _
      rw [DatumOrd.lt_eq]
    rw [e3] at h2
    exact ⟨.ref _, upd H (s.heap.objs.size + 1) (.lst ys), I.laid (t' := s.toks) (fun _ _ => PyProof.Rows.sortedAll_old) (Nat.le_succ _) ⟨hlen, out.toArray.toList, ep, by simpa using h1, he'⟩, rfl, q ys _ h2 (I.hok.fresh (Nat.le_succ _))⟩
variable {S : Sig} {ρ : Env} {a b c e : Expr} {d d1 d2 d3 : D} {ds : List D} {pos p2 : Pos} {es : List Expr}
theorem cb_sorted {xs : List T} : CBF S "sorted" [enc xs] (enc (sortT xs)) := ⟨rSortD S.K T, fun q o => cr_sortD (X := S.cx q) (by have := o.room.un; show q.A.units + 100 < cLine; omega), fun vs F H Q e rr q => by
  obtain ⟨v, rfl, r⟩ := reps1 rr
  cases r with
  | lst h r =>
    refine ⟨F, _, _, xs, rfl, e, .of (e _ _ h), r, fun ys p hy hp => ?_⟩
    have g := Grow.new (o := .lst ys) e hp
    exact q (.ref p) _ _ g (.lst upd_same (hy.mono g.stp.fs))⟩
theorem tp_sorted {xs : List T} (hm : S.mg "sorted" = none) (h : TP S ρ a xs) (hg : S.scope.names.lookup ("sorted" : Str) = some .globalImplicit := by rfl) (he : ∀ env : PySem.Env, starEach [a] env = (false, eval a env) :: starEach [] env := by intro _; rfl) : TP S ρ (.Call (.Name "sorted" p2) [a] [] pos) (sortT xs) := by
  refine xp_cbF cb_sorted hm (xa_cons h xa_nil he) hg ?_ ?_ ?_ he ?_ <;> first | (intro _; rfl) | decide +kernel | rfl
end

/-! ### min, max of a list of ints -/
def minL : List Int → Int
  | [] => 0
  | x :: r => r.foldl (fun m y => if y < m then y else m) x
def maxL : List Int → Int
  | [] => 0
  | x :: r => r.foldl (fun m y => if m < y then y else m) x
theorem minL_of {ns : List Int} {m : Int} (h : m ∈ ns) (h2 : ∀ y ∈ ns, m ≤ y) : minL ns = m := by
  cases ns with
  | nil => cases h
  | cons x r =>
    show r.foldl _ x = m
    have key : ∀ (r : List Int) (x : Int), (x = m ∨ m ∈ r) → m ≤ x → (∀ y ∈ r, m ≤ y) → r.foldl (fun m y => if y < m then y else m) x = m := by
      intro r
      induction r with
      | nil => intro x h _ _; simpa using h
      | cons z r ih =>
        intro x h hx hr
        rw [List.foldl_cons]
        have hz := hr z (by simp)
        refine ih _ ?_ ?_ fun y hy => hr y (by simp [hy])
        · by_cases c : z < x
          · rw [if_pos c]
            rcases h with h | h
            · omega
            · rcases List.mem_cons.mp h with h | h
              · exact .inl h.symm
              · exact .inr h
          · rw [if_neg c]
            rcases h with h | h
            · exact .inl h
            · rcases List.mem_cons.mp h with h | h
              · exact .inl (by omega)
              · exact .inr h
        · split <;> omega
    exact key r x ((List.mem_cons.mp h).imp Eq.symm id) (h2 x (by simp)) fun y hy => h2 y (by simp [hy])
theorem maxL_of {ns : List Int} {m : Int} (h : m ∈ ns) (h2 : ∀ y ∈ ns, y ≤ m) : maxL ns = m := by
  cases ns with
  | nil => cases h
  | cons x r =>
    show r.foldl _ x = m
    have key : ∀ (r : List Int) (x : Int), (x = m ∨ m ∈ r) → x ≤ m → (∀ y ∈ r, y ≤ m) → r.foldl (fun m y => if m < y then y else m) x = m := by
      intro r
      induction r with
      | nil => intro x h _ _; simpa using h
      | cons z r ih =>
        intro x h hx hr
        rw [List.foldl_cons]
        have hz := hr z (by simp)
        refine ih _ ?_ ?_ fun y hy => hr y (by simp [hy])
        · by_cases c : x < z
          · rw [if_pos c]
            rcases h with h | h
            · omega
            · rcases List.mem_cons.mp h with h | h
              · exact .inl h.symm
              · exact .inr h
          · rw [if_neg c]
            rcases h with h | h
            · exact .inl h
            · rcases List.mem_cons.mp h with h | h
              · exact .inl (by omega)
              · exact .inr h
        · split <;> omega
    exact key r x ((List.mem_cons.mp h).imp Eq.symm id) (h2 x (by simp)) fun y hy => h2 y (by simp [hy])
section
variable {S : Sig} {ρ : Env} {a b c e : Expr} {d d1 d2 d3 : D} {ds : List D} {pos p2 : Pos} {es : List Expr}
theorem cb_minL [Calm S] {ns : List Int} (hn : 0 < ns.length) : CB S "min" [.lst (ns.map D.int)] (.int (minL ns)) := ⟨rMin S.K, fun _ _ => cr_min Calm.h, fun vs F H Q e rr q => by
  obtain ⟨v, rfl, r⟩ := reps1 rr
  cases r with
  | lst h r => exact ⟨_, ns, rfl, by rw [← map_int_reps r]; exact .of h, hn, fun m h1 h2 => by rw [← minL_of h1 h2]; exact q _ F H (Grow.refl e) .int⟩⟩
theorem cb_maxL [Calm S] {ns : List Int} (hn : 0 < ns.length) : CB S "max" [.lst (ns.map D.int)] (.int (maxL ns)) := ⟨rMax S.K, fun _ _ => cr_max Calm.h, fun vs F H Q e rr q => by
  obtain ⟨v, rfl, r⟩ := reps1 rr
  cases r with
  | lst h r => exact ⟨_, ns, rfl, by rw [← map_int_reps r]; exact .of h, hn, fun m h1 h2 => by rw [← maxL_of h1 h2]; exact q _ F H (Grow.refl e) .int⟩⟩
theorem tp_minL [Calm S] {ns : List Int} (hm : S.mg "min" = none) (h : TP S ρ a ns) (hn : 0 < ns.length) (hg : S.scope.names.lookup ("min" : Str) = some .globalImplicit := by rfl) (he : ∀ env : PySem.Env, starEach [a] env = (false, eval a env) :: starEach [] env := by intro _; rfl) : TP S ρ (.Call (.Name "min" p2) [a] [] pos) (minL ns) := by
  refine xp_cb (cb_minL hn) hm (xav_cons h.v xav_nil he) hg ?_ ?_ ?_ he ?_ <;> first | (intro _; rfl) | decide +kernel | rfl
theorem tp_maxL [Calm S] {ns : List Int} (hm : S.mg "max" = none) (h : TP S ρ a ns) (hn : 0 < ns.length) (hg : S.scope.names.lookup ("max" : Str) = some .globalImplicit := by rfl) (he : ∀ env : PySem.Env, starEach [a] env = (false, eval a env) :: starEach [] env := by intro _; rfl) : TP S ρ (.Call (.Name "max" p2) [a] [] pos) (maxL ns) := by
  refine xp_cb (cb_maxL hn) hm (xav_cons h.v xav_nil he) hg ?_ ?_ ?_ he ?_ <;> first | (intro _; rfl) | decide +kernel | rfl

/-! ### isinstance, built-in classes -/
def D.cls : D → Option String
  | .non => some "NoneType" | .bl _ => some "bool" | .int _ => some "int" | .str _ => some "str" | .lst _ => some "list" | .tup _ => some "tuple"
  | _ => none
theorem tyx_of {K : PySem.W.Frag} {H : Hp} {v : V} {d : D} {c : String} (h : Rep K H v d) (hc : d.cls = some c) : TyX K H v (.type c) := by
  cases h with
  | non => cases hc; exact .base .non
  | bl => cases hc; exact .base (.bl _)
  | int => cases hc; exact .base (.int _)
  | str => cases hc; exact .base (.str _)
  | lst h _ => cases hc; exact .base (.lst h)
  | tup h _ =>
    cases hc
    exact .base (.tup h)
  | _ => cases hc
theorem cb_isi {c n : String} {k : Bool} (hc : d.cls = some c) (hk : kitB c n = some k) : CB S "isinstance" [d, .ty n] (.bl k) := ⟨rIsi S.K, fun _ _ => call_isi, fun vs F H Q e rr q => by
  obtain ⟨v, w, rfl, r, r2⟩ := reps2 rr
  cases r2
  exact ⟨v, _, _, _, k, rfl, .ty n, tyx_of r hc, kit_ty hk, q _ F H (Grow.refl e) .bl⟩⟩
theorem xp_ty {n : String} {x : Str} (hm : S.mg x = none) (hg : S.scope.names.lookup x = some .globalImplicit := by rfl) (hv : bootBuiltins x = some (.type n) := by decide +kernel) (hn : x ≠ "__name__" := by decide) (hd : (x == ("__debug__" : Str)) = false := by decide) : XP S ρ (.Name x pos) (.ok (.ty n)) :=
  ⟨_, fun q _ => pe_bltn (X := S.cx q) (show S.scope.names.lookup x = some .globalImplicit from hg) hm hv (show RelV (.ty n) (.type n) from rfl) hn hd, ep_c fun _ => .ty⟩
theorem xt_cb {x : Str} {id : String} {p : Pos} {k : Bool} (h : XP S ρ (.Call (.Name x p) (e :: es) [] pos) (.ok (.bl k))) : XT S ρ (.Call (.Name x p) (e :: es) [] pos) k := xt_val h
/-- isinstance(a, T) -/
theorem tp_isi {x : Str} {c n : String} (k : Bool) {p3 : Pos} (hm : S.mg "isinstance" = none) (hm2 : S.mg x = none) (ha : XV S ρ a d) (hc : d.cls = some c := by rfl) (hk : kitB c n = some k := by decide +kernel) (hv : bootBuiltins x = some (.type n) := by decide +kernel) (hg : S.scope.names.lookup ("isinstance" : Str) = some .globalImplicit := by rfl) (hg2 : S.scope.names.lookup x = some .globalImplicit := by rfl) (hn : x ≠ "__name__" := by decide) (hd : (x == ("__debug__" : Str)) = false := by decide) (he : ∀ env : PySem.Env, starEach [a, .Name x p3] env = (false, eval a env) :: starEach [.Name x p3] env := by intro _; rfl) :
    XP S ρ (.Call (.Name "isinstance" p2) [a, .Name x p3] [] pos) (.ok (.bl k)) := by
  refine xp_cb (cb_isi hc hk) hm (xav_cons ha (xav_cons (XP.v (xp_ty hm2 hg2 hv hn hd)) xav_nil ?_) he) hg ?_ ?_ ?_ he ?_ <;> first | (intro _; rfl) | decide +kernel | rfl
end
end G

namespace G
open PySem PySem.Spec PyProof.Rows L2
open PySem.W (Datum DatumOrd Tup T3 EachIs)
open Enc (enc)
abbrev Cell := Int × Int
abbrev Floor := T3 Int Int (Tup Cell)
abbrev FnF (K : PySem.W.Frag) (x q : Str) (st : Stmt) (f : Addr) (fd : FuncData) : Prop := ∃ dvs kws, FunD K x q (defArgs st) (defBody st) (defScope st) dvs kws f fd
/-! ### sorting, as it can be reckoned -/
class LOrd (T : Type) [DecidableEq T] [DatumOrd T] : Prop where
  tr : ∀ a b c : T, DatumOrd.lt b a = false → DatumOrd.lt c b = false → DatumOrd.lt c a = false
  tot : ∀ a b : T, DatumOrd.lt b a = false ∨ DatumOrd.lt a b = false
  anti : ∀ a b : T, DatumOrd.lt b a = false → DatumOrd.lt a b = false → a = b
theorem lt_int (a b : Int) : (DatumOrd.lt a b) = decide (a < b) := rfl
instance : LOrd Int := ⟨fun a b c h h' => by rw [lt_int] at *; simp at *; omega, fun a b => by simp only [lt_int]; simp; omega, fun a b h h' => by rw [lt_int] at *; simp at *; omega⟩
section
variable {α β : Type} [DecidableEq α] [DatumOrd α] [DecidableEq β] [DatumOrd β]
theorem lt_pair (p q : α × β) : DatumOrd.lt p q = if p.1 = q.1 then DatumOrd.lt p.2 q.2 else DatumOrd.lt p.1 q.1 := rfl
theorem lt_self [LOrd α] (a : α) : DatumOrd.lt a a = false := (LOrd.tot a a).elim id id
instance [LOrd α] [LOrd β] : LOrd (α × β) where
  tr a b c h h' := by
    rw [lt_pair] at *
    by_cases e : b.1 = a.1
    · rw [if_pos e] at h
      by_cases e' : c.1 = b.1
      · rw [if_pos e'] at h'
        rw [if_pos (e'.trans e)]
        exact LOrd.tr _ _ _ h h'
      · rw [if_neg e'] at h'
        rw [if_neg fun z => e' (z.trans e.symm), ← e]
        exact h'
    · rw [if_neg e] at h
      by_cases e' : c.1 = b.1
      · rw [if_neg fun z => e (e'.symm.trans z), e']
        exact h
      · rw [if_neg e'] at h'
        have h2 := LOrd.tr _ _ _ h h'
        by_cases z : c.1 = a.1
        · rw [z] at h'
          exact absurd (LOrd.anti _ _ h h') fun w => e w.symm
        · rw [if_neg z]; exact h2
  tot a b := by
    rw [lt_pair, lt_pair]
    by_cases e : a.1 = b.1
    · rw [if_pos e, if_pos e.symm]; exact LOrd.tot _ _
    · rw [if_neg e, if_neg fun z => e z.symm]; exact LOrd.tot _ _
  anti a b h h' := by
    rw [lt_pair] at *
    by_cases e : a.1 = b.1
    · rw [if_pos e] at h'
      rw [if_pos e.symm] at h
      exact Prod.ext e (LOrd.anti _ _ h h')
    · rw [if_neg e] at h'
      rw [if_neg fun z => e z.symm] at h
      exact absurd (LOrd.anti _ _ h h') e
end
section
variable {T : Type} [DecidableEq T] [DatumOrd T]
def insT (x : T) : List T → List T
  | [] => [x]
  | y :: r => if DatumOrd.lt y x = true then y :: insT x r else x :: y :: r
def isortT : List T → List T
  | [] => []
  | x :: r => insT x (isortT r)
theorem insT_perm (x : T) : ∀ r : List T, (insT x r).Perm (x :: r)
  | [] => .refl _
  | y :: r => by
    unfold insT
    split
    · exact ((insT_perm x r).cons y).trans (.swap x y r)
    · exact .refl _
theorem isortT_perm : ∀ r : List T, (isortT r).Perm r
  | [] => .refl _
  | x :: r => (insT_perm x _).trans ((isortT_perm r).cons x)
abbrev SrtT (xs : List T) : Prop := xs.Pairwise fun a b => DatumOrd.lt b a = false
theorem insT_srt [LOrd T] (x : T) : ∀ r : List T, SrtT r → SrtT (insT x r)
  | [], _ => by unfold insT; exact List.pairwise_singleton _ _
  | y :: r, h => by
    unfold insT
    rw [SrtT, List.pairwise_cons] at h
    by_cases c : DatumOrd.lt y x = true
    · rw [if_pos c]
      refine List.pairwise_cons.mpr ⟨fun z hz => ?_, insT_srt x r h.2⟩
      rcases List.mem_cons.mp ((insT_perm x r).mem_iff.mp hz) with rfl | hz
      · rcases LOrd.tot y z with w | w
        · exact w
        · rw [w] at c; cases c
      · exact h.1 z hz
    · rw [if_neg c]
      have c' : DatumOrd.lt y x = false := by simpa using c
      refine List.pairwise_cons.mpr ⟨fun z hz => ?_, List.pairwise_cons.mpr h⟩
      rcases List.mem_cons.mp hz with rfl | hz
      · exact c'
      · exact LOrd.tr _ _ _ c' (h.1 z hz)
theorem isortT_srt [LOrd T] : ∀ r : List T, SrtT (isortT r)
  | [] => List.Pairwise.nil
  | x :: r => insT_srt x _ (isortT_srt r)
theorem srt_unique [LOrd T] : ∀ (xs ys : List T), SrtT xs → SrtT ys → xs.Perm ys → xs = ys
  | [], ys, _, _, p => by rw [List.nil_perm.mp p]
  | x :: xs, [], _, _, p => by cases (List.perm_nil.mp p)
  | x :: xs, y :: ys, h, h', p => by
    have hx := List.pairwise_cons.mp h
    have hy := List.pairwise_cons.mp h'
    have e : x = y := by
      have m1 : x ∈ y :: ys := p.mem_iff.mp (by simp)
      have m2 : y ∈ x :: xs := p.mem_iff.mpr (by simp)
      rcases List.mem_cons.mp m1 with e | m1
      · exact e
      · rcases List.mem_cons.mp m2 with e | m2
        · exact e.symm
        · exact LOrd.anti _ _ (hx.1 y m2) (hy.1 x m1)
    subst e
    rw [srt_unique xs ys hx.2 hy.2 (List.Perm.cons_inv p)]
theorem sortT_perm (xs : List T) : (sortT xs).Perm xs := List.mergeSort_perm _ _
theorem sortT_srt [LOrd T] (xs : List T) : SrtT (sortT xs) := by
  have := List.pairwise_mergeSort (le := fun a b : T => !DatumOrd.lt b a) (fun a b c h h' => by simp at *; exact LOrd.tr _ _ _ h h') (fun a b => by simp; exact LOrd.tot a b) xs
  exact this.imp fun h => by simpa using h
theorem sortT_eq [LOrd T] (xs : List T) : sortT xs = isortT xs := srt_unique _ _ (sortT_srt xs) (isortT_srt xs) ((sortT_perm xs).trans (isortT_perm xs).symm)
theorem sortT_of [LOrd T] {xs ys : List T} (h : SrtT ys) (p : ys.Perm xs) : sortT xs = ys := srt_unique _ _ (sortT_srt xs) h ((sortT_perm xs).trans p.symm)
/-- two of them in their order -/
def two (a b : T) : T × T := if DatumOrd.lt b a = true then (b, a) else (a, b)
theorem sortT_two [LOrd T] (a b : T) : sortT [a, b] = [(two a b).1, (two a b).2] := by
  rw [sortT_eq]
  show insT a (insT b []) = _
  unfold two insT
  show (if DatumOrd.lt b a = true then b :: insT a [] else _) = _
  split <;> rfl
end

/-! ### the script -/
section
variable {S : Sig} {ρ : Env} {a b c e : Expr} {pos p2 : Pos}
def rEqS (K : PySem.W.Frag) (x : Scr) (y : List Int) (k : Bool) : R2 := fun v u H Q => Rep K H v (enc x) ∧ Rep K H u (enc y) ∧ Q (.bl k) H
theorem oc_eqS {x : Scr} {y : List Int} : OC S .Eq (enc x) (enc y) (decide (x.l = y)) := ⟨rEqS S.K x y _, fun q o pins s σ H v u vv uv Q I rv ru h => by
  obtain ⟨h1, h2, q1⟩ := h
  have := o.units
  have hd : Datum.depth (List Int) ≤ 64 := by decide
  have hu : q.A.units + Datum.depth (List Int) < cLine := by omega
  exact PySem.W.eq_datum (x := x.l) (y := y) (show PySem.W.Holds s.heap _ x.l from Dp.reads I _ _ _ (Enc.dp _ _ _ x h1) rv) (holds_of I h2 ru) hu ⟨.bl _, H, I, rfl, q1⟩, fun v u F H Q e rx ry q => ⟨rx, ry, q _ F H (Grow.refl e) .bl⟩⟩
theorem tt_eqS {x : Scr} {y : List Int} (ha : TV S ρ a x) (hb : TV S ρ b y) : XT S ρ (.Compare a [.Eq] [b] pos) (decide (x.l = y)) := xt_cmp oc_eqS ha hb
theorem atI_ok {α : Type} {xs : List α} {i : Int} (h : 0 ≤ i ∧ i < xs.length) : ∃ x, atI xs i = some x := by
  have h2 : xs[i.toNat]? = some (xs[i.toNat]'(by omega)) := List.getElem?_eq_getElem _
  exact ⟨_, by
    have := atI_nat h2
    rwa [Int.toNat_of_nonneg h.1] at this⟩
theorem tp_ixS {x : Scr} {i v : Int} (ha : TP S ρ a x) (hb : TP S ρ b i) (h : atI x.l i = some v) (hs : PlainIx b := by intro _ _; rfl) : TP S ρ (.Subscript a b pos) v := xp_ix (oi_scr (by rw [atI_map, h]; rfl)) ha hb hs
theorem tp_lenS {x : Scr} (hm : S.mg "len" = none) (h : TV S ρ a x) (hg : S.scope.names.lookup ("len" : Str) = some .globalImplicit := by rfl) (he : ∀ env : PySem.Env, starEach [a] env = (false, eval a env) :: starEach [] env := by intro _; rfl) : TP S ρ (.Call (.Name "len" p2) [a] [] pos) ((x.l.length : Nat) : Int) := by
  have := xp_cb (p := p2) (pos := pos) (cb_len_scr (S := S) (ds := x.l.map enc)) hm (xav_cons h xav_nil he) hg (by decide +kernel) (by decide) (by decide) he (by intro _; rfl)
  rw [List.length_map] at this
  exact this
theorem tp_lenL {T : Type} [DecidableEq T] [Datum T] [Enc T] {x : List T} (hm : S.mg "len" = none) (h : TV S ρ a x) (hg : S.scope.names.lookup ("len" : Str) = some .globalImplicit := by rfl) (he : ∀ env : PySem.Env, starEach [a] env = (false, eval a env) :: starEach [] env := by intro _; rfl) : TP S ρ (.Call (.Name "len" p2) [a] [] pos) ((x.length : Nat) : Int) := by
  have := xp_cb (p := p2) (pos := pos) (cb_len_lst (S := S) (ds := x.map enc)) hm (xav_cons h xav_nil he) hg (by decide +kernel) (by decide) (by decide) he (by intro _; rfl)
  rw [List.length_map] at this
  exact this
theorem tp_abs {i : Int} (hm : S.mg "abs" = none) (h : TP S ρ a i) (hg : S.scope.names.lookup ("abs" : Str) = some .globalImplicit := by rfl) (he : ∀ env : PySem.Env, starEach [a] env = (false, eval a env) :: starEach [] env := by intro _; rfl) : TP S ρ (.Call (.Name "abs" p2) [a] [] pos) (if i < 0 then -i else i) :=
  xp_cb (p := p2) (pos := pos) (cb_abs (S := S)) hm (xav_cons h.v xav_nil he) hg (by decide +kernel) (by decide) (by decide) he (by intro _; rfl)
theorem tp_intb {k : Bool} (hm : S.mg "int" = none) (h : TP S ρ a k) (hg : S.scope.names.lookup ("int" : Str) = some .globalImplicit := by rfl) (he : ∀ env : PySem.Env, starEach [a] env = (false, eval a env) :: starEach [] env := by intro _; rfl) : TP S ρ (.Call (.Name "int" p2) [a] [] pos) (if k then (1 : Int) else 0) :=
  xp_ct (p := p2) (pos := pos) (ct_int_bl (S := S)) hm (xa_cons h xa_nil he) hg (by decide +kernel) (by decide) (by decide) he (by intro _; rfl)
theorem tp_max2 [Calm S] {i j : Int} (hm : S.mg "max" = none) (h : TP S ρ a i) (h' : TP S ρ b j) (hg : S.scope.names.lookup ("max" : Str) = some .globalImplicit := by rfl) (he : ∀ env : PySem.Env, starEach [a, b] env = (false, eval a env) :: starEach [b] env := by intro _; rfl) (he2 : ∀ env : PySem.Env, starEach [b] env = (false, eval b env) :: starEach [] env := by intro _; rfl) (hpl : ∀ env : PySem.Env, (backTo pos (starEach [b] env)).any (·.1) = false := by intro _; rfl) : TP S ρ (.Call (.Name "max" p2) [a, b] [] pos) (if j > i then j else i) :=
  xp_cb (p := p2) (pos := pos) (cb_max2 (S := S)) hm (xav_cons h.v (xav_cons h'.v xav_nil he2) he) hg (by decide +kernel) (by decide) (by decide) he hpl
theorem tp_min2 [Calm S] {i j : Int} (hm : S.mg "min" = none) (h : TP S ρ a i) (h' : TP S ρ b j) (hg : S.scope.names.lookup ("min" : Str) = some .globalImplicit := by rfl) (he : ∀ env : PySem.Env, starEach [a, b] env = (false, eval a env) :: starEach [b] env := by intro _; rfl) (he2 : ∀ env : PySem.Env, starEach [b] env = (false, eval b env) :: starEach [] env := by intro _; rfl) (hpl : ∀ env : PySem.Env, (backTo pos (starEach [b] env)).any (·.1) = false := by intro _; rfl) : TP S ρ (.Call (.Name "min" p2) [a, b] [] pos) (if j < i then j else i) :=
  xp_cb (p := p2) (pos := pos) (cb_min2 (S := S)) hm (xav_cons h.v (xav_cons h'.v xav_nil he2) he) hg (by decide +kernel) (by decide) (by decide) he hpl
/-- tuple(sorted([a, b])) -/
theorem tp_tupL {T : Type} [DecidableEq T] [Datum T] [Enc T] {x : List T} (hm : S.mg "tuple" = none) (h : TP S ρ a x) (hg : S.scope.names.lookup ("tuple" : Str) = some .globalImplicit := by rfl) (he : ∀ env : PySem.Env, starEach [a] env = (false, eval a env) :: starEach [] env := by intro _; rfl) : TP S ρ (.Call (.Name "tuple" p2) [a] [] pos) (Tup.mk x) :=
  xp_ct (p := p2) (pos := pos) (ct_tuple_lst (S := S)) hm (xa_cons h xa_nil he) hg (by decide +kernel) (by decide) (by decide) he (by intro _; rfl)
theorem tp_tup2 {T : Type} [DecidableEq T] [Datum T] [Enc T] {x y : T} (hm : S.mg "tuple" = none) (h : TP S ρ a [x, y]) (hg : S.scope.names.lookup ("tuple" : Str) = some .globalImplicit := by rfl) (he : ∀ env : PySem.Env, starEach [a] env = (false, eval a env) :: starEach [] env := by intro _; rfl) : TP S ρ (.Call (.Name "tuple" p2) [a] [] pos) (x, y) :=
  xp_ct (p := p2) (pos := pos) (ct_tuple_lst (S := S)) hm (xa_cons h xa_nil he) hg (by decide +kernel) (by decide) (by decide) he (by intro _; rfl)
theorem tp_lst2 {T : Type} [DecidableEq T] [Datum T] [Enc T] {x y : T} (h : XA S ρ [a, b] [enc x, enc y]) : TP S ρ (.List [a, b] pos) [x, y] := xp_lst h
theorem tp_nilL {T : Type} [DecidableEq T] [Datum T] [Enc T] : TP S ρ (.List [] pos) ([] : List T) := xp_lst xa_nil
theorem tp_tsort2 {T : Type} [DecidableEq T] [DatumOrd T] [Enc T] [SortK T] [LOrd T] {x y : T} {p3 pos2 : Pos} (hm : S.mg "tuple" = none) (hm2 : S.mg "sorted" = none) (h : TP S ρ a [x, y]) (hg : S.scope.names.lookup ("tuple" : Str) = some .globalImplicit := by rfl) (hg2 : S.scope.names.lookup ("sorted" : Str) = some .globalImplicit := by rfl) (he : ∀ env : PySem.Env, starEach [a] env = (false, eval a env) :: starEach [] env := by intro _; rfl) :
    TP S ρ (.Call (.Name "tuple" p2) [.Call (.Name "sorted" p3) [a] [] pos2] [] pos) (two x y) :=
  (tp_tup2 hm ((tp_sorted hm2 h hg2 he).cast (by rw [sortT_two])) hg (by intro _; rfl)).cast (by rfl)
end
/-! ### lists that grow, typed -/
section
variable {T : Type} [DecidableEq T] [Datum T] [Enc T]
def oL (xs : List T) : O := .lst ((xs.map enc).map .fro)
theorem oL_d (xs : List T) : (oL xs).d = enc xs := by show O.d (.lst _) = D.lst _; simp only [O.d]; rw [ds_fros]
theorem oL_nil : O.lst (([] : List D).map .fro) = oL ([] : List T) := rfl
variable {S : Sig} {ρ : Env} {a e : Expr} {up : O → Env}
theorem xx_app {xs : List T} {x : T} {apos cpos : Pos} (hl : XL S ρ a (oL xs) up) (he : TP S ρ e x) (hn : xs.length < 1000000)
    (hbase : ∀ env : PySem.Env, attributeBase a "append" env (eval a env) = eval a env := by intro _; rfl)
    (hfew : ∀ env : PySem.Env, ((backTo cpos (starEach [e] env)).all (fun x => !x.1) && (backToKw cpos (keywordEach [] env)).all (fun x => x.1.isSome) && decide ([e].length + ([] : List Keyword).length + (if ([] : List Keyword).isEmpty then 0 else 1) < 30)) = true := by intro _; rfl)
    (hline : (apos.endLine == cpos.line) = true := by rfl) (hs : ∀ env : PySem.Env, starEach [e] env = (false, eval e env) :: starEach [] env := by intro _; rfl) (hplain : ∀ env : PySem.Env, (backTo cpos (starEach [] env)).any (·.1) = false := by intro _; rfl) :
    XX S ρ (.Call (.Attribute a "append" apos) [e] [] cpos) (.ok (.fro .non) (up (oL (xs ++ [x])))) := by
  have h := xx_append hl he (by simpa using hn) hbase hfew hline hs hplain
  have e1 : oL (xs ++ [x]) = .lst (((xs.map enc).map O.fro) ++ [.fro (enc x)]) := by unfold oL; rw [List.map_append, List.map_append]; rfl
  rw [e1]; exact h
theorem xx_ext {xs ys : List T} {apos cpos : Pos} (hl : XL S ρ a (oL xs) up) (he : TP S ρ e ys) (hn : xs.length + ys.length ≤ 1000000)
    (hbase : ∀ env : PySem.Env, attributeBase a "extend" env (eval a env) = eval a env := by intro _; rfl)
    (hfew : ∀ env : PySem.Env, ((backTo cpos (starEach [e] env)).all (fun x => !x.1) && (backToKw cpos (keywordEach [] env)).all (fun x => x.1.isSome) && decide ([e].length + ([] : List Keyword).length + (if ([] : List Keyword).isEmpty then 0 else 1) < 30)) = true := by intro _; rfl)
    (hline : (apos.endLine == cpos.line) = true := by rfl) (hs : ∀ env : PySem.Env, starEach [e] env = (false, eval e env) :: starEach [] env := by intro _; rfl) (hplain : ∀ env : PySem.Env, (backTo cpos (starEach [] env)).any (·.1) = false := by intro _; rfl) :
    XX S ρ (.Call (.Attribute a "extend" apos) [e] [] cpos) (.ok (.fro .non) (up (oL (xs ++ ys)))) := by
  have h := xx_extend hl he (by simpa using hn) hbase hfew hline hs hplain
  have e1 : oL (xs ++ ys) = .lst (((xs.map enc).map O.fro) ++ (ys.map enc).map .fro) := by unfold oL; rw [List.map_append, List.map_append]
  rw [e1]; exact h
end
section
variable {S : Sig} {ρ ρ1 : Env} {pin : List Nat} {ss : List Stmt}
/-- some slots are forgotten -/
theorem xb_forgets : ∀ (is : List Nat) {ρ1 ρ2 : Env}, XB S pin ρ ss (.nx ρ1) → is.foldl (fun r i => r.set i none) ρ1 = ρ2 → XB S pin ρ ss (.nx ρ2)
  | [], _, _, h, e => by subst e; exact h
  | i :: is, _, _, h, e => xb_forgets is (xs_forget i h) e
theorem xb_last {st : Stmt} {r : RS} (h : XS S pin ρ st r) : XB S pin ρ [st] r := xb_one h
end
section
variable {S : Sig} {ρ : Env} {e : Expr} {es : List Expr} {pos p2 : Pos} {x : Str} {ps : List Str} {k : Nat} {T : Type} [DecidableEq T] [Datum T] [Enc T]
variable {τ : Type} {dd : τ → List D} {pre : τ → Prop} {rese : τ → Except Str O}
theorem tp_call [Calm S] {v : T} (hG : FnG S.P S.w S.K S.mg S.base k x ps (spP S.K dd pre rese)) (y : τ) (hp : pre y) (ha : XA S ρ (e :: es) (dd y)) (hr : rese y = oF v := by rfl) (hk : k ≤ S.kk := by exact Nat.le_of_ble_eq_true rfl) (hg : S.scope.names.lookup x = some .globalImplicit := by rfl) (hdb : (x == ("__debug__" : Str)) = false := by decide)
    (he : ∀ env : PySem.Env, starEach (e :: es) env = (false, eval e env) :: starEach es env := by intro _; rfl) (hpl : ∀ env : PySem.Env, (backTo pos (starEach es env)).any (·.1) = false := by intro _; rfl) : TP S ρ (.Call (.Name x p2) (e :: es) [] pos) v :=
  (xp_call hG y hp ha hk hg hdb he hpl).cast (by rw [hr]; rfl)
theorem tp_callO [Calm S] {v : List T} (hG : FnG S.P S.w S.K S.mg S.base k x ps (spP S.K dd pre rese)) (y : τ) (hp : pre y) (ha : XA S ρ (e :: es) (dd y)) (hr : rese y = oO v := by rfl) (hk : k ≤ S.kk := by exact Nat.le_of_ble_eq_true rfl) (hg : S.scope.names.lookup x = some .globalImplicit := by rfl) (hdb : (x == ("__debug__" : Str)) = false := by decide)
    (he : ∀ env : PySem.Env, starEach (e :: es) env = (false, eval e env) :: starEach es env := by intro _; rfl) (hpl : ∀ env : PySem.Env, (backTo pos (starEach es env)).any (·.1) = false := by intro _; rfl) : TP S ρ (.Call (.Name x p2) (e :: es) [] pos) v :=
  (xp_call hG y hp ha hk hg hdb he hpl).cast (by rw [hr]; show Except.ok (O.d (.lst ((v.map enc).map O.fro))) = _; rw [show O.d (.lst ((v.map enc).map O.fro)) = _ from oL_d v])
end
end G

namespace G
open PySem PySem.Spec PyProof.Rows L2
open PySem.W (Datum DatumOrd Tup T3 EachIs)
open Enc (enc)
/-! ### raising -/
abbrev ExcF (K : PySem.W.Frag) (x : Str) : Prop := PySem.W.excIn K (He.ga K x) He.veBase "ValueError.__new__" = true ∧ PySem.W.keepIn K (.ref (He.ga K x)) = true ∧ PySem.W.subIn K (.ref (He.ga K x)) (.type "BaseException") = some true ∧ PySem.W.typeIn K (.ref (He.ga K x)) = some (.type "type")
section
variable {S : Sig} {ρ ρ1 : Env} {a b c e : Expr} {pos p p2 pos2 : Pos} {pin : List Nat} {A B ss : List Stmt} {x : Str}
theorem xs_raise [Calm S] {m : Str} {j} {ρ2 : Option Env} (hx : ExcF S.K x) (g : S.mg x = some (.ref (He.ga S.K x))) (h2 : ρ2 = none ∨ ρ2 = some ρ := by first | exact .inl rfl | exact .inr rfl) (hg : S.scope.names.lookup x = some .globalImplicit := by rfl) (hdb : (x == ("__debug__" : Str)) = false := by decide) :
    XS S pin ρ (.Raise (some (.Call (.Name x p) [.Constant (.str m) j p2] [] pos2)) none pos) (.ex x ρ2) := by
  refine ⟨_, fun q ok => L2N.ps_raise (X := S.cx q) Calm.h ok.tk (L2N.pmk_own (X := S.cx q) PySem.F.excBase_ValueError hx.1 g hx.2.1 (raises_own hx.2.2.1 hx.2.2.2) (show S.scope.names.lookup x = some .globalImplicit from hg) hdb), fun σ F H A D w n q => ?_⟩
  rcases h2 with rfl | rfl
  · exact q σ F H [] (WF.none w.sub) (Stp.refl.perm (fun a => Iff.rfl) (by simp)) rfl Pin.refl
  · exact q σ F H A w Stp.refl n Pin.refl
/-- if c: .., the test itself raises -/
theorem xs_ifX {ρ2 : Option Env} (h : XP S ρ c (.error x)) (h2 : ρ2 = none ∨ ρ2 = some ρ := by first | exact .inl rfl | exact .inr rfl) (he : ∀ (env : PySem.Env) (whole : Sem Value), isTrue c env whole = (do let v ← whole; standAt c.pos; holding [v] (truthy v)) := by intro _ _; rfl) : XS S pin ρ (.If c A B pos) (.ex x ρ2) := by
  obtain ⟨t, h1, h3⟩ := h
  refine ⟨tIfS (tB t) tNever tNever, fun q ok => ps_if (pt_val (h1 q ok) (he _)) pss_never pss_never, fun σ F H A D w n q => h3 σ F H A _ w n fun F1 H1 g => ?_⟩
  rcases h2 with rfl | rfl
  · exact q σ F1 H1 [] (WF.none g.ext) ((g.stp.mono (by simp) (A' := A)).perm (fun _ => Iff.rfl) (by simp)) rfl Pin.refl
  · exact q σ F1 H1 A (g.wf w) ((g.stp.mono (by simp) (A' := A)).more (C := A) fun a h => .inl h) (g.envs n) Pin.refl
/-- return e, that may raise -/
theorem xs_retX {T : Type} [DecidableEq T] [Datum T] [Enc T] {r : Except Str T} (h : XP S ρ e (exD (oE oF r))) : XS S pin ρ (.Return (some e) pos) (rE rF r) := by
  cases r with
  | ok v => exact xs_retF h
  | error x => exact xs_retE h.xe (.inl rfl)
theorem xs_rt {T : Type} [DecidableEq T] [Datum T] [Enc T] {v : T} (h : TP S ρ e v) : XS S pin ρ (.Return (some e) pos) (rE rF (.ok v)) := xs_retF h
theorem term_rE {T : Type} [DecidableEq T] [Datum T] [Enc T] (r : Except Str T) : Term (rE rF r) := term_E (fun _ => term_F) r
/-- f(..) alone, that may raise -/
theorem xb_doE {T U : Type} [DecidableEq T] [Datum T] [Enc T] (f : U → RS) (m : T → Except Str U) {r : Except Str T} (h : XX S ρ e (exX ρ (oE oF r))) (k : ∀ v, r = .ok v → XB S pin ρ ss (rE f (m v))) (hs : ∀ env : PySem.Env, swapsWith e none pos.line env = pure false := by intro _; rfl) :
    XB S pin ρ (.Expr e pos :: ss) (rE f (bindE r m)) := xb_exprE f m h (fun v => ⟨_, rfl⟩) k hs
/-- if f(..): an end; what follows; f may raise -/
theorem xb_ifRE {U : Type} (f : U → RS) {r : Except Str Bool} {v1 v2 : Except Str U} (h : XP S ρ c (exD (oE oF r))) (ha : r = .ok true → XB S pin ρ A (rE f v1)) (ht : ∀ ρ, rE f v1 ≠ .nx ρ) (hb : r = .ok false → XB S pin ρ ss (rE f v2)) (he : ∀ (env : PySem.Env) (whole : Sem Value), isTrue c env whole = (do let v ← whole; standAt c.pos; holding [v] (truthy v)) := by intro _ _; rfl) :
    XB S pin ρ (.If c A [] pos :: ss) (rE f (bindE r fun k => if k = true then v1 else v2)) := by
  cases r with
  | error x => exact xb_stop (xs_ifX h (.inl rfl) he) fun ρ z => nomatch z
  | ok k =>
    have h' : XT S ρ c k := xt_val h he
    cases k with
    | true => exact xb_stop (xs_if h' (fun _ => ha rfl) fun z => nomatch z) ht
    | false => exact xb_cons (xs_if h' (fun z => nomatch z) fun _ => xb_nil) (hb rfl)
theorem fits_EF {T : Type} [DecidableEq T] [Datum T] [Enc T] (r : Except Str T) : Fits (rE rF r) (oE oF r) := fits_E (fun _ => fits_F) r
theorem tp_any [Calm S] {bs : List Bool} (hm : S.mg "any" = none) (h : TP S ρ a bs) (hg : S.scope.names.lookup ("any" : Str) = some .globalImplicit := by rfl) (he : ∀ env : PySem.Env, starEach [a] env = (false, eval a env) :: starEach [] env := by intro _; rfl) : TP S ρ (.Call (.Name "any" p2) [a] [] pos) (bs.any id) :=
  xp_cb (p := p2) (pos := pos) (cb_any (S := S)) hm (xav_cons h.v xav_nil he) hg (by decide +kernel) (by decide) (by decide) he (by intro _; rfl)
theorem tp_all [Calm S] {bs : List Bool} (hm : S.mg "all" = none) (h : TP S ρ a bs) (hg : S.scope.names.lookup ("all" : Str) = some .globalImplicit := by rfl) (he : ∀ env : PySem.Env, starEach [a] env = (false, eval a env) :: starEach [] env := by intro _; rfl) : TP S ρ (.Call (.Name "all" p2) [a] [] pos) (bs.all id) :=
  xp_cb (p := p2) (pos := pos) (cb_all (S := S)) hm (xav_cons h.v xav_nil he) hg (by decide +kernel) (by decide) (by decide) he (by intro _; rfl)
/-- a truth value, typed -/
theorem tt_b {k : Bool} (h : TP S ρ e k) (he : ∀ (env : PySem.Env) (whole : Sem Value), isTrue e env whole = (do let v ← whole; standAt e.pos; holding [v] (truthy v)) := by intro _ _; rfl) : XT S ρ e k := xt_val h he
theorem tp_not {k : Bool} (h : TP S ρ a k) : TP S ρ (.UnaryOp .Not a pos) (!k) := xp_not h
theorem tp_one {op : BoolOp} {k : Bool} (h : TP S ρ a k) : TP S ρ (.BoolOp op [a] pos) k := xp_one h
theorem tp_and {k l : Bool} {rest : List Expr} (h : TP S ρ a k) (h' : k = true → TP S ρ (.BoolOp .And (b :: rest) pos) l) : TP S ρ (.BoolOp .And (a :: b :: rest) pos) (k && l) := xp_and h h'
theorem tp_or {k l : Bool} {rest : List Expr} (h : TP S ρ a k) (h' : k = false → TP S ρ (.BoolOp .Or (b :: rest) pos) l) : TP S ρ (.BoolOp .Or (a :: b :: rest) pos) (k || l) := xp_or h h'
end
section
variable {S : Sig} {ρ : Env} {e : Expr} {es : List Expr} {pos p2 : Pos} {x : Str} {ps : List Str} {k : Nat} {T : Type} [DecidableEq T] [Datum T] [Enc T]
variable {τ : Type} {dd : τ → List D} {pre : τ → Prop} {rese : τ → Except Str O}
theorem xx_callE [Calm S] {r : Except Str T} (hG : FnG S.P S.w S.K S.mg S.base k x ps (spP S.K dd pre rese)) (y : τ) (hp : pre y) (ha : XA S ρ (e :: es) (dd y)) (hr : rese y = oE oF r := by rfl) (hk : k ≤ S.kk := by exact Nat.le_of_ble_eq_true rfl) (hg : S.scope.names.lookup x = some .globalImplicit := by rfl) (hdb : (x == ("__debug__" : Str)) = false := by decide)
    (he : ∀ env : PySem.Env, starEach (e :: es) env = (false, eval e env) :: starEach es env := by intro _; rfl) (hpl : ∀ env : PySem.Env, (backTo pos (starEach es env)).any (·.1) = false := by intro _; rfl) : XX S ρ (.Call (.Name x p2) (e :: es) [] pos) (exX ρ (oE oF r)) := by
  rw [← hr]; exact xx_call hG y hp ha hk hg hdb he hpl
theorem xp_callE [Calm S] {r : Except Str T} (hG : FnG S.P S.w S.K S.mg S.base k x ps (spP S.K dd pre rese)) (y : τ) (hp : pre y) (ha : XA S ρ (e :: es) (dd y)) (hr : rese y = oE oF r := by rfl) (hk : k ≤ S.kk := by exact Nat.le_of_ble_eq_true rfl) (hg : S.scope.names.lookup x = some .globalImplicit := by rfl) (hdb : (x == ("__debug__" : Str)) = false := by decide)
    (he : ∀ env : PySem.Env, starEach (e :: es) env = (false, eval e env) :: starEach es env := by intro _; rfl) (hpl : ∀ env : PySem.Env, (backTo pos (starEach es env)).any (·.1) = false := by intro _; rfl) : XP S ρ (.Call (.Name x p2) (e :: es) [] pos) (exD (oE oF r)) := by
  rw [← hr]; exact xp_call hG y hp ha hk hg hdb he hpl
theorem xp_callX [Calm S] {z : Str} (hG : FnG S.P S.w S.K S.mg S.base k x ps (spP S.K dd pre rese)) (y : τ) (hp : pre y) (ha : XA S ρ (e :: es) (dd y)) (hr : rese y = .error z) (hk : k ≤ S.kk := by exact Nat.le_of_ble_eq_true rfl) (hg : S.scope.names.lookup x = some .globalImplicit := by rfl) (hdb : (x == ("__debug__" : Str)) = false := by decide)
    (he : ∀ env : PySem.Env, starEach (e :: es) env = (false, eval e env) :: starEach es env := by intro _; rfl) (hpl : ∀ env : PySem.Env, (backTo pos (starEach es env)).any (·.1) = false := by intro _; rfl) : XP S ρ (.Call (.Name x p2) (e :: es) [] pos) (.error z) :=
  (xp_call hG y hp ha hk hg hdb he hpl).cast (by rw [hr]; rfl)
end
/-! ### membership, by one instance -/
def memB {T : Type} [DecidableEq T] (x : T) (xs : List T) : Bool := decide (x ∈ xs)
theorem memB_iff {T : Type} [DecidableEq T] {x : T} {xs : List T} : memB x xs = true ↔ x ∈ xs := by unfold memB; exact decide_eq_true_iff
theorem memB_no {T : Type} [DecidableEq T] {x : T} {xs : List T} : memB x xs = false ↔ x ∉ xs := by unfold memB; exact decide_eq_false_iff_not
section
variable {S : Sig} {ρ : Env} {a b : Expr} {pos : Pos} {T : Type} [DecidableEq T] [Datum T] [Enc T] {u : T}
theorem tt_mem {xs : List T} (ha : TV S ρ a u) (hb : TV S ρ b xs) (hd : Datum.depth T ≤ 63 := by decide) (hm : behindInMarks .In b = false := by rfl) : XT S ρ (.Compare a [.In] [b] pos) (memB u xs) := tt_in ha hb hd hm
theorem tt_nmem {xs : List T} (ha : TV S ρ a u) (hb : TV S ρ b xs) (hd : Datum.depth T ≤ 63 := by decide) (hm : behindInMarks .NotIn b = false := by rfl) : XT S ρ (.Compare a [.NotIn] [b] pos) (!memB u xs) := tt_ni ha hb hd hm
theorem tp_mem {xs : List T} (ha : TV S ρ a u) (hb : TV S ρ b xs) (hd : Datum.depth T ≤ 63 := by decide) (hm : behindInMarks .In b = false := by rfl) : TP S ρ (.Compare a [.In] [b] pos) (memB u xs) := tp_in ha hb hd hm
theorem tp_nmem {xs : List T} (ha : TV S ρ a u) (hb : TV S ρ b xs) (hd : Datum.depth T ≤ 63 := by decide) (hm : behindInMarks .NotIn b = false := by rfl) : TP S ρ (.Compare a [.NotIn] [b] pos) (!memB u xs) := tp_ni ha hb hd hm
theorem tt_memT {xs : Tup T} (ha : TV S ρ a u) (hb : TV S ρ b xs) (hd : Datum.depth T ≤ 63 := by decide) (hm : behindInMarks .In b = false := by rfl) : XT S ρ (.Compare a [.In] [b] pos) (memB u xs.items) := tt_inT ha hb hd hm
theorem tt_nmemT {xs : Tup T} (ha : TV S ρ a u) (hb : TV S ρ b xs) (hd : Datum.depth T ≤ 63 := by decide) (hm : behindInMarks .NotIn b = false := by rfl) : XT S ρ (.Compare a [.NotIn] [b] pos) (!memB u xs.items) := tt_niT ha hb hd hm
theorem tp_memT {xs : Tup T} (ha : TV S ρ a u) (hb : TV S ρ b xs) (hd : Datum.depth T ≤ 63 := by decide) (hm : behindInMarks .In b = false := by rfl) : TP S ρ (.Compare a [.In] [b] pos) (memB u xs.items) := tp_inT ha hb hd hm
theorem tp_nmemT {xs : Tup T} (ha : TV S ρ a u) (hb : TV S ρ b xs) (hd : Datum.depth T ≤ 63 := by decide) (hm : behindInMarks .NotIn b = false := by rfl) : TP S ρ (.Compare a [.NotIn] [b] pos) (!memB u xs.items) := tp_niT ha hb hd hm
end
section
variable {S : Sig} {ρ : Env} {it tg : Expr} {T : Type} [DecidableEq T] [Datum T] [Enc T]
theorem xi_lt {xs : List T} (h : TP S ρ it xs) : XI S ρ tg it (xs.map enc) := xi_lst h
theorem xi_tt {xs : Tup T} (h : TP S ρ it xs) : XI S ρ tg it (xs.items.map enc) := xi_tup h
end
end G

namespace G
open PySem PySem.Spec PyProof.Rows L2
open PySem.W (Datum DatumOrd Tup T3 EachIs)
open Enc (enc)
/-! ### sorted(set(..)) of few cells -/
def nub {T : Type} [DecidableEq T] : List T → List T
  | [] => []
  | x :: r => if memB x r = true then nub r else x :: nub r
theorem mem_nub {T : Type} [DecidableEq T] {v : T} : ∀ {xs : List T}, v ∈ nub xs ↔ v ∈ xs
  | [] => Iff.rfl
  | x :: r => by
    unfold nub
    by_cases h : memB x r = true
    · rw [if_pos h, mem_nub, List.mem_cons]
      exact ⟨.inr, fun q => q.elim (fun e => by rw [e]; exact memB_iff.mp h) id⟩
    · rw [if_neg h, List.mem_cons, List.mem_cons, mem_nub]
theorem nodup_nub {T : Type} [DecidableEq T] : ∀ (xs : List T), (nub xs).Nodup
  | [] => List.nodup_nil
  | x :: r => by
    unfold nub
    by_cases h : memB x r = true
    · rw [if_pos h]; exact nodup_nub r
    · rw [if_neg h]
      refine List.nodup_cons.mpr ⟨fun q => h (memB_iff.mpr (mem_nub.mp q)), nodup_nub r⟩
def sset {T : Type} [DecidableEq T] [DatumOrd T] (xs : List T) : List T := isortT (nub xs)
theorem sset_of {T : Type} [DecidableEq T] [DatumOrd T] [LOrd T] {xs ys : List T} (s : SrtT ys) (n : ys.Nodup) (m : ∀ v, v ∈ ys ↔ v ∈ xs) : ys = sset xs := by
  unfold sset
  refine srt_unique _ _ s (isortT_srt _) (((List.perm_ext_iff_of_nodup n (nodup_nub xs)).mpr fun v => ?_).trans (isortT_perm _).symm)
  rw [m, mem_nub]
theorem Grow.side {F H : Hp} {p : Addr} {o : HO} (e : Ext F H) (h : H p = none) : Grow F H F (upd H p o) := by
  refine ⟨⟨Ext.refl F, fun a u q _ => ?_, fun a u q => .inl q, by simp, fun a q => ?_⟩, fun a u q => ?_⟩
  · rw [upd_ne (ne_of_none q h)]; exact q
  · by_cases z : a = p
    · subst z; exact h
    · rw [upd_ne z] at q; exact q
  · rw [upd_ne (ne_of_none (e a u q) h)]; exact e a u q
def cel (k : List Int) : Cell := (k.getD 0 0, k.getD 1 0)
theorem cells_ks {K : PySem.W.Frag} {F : Hp} : ∀ {vs : List V} {xs : List Cell}, Reps K F vs (xs.map enc) → ∃ ks : List (Addr × List Int), vs = ks.map (fun p => V.ref p.1) ∧ (∀ p ∈ ks, F p.1 = some (.tup (p.2.map V.int))) ∧ ks.map (·.2) = xs.map fun c => [c.1, c.2]
  | _, [], h => by cases h; exact ⟨[], rfl, by simp, rfl⟩
  | _, x :: xs, h => by
    cases h with
    | cons h r =>
      obtain ⟨ks, h1, h2, h3⟩ := cells_ks r
      subst h1
      cases h with
      | tup ht rr =>
        rename_i a ws
        cases rr with
        | cons g1 rr =>
          cases rr with
          | cons g2 rr =>
            cases rr
            cases g1
            cases g2
            refine ⟨(a, [x.1, x.2]) :: ks, rfl, fun p hp => ?_, by rw [List.map_cons, h3]; rfl⟩
            rcases List.mem_cons.mp hp with rfl | hp
            · exact ht
            · exact h2 p hp
theorem code_lt {x y : Cell} (h : TS.code 64 [x.1, x.2] ≤ TS.code 64 [y.1, y.2]) (ne : ([x.1, x.2] : List Int) ≠ [y.1, y.2]) (b1 : (0 ≤ x.1 ∧ x.1 < 64) ∧ 0 ≤ x.2 ∧ x.2 < 64) (b2 : (0 ≤ y.1 ∧ y.1 < 64) ∧ 0 ≤ y.2 ∧ y.2 < 64) : DatumOrd.lt y x = false := by
  have z := L2.pair_lt h ne b1.1 b1.2 b2.1 b2.2
  rw [lt_pair]
  simp only [G.lt_int]
  split
  · rename_i e; exact decide_eq_false (by omega)
  · rename_i e; exact decide_eq_false (by omega)
section
variable {S : Sig} {ρ : Env} {a : Expr} {pos p2 p3 pos2 : Pos}
theorem tp_sset [Calm S] {xs : List Cell} (hm : S.mg "sorted" = none) (hm2 : S.mg "set" = none) (h : TP S ρ a xs) (hb : ∀ c ∈ xs, (0 ≤ c.1 ∧ c.1 < 64) ∧ 0 ≤ c.2 ∧ c.2 < 64) (hl : xs.length < 64) (hg : S.scope.names.lookup ("sorted" : Str) = some .globalImplicit := by rfl) (hg2 : S.scope.names.lookup ("set" : Str) = some .globalImplicit := by rfl) (he : ∀ env : PySem.Env, starEach [a] env = (false, eval a env) :: starEach [] env := by intro _; rfl) :
    TP S ρ (.Call (.Name "sorted" p2) [.Call (.Name "set" p3) [a] [] pos2] [] pos) (sset xs) := by
  obtain ⟨t, h1, h2⟩ := h
  refine ⟨tCB (rSortedT S.K S.P S.w) (tCons (tCB (rSetOfT S.K S.P S.w) (tCons t tNil)) tNil), fun q ok => ?_, fun σ F H A Q w n qq => ?_⟩
  · have hu : (S.cx q).A.units + 64 < cLine := by have := ok.room.un; show q.A.units + 64 < cLine; omega
    exact pe_callB (X := S.cx q) (cr_sortedT (X := S.cx q) Calm.h) (show S.scope.names.lookup _ = some .globalImplicit from hg) hm (by decide +kernel) (pa_cons (pe_callTy (X := S.cx q) (cr_setOfT (X := S.cx q) Calm.h hu) (show S.scope.names.lookup _ = some .globalImplicit from hg2) hm2 (by decide +kernel) (pa_cons (h1 q ok) pa_nil (he _)) (by decide) (by decide) (he _) (by rfl)) pa_nil) (by decide) (by decide) (by rfl) (by rfl)
  · refine h2 σ F H A _ w n fun v F1 H1 g r => ?_
    cases r with
    | lst hv r =>
      rename_i l vs
      obtain ⟨ks, e1, e2, e3⟩ := cells_ks r
      subst e1
      have len : ks.length = xs.length := by simpa using congrArg List.length e3
      refine ⟨l, ks, rfl, .of (g.ext _ _ hv), fun p hp => .of (g.ext _ _ (e2 p hp)), by omega, fun s L hs hL hK => ?_⟩
      have g2 := g.trans (Grow.side (o := SetTO S.P S.w s L) g.ext hs)
      have inks : ∀ p ∈ ks, ∃ c ∈ xs, p.2 = [c.1, c.2] := fun p hp => by
        have : p.2 ∈ ks.map (·.2) := List.mem_map.mpr ⟨p, hp, rfl⟩
        rw [e3] at this
        obtain ⟨c, hc, e⟩ := List.mem_map.mp this
        exact ⟨c, hc, e.symm⟩
      refine ⟨s, L, 2, 64, rfl, upd_same, fun p hp => .of (g2.ext _ _ (e2 p (hL p hp))), by decide, fun p hp => ?_, fun L' p pm nd fw pw hp => ?_⟩
      · obtain ⟨c, hc, e⟩ := inks p (hL p hp)
        rw [e]
        refine ⟨rfl, fun n hn => ?_⟩
        have := hb c hc
        rcases List.mem_cons.mp hn with rfl | hn
        · exact this.1
        · rw [List.mem_singleton.mp hn]; exact this.2
      · have inL : ∀ q ∈ L', ∃ c ∈ xs, q.2 = [c.1, c.2] := fun q hq => inks q (hL q (pm.mem_iff.mp hq))
        have ys : L'.map (fun q => cel q.2) = sset xs := by
          refine sset_of ?_ ?_ fun v => ?_
          · refine List.pairwise_map.mpr ?_
            have nd2 : L'.Pairwise fun q r => q.2 ≠ r.2 := List.pairwise_map.mp nd
            refine (List.pairwise_iff_forall_sublist.mpr fun {q r} hs => ?_)
            have hq : q ∈ L' := hs.subset (by simp)
            have hr : r ∈ L' := hs.subset (by simp)
            obtain ⟨c, hc, ec⟩ := inL q hq
            obtain ⟨d, hd, ed⟩ := inL r hr
            have c1 := List.pairwise_iff_forall_sublist.mp pw hs
            have c2 := List.pairwise_iff_forall_sublist.mp nd2 hs
            rw [ec, ed] at c1 c2 ⊢
            exact code_lt (x := c) (y := d) c1 c2 (hb c hc) (hb d hd)
          · refine List.pairwise_map.mpr ?_
            have nd2 : L'.Pairwise fun q r => q.2 ≠ r.2 := List.pairwise_map.mp nd
            refine (List.pairwise_iff_forall_sublist.mpr fun {q r} hs e => ?_)
            have hq : q ∈ L' := hs.subset (by simp)
            have hr : r ∈ L' := hs.subset (by simp)
            obtain ⟨c, hc, ec⟩ := inL q hq
            obtain ⟨d, hd, ed⟩ := inL r hr
            have c2 := List.pairwise_iff_forall_sublist.mp nd2 hs
            rw [ec, ed] at e c2
            have e' : c = d := e
            exact c2 (by rw [e'])
          · rw [List.mem_map]
            constructor
            · rintro ⟨q, hq, rfl⟩
              obtain ⟨c, hc, ec⟩ := inL q hq
              rw [ec]; exact hc
            · intro hv
              have : [v.1, v.2] ∈ ks.map (·.2) := by rw [e3]; exact List.mem_map.mpr ⟨v, hv, rfl⟩
              obtain ⟨p', hp', e'⟩ := List.mem_map.mp this
              have := hK p' hp'
              obtain ⟨q, hq, eq⟩ := List.mem_map.mp this
              refine ⟨q, pm.mem_iff.mpr hq, ?_⟩
              show cel q.2 = v
              have eq' : q.2 = p'.2 := eq
              rw [eq', e']; rfl
        have rep : Reps S.K F1 (L'.map fun q => V.ref q.1) ((sset xs).map enc) := by
          rw [← ys, List.map_map]
          have all : ∀ q ∈ L', Rep S.K F1 (.ref q.1) (enc (cel q.2)) := fun q hq => by
            obtain ⟨c, hc, ec⟩ := inL q hq
            have ht := e2 q (hL q (pm.mem_iff.mp hq))
            rw [ec] at ht ⊢
            exact .tup ht (.cons .int (.cons .int .nil))
          clear ys nd pw pm fw inL
          induction L' with
          | nil => exact .nil
          | cons q L' ih => exact .cons (all q (by simp)) (ih fun r hr => all r (by simp [hr]))
        have g3 := Grow.new (o := .lst (L'.map fun q => V.ref q.1)) g2.ext hp
        exact qq (.ref p) _ _ (g2.trans g3) (.lst upd_same (rep.mono g3.stp.fs))
end
end G

namespace G
open PySem PySem.Spec PyProof.Rows L2
open PySem.W (Datum DatumOrd Tup T3 EachIs)
open Enc (enc)
/-! ### sorted of a tuple -/
section
open PySem.W PySem.Calls
variable {prog : Program} {w : World} {A : Around} {E : Value → Shared → Prop} {s : Shared} {β : Type} {R : Value → β → Prop} {en : β → PyData} {vs : List Value} {bs : List β}
theorem sorted_dataT {l : Addr} {o : Obj} {n : Nat} {Q : Value → Shared → Prop} (ho : s.heap.get? l = some o) (hc : o.cls = .type "tuple") (hd : o.data = .seq vs.toArray n) (e : EachIs R vs bs) (er : EachIs (fun v b => ∃ as, Reads s.heap v (en b) as) vs bs) (hal : AllAlike (bs.map en)) (hk : Sortable (bs.map en)) (hL : bs.length ≤ sizeLine)
    (hu : ∀ b, b ∈ bs → A.units + 2 + (en b).depth < cLine) (h : ∀ (h2 : Heap) (p : Addr) (c : Nat) (out : List Value), (∀ b o, s.heap.get? b = some o → h2.get? b = some o) → s.heap.get? p = none → h2.get? p = some (seqObj "list" out.toArray c) → out.length = bs.length → EachIs R out (bs.mergeSort (dataLe false en)) → Q (.ref p) { s with heap := h2 }) :
    wpAny (model prog w) A (call (.builtin "sorted") [.ref l]) Q E s := by
  have hlen : vs.length = bs.length := e.length
  refine call_function_entry kind_sorted plain_sorted entry_sorted (args_sorted1 _) ?_
  unfold Builtin.«sorted»
  refine wpAny_bind (m := checkCount "sorted" 1 1 _) (wpAny_pure ?_)
  refine wpAny_bind (wpAny_collect_seq (T := "tuple") l (.inr rfl) ho hc hd (fun h1 k1 => ?_) (by rw [List.size_toArray]; omega))
  refine wpAny_bind (wpAny_newList ?_ (Nat.le_trans (Nat.le_of_eq (by simp [hlen])) hL))
  rw [List.toList_toArray]
  have hp : (h1.push (seqObj "list" vs.toArray 0)).get? h1.objs.size = some (seqObj "list" vs.toArray 0) := Heap.get?_push_size _ rfl
  have keep1 : ∀ b o, s.heap.get? b = some o → (h1.push (seqObj "list" vs.toArray 0)).get? b = some o := fun b o q => Heap.get?_push_of_some _ (k1 b o q)
  have lt1 : ∀ b o, s.heap.get? b = some o → b ≠ h1.objs.size := fun b o q => Nat.ne_of_lt (Heap.lt_size (k1 b o q))
  have er' : EachIs (fun v b => ∃ as, Reads (sortingHeap (h1.push (seqObj "list" vs.toArray 0)) h1.objs.size vs) v (en b) as) vs bs := er.mono fun _ _ ⟨as, r⟩ => ⟨as, PyProof.Rows.Reads.keeps (fun b o q => sortingHeap_old (lt1 b o q) (keep1 b o q)) r⟩
  have S : SortsAt prog w A.in1.in1 { s with heap := sortingHeap (h1.push (seqObj "list" vs.toArray 0)) h1.objs.size vs } (dataKind (sortingHeap (h1.push (seqObj "list" vs.toArray 0)) h1.objs.size vs) (bs.map en)) vs :=
    SortsAt.data (each_map (R := fun v d => ∃ as, Reads (sortingHeap (h1.push (seqObj "list" vs.toArray 0)) h1.objs.size vs) v d as) en er') hal hk (bound_map hu)
  refine wpAny_bind (wpAny_holding (wpAny_call_entry slot_list_sort ⟨_, hp, rfl⟩ entry_list_sort (wpAny_mono (list_sort_vals (s := { s with heap := h1.push (seqObj "list" vs.toArray 0) }) (P := fun f s' => f = .done (.ret .none) ∧ s' = { s with heap := sortedHeap (h1.push (seqObj "list" vs.toArray 0)) h1.objs.size vs (sortVals (dataKind (sortingHeap (h1.push (seqObj "list" vs.toArray 0)) h1.objs.size vs) (bs.map en)) false vs vs).toArray }) hp S (by rw [hlen]; exact hL) ⟨rfl, rfl⟩) (fun f s' hf => ?_) fun _ _ e => e) (args_list_sort _)))
  obtain ⟨rfl, rfl⟩ := hf
  refine ⟨_, rfl, wpAny_pure ⟨_, rfl, ?_⟩⟩
  obtain ⟨c, hc2⟩ := sortedHeap_at (vs := vs) (out := (sortVals (dataKind (sortingHeap (h1.push (seqObj "list" vs.toArray 0)) h1.objs.size vs) (bs.map en)) false vs vs).toArray) hp
  have le1 : s.heap.get? h1.objs.size = none := by
    cases q : s.heap.get? h1.objs.size with
    | none => rfl
    | some o => exact absurd rfl (lt1 _ _ q)
  exact h _ h1.objs.size c _ (fun b o q => (sortedHeap_old (lt1 b o q) (Heap.lt_size (keep1 b o q))).trans (keep1 b o q)) le1 hc2 (by rw [sortVals_length false rfl]; exact hlen) (sortVals_data false e er' hal)
end
section
variable {T : Type} [DecidableEq T] [DatumOrd T] [Enc T] [SortK T]
def rSortDT (K : PySem.W.Frag) (T : Type) [DecidableEq T] [DatumOrd T] [Enc T] : List V → Hp → VK → Prop := fun vs H Q => ∃ (F : Hp) (a : Addr) (xs : List V) (bs : List T), vs = [.ref a] ∧ Ext F H ∧ SqT K H a xs ∧ Reps K F xs (bs.map enc) ∧
  ∀ ys p, Reps K F ys ((sortT bs).map enc) → H p = none → Q (.ref p) (upd H p (.lst ys))
theorem cr_sortDT {X : Cx} (hu : X.A.units + 100 < cLine) : CallR X (.builtin "sorted") (rSortDT X.K T) := by
  intro pins s σ H vs us Q I r h
  obtain ⟨F, a, xs, bs, rfl, e, hs, rs, q⟩ := h
  obtain ⟨its, rv, ⟨o, ho, hc, n, hd⟩, hz⟩ := I.tuple hs
  obtain ⟨u, rfl, ru⟩ := vals1 r
  obtain rfl : u = Value.ref a := ru
  obtain ⟨e1, e2⟩ := each_of I e rs rv
  have len1 := rs.length
  rw [List.length_map] at len1
  have len2 := rv.length
  refine sorted_dataT (vs := its) (bs := bs) (en := Datum.toD) ho hc hd e1 e2 (PySem.W.AllAlike.of fun a b => DatumOrd.alike a b) ?_ (by rw [← len1]; exact hz) (fun b _ => ?_) fun h2 p c out kp hp hp2 hlo eo => ?_
  · rcases (inferInstance : SortK T).h with h | h
    · exact PySem.W.Sortable.tuples h
    · exact PySem.W.Sortable.others h
  · have := Datum.depth_le b
    have := (inferInstance : SortK T).d
    omega
  · obtain ⟨ys, h1, h3⟩ := each_back eo
    have hlen : ys.length ≤ sizeLine := by rw [h1.length, hlo, ← len1]; exact hz
    have e3 : bs.mergeSort (PySem.W.dataLe false Datum.toD) = sortT bs := by
      unfold sortT
      rw [PySem.W.dataLe_eq]
      congr 1
      funext a b
      show (!PySem.W.dataLt (Datum.toD b) (Datum.toD a)) = _
      rw [DatumOrd.lt_eq]
    rw [e3] at h3
    have hn : H p = none := I.hok.gone hp
    exact ⟨.ref _, upd H p (.lst ys), I.laidN (t' := s.toks) kp hp hn ⟨hlen, out.toArray.toList, c, by simpa using h1, hp2⟩, rfl, q ys _ h3 hn⟩
variable {S : Sig} {ρ : Env} {a : Expr} {pos p2 : Pos}
theorem cb_sortedT {xs : Tup T} : CBF S "sorted" [enc xs] (enc (sortT xs.items)) := ⟨rSortDT S.K T, fun q o => cr_sortDT (X := S.cx q) (by have := o.room.un; show q.A.units + 100 < cLine; omega), fun vs F H Q e rr q => by
  obtain ⟨v, rfl, r⟩ := reps1 rr
  cases r with
  | tup h r =>
    refine ⟨F, _, _, xs.items, rfl, e, .of (e _ _ h), r, fun ys p hy hp => ?_⟩
    have g := Grow.new (o := .lst ys) e hp
    exact q (.ref p) _ _ g (.lst upd_same (hy.mono g.stp.fs))⟩
theorem tp_sortedT {xs : Tup T} (hm : S.mg "sorted" = none) (h : TP S ρ a xs) (hg : S.scope.names.lookup ("sorted" : Str) = some .globalImplicit := by rfl) (he : ∀ env : PySem.Env, starEach [a] env = (false, eval a env) :: starEach [] env := by intro _; rfl) : TP S ρ (.Call (.Name "sorted" p2) [a] [] pos) (sortT xs.items) :=
  xp_cbF (p := p2) (pos := pos) cb_sortedT hm (xa_cons h xa_nil he) hg (by decide +kernel) (by decide) (by decide) he (by intro _; rfl)
end
end G

namespace G
open PySem PySem.Spec PyProof.Rows L2
open PySem.W (Datum DatumOrd Tup T3 EachIs)
open Enc (enc)
/-! ### isinstance of the error that a suite holds -/
theorem call_isE' {X : Cx} {a D : Addr} {oe : Obj} (hp : (a, oe) ∈ X.pn) (C : ExcC X.K D) (hz : L2N.Zn (.ref D) none oe) (hf : ∃ vs, oe.data = .fields vs) : CallR X (.builtin "isinstance") (rIsE X.K D a) := by
  intro pins s σ H xs us Q I r h
  obtain ⟨c, cv, b, rfl, hcv, e, q⟩ := h
  cases r with
  | cons rx rr =>
    cases rr with
    | cons rt rr =>
      cases rr
      cases rx
      have ec := hcv _ rt
      subst ec
      obtain ⟨hget, _⟩ := I.pin (a, oe) (List.mem_append_left _ hp)
      obtain ⟨vs, hv⟩ := hf
      have J : PySem.W.InstAt s.heap a oe D none := by
        obtain ⟨oc, od, oda, osl⟩ := oe
        obtain ⟨h1, h2, _⟩ := hz
        dsimp only at h1 h2 hv
        subst h1 h2 hv
        exact ⟨hget, rfl, rfl, trivial⟩
      exact PySem.W.kia_one (PySem.W.handS_kitx_exc C.hg C.hk C.hs C.hd C.ha C.hn C.ht C.hm) I.kIn J e (fun z => nomatch z) fun tk => ⟨.bl b, H, I.kept (t' := tk) fun _ _ z => z, rfl, q⟩
section
variable {S : Sig} {ρ ρ1 : Env} {a b c e : Expr} {d d1 d2 d3 : D} {ds : List D} {pos p2 p3 : Pos} {pin : List Nat} {es : List Expr} {x y : Str} {ad : Addr}
theorem xp_cls {u : Addr} (g : S.mg x = some (.ref u)) (hg : S.scope.names.lookup x = some .globalImplicit := by rfl) (hd : (x == ("__debug__" : Str)) = false := by decide) : XP S ρ (.Name x pos) (.ok (.obj u)) := xp_glob (v := .ref u) g rfl (fun _ => .obj) hg hd
theorem xp_isE {k : Bool} {cd : D} {cv : Value} (hS : S.hot = some (ad, y)) (E : ExcC S.K (He.ga S.K y)) (he : XP S ρ e (.ok (.obj ad))) (hc : XP S ρ c (.ok cd)) (hcv : ∀ F v u, Rep S.K F v cd → RelV v u → u = cv) (hk : PySem.W.kitOne S.K (.ref (He.ga S.K y)) cv = some k) (hm : S.mg "isinstance" = none) (hg : S.scope.names.lookup ("isinstance" : Str) = some .globalImplicit := by rfl)
    (hs : ∀ env : PySem.Env, starEach [e, c] env = (false, eval e env) :: starEach [c] env := by intro _; rfl) (hs2 : ∀ env : PySem.Env, starEach [c] env = (false, eval c env) :: starEach [] env := by intro _; rfl) (hpl : ∀ env : PySem.Env, (backTo pos (starEach [c] env)).any (·.1) = false := by intro _; rfl) :
    XP S ρ (.Call (.Name "isinstance" p2) [e, c] [] pos) (.ok (.bl k)) := by
  obtain ⟨t, a1, a2⟩ := xa_cons he (xa_cons hc xa_nil hs2) hs
  refine ⟨tCB (rIsE S.K (He.ga S.K y) ad) t, fun q ok => ?_, fun σ F H A Q w n q => a2 σ F H A _ w n fun vs F1 H1 g r => ?_⟩
  · obtain ⟨_, oe, h1, h2, h3⟩ := ok.hot ad y hS
    exact pe_callB (X := S.cx q) (call_isE' (X := S.cx q) (show (ad, oe) ∈ q.pn from h1) E h2 h3) (show S.scope.names.lookup ("isinstance" : Str) = some .globalImplicit from hg) hm (by decide +kernel) (a1 q ok) (by decide) (by decide) (hs _) (hpl _)
  · obtain ⟨v, u, rfl, r1, r2⟩ := reps2 r
    cases r1
    exact ⟨u, cv, k, rfl, fun z hz => hcv _ _ _ r2 hz, hk, q _ F1 H1 g .bl⟩
/-- isinstance(e, C), C of the program -/
theorem tp_isC {k : Bool} (hS : S.hot = some (ad, y)) (E : ExcC S.K (He.ga S.K y)) (he : XP S ρ e (.ok (.obj ad))) (g : S.mg x = some (.ref (He.ga S.K x))) (hk : PySem.W.kitOne S.K (.ref (He.ga S.K y)) (.ref (He.ga S.K x)) = some k) (hm : S.mg "isinstance" = none) (hg : S.scope.names.lookup ("isinstance" : Str) = some .globalImplicit := by rfl) (hg2 : S.scope.names.lookup x = some .globalImplicit := by rfl) (hd2 : (x == ("__debug__" : Str)) = false := by decide)
    (hs : ∀ env : PySem.Env, starEach [e, .Name x p3] env = (false, eval e env) :: starEach [.Name x p3] env := by intro _; rfl) :
    TP S ρ (.Call (.Name "isinstance" p2) [e, .Name x p3] [] pos) k := xp_isE hS E he (xp_cls g hg2 hd2) (fun F v u r z => by cases r; exact z) hk hm hg hs (by intro _; rfl) (by intro _; rfl)
/-- isinstance(e, ValueError) -/
theorem tp_isB {k : Bool} {n : String} (hS : S.hot = some (ad, y)) (E : ExcC S.K (He.ga S.K y)) (he : XP S ρ e (.ok (.obj ad))) (hk : PySem.W.kitOne S.K (.ref (He.ga S.K y)) (.type n) = some k) (hm : S.mg "isinstance" = none) (hm2 : S.mg x = none) (hv : bootBuiltins x = some (.type n) := by decide +kernel) (hg : S.scope.names.lookup ("isinstance" : Str) = some .globalImplicit := by rfl) (hg2 : S.scope.names.lookup x = some .globalImplicit := by rfl) (hn : x ≠ "__name__" := by decide) (hd2 : (x == ("__debug__" : Str)) = false := by decide)
    (hs : ∀ env : PySem.Env, starEach [e, .Name x p3] env = (false, eval e env) :: starEach [.Name x p3] env := by intro _; rfl) :
    TP S ρ (.Call (.Name "isinstance" p2) [e, .Name x p3] [] pos) k := xp_isE hS E he (xp_ty hm2 hg2 hv hn hd2) (fun F v u r z => by cases r; exact z) hk hm hg hs (by intro _; rfl) (by intro _; rfl)

/-! ### xs.count(x), xs.index(x) -/
section
variable {T : Type} [DecidableEq T] [Datum T] [Enc T]
def rCountT (K : PySem.W.Frag) (xs : List T) (x : T) : V → List V → Hp → VK → Prop := fun v vs H Q => ∃ l ys u, v = .ref l ∧ vs = [u] ∧ SqL K H l ys ∧ Reps K H ys (xs.map enc) ∧ Rep K H u (enc x) ∧ Q (.int ((xs.countP fun y => decide (y = x) : Nat) : Int)) H
theorem mt_countT {X : Cx} (hu : X.A.units + 64 < cLine) {xs : List T} {x : T} (hd : Datum.depth T ≤ 60) : MtR X "list.count" (rCountT X.K xs x) := by
  intro pins s σ H v vs u us Q I rv rvs h
  obtain ⟨l, ys, w, rfl, rfl, hs, r1, r2, q⟩ := h
  cases rv
  obtain ⟨u1, rfl, ru⟩ := vals1 rvs
  obtain ⟨its, r, ⟨o1, n, e1, e2, _, e3⟩, _⟩ := I.list hs
  exact PySem.W.count_list_datum (vs := its.toArray) ⟨o1, e1, e2, n, e3⟩ (holdAll_of I r1 (by simpa using r)) (holds_of I r2 ru) (by omega) ⟨.int _, H, I.kept (t' := s.toks + 1) fun _ _ z => z, ⟨_, rfl⟩, q⟩
def rIndexT (K : PySem.W.Frag) (xs : List T) (x : T) : V → List V → Hp → VK → Prop := fun v vs H Q => ∃ l ys u, v = .ref l ∧ vs = [u] ∧ SqL K H l ys ∧ Reps K H ys (xs.map enc) ∧ Rep K H u (enc x) ∧ x ∈ xs ∧ Q (.int ((xs.idxOf x : Nat) : Int)) H
theorem mt_indexT {X : Cx} (hu : X.A.units + 64 < cLine) {xs : List T} {x : T} (hd : Datum.depth T ≤ 60) : MtR X "list.index" (rIndexT X.K xs x) := by
  intro pins s σ H v vs u us Q I rv rvs h
  obtain ⟨l, ys, w, rfl, rfl, hs, r1, r2, hx, q⟩ := h
  cases rv
  obtain ⟨u1, rfl, ru⟩ := vals1 rvs
  obtain ⟨its, r, ⟨o1, n, e1, e2, _, e3⟩, hz⟩ := I.list hs
  have len := r1.length
  rw [List.length_map] at len
  exact PySem.W.index_list_datum (vs := its) ⟨o1, e1, e2, n, e3⟩ (holdAll_of I r1 r) (holds_of I r2 ru) (by omega) (by rw [← len]; exact hz) hx ⟨.int _, H, I.kept (t' := s.toks + 1) fun _ _ z => z, ⟨_, rfl⟩, q⟩
variable {xs : List T} {v : T}
theorem tp_count {apos : Pos} (ha : TV S ρ a xs) (he : TP S ρ e v) (hd : Datum.depth T ≤ 60 := by decide)
    (hbase : ∀ env : PySem.Env, attributeBase a "count" env (eval a env) = eval a env := by intro _; rfl)
    (hfew : ∀ env : PySem.Env, ((backTo pos (starEach [e] env)).all (fun x => !x.1) && (backToKw pos (keywordEach [] env)).all (fun x => x.1.isSome) && decide ([e].length + ([] : List Keyword).length + (if ([] : List Keyword).isEmpty then 0 else 1) < 30)) = true := by intro _; rfl)
    (hline : (apos.endLine == pos.line) = true := by rfl) (hs : ∀ env : PySem.Env, starEach [e] env = (false, eval e env) :: starEach [] env := by intro _; rfl) (hplain : ∀ env : PySem.Env, (backTo pos (starEach [] env)).any (·.1) = false := by intro _; rfl) :
    TP S ρ (.Call (.Attribute a "count" apos) [e] [] pos) ((xs.countP fun y => decide (y = v) : Nat) : Int) := by
  obtain ⟨t, h1, h2⟩ := ha
  obtain ⟨ta, a1, a2⟩ := xa_cons he xa_nil hs
  refine ⟨tBM S.K "list" (rCountT S.K xs v) t ta, fun q ok => pe_bm PySem.F.plainAttrs_list PySem.F.slot_list_count PySem.F.type_list_count (mt_countT (X := S.cx q) ok.units hd) (h1 q ok) (a1 q ok) (hbase _) (hfew _) hline (hs _) (hplain _), fun σ F H A Q w n q => h2 σ F H A _ w n fun u F1 H1 g r => ?_⟩
  cases r with
  | lst hx r =>
    refine ⟨.inl ⟨rfl, _, SqL.of hx⟩, a2 σ F1 H1 A _ (g.wf w) (g.envs n) fun vs F2 H2 g2 rr => ?_⟩
    obtain ⟨y, rfl, ry⟩ := reps1 rr
    exact ⟨_, _, y, rfl, rfl, .of (g2.hh _ _ hx), r.mono g2.hh, ry.mono g2.ext, q _ F2 H2 (g.trans g2) .int⟩
theorem tp_index {apos : Pos} (ha : TV S ρ a xs) (he : TP S ρ e v) (hm : v ∈ xs) (hd : Datum.depth T ≤ 60 := by decide)
    (hbase : ∀ env : PySem.Env, attributeBase a "index" env (eval a env) = eval a env := by intro _; rfl)
    (hfew : ∀ env : PySem.Env, ((backTo pos (starEach [e] env)).all (fun x => !x.1) && (backToKw pos (keywordEach [] env)).all (fun x => x.1.isSome) && decide ([e].length + ([] : List Keyword).length + (if ([] : List Keyword).isEmpty then 0 else 1) < 30)) = true := by intro _; rfl)
    (hline : (apos.endLine == pos.line) = true := by rfl) (hs : ∀ env : PySem.Env, starEach [e] env = (false, eval e env) :: starEach [] env := by intro _; rfl) (hplain : ∀ env : PySem.Env, (backTo pos (starEach [] env)).any (·.1) = false := by intro _; rfl) :
    TP S ρ (.Call (.Attribute a "index" apos) [e] [] pos) ((xs.idxOf v : Nat) : Int) := by
  obtain ⟨t, h1, h2⟩ := ha
  obtain ⟨ta, a1, a2⟩ := xa_cons he xa_nil hs
  refine ⟨tBM S.K "list" (rIndexT S.K xs v) t ta, fun q ok => pe_bm PySem.F.plainAttrs_list PySem.F.slot_list_index PySem.F.type_list_index (mt_indexT (X := S.cx q) ok.units hd) (h1 q ok) (a1 q ok) (hbase _) (hfew _) hline (hs _) (hplain _), fun σ F H A Q w n q => h2 σ F H A _ w n fun u F1 H1 g r => ?_⟩
  cases r with
  | lst hx r =>
    refine ⟨.inl ⟨rfl, _, SqL.of hx⟩, a2 σ F1 H1 A _ (g.wf w) (g.envs n) fun vs F2 H2 g2 rr => ?_⟩
    obtain ⟨y, rfl, ry⟩ := reps1 rr
    exact ⟨_, _, y, rfl, rfl, .of (g2.hh _ _ hx), r.mono g2.hh, ry.mono g2.ext, hm, q _ F2 H2 (g.trans g2) .int⟩
end

/-! ### a def that is called within a suite, with the error that is held -/
structure FnR (P : Program) (w : World) (K : PySem.W.Frag) (mg : Str → Option Value) (base : Heap) (k : Nat) (f : Addr) (fd : FuncData) (par y : Str) (d : D) : Prop where
  run : ∀ (A : Around) (outer : List PySem.Env) (s : Shared) (H : Hp) (args : Args) (Q : VK) (E : XK) (p : Addr × Obj), L2H.RoomH k A → L2H.Hot1 A p → L2H.PinOk outer H s p → L2N.Zn (.ref (He.ga K y)) none p.2 → L2.Env0 P w K mg base A outer s H → BindsTo s fd args [(par, .ref p.1)] →
    (∃ F, Ext F H ∧ ∀ v F' H', Grow F H F' H' → Rep K F' v d → Q v H') → codeAny (model P w) A (.call (.ref f) args) (CR (L2N.CX P w) outer P w H s Q E) s
def sigR (P : Program) (w : World) (K : PySem.W.Frag) (mg : Str → Option Value) (base : Heap) (N : List Str) (sc : Scope) (k : Nat) (E : XK) (a : Addr) (y : Str) : Sig := ⟨P, w, K, mg, base, N, sc, k, fun cls d _ H => E cls d H, fun _ => true, false, some (a, y), true⟩
theorem def_hot {P : Program} {w : World} {K : PySem.W.Frag} {mg : Str → Option Value} {base : Heap} {x qual : Str} {st : Stmt} {f : Addr} {fd : FuncData} {N : List Str} {par y : Str} {k : Nat} {d : D} (F : ∃ dvs kws, FunD K x qual (defArgs st) (defBody st) (defScope st) dvs kws f fd) (Sc : FnScope N [par] (defScope st))
    (body : ∀ (E : XK) (a : Addr), XB (sigR P w K mg base N (defScope st) k E a y) [] (some (O.fro (.obj a)) :: List.replicate (N.length - 1) none) (defBody st) (.rt (.fro d) none)) : FnR P w K mg base (k + 1) f fd par y d := by
  obtain ⟨dvs, kws, F⟩ := F
  obtain ⟨oc, od, dV, kV, doc, pm, an, cdv, ct, osl, rfl, lk, hcd, hd1, hd2⟩ := F.1
  refine ⟨fun A outer s H args Q E p hr hot hpin hz e0 hb ⟨F0, e00, hq⟩ => ?_⟩
  have KX : K.In s.heap := e0.mod.kin.keeps fun b o e => (e0.bs b o e).1
  have lim : s.heap.NoLimit := e0.mod.nolimit.keeps fun b o e => (e0.bs b o e).1
  have hkind : ∀ z ∈ [par].zip [Value.ref p.1], (defScope st).names.lookup z.1 = some .local ∨ ((defScope st).names.lookup z.1 = some .cell ∧ ((cellsFrom (s.heap.objs.size + 1) (defScope st).names []).lookup z.1).isSome = true) := fun ⟨n, v⟩ hy => by
    rcases Sc.par n (List.of_mem_zip hy).1 with q | q
    · exact .inl q
    · exact .inr ⟨q, PySem.W.cellsFrom_some _ _ _ (.inl q)⟩
  refine codeAny_call_function hr.depth (KX _ _ lk) rfl Sc.co Sc.gen rfl (PySem.W.codeRec_of KX hcd) (hb _ _ _ _ ?_)
  refine wpAny_newFunctionEnv_cells Sc.kind hkind fun env he s1 x => ?_
  subst he
  refine ⟨lim.keeps x.toInCall.keep, codeAny_func ?_⟩
  have I : Inv (L2H.cxH (L2N.CX P w) P w K mg base N qual (defScope st) f cdv A outer s H E p) [] (L2.start N [V.ref p.1]) H s1 := L2H.inv_startH (us := [.ref p.1]) Sc hpin e0 rfl (.cons rfl .nil) x
  obtain ⟨t, ht, h2⟩ := body E p.1
  have rm := hr.deeper (envOfC qual (defScope st) s.heap.objs.size f cdv)
  have ok : (sigR P w K mg base N (defScope st) k E p.1 y).Ok ⟨A.deeper (envOfC qual (defScope st) s.heap.objs.size f cdv), s, H, envOfC qual (defScope st) s.heap.objs.size f cdv, outer, envOfC qual (defScope st) s.heap.objs.size f cdv :: outer, [], fun _ => true, [p], (cxOf (L2N.CX P w) P w K mg base N qual (defScope st) f cdv A outer s H E).xe⟩ := by
    refine ⟨rm, (fun z => nomatch z), fun a y' z => ?_, fun _ => ⟨rfl, rfl⟩, ?_, fun _ _ => rfl, Sc.nd, ?_⟩
    · cases z
      obtain ⟨hh, vs, e, _⟩ := hot
      exact ⟨hh, p.2, by simp, hz, vs, e⟩
    · exact L2N.takes_of (X := L2H.cxH (L2N.CX P w) P w K mg base N qual (defScope st) f cdv A outer s H E p) rfl rfl rfl (by rfl)
    · show PassesOwn (model P w) (cxOf (L2N.CX P w) P w K mg base N qual (defScope st) f cdv A outer s H E).A (cxOf (L2N.CX P w) P w K mg base N qual (defScope st) f cdv A outer s H E).env (cxOf (L2N.CX P w) P w K mg base N qual (defScope st) f cdv A outer s H E).xe
      exact PassesOwn.leaving
  have n1 := start_of (K := K) (F := F0) (H := H) (N := N) (vs := [V.ref p.1]) (os := [O.fro (.obj p.1)]) (A := []) (Owns.fros (ds := [.obj p.1]) (.cons .obj .nil))
  have run := (ht _ ok).run [] s1 (L2.start N [V.ref p.1]) H { nx := fun _ H' => Q .non H', rt := Q } I (h2 _ F0 H [] _ (WF.none e00) n1 (by
    intro v σ' F' H' B A' w' s' ow n' p'
    cases ow with
    | fro r =>
      obtain rfl : A' = [] := n'
      exact hq v F' H' ⟨s', w'.sub⟩ r))
  refine wpAny_mono run (fun fl s' hs => ?_) fun e s' hs => hs
  have fin : ∀ {σ' : L2.St} {H' : Hp} {v : V} {u : Value}, Inv (L2H.cxH (L2N.CX P w) P w K mg base N qual (defScope st) f cdv A outer s H E p) [] σ' H' s' → RelV v u → Q v H' → CE outer P w H s Q u s' :=
    fun {σ' H' v u} J rv q => ⟨v, H', J.os, J.bare, J.base, J.hok, rv, q⟩
  cases fl with
  | ret u =>
    obtain ⟨v, σ', H', J, rv, q⟩ := hs
    exact fin J rv q
  | next =>
    obtain ⟨σ', H', J, q⟩ := hs
    exact fin (v := V.non) (u := Value.none) J rfl q
  | brk =>
    obtain ⟨_, _, _, q⟩ := hs
    exact False.elim q
  | cont =>
    obtain ⟨_, _, _, q⟩ := hs
    exact False.elim q
structure FnRG (P : Program) (w : World) (K : PySem.W.Frag) (mg : Str → Option Value) (base : Heap) (k : Nat) (x par y : Str) (d : D) : Prop where
  h : ∃ f fd, FnR P w K mg base k f fd par y d ∧ mg x = some (.ref f) ∧ PySem.W.keepIn K (.ref f) = true ∧ Binds K fd [par] []
section
variable {k : Nat} {par : Str}
theorem xp_callR (hS : S.hot = some (ad, y)) (hG : FnRG S.P S.w S.K S.mg S.base k x par y d) (he : XP S ρ e (.ok (.obj ad))) (hk : k ≤ S.kk := by exact Nat.le_of_ble_eq_true rfl) (hg : S.scope.names.lookup x = some .globalImplicit := by rfl) (hdb : (x == ("__debug__" : Str)) = false := by decide)
    (hs : ∀ env : PySem.Env, starEach [e] env = (false, eval e env) :: starEach [] env := by intro _; rfl) (hpl : ∀ env : PySem.Env, (backTo pos (starEach [] env)).any (·.1) = false := by intro _; rfl) : XP S ρ (.Call (.Name x p2) [e] [] pos) (.ok d) := by
  obtain ⟨f, fd, FR, hm, kp, b⟩ := hG.h
  obtain ⟨t, a1, a2⟩ := xa_cons he xa_nil hs
  refine ⟨fun σ H Q => t σ H fun vs H1 => vs = [V.ref ad] ∧ ∃ F, Ext F H1 ∧ ∀ v F' H', Grow F H1 F' H' → Rep S.K F' v d → Q v H', fun q ok => ⟨fun pins s σ H Q I h => ?_⟩, fun σ F H A Q w n q => a2 σ F H A _ w n fun vs F1 H1 g r => ?_⟩
  · obtain ⟨hh, oe, h1, h2, vs0, h3⟩ := ok.hot ad y hS
    refine wpAny_Call_Name_kw (ld_glob (X := S.cx q) I (show S.scope.names.lookup x = some .globalImplicit from hg) hm ?_ hdb)
    refine PySem.W.callWith_K (h₀ := S.base) I.ok.mod.kin kp (thn ((a1 q ok).run pos pins s σ H _ I h) fun us s1 ⟨vs, H1, I1, r, e1, q1⟩ => ⟨I1.kIn, ?_⟩) (hs _) (hpl _)
    subst e1
    obtain ⟨u1, rfl, ru⟩ := vals1 r
    obtain rfl : u1 = Value.ref ad := ru
    have P1 := I1.pin (ad, oe) (List.mem_append_left _ (show (ad, oe) ∈ q.pn from h1))
    have hpin : L2H.PinOk q.stack H1 s1 (ad, oe) := ⟨P1.1, P1.2.1, fun hm => (List.mem_cons.mp (I1.stkSub ad hm)).elim P1.2.2.1 P1.2.2.2.1, P1.2.2.2.2⟩
    have b1 := b s1 [.ref ad] I1.kIn (by rfl)
    rw [List.append_nil] at b1
    refine wpAny_call (codeAny_mono (FR.run q.A q.stack s1 H1 ⟨[.ref ad], []⟩ Q (fun _ _ _ => False) (ad, oe) (ok.room.mono hk) ⟨hh, vs0, h3, h2.2.2 vs0 h3⟩ hpin h2 I1.env0 b1 q1) fun r s' hq => ?_)
    cases r with
    | error e => exact absurd hq (fun ⟨_, _, _, _, _, _, _, _, _, _, _, _, z⟩ => z)
    | ok fl =>
      cases fl with
      | ret u => exact I1.after hq
      | next => exact False.elim hq
      | brk => exact False.elim hq
      | cont => exact False.elim hq
  · obtain ⟨v, rfl, r1⟩ := reps1 r
    cases r1
    exact ⟨rfl, F1, g.ext, fun v F' H' g2 r2 => q v F' H' (g.trans g2) r2⟩
end
end

/-! ### try -/
@[reducible] def Sig.tr (S : Sig) (W : WX) : Sig := { S with wx := W }
@[reducible] def Sig.suite (S : Sig) (a : Addr) (y : Str) : Sig := { S with wx := fun _ _ _ _ => False, calm := false, hot := some (a, y) }
instance {S : Sig} {W : WX} [h : Calm S] : Calm (S.tr W) := ⟨(h.h : S.calm = true)⟩
theorem envs_none {K : PySem.W.Frag} {F H : Hp} : ∀ σ : L2.St, Envs K F H σ (List.replicate σ.length none) []
  | [] => .nil
  | _ :: σ => .no (envs_none σ)
theorem suite_ok {S : Sig} {q : Rest} (ok : S.Ok q) {a : Addr} {oe : Obj} {y : Str} {pn : List (Addr × Obj)} (hz : L2N.Zn (.ref (He.ga S.K y)) none oe) (hf : ∃ vs, oe.data = .fields vs) :
    (S.suite a y).Ok { q with A := q.A.mark (some (.ref a)), pn := (a, oe) :: pn, xe := fun _ _ => False } :=
  ⟨⟨ok.room.dp, ok.room.un⟩, (fun z => nomatch z), (fun a' y' z => by cases z; exact ⟨rfl, oe, by simp, hz, hf⟩), ok.top, (fun _ _ ⟨_, _, _, _, _, _, _, _, _, _, _, _, _, _, _, _, z⟩ => z), ok.fn, ok.nd, PassesOwn.never⟩
theorem tr_ok {S : Sig} {q : Rest} (ok : S.Ok q) (hh : S.hot = none) {W : WX} {pn : List (Addr × Obj)} {xe : Value → Shared → Prop} (tk : L2N.Takes ((S.cx q).tr pn xe) W) (po : PassesOwn (model S.P S.w) q.A { q.env with scope := S.scope } xe) : (S.tr W).Ok { q with pn := pn, xe := xe } :=
  ⟨ok.room, ok.hd, (fun a y z => by rw [show (S.tr W).hot = S.hot from rfl, hh] at z; cases z), ok.top, tk, ok.fn, ok.nd, po⟩
section
variable {S : Sig} {ρ ρ1 : Env} {pos pos' np : Pos} {pin : List Nat} {body suite : List Stmt} {b0 : Stmt} {x y n : Str} {r : RS} {o : O}
/-- the end of try: the body's own, or the suite's, which hands back -/
def TryEnd (S : Sig) (pin : List Nat) (x : Str) (ρs : Addr → Env) (su : List Stmt) : RS → RS → Prop
  | .ex y _, r => PySem.W.exmOne S.K (.ref (He.ga S.K y)) (.ref (He.ga S.K x)) = some true ∧ ∃ o, r = .rt o none ∧ ∀ a, XB (S.suite a y) pin (ρs a) su (.rt o none)
  | rb, r => r = rb
theorem EPost.pinW {D : Ends} {σ : L2.St} {F H : Hp} {A : List Addr} {i : Nat} (q : EPost S pin D σ F H A r) : EPost S (i :: pin) D σ F H A r := by
  have h : ∀ {σ' : L2.St}, Pin (i :: pin) σ σ' → Pin pin σ σ' := fun p => ⟨p.len, fun j hj => p.at_ j (List.mem_cons_of_mem _ hj)⟩
  cases r with
  | nx ρ => exact fun σ' F' H' A' w t n k => q σ' F' H' A' w t n (h k)
  | bk ρ => exact fun σ' F' H' A' w t n k => q σ' F' H' A' w t n (h k)
  | ct ρ => exact fun σ' F' H' A' w t n k => q σ' F' H' A' w t n (h k)
  | rt o ρ => exact fun v σ' F' H' B A' w t ow n k => q v σ' F' H' B A' w t ow n (h k)
  | ex x ρ => exact fun σ' F' H' A' w t n k => q σ' F' H' A' w t n (h k)
theorem xs_try_as {rb : RS} (i : Nat) (hb : ∀ W, XB (S.tr W) pin ρ body rb) (he : TryEnd S pin x (fun a => (List.replicate ρ.length none).set i (some (.fro (.obj a)))) (b0 :: suite) rb r) (g : S.mg x = some (.ref (He.ga S.K x)))
    (hi : Nat.blt i ρ.length = true := by rfl) (hh : S.hot = none := by rfl) (ht : S.top = true := by rfl) (hN : S.N[i]? = some n := by rfl) (hln : S.scope.names.lookup n = some .local := by rfl) (hg : S.scope.names.lookup x = some .globalImplicit := by rfl) (hdb : (x == ("__debug__" : Str)) = false := by decide) (hpi : i ∉ pin := by decide) :
    XS S pin ρ (.Try body [.ExceptHandler (some (.Name x np)) (some n) (b0 :: suite) pos'] [] [] pos) r := by
  have hb' : ∀ W, ∃ t, (∀ q, (S.tr W).Ok q → PSs ((S.tr W).cx q) body t) ∧ ES (S.tr W) pin t ρ rb := hb
  obtain ⟨ts, hts1, hts2⟩ : ∃ ts : Addr → Value → Option Addr → TS, (∀ q, S.Ok q → ∀ (a : Addr) (oe : Obj) (cls : Value) (d : Option Addr) (pn : List (Addr × Obj)), L2N.Zn cls d oe → (∃ vs, oe.data = .fields vs) → PSs ((S.cx q).suite a ((a, oe) :: pn)) (b0 :: suite) (ts a cls d)) ∧
      ∀ y ρo, rb = .ex y ρo → ∀ a D σ H, tAnyB (S.suite a y) (b0 :: suite) D σ H → ts a (.ref (He.ga S.K y)) none D σ H := by
    refine ⟨fun a cls d D σ H => ∃ y, cls = .ref (He.ga S.K y) ∧ d = none ∧ tAnyB (S.suite a y) (b0 :: suite) D σ H, fun q ok a oe cls d pn hz hf => ⟨fun pins s σ H D I ⟨y, e1, e2, t, h, z⟩ => ?_⟩, fun y ρo e a D σ H h => ⟨y, rfl, rfl, h⟩⟩
    subst e1 e2
    exact (h _ (suite_ok ok hz hf)).run pins s σ H D I z
  refine ⟨fun D σ H => Classical.choose (hb' (wAs S.K (.ref (He.ga S.K x)) i ts S.wx D)) D σ H, fun q ok => ?_, fun σ F H A D w nv post => ?_⟩
  · obtain ⟨st, sf⟩ := ok.top ht
    exact L2N.ps_try_as (X := S.cx q) (tb := fun W => Classical.choose (hb' W)) (ts := ts) (Wout := S.wx) st sf ok.nd hN hln ⟨hg, hdb, .inl g⟩ ok.tk
      (fun W pn xe tk po => (Classical.choose_spec (hb' W)).1 _ (tr_ok ok hh tk po)) fun a oe cls d pn hz hf => hts1 q ok a oe cls d pn hz hf
  · refine (Classical.choose_spec (hb' _)).2 σ F H A D w nv ?_
    cases rb with
    | nx ρ' => obtain rfl : r = _ := he; exact post
    | bk ρ' => obtain rfl : r = _ := he; exact post
    | ct ρ' => obtain rfl : r = _ := he; exact post
    | rt o ρ' => obtain rfl : r = _ := he; exact post
    | ex y ρ' =>
      obtain ⟨e1, o, rfl, hsu⟩ := he
      intro σ' F' H' A' w' s' n' p'
      refine ⟨true, e1, fun _ a na => hts2 y ρ' rfl a _ _ _ ?_, fun z => nomatch z⟩
      have lσ : σ'.length = ρ.length := p'.len.trans nv.length
      have n2 : Envs S.K F' H' (σ'.set i (some (.ref a))) ((List.replicate ρ.length none).set i (some (.fro (.obj a)))) [] := by
        obtain ⟨A2, n3, p3⟩ := (envs_none (K := S.K) (F := F') (H := H') σ').put (.fro (.obj (a := a))) (i := i) (by rw [List.getElem?_replicate, if_pos (by rw [lσ]; exact Nat.le_of_ble_eq_true hi)])
        rw [lσ] at n3
        have : A2 = [] := by simpa using p3
        rw [← this]; exact n3
      refine (hsu a).any _ F' H' [] _ (WF.none w'.sub) n2 ?_
      intro v σ2 F2 H2 B A2 w2 s2 ow n4 p4
      exact post v (σ2.set i (σ'[i]?.getD none)) F2 H2 B A2 w2 ((s'.perm (fun a => Iff.rfl) (by simp)).trans s2) ow n4 ⟨by rw [List.length_set, p4.len, List.length_set, p'.len], fun j hj => by
        have ne : i ≠ j := fun e => hpi (by rw [e]; exact hj)
        rw [List.getElem?_set_ne ne, p4.at_ j hj, List.getElem?_set_ne ne, p'.at_ j hj]⟩
end
end G

namespace G
open PySem PySem.Spec PyProof.Rows L2
open PySem.W (Datum DatumOrd Tup T3 EachIs)
open Enc (enc)
/-! ### except X: .. without a name -/
section
variable {S : Sig} {ρ ρ1 : Env} {pos pos' np : Pos} {pin : List Nat} {body suite : List Stmt} {b0 : Stmt} {x y : Str} {r : RS} {o : O}
theorem xs_try_only {rb : RS} (hb : ∀ W, XB (S.tr W) pin ρ body rb) (he : TryEnd S pin x (fun _ => List.replicate ρ.length none) (b0 :: suite) rb r) (g : S.mg x = some (.ref (He.ga S.K x)))
    (hh : S.hot = none := by rfl) (ht : S.top = true := by rfl) (hg : S.scope.names.lookup x = some .globalImplicit := by rfl) (hdb : (x == ("__debug__" : Str)) = false := by decide) :
    XS S pin ρ (.Try body [.ExceptHandler (some (.Name x np)) none (b0 :: suite) pos'] [] [] pos) r := by
  have hb' : ∀ W, ∃ t, (∀ q, (S.tr W).Ok q → PSs ((S.tr W).cx q) body t) ∧ ES (S.tr W) pin t ρ rb := hb
  obtain ⟨ts, hts1, hts2⟩ : ∃ ts : Addr → Value → Option Addr → TS, (∀ q, S.Ok q → ∀ (a : Addr) (oe : Obj) (cls : Value) (d : Option Addr) (pn : List (Addr × Obj)), L2N.Zn cls d oe → (∃ vs, oe.data = .fields vs) → PSs ((S.cx q).suite a ((a, oe) :: pn)) (b0 :: suite) (ts a cls d)) ∧
      ∀ y ρo, rb = .ex y ρo → ∀ a D σ H, tAnyB (S.suite a y) (b0 :: suite) D σ H → ts a (.ref (He.ga S.K y)) none D σ H := by
    refine ⟨fun a cls d D σ H => ∃ y, cls = .ref (He.ga S.K y) ∧ d = none ∧ tAnyB (S.suite a y) (b0 :: suite) D σ H, fun q ok a oe cls d pn hz hf => ⟨fun pins s σ H D I ⟨y, e1, e2, t, h, z⟩ => ?_⟩, fun y ρo e a D σ H h => ⟨y, rfl, rfl, h⟩⟩
    subst e1 e2
    exact (h _ (suite_ok ok hz hf)).run pins s σ H D I z
  refine ⟨fun D σ H => Classical.choose (hb' (wMany S.K S.wx D [(.ref (He.ga S.K x), ts)])) D σ H, fun q ok => ?_, fun σ F H A D w nv post => ?_⟩
  · obtain ⟨st, sf⟩ := ok.top ht
    exact L2N.ps_try_many (X := S.cx q) (tb := fun W => Classical.choose (hb' W)) (l := [(.ref (He.ga S.K x), ts)]) (Wout := S.wx) st sf ok.tk
      (fun W pn xe tk po => (Classical.choose_spec (hb' W)).1 _ (tr_ok ok hh tk po)) (.cons ⟨hg, hdb, .inl g⟩ (fun a oe cls d pn hz hf => hts1 q ok a oe cls d pn hz hf) .nil)
  · refine (Classical.choose_spec (hb' _)).2 σ F H A D w nv ?_
    cases rb with
    | nx ρ' => obtain rfl : r = _ := he; exact post
    | bk ρ' => obtain rfl : r = _ := he; exact post
    | ct ρ' => obtain rfl : r = _ := he; exact post
    | rt o ρ' => obtain rfl : r = _ := he; exact post
    | ex y ρ' =>
      obtain ⟨e1, o, rfl, hsu⟩ := he
      intro σ' F' H' A' w' s' n' p'
      refine ⟨true, e1, fun _ a na => hts2 y ρ' rfl a _ _ _ ?_, fun z => nomatch z⟩
      have lσ : σ'.length = ρ.length := p'.len.trans nv.length
      have n2 : Envs S.K F' H' σ' (List.replicate ρ.length none) [] := by rw [← lσ]; exact envs_none σ'
      refine (hsu a).any _ F' H' [] _ (WF.none w'.sub) n2 ?_
      intro v σ2 F2 H2 B A2 w2 s2 ow n4 p4
      exact post v σ2 F2 H2 B A2 w2 ((s'.perm (fun a => Iff.rfl) (by simp)).trans s2) ow n4 (p'.trans p4)
end
/-! ### a comprehension whose source raises -/
section
variable {S : Sig} {ρ ρ1 : Env} {a b c e it tg elt : Expr} {pos p2 : Pos} {pin : List Nat} {es : List Expr} {x : Str}
theorem xp_lcX {own : List (Str × Nat)} {scope : Scope} {tgt : TG} {ifs : List Expr} [Calm S] (hi : XP S ρ it (.error x)) (hg : ∀ q, (S.blk scope).Ok q → PG ((S.blk scope).cx q) tg tgt) (bo : blkC S.N S.scope scope own = true := by (try dsimp only [sigOf, Sig.blk]); decide +kernel)
    (hs : ∀ (env : PySem.Env) (x : Value), foldedSetIterable it env x = pure x := by intro _ _; rfl) : XP S ρ (.ListComp elt [⟨tg, it, ifs, 0⟩] scope pos) (.error x) := by
  obtain ⟨t, h1, h2⟩ := hi
  refine ⟨tLc (iList S.K t) tgt (tAnyTs (S.blk scope) ifs) (tAnyE (S.blk scope) elt) (own.map (·.2)), fun q ok => pe_lc (X := S.cx q) Calm.h ok.nd (pi_list (h1 q ok)) (blkOk_by bo) (fun s H C cl fp => ?_) (fun s H C cl fp => ?_) (fun s H C cl fp => ?_) (hs _), fun σ F H A Q w n q => h2 σ F H A _ w n q⟩
  · obtain ⟨q', ok', e⟩ := blk_cx S q ok scope s H C cl fp
    rw [← e]; exact hg q' ok'
  · obtain ⟨q', ok', e⟩ := blk_cx S q ok scope s H C cl fp
    rw [← e]; exact pts_any ok' ifs
  · obtain ⟨q', ok', e⟩ := blk_cx S q ok scope s H C cl fp
    rw [← e]; exact pe_any ok' elt
end
/-! ### facts of the top, some more -/
abbrev AlX : Type := Bool × He.AlD
abbrev KF := PySem.W.Frag → Bool
def obsX (ex : List KF) (fa : List He.Fa) (fn : List He.DefD) (K : PySem.W.Frag) : AlX := (ex.all fun f => f K, He.obsD fa fn K)
def valX (fn : List He.DefD) : AlX := (true, He.valD fn)
def SaysX (ex : List KF) (fa : List He.Fa) (fn : List He.DefD) (K : PySem.W.Frag) : Prop := obsX ex fa fn K = valX fn
def obsXG (n : Nat) (ex : List KF) (fa : List He.Fa) (fn : List He.DefD) (g : Addr → Option Obj) : AlX := obsX ex fa fn (He.frG g (He.asD g n))
def hookX (n : Nat) (ex : List KF) (fa : List He.Fa) (fn : List He.DefD) : PySem.W.Hook where
  α := AlX
  obs := fun s => obsXG n ex fa fn s.heap.get?
  val := fun _ => valX fn
  says := fun _ h => ∃ K : PySem.W.Frag, K.In h ∧ SaysX ex fa fn K
  of := fun _ _ e => ⟨_, He.frG_in, e⟩
  keeps := fun _ _ _ ⟨K, hK, c⟩ k => ⟨K, PySem.W.Frag.In.keeps hK k, c⟩
theorem obsXG_eq {n : Nat} {ex : List KF} {fa : List He.Fa} {fn : List He.DefD} {g : Addr → Option Obj} {s : Shared} (h : ∀ a, g a = s.heap.get? a) : obsXG n ex fa fn g = (hookX n ex fa fn).obs s := by
  have e : g = s.heap.get? := funext h
  rw [e] <;> rfl
section
variable {ex : List KF} {fa : List He.Fa} {fn : List He.DefD} {K : PySem.W.Frag}
theorem SaysX.d (c : SaysX ex fa fn K) : He.SaysD fa fn K := congrArg (fun z : AlX => z.2) c
theorem SaysX.fact (c : SaysX ex fa fn K) (i : Nat) {f : KF} (h : ex[i]? = some f := by rfl) : f K = true :=
  List.all_eq_true.mp (show (ex.all fun f => f K) = true from congrArg (fun z : AlX => z.1) c) f (List.mem_of_getElem? h)
end
def kfExc (x : Str) : KF := fun K =>
  He.eqO (PySem.W.findIn K (.ref (He.ga K x)) "__getattribute__") (some (some (.builtin "BaseException.__getattribute__"))) && (He.eqO (PySem.W.findIn K (.ref (He.ga K x)) "__getattr__") (some none) &&
  (decide (PySem.W.subIn K (.ref (He.ga K x)) (.type "BaseException") = some true) && (PySem.W.hasDictIn K (He.ga K x) && (He.eqO (PySem.W.findIn K (.ref (He.ga K x)) "__class__") (some (some (.builtin "object.__class__"))) &&
  (He.eqO (PySem.W.specialIn K (.builtin "object.__class__") "__get__") (some (some (.builtin "getset_descriptor.__get__"))) && (decide (PySem.W.takesIn K (.builtin "object.__class__") = some true) && decide (PySem.W.mroIn K (He.ga K x) (.type "object") = some true)))))))
theorem kfExc_ok {K : PySem.W.Frag} {x : Str} (h : kfExc x K = true) : ExcC K (He.ga K x) := by
  obtain ⟨h1, h⟩ := He.ba h
  obtain ⟨h2, h⟩ := He.ba h
  obtain ⟨h3, h⟩ := He.ba h
  obtain ⟨h4, h⟩ := He.ba h
  obtain ⟨h5, h⟩ := He.ba h
  obtain ⟨h6, h⟩ := He.ba h
  obtain ⟨h7, h8⟩ := He.ba h
  exact ⟨He.eqO_ok h1, He.eqO_ok h2, of_decide_eq_true h3, h4, He.eqO_ok h5, He.eqO_ok h6, of_decide_eq_true h7, of_decide_eq_true h8⟩
def kfIs (x y : Str) (b : Bool) : KF := fun K => decide (PySem.W.kitOne K (.ref (He.ga K x)) (.ref (He.ga K y)) = some b)
theorem kfIs_ok {K : PySem.W.Frag} {x y : Str} {b : Bool} (h : kfIs x y b K = true) : PySem.W.kitOne K (.ref (He.ga K x)) (.ref (He.ga K y)) = some b := of_decide_eq_true h
def kfIsT (x : Str) (n : String) (b : Bool) : KF := fun K => decide (PySem.W.kitOne K (.ref (He.ga K x)) (.type n) = some b)
theorem kfIsT_ok {K : PySem.W.Frag} {x : Str} {n : String} {b : Bool} (h : kfIsT x n b K = true) : PySem.W.kitOne K (.ref (He.ga K x)) (.type n) = some b := of_decide_eq_true h
/-! ### what _law_refused tells -/
def m_refused (bs : List Bool) : Tx × Int := if (bs.countP fun y => decide (y = true)) = 1 then (⟨['r', 'e', 'f', 'u', 's', 'e', 'd']⟩, ((bs.idxOf true : Nat) : Int)) else (⟨['r', 'e', 'f', 'u', 's', 'e', 'd']⟩, -1)
end G

namespace G
open PySem PySem.Spec PyProof.Rows L2
open PySem.W (Datum DatumOrd Tup T3 EachIs)
open Enc (enc)
/-! ### what gen.py prints -/
def bnd {T U : Type} (v : T) (m : T → U) : U := m v
def eqB {T : Type} [DecidableEq T] (x y : T) : Bool := decide (x = y)
theorem eqB_iff {T : Type} [DecidableEq T] {x y : T} : eqB x y = true ↔ x = y := by unfold eqB; exact decide_eq_true_iff
theorem eqB_no {T : Type} [DecidableEq T] {x y : T} : eqB x y = false ↔ x ≠ y := by unfold eqB; exact decide_eq_false_iff_not
theorem eqB_self {T : Type} [DecidableEq T] (x : T) : eqB x x = true := eqB_iff.mpr rfl
def atD {T : Type} [Inhabited T] (xs : List T) (i : Int) : T := (atI xs i).getD default
class Sm {α : Type} (xs : List α) : Prop where
  h : xs.length ≤ 1000000
class Ft (p : Prop) : Prop where
  h : p
instance Sm.i1 {α : Type} (p : α → Bool) (xs : List α) [h : Sm xs] : Sm (xs.filter p) := ⟨Nat.le_trans (List.length_filter_le _ _) h.h⟩
instance Sm.i2 {α β : Type} (f : α → β) (xs : List α) [h : Sm xs] : Sm (xs.map f) := ⟨by rw [List.length_map]; exact h.h⟩
instance Sm.i3 {α : Type} : Sm ([] : List α) := ⟨by simp⟩
instance Sm.i4 {α : Type} (a : α) : Sm [a] := ⟨by simp⟩
instance Sm.i5 {α : Type} (a b : α) : Sm [a, b] := ⟨by simp⟩
instance Sm.i6 {α : Type} (a b c : α) : Sm [a, b, c] := ⟨by simp⟩
instance Sm.i7 {α : Type} (a b c d : α) : Sm [a, b, c, d] := ⟨by simp⟩
instance Sm.i8 {α : Type} (a b c d e : α) : Sm [a, b, c, d, e] := ⟨by simp⟩
instance Sm.i9 {α : Type} (a b c d e f : α) : Sm [a, b, c, d, e, f] := ⟨by simp⟩
theorem cutL_len {α : Type} (xs : List α) (lo hi : Option Int) : (cutL xs lo hi).length ≤ xs.length := by
  unfold cutL
  rw [List.length_take, List.length_drop]
  omega
instance Sm.i10 {α : Type} (xs : List α) (lo hi : Option Int) [h : Sm xs] : Sm (cutL xs lo hi) := ⟨Nat.le_trans (cutL_len _ _ _) h.h⟩
instance Sm.i11 {α β : Type} (xs : List α) (ys : List β) [h : Sm xs] : Sm (xs.zip ys) := ⟨by rw [List.length_zip]; have := h.h; omega⟩
instance Sm.i12 {α : Type} (xs : List α) [h : Sm xs] : Sm (enumL xs) := ⟨by rw [enumL_len]; exact h.h⟩
instance Sm.i13 {α : Type} (xs : List α) [h : Sm xs] : Sm xs.reverse := ⟨by rw [List.length_reverse]; exact h.h⟩
instance Sm.i14 {T : Type} [DecidableEq T] [DatumOrd T] (xs : List T) [h : Sm xs] : Sm (sortT xs) := ⟨by rw [(sortT_perm xs).length_eq]; exact h.h⟩
theorem sm_rng {lo hi : Int} (h : hi - lo ≤ 1000000) : Sm (rng lo hi) := ⟨by rw [rng_len]; omega⟩
section
variable {T : Type} [DecidableEq T] [Datum T] [Enc T]
abbrev fv (x : T) : Option O := some (.fro (enc x))
abbrev ov (xs : List T) : Option O := some (oL xs)
end
section
variable {S : Sig} {ρ ρ1 : Env} {a b c e it tg elt : Expr} {pos p2 p' : Pos} {pin : List Nat} {es : List Expr} {st : Stmt} {ss body : List Stmt} {x y : Str}
variable {T U V' : Type}
/-! ### blocks -/
theorem xb_stp (f : U → RS) (R : T → Env) {v : T} {m : T → U} (h : XS S pin ρ st (.nx (R v))) (k : ∀ w, w = v → XB S pin (R w) ss (f (m w))) : XB S pin ρ (st :: ss) (f (bnd v m)) := xb_cons h (k v rfl)
/-- a statement that changes no known slot -/
theorem xb_un (f : U → RS) {v : U} (h : XS S pin ρ st (.nx ρ)) (k : XB S pin ρ ss (f v)) : XB S pin ρ (st :: ss) (f v) := xb_cons h k
theorem xb_fn (f : U → RS) {v : T} {m : T → U} (R : T → Env) {A : List Stmt} {k : Bool} {s1 s2 : T} (hv : v = if k = true then s1 else s2) (hc : XT S ρ c k) (ha : k = true → XB S pin ρ A (.nx (R s1))) (hb : k = false → ρ = R s2) (hk : ∀ w, w = v → XB S pin (R w) ss (f (m w))) :
    XB S pin ρ (.If c A [] pos :: ss) (f (bnd v m)) := by
  subst hv
  cases k with
  | true => exact xb_cons (xs_if hc ha fun z => nomatch z) (hk _ rfl)
  | false => exact xb_cons (xs_if hc (fun z => nomatch z) fun _ => by rw [hb rfl]; exact xb_nil) (hk _ rfl)
def fN (R : T → Env) : T → RS := fun s => .nx (R s)
def fL {σ β : Type} (R : σ → Env) (fr : β → RS) : LO σ β → RS := LO.rs R fr
/-- if c: .. [else: ..], both go on -/
theorem xb_ij (f : U → RS) (R : T → Env) {A B : List Stmt} {k : Bool} {s1 s2 : T} {m : T → U} (hc : XT S ρ c k) (ha : k = true → XB S pin ρ A (fN R s1)) (hb : k = false → XB S pin ρ B (fN R s2)) (hk : ∀ w, w = (if k = true then s1 else s2) → XB S pin (R w) ss (f (m w))) :
    XB S pin ρ (.If c A B pos :: ss) (f (bnd (if k = true then s1 else s2) m)) := xb_cons (xs_ifj R hc ha hb) (hk _ rfl)
/-- the end of a branch that goes on -/
theorem xb_go (is : List Nat) {ρ2 : Env} (hq : is.foldl (fun r i => r.set i none) ρ = ρ2 := by rfl) : XB S pin ρ [] (.nx ρ2) := xb_forgets is xb_nil hq
theorem xb_goN (R : T → Env) (is : List Nat) (s : T) (hq : is.foldl (fun r i => r.set i none) ρ = R s := by rfl) : XB S pin ρ [] (fN R s) := xb_forgets is xb_nil hq
theorem xb_goL {σ β : Type} (R : σ → Env) (fr : β → RS) (is : List Nat) (s : σ) (hq : is.foldl (fun r i => r.set i none) ρ = R s := by rfl) : XB S pin ρ [] (fL R fr (.nx s)) := xb_forgets is xb_nil hq
theorem xb_rtF [DecidableEq T] [Datum T] [Enc T] {v : T} (h : TP S ρ e v) : XB S pin ρ (.Return (some e) pos :: ss) (rF v) := xb_stop (xs_retF h) fun _ z => nomatch z
theorem xb_rtE [DecidableEq T] [Datum T] [Enc T] {v : T} (h : TP S ρ e v) : XB S pin ρ (.Return (some e) pos :: ss) (rE rF (.ok v)) := xb_stop (xs_retF h) fun _ z => nomatch z
theorem xb_rtL {σ β : Type} (R : σ → Env) (fr : β → RS) {v : β} (h : XB S pin ρ (st :: ss) (fr v)) : XB S pin ρ (st :: ss) (fL R fr (.rt v)) := h
theorem xb_rtX [DecidableEq T] [Datum T] [Enc T] {r : Except Str T} (h : XP S ρ e (exD (oE oF r))) : XB S pin ρ (.Return (some e) pos :: ss) (rE rF r) := xb_stop (xs_retX h) (Term.ne (term_rE _))
/-- for, left by its end alone -/
theorem xb_fo [Calm S] (fr : U → RS) {α σ : Type} (xs : List α) (g : α → D) (R : σ → Env) {f : σ → α → σ} (I : Nat → σ → Prop) {tgt : TG} (ρb : σ → α → Env) {s0 : σ} {m : σ → U}
    (hi : XI S ρ tg it (xs.map g)) (hg : ∀ q, S.Ok q → PG (S.cx q) tg tgt) (hG : ∀ s x, EG S pin tgt (R s) (g x) (ρb s x)) (h0 : I 0 s0)
    (hI : ∀ i s x, xs[i]? = some x → I i s → I (i + 1) (f s x))
    (hb : ∀ i s x, xs[i]? = some x → I i s → XB S pin (ρb s x) body (fN R (f s x)))
    (hk : ∀ w, w = xs.foldl f s0 → I xs.length w → XB S pin (R w) ss (fr (m w))) (hq : ρ = R s0 := by rfl)
    (hs : ∀ (env : PySem.Env) (x : Value), foldedSetIterable it env x = pure x := by intro _ _; rfl) : XB S pin ρ (.For tg it body [] pos :: ss) (fr (bnd (xs.foldl f s0) m)) := by
  subst hq
  exact xb_forN fr xs g R f I ρb s0 m hi hg hG h0 hI hb hk hs
/-- for, that may end the def -/
theorem xb_fe [Calm S] (fr : U → RS) (hfr : ∀ b, Term (fr b)) {α σ : Type} (xs : List α) (g : α → D) (R : σ → Env) {f : σ → α → LO σ U} (I : Nat → σ → Prop) {tgt : TG} (ρb : σ → α → Env) {s0 : σ} {m : σ → U}
    (hi : XI S ρ tg it (xs.map g)) (hg : ∀ q, S.Ok q → PG (S.cx q) tg tgt) (hG : ∀ s x, EG S pin tgt (R s) (g x) (ρb s x)) (h0 : I 0 s0)
    (hI : ∀ i s x s', xs[i]? = some x → I i s → f s x = .nx s' → I (i + 1) s')
    (hb : ∀ i s x, xs[i]? = some x → I i s → XB S pin (ρb s x) body (fL R fr (f s x)))
    (hk : ∀ w, forL f xs s0 = .nx w → XB S pin (R w) ss (fr (m w))) (hq : ρ = R s0 := by rfl)
    (hs : ∀ (env : PySem.Env) (x : Value), foldedSetIterable it env x = pure x := by intro _ _; rfl) : XB S pin ρ (.For tg it body [] pos :: ss) (fr ((forL f xs s0).fin m)) := by
  subst hq
  exact xb_for fr hfr xs g R f I ρb s0 m hi hg hG h0 hI hb hk hs
/-- while, left by its end alone -/
def whD {σ : Type} (c : σ → Bool) (f : σ → σ) (n : Nat) (s : σ) : σ := match whL (β := Empty) c (fun s => .nx (f s)) n s with
  | some (.nx w) => w
  | _ => s
theorem whL_nx {σ : Type} (c : σ → Bool) (f : σ → σ) : ∀ (n : Nat) (s : σ) {o : LO σ Empty}, whL c (fun s => .nx (f s)) n s = some o → ∃ w, o = .nx w
  | 0, _, _, h => by cases h
  | n + 1, s, o, h => by
    unfold whL at h
    split at h
    · exact whL_nx c f n _ h
    · cases h; exact ⟨_, rfl⟩
theorem xb_wh (fr : U → RS) {σ : Type} {cond : Expr} (R : σ → Env) {cc : σ → Bool} {f : σ → σ} (I : σ → Prop) {s0 : σ} {n : Nat} {m : σ → U} (ho : (whL (β := Empty) cc (fun s => .nx (f s)) n s0).isSome = true) (h0 : I s0)
    (hI : ∀ s, I s → cc s = true → I (f s)) (hc : ∀ s, I s → XT S (R s) cond (cc s)) (hb : ∀ s, I s → cc s = true → XB S pin (R s) body (fN R (f s)))
    (hk : ∀ w, w = whD cc f n s0 → I w → cc w = false → XB S pin (R w) ss (fr (m w))) (hq : ρ = R s0 := by rfl) : XB S pin ρ (.While cond body [] pos :: ss) (fr (bnd (whD cc f n s0) m)) := by
  subst hq
  obtain ⟨o, ho⟩ := Option.isSome_iff_exists.mp ho
  obtain ⟨w, rfl⟩ := whL_nx cc f n s0 ho
  have e : whD cc f n s0 = w := by unfold whD; rw [ho]
  have key : ∀ (n : Nat) (s : σ), whL (β := Empty) cc (fun s => .nx (f s)) n s = some (.nx w) → I s → I w ∧ cc w = false := by
    intro n
    induction n with
    | zero => intro s h; cases h
    | succ n ih =>
      intro s h hs
      unfold whL at h
      by_cases q : cc s = true
      · rw [if_pos q] at h
        exact ih _ h (hI s hs q)
      · rw [if_neg q] at h
        cases h
        exact ⟨hs, by simpa using q⟩
  obtain ⟨k1, k2⟩ := key n s0 ho h0
  have h := xs_while (pos := pos) (β := Empty) R cc (fun s => .nx (f s)) (fun b => b.elim) I s0 n ho h0 (fun b => b.elim) hc fun s hs hcs => ⟨hb s hs hcs, fun s' z => by cases z; exact hI s hs hcs⟩
  exact xb_cons h (by have := hk w e.symm k1 k2; rw [← e] at this; show XB S pin (R w) ss (fr (m (whD cc f n s0))); rw [e] at this ⊢; exact this)
/-! ### expressions -/
section
variable [DecidableEq T] [Datum T] [Enc T] {u v : T}
theorem te_eq (ha : TV S ρ a u) (hb : TV S ρ b v) (hd : Datum.depth T ≤ 64 := by decide) : XT S ρ (.Compare a [.Eq] [b] pos) (eqB u v) := tt_eq ha hb hd
theorem te_ne (ha : TV S ρ a u) (hb : TV S ρ b v) (hd : Datum.depth T ≤ 64 := by decide) : XT S ρ (.Compare a [.NotEq] [b] pos) (!eqB u v) := tt_ne ha hb hd
theorem tv_eq (ha : TV S ρ a u) (hb : TV S ρ b v) (hd : Datum.depth T ≤ 64 := by decide) : TP S ρ (.Compare a [.Eq] [b] pos) (eqB u v) := tp_eq ha hb hd
theorem tv_ne (ha : TV S ρ a u) (hb : TV S ρ b v) (hd : Datum.depth T ≤ 64 := by decide) : TP S ρ (.Compare a [.NotEq] [b] pos) (!eqB u v) := tp_ne ha hb hd
theorem te_in {xs : List T} (ha : TV S ρ a u) (hb : TV S ρ b xs) (hd : Datum.depth T ≤ 63 := by decide) (hm : behindInMarks .In b = false := by rfl) : XT S ρ (.Compare a [.In] [b] pos) (memB u xs) := tt_in ha hb hd hm
theorem te_ni {xs : List T} (ha : TV S ρ a u) (hb : TV S ρ b xs) (hd : Datum.depth T ≤ 63 := by decide) (hm : behindInMarks .NotIn b = false := by rfl) : XT S ρ (.Compare a [.NotIn] [b] pos) (!memB u xs) := tt_ni ha hb hd hm
theorem tv_in {xs : List T} (ha : TV S ρ a u) (hb : TV S ρ b xs) (hd : Datum.depth T ≤ 63 := by decide) (hm : behindInMarks .In b = false := by rfl) : TP S ρ (.Compare a [.In] [b] pos) (memB u xs) := tp_in ha hb hd hm
theorem tv_ni {xs : List T} (ha : TV S ρ a u) (hb : TV S ρ b xs) (hd : Datum.depth T ≤ 63 := by decide) (hm : behindInMarks .NotIn b = false := by rfl) : TP S ρ (.Compare a [.NotIn] [b] pos) (!memB u xs) := tp_ni ha hb hd hm
theorem te_inT {xs : Tup T} (ha : TV S ρ a u) (hb : TV S ρ b xs) (hd : Datum.depth T ≤ 63 := by decide) (hm : behindInMarks .In b = false := by rfl) : XT S ρ (.Compare a [.In] [b] pos) (memB u xs.items) := tt_inT ha hb hd hm
theorem te_niT {xs : Tup T} (ha : TV S ρ a u) (hb : TV S ρ b xs) (hd : Datum.depth T ≤ 63 := by decide) (hm : behindInMarks .NotIn b = false := by rfl) : XT S ρ (.Compare a [.NotIn] [b] pos) (!memB u xs.items) := tt_niT ha hb hd hm
theorem tv_inT {xs : Tup T} (ha : TV S ρ a u) (hb : TV S ρ b xs) (hd : Datum.depth T ≤ 63 := by decide) (hm : behindInMarks .In b = false := by rfl) : TP S ρ (.Compare a [.In] [b] pos) (memB u xs.items) := tp_inT ha hb hd hm
theorem tv_niT {xs : Tup T} (ha : TV S ρ a u) (hb : TV S ρ b xs) (hd : Datum.depth T ≤ 63 := by decide) (hm : behindInMarks .NotIn b = false := by rfl) : TP S ρ (.Compare a [.NotIn] [b] pos) (!memB u xs.items) := tp_niT ha hb hd hm
theorem atD_ok [Inhabited T] {xs : List T} {i : Int} (h : (0 ≤ i ∧ i < xs.length) ∨ (i < 0 ∧ 0 ≤ i + xs.length)) : atI xs i = some (atD xs i) := by
  unfold atD
  have : ∃ z, atI xs i = some z := by
    rcases h with h | h
    · exact atI_ok h
    · unfold atI ixN
      rw [if_neg (by omega), if_pos (by omega)]
      exact ⟨xs[(i + xs.length).toNat]'(by omega), List.getElem?_eq_getElem _⟩
  obtain ⟨z, e⟩ := this
  rw [e]; rfl
theorem tv_ix [Inhabited T] {xs : List T} {i : Int} (ha : TP S ρ a xs) (hb : TP S ρ b i) (h : (0 ≤ i ∧ i < xs.length) ∨ (i < 0 ∧ 0 ≤ i + xs.length)) (hs : PlainIx b := by intro _ _; rfl) : TP S ρ (.Subscript a b pos) (atD xs i) := tp_ixL ha hb (atD_ok h) hs
theorem tv_ixT [Inhabited T] {xs : Tup T} {i : Int} (ha : TP S ρ a xs) (hb : TP S ρ b i) (h : (0 ≤ i ∧ i < xs.items.length) ∨ (i < 0 ∧ 0 ≤ i + xs.items.length)) (hs : PlainIx b := by intro _ _; rfl) : TP S ρ (.Subscript a b pos) (atD xs.items i) := tp_ixT ha hb (atD_ok h) hs
end
section
variable {α : Type} [DecidableEq T] [Datum T] [Enc T] [Calm S] (own : List (Str × Nat)) {scope : Scope} {tgt : TG} {ifs : List Expr}
/-- [x for x in xs if c] -/
theorem tp_lcf (xs : List T) (p : T → Bool) (ρb : T → Env) (hi : XI S ρ tg it (xs.map enc)) (hg : ∀ q, (S.blk scope).Ok q → PG ((S.blk scope).cx q) tg tgt) (ho : TgOwn tgt (own.map (·.2)))
    (hG : ∀ x ∈ xs, EG (S.blk scope) [] tgt (wipeE ρ (own.map (·.2))) (enc x) (ρb x)) (ht : ∀ x ∈ xs, XT (S.blk scope) (ρb x) c (p x)) (he : ∀ x ∈ xs, p x = true → TP (S.blk scope) (ρb x) elt x) (hl : xs.length ≤ 1000000) (bo : blkC S.N S.scope scope own = true := by (try dsimp only [sigOf, Sig.blk]); decide +kernel)
    (hs : ∀ (env : PySem.Env) (x : Value), foldedSetIterable it env x = pure x := by intro _ _; rfl) : TP S ρ (.ListComp elt [⟨tg, it, [c], 0⟩] scope pos) (xs.filter p) :=
  (tp_lc xs enc p (fun x => x) own ρb hi hg ho hG ht he hl bo hs).cast (by rw [List.map_id'])
theorem ts_lcf (xs : List T) (p : T → Bool) (ρb : T → Env) (i : Nat) {y : Str} {py spos : Pos} (hi : XI S ρ tg it (xs.map enc)) (hg : ∀ q, (S.blk scope).Ok q → PG ((S.blk scope).cx q) tg tgt) (ho : TgOwn tgt (own.map (·.2)))
    (hG : ∀ x ∈ xs, EG (S.blk scope) [] tgt (wipeE ρ (own.map (·.2))) (enc x) (ρb x)) (ht : ∀ x ∈ xs, XT (S.blk scope) (ρb x) c (p x)) (he : ∀ x ∈ xs, p x = true → TP (S.blk scope) (ρb x) elt x) (hl : xs.length ≤ 1000000)
    (hn : Nat.blt i ρ.length = true := by rfl) (hp : i ∉ pin := by decide) (hN : S.N[i]? = some y := by rfl) (hy : S.scope.names.lookup y = some .local := by rfl) (hsw : ∀ env : PySem.Env, swapsWith (.ListComp elt [⟨tg, it, [c], 0⟩] scope pos) (some (.Name y py)) spos.line { env with scope := S.scope } = pure true := by intro _; exact sw_true rfl rfl rfl (by decide +kernel)) (bo : blkC S.N S.scope scope own = true := by (try dsimp only [sigOf, Sig.blk]); decide +kernel)
    (hs : ∀ (env : PySem.Env) (x : Value), foldedSetIterable it env x = pure x := by intro _ _; rfl) : XS S pin ρ (.Assign [.Name y py] (.ListComp elt [⟨tg, it, [c], 0⟩] scope pos) spos) (.nx (ρ.set i (some (.fro (enc (xs.filter p)))))) :=
  (ts_lc xs enc p (fun x => x) own ρb i hi hg ho hG ht he hl hn hp hN hy hsw bo hs).cast (by rw [List.map_id'])
end
/-- a, b = e : the slots by R -/
theorem xs_un {tgt : Expr} {g : TG} {d : D} {ρ2 : Env} (hg : ∀ q, S.Ok q → PG (S.cx q) tgt g) (h : XP S ρ e (.ok d)) (he : EG S pin g ρ d ρ1) (hq : ρ1 = ρ2 := by rfl) (hs : ∀ env : PySem.Env, swapsWithSole [tgt] e pos.line env = pure false := by intro _; rfl) (hw : ∀ env : PySem.Env, swappedStores [tgt] e env = pure none := by intro _; rfl)
    (h1 : ∀ env : PySem.Env, (assignEach [tgt] env).map (·.2) = [assign tgt env] := by intro _; rfl) : XS S pin ρ (.Assign [tgt] e pos) (.nx ρ2) := by
  subst hq
  exact xs_unpack hg h he hs hw h1
theorem xs_unC {tgt : Expr} {g : TG} {d : D} {ρ2 : Env} (hg : ∀ q, S.Ok q → PG (S.cx q) tgt g) (h : XP S ρ e (.ok d)) (he : EG S pin g ρ d ρ1) (hq : ρ1 = ρ2 := by rfl) (hs : ∀ env : PySem.Env, swapsWithSole [tgt] e pos.line { env with scope := S.scope } = pure false := by intro _; rfl) (hw : ∀ env : PySem.Env, swappedStores [tgt] e { env with scope := S.scope } = pure none := by intro _; rfl)
    (h1 : ∀ env : PySem.Env, (assignEach [tgt] env).map (·.2) = [assign tgt env] := by intro _; rfl) : XS S pin ρ (.Assign [tgt] e pos) (.nx ρ2) := by
  subst hq
  obtain ⟨t, a1, a2⟩ := h
  refine ⟨_, fun q ok => ps_asg (a1 q ok) (hg q ok) (hs _) (hw _) (h1 _), fun σ F H A D w n q => a2 σ F H A _ w n fun v F1 H1 g1 r => he σ F1 H1 A v _ (g1.wf w) (g1.envs n) r fun σ' A' w' m n' p => ?_⟩
  exact q σ' F1 H1 A' w' ((g1.stp.mono (by simp) (A' := A)).more (C := A) (fun a h => .inl h) |>.perm (fun a => Iff.rfl) fun a h => List.mem_append_right _ (m a h)) n' p
theorem xs_sF [DecidableEq T] [Datum T] [Enc T] {v : T} {ρ2 : Env} (i : Nat) {x : Str} {p' : Pos} (h : TP S ρ e v) (hq : ρ.set i (fv v) = ρ2 := by rfl) (hi : Nat.blt i ρ.length = true := by rfl) (hp : i ∉ pin := by decide) (hN : S.N[i]? = some x := by rfl) (hx : Loc S.scope x := by first | exact .inl rfl | exact .inr rfl) (hst : S.st x = true ∨ S.scope.names.lookup x = some .local := by first | exact .inl rfl | exact .inr rfl)
    (hs : ∀ env : PySem.Env, swapsWith e (some (.Name x p')) pos.line { env with scope := S.scope } = pure false := by intro _; rfl) : XS S pin ρ (.Assign [.Name x p'] e pos) (.nx ρ2) := by
  subst hq
  exact xs_setF i h hi hp hN hx hst hs
/-- x = [] | [..], owned -/
theorem xs_sO [DecidableEq T] [Datum T] [Enc T] {v : List T} {ρ2 : Env} (i : Nat) {x : Str} {p' : Pos} (h : XA S ρ es (v.map enc)) (hl : v.length ≤ 1000000) (hq : ρ.set i (ov v) = ρ2 := by rfl) (hi : Nat.blt i ρ.length = true := by rfl) (hp : i ∉ pin := by decide) (hN : S.N[i]? = some x := by rfl) (hx : Loc S.scope x := by first | exact .inl rfl | exact .inr rfl) (hst : S.st x = true ∨ S.scope.names.lookup x = some .local := by first | exact .inl rfl | exact .inr rfl)
    (hs : ∀ env : PySem.Env, swapsWith (.List es p2) (some (.Name x p')) pos.line { env with scope := S.scope } = pure false := by intro _; rfl) : XS S pin ρ (.Assign [.Name x p'] (.List es p2) pos) (.nx ρ2) := by
  subst hq
  exact xs_set i (xx_lst h (by simpa using hl)) hi hp hN hx hst hs
/-- some slots are forgotten ahead -/
theorem xb_drop (is : List Nat) {r : RS} {ρ2 : Env} (h : XB S pin ρ2 ss r) (hq : is.foldl (fun r i => r.set i none) ρ = ρ2 := by rfl) : XB S pin ρ ss r := by
  have one : ∀ (i : Nat) (ρ : Env), XB S pin (ρ.set i none) ss r → XB S pin ρ ss r := fun i ρ h => by
    obtain ⟨t, h1, h2⟩ := h
    refine ⟨t, h1, fun σ F H A D w n q => ?_⟩
    obtain ⟨B, A2, n2, p2⟩ := n.drop i
    exact h2 σ F H A2 D (w.perm p2).right n2 (q.trans (Stp.refl.perm (fun _ => Iff.rfl) fun a h => p2.mem_iff.mpr (List.mem_append_right _ h)) Pin.refl)
  have all : ∀ (is : List Nat) (ρ : Env), XB S pin (is.foldl (fun r i => r.set i none) ρ) ss r → XB S pin ρ ss r := by
    intro is
    induction is with
    | nil => intro ρ h; exact h
    | cons i is ih => intro ρ h; exact one i ρ (ih _ h)
  subst hq
  exact all is ρ h
/-- a loop within a loop -/
def LO.thn {σ σ' β : Type} (r : LO σ β) (k : σ → LO σ' β) : LO σ' β := match r with
  | .nx s => k s
  | .bk s => k s
  | .rt b => .rt b
theorem xb_feL [Calm S] {σ' β : Type} {R' : σ' → Env} {fr : β → RS} (hfr : ∀ b, Term (fr b)) {α σ : Type} (xs : List α) (g : α → D) (R : σ → Env) {f : σ → α → LO σ β} (I : Nat → σ → Prop) {tgt : TG} (ρb : σ → α → Env) {s0 : σ} {m : σ → LO σ' β}
    (hi : XI S ρ tg it (xs.map g)) (hg : ∀ q, S.Ok q → PG (S.cx q) tg tgt) (hG : ∀ s x, EG S pin tgt (R s) (g x) (ρb s x)) (h0 : I 0 s0)
    (hI : ∀ i s x s', xs[i]? = some x → I i s → f s x = .nx s' → I (i + 1) s')
    (hb : ∀ i s x, xs[i]? = some x → I i s → XB S pin (ρb s x) body (fL R fr (f s x)))
    (hk : ∀ w, forL f xs s0 = .nx w → XB S pin (R w) ss (fL R' fr (m w))) (hq : ρ = R s0 := by rfl)
    (hs : ∀ (env : PySem.Env) (x : Value), foldedSetIterable it env x = pure x := by intro _ _; rfl) : XB S pin ρ (.For tg it body [] pos :: ss) (fL R' fr ((forL f xs s0).thn m)) := by
  subst hq
  have h := xs_for (pos := pos) xs g R f fr I ρb s0 hi hg hG h0 hfr (fun i s x hx h => ⟨hb i s x hx h, fun s' e => hI i s x s' hx h e⟩) hs
  cases e : forL f xs s0 with
  | nx w =>
    rw [e] at h
    exact xb_cons h (hk w e)
  | bk w =>
    have nb : ∀ (xs : List α) (s : σ), forL f xs s ≠ .bk w := by
      intro xs
      induction xs with
      | nil => intro s z; cases z
      | cons x xs ih =>
        intro s z
        unfold forL at z
        cases ef : f s x with
        | nx s1 => rw [ef] at z; exact ih s1 z
        | bk s1 => rw [ef] at z; cases z
        | rt b => rw [ef] at z; cases z
    exact absurd e (nb xs s0)
  | rt b =>
    rw [e] at h
    exact xb_stop h (hfr b).ne
/-- a, b = x, y -/
theorem xs_par [Calm S] {T' : Type} [DecidableEq T] [Datum T] [Enc T] [DecidableEq T'] [Datum T'] [Enc T'] {u : T} {v : T'} {ρ2 : Env} (i j : Nat) {x y : Str} {px py pt pt2 : Pos} {kt k2 : Nat} (ha : TP S ρ a u) (hb : TP S ρ b v) (hq : (ρ.set i (fv u)).set j (fv v) = ρ2 := by rfl) (hi : Nat.blt i ρ.length = true := by rfl) (hj : Nat.blt j ρ.length = true := by rfl) (hp : i ∉ pin := by decide) (hp2 : j ∉ pin := by decide) (hN : S.N[i]? = some x := by rfl) (hN2 : S.N[j]? = some y := by rfl) (hij : i ≠ j := by decide)
    (hx : S.scope.names.lookup x = some .local := by rfl) (hy : S.scope.names.lookup y = some .local := by rfl) (he : ∀ env : PySem.Env, starEach [a, b] env = (false, eval a env) :: starEach [b] env := by intro _; rfl) (he2 : ∀ env : PySem.Env, starEach [b] env = (false, eval b env) :: starEach [] env := by intro _; rfl)
    (hw : ∀ env : PySem.Env, swappedStores [.Tuple [.Name x px, .Name y py] kt pt] (.Tuple [a, b] k2 pt2) { env with scope := S.scope } = pure (some [x, y]) := by intro _; rfl)
    (hs : ∀ env : PySem.Env, swapsWithSole [.Tuple [.Name x px, .Name y py] kt pt] (.Tuple [a, b] k2 pt2) pos.line { env with scope := S.scope } = pure false := by intro _; rfl) : XS S pin ρ (.Assign [.Tuple [.Name x px, .Name y py] kt pt] (.Tuple [a, b] k2 pt2) pos) (.nx ρ2) := by
  subst hq
  obtain ⟨t, a1, a2⟩ := xa_cons ha (xa_cons hb xa_nil he2) he
  refine ⟨_, fun q ok => ps_par (X := S.cx q) Calm.h ok.nd hN hN2 hij hx hy (a1 q ok) (hw _) (hs _), fun σ F H A D w n q => a2 σ F H A _ w n fun vs F1 H1 g r => ?_⟩
  obtain ⟨v1, v2, rfl, r1, r2⟩ := reps2 r
  have w1 := g.wf w
  obtain ⟨A2, n2, w2, m2⟩ := (g.envs n).store (B := []) (.fro r1) (Nat.le_of_ble_eq_true hi) w1
  obtain ⟨A3, n3, w3, m3⟩ := n2.store (B := []) (.fro r2) (by rw [List.length_set]; exact Nat.le_of_ble_eq_true hj) w2
  exact ⟨v1, v2, rfl, q _ F1 H1 A3 w3 (((g.stp.mono (by simp) (A' := A)).more (C := A) fun a h => .inl h).perm (fun _ => Iff.rfl) fun a h => by simpa using m2 a (by simpa using m3 a h)) n3 ((Pin.set hp).trans (Pin.set hp2))⟩
/-- freeze -/
theorem xb_fz [DecidableEq T] [Datum T] [Enc T] (i : Nat) {r : RS} {v : List T} {ρ2 : Env} (hρ : ρ[i]? = some (ov v)) (h : XB S pin ρ2 ss r) (hq : ρ.set i (fv v) = ρ2 := by rfl) : XB S pin ρ ss r := by
  subst hq
  refine xb_freeze i hρ ?_
  rw [oL_d]
  exact h
theorem tp_len2 {T' : Type} [DecidableEq T] [Datum T] [Enc T] [DecidableEq T'] [Datum T'] [Enc T'] {x : T × T'} (hm : S.mg "len" = none) (h : TV S ρ a x) (hg : S.scope.names.lookup ("len" : Str) = some .globalImplicit := by rfl) (he : ∀ env : PySem.Env, starEach [a] env = (false, eval a env) :: starEach [] env := by intro _; rfl) : TP S ρ (.Call (.Name "len" p2) [a] [] pos) (2 : Int) :=
  xp_cb (p := p2) (pos := pos) (cb_len_tup (S := S) (ds := [enc x.1, enc x.2])) hm (xav_cons h xav_nil he) hg (by decide +kernel) (by decide) (by decide) he (by intro _; rfl)
theorem tp_len3 {T' T'' : Type} [DecidableEq T] [Datum T] [Enc T] [DecidableEq T'] [Datum T'] [Enc T'] [DecidableEq T''] [Datum T''] [Enc T''] {x : T3 T T' T''} (hm : S.mg "len" = none) (h : TV S ρ a x) (hg : S.scope.names.lookup ("len" : Str) = some .globalImplicit := by rfl) (he : ∀ env : PySem.Env, starEach [a] env = (false, eval a env) :: starEach [] env := by intro _; rfl) : TP S ρ (.Call (.Name "len" p2) [a] [] pos) (3 : Int) :=
  xp_cb (p := p2) (pos := pos) (cb_len_tup (S := S) (ds := [enc x.a, enc x.b, enc x.c])) hm (xav_cons h xav_nil he) hg (by decide +kernel) (by decide) (by decide) he (by intro _; rfl)
theorem walk_zipT {K : PySem.W.Frag} {a b : Addr} {xs ys : List V} {n : Nat} (hn : n = min xs.length ys.length) : Walk (RZ.ItzT K a b) n (fun H => SqT K H a xs ∧ SqT K H b ys) (YPair (fun i => xs[i]?) (fun i => ys[i]?)) := by
  subst hn
  refine ⟨fun i _ hi q => ?_, fun _ q => ⟨xs, ys, q.1, q.2, by omega⟩, fun i H v H' _ q y => ?_⟩
  · have h1 : i < xs.length := by omega
    have h2 : i < ys.length := by omega
    exact ⟨xs, ys, xs[i], ys[i], q.1, q.2, by simp [h1], by simp [h2]⟩
  · obtain ⟨T, x, z, h1, h2, h3, h4, h5⟩ := y
    exact ⟨T, x, z, h1, h2, h3, h4 xs q.1, h5 ys q.2⟩
theorem xi_zpT {T' : Type} [DecidableEq T] [Datum T] [Enc T] [DecidableEq T'] [Datum T'] [Enc T'] {elts : List Expr} {kk : Nat} {tpos : Pos} {xs : Tup T} {ys : Tup T'} (hm : S.mg "zip" = none) (h : TP S ρ a xs) (h' : TP S ρ b ys) (hg : S.scope.names.lookup ("zip" : Str) = some .globalImplicit := by rfl)
    (hs : ∀ env : PySem.Env, starEach [a, b] env = (false, eval a env) :: starEach [b] env := by intro _; rfl) (hs2 : ∀ env : PySem.Env, starEach [b] env = (false, eval b env) :: starEach [] env := by intro _; rfl) (hpl : ∀ env : PySem.Env, (backTo pos (starEach [b] env)).any (·.1) = false := by intro _; rfl) :
    XI S ρ (.Tuple elts kk tpos) (.Call (.Name "zip" p2) [a, b] [] pos) ((xs.items.zip ys.items).map enc) := by
  obtain ⟨t, h1, h2⟩ := xa_cons h (xa_cons h' xa_nil hs2) hs
  refine ⟨RZ.iZipA S.K t, fun q ok => RZ.pi_zipA (X := S.cx q) (show S.scope.names.lookup ("zip" : Str) = some .globalImplicit from hg) hm (h1 q ok) (hs _) (hpl _), fun σ F H A R w n k => h2 σ F H A _ w n fun vs F1 H1 g rr => ?_⟩
  obtain ⟨v, u, rfl, r, r2⟩ := reps2 rr
  cases r with
  | tup hl r =>
    cases r2 with
    | tup hl2 r2 =>
      have len := r.length
      have len2 := r2.length
      rw [List.length_map] at len len2
      refine ⟨_, _, _, _, rfl, .inr ⟨.of (g.ext _ _ hl), .of (g.ext _ _ hl2), k _ F1 H1 g (src_pair (n := min xs.items.length ys.items.length) (by simp) (walk_zipT (by rw [len, len2])) (fun H2 e => ⟨.of (e _ _ hl), .of (e _ _ hl2)⟩) fun i u v hi hu hv => ?_)⟩⟩
      obtain ⟨d, e1, e2⟩ := r.get' hu
      obtain ⟨d', e1', e2'⟩ := r2.get' hv
      rw [List.getElem?_map] at e1 e1'
      cases z : xs.items[i]? with
      | none => rw [z] at e1; cases e1
      | some y =>
        rw [z] at e1
        cases e1
        cases z' : ys.items[i]? with
        | none => rw [z'] at e1'; cases e1'
        | some y' =>
          rw [z'] at e1'
          cases e1'
          exact ⟨_, _, by rw [List.getElem?_map, (List.getElem?_zip_eq_some (z := (y, y'))).mpr ⟨z, z'⟩]; rfl, e2, e2'⟩
/-! ### more expressions -/
section
variable [DecidableEq T] [Datum T] [Enc T] {u v : T}
theorem tv_own {xs : List T} (i : Nat) {x : Str} (hρ : ρ[i]? = some (ov xs) := by rfl) (hN : S.N[i]? = some x := by rfl) (hv : Vis S.scope x := by first | exact Or.inl rfl | exact Or.inr (Or.inl rfl) | exact Or.inr (Or.inr rfl))
    (hd : (x == ("__debug__" : Str)) = false := by decide) (hcd : (x == ("__classdict__" : Str)) = false := by decide) : TV S ρ (.Name x pos) xs := by
  have := xv_var (S := S) (pos := pos) i hρ hN hv hd hcd
  rw [oL_d] at this
  exact this
theorem xi_en {elts : List Expr} {kk : Nat} {tpos : Pos} {xs : List T} (hm : S.mg "enumerate" = none) (h : TP S ρ a xs) (hg : S.scope.names.lookup ("enumerate" : Str) = some .globalImplicit := by rfl) (hs : ∀ env : PySem.Env, starEach [a] env = [(false, eval a env)] := by intro _; rfl) :
    XI S ρ (.Tuple elts kk tpos) (.Call (.Name "enumerate" p2) [a] [] pos) ((enumL xs).map enc) := xi_enum (f := enc) hm h hg hs
theorem xi_zp {T' : Type} [DecidableEq T'] [Datum T'] [Enc T'] {elts : List Expr} {kk : Nat} {tpos : Pos} {xs : List T} {ys : List T'} (hm : S.mg "zip" = none) (h : TP S ρ a xs) (h' : TP S ρ b ys) (hg : S.scope.names.lookup ("zip" : Str) = some .globalImplicit := by rfl)
    (hs : ∀ env : PySem.Env, starEach [a, b] env = (false, eval a env) :: starEach [b] env := by intro _; rfl) (hs2 : ∀ env : PySem.Env, starEach [b] env = (false, eval b env) :: starEach [] env := by intro _; rfl) (hpl : ∀ env : PySem.Env, (backTo pos (starEach [b] env)).any (·.1) = false := by intro _; rfl) :
    XI S ρ (.Tuple elts kk tpos) (.Call (.Name "zip" p2) [a, b] [] pos) ((xs.zip ys).map enc) := xi_zip (f := enc) (f' := enc) hm h h' hg hs hs2 hpl
theorem xi_p2 {p : T × T} (h : TP S ρ it p) : XI S ρ tg it ([p.1, p.2].map enc) := xi_tup h
theorem tp_lenT {x : Tup T} (hm : S.mg "len" = none) (h : TV S ρ a x) (hg : S.scope.names.lookup ("len" : Str) = some .globalImplicit := by rfl) (he : ∀ env : PySem.Env, starEach [a] env = (false, eval a env) :: starEach [] env := by intro _; rfl) : TP S ρ (.Call (.Name "len" p2) [a] [] pos) ((x.items.length : Nat) : Int) := by
  have := xp_cb (p := p2) (pos := pos) (cb_len_tup (S := S) (ds := x.items.map enc)) hm (xav_cons h xav_nil he) hg (by decide +kernel) (by decide) (by decide) he (by intro _; rfl)
  rw [List.length_map] at this
  exact this
theorem tp_lstL {x : List T} (hm : S.mg "list" = none) (h : TP S ρ a x) (hg : S.scope.names.lookup ("list" : Str) = some .globalImplicit := by rfl) (he : ∀ env : PySem.Env, starEach [a] env = (false, eval a env) :: starEach [] env := by intro _; rfl) : TP S ρ (.Call (.Name "list" p2) [a] [] pos) x :=
  xp_ct (p := p2) (pos := pos) (ct_list_lst (S := S)) hm (xa_cons h xa_nil he) hg (by decide +kernel) (by decide) (by decide) he (by intro _; rfl)
theorem tp_lstT {x : Tup T} (hm : S.mg "list" = none) (h : TP S ρ a x) (hg : S.scope.names.lookup ("list" : Str) = some .globalImplicit := by rfl) (he : ∀ env : PySem.Env, starEach [a] env = (false, eval a env) :: starEach [] env := by intro _; rfl) : TP S ρ (.Call (.Name "list" p2) [a] [] pos) x.items :=
  xp_ct (p := p2) (pos := pos) (ct_list_tup (S := S)) hm (xa_cons h xa_nil he) hg (by decide +kernel) (by decide) (by decide) he (by intro _; rfl)
end
section
variable [DecidableEq T] [DatumOrd T] [Enc T] {u v : T}
theorem tt_ltD (ha : TP S ρ a u) (hb : TP S ρ b v) (hd : Datum.depth T ≤ 64 := by decide) : XT S ρ (.Compare a [.Lt] [b] pos) (DatumOrd.lt u v) := xt_cmp (oc_ltD hd) ha.v hb.v
theorem tt_gtD (ha : TP S ρ a u) (hb : TP S ρ b v) (hd : Datum.depth T ≤ 64 := by decide) : XT S ρ (.Compare a [.Gt] [b] pos) (DatumOrd.lt v u) := xt_cmp (oc_gtD hd) ha.v hb.v
theorem tp_ltD (ha : TP S ρ a u) (hb : TP S ρ b v) (hd : Datum.depth T ≤ 64 := by decide) : TP S ρ (.Compare a [.Lt] [b] pos) (DatumOrd.lt u v) := xp_cmp (oc_ltD hd) ha.v hb.v
theorem tp_gtD (ha : TP S ρ a u) (hb : TP S ρ b v) (hd : Datum.depth T ≤ 64 := by decide) : TP S ρ (.Compare a [.Gt] [b] pos) (DatumOrd.lt v u) := xp_cmp (oc_gtD hd) ha.v hb.v
end
theorem tp_sum [Calm S] {xs : List Int} (hm : S.mg "sum" = none) (h : TP S ρ a xs) (hg : S.scope.names.lookup ("sum" : Str) = some .globalImplicit := by rfl) (he : ∀ env : PySem.Env, starEach [a] env = (false, eval a env) :: starEach [] env := by intro _; rfl) : TP S ρ (.Call (.Name "sum" p2) [a] [] pos) xs.sum :=
  xp_cb (p := p2) (pos := pos) (cb_sum (S := S)) hm (xav_cons h.v xav_nil he) hg (by decide +kernel) (by decide) (by decide) he (by intro _; rfl)
theorem xp_gint {i : Int} {x : Str} (h : ∃ t, S.mg x = some (.int i t)) (hg : S.scope.names.lookup x = some .globalImplicit := by rfl) (hd : (x == ("__debug__" : Str)) = false := by decide) : TP S ρ (.Name x pos) i := by
  obtain ⟨t, h⟩ := h
  exact xp_glob (v := .int i) h ⟨t, rfl⟩ (fun _ => .int) hg hd
def minI (i j : Int) : Int := if j < i then j else i
def maxI (i j : Int) : Int := if j > i then j else i
def absI (i : Int) : Int := if i < 0 then -i else i
end
end G

namespace G
open PySem PySem.Spec PyProof.Rows L2
open PySem.W (Datum DatumOrd Tup T3 EachIs)
open Enc (enc)
section
variable {S : Sig} {ρ ρ1 : Env} {a b c e : Expr} {pos p2 p3 pos2 p' : Pos} {pin : List Nat}
/-! ### len(set(..)) of few cells -/
def rLenSet (P : Program) (w : World) : List V → Hp → VK → Prop := fun vs H Q => ∃ (a : Addr) (L : List (Addr × List Int)), vs = [V.ref a] ∧ H a = some (SetTO P w a L) ∧ ((L.map (·.2)).Nodup → Q (.int (L.length : Nat)) H)
theorem cr_lenSet {X : Cx} : CallR X (.builtin "len") (rLenSet X.prog X.w) := by
  intro pins s σ H vs us Q I r h
  obtain ⟨a, L, rfl, ha, q⟩ := h
  obtain ⟨u, rfl, ru⟩ := vals1 r
  obtain rfl : u = Value.ref a := ru
  have R : SetT0 X.prog X.w s.heap a L := (I.hok a _ ha).1
  obtain ⟨es, ep, t, ⟨o, h1, hex, hd⟩, hr, tab, nd, h5, h6, h7, h8⟩ := R.ex
  have hsz : es.size = L.length := by
    have h := congrArg List.length hr
    unfold rowsOf at h
    rw [Array.length_toList, List.length_map] at h
    exact h
  have hf : t.fits es.size = true := by
    have h1 := tab.sz
    rw [List.length_map] at h1
    unfold SetTable.fits SetTable.fill
    rw [tab.dm, Bool.and_eq_true, beq_iff_eq, decide_eq_true_eq]
    show t.place.size = es.size ∧ t.place.size + 0 ≤ t.mask
    omega
  refine call_len_set h1 hex hd hf (by rw [hsz]; omega) ⟨.int (L.length : Nat), H, (I.kept (t' := s.toks + 1 + 1) fun _ _ z => z), ⟨_, by rw [hsz]⟩, q nd⟩
theorem nub_len {T : Type} [DecidableEq T] {xs ys : List T} (n : ys.Nodup) (m : ∀ v, v ∈ ys ↔ v ∈ xs) : ys.length = (nub xs).length :=
  ((List.perm_ext_iff_of_nodup n (nodup_nub xs)).mpr fun v => by rw [m, mem_nub]).length_eq
theorem tp_lenSet [Calm S] {xs : List Cell} (hm : S.mg "len" = none) (hm2 : S.mg "set" = none) (h : TP S ρ a xs) (hl : xs.length < 64) (hg : S.scope.names.lookup ("len" : Str) = some .globalImplicit := by rfl) (hg2 : S.scope.names.lookup ("set" : Str) = some .globalImplicit := by rfl) (he : ∀ env : PySem.Env, starEach [a] env = (false, eval a env) :: starEach [] env := by intro _; rfl) :
    TP S ρ (.Call (.Name "len" p2) [.Call (.Name "set" p3) [a] [] pos2] [] pos) (((nub xs).length : Nat) : Int) := by
  obtain ⟨t, h1, h2⟩ := h
  refine ⟨tCB (rLenSet S.P S.w) (tCons (tCB (rSetOfT S.K S.P S.w) (tCons t tNil)) tNil), fun q ok => ?_, fun σ F H A Q w n qq => ?_⟩
  · have hu : (S.cx q).A.units + 64 < cLine := by have := ok.room.un; show q.A.units + 64 < cLine; omega
    exact pe_callB (X := S.cx q) (cr_lenSet (X := S.cx q)) (show S.scope.names.lookup _ = some .globalImplicit from hg) hm (by decide +kernel) (pa_cons (pe_callTy (X := S.cx q) (cr_setOfT (X := S.cx q) Calm.h hu) (show S.scope.names.lookup _ = some .globalImplicit from hg2) hm2 (by decide +kernel) (pa_cons (h1 q ok) pa_nil (he _)) (by decide) (by decide) (he _) (by rfl)) pa_nil) (by decide) (by decide) (by rfl) (by rfl)
  · refine h2 σ F H A _ w n fun v F1 H1 g r => ?_
    cases r with
    | lst hv r =>
      rename_i l vs
      obtain ⟨ks, e1, e2, e3⟩ := cells_ks r
      subst e1
      have len : ks.length = xs.length := by simpa using congrArg List.length e3
      refine ⟨l, ks, rfl, .of (g.ext _ _ hv), fun p hp => .of (g.ext _ _ (e2 p hp)), by omega, fun s L hs hL hK => ?_⟩
      have g2 := g.trans (Grow.side (o := SetTO S.P S.w s L) g.ext hs)
      refine ⟨s, L, rfl, upd_same, fun nd => ?_⟩
      have inL : ∀ q ∈ L, ∃ c ∈ xs, q.2 = [c.1, c.2] := fun q hq => by
        have : q.2 ∈ ks.map (·.2) := List.mem_map.mpr ⟨q, hL q hq, rfl⟩
        rw [e3] at this
        obtain ⟨c, hc, e⟩ := List.mem_map.mp this
        exact ⟨c, hc, e.symm⟩
      have e4 : L.length = (nub xs).length := by
        have := nub_len (xs := xs) (ys := L.map fun q => cel q.2) ?_ fun v => ?_
        · simpa using this
        · refine List.pairwise_map.mpr ((List.pairwise_iff_forall_sublist.mpr fun {q r} hs e => ?_))
          obtain ⟨c, hc, ec⟩ := inL q (hs.subset (by simp))
          obtain ⟨d, hd, ed⟩ := inL r (hs.subset (by simp))
          have c2 := List.pairwise_iff_forall_sublist.mp (List.pairwise_map.mp nd) hs
          rw [ec, ed] at e c2
          have e' : c = d := e
          exact c2 (by rw [e'])
        · rw [List.mem_map]
          constructor
          · rintro ⟨q, hq, rfl⟩
            obtain ⟨c, hc, ec⟩ := inL q hq
            rw [ec]; exact hc
          · intro hv
            have : [v.1, v.2] ∈ ks.map (·.2) := by rw [e3]; exact List.mem_map.mpr ⟨v, hv, rfl⟩
            obtain ⟨p', hp', e'⟩ := List.mem_map.mp this
            obtain ⟨q, hq, eq⟩ := List.mem_map.mp (hK p' hp')
            refine ⟨q, hq, ?_⟩
            show cel q.2 = v
            have eq' : q.2 = p'.2 := eq
            rw [eq', e']; rfl
      rw [e4]
      exact qq _ _ _ g2 .int
/-- xs[::-1] -/
theorem tp_rev {T : Type} [DecidableEq T] [Datum T] [Enc T] {xs : List T} {k : Nat} (h : TP S ρ a xs) : TP S ρ (.Subscript a (.Slice none none (some (.UnaryOp .USub (.Constant (.int 1) k p2) p3)) pos2) pos) xs.reverse := by
  obtain ⟨t, h1, h2⟩ := h
  refine ⟨tRevL S.K t, fun q ok => pe_revL (h1 q ok), fun σ F H A Q w n q => h2 σ F H A _ w n fun v F1 H1 g r => ?_⟩
  cases r with
  | lst hv r =>
    refine ⟨_, _, rfl, .of (g.ext _ _ hv), fun p hp => q _ _ _ (g.trans (Grow.new g.ext hp)) ?_⟩
    have := r.reverse
    rw [← List.map_reverse] at this
    exact .lst upd_same (reps_new g.ext hp this)
/-- y = [..], owned -/
theorem ts_lcmO {α T : Type} [DecidableEq T] [Datum T] [Enc T] [Calm S] {it tg elt : Expr} (xs : List α) (g : α → D) (f : α → T) (own : List (Str × Nat)) {scope : Scope} {tgt : TG} (ρb : α → Env) (i : Nat) {y : Str} {py spos : Pos} (hi : XI S ρ tg it (xs.map g)) (hg : ∀ q, (S.blk scope).Ok q → PG ((S.blk scope).cx q) tg tgt) (ho : TgOwn tgt (own.map (·.2)))
    (hG : ∀ x ∈ xs, EG (S.blk scope) [] tgt (wipeE ρ (own.map (·.2))) (g x) (ρb x)) (he : ∀ x ∈ xs, TP (S.blk scope) (ρb x) elt (f x)) (hl : xs.length ≤ 1000000)
    (hn : Nat.blt i ρ.length = true := by rfl) (hp : i ∉ pin := by decide) (hN : S.N[i]? = some y := by rfl) (hy : S.scope.names.lookup y = some .local := by rfl) (hsw : ∀ env : PySem.Env, swapsWith (.ListComp elt [⟨tg, it, [], 0⟩] scope pos) (some (.Name y py)) spos.line { env with scope := S.scope } = pure true := by intro _; exact sw_true rfl rfl rfl (by decide +kernel)) (bo : blkC S.N S.scope scope own = true := by (try dsimp only [sigOf, Sig.blk]); decide +kernel)
    (hs : ∀ (env : PySem.Env) (x : Value), foldedSetIterable it env x = pure x := by intro _ _; rfl) : XS S pin ρ (.Assign [.Name y py] (.ListComp elt [⟨tg, it, [], 0⟩] scope pos) spos) (.nx (ρ.set i (ov (xs.map f)))) :=
  (ps_lcO xs g (fun _ => true) (fun x => enc (f x)) own ρb i hi hg ho hG (fun x hx => xts_nil) (fun x hx _ => he x hx) hl hn hp hN hy hsw bo hs).cast (by rw [map_enc, List.filter_eq_self.mpr (by simp)]; rfl)
/-! ### if c: .., that may end the def, or go on -/
theorem xb_im {U σ : Type} {ss body : List Stmt} (fr : U → RS) (hfr : ∀ b, Term (fr b)) (R : σ → Env) {k : Bool} {A : LO σ U} {s2 : σ} {m : σ → U} (hA : ∀ w, A ≠ .bk w) (hc : XT S ρ c k) (ha : k = true → XB S pin ρ body (fL R fr A)) (hb : k = false → ρ = R s2)
    (hk : ∀ w, (if k = true then A else LO.nx s2) = .nx w → XB S pin (R w) ss (fr (m w))) : XB S pin ρ (.If c body [] pos :: ss) (fr ((if k = true then A else LO.nx s2).fin m)) := by
  cases k with
  | false =>
    have h := hk s2 rfl
    rw [← hb rfl] at h
    exact xb_cons (xs_if hc (fun z => nomatch z) fun _ => xb_nil) h
  | true =>
    have h := ha rfl
    cases A with
    | nx w => exact xb_cons (xs_if hc (fun _ => h) fun z => nomatch z) (hk w rfl)
    | bk w => exact absurd rfl (hA w)
    | rt b => exact xb_stop (xs_if hc (fun _ => h) fun z => nomatch z) (hfr b).ne
theorem xb_imL {β σ σ' : Type} {ss body : List Stmt} {R' : σ' → Env} {fr : β → RS} (hfr : ∀ b, Term (fr b)) (R : σ → Env) {k : Bool} {A : LO σ β} {s2 : σ} {m : σ → LO σ' β} (hA : ∀ w, A ≠ .bk w) (hc : XT S ρ c k) (ha : k = true → XB S pin ρ body (fL R fr A)) (hb : k = false → ρ = R s2)
    (hk : ∀ w, (if k = true then A else LO.nx s2) = .nx w → XB S pin (R w) ss (fL R' fr (m w))) : XB S pin ρ (.If c body [] pos :: ss) (fL R' fr ((if k = true then A else LO.nx s2).thn m)) := by
  cases k with
  | false =>
    have h := hk s2 rfl
    rw [← hb rfl] at h
    exact xb_cons (xs_if hc (fun z => nomatch z) fun _ => xb_nil) h
  | true =>
    have h := ha rfl
    cases A with
    | nx w => exact xb_cons (xs_if hc (fun _ => h) fun z => nomatch z) (hk w rfl)
    | bk w => exact absurd rfl (hA w)
    | rt b => exact xb_stop (xs_if hc (fun _ => h) fun z => nomatch z) (hfr b).ne
end
instance {α β γ : Type} [Inhabited α] [Inhabited β] [Inhabited γ] : Inhabited (T3 α β γ) := ⟨⟨default, default, default⟩⟩
instance {α : Type} : Inhabited (Tup α) := ⟨⟨[]⟩⟩
def okv {T : Type} [Inhabited T] (r : Except Str T) : T := match r with
  | .ok v => v
  | .error _ => default
theorem okF {T : Type} [DecidableEq T] [Datum T] [Enc T] [Inhabited T] {r : Except Str T} {w : T} (h : r = .ok w) : oE oF r = oF (okv r) := by rw [h]; rfl
theorem okv_eq {T : Type} [Inhabited T] {r : Except Str T} {w : T} (h : r = .ok w) : okv r = w := by rw [h]; rfl
end G

namespace G
open PySem PySem.Spec PyProof.Rows L2
open PySem.W (Datum DatumOrd Tup T3 EachIs)
open Enc (enc)
instance Calm.blk2 {S : Sig} {a b : Scope} [Calm S] : Calm ((S.blk a).blk b) := ⟨(Calm.h : S.calm = true)⟩
section
variable {S : Sig} {ρ ρ1 : Env} {a b c e : Expr} {pos p2 p3 pos2 p' : Pos} {pin : List Nat}
/-! ### a thing, or None -/
variable {T : Type} [DecidableEq T] [Datum T] [Enc T] [PySem.W.SomeDatum T]
theorem rep_some {K : PySem.W.Frag} {F : Hp} {v : V} {x : T} (h : Rep K F v (enc x)) : v ≠ .non := by
  rintro rfl
  have d := Enc.dp K F .non x h
  generalize e : Datum.toD x = z at d
  cases d
  have := PySem.W.SomeDatum.left x
  rw [e] at this
  simp [PyData.eqv] at this
theorem is_opt {K : PySem.W.Frag} (o : Option T) : ∀ v F, Rep K F v (enc o) → decide (v = .non) = o.isNone := fun v F h => by
  cases o with
  | none => cases h; rfl
  | some x => exact decide_eq_false (rep_some (x := x) h)
theorem te_isn {o : Option T} (ha : TP S ρ a o) {k : Nat} (hm : behindInMarks .Is (.Constant .none k p2) = false := by first | exact nomark _ | rfl) : XT S ρ (.Compare a [.Is] [.Constant .none k p2] pos) o.isNone := xt_cmp (oc_isN _ (is_opt o)) (XP.v ha) (XP.v xp_non) hm
theorem tv_isn {o : Option T} (ha : TP S ρ a o) {k : Nat} (hm : behindInMarks .Is (.Constant .none k p2) = false := by first | exact nomark _ | rfl) : TP S ρ (.Compare a [.Is] [.Constant .none k p2] pos) o.isNone := xp_cmp (oc_isN _ (is_opt o)) (XP.v ha) (XP.v xp_non) hm
theorem te_isnn {o : Option T} (ha : TP S ρ a o) {k : Nat} (hm : behindInMarks .IsNot (.Constant .none k p2) = false := by first | exact nomark _ | rfl) : XT S ρ (.Compare a [.IsNot] [.Constant .none k p2] pos) (!o.isNone) := xt_cmp (oc_isnN _ (is_opt o)) (XP.v ha) (XP.v xp_non) hm
theorem tv_isnn {o : Option T} (ha : TP S ρ a o) {k : Nat} (hm : behindInMarks .IsNot (.Constant .none k p2) = false := by first | exact nomark _ | rfl) : TP S ρ (.Compare a [.IsNot] [.Constant .none k p2] pos) (!o.isNone) := xp_cmp (oc_isnN _ (is_opt o)) (XP.v ha) (XP.v xp_non) hm
def unO {T : Type} [Inhabited T] (o : Option T) : T := o.getD default
theorem unO_eq {T : Type} [Inhabited T] {o : Option T} (h : o ≠ none) : o = some (unO o) := by
  cases o with
  | none => exact absurd rfl h
  | some x => rfl
theorem tp_unO [Inhabited T] {o : Option T} (ha : TP S ρ a o) (h : o ≠ none) : TP S ρ a (unO o) := by
  cases o with
  | none => exact absurd rfl h
  | some x => exact ha
theorem tp_some {x : T} (ha : TP S ρ a x) : TP S ρ a (some x) := ha
end
section
variable {S : Sig} {ρ ρ1 : Env} {a b c e : Expr} {pos p2 p3 pos2 p' : Pos} {pin : List Nat} {tg : Expr}
theorem xi_r1 {hi : Int} (hm : S.mg "range" = none) (h : TP S ρ a hi) (hb : -(2 ^ 62) ≤ hi ∧ hi < 2 ^ 62) (hg : S.scope.names.lookup ("range" : Str) = some .globalImplicit := by rfl) (hs : ∀ env : PySem.Env, starEach [a] env = [(false, eval a env)] := by intro _; rfl) :
    XI S ρ tg (.Call (.Name "range" p2) [a] [] pos) ((rng 0 hi).map enc) := xi_rng1 hm h hb hg hs
end
/-! ### while, whose measure sinks -/
theorem whL_some {σ : Type} {cc : σ → Bool} {f : σ → σ} (I : σ → Prop) (μ : σ → Nat) (h : ∀ s, I s → cc s = true → I (f s) ∧ μ (f s) < μ s) : ∀ (n : Nat) (s : σ), I s → μ s < n → (whL (β := Empty) cc (fun s => .nx (f s)) n s).isSome = true
  | 0, _, _, hn => by omega
  | n + 1, s, hI, hn => by
    unfold whL
    split
    · rename_i hc
      have := h s hI hc
      exact whL_some I μ h n _ this.1 (by omega)
    · rfl
theorem whL_inv {σ : Type} {cc : σ → Bool} {f : σ → σ} (I : σ → Prop) (h : ∀ s, I s → cc s = true → I (f s)) : ∀ (n : Nat) (s : σ) {o : LO σ Empty}, I s → whL (β := Empty) cc (fun s => .nx (f s)) n s = some o → ∃ w, o = .nx w ∧ I w ∧ cc w = false
  | 0, _, _, _, hn => by cases hn
  | n + 1, s, o, hI, hn => by
    unfold whL at hn
    cases hc : cc s with
    | false =>
      rw [hc, if_neg (by simp)] at hn
      cases hn
      exact ⟨s, rfl, hI, hc⟩
    | true =>
      rw [hc, if_pos rfl] at hn
      exact whL_inv I h n _ (h s hI hc) hn
theorem whD_inv {σ : Type} {cc : σ → Bool} {f : σ → σ} (I : σ → Prop) (h : ∀ s, I s → cc s = true → I (f s)) (n : Nat) (s : σ) (hI : I s) (ho : (whL (β := Empty) cc (fun s => .nx (f s)) n s).isSome = true) : I (whD cc f n s) ∧ cc (whD cc f n s) = false := by
  obtain ⟨o, ho⟩ := Option.isSome_iff_exists.mp ho
  obtain ⟨w, rfl, h1, h2⟩ := whL_inv I h n s hI ho
  unfold whD
  rw [ho]
  exact ⟨h1, h2⟩
end G

namespace G
open PySem PySem.Spec PyProof.Rows L2
open PySem.W (Datum DatumOrd Tup T3 EachIs)
open Enc (enc)
/-! ### dicts of typed keys and typed things -/
class DKey (κ : Type) [DecidableEq κ] [Datum κ] [Enc κ] where
  tk : Bool
  k1 : κ → Key
  kt : κ → List Key
  rep1 : tk = false → ∀ {K : PySem.W.Frag} {F : Hp} {v : V} (x : κ), Rep K F v (enc x) → v = kV (k1 x)
  rept : tk = true → ∀ {K : PySem.W.Frag} {F : Hp} {v : V} (x : κ), Rep K F v (enc x) → ∃ b, v = .ref b ∧ F b = some (.tup ((kt x).map kV))
  inj1 : tk = false → ∀ x y, k1 x = k1 y → x = y
  injt : tk = true → ∀ x y, kt x = kt y → x = y
instance : DKey Int where
  tk := false
  k1 := Sum.inl
  kt := fun _ => []
  rep1 := fun _ => fun x h => by cases h; rfl
  rept := fun z => nomatch z
  inj1 := fun _ x y e => Sum.inl.inj e
  injt := fun z => nomatch z
instance : DKey Tx where
  tk := false
  k1 := fun t => Sum.inr t.s
  kt := fun _ => []
  rep1 := fun _ => fun x h => by cases h; rfl
  rept := fun z => nomatch z
  inj1 := fun _ x y e => Tx.s_inj (Sum.inr.inj e)
  injt := fun z => nomatch z
instance : DKey (Int × Int) where
  tk := true
  k1 := fun _ => .inl 0
  kt := fun p => [.inl p.1, .inl p.2]
  rep1 := fun z => nomatch z
  rept := fun _ => fun x h => by
    cases h with
    | tup h r =>
      cases r with
      | cons h1 r =>
        cases h1
        cases r with
        | cons h2 r =>
          cases h2
          cases r
          exact ⟨_, rfl, h⟩
  inj1 := fun z => nomatch z
  injt := fun _ x y e => by
    injection e with a b
    injection b with b c
    exact Prod.ext (Sum.inl.inj a) (Sum.inl.inj b)
section
variable {κ β : Type} [DecidableEq κ]
def dGet (d : List (κ × β)) (k : κ) : Option β := (d.find? fun p => decide (p.1 = k)).map (·.2)
def dPut (d : List (κ × β)) (k : κ) (x : β) : List (κ × β) := if (d.any fun p => decide (p.1 = k)) = true then d.map (fun p => if p.1 = k then (p.1, x) else p) else d ++ [(k, x)]
def dHas (d : List (κ × β)) (k : κ) : Bool := (dGet d k).isSome
theorem dGet_any (d : List (κ × β)) (k : κ) : (d.any fun p => decide (p.1 = k)) = (dGet d k).isSome := by
  unfold dGet
  induction d with
  | nil => rfl
  | cons p r ih =>
    rw [List.any_cons, List.find?_cons]
    by_cases h : p.1 = k
    · simp [h]
    · rw [decide_eq_false h]; exact ih
theorem dGet_put (d : List (κ × β)) (k j : κ) (x : β) : dGet (dPut d k x) j = if j = k then some x else dGet d j := by
  unfold dPut
  split
  · rename_i h
    induction d with
    | nil => cases h
    | cons p r ih =>
      rw [List.map_cons]
      unfold dGet at *
      rw [List.find?_cons, List.find?_cons]
      by_cases e : p.1 = k
      · rw [if_pos e]
        dsimp only
        by_cases ej : j = k
        · rw [if_pos ej, decide_eq_true (e.trans ej.symm)]; rfl
        · rw [if_neg ej, decide_eq_false (fun z => ej (z.symm.trans e))]
          dsimp only
          by_cases h2 : (r.any fun p => decide (p.1 = k)) = true
          · have := ih h2
            rw [if_neg ej] at this
            exact this
          · have : r.map (fun p => if p.1 = k then (p.1, x) else p) = r := by
              conv => rhs; rw [← List.map_id r]
              refine List.map_congr_left fun q hq => ?_
              rw [if_neg fun z => h2 (List.any_eq_true.mpr ⟨q, hq, decide_eq_true z⟩)]
              rfl
            rw [this]
      · rw [if_neg e]
        have h2 : (r.any fun p => decide (p.1 = k)) = true := by
          rw [List.any_cons, decide_eq_false e] at h
          exact h
        by_cases ej : p.1 = j
        · rw [decide_eq_true ej]
          dsimp only
          rw [if_neg fun z => e (ej.trans z)]
        · rw [decide_eq_false ej]
          exact ih h2
  · rename_i h
    rw [dGet_any] at h
    have h : dGet d k = none := by simpa using h
    unfold dGet at *
    rw [List.find?_append]
    by_cases ej : j = k
    · rw [if_pos ej, ej]
      cases z : d.find? fun p => decide (p.1 = k) with
      | some q => rw [z] at h; cases h
      | none => simp
    · rw [if_neg ej]
      cases z : d.find? fun p => decide (p.1 = j) with
      | some q => rfl
      | none => simp [ej, Ne.symm ej]
end
section
variable {κ β : Type} [DecidableEq κ] [Datum κ] [Enc κ] [DKey κ] [DecidableEq β] [Datum β] [Enc β]
def oD (d : List (κ × β)) : O := if DKey.tk κ = true then .dt (d.map fun p => DKey.kt p.1) ((d.map fun p => enc p.2).map O.fro) else .dk (d.map fun p => DKey.k1 p.1) ((d.map fun p => enc p.2).map O.fro)
def fD (d : List (κ × β)) : D := if DKey.tk κ = true then .dt (d.map fun p => DKey.kt p.1) (d.map fun p => enc p.2) else .dk (d.map fun p => DKey.k1 p.1) (d.map fun p => enc p.2)
abbrev od (d : List (κ × β)) : Option O := some (oD d)
abbrev fd (d : List (κ × β)) : Option O := some (.fro (fD d))
theorem oD_d (d : List (κ × β)) : (oD d).d = fD d := by
  unfold oD fD
  split
  · show D.dt _ (O.ds _) = _; rw [ds_fros]
  · show D.dk _ (O.ds _) = _; rw [ds_fros]
/-- how it lies in H, its things in F -/
def DLay (K : PySem.W.Frag) (F H : Hp) (a : Addr) (d : List (κ × β)) : Prop :=
  (DKey.tk κ = true ∧ ∃ kvs, H a = some (.dT kvs) ∧ kvs.map (·.1) = d.map (fun p => DKey.kt p.1) ∧ Reps K F (kvs.map (·.2)) (d.map fun p => enc p.2)) ∨
  (DKey.tk κ = false ∧ ∃ kvs, H a = some (.dK kvs) ∧ kvs.map (·.1) = d.map (fun p => DKey.k1 p.1) ∧ Reps K F (kvs.map (·.2)) (d.map fun p => enc p.2))
theorem DLay.of_rep {K : PySem.W.Frag} {F : Hp} {v : V} {d : List (κ × β)} (h : Rep K F v (fD d)) : ∃ a, v = .ref a ∧ DLay K F F a d := by
  unfold fD at h
  split at h
  · rename_i t
    cases h with
    | dt h k r => exact ⟨_, rfl, .inl ⟨t, _, h, k, r⟩⟩
  · rename_i t
    cases h with
    | dk h k r => exact ⟨_, rfl, .inr ⟨by simpa using t, _, h, k, r⟩⟩
theorem DLay.of_own {K : PySem.W.Frag} {F H : Hp} {v : V} {B : List Addr} {d : List (κ × β)} (h : Own K F H v (oD d) B) : ∃ a, v = .ref a ∧ B = [a] ∧ DLay K F H a d := by
  unfold oD at h
  split at h
  · rename_i t
    cases h with
    | dt h k r =>
      obtain ⟨r2, e⟩ := Owns.fros_inv r
      subst e
      exact ⟨_, rfl, rfl, .inl ⟨t, _, h, k, r2⟩⟩
  · rename_i t
    cases h with
    | dk h k r =>
      obtain ⟨r2, e⟩ := Owns.fros_inv r
      subst e
      exact ⟨_, rfl, rfl, .inr ⟨by simpa using t, _, h, k, r2⟩⟩
theorem DLay.own {K : PySem.W.Frag} {F H : Hp} {a : Addr} {d : List (κ × β)} (h : DLay K F H a d) : Own K F H (.ref a) (oD d) [a] := by
  unfold oD
  rcases h with ⟨t, kvs, h, k, r⟩ | ⟨t, kvs, h, k, r⟩
  · rw [if_pos t]; exact .dt h k (Owns.fros r)
  · rw [if_neg (by rw [t]; simp)]; exact .dk h k (Owns.fros r)
theorem DLay.mono {K : PySem.W.Frag} {F H F' H' : Hp} {a : Addr} {d : List (κ × β)} (h : DLay K F H a d) (e : Ext F F') (k : ∀ u, H a = some u → H' a = some u) : DLay K F' H' a d := by
  rcases h with ⟨t, kvs, h, q, r⟩ | ⟨t, kvs, h, q, r⟩
  · exact .inl ⟨t, kvs, k _ h, q, r.mono e⟩
  · exact .inr ⟨t, kvs, k _ h, q, r.mono e⟩
theorem DLay.isD {K : PySem.W.Frag} {F H : Hp} {a : Addr} {d : List (κ × β)} (h : DLay K F H a d) : IsD H a := by
  rcases h with ⟨_, kvs, h, _⟩ | ⟨_, kvs, h, _⟩
  · exact .inr ⟨kvs, .inl h⟩
  · exact .inl ⟨kvs, .inl h⟩
section
variable {ι : Type} [DecidableEq ι] {g : κ → ι} (inj : ∀ x y, g x = g y → x = y) {K : PySem.W.Frag} {F : Hp}
include inj
theorem val_rel (k : κ) : ∀ {d : List (κ × β)} {kvs : List (ι × V)}, kvs.map (·.1) = d.map (fun p => g p.1) → Reps K F (kvs.map (·.2)) (d.map fun p => enc p.2) →
    (∀ x, dGet d k = some x → ∃ v, valV kvs (g k) = some v ∧ Rep K F v (enc x)) ∧ (dGet d k = none → valV kvs (g k) = none)
  | [], [], _, _ => ⟨fun x z => (nomatch z), fun _ => rfl⟩
  | [], _ :: _, h, _ => by cases h
  | _ :: _, [], h, _ => by cases h
  | p :: d, q :: kvs, h, r => by
    rw [List.map_cons, List.map_cons] at h
    injection h with h1 h2
    rw [List.map_cons, List.map_cons] at r
    cases r with
    | cons r1 r2 =>
      have ih := val_rel k h2 r2
      unfold dGet
      rw [List.find?_cons]
      by_cases e : p.1 = k
      · rw [decide_eq_true e]
        refine ⟨fun x z => ?_, fun z => (nomatch z)⟩
        cases z
        exact ⟨q.2, valV_pos (by rw [h1, e]), r1⟩
      · rw [decide_eq_false e]
        have en : ¬ q.1 = g k := fun z => e (inj _ _ (h1.symm.trans z))
        rw [valV_neg en]
        exact ih
theorem put_rel (k : κ) {x : β} {v : V} (hv : Rep K F v (enc x)) {d : List (κ × β)} {kvs : List (ι × V)} (h : kvs.map (·.1) = d.map (fun p => g p.1)) (r : Reps K F (kvs.map (·.2)) (d.map fun p => enc p.2)) :
    (putK kvs (g k) v).map (·.1) = (dPut d k x).map (fun p => g p.1) ∧ Reps K F ((putK kvs (g k) v).map (·.2)) ((dPut d k x).map fun p => enc p.2) := by
  have ea : (kvs.any fun kv => decide (kv.1 = g k)) = d.any fun p => decide (p.1 = k) := by
    have a1 : (kvs.any fun kv => decide (kv.1 = g k)) = (kvs.map (·.1)).any fun z => decide (z = g k) := by rw [List.any_map]; rfl
    have a2 : (d.any fun p => decide (p.1 = k)) = (d.map fun p => g p.1).any fun z => decide (z = g k) := by
      rw [List.any_map]
      congr 1
      funext p
      exact decide_eq_decide.mpr ⟨fun e => congrArg g e, inj _ _⟩
    rw [a1, a2, h]
  unfold putK dPut
  rw [ea]
  split
  · have all : ∀ {d : List (κ × β)} {kvs : List (ι × V)}, kvs.map (·.1) = d.map (fun p => g p.1) → Reps K F (kvs.map (·.2)) (d.map fun p => enc p.2) →
        (kvs.map (fun kv => if kv.1 = g k then (kv.1, v) else kv)).map (·.1) = (d.map (fun p => if p.1 = k then (p.1, x) else p)).map (fun p => g p.1) ∧ Reps K F ((kvs.map (fun kv => if kv.1 = g k then (kv.1, v) else kv)).map (·.2)) ((d.map (fun p => if p.1 = k then (p.1, x) else p)).map fun p => enc p.2) := by
      intro d
      induction d with
      | nil => intro kvs h r; cases kvs with
        | nil => exact ⟨rfl, .nil⟩
        | cons _ _ => cases h
      | cons p d ih =>
        intro kvs h r
        cases kvs with
        | nil => cases h
        | cons q kvs =>
          rw [List.map_cons, List.map_cons] at h
          injection h with h1 h2
          rw [List.map_cons, List.map_cons] at r
          cases r with
          | cons r1 r2 =>
            obtain ⟨i1, i2⟩ := ih h2 r2
            simp only [List.map_cons]
            by_cases e : p.1 = k
            · rw [if_pos e, if_pos (show q.1 = g k by rw [h1, e])]
              exact ⟨by rw [i1]; exact congrArg (· :: _) h1, .cons hv i2⟩
            · rw [if_neg e, if_neg fun z => e (inj _ _ (h1.symm.trans z))]
              exact ⟨by rw [i1]; exact congrArg (· :: _) h1, .cons r1 i2⟩
    exact all h r
  · rw [List.map_append, List.map_append, List.map_append, List.map_append]
    exact ⟨by rw [h]; rfl, r.append (.cons hv .nil)⟩
end
theorem DLay.get {K : PySem.W.Frag} {F H F' : Hp} {a : Addr} {d : List (κ × β)} (h : DLay K F H a d) {y : V} {k : κ} (hy : Rep K F' y (enc k)) (e : Ext F' H) : ∃ o, DGet H a y o ∧ (∀ x, dGet d k = some x → ∃ v, o = some v ∧ Rep K F v (enc x)) ∧ (dGet d k = none → o = none) := by
  rcases h with ⟨t, kvs, h, q, r⟩ | ⟨t, kvs, h, q, r⟩
  · obtain ⟨b, rfl, hb⟩ := DKey.rept t k hy
    exact ⟨_, DGet.t h (e _ _ hb), val_rel (DKey.injt t) k q r⟩
  · obtain rfl := DKey.rep1 t k hy
    exact ⟨_, DGet.k h, val_rel (DKey.inj1 t) k q r⟩
theorem DLay.put {K : PySem.W.Frag} {F H F' : Hp} {a : Addr} {d : List (κ × β)} (h : DLay K F H a d) {y : V} {k : κ} (hy : Rep K F' y (enc k)) (e : Ext F' H) {v : V} {x : β} (hv : Rep K F v (enc x)) (hl : d.length < 1000000) : ∃ u, DPut H a y v (upd H a u) ∧ DLay K F (upd H a u) a (dPut d k x) := by
  rcases h with ⟨t, kvs, h, q, r⟩ | ⟨t, kvs, h, q, r⟩
  · obtain ⟨b, rfl, hb⟩ := DKey.rept t k hy
    obtain ⟨p1, p2⟩ := put_rel (DKey.injt t) k hv q r
    have len : kvs.length = d.length := by have := congrArg List.length q; rwa [List.length_map, List.length_map] at this
    exact ⟨_, DPut.t h (e _ _ hb) (line_lt (by omega)), .inl ⟨t, _, upd_same, p1, p2⟩⟩
  · obtain rfl := DKey.rep1 t k hy
    obtain ⟨p1, p2⟩ := put_rel (DKey.inj1 t) k hv q r
    have len : kvs.length = d.length := by have := congrArg List.length q; rwa [List.length_map, List.length_map] at this
    exact ⟨_, DPut.k h (line_lt (by omega)), .inr ⟨t, _, upd_same, p1, p2⟩⟩
end
section
variable {κ β : Type} [DecidableEq κ] [Datum κ] [Enc κ] [DKey κ] [DecidableEq β] [Datum β] [Enc β]
variable {S : Sig} {ρ ρ1 : Env} {a b c e f : Expr} {pos p2 p3 pos2 p' : Pos} {pin : List Nat} {up : O → Env} {d : List (κ × β)} {k : κ} {x : β}
def NoSlx (i : Expr) : Prop := ∀ ov iv, subscripted i false ov iv = operate [ov, iv] (getItem ov iv)
/-- d[k], d owned -/
theorem tp_dgO (ha : XL S ρ a (oD d) up) (hb : TP S ρ b k) (hg : dGet d k = some x) (hs : NoSl b := by intro _ _; rfl) : TP S ρ (.Subscript a b pos) x := by
  obtain ⟨t, h1, h2⟩ := ha
  obtain ⟨tb, b1, b2⟩ := hb
  refine ⟨tDGet t tb, fun q ok => pe_dget (X := S.cx q) (by have := ok.units; show q.A.units + 1 < cLine; omega) (h1 q ok) (b1 q ok) hs, fun σ F H A Q w n q => h2 σ F H A _ w n fun v B C fo => b2 σ F H A _ w n fun y F1 H1 g r => ?_⟩
  obtain ⟨l, rfl, rfl, ly⟩ := DLay.of_own fo.own
  obtain ⟨o, g1, g2, _⟩ := (ly.mono g.stp.fs fun u hu => g.hh _ _ hu).get r g.ext
  obtain ⟨u, rfl, ru⟩ := g2 x hg
  exact ⟨l, u, rfl, g1, q _ _ _ g ru⟩
/-- d[k], d frozen -/
theorem tp_dgF (ha : XP S ρ a (.ok (fD d))) (hb : TP S ρ b k) (hg : dGet d k = some x) (hs : NoSl b := by intro _ _; rfl) : TP S ρ (.Subscript a b pos) x := by
  obtain ⟨t, h1, h2⟩ := ha
  obtain ⟨tb, b1, b2⟩ := hb
  refine ⟨tDGet t tb, fun q ok => pe_dget (X := S.cx q) (by have := ok.units; show q.A.units + 1 < cLine; omega) (h1 q ok) (b1 q ok) hs, fun σ F H A Q w n q => h2 σ F H A _ w n fun v F0 H0 g0 r0 => b2 σ F0 H0 A _ (g0.wf w) (g0.envs n) fun y F1 H1 g r => ?_⟩
  obtain ⟨l, rfl, ly⟩ := DLay.of_rep r0
  obtain ⟨o, g1, g2, _⟩ := (ly.mono g.stp.fs fun u hu => g.hh _ _ (g0.ext _ _ hu)).get r g.ext
  obtain ⟨u, rfl, ru⟩ := g2 x hg
  exact ⟨l, u, rfl, g1, q _ _ _ (g0.trans g) ru⟩
/-- d.get(k, y) -/
theorem tp_dg2O {y : β} {apos : Pos} (ha : XL S ρ a (oD d) up) (hb : TP S ρ e k) (hc : TP S ρ f y) (hbase : ∀ env : PySem.Env, attributeBase a "get" env (eval a env) = eval a env := by intro _; rfl)
    (hfew : ∀ env : PySem.Env, ((backTo pos (starEach [e, f] env)).all (fun x => !x.1) && (backToKw pos (keywordEach [] env)).all (fun x => x.1.isSome) && decide (([e, f] : List Expr).length + ([] : List Keyword).length + (if ([] : List Keyword).isEmpty then 0 else 1) < 30)) = true := by intro _; rfl)
    (hline : (apos.endLine == pos.line) = true := by rfl) (ht : ∀ env : PySem.Env, backTo pos (starEach [e, f] env) = [(false, eval e env), (false, eval f env)] := by intro _; rfl) : TP S ρ (.Call (.Attribute a "get" apos) [e, f] [] pos) ((dGet d k).getD y) := by
  obtain ⟨t, h1, h2⟩ := ha
  obtain ⟨tb, b1, b2⟩ := hb
  obtain ⟨tc, c1, c2⟩ := hc
  refine ⟨tDGet2 t tb tc, fun q ok => pe_dget2 (X := S.cx q) (by have := ok.units; show q.A.units + 1 < cLine; omega) (h1 q ok) (b1 q ok) (c1 q ok) ⟨hbase _, hfew _, hline, ht _⟩, fun σ F H A Q w n q => h2 σ F H A _ w n fun v B C fo => ?_⟩
  obtain ⟨l, rfl, rfl, ly⟩ := DLay.of_own fo.own
  refine ⟨l, rfl, ly.isD, b2 σ F H A _ w n fun y0 F1 H1 g r => c2 σ F1 H1 A _ (g.wf w) (g.envs n) fun z F2 H2 g2 r2 => ?_⟩
  obtain ⟨o, g3, g4, g5⟩ := (ly.mono (g.stp.fs.trans g2.stp.fs) fun u hu => g2.hh _ _ (g.hh _ _ hu)).get (r.mono g2.stp.fs) g2.ext
  refine ⟨o, g3, q _ _ _ (g.trans g2) ?_⟩
  cases hd : dGet d k with
  | none => rw [g5 hd]; exact r2
  | some x =>
    obtain ⟨u, rfl, ru⟩ := g4 x hd
    exact ru
theorem tp_dg2F {y : β} {apos : Pos} (ha : XP S ρ a (.ok (fD d))) (hb : TP S ρ e k) (hc : TP S ρ f y) (hbase : ∀ env : PySem.Env, attributeBase a "get" env (eval a env) = eval a env := by intro _; rfl)
    (hfew : ∀ env : PySem.Env, ((backTo pos (starEach [e, f] env)).all (fun x => !x.1) && (backToKw pos (keywordEach [] env)).all (fun x => x.1.isSome) && decide (([e, f] : List Expr).length + ([] : List Keyword).length + (if ([] : List Keyword).isEmpty then 0 else 1) < 30)) = true := by intro _; rfl)
    (hline : (apos.endLine == pos.line) = true := by rfl) (ht : ∀ env : PySem.Env, backTo pos (starEach [e, f] env) = [(false, eval e env), (false, eval f env)] := by intro _; rfl) : TP S ρ (.Call (.Attribute a "get" apos) [e, f] [] pos) ((dGet d k).getD y) := by
  obtain ⟨t, h1, h2⟩ := ha
  obtain ⟨tb, b1, b2⟩ := hb
  obtain ⟨tc, c1, c2⟩ := hc
  refine ⟨tDGet2 t tb tc, fun q ok => pe_dget2 (X := S.cx q) (by have := ok.units; show q.A.units + 1 < cLine; omega) (h1 q ok) (b1 q ok) (c1 q ok) ⟨hbase _, hfew _, hline, ht _⟩, fun σ F H A Q w n q => h2 σ F H A _ w n fun v F0 H0 g0 r0 => ?_⟩
  obtain ⟨l, rfl, ly⟩ := DLay.of_rep r0
  refine ⟨l, rfl, (ly.mono (Ext.refl _) fun u hu => g0.ext _ _ hu).isD, b2 σ F0 H0 A _ (g0.wf w) (g0.envs n) fun y0 F1 H1 g r => c2 σ F1 H1 A _ (g.wf (g0.wf w)) (g.envs (g0.envs n)) fun z F2 H2 g2 r2 => ?_⟩
  obtain ⟨o, g3, g4, g5⟩ := (ly.mono (g.stp.fs.trans g2.stp.fs) fun u hu => g2.hh _ _ (g.hh _ _ (g0.ext _ _ hu))).get (r.mono g2.stp.fs) g2.ext
  refine ⟨o, g3, q _ _ _ ((g0.trans g).trans g2) ?_⟩
  cases hd : dGet d k with
  | none => rw [g5 hd]; exact r2
  | some x =>
    obtain ⟨u, rfl, ru⟩ := g4 x hd
    exact ru
/-- k in d -/
theorem ev_din {ty td : TE} (ha : EP S ty ρ (.ok (enc k))) (hb : EV S td ρ (fD d)) : EP S (tDIn ty td) ρ (.ok (.bl (dHas d k))) := fun σ F H A Q w n q => ha σ F H A _ w n fun y F1 H1 g r => hb σ F1 H1 A _ (g.wf w) (g.envs n) fun v F2 H2 g2 r2 => by
  obtain ⟨l, rfl, ly⟩ := DLay.of_rep r2
  obtain ⟨o, g3, g4, g5⟩ := ly.get (r.mono g2.stp.fs) g2.ext
  refine ⟨l, o, rfl, g3, q _ _ _ (g.trans g2) ?_⟩
  have : o.isSome = dHas d k := by
    unfold dHas
    cases hd : dGet d k with
    | none => rw [g5 hd]; rfl
    | some x => obtain ⟨u, rfl, _⟩ := g4 x hd; rfl
  rw [this]
  exact .bl
theorem ev_dni {ty td : TE} (ha : EP S ty ρ (.ok (enc k))) (hb : EV S td ρ (fD d)) : EP S (tDNotIn ty td) ρ (.ok (.bl (!dHas d k))) := fun σ F H A Q w n q => ha σ F H A _ w n fun y F1 H1 g r => hb σ F1 H1 A _ (g.wf w) (g.envs n) fun v F2 H2 g2 r2 => by
  obtain ⟨l, rfl, ly⟩ := DLay.of_rep r2
  obtain ⟨o, g3, g4, g5⟩ := ly.get (r.mono g2.stp.fs) g2.ext
  refine ⟨l, o, rfl, g3, q _ _ _ (g.trans g2) ?_⟩
  have : o.isSome = dHas d k := by
    unfold dHas
    cases hd : dGet d k with
    | none => rw [g5 hd]; rfl
    | some x => obtain ⟨u, rfl, _⟩ := g4 x hd; rfl
  rw [this]
  exact .bl
theorem tp_din (ha : TP S ρ a k) (hb : XV S ρ b (fD d)) (hm : behindInMarks .In b = false := by rfl) : TP S ρ (.Compare a [.In] [b] pos) (dHas d k) := by
  obtain ⟨ta, a1, a2⟩ := ha
  obtain ⟨tb, b1, b2⟩ := hb
  exact ⟨tDIn ta tb, fun q ok => pe_cmp (pc_din (X := S.cx q) (by have := ok.units; show q.A.units + 1 < cLine; omega) (a1 q ok) (b1 q ok)) hm, ev_din a2 b2⟩
theorem tp_dni (ha : TP S ρ a k) (hb : XV S ρ b (fD d)) (hm : behindInMarks .NotIn b = false := by rfl) : TP S ρ (.Compare a [.NotIn] [b] pos) (!dHas d k) := by
  obtain ⟨ta, a1, a2⟩ := ha
  obtain ⟨tb, b1, b2⟩ := hb
  exact ⟨tDNotIn ta tb, fun q ok => pe_cmp (pc_dnotin (X := S.cx q) (by have := ok.units; show q.A.units + 1 < cLine; omega) (a1 q ok) (b1 q ok)) hm, ev_dni a2 b2⟩
theorem tt_din (ha : TP S ρ a k) (hb : XV S ρ b (fD d)) (hm : behindInMarks .In b = false := by rfl) : XT S ρ (.Compare a [.In] [b] pos) (dHas d k) := by
  obtain ⟨ta, a1, a2⟩ := ha
  obtain ⟨tb, b1, b2⟩ := hb
  exact ⟨tB (tDIn ta tb), fun q ok => pt_cmp (pc_din (X := S.cx q) (by have := ok.units; show q.A.units + 1 < cLine; omega) (a1 q ok) (b1 q ok)) hm, fun σ F H A Q w n q => ev_din a2 b2 σ F H A _ w n fun v F' H' g r => by cases r; exact ⟨_, rfl, q _ _ g⟩⟩
theorem tt_dni (ha : TP S ρ a k) (hb : XV S ρ b (fD d)) (hm : behindInMarks .NotIn b = false := by rfl) : XT S ρ (.Compare a [.NotIn] [b] pos) (!dHas d k) := by
  obtain ⟨ta, a1, a2⟩ := ha
  obtain ⟨tb, b1, b2⟩ := hb
  exact ⟨tB (tDNotIn ta tb), fun q ok => pt_cmp (pc_dnotin (X := S.cx q) (by have := ok.units; show q.A.units + 1 < cLine; omega) (a1 q ok) (b1 q ok)) hm, fun σ F H A Q w n q => ev_dni a2 b2 σ F H A _ w n fun v F' H' g r => by cases r; exact ⟨_, rfl, q _ _ g⟩⟩
theorem xv_od (i : Nat) {x : Str} (hρ : ρ[i]? = some (od d) := by rfl) (hN : S.N[i]? = some x := by rfl) (hv : Vis S.scope x := by first | exact Or.inl rfl | exact Or.inr (Or.inl rfl) | exact Or.inr (Or.inr rfl))
    (hd : (x == ("__debug__" : Str)) = false := by decide) (hcd : (x == ("__classdict__" : Str)) = false := by decide) : XV S ρ (.Name x pos) (fD d) := by
  have := xv_var (S := S) (pos := pos) i hρ hN hv hd hcd
  rw [oD_d] at this
  exact this
/-- {} -/
theorem xx_dnew (hk : DKey.tk κ = true ∨ DKey.tk κ = false) : XX S ρ (.Dict [] [] pos) (.ok (oD ([] : List (κ × β))) ρ) := by
  cases h : DKey.tk κ with
  | true =>
    refine ⟨tDNewT, fun q ok => pe_dnewT, fun σ F H A Q w n q p hp => ?_⟩
    obtain ⟨w3, s3, n3⟩ := grow_own (o := .dT []) w n (Grow.refl w.sub) hp
    refine q _ _ _ [p] A w3 s3 (DLay.own (.inl ⟨h, [], upd_same, rfl, .nil⟩)) n3
  | false =>
    refine ⟨tDNewK, fun q ok => pe_dnewK, fun σ F H A Q w n q p hp => ?_⟩
    obtain ⟨w3, s3, n3⟩ := grow_own (o := .dK []) w n (Grow.refl w.sub) hp
    refine q _ _ _ [p] A w3 s3 (DLay.own (.inr ⟨h, [], upd_same, rfl, .nil⟩)) n3
/-- d[k] = v -/
theorem xs_dput {ρ2 : Env} {tpos : Pos} (hl : XL S ρ a (oD d) up) (hk : TP S ρ b k) (hv : TP S ρ e x) (hn : d.length < 1000000) (hq : up (oD (dPut d k x)) = ρ2 := by rfl)
    (hs : ∀ env : PySem.Env, swapsWith e (some (.Subscript a b tpos)) pos.line { env with scope := S.scope } = pure false := by intro _; rfl) : XS S pin ρ (.Assign [.Subscript a b tpos] e pos) (.nx ρ2) := by
  subst hq
  obtain ⟨t, h1, h2⟩ := hl
  obtain ⟨tb, b1, b2⟩ := hk
  obtain ⟨tv, v1, v2⟩ := hv
  refine ⟨sDPut t tb tv, fun q ok => ps_dput (X := S.cx q) (by have := ok.units; show q.A.units + 1 < cLine; omega) (h1 q ok) (b1 q ok) (v1 q ok) (hs _), fun σ F H A D w n q => v2 σ F H A _ w n fun v F1 H1 g1 r1 => h2 σ F1 H1 A _ (g1.wf w) (g1.envs n) fun z B C fo => b2 σ F1 H1 A _ (g1.wf w) (g1.envs n) fun y F2 H2 g2 r2 => ?_⟩
  have fo2 := fo.grow g2
  obtain ⟨l, rfl, rfl, ly⟩ := DLay.of_own fo2.own
  obtain ⟨u, p1, p2⟩ := ly.put r2 g2.ext (r1.mono g2.stp.fs) hn
  have w2 := g2.wf (g1.wf w)
  obtain ⟨A', n', w', s'⟩ := Foc.mut (B2 := []) (A0 := []) (A1 := []) (X := []) (u := u) (o' := oD (dPut d k x)) w2 fo2 (by simp) p2.own
  refine ⟨l, _, rfl, p1, q _ _ _ A' w' (Stp.trans (((g1.trans g2).stp.mono (by simp) (A' := A)).more (C := A) fun a h => .inl h) s') n' Pin.refl⟩
end
end G

namespace G
open PySem PySem.Spec PyProof.Rows L2
open PySem.W (Datum DatumOrd Tup T3 EachIs)
open Enc (enc)
section
variable {κ β : Type} [DecidableEq κ] [Datum κ] [Enc κ] [DKey κ] [DecidableEq β] [Datum β] [Enc β]
variable {S : Sig} {ρ ρ1 : Env} {a b c e f : Expr} {pos p2 p3 pos2 p' : Pos} {pin : List Nat} {up : O → Env} {d : List (κ × β)} {k : κ} {x : β} {ss : List Stmt}
def dgD [Inhabited β] (d : List (κ × β)) (k : κ) : β := (dGet d k).getD default
theorem dgD_ok [Inhabited β] {d : List (κ × β)} {k : κ} (h : dHas d k = true) : dGet d k = some (dgD d k) := by
  unfold dgD dHas at *
  cases e : dGet d k with
  | none => rw [e] at h; cases h
  | some x => rfl
theorem tv_dgO [Inhabited β] (ha : XL S ρ a (oD d) up) (hb : TP S ρ b k) (hg : dHas d k = true) (hs : NoSl b := by intro _ _; rfl) : TP S ρ (.Subscript a b pos) (dgD d k) := tp_dgO ha hb (dgD_ok hg) hs
theorem tv_dgF [Inhabited β] (ha : XP S ρ a (.ok (fD d))) (hb : TP S ρ b k) (hg : dHas d k = true) (hs : NoSl b := by intro _ _; rfl) : TP S ρ (.Subscript a b pos) (dgD d k) := tp_dgF ha hb (dgD_ok hg) hs
theorem xs_dnew {ρ2 : Env} (i : Nat) {x : Str} {p' : Pos} (hq : ρ.set i (od ([] : List (κ × β))) = ρ2 := by rfl) (hi : Nat.blt i ρ.length = true := by rfl) (hp : i ∉ pin := by decide) (hN : S.N[i]? = some x := by rfl) (hx : Loc S.scope x := by first | exact .inl rfl | exact .inr rfl) (hst : S.st x = true ∨ S.scope.names.lookup x = some .local := by first | exact .inl rfl | exact .inr rfl)
    (hs : ∀ env : PySem.Env, swapsWith (.Dict [] [] p2) (some (.Name x p')) pos.line { env with scope := S.scope } = pure false := by intro _; rfl) : XS S pin ρ (.Assign [.Name x p'] (.Dict [] [] p2) pos) (.nx ρ2) := by
  subst hq
  exact xs_set i (xx_dnew (by cases DKey.tk κ <;> simp)) hi hp hN hx hst hs
theorem xb_fzD (i : Nat) {r : RS} {ρ2 : Env} (hρ : ρ[i]? = some (od d)) (h : XB S pin ρ2 ss r) (hq : ρ.set i (fd d) = ρ2 := by rfl) : XB S pin ρ ss r := by
  subst hq
  refine xb_freeze i hρ ?_
  rw [oD_d]
  exact h
theorem cb_sortedDI {d : List (Int × β)} [Calm S] (hn : d.length < 64) : CB S "sorted" [fD d] (enc (sortT (d.map (·.1)))) := ⟨_, fun q ok => call_sortedDI (X := S.cx q) Calm.h, fun vs F H Q e rr q => by
  obtain ⟨v, rfl, r⟩ := reps1 rr
  obtain ⟨l, rfl, ly⟩ := DLay.of_rep r
  rcases ly with ⟨t, _⟩ | ⟨_, kvs, h, hk, _⟩
  · cases t
  · refine ⟨l, kvs, d.map (·.1), rfl, .inl h, by rw [hk, List.map_map]; rfl, by rw [List.length_map]; exact hn, fun ys p hp hs hf => ?_⟩
    have es : sortT (d.map (·.1)) = ys := sortT_of (hs.imp fun {x y} h => by rw [G.lt_int]; exact decide_eq_false (by omega)) hp
    refine q _ _ _ (Grow.new e hf) ?_
    rw [es]
    refine .lst upd_same ?_
    have : ∀ zs : List Int, Reps S.K (upd F p (.lst (ys.map V.int))) (zs.map V.int) (zs.map enc) := by
      intro zs
      induction zs with
      | nil => exact .nil
      | cons z zs ih => exact .cons .int ih
    exact this ys⟩
theorem tp_sortedDI {d : List (Int × β)} [Calm S] (hm : S.mg "sorted" = none) (h : XV S ρ a (fD d)) (hn : d.length < 64) (hg : S.scope.names.lookup ("sorted" : Str) = some .globalImplicit := by rfl) (he : ∀ env : PySem.Env, starEach [a] env = (false, eval a env) :: starEach [] env := by intro _; rfl) : TP S ρ (.Call (.Name "sorted" p2) [a] [] pos) (sortT (d.map (·.1))) :=
  xp_cb (p := p2) (pos := pos) (cb_sortedDI hn) hm (xav_cons h xav_nil he) hg (by decide +kernel) (by decide) (by decide) he (by intro _; rfl)
end
end G

namespace G
open PySem PySem.Spec PyProof.Rows L2
open PySem.W (Datum DatumOrd Tup T3 EachIs)
open Enc (enc)
/-! ### facts of the top, with tables of text keys -/
abbrev AlY : Type := Bool × He.AlT
def obsY (ex : List KF) (fa : List He.Fa) (fn : List He.DefD) (ts : List He.Tab) (K : PySem.W.Frag) : AlY := (ex.all fun f => f K, He.obsT fa fn ts K)
def valY (fn : List He.DefD) (ts : List He.Tab) (w : World) : AlY := (true, He.valT fn ts w)
def SaysY (ex : List KF) (fa : List He.Fa) (fn : List He.DefD) (ts : List He.Tab) (w : World) (K : PySem.W.Frag) : Prop := obsY ex fa fn ts K = valY fn ts w
def obsYG (n : Nat) (ex : List KF) (fa : List He.Fa) (fn : List He.DefD) (ts : List He.Tab) (g : Addr → Option Obj) : AlY := obsY ex fa fn ts (He.frG g (He.asD g n))
def hookY (n : Nat) (ex : List KF) (fa : List He.Fa) (fn : List He.DefD) (ts : List He.Tab) : PySem.W.Hook where
  α := AlY
  obs := fun s => obsYG n ex fa fn ts s.heap.get?
  val := fun w => valY fn ts w
  says := fun w h => ∃ K : PySem.W.Frag, K.In h ∧ SaysY ex fa fn ts w K
  of := fun _ _ e => ⟨_, He.frG_in, e⟩
  keeps := fun _ _ _ ⟨K, hK, c⟩ k => ⟨K, PySem.W.Frag.In.keeps hK k, c⟩
theorem obsYG_eq {n : Nat} {ex : List KF} {fa : List He.Fa} {fn : List He.DefD} {ts : List He.Tab} {g : Addr → Option Obj} {s : Shared} (h : ∀ a, g a = s.heap.get? a) : obsYG n ex fa fn ts g = (hookY n ex fa fn ts).obs s := by
  have e : g = s.heap.get? := funext h
  rw [e] <;> rfl
section
variable {ex : List KF} {fa : List He.Fa} {fn : List He.DefD} {ts : List He.Tab} {w : World} {K : PySem.W.Frag}
theorem SaysY.t (c : SaysY ex fa fn ts w K) : He.SaysT fa fn ts w K := congrArg (fun z : AlY => z.2) c
theorem SaysY.d (c : SaysY ex fa fn ts w K) : He.SaysD fa fn K := c.t.d
theorem SaysY.fact (c : SaysY ex fa fn ts w K) (i : Nat) {f : KF} (h : ex[i]? = some f := by rfl) : f K = true :=
  List.all_eq_true.mp (show (ex.all fun f => f K) = true from congrArg (fun z : AlY => z.1) c) f (List.mem_of_getElem? h)
end
/-! ### a table of the top: texts to pairs of ints -/
def kfRow (x : Str) (p : Tx × (Int × Int)) : KF := fun K => match PySem.W.nsIn K (He.ga K x) p.1.s with
  | some (some (.ref a)) => (match K.lookup a with
    | some ⟨.type c, _, .seq its _, _⟩ => decide (c = "tuple") && (decide (its.size ≤ sizeLine) && He.relAll [.int p.2.1, .int p.2.2] its.toList)
    | _ => false)
  | _ => false
theorem kfRow_ok {K : PySem.W.Frag} {x : Str} {p : Tx × (Int × Int)} (h : kfRow x p K = true) : ∃ a, PySem.W.nsIn K (He.ga K x) p.1.s = some (some (.ref a)) ∧ ∀ H : Hp, SqT K H a [.int p.2.1, .int p.2.2] := by
  unfold kfRow at h
  split at h
  · rename_i a e
    refine ⟨a, e, fun H => ?_⟩
    split at h
    · rename_i c od its n sl q
      obtain ⟨h1, h2⟩ := He.ba h
      obtain ⟨h3, h4⟩ := He.ba h2
      exact .inr ⟨_, its, n, q, congrArg Value.type (of_decide_eq_true h1), rfl, of_decide_eq_true h3, He.relAll_ok h4⟩
    · cases h
  · cases h
def TabK (K : PySem.W.Frag) (w : World) (x : Str) (l : List (Tx × (Int × Int))) : Prop := ∀ p ∈ l, ∃ a, KDct K w (He.ga K x) p.1.s (.ref a) ∧ ∀ H : Hp, SqT K H a [.int p.2.1, .int p.2.2]
theorem tabK_ok {K : PySem.W.Frag} {w : World} {x : Str} {l : List (Tx × (Int × Int))} (D : ∃ es n, KDict K w (He.ga K x) es n) (h : (l.all fun p => kfRow x p K) = true) : TabK K w x l := fun p hp => by
  obtain ⟨es, n, D⟩ := D
  obtain ⟨a, h1, h2⟩ := kfRow_ok (List.all_eq_true.mp h p hp)
  exact ⟨a, ⟨es, n, .ref a, D.at_, D.lit, h1, rfl⟩, h2⟩
def tkD (p : Int × Int) : D := .tk [.int p.1, .int p.2]
abbrev tkv (p : Int × Int) : Option O := some (.fro (tkD p))
section
variable {S : Sig} {ρ ρ1 : Env} {a b c e f : Expr} {pos p2 p3 pos2 p' : Pos} {pin : List Nat}
theorem oi_kd {x : Str} {l : List (Tx × (Int × Int))} (T : TabK S.K S.w x l) {k : Tx} {v : Int × Int} (hm : (k, v) ∈ l) : OI S (.obj (He.ga S.K x)) (enc k) (tkD v) := ⟨rIxD S.K S.w, fun _ _ => ix_kdict, fun u y F H Q e rx ry q => by
  obtain ⟨a, h1, h2⟩ := T _ hm
  cases rx
  cases ry
  exact ⟨_, _, _, rfl, rfl, h1, q _ F H (Grow.refl e) (.tk (h2 F) (.cons .int (.cons .int .nil)))⟩⟩
theorem oi_tk {ds : List D} {i : Int} {d : D} (h : atI ds i = some d) : OI S (.tk ds) (.int i) d := ⟨rIxT S.K, fun _ _ => ix_tup, fun x y F H Q e rx ry q => by
  cases rx with
  | tk h1 r1 =>
    cases ry
    obtain ⟨v, e1, e2⟩ := r1.atI h
    exact ⟨_, _, _, v, rfl, rfl, e.t h1, e1, q _ F H (Grow.refl e) e2⟩⟩
theorem dget_mem {κ β : Type} [DecidableEq κ] {d : List (κ × β)} {k : κ} {x : β} (h : dGet d k = some x) : (k, x) ∈ d := by
  unfold dGet at h
  cases e : d.find? fun p => decide (p.1 = k) with
  | none => rw [e] at h; cases h
  | some p =>
    rw [e] at h
    cases h
    have h1 := List.mem_of_find?_eq_some e
    have h2 : decide (p.1 = k) = true := List.find?_some (p := fun p : κ × β => decide (p.1 = k)) e
    have h2 := of_decide_eq_true h2
    rw [← h2]
    exact h1
/-- TABLE[word] -/
theorem xp_tab {x : Str} {l : List (Tx × (Int × Int))} {k : Tx} (T : TabK S.K S.w x l) (g : S.mg x = some (.ref (He.ga S.K x))) (hb : TP S ρ b k) (hm : dHas l k = true) (hs : PlainIx b := by intro _ _; rfl) (hg : S.scope.names.lookup x = some .globalImplicit := by rfl) (hd : (x == ("__debug__" : Str)) = false := by decide) :
    XP S ρ (.Subscript (.Name x p2) b pos) (.ok (tkD (dgD l k))) := xp_ix (oi_kd T (dget_mem (dgD_ok hm))) (xp_cls g hg hd) hb hs
theorem tp_tka {p : Int × Int} (ha : XP S ρ a (.ok (tkD p))) {j : Nat} {pos' : Pos} : TP S ρ (.Subscript a (.Constant (.int 0) j pos') pos) p.1 := xp_ix (oi_tk (i := 0) rfl) ha xp_int
theorem tp_tkb {p : Int × Int} (ha : XP S ρ a (.ok (tkD p))) {j : Nat} {pos' : Pos} : TP S ρ (.Subscript a (.Constant (.int 1) j pos') pos) p.2 := xp_ix (oi_tk (i := 1) rfl) ha xp_int
/-! ### texts -/
def chD (t : Tx) (i : Int) : Tx := ⟨[((ixN t.l.length i).bind fun j => t.l[j]?).getD 'x']⟩
def chs (t : Tx) : List Tx := t.l.map fun c => ⟨[c]⟩
theorem chD_ok {t : Tx} {i : Int} (h : (0 ≤ i ∧ i < t.l.length) ∨ (i < 0 ∧ 0 ≤ i + t.l.length)) : ∃ c, atI t.l i = some c ∧ chD t i = ⟨[c]⟩ := by
  have : ∃ c, atI t.l i = some c := by
    rcases h with h | h
    · exact atI_ok h
    · unfold atI ixN
      rw [if_neg (by omega), if_pos (by omega)]
      exact ⟨t.l[(i + t.l.length).toNat]'(by omega), List.getElem?_eq_getElem _⟩
  obtain ⟨c, hc⟩ := this
  refine ⟨c, hc, ?_⟩
  unfold chD
  unfold atI at hc
  rw [hc]
  rfl
theorem tp_ixX {t : Tx} {i : Int} (ha : TP S ρ a t) (hb : TP S ρ b i) (h : (0 ≤ i ∧ i < t.l.length) ∨ (i < 0 ∧ 0 ≤ i + t.l.length)) (hl : t.l.length ≤ 1000000 := by decide) (hs : PlainIx b := by intro _ _; rfl) : TP S ρ (.Subscript a b pos) (chD t i) := by
  obtain ⟨c, h1, h2⟩ := chD_ok h
  rw [h2]
  exact xp_ix (oi_tx h1 hl) ha hb hs
theorem xi_txs {t : Tx} {tg : Expr} (h : TP S ρ a t) : XI S ρ tg a ((chs t).map enc) := by
  have := xi_tx (tg := tg) h
  unfold chs
  rw [List.map_map]
  exact this
theorem tp_lenX {t : Tx} (hm : S.mg "len" = none) (h : TV S ρ a t) (hl : t.l.length ≤ 1000000) (hg : S.scope.names.lookup ("len" : Str) = some .globalImplicit := by rfl) (he : ∀ env : PySem.Env, starEach [a] env = (false, eval a env) :: starEach [] env := by intro _; rfl) : TP S ρ (.Call (.Name "len" p2) [a] [] pos) ((t.l.length : Nat) : Int) :=
  xp_cb (p := p2) (pos := pos) (cb_len_tx (S := S) hl) hm (xav_cons h xav_nil he) hg (by decide +kernel) (by decide) (by decide) he (by intro _; rfl)
theorem xp_gstr {t : Tx} {x z : Str} (h : ∃ k, S.mg x = some (.str z k)) (hz : z = t.s := by decide +kernel) (hg : S.scope.names.lookup x = some .globalImplicit := by rfl) (hd : (x == ("__debug__" : Str)) = false := by decide) : TP S ρ (.Name x pos) t := by
  obtain ⟨k, h⟩ := h
  subst hz
  exact xp_glob (v := .str t.s) h ⟨k, rfl⟩ (fun _ => .str) hg hd
def occX (t u : Tx) : List Nat := Builtin.Str.occurrences t.s u.s 0 t.s.length 1
def ixX (t u : Tx) : Int := (((occX t u).head?.getD 0 : Nat) : Int)
theorem mt_indexX : MtR X "str.index" (fun x xs H Q => ∃ a b i rest, x = .str a ∧ xs = [.str b] ∧ Builtin.Str.occurrences a b 0 a.length 1 = i :: rest ∧ Q (.int ((i : Nat) : Int)) H) := by
  intro pins s σ H v vs u us Q I rv rvs h
  obtain ⟨a, b, i, rest, rfl, rfl, ho, q⟩ := h
  obtain ⟨t, rfl⟩ := rv
  obtain ⟨u1, rfl, ru⟩ := vals1 rvs
  obtain ⟨t2, rfl⟩ := ru
  exact PySem.SC.index ho ⟨.int ((i : Nat) : Int), H, I.tok _, ⟨_, rfl⟩, q⟩
theorem tp_indexX {t u : Tx} {apos : Pos} (ha : TP S ρ a t) (he : TP S ρ e u) (hn : occX t u ≠ [])
    (hbase : ∀ env : PySem.Env, attributeBase a "index" env (eval a env) = eval a env := by intro _; rfl)
    (hline : (apos.endLine == pos.line) = true := by rfl) (ht : ∀ env : PySem.Env, starEach [e] env = [(false, eval e env)] := by intro _; rfl) :
    TP S ρ (.Call (.Attribute a "index" apos) [e] [] pos) (ixX t u) := by
  obtain ⟨ta, h1, h2⟩ := ha
  obtain ⟨te, e1, e2⟩ := he
  refine ⟨_, fun q ok => pe_m1 (X := S.cx q) PySem.F.slot_str_index PySem.F.type_str_index mt_indexX (h1 q ok) (e1 q ok) (ht _) (hbase _) hline, fun σ F H A Q w n q => h2 σ F H A _ w n fun v F1 H1 g r => ?_⟩
  cases r
  refine ⟨⟨_, rfl⟩, e2 σ F1 H1 A _ (g.wf w) (g.envs n) fun y F2 H2 g2 r2 => ?_⟩
  cases r2
  cases ho : occX t u with
  | nil => exact absurd ho hn
  | cons i rest =>
    refine ⟨t.s, u.s, i, rest, rfl, rfl, ho, ?_⟩
    have : ixX t u = ((i : Nat) : Int) := by unfold ixX; rw [ho]; rfl
    rw [← this]
    exact q _ _ _ (g.trans g2) .int
end
end G

namespace G
open PySem PySem.Spec PyProof.Rows L2
open PySem.W (Datum DatumOrd Tup T3 EachIs)
open Enc (enc)
instance : DatumOrd Tx where
  lt a b := decide (a.s.cps.toList < b.s.cps.toList)
  alike a b := by show PySem.W.alike (.str _) (.str _) = true; simp only [PySem.W.alike]
  notNone a := fun e => by cases e
  lt_eq a b := (DatumOrd.lt_eq a.s b.s)
theorem tx_le {a b : Tx} : DatumOrd.lt b a = false ↔ a.s.cps.toList ≤ b.s.cps.toList := by
  show decide _ = false ↔ _
  rw [decide_eq_false_iff_not]
  exact Iff.rfl
instance : LOrd Tx := ⟨fun a b c h h' => by rw [tx_le] at *; exact List.le_trans h h', fun a b => by rw [tx_le, tx_le]; exact List.le_total _ _, fun a b h h' => by
  rw [tx_le] at *
  have e := List.le_antisymm h h'
  refine Tx.s_inj ?_
  have : a.s.cps = b.s.cps := by
    rw [← Array.toList_inj]; exact e
  cases ha : a.s
  cases hb : b.s
  rw [ha, hb] at this
  exact congrArg Str.mk this⟩
instance : SortK Tx := ⟨.inr fun b => ⟨fun z => (nomatch z), fun xs z => (nomatch z)⟩, by decide⟩
section
variable {S : Sig} {ρ ρ1 : Env} {a b c e f : Expr} {pos p2 p3 pos2 p' : Pos} {pin : List Nat} {up : O → Env} {T : Type} [DecidableEq T] [Datum T] [Enc T]
/-- xs[i], xs owned -/
theorem tv_ixO [Inhabited T] {xs : List T} {i : Int} (ha : XL S ρ a (oL xs) up) (hb : TP S ρ b i) (h : (0 ≤ i ∧ i < xs.length) ∨ (i < 0 ∧ 0 ≤ i + xs.length)) (hs : PlainIx b := by intro _ _; rfl) : TP S ρ (.Subscript a b pos) (atD xs i) := by
  obtain ⟨t, h1, h2⟩ := ha
  obtain ⟨tb, b1, b2⟩ := hb
  refine ⟨tOp (rIxL S.K) t tb, fun q ok => pe_ix (X := S.cx q) ix_list (h1 q ok) (b1 q ok) hs, fun σ F H A Q w n q => h2 σ F H A _ w n fun v B C fo => b2 σ F H A _ w n fun y F1 H1 g r => ?_⟩
  obtain ⟨ow, pm, bk⟩ := fo
  unfold oL at ow
  cases ow with
  | lst hx rr =>
    obtain ⟨rr, e⟩ := Owns.fros_inv rr
    cases r
    have e1 : atI (xs.map enc) i = some (enc (atD xs i)) := by rw [atI_map, atD_ok h]; rfl
    obtain ⟨u, e2, e3⟩ := rr.atI e1
    exact ⟨_, _, _, u, rfl, rfl, .of (g.hh _ _ hx), e2, q _ _ _ g (e3.mono g.stp.fs)⟩
/-- x = e, of any frozen kind -/
theorem xs_sD {d : D} {ρ2 : Env} (i : Nat) {x : Str} {p' : Pos} (h : XP S ρ e (.ok d)) (hq : ρ.set i (some (.fro d)) = ρ2 := by rfl) (hi : Nat.blt i ρ.length = true := by rfl) (hp : i ∉ pin := by decide) (hN : S.N[i]? = some x := by rfl) (hx : Loc S.scope x := by first | exact .inl rfl | exact .inr rfl) (hst : S.st x = true ∨ S.scope.names.lookup x = some .local := by first | exact .inl rfl | exact .inr rfl)
    (hs : ∀ env : PySem.Env, swapsWith e (some (.Name x p')) pos.line { env with scope := S.scope } = pure false := by intro _; rfl) : XS S pin ρ (.Assign [.Name x p'] e pos) (.nx ρ2) := by
  subst hq
  exact xs_setF i h hi hp hN hx hst hs
end
end G

namespace G
open PySem PySem.Spec PyProof.Rows L2
open PySem.W (Datum DatumOrd Tup T3 EachIs)
open Enc (enc)
/-! ### {k: v}, k a tuple -/
def tDisp1 (tk tv : TE) : TE := fun σ H Q => ∀ p, H p = none → tPairs [(tk, tv)] σ (upd H p (.dT [])) fun ps H2 => H2 p = some (.dT []) ∧ ∃ (ks : List Key) (b : Addr) (y : V), ps = [(.ref b, y)] ∧ H2 b = some (.tup (ks.map kV)) ∧ Q (.ref p) (upd H2 p (.dT [(ks, y)]))
theorem pe_disp1 {X : Cx} {k v : Expr} {tk tv : TE} {pos : Pos} (hu : X.A.units + 1 < cLine) (hk : PE X k tk) (hv : PE X v tv) : PE X (.Dict [some k] [v] pos) (tDisp1 tk tv) := by
  refine ⟨fun pins s σ H Q I q => ?_⟩
  have hn := I.hok.fresh (Nat.le_refl s.heap.objs.size)
  have I1 := I.laid (a := s.heap.objs.size) (o := .dT []) (h' := s.heap.push { cls := .type "dict", data := .dict #[] }) (t' := s.toks) (fun _ _ q => Heap.get?_push_of_some _ q) (Nat.le_refl _) (dt_empty s.heap I.big)
  have hp : PPs X pos [some k] [v] [(tk, tv)] := pps_cons hk hv pps_nil
  have hsh := zip_pairTrees [some k] [v] X.env pos rfl rfl
  have hlen := pairTrees_length [some k] [v] X.env pos rfl rfl
  rw [arm_eval_Dict, hsh, dictDisplay_pairs (pairTrees [some k] [v] X.env pos) (fun he => by rw [he] at hlen; cases hlen) (by rw [hlen]; show 1 < 17; decide)]
  refine wpAny_bind (wpAny_standAt (wpAny_bind (wpAny_subDictH (knd := tupleKind (mixKind X.prog X.w)) (Q := fun d s' => wpAny (model X.prog X.w) X.A (pure (Value.ref d)) (L2.EP X pins σ Q) X.xe s') (show X.A.units < cLine by omega) (by rw [hlen]; show 1 ≤ 15; decide) ?_)))
  refine thn (hp.run pins _ σ _ _ I1 (q _ hn)) fun ws s2 ⟨ps, H2, I2, rel, e, ks, b, y, ep, eb, q2⟩ => ?_
  subst ep
  cases rel with
  | @cons a0 w0 as0 ws0 h r =>
    cases r
    obtain ⟨wk, wv⟩ := w0
    obtain ⟨h1, h2⟩ := h
    cases (show wk = Value.ref b from h1)
    obtain ⟨z, hd, xs, rx, dd⟩ := dt_of I2.hok e
    have hx : xs = [] := by
      cases xs with
      | nil => rfl
      | cons _ _ => cases rx
    subst hx
    refine ⟨[(ks, b, wv)], ⟨rfl, rfl, key_of I2.hok eb, trivial⟩, dd, fun h' tk' dd' hs => wpAny_pure ?_⟩
    refine ⟨.ref s.heap.objs.size, _, ?_, rfl, q2⟩
    obtain ⟨q0, es, epo, hq, g2, g3, g4, g5, g6⟩ := dd'
    refine d_write I2 (by rw [e]; exact True.intro) hs ⟨q0, hq⟩ ⟨by show 1 ≤ sizeLine; rw [sizeLine_eq]; omega, hd, [(ks, b, wv)], .cons ⟨rfl, by rw [upd_ne (ne_of eb e (fun z => nomatch z))]; exact eb, h2⟩ .nil, q0, es, epo, hq, g2, g3, g4, g6⟩
section
variable {κ β : Type} [DecidableEq κ] [Datum κ] [Enc κ] [DKey κ] [DecidableEq β] [Datum β] [Enc β]
variable {S : Sig} {ρ ρ1 : Env} {a b c e f : Expr} {pos p2 p3 pos2 p' : Pos} {pin : List Nat} {up : O → Env} {d : List (κ × β)} {k : κ} {x : β} {ss : List Stmt}
/-- {k: v}, k a tuple -/
theorem xx_d1 (ht : DKey.tk κ = true) (hk : TP S ρ a k) (hv : TP S ρ b x) : XX S ρ (.Dict [some a] [b] pos) (.ok (oD [(k, x)]) ρ) := by
  obtain ⟨tk, k1, k2⟩ := hk
  obtain ⟨tv, v1, v2⟩ := hv
  refine ⟨tDisp1 tk tv, fun q ok => pe_disp1 (X := S.cx q) (by have := ok.units; show q.A.units + 1 < cLine; omega) (k1 q ok) (v1 q ok), fun σ F H A Q w n q p hp => ?_⟩
  obtain ⟨w3, s3, n3⟩ := grow_own (o := .dT []) w n (Grow.refl w.sub) hp
  refine k2 σ F _ A _ w3.right n3 fun y F1 H1 g1 r1 => v2 σ F1 H1 A _ (g1.wf w3.right) (g1.envs n3) fun z F2 H2 g2 r2 => ?_
  have g := g1.trans g2
  have hp2 : H2 p = some (.dT []) := g.hh _ _ upd_same
  obtain ⟨bb, rfl, hb⟩ := DKey.rept ht k r1
  have w4 : WF F2 H2 ([p] ++ A) := g.wf w3
  have n4 := g.envs n3
  have pA : p ∉ A := fun h => w.on p h (imm_none hp)
  have u5 : WF F2 (upd H2 p (.dT [(DKey.kt k, z)])) ([p] ++ A) ∧ Stp F2 H2 ([p] ++ A) F2 (upd H2 p (.dT [(DKey.kt k, z)])) ([p] ++ A) := by
    refine ⟨⟨fun a v h => ?_, w4.nd, w4.off, fun a h => ?_⟩, ⟨Ext.refl _, fun a v h n => ?_, fun a v h => .inl h, fun a h => .inl h, fun a h => ?_⟩⟩
    · rw [upd_ne fun z => by rw [z, w4.off p (by simp)] at h; cases h]
      exact w4.sub a v h
    · by_cases z : a = p
      · subst z; rw [upd_same]; exact fun z => z
      · rw [upd_ne z]; exact w4.on a h
    · rw [upd_ne fun z => n (by rw [z]; simp)]; exact h
    · by_cases z : a = p
      · subst z; rw [upd_same] at h; cases h
      · rw [upd_ne z] at h; exact h
  refine ⟨hp2, DKey.kt k, bb, z, rfl, g2.ext _ _ (g2.stp.fs _ _ hb), q _ F2 _ [p] A u5.1 ((s3.trans ((g.stp.mono (by simp) (A' := [p] ++ A)).more (C := [p] ++ A) fun a h => .inl h)).trans u5.2) ?_ ?_⟩
  · exact DLay.own (.inl ⟨ht, _, upd_same, rfl, .cons r2 .nil⟩)
  · exact n4.mono (Ext.refl _) (S := A) (fun a u e h => by rw [upd_ne fun z => pA (by rw [← z]; exact h)]; exact e) fun _ h => h
end
end G

namespace G
open PySem PySem.Spec PyProof.Rows L2
open PySem.W (Datum DatumOrd Tup T3)
open Enc (enc)
/-! ### a callee that is reckoned -/
theorem pe_callE {X : Cx} {CX : CXT} {k : Nat} {f : Addr} {fd : FuncData} {ps : List Str} {sp : Sp} {E : L2.St → XK} {pos : Pos} {g e : Expr} {es : List Expr} {tg : TE} {t : TA} (hgE : PE X g tg) (F : FnOk X.prog X.w X.K X.mg X.base CX k f fd ps sp) (hr : Room k X.A) (hk : PySem.W.keepIn X.K (.ref f) = true) (hb : Binds X.K fd ps []) (hx : ∀ σ, PassesAt CX X σ (E σ))
    (ha : PA X (e :: es) t) (he : starEach (e :: es) X.env = (false, eval e X.env) :: starEach es X.env) (hpl : (backTo pos (starEach es X.env)).any (·.1) = false)
    (hc : eval (.Call g (e :: es) [] pos) X.env = (do callWith pos (← eval g X.env) [] (backTo pos (starEach (e :: es) X.env)) (backToKw pos (keywordEach [] X.env)))) :
    PE X (.Call g (e :: es) [] pos) (fun σ H Q => tg σ H fun v H1 => v = .ref f ∧ t σ H1 fun vs H2 => sp vs H2 Q (E σ)) := by
  refine ⟨fun pins s σ H Q I h => ?_⟩
  rw [hc]
  refine wpAny_bind (thn (hgE.run pins s σ H _ I h) fun u s1 ⟨v, H1, I1, rv, ev, q⟩ => ?_)
  subst ev
  obtain rfl : u = Value.ref f := rv
  refine PySem.W.callWith_K (h₀ := X.base) I.ok.mod.kin hk (thn (ha.run pos pins s1 σ H1 _ I1 q) fun us s2 ⟨vs, H2, I2, r, q2⟩ => ⟨I2.kIn, ?_⟩) he hpl
  exact run_fnS F hr hb (hx σ) I2 r q2
section
variable {S : Sig} {ρ ρ1 : Env} {a b c e g : Expr} {d d1 d2 d3 : D} {ds : List D} {pos p2 : Pos} {pin : List Nat} {es : List Expr} {x : Str} {ps : List Str} {k : Nat} {f : Addr}
variable {τ : Type} {dd : τ → List D} {pre : τ → Prop} {rese : τ → Except Str O}
theorem xx_callEx [Calm S] (hg : XP S ρ g (.ok (.obj f))) (hG : FnG S.P S.w S.K S.mg S.base k x ps (spP S.K dd pre rese)) (hf : S.mg x = some (.ref f)) (y : τ) (hp : pre y) (ha : XA S ρ (e :: es) (dd y)) (hk : k ≤ S.kk := by exact Nat.le_of_ble_eq_true rfl)
    (he : ∀ env : PySem.Env, starEach (e :: es) env = (false, eval e env) :: starEach es env := by intro _; rfl) (hpl : ∀ env : PySem.Env, (backTo pos (starEach es env)).any (·.1) = false := by intro _; rfl)
    (hc : ∀ env : PySem.Env, eval (.Call g (e :: es) [] pos) env = (do callWith pos (← eval g env) [] (backTo pos (starEach (e :: es) env)) (backToKw pos (keywordEach [] env))) := by intro _; rfl) : XX S ρ (.Call g (e :: es) [] pos) (exX ρ (rese y)) := by
  obtain ⟨f', fd, F, hm, kp, b⟩ := hG.h
  rw [hf] at hm
  obtain rfl : f = f' := by injection hm with hm; injection hm
  obtain ⟨t, a1, a2⟩ := ha
  obtain ⟨tg, g1, g2⟩ := hg
  refine ⟨_, fun q ok => pe_callE (X := S.cx q) (g1 q ok) F ((ok.calm Calm.h).mono hk) kp b (fun σ => L2N.passAt ok.tk σ) (a1 q ok) (he _) (hpl _) (hc _), fun σ F0 H A Q w n q => g2 σ F0 H A _ w n fun v F1 H1 g r => ?_⟩
  cases r
  refine ⟨rfl, ex_call y a2 hp σ F1 H1 A Q (g.wf w) (g.envs n) ?_⟩
  cases hz : rese y with
  | ok o =>
    rw [hz] at q
    exact fun v F' H' B A' w' s' ow n' => q v F' H' B A' w' (((g.stp.mono (by simp) (A' := A)).more (C := A) fun a h => .inl h).trans s') ow n'
  | error z =>
    rw [hz] at q
    exact fun F' H' A' w' s' n' => q F' H' A' w' (((g.stp.mono (by simp) (A' := A)).more (C := A) fun a h => .inl h).trans s') n'
end
/-! ### results that are frozen, while what is owned changes -/
theorem Grow.stpA {F H F' H' : Hp} {A : List Addr} (g : Grow F H F' H') : Stp F H A F' H' A := (g.stp.mono (by simp) (A' := A)).more (C := A) fun a h => .inl h
abbrev XM (S : Sig) (ρ : Env) (e : Expr) (d : D) (ρ1 : Env) : Prop := XX S ρ e (.ok (.fro d) ρ1)
section
variable {S : Sig} {ρ ρ1 ρ2 : Env} {a b c e : Expr} {d d1 d2 d3 : D} {ds : List D} {pos p2 : Pos} {pin : List Nat} {es : List Expr} {ss : List Stmt} {r : RS}
theorem exm {t : TE} (h : EX S t ρ (.ok (.fro d) ρ1)) (σ : L2.St) (F H : Hp) (A : List Addr) (Q : VK) (w : WF F H A) (n : Envs S.K F H σ ρ A) (q : ∀ v F' H' A', WF F' H' A' → Stp F H A F' H' A' → Rep S.K F' v d → Envs S.K F' H' σ ρ1 A' → Q v H') : t σ H Q :=
  h σ F H A Q w n fun v F' H' B A' w' s' ow n' => by
    cases ow with
    | fro r => exact q v F' H' A' w' s' r n'
theorem exm_of {t : TE} (h : ∀ (σ : L2.St) (F H : Hp) (A : List Addr) (Q : VK), WF F H A → Envs S.K F H σ ρ A → (∀ v F' H' A', WF F' H' A' → Stp F H A F' H' A' → Rep S.K F' v d → Envs S.K F' H' σ ρ1 A' → Q v H') → t σ H Q) : EX S t ρ (.ok (.fro d) ρ1) :=
  fun σ F H A Q w n q => h σ F H A Q w n fun v F' H' A' w' s' r n' => q v F' H' [] A' w' s' (.fro r) n'
theorem XM.cast {d' : D} (h : XM S ρ e d ρ1) (q : d = d') : XM S ρ e d' ρ1 := q ▸ h
theorem exm_bin {r : R2} {ta tb : TE} (hr : OD S r d1 d2 d) (ha : EX S ta ρ (.ok (.fro d1) ρ1)) (hb : EX S tb ρ1 (.ok (.fro d2) ρ2)) : EX S (tOp r ta tb) ρ (.ok (.fro d) ρ2) :=
  exm_of fun σ F H A Q w n q => exm ha σ F H A _ w n fun x F1 H1 A1 w1 s1 r1 n1 => exm hb σ F1 H1 A1 _ w1 n1 fun y F2 H2 A2 w2 s2 r2 n2 =>
    hr x y F2 H2 Q w2.sub ((r1.mono s2.fs).mono w2.sub) (r2.mono w2.sub) fun v F3 H3 g r3 => q v F3 H3 A2 (g.wf w2) ((s1.trans s2).trans g.stpA) r3 (g.envs n2)
theorem xm_bin {op : Operator} (ho : OB S op d1 d2 d) (ha : XM S ρ a d1 ρ1) (hb : XM S ρ1 b d2 ρ2) : XM S ρ (.BinOp a op b pos) d ρ2 := by
  obtain ⟨r, h1, h2⟩ := ho.h
  obtain ⟨ta, a1, a2⟩ := ha
  obtain ⟨tb, b1, b2⟩ := hb
  exact ⟨_, fun q k => pe_op (h1 q k) (a1 q k) (b1 q k), exm_bin h2 a2 b2⟩
theorem xm_cmp {op : CmpOp} {c : Bool} (ho : OC S op d1 d2 c) (ha : XM S ρ a d1 ρ1) (hb : XM S ρ1 b d2 ρ2) (hm : behindInMarks op b = false := by first | exact nomark _ | rfl) : XM S ρ (.Compare a [op] [b] pos) (.bl c) ρ2 := by
  obtain ⟨r, h1, h2⟩ := ho.h
  obtain ⟨ta, a1, a2⟩ := ha
  obtain ⟨tb, b1, b2⟩ := hb
  exact ⟨_, fun q k => pe_cmpR (h1 q k) (a1 q k) (b1 q k) hm, exm_bin h2 a2 b2⟩
/-- tests -/
def ETM (S : Sig) (t : TT) (ρ : Env) (b : Bool) (ρ1 : Env) : Prop := ∀ (σ : L2.St) (F H : Hp) (A : List Addr) (Q : Bool → Hp → Prop), WF F H A → Envs S.K F H σ ρ A →
  (∀ F' H' A', WF F' H' A' → Stp F H A F' H' A' → Envs S.K F' H' σ ρ1 A' → Q b H') → t σ H Q
def XTM (S : Sig) (ρ : Env) (e : Expr) (b : Bool) (ρ1 : Env) : Prop := ∃ t, (∀ q, S.Ok q → PT (S.cx q) e t) ∧ ETM S t ρ b ρ1
def XWM (S : Sig) (ρ : Env) (e : Expr) (b : Bool) (ρ1 : Env) : Prop := ∃ t, (∀ q, S.Ok q → PW (S.cx q) e t) ∧ ETM S t ρ b ρ1
theorem XT.m {k : Bool} (h : XT S ρ e k) : XTM S ρ e k ρ := let ⟨t, h1, h2⟩ := h; ⟨t, h1, fun σ F H A Q w n q => h2 σ F H A Q w n fun F' H' g => q F' H' A (g.wf w) g.stpA (g.envs n)⟩
theorem XTM.cast {k k' : Bool} (h : XTM S ρ e k ρ1) (q : k = k') : XTM S ρ e k' ρ1 := q ▸ h
theorem XWM.t {k : Bool} (h : XWM S ρ e k ρ1) : XTM S ρ e k ρ1 := let ⟨t, h1, h2⟩ := h; ⟨t, fun q o => (h1 q o).pt, h2⟩
theorem xtm_cmp {op : CmpOp} {c : Bool} (ho : OC S op d1 d2 c) (ha : XM S ρ a d1 ρ1) (hb : XM S ρ1 b d2 ρ2) (hm : behindInMarks op b = false := by first | exact nomark _ | rfl) : XTM S ρ (.Compare a [op] [b] pos) c ρ2 := by
  obtain ⟨r, h1, h2⟩ := ho.h
  obtain ⟨ta, a1, a2⟩ := ha
  obtain ⟨tb, b1, b2⟩ := hb
  refine ⟨_, fun q k => pt_cmpR (h1 q k) (a1 q k) (b1 q k) hm, fun σ F H A Q w n q => exm (exm_bin h2 a2 b2) σ F H A _ w n fun v F' H' A' w' s' r n' => ?_⟩
  cases r
  exact ⟨c, rfl, q F' H' A' w' s' n'⟩
theorem xtm_not {k : Bool} (h : XTM S ρ a k ρ1) : XTM S ρ (.UnaryOp .Not a pos) (!k) ρ1 := let ⟨t, h1, h2⟩ := h; ⟨_, fun q o => pt_not (h1 q o), fun σ F H A Q w n q => h2 σ F H A _ w n fun F' H' A' w' s' n' => q F' H' A' w' s' n'⟩
theorem xtm_val {k : Bool} (h : XM S ρ e (.bl k) ρ1) (he : ∀ (env : PySem.Env) (whole : Sem Value), isTrue e env whole = (do let v ← whole; standAt e.pos; holding [v] (truthy v)) := by intro _ _; rfl) : XTM S ρ e k ρ1 := by
  obtain ⟨t, h1, h2⟩ := h
  refine ⟨_, fun q o => pt_val (h1 q o) (he _), fun σ F H A Q w n q => exm h2 σ F H A _ w n fun v F' H' A' w' s' r n' => ?_⟩
  cases r
  exact ⟨k, rfl, q F' H' A' w' s' n'⟩
theorem xwm_or1 {k : Bool} (h : XTM S ρ a k ρ1) : XWM S ρ (.BoolOp .Or [a] pos) k ρ1 := let ⟨t, h1, h2⟩ := h; ⟨t, fun q o => pw_or1 (h1 q o), h2⟩
theorem xwm_and1 {k : Bool} (h : XTM S ρ a k ρ1) : XWM S ρ (.BoolOp .And [a] pos) k ρ1 := let ⟨t, h1, h2⟩ := h; ⟨t, fun q o => pw_and1 (h1 q o), h2⟩
theorem xwm_or {l : Bool} {rest : List Expr} (h : XTM S ρ a false ρ1) (h' : XWM S ρ1 (.BoolOp .Or (b :: rest) pos) l ρ2) : XWM S ρ (.BoolOp .Or (a :: b :: rest) pos) l ρ2 := by
  obtain ⟨t, h1, h2⟩ := h
  obtain ⟨u, h3, h4⟩ := h'
  refine ⟨_, fun q o => pw_or (h1 q o) (h3 q o), fun σ F H A Q w n q => h2 σ F H A _ w n fun F1 H1 A1 w1 s1 n1 => ?_⟩
  show u σ H1 Q
  exact h4 σ F1 H1 A1 Q w1 n1 fun F' H' A' w' s' n' => q F' H' A' w' (s1.trans s') n'
theorem xwm_orT {rest : List Expr} (h : XTM S ρ a true ρ1) : XWM S ρ (.BoolOp .Or (a :: b :: rest) pos) true ρ1 := by
  obtain ⟨t, h1, h2⟩ := h
  refine ⟨L2.tOr t fun _ _ _ => False, fun q o => pw_or (h1 q o) ⟨fun _ _ _ _ _ _ _ z => z.elim⟩, fun σ F H A Q w n q => h2 σ F H A _ w n fun F1 H1 A1 w1 s1 n1 => ?_⟩
  show Q true H1
  exact q F1 H1 A1 w1 s1 n1
theorem xwm_and {l : Bool} {rest : List Expr} (h : XTM S ρ a true ρ1) (h' : XWM S ρ1 (.BoolOp .And (b :: rest) pos) l ρ2) : XWM S ρ (.BoolOp .And (a :: b :: rest) pos) l ρ2 := by
  obtain ⟨t, h1, h2⟩ := h
  obtain ⟨u, h3, h4⟩ := h'
  refine ⟨_, fun q o => pw_and (h1 q o) (h3 q o), fun σ F H A Q w n q => h2 σ F H A _ w n fun F1 H1 A1 w1 s1 n1 => ?_⟩
  show u σ H1 Q
  exact h4 σ F1 H1 A1 Q w1 n1 fun F' H' A' w' s' n' => q F' H' A' w' (s1.trans s') n'
theorem xwm_andF {rest : List Expr} (h : XTM S ρ a false ρ1) : XWM S ρ (.BoolOp .And (a :: b :: rest) pos) false ρ1 := by
  obtain ⟨t, h1, h2⟩ := h
  refine ⟨L2.tAnd t fun _ _ _ => False, fun q o => pw_and (h1 q o) ⟨fun _ _ _ _ _ _ _ z => z.elim⟩, fun σ F H A Q w n q => h2 σ F H A _ w n fun F1 H1 A1 w1 s1 n1 => ?_⟩
  show Q false H1
  exact q F1 H1 A1 w1 s1 n1
/-- values: a and b -/
theorem xm_one {op : BoolOp} {r} (h : XX S ρ a r) : XX S ρ (.BoolOp op [a] pos) r := let ⟨t, h1, h2⟩ := h; ⟨t, fun q o => pe_one (h1 q o), h2⟩
theorem xm_and {l : Bool} {rest : List Expr} (h : XM S ρ a (.bl true) ρ1) (h' : XM S ρ1 (.BoolOp .And (b :: rest) pos) (.bl l) ρ2) : XM S ρ (.BoolOp .And (a :: b :: rest) pos) (.bl l) ρ2 := by
  obtain ⟨t, h1, h2⟩ := h
  obtain ⟨u, h3, h4⟩ := h'
  refine ⟨_, fun q o => pe_and (h1 q o) (h3 q o), exm_of fun σ F H A Q w n q => exm h2 σ F H A _ w n fun v F1 H1 A1 w1 s1 r1 n1 => ?_⟩
  cases r1
  refine ⟨true, rfl, ?_⟩
  exact exm h4 σ F1 H1 A1 Q w1 n1 fun v F' H' A' w' s' r' n' => q v F' H' A' w' (s1.trans s') r' n'
/-- arguments, displays -/
def EAM (S : Sig) (t : TA) (ρ : Env) (ds : List D) (ρ1 : Env) : Prop := ∀ (σ : L2.St) (F H : Hp) (A : List Addr) (Q : List V → Hp → Prop), WF F H A → Envs S.K F H σ ρ A →
  (∀ vs F' H' A', WF F' H' A' → Stp F H A F' H' A' → Reps S.K F' vs ds → Envs S.K F' H' σ ρ1 A' → Q vs H') → t σ H Q
def XAM (S : Sig) (ρ : Env) (es : List Expr) (ds : List D) (ρ1 : Env) : Prop := ∃ t, (∀ q, S.Ok q → PA (S.cx q) es t) ∧ EAM S t ρ ds ρ1
theorem XA.m (h : XA S ρ es ds) : XAM S ρ es ds ρ := let ⟨t, h1, h2⟩ := h; ⟨t, h1, fun σ F H A Q w n q => h2 σ F H A Q w n fun vs F' H' g r => q vs F' H' A (g.wf w) g.stpA r (g.envs n)⟩
theorem xam_nil : XAM S ρ [] [] ρ := xa_nil.m
theorem xam_cons (h : XM S ρ e d ρ1) (r : XAM S ρ1 es ds ρ2) (hs : ∀ env : PySem.Env, starEach (e :: es) env = (false, eval e env) :: starEach es env := by intro _; rfl) : XAM S ρ (e :: es) (d :: ds) ρ2 := by
  obtain ⟨t, h1, h2⟩ := h
  obtain ⟨u, h3, h4⟩ := r
  exact ⟨_, fun q k => pa_cons (h1 q k) (h3 q k) (hs _), fun σ F H A Q w n q => exm h2 σ F H A _ w n fun v F1 H1 A1 w1 s1 r1 n1 => h4 σ F1 H1 A1 _ w1 n1 fun vs F2 H2 A2 w2 s2 r2 n2 => q (v :: vs) F2 H2 A2 w2 (s1.trans s2) (.cons (r1.mono s2.fs) r2) n2⟩
theorem xm_tup {k} (h : XAM S ρ es ds ρ1) (hl : ds.length ≤ 1000000 := by simp) : XM S ρ (.Tuple es k pos) (.tup ds) ρ1 := by
  obtain ⟨t, h1, h2⟩ := h
  refine ⟨_, fun q k => pe_tup (h1 q k), exm_of fun σ F H A Q w n q => h2 σ F H A _ w n fun vs F1 H1 A1 w1 s1 r n1 => ⟨line_le (by rw [r.length]; exact hl), fun p hp => ?_⟩⟩
  have g : Grow F1 H1 (upd F1 p (.tup vs)) (upd H1 p (.tup vs)) := Grow.new w1.sub hp
  exact q (.ref p) _ _ A1 (g.wf w1) (s1.trans g.stpA) (.tup upd_same (reps_new w1.sub hp r)) (g.envs n1)
/-! if -/
theorem xb_ifF {A : List Stmt} (hc : XTM S ρ c false ρ1) (h : XB S pin ρ1 ss r) : XB S pin ρ (.If c A [] pos :: ss) r := by
  obtain ⟨t, h1, h2⟩ := hc
  refine xb_cons ⟨tIfS t tNever (fun D => D.nx), fun q ok => ps_if (h1 q ok) pss_never pss_nil, fun σ F H A D w n q => h2 σ F H A _ w n fun F1 H1 A1 w1 s1 n1 => ?_⟩ h
  show D.nx σ H1
  exact q σ F1 H1 A1 w1 s1 n1 Pin.refl
theorem xb_ifE {A B : List Stmt} {ρ2 : Env} (hc : XTM S ρ c false ρ1) (hB : XB S pin ρ1 B (.nx ρ2)) (h : XB S pin ρ2 ss r) : XB S pin ρ (.If c A B pos :: ss) r := by
  obtain ⟨t, h1, h2⟩ := hc
  obtain ⟨u, h3, h4⟩ := hB
  refine xb_cons ⟨tIfS t tNever u, fun q ok => ps_if (h1 q ok) pss_never (h3 q ok), fun σ F H A D w n q => h2 σ F H A _ w n fun F1 H1 A1 w1 s1 n1 => ?_⟩ h
  show u D σ H1
  exact h4 σ F1 H1 A1 D w1 n1 (EPost.trans q s1 Pin.refl)
theorem xb_ifT {A B : List Stmt} (hc : XTM S ρ c true ρ1) (h : XB S pin ρ1 A r) (hr : ∀ ρ, r ≠ .nx ρ) : XB S pin ρ (.If c A B pos :: ss) r := by
  obtain ⟨t, h1, h2⟩ := hc
  obtain ⟨u, h3, h4⟩ := h
  refine xb_stop ⟨tIfS t u tNever, fun q ok => ps_if (h1 q ok) (h3 q ok) pss_never, fun σ F H A D w n q => h2 σ F H A _ w n fun F1 H1 A1 w1 s1 n1 => ?_⟩ hr
  show u D σ H1
  exact h4 σ F1 H1 A1 D w1 n1 (EPost.trans q s1 Pin.refl)
theorem xb_ifN {A B : List Stmt} {ρ2 : Env} (hc : XTM S ρ c true ρ1) (hA : XB S pin ρ1 A (.nx ρ2)) (h : XB S pin ρ2 ss r) : XB S pin ρ (.If c A B pos :: ss) r := by
  obtain ⟨t, h1, h2⟩ := hc
  obtain ⟨u, h3, h4⟩ := hA
  refine xb_cons ⟨tIfS t u tNever, fun q ok => ps_if (h1 q ok) (h3 q ok) pss_never, fun σ F H A D w n q => h2 σ F H A _ w n fun F1 H1 A1 w1 s1 n1 => ?_⟩ h
  show u D σ H1
  exact h4 σ F1 H1 A1 D w1 n1 (EPost.trans q s1 Pin.refl)
/-! an owned name, handed on -/
theorem xx_own (i : Nat) {x : Str} {o : O} (hρ : ρ[i]? = some (some o) := by rfl) (hN : S.N[i]? = some x := by rfl) (hv : Vis S.scope x := by first | exact Or.inl rfl | exact Or.inr (Or.inl rfl) | exact Or.inr (Or.inr rfl))
    (hd : (x == ("__debug__" : Str)) = false := by decide) (hcd : (x == ("__classdict__" : Str)) = false := by decide) : XX S ρ (.Name x pos) (.ok o (ρ.set i none)) :=
  ⟨tVar i, fun q _ => pe_var hN hv hd hcd, fun σ F H A Q w n q => by
    obtain ⟨v, B, A', h1, h2, h3, h4⟩ := n.get hρ
    exact ⟨v, h1, q v F H B A' (w.perm h4) (Stp.refl.perm (fun _ => Iff.rfl) fun a h => h4.mem_iff.mpr h) h2 h3⟩⟩
/-! x.append(e), where e changes what is owned -/
theorem xx_appM (i : Nat) {x : Str} {apos cpos : Pos} {os0 os : List O} (he : XM S ρ e d ρ1) (h0 : ρ[i]? = some (some (.lst os0)) := by rfl) (hl : ρ1[i]? = some (some (.lst os)) := by rfl) (hn : os.length < 1000000 := by simp; omega) (hN : S.N[i]? = some x := by rfl) (hv : Vis S.scope x := by first | exact Or.inl rfl | exact Or.inr (Or.inl rfl) | exact Or.inr (Or.inr rfl))
    (hd : (x == ("__debug__" : Str)) = false := by decide) (hcd : (x == ("__classdict__" : Str)) = false := by decide)
    (hbase : ∀ env : PySem.Env, attributeBase (.Name x p2) "append" env (eval (.Name x p2) env) = eval (.Name x p2) env := by intro _; rfl)
    (hfew : ∀ env : PySem.Env, ((backTo cpos (starEach [e] env)).all (fun x => !x.1) && (backToKw cpos (keywordEach [] env)).all (fun x => x.1.isSome) && decide ([e].length + ([] : List Keyword).length + (if ([] : List Keyword).isEmpty then 0 else 1) < 30)) = true := by intro _; rfl)
    (hline : (apos.endLine == cpos.line) = true := by rfl) (hs : ∀ env : PySem.Env, starEach [e] env = (false, eval e env) :: starEach [] env := by intro _; rfl) (hplain : ∀ env : PySem.Env, (backTo cpos (starEach [] env)).any (·.1) = false := by intro _; rfl) :
    XX S ρ (.Call (.Attribute (.Name x p2) "append" apos) [e] [] cpos) (.ok (.fro .non) (ρ1.set i (some (.lst (os ++ [.fro d]))))) := by
  obtain ⟨ta, a1, a2⟩ := xam_cons he xam_nil hs
  refine ⟨tBM S.K "list" rAppend (tVar i) ta, fun q ok => pe_bm PySem.F.plainAttrs_list PySem.F.slot_list_append PySem.F.type_list_append mt_append (pe_var hN hv hd hcd) (a1 q ok) (hbase _) (hfew _) hline (hs _) (hplain _), fun σ F H A Q w n q => ?_⟩
  obtain ⟨v, B, A', g1, g2, g3, g4⟩ := n.get h0
  cases g2 with
  | lst hx0 r0 =>
  rename_i l xs0 B0
  refine ⟨_, g1, .inl ⟨rfl, _, SqL.of hx0⟩, a2 σ F H A _ w n fun vs F1 H1 A1 w1 s1 rr n1 => ?_⟩
  obtain ⟨y, rfl, ry⟩ := reps1 rr
  obtain ⟨v', B', A'', k1, k2, k3, k4⟩ := n1.get hl
  rw [g1] at k1
  obtain rfl : V.ref l = v' := by injection k1 with k1; injection k1
  cases k2 with
  | lst hx r =>
  rename_i xs A0
  have fo : Foc S.K F1 H1 σ A1 (.ref l) (.lst os) (fun o' => ρ1.set i (some o')) (l :: A0) A'' := ⟨.lst hx r, k4, fun F' H' o' B' e k ow => by
    have e2 : (ρ1.set i none)[i]? = some none := by
      rw [List.getElem?_set_self]
      exact (List.getElem?_eq_some_iff.mp hl).1
    obtain ⟨A2, n3, p3⟩ := (k3.mono e (S := A'') k fun _ h => h).back ow e2 g1
    rw [List.set_set] at n3
    exact ⟨A2, n3, p3⟩⟩
  have len := r.length
  have lA : l ∉ A0 := fun z => (List.nodup_cons.mp (w1.perm k4).left.nd).1 z
  refine ⟨l, xs, y, rfl, rfl, hx, line_lt (by omega), ?_⟩
  obtain ⟨A3, n', w', s'⟩ := Foc.mut (B2 := []) (A1 := A0 ++ []) (X := []) (u := .lst (xs ++ [y])) (o' := .lst (os ++ [.fro d])) w1 fo (by simp) (.lst upd_same (Owns.append (r.mono (Ext.refl _) (S := A0) (fun x u h hx => by rw [upd_ne fun z => lA (by rw [← z]; exact hx)]; exact h) fun _ h => h) (Owns.fros (ds := [d]) (.cons ry .nil))))
  exact q .non F1 _ [] A3 w' (s1.trans s') (.fro .non) n'
end
/-! ### a def of which one argument is owned -/
theorem Owns.splitW {K : PySem.W.Frag} {F H : Hp} {ds2 : List D} {s : O} : ∀ {ds1 : List D} {vs : List V} {A : List Addr}, Owns K F H vs (ds1.map O.fro ++ s :: ds2.map O.fro) A → ∃ vs1 v vs2, vs = vs1 ++ v :: vs2 ∧ Reps K F vs1 ds1 ∧ Reps K F vs2 ds2 ∧ Own K F H v s A
  | [], vs, A, h => by
    cases h with
    | cons ow r =>
      obtain ⟨r2, rfl⟩ := Owns.fros_inv r
      exact ⟨[], _, _, rfl, .nil, r2, by rw [List.append_nil]; exact ow⟩
  | d :: ds1, vs, A, h => by
    cases h with
    | cons ow r =>
      cases ow with
      | fro r0 =>
        obtain ⟨vs1, v, vs2, rfl, r1, r2, ow⟩ := r.splitW
        exact ⟨_ :: vs1, v, vs2, rfl, .cons r0 r1, r2, ow⟩
theorem Owns.joinW {K : PySem.W.Frag} {F H : Hp} {ds2 : List D} {s : O} {v : V} {vs2 : List V} {A : List Addr} (r2 : Reps K F vs2 ds2) (ow : Own K F H v s A) : ∀ {ds1 : List D} {vs1 : List V}, Reps K F vs1 ds1 → Owns K F H (vs1 ++ v :: vs2) (ds1.map O.fro ++ s :: ds2.map O.fro) A
  | [], _, .nil => by
    have := Owns.cons ow (Owns.fros (H := H) r2)
    rw [List.append_nil] at this
    exact this
  | d :: ds1, _, .cons r0 r1 => Owns.cons (A := []) (B := A) (.fro r0) (Owns.joinW r2 ow r1)
def rmW (ds1 ds2 : List D) : Except Str O × O → RM
  | (.ok o, s) => .ok o (ds1.map O.fro ++ s :: ds2.map O.fro)
  | (.error x, s) => .ex x (ds1.map O.fro ++ s :: ds2.map O.fro)
abbrev spW (K : PySem.W.Frag) {τ : Type} (dd1 : τ → List D) (slf : τ → O) (dd2 : τ → List D) (pre : τ → Prop) (res : τ → Except Str O × O) : Sp := spG K (fun x => (dd1 x).map O.fro ++ slf x :: (dd2 x).map O.fro) pre fun x => rmW (dd1 x) (dd2 x) (res x)
section
variable {S : Sig} {ρ ρ1 : Env} {a b c e : Expr} {d : D} {ds ds1 ds2 : List D} {pos p2 : Pos} {pin : List Nat} {es : List Expr} {x : Str} {ps : List Str} {k : Nat}
variable {τ : Type} {dd1 dd2 : τ → List D} {pre : τ → Prop} {slf : τ → O} {res : τ → Except Str O × O}
def EAW (S : Sig) (t : TA) (ρ : Env) (ds1 : List D) (i : Nat) (ds2 : List D) : Prop := ∀ (σ : L2.St) (F H : Hp) (A : List Addr) (Q : List V → Hp → Prop), WF F H A → Envs S.K F H σ ρ A →
  (∀ vs1 v vs2 F' H', Grow F H F' H' → Reps S.K F' vs1 ds1 → Reps S.K F' vs2 ds2 → σ[i]? = some (some v) → Q (vs1 ++ v :: vs2) H') → t σ H Q
def XAW (S : Sig) (ρ : Env) (es : List Expr) (ds1 : List D) (i : Nat) (ds2 : List D) : Prop := ∃ t, (∀ q, S.Ok q → PA (S.cx q) es t) ∧ EAW S t ρ ds1 i ds2
theorem xaw_here (i : Nat) {x : Str} {o : O} (r : XA S ρ es ds) (hρ : ρ[i]? = some (some o) := by rfl) (hN : S.N[i]? = some x := by rfl) (hv : Vis S.scope x := by first | exact Or.inl rfl | exact Or.inr (Or.inl rfl) | exact Or.inr (Or.inr rfl))
    (hd : (x == ("__debug__" : Str)) = false := by decide) (hcd : (x == ("__classdict__" : Str)) = false := by decide) (hs : ∀ env : PySem.Env, starEach (.Name x pos :: es) env = (false, eval (.Name x pos) env) :: starEach es env := by intro _; rfl) : XAW S ρ (.Name x pos :: es) [] i ds := by
  obtain ⟨t, a1, a2⟩ := r
  refine ⟨_, fun q ok => pa_cons (pe_var hN hv hd hcd) (a1 q ok) (hs _), fun σ F H A Q w n q => ?_⟩
  obtain ⟨v, B, A', h1, h2, h3, h4⟩ := n.get hρ
  exact ⟨v, h1, a2 σ F H A _ w n fun vs F1 H1 g rr => q [] v vs F1 H1 g .nil rr h1⟩
theorem xaw_cons {i : Nat} (h : XP S ρ e (.ok d)) (r : XAW S ρ es ds1 i ds2) (hs : ∀ env : PySem.Env, starEach (e :: es) env = (false, eval e env) :: starEach es env := by intro _; rfl) : XAW S ρ (e :: es) (d :: ds1) i ds2 := by
  obtain ⟨t, h1, h2⟩ := h
  obtain ⟨u, r1, r2⟩ := r
  exact ⟨_, fun q o => pa_cons (h1 q o) (r1 q o) (hs _), fun σ F H A Q w n q => h2 σ F H A _ w n fun v F1 H1 g1 p1 => r2 σ F1 H1 A _ (g1.wf w) (g1.envs n) fun vs1 v' vs2 F2 H2 g2 q1 q2 z => q (v :: vs1) v' vs2 F2 H2 (g1.trans g2) (.cons (p1.mono g2.stp.fs) q1) q2 z⟩
theorem ex_callW {t : TA} (y : τ) {i : Nat} (hρ : ρ[i]? = some (some (slf y))) (ha : EAW S t ρ (dd1 y) i (dd2 y)) (hp : pre y) : EX S (tCallS (spW S.K dd1 slf dd2 pre res) (WE S.wx) t) ρ (exM (fun s => ρ.set i (some s)) (res y)) := fun σ F H A Q w n q => ha σ F H A _ w n fun vs1 v vs2 F1 H1 g r1 r2 hv => by
  obtain ⟨v', B, C0, h1, h2, h3, h4⟩ := n.get hρ
  rw [hv] at h1
  obtain rfl : v = v' := by injection h1 with h1; injection h1
  have fo : Foc S.K F1 H1 σ A v (slf y) (fun o' => ρ.set i (some o')) B C0 := (Foc.mk h2 h4 fun F' H' o' B' e k ow => by
    have e2 : (ρ.set i none)[i]? = some none := by
      rw [List.getElem?_set_self]
      exact (List.getElem?_eq_some_iff.mp hρ).1
    obtain ⟨A2, n3, p3⟩ := (h3.mono e (S := C0) k fun _ h => h).back ow e2 hv
    rw [List.set_set] at n3
    exact ⟨A2, n3, p3⟩ : Foc S.K F H σ A v (slf y) (fun o' => ρ.set i (some o')) B C0).grow g
  have w1 := (g.wf w).perm fo.perm
  refine ⟨y, F1, B, w1.left, Owns.joinW r2 fo.own r1, hp, ?_⟩
  show RM.Post _ _ _ _ _ _ _ (rmW (dd1 y) (dd2 y) (res y))
  have s0 : Stp F H A F1 H1 (B ++ C0) := (g.stpA (A := A)).perm (fun _ => Iff.rfl) fun a h => fo.perm.mem_iff.mpr h
  have lenE : ∀ {F2 H2 A2 s}, Owns S.K F2 H2 (vs1 ++ v :: vs2) ((dd1 y).map O.fro ++ s :: (dd2 y).map O.fro) A2 → Own S.K F2 H2 v s A2 := fun {F2 H2 A2 s} ows => by
    obtain ⟨u1, u, u2, e, q1, q2, ow⟩ := ows.splitW
    obtain ⟨_, e2⟩ := List.append_inj e (by rw [r1.length, q1.length])
    injection e2 with e3 e4
    rw [e3]; exact ow
  rcases hr : res y with ⟨z | z, s⟩
  · rw [hr] at q
    intro F2 H2 A2 w2 s2 ows
    obtain ⟨w3, s3, k3⟩ := frame w1 s2 w2
    obtain ⟨A', n', p'⟩ := fo.back F2 H2 s A2 s2.fs k3 (lenE ows)
    exact q F2 H2 A' (w3.perm p'.symm) ((s0.trans s3).perm (fun _ => Iff.rfl) fun a h => p'.mem_iff.mp h) n'
  · rw [hr] at q
    intro u F2 H2 Bo A2 w2 s2 ow2 ows
    obtain ⟨w3, s3, k3⟩ := frame w1 s2 w2
    obtain ⟨A', n', p'⟩ := fo.back F2 H2 s A2 s2.fs k3 (lenE ows)
    have p2 : (Bo ++ A2 ++ C0).Perm (Bo ++ A') := by
      rw [List.append_assoc]
      exact List.Perm.append_left Bo p'.symm
    exact q u F2 H2 Bo A' (w3.perm p2) ((s0.trans s3).perm (fun _ => Iff.rfl) fun a h => p2.mem_iff.mpr h) ow2 n'
/-- f(.., x, ..), x owned -/
theorem xx_callW [Calm S] (hG : FnG S.P S.w S.K S.mg S.base k x ps (spW S.K dd1 slf dd2 pre res)) (y : τ) (hp : pre y) (i : Nat) (ha : XAW S ρ (e :: es) (dd1 y) i (dd2 y)) (hρ : ρ[i]? = some (some (slf y)) := by rfl) (hk : k ≤ S.kk := by exact Nat.le_of_ble_eq_true rfl) (hg : S.scope.names.lookup x = some .globalImplicit := by rfl) (hdb : (x == ("__debug__" : Str)) = false := by decide)
    (he : ∀ env : PySem.Env, starEach (e :: es) env = (false, eval e env) :: starEach es env := by intro _; rfl) (hpl : ∀ env : PySem.Env, (backTo pos (starEach es env)).any (·.1) = false := by intro _; rfl) : XX S ρ (.Call (.Name x p2) (e :: es) [] pos) (exM (fun s => ρ.set i (some s)) (res y)) := by
  obtain ⟨f, fd, F, hm, kp, b⟩ := hG.h
  obtain ⟨t, a1, a2⟩ := ha
  exact ⟨_, fun q ok => pe_callS (X := S.cx q) F ((ok.calm Calm.h).mono hk) (show S.scope.names.lookup x = some .globalImplicit from hg) hm kp b (fun σ => L2N.passAt ok.tk σ) (a1 q ok) hdb (he _) (hpl _), ex_callW y hρ a2 hp⟩
end
inductive FitsW (j : Nat) : RS → Except Str O × O → Prop
  | rt {o ρ s r} (h0 : ρ[j]? = some (some s)) (h : (.ok o, s) = r) : FitsW j (.rt o (some ρ)) r
  | nx {ρ s r} (h0 : ρ[j]? = some (some s)) (h : (.ok (.fro .non), s) = r) : FitsW j (.nx ρ) r
  | ex {x ρ s r} (h0 : ρ[j]? = some (some s)) (h : (.error x, s) = r) : FitsW j (.ex x (some ρ)) r
section
variable {P : Program} {w : World} {K : PySem.W.Frag} {mg : Str → Option Value} {base : Heap}
theorem self_outW {j : Nat} {F H : Hp} {σ σ0 : L2.St} {ρ : Env} {A : List Addr} {v : V} {s : O} (n : Envs K F H σ ρ A) (h0 : ρ[j]? = some (some s)) (e0 : σ0[j]? = some (some v)) (p : Pin [j] σ0 σ) : ∃ B A', Own K F H v s B ∧ A.Perm (B ++ A') := by
  obtain ⟨v', B, A', h1, h2, h3, h4⟩ := n.get h0
  have := p.at_ j (by simp)
  rw [h1, e0] at this
  cases this
  exact ⟨B, A', h2, h4⟩
theorem def_W {x qual : Str} {st : Stmt} {f : Addr} {fd : FuncData} {N ps : List Str} {k : Nat} {τ : Type} {dd1 dd2 : τ → List D} {slf : τ → O} {pre : τ → Prop} {res : τ → Except Str O × O} (j : Nat) (F : ∃ dvs kws, FunD K x qual (defArgs st) (defBody st) (defScope st) dvs kws f fd) (Sc : FnScope N ps (defScope st)) (hl : ∀ y, (dd1 y).length + ((dd2 y).length + 1) = ps.length) (hj : ∀ y, (dd1 y).length = j)
    (body : ∀ (y : τ) (E : XK), pre y → ∃ r, XB (sigOf P w K mg base N (defScope st) k E) [j] (((dd1 y).map (fun d => some (O.fro d)) ++ some (slf y) :: (dd2 y).map (fun d => some (O.fro d))) ++ List.replicate (N.length - ps.length) none) (defBody st) r ∧ FitsW j r (res y)) :
    FnOk P w K mg base (L2N.CX P w) (k + 1) f fd ps (spW K dd1 slf dd2 pre res) := by
  obtain ⟨dvs, kws, F⟩ := F
  refine F.ok Sc (fun vs H Q E h => ?_) (fun cdv A outer s H vs Q E hr h => ?_)
  · obtain ⟨y, F1, A1, _, ow, _⟩ := h
    rw [ow.length, List.length_append, List.length_cons, List.length_map, List.length_map, hl]
  · obtain ⟨y, F1, A1, w1, ow, hp, post⟩ := h
    obtain ⟨r, ⟨t, h1, h2⟩, fit⟩ := body y E hp
    obtain ⟨q, ok, e⟩ := sig_ok (P := P) (w := w) (K := K) (mg := mg) (base := base) (cd := cdv) (outer := outer) (H := H) (E := E) Sc hr
    refine ⟨t, by rw [← e]; exact h1 q ok, ?_⟩
    have n1 := start_of (N := N) ow
    rw [List.length_append, List.length_cons, List.length_map, List.length_map, hl, List.map_append, List.map_cons, List.map_map, List.map_map] at n1
    refine h2 _ F1 H A1 _ w1 n1 ?_
    have post' : RM.Post K vs F1 H A1 Q E (rmW (dd1 y) (dd2 y) (res y)) := post
    obtain ⟨vs1, v0, vs2, rfl, r1, r2, ow0⟩ := ow.splitW
    have z0 : (L2.start N (vs1 ++ v0 :: vs2))[j]? = some (some v0) := by
      unfold L2.start
      rw [← hj y, ← r1.length, List.getElem?_append_left (by simp), List.getElem?_map, List.getElem?_append_right (Nat.le_refl _), Nat.sub_self]
      rfl
    cases fit with
    | rt h0 z =>
      rw [← z] at post'
      intro v σ' F' H' B A' w' s' ow' n' p'
      obtain ⟨B1, A2, o1, p1⟩ := self_outW n' h0 z0 p'
      have p2 : (B ++ A').Perm ((B ++ B1) ++ A2) := by
        rw [List.append_assoc]
        exact List.Perm.append_left B p1
      exact post' v F' H' B B1 (w'.perm p2).left (s'.perm (fun a => Iff.rfl) fun a h => p2.mem_iff.mpr (List.mem_append_left _ h)) ow' (Owns.joinW (r2.mono s'.fs) o1 (r1.mono s'.fs))
    | nx h0 z =>
      rw [← z] at post'
      intro σ' F' H' A' w' s' n' p'
      obtain ⟨B1, A2, o1, p1⟩ := self_outW n' h0 z0 p'
      exact post' .non F' H' [] B1 (w'.perm p1).left (s'.perm (fun a => Iff.rfl) fun a h => p1.mem_iff.mpr (List.mem_append_left _ h)) (.fro .non) (Owns.joinW (r2.mono s'.fs) o1 (r1.mono s'.fs))
    | ex h0 z =>
      rw [← z] at post'
      intro σ' F' H' A' w' s' n' p'
      obtain ⟨B1, A2, o1, p1⟩ := self_outW n' h0 z0 p'
      exact post' F' H' B1 (w'.perm p1).left (s'.perm (fun a => Iff.rfl) fun a h => p1.mem_iff.mpr (List.mem_append_left _ h)) (Owns.joinW (r2.mono s'.fs) o1 (r1.mono s'.fs))
end
end G

namespace G
open PySem PySem.Spec PyProof.Rows L2
open PySem.W (Datum DatumOrd Tup T3)
open Enc (enc)
section
variable {S : Sig} {ρ ρ1 ρ2 : Env} {a b c e it tg : Expr} {d d1 d2 d3 : D} {ds : List D} {pos p2 : Pos} {pin : List Nat} {es : List Expr} {ss body : List Stmt} {r : RS}
/-! range, downward -/
def rngD (lo hi : Int) : List Int := (List.range (lo - hi).toNat).map fun i => lo - (i : Nat)
theorem rngD_len (lo hi : Int) : (rngD lo hi).length = (lo - hi).toNat := by unfold rngD; simp
theorem rngD_get {lo hi : Int} {i : Nat} {x : Int} (h : (rngD lo hi)[i]? = some x) : i < (lo - hi).toNat ∧ x = lo - (i : Nat) := by
  unfold rngD at h
  rw [List.getElem?_map] at h
  by_cases hi' : i < (lo - hi).toNat
  · rw [List.getElem?_range hi'] at h
    exact ⟨hi', by injection h with h; exact h.symm⟩
  · rw [List.getElem?_eq_none (by simp; omega)] at h
    cases h
theorem rng_get' {lo hi : Int} {i : Nat} {x : Int} (h : (rng lo hi)[i]? = some x) : i < (hi - lo).toNat ∧ x = lo + (i : Nat) := by
  have := (List.getElem?_eq_some_iff.mp h).1
  rw [rng_len] at this
  rw [rng_get this] at h
  exact ⟨this, by injection h with h; exact h.symm⟩
theorem src_rngD {K : PySem.W.Frag} {F : Hp} {lo hi : Int} : Src K (Itc lo (-1) (lo - hi).toNat) F ((rngD lo hi).map enc) := by
  refine ⟨_, _, by rw [List.length_map, rngD_len]; exact walk_rangeC, fun _ _ => trivial, fun i H2 x H3 F2 hh e e2 y => ?_⟩
  rw [List.length_map, rngD_len] at hh
  obtain ⟨rfl, rfl⟩ := y
  refine ⟨F2, .int (lo + (i : Nat) * (-1)), ?_, Grow.refl e2, .int⟩
  unfold rngD
  rw [List.getElem?_map, List.getElem?_map, List.getElem?_range hh]
  show some (D.int _) = some (D.int _)
  congr 2
  dsimp only
  omega
theorem xi_rngD {lo hi : Int} (hm : S.mg "range" = none) (h : TP S ρ a lo) (h' : TP S ρ b hi) (h'' : TP S ρ c (-1)) (hb : -(2 ^ 62) ≤ lo ∧ lo < 2 ^ 62 ∧ -(2 ^ 62) ≤ hi ∧ hi < 2 ^ 62) (hg : S.scope.names.lookup ("range" : Str) = some .globalImplicit := by rfl)
    (hs : ∀ env : PySem.Env, starEach [a, b, c] env = (false, eval a env) :: starEach [b, c] env := by intro _; rfl) (hs2 : ∀ env : PySem.Env, starEach [b, c] env = (false, eval b env) :: starEach [c] env := by intro _; rfl) (hs3 : ∀ env : PySem.Env, starEach [c] env = (false, eval c env) :: starEach [] env := by intro _; rfl)
    (hpl : ∀ env : PySem.Env, (backTo pos (starEach [b, c] env)).any (·.1) = false := by intro _; rfl) : XI S ρ tg (.Call (.Name "range" p2) [a, b, c] [] pos) ((rngD lo hi).map enc) := by
  obtain ⟨t, h1, h2⟩ := xa_cons h (xa_cons h' (xa_cons h'' xa_nil hs3) hs2) hs
  refine ⟨_, fun q ok => pi_range3 (X := S.cx q) (show S.scope.names.lookup ("range" : Str) = some .globalImplicit from hg) hm (h1 q ok) (hs _) (hpl _), fun σ F H A R w n k => h2 σ F H A _ w n fun vs F1 H1 g rr => ?_⟩
  cases rr with
  | cons r rr => cases rr with
    | cons r' rr => cases rr with
      | cons r'' rr =>
        cases rr
        cases r; cases r'; cases r''
        exact ⟨lo, hi, -1, _, rfl, RgC.neg hb.1 hb.2.1 hb.2.2.1 hb.2.2.2, k _ F1 H1 g src_rngD⟩
/-! a loop whose state is the turn's number -/
theorem xb_forC [Calm S] {α : Type} (xs : List α) (g : α → D) (R : Nat → Env) {tgt : TG} (ρb : Nat → α → Env) (hi : XI S (R 0) tg it (xs.map g)) (hg : ∀ q, S.Ok q → PG (S.cx q) tg tgt) (hG : ∀ s x, EG S pin tgt (R s) (g x) (ρb s x))
    (hb : ∀ i x, xs[i]? = some x → XB S pin (ρb i x) body (.nx (R (i + 1)))) (h : XB S pin (R xs.length) ss r) (hq : ρ = R 0 := by rfl)
    (hs : ∀ (env : PySem.Env) (x : Value), foldedSetIterable it env x = pure x := by intro _ _; rfl) : XB S pin ρ (.For tg it body [] pos :: ss) r := by
  subst hq
  have z := xs_forN (pin := pin) (body := body) (pos := pos) xs g R (fun i _ => i + 1) (fun i s => s = i) ρb 0 hi hg hG rfl (fun i s x hx e => by subst e; exact ⟨hb _ x hx, rfl⟩) hs
  have e : ∀ (xs : List α) (n : Nat), xs.foldl (fun i _ => i + 1) n = n + xs.length := by
    intro xs
    induction xs with
    | nil => intro n; rfl
    | cons x xs ih => intro n; rw [List.foldl_cons, ih, List.length_cons]; omega
  rw [e, Nat.zero_add] at z
  exact xb_cons z h
/-- e.f = v, of a field that is there -/
theorem xs_fldR {C : Addr} {ns : List Str} {os : List O} {f : Str} {value : Expr} {pos' : Pos} {o2 : O} {up : O → Env} (j : Nat) (c : Cls S.K C) (na : NoAttr S.K C f) (hv : XX S ρ value (.ok o2 ρ1)) (h : XL S ρ1 e (.ins C ns os) up) (hf : fidx f ns = some j := by decide) (hl : ns.length < 900 := by decide) (hj : Nat.blt j os.length = true := by rfl) (hq : up (.ins C ns (os.set j o2)) = ρ2 := by rfl)
    (hs : ∀ env : PySem.Env, swapsWith value (some (.Attribute e f pos')) pos.line env = pure false := by intro _; rfl) : XS S pin ρ (.Assign [.Attribute e f pos'] value pos) (.nx ρ2) := by
  subst hq
  exact xs_fldO j c na hv h hf hl (Nat.le_of_ble_eq_true hj) hs
theorem xm_r {q : RE} (h : XX S ρ e q) (hr : q = .ok (.fro d) ρ1 := by rfl) : XM S ρ e d ρ1 := by subst hr; exact h
theorem xs_retM {q : RE} {o : O} (h : XX S ρ e q) (hr : q = .ok o ρ1 := by rfl) : XS S pin ρ (.Return (some e) pos) (.rt o (some ρ1)) := by
  subst hr
  exact xs_ret h
end
section
variable {S : Sig} {ρ ρ1 ρ2 : Env} {a b : Expr} {pos : Pos} {T : Type} [DecidableEq T] [Datum T] [Enc T] {u v : T}
theorem xtm_neF (ha : XM S ρ a (enc u) ρ1) (hb : XM S ρ1 b (enc v) ρ2) (e : u = v) (hd : Datum.depth T ≤ 64 := by decide) : XTM S ρ (.Compare a [.NotEq] [b] pos) false ρ2 := (xtm_cmp (oc_ne hd) ha hb).cast (by rw [decide_eq_true e]; rfl)
theorem xtm_neT (ha : XM S ρ a (enc u) ρ1) (hb : XM S ρ1 b (enc v) ρ2) (e : u ≠ v) (hd : Datum.depth T ≤ 64 := by decide) : XTM S ρ (.Compare a [.NotEq] [b] pos) true ρ2 := (xtm_cmp (oc_ne hd) ha hb).cast (by rw [decide_eq_false e]; rfl)
theorem xtm_eqF (ha : XM S ρ a (enc u) ρ1) (hb : XM S ρ1 b (enc v) ρ2) (e : u ≠ v) (hd : Datum.depth T ≤ 64 := by decide) : XTM S ρ (.Compare a [.Eq] [b] pos) false ρ2 := (xtm_cmp (oc_eq hd) ha hb).cast (decide_eq_false e)
theorem xtm_eqT (ha : XM S ρ a (enc u) ρ1) (hb : XM S ρ1 b (enc v) ρ2) (e : u = v) (hd : Datum.depth T ≤ 64 := by decide) : XTM S ρ (.Compare a [.Eq] [b] pos) true ρ2 := (xtm_cmp (oc_eq hd) ha hb).cast (decide_eq_true e)
theorem xm_eqT (ha : XM S ρ a (enc u) ρ1) (hb : XM S ρ1 b (enc v) ρ2) (e : u = v) (hd : Datum.depth T ≤ 64 := by decide) : XM S ρ (.Compare a [.Eq] [b] pos) (.bl true) ρ2 := (xm_cmp (oc_eq hd) ha hb).cast (by rw [decide_eq_true e])
end
section
variable {S : Sig} {ρ ρ1 ρ2 : Env} {a b e : Expr} {pos p2 : Pos} {T : Type} [DecidableEq T] [Datum T] [Enc T]
theorem xx_appMT (i : Nat) {x : Str} {apos cpos : Pos} {xs0 xs : List T} {v : T} (he : XM S ρ e (enc v) ρ1) (h0 : ρ[i]? = some (ov xs0) := by rfl) (hl : ρ1[i]? = some (ov xs) := by rfl) (hn : xs.length < 1000000) (hN : S.N[i]? = some x := by rfl) (hv : Vis S.scope x := by first | exact Or.inl rfl | exact Or.inr (Or.inl rfl) | exact Or.inr (Or.inr rfl))
    (hd : (x == ("__debug__" : Str)) = false := by decide) (hcd : (x == ("__classdict__" : Str)) = false := by decide)
    (hbase : ∀ env : PySem.Env, attributeBase (.Name x p2) "append" env (eval (.Name x p2) env) = eval (.Name x p2) env := by intro _; rfl)
    (hfew : ∀ env : PySem.Env, ((backTo cpos (starEach [e] env)).all (fun x => !x.1) && (backToKw cpos (keywordEach [] env)).all (fun x => x.1.isSome) && decide ([e].length + ([] : List Keyword).length + (if ([] : List Keyword).isEmpty then 0 else 1) < 30)) = true := by intro _; rfl)
    (hline : (apos.endLine == cpos.line) = true := by rfl) (hs : ∀ env : PySem.Env, starEach [e] env = (false, eval e env) :: starEach [] env := by intro _; rfl) (hplain : ∀ env : PySem.Env, (backTo cpos (starEach [] env)).any (·.1) = false := by intro _; rfl) :
    XX S ρ (.Call (.Attribute (.Name x p2) "append" apos) [e] [] cpos) (.ok (.fro .non) (ρ1.set i (ov (xs ++ [v])))) := by
  have z := xx_appM (apos := apos) (cpos := cpos) (p2 := p2) i he h0 hl (by simpa using hn) hN hv hd hcd hbase hfew hline hs hplain
  rw [show ov (xs ++ [v]) = some (.lst ((xs.map enc).map O.fro ++ [.fro (enc v)])) by show some (O.lst (((xs ++ [v]).map enc).map O.fro)) = _; rw [List.map_append, List.map_append]; rfl]
  exact z
end
section
variable {S : Sig} {ρ ρ1 ρ2 : Env} {pos : Pos} {es : List Expr} {ds : List D}
theorem xx_lstM (h : XAM S ρ es ds ρ1) (hl : ds.length ≤ 1000000 := by simp) : XX S ρ (.List es pos) (.ok (.lst (ds.map O.fro)) ρ1) := by
  obtain ⟨t, h1, h2⟩ := h
  refine ⟨_, fun q o => pe_lst (h1 q o), fun σ F H A Q w n q => h2 σ F H A _ w n fun vs F1 H1 A1 w1 s1 r n1 => ⟨?_, fun p hp => ?_⟩⟩
  · rw [r.length]; exact Nat.le_trans hl (by decide)
  · obtain ⟨w3, s3, n3⟩ := grow_own (o := .lst vs) w1 n1 (Grow.refl w1.sub) hp
    exact q _ _ _ [p] A1 w3 (s1.trans s3) (.lst upd_same (Owns.fros r)) n3
end
theorem cut_init {α : Type} (xs : List α) (x : α) : cutL (xs ++ [x]) none (some (-1)) = xs := by
  have h1 : HT.sIx (xs ++ [x]).length 0 none = 0 := rfl
  have h2 : HT.sIx (xs ++ [x]).length (xs ++ [x]).length (some (-1)) = xs.length := by
    rw [List.length_append, List.length_singleton]
    show (if (-1 : Int) < 0 then ((-1 : Int) + ((xs.length + 1 : Nat) : Int)).toNat else min (-1 : Int).toNat (xs.length + 1)) = xs.length
    rw [if_pos (by decide)]
    omega
  unfold cutL
  rw [h1, h2]
  simp
theorem at_last {α : Type} (xs : List α) (x : α) : atI (xs ++ [x]) (-1) = some x := by
  unfold atI
  rw [List.length_append, List.length_singleton]
  have : ixN (xs.length + 1) (-1) = some xs.length := by
    unfold ixN
    rw [if_neg (by decide), if_pos (by omega)]
    congr 1
    omega
  rw [this]
  simp
end G

namespace G
open PySem PySem.Spec PyProof.Rows L2
open PySem.W (Datum DatumOrd Tup T3)
open Enc (enc)
section
variable {S : Sig} {ρ ρ1 ρ2 : Env} {a b c e : Expr} {d d1 d2 d3 : D} {ds : List D} {pos p2 : Pos} {pin : List Nat} {es : List Expr} {ss : List Stmt} {r : RS} {x : Str} {ps : List Str} {k : Nat}
/-! subscripts, built-in calls, calls, of what changes what is owned -/
theorem xm_ix (ho : OI S d1 d2 d) (ha : XM S ρ a d1 ρ1) (hb : XM S ρ1 b d2 ρ2) (hs : PlainIx b := by intro _ _; rfl) : XM S ρ (.Subscript a b pos) d ρ2 := by
  obtain ⟨r, h1, h2⟩ := ho.h
  obtain ⟨ta, a1, a2⟩ := ha
  obtain ⟨tb, b1, b2⟩ := hb
  refine ⟨_, fun q k => pe_ix (h1 q k) (a1 q k) (b1 q k) hs, ?_⟩
  exact exm_of fun σ F H A Q w n q => exm a2 σ F H A _ w n fun x F1 H1 A1 w1 s1 r1 n1 => exm b2 σ F1 H1 A1 _ w1 n1 fun y F2 H2 A2 w2 s2 r2 n2 =>
    h2 x y F2 H2 Q w2.sub (r1.mono s2.fs) r2 fun v F3 H3 g r3 => q v F3 H3 A2 (g.wf w2) ((s1.trans s2).trans g.stpA) r3 (g.envs n2)
theorem xm_cb {id : String} {p : Pos} (hc : CB S id ds d) (hm : S.mg x = none) (ha : XAM S ρ (e :: es) ds ρ1) (hg : S.scope.names.lookup x = some .globalImplicit := by rfl) (hv : bootBuiltins x = some (.builtin id) := by decide +kernel) (hn : x ≠ "__name__" := by decide) (hdb : (x == ("__debug__" : Str)) = false := by decide)
    (he : ∀ env : PySem.Env, starEach (e :: es) env = (false, eval e env) :: starEach es env := by intro _; rfl) (hpl : ∀ env : PySem.Env, (backTo pos (starEach es env)).any (·.1) = false := by intro _; rfl) : XM S ρ (.Call (.Name x p) (e :: es) [] pos) d ρ1 := by
  obtain ⟨r, h1, h2⟩ := hc.h
  obtain ⟨t, a1, a2⟩ := ha
  refine ⟨_, fun q o => pe_callB (X := S.cx q) (h1 q o) (show S.scope.names.lookup x = some .globalImplicit from hg) hm hv (a1 q o) hn hdb (he _) (hpl _), ?_⟩
  exact exm_of fun σ F H A Q w n q => a2 σ F H A _ w n fun vs F1 H1 A1 w1 s1 r1 n1 => h2 vs F1 H1 Q w1.sub (r1.mono w1.sub) fun v F2 H2 g r2 => q v F2 H2 A1 (g.wf w1) (s1.trans g.stpA) r2 (g.envs n1)
variable {τ : Type} {dd : τ → List D} {pre : τ → Prop} {rese : τ → Except Str O}
theorem ex_callM (y : τ) {t : TA} (ha : EAM S t ρ (dd y) ρ1) (hp : pre y) : EX S (tCallS (spP S.K dd pre rese) (WE S.wx) t) ρ (exX ρ1 (rese y)) := fun σ F H A Q w0 n0 q => ha σ F H A _ w0 n0 fun vs F1 H1 A1 w s1 r n => by
  refine ⟨y, F1, [], WF.none w.sub, Owns.fros r, hp, ?_⟩
  show RM.Post _ _ _ _ _ _ _ (rmF (dd y) (rese y))
  cases e : rese y with
  | ok o =>
    rw [e] at q
    intro v F2 H2 B A' w2 s2 ow ows
    obtain ⟨_, rfl⟩ := Owns.fros_inv ows
    rw [List.append_nil] at w2 s2
    obtain ⟨w3, s3, n3⟩ := beside w n s2 w2
    exact q v F2 H2 B A1 w3 (s1.trans s3) ow n3
  | error x =>
    rw [e] at q
    intro F2 H2 A' w2 s2 ows
    obtain ⟨_, rfl⟩ := Owns.fros_inv ows
    have g : Grow F1 H1 F2 H2 := ⟨s2, w2.sub⟩
    exact q F2 H2 A1 (g.wf w) (s1.trans g.stpA) (g.envs n)
theorem xx_callM [Calm S] (hG : FnG S.P S.w S.K S.mg S.base k x ps (spP S.K dd pre rese)) (y : τ) (hp : pre y) (ha : XAM S ρ (e :: es) (dd y) ρ1) (hk : k ≤ S.kk := by exact Nat.le_of_ble_eq_true rfl) (hg : S.scope.names.lookup x = some .globalImplicit := by rfl) (hdb : (x == ("__debug__" : Str)) = false := by decide)
    (he : ∀ env : PySem.Env, starEach (e :: es) env = (false, eval e env) :: starEach es env := by intro _; rfl) (hpl : ∀ env : PySem.Env, (backTo pos (starEach es env)).any (·.1) = false := by intro _; rfl) : XX S ρ (.Call (.Name x p2) (e :: es) [] pos) (exX ρ1 (rese y)) := by
  obtain ⟨f, fd, F, hm, kp, b⟩ := hG.h
  obtain ⟨t, a1, a2⟩ := ha
  exact ⟨_, fun q ok => pe_callS (X := S.cx q) F ((ok.calm Calm.h).mono hk) (show S.scope.names.lookup x = some .globalImplicit from hg) hm kp b (fun σ => L2N.passAt ok.tk σ) (a1 q ok) hdb (he _) (hpl _), ex_callM y a2 hp⟩
theorem xs_ifMT {A B : List Stmt} (hc : XTM S ρ c true ρ1) (hA : XB S pin ρ1 A r) : XS S pin ρ (.If c A B pos) r := by
  obtain ⟨t, h1, h2⟩ := hc
  obtain ⟨u, h3, h4⟩ := hA
  refine ⟨tIfS t u tNever, fun q ok => ps_if (h1 q ok) (h3 q ok) pss_never, fun σ F H A D w n q => h2 σ F H A _ w n fun F1 H1 A1 w1 s1 n1 => ?_⟩
  show u D σ H1
  exact h4 σ F1 H1 A1 D w1 n1 (EPost.trans q s1 Pin.refl)
theorem xs_ifMF {A B : List Stmt} (hc : XTM S ρ c false ρ1) (hB : XB S pin ρ1 B r) : XS S pin ρ (.If c A B pos) r := by
  obtain ⟨t, h1, h2⟩ := hc
  obtain ⟨u, h3, h4⟩ := hB
  refine ⟨tIfS t tNever u, fun q ok => ps_if (h1 q ok) pss_never (h3 q ok), fun σ F H A D w n q => h2 σ F H A _ w n fun F1 H1 A1 w1 s1 n1 => ?_⟩
  show u D σ H1
  exact h4 σ F1 H1 A1 D w1 n1 (EPost.trans q s1 Pin.refl)
theorem xb_forI [Calm S] {tg it : Expr} {body : List Stmt} {α σ : Type} (xs : List α) (g : α → D) (R : σ → Env) (f : σ → α → σ) (I : Nat → σ → Prop) {tgt : TG} (ρb : σ → α → Env) (s0 : σ)
    (hi : XI S (R s0) tg it (xs.map g)) (hg : ∀ q, S.Ok q → PG (S.cx q) tg tgt) (hG : ∀ s x, EG S pin tgt (R s) (g x) (ρb s x)) (h0 : I 0 s0)
    (hb : ∀ i s x, xs[i]? = some x → I i s → XB S pin (ρb s x) body (.nx (R (f s x))) ∧ I (i + 1) (f s x))
    (hk : ∀ w, I xs.length w → XB S pin (R w) ss r) (hq : ρ = R s0 := by rfl)
    (hs : ∀ (env : PySem.Env) (x : Value), foldedSetIterable it env x = pure x := by intro _ _; rfl) : XB S pin ρ (.For tg it body [] pos :: ss) r := by
  subst hq
  refine xb_cons (xs_forN xs g R f I ρb s0 hi hg hG h0 hb hs) (hk _ ?_)
  have := inv_foldl f I xs 0 s0 h0 (fun i s x hx h => by rw [Nat.zero_add] at h ⊢; exact (hb i s x hx h).2)
  rw [Nat.zero_add] at this
  exact this
/-! list(e), owned -/
theorem xn_lstO {T : Type} [DecidableEq T] [Datum T] [Enc T] {xs : List T} (hm : S.mg "list" = none) (h : TP S ρ a xs) (hg : S.scope.names.lookup ("list" : Str) = some .globalImplicit := by rfl) (he : ∀ env : PySem.Env, starEach [a] env = (false, eval a env) :: starEach [] env := by intro _; rfl)
    (hpl : ∀ env : PySem.Env, (backTo pos (starEach [] env)).any (·.1) = false := by intro _; rfl) : XX S ρ (.Call (.Name "list" p2) [a] [] pos) (.ok (oL xs) ρ) := by
  obtain ⟨t, a1, a2⟩ := xa_cons h xa_nil he
  refine ⟨_, fun q o => pe_callTy (X := S.cx q) (r := rListQ S.K) call_list_of (show S.scope.names.lookup ("list" : Str) = some .globalImplicit from hg) hm (by decide +kernel) (a1 q o) (by decide) (by decide) (he _) (hpl _), fun σ F H A Q w n q => a2 σ F H A _ w n fun vs F1 H1 g rr => ?_⟩
  obtain ⟨v, rfl, r⟩ := reps1 rr
  cases r with
  | lst h r =>
    refine ⟨_, _, rfl, .inl (.of (g.ext _ _ h)), fun l hl => ?_⟩
    obtain ⟨w3, s3, n3⟩ := grow_own (o := .lst _) w n g hl
    exact q _ _ _ [l] A w3 s3 (.lst upd_same (Owns.fros r)) n3
theorem tp_lstP {T : Type} [DecidableEq T] [Datum T] [Enc T] {p : T × T} (hm : S.mg "list" = none) (h : TP S ρ a p) (hg : S.scope.names.lookup ("list" : Str) = some .globalImplicit := by rfl) (he : ∀ env : PySem.Env, starEach [a] env = (false, eval a env) :: starEach [] env := by intro _; rfl) : TP S ρ (.Call (.Name "list" p2) [a] [] pos) [p.1, p.2] :=
  xp_ct (p := p2) (pos := pos) (ct_list_tup (S := S) (ds := [enc p.1, enc p.2])) hm (xa_cons h xa_nil he) hg (by decide +kernel) (by decide) (by decide) he (by intro _; rfl)
theorem xm_len {T : Type} [DecidableEq T] [Datum T] [Enc T] {xs : List T} (hm : S.mg "len" = none) (h : XM S ρ a (enc xs) ρ1) (hg : S.scope.names.lookup ("len" : Str) = some .globalImplicit := by rfl) (he : ∀ env : PySem.Env, starEach [a] env = (false, eval a env) :: starEach [] env := by intro _; rfl) : XM S ρ (.Call (.Name "len" p2) [a] [] pos) (enc ((xs.length : Nat) : Int)) ρ1 := by
  have := xm_cb (p := p2) (pos := pos) (cb_len_lst (S := S) (ds := xs.map enc)) hm (xam_cons h xam_nil he) hg (by decide +kernel) (by decide) (by decide) he (by intro _; rfl)
  rw [List.length_map] at this
  exact this
theorem xtm_isnnF {j} {pos2 : Pos} (ha : XM S ρ a .non ρ1) : XTM S ρ (.Compare a [.IsNot] [.Constant .none j p2] pos2) false ρ1 := (xtm_cmp (oc_isnN true (by intro v F h; cases h; rfl)) ha (XP.x xp_non)).cast rfl
end
section
variable {S : Sig} {ρ ρ1 ρ2 : Env} {a b : Expr} {pos p2 : Pos}
theorem xm_ix3c {T T' T'' : Type} [DecidableEq T] [Datum T] [Enc T] [DecidableEq T'] [Datum T'] [Enc T'] [DecidableEq T''] [Datum T''] [Enc T''] {p : T3 T T' T''} (ha : XM S ρ a (enc p) ρ1) {j} {pos'} : XM S ρ (.Subscript a (.Constant (.int 2) j pos') pos) (enc p.c) ρ1 := xm_ix (oi_tup (i := 2) rfl) ha (XP.x xp_int)
end
section
variable {S : Sig} {ρ ρ1 ρ2 : Env} {a b : Expr} {pos : Pos} {T : Type} [DecidableEq T] [Datum T] [Enc T] {u : T} {xs : Tup T} {ys : List T}
theorem xtm_inTT (ha : XM S ρ a (enc u) ρ1) (hb : XM S ρ1 b (enc xs) ρ2) (h : u ∈ xs.items) (hd : Datum.depth T ≤ 63 := by decide) (hm : behindInMarks .In b = false := by rfl) : XTM S ρ (.Compare a [.In] [b] pos) true ρ2 := (xtm_cmp (oc_inT hd) ha hb hm).cast (decide_eq_true h)
theorem xtm_inTF (ha : XM S ρ a (enc u) ρ1) (hb : XM S ρ1 b (enc xs) ρ2) (h : u ∉ xs.items) (hd : Datum.depth T ≤ 63 := by decide) (hm : behindInMarks .In b = false := by rfl) : XTM S ρ (.Compare a [.In] [b] pos) false ρ2 := (xtm_cmp (oc_inT hd) ha hb hm).cast (decide_eq_false h)
end
end G

namespace G
open PySem PySem.Spec PyProof.Rows L2
open PySem.W (Datum DatumOrd Tup T3 EachIs)
open Enc (enc)
/-! ### things of many kinds: compared -/
mutual
def toPy : D → PyData
  | .bl b => .bool b
  | .int i => .int i
  | .str x => .str x
  | .lst ds => .list (toPys ds)
  | .tup ds => .tuple (toPys ds)
  | _ => .none
def toPys : List D → List PyData
  | [] => []
  | d :: ds => toPy d :: toPys ds
end
/-- a thing, so deep at most -/
def Tg : Nat → D → Prop
  | _, .non => True
  | _, .bl _ => True
  | _, .int _ => True
  | _, .str x => PyData.strOk x = true
  | n + 1, .lst ds => ds.length ≤ 1000 ∧ ∀ d ∈ ds, Tg n d
  | n + 1, .tup ds => ds.length ≤ 1000 ∧ ∀ d ∈ ds, Tg n d
  | _, _ => False
theorem Tg.up : ∀ {n : Nat} {d : D}, Tg n d → Tg (n + 1) d
  | _, .non, _ => trivial
  | _, .bl _, _ => trivial
  | _, .int _, _ => trivial
  | 0, .str _, h => h
  | n + 1, .str _, h => h
  | n + 1, .lst ds, h => ⟨h.1, fun d hd => Tg.up (h.2 d hd)⟩
  | n + 1, .tup ds, h => ⟨h.1, fun d hd => Tg.up (h.2 d hd)⟩
  | n, .scr _, t => by cases n <;> exact t.elim
  | n, .tk _, t => by cases n <;> exact t.elim
  | n, .dt _ _, t => by cases n <;> exact t.elim
  | n, .dk _ _, t => by cases n <;> exact t.elim
  | n, .ins _ _ _, t => by cases n <;> exact t.elim
  | n, .obj _, t => by cases n <;> exact t.elim
  | n, .ty _, t => by cases n <;> exact t.elim
theorem Tg.mono {m n : Nat} (h : m ≤ n) {d : D} (t : Tg m d) : Tg n d := by
  induction h with
  | refl => exact t
  | step _ ih => exact ih.up
section
variable {K : PySem.W.Frag} {F : Hp}
mutual
theorem dp_d : ∀ (n : Nat) (d : D) (v : V), Tg n d → Rep K F v d → Dp K F v (toPy d)
  | _, .non, _, _, r => by cases r; exact .non
  | _, .bl _, _, _, r => by cases r; exact .bl _
  | _, .int _, _, _, r => by cases r; exact .int _
  | _, .str _, _, _, r => by cases r; exact .str _
  | n + 1, .lst ds, _, t, r => by
    cases r with
    | lst h r => exact .lst (.of h) (dp_ds n ds _ t.2 r)
  | n + 1, .tup ds, _, t, r => by
    cases r with
    | tup h r => exact .tup (.of h) (dp_ds n ds _ t.2 r)
  | 0, .lst _, _, t, _ => t.elim
  | 0, .tup _, _, t, _ => t.elim
  | n, .scr _, _, t, _ => by cases n <;> exact t.elim
  | n, .tk _, _, t, _ => by cases n <;> exact t.elim
  | n, .dt _ _, _, t, _ => by cases n <;> exact t.elim
  | n, .dk _ _, _, t, _ => by cases n <;> exact t.elim
  | n, .ins _ _ _, _, t, _ => by cases n <;> exact t.elim
  | n, .obj _, _, t, _ => by cases n <;> exact t.elim
  | n, .ty _, _, t, _ => by cases n <;> exact t.elim
theorem dp_ds : ∀ (n : Nat) (ds : List D) (vs : List V), (∀ d ∈ ds, Tg n d) → Reps K F vs ds → DpAll K F vs (toPys ds)
  | _, [], _, _, r => by cases r; exact .nil
  | n, d :: ds, _, t, r => by
    cases r with
    | cons h r => exact .cons (dp_d n d _ (t d List.mem_cons_self) h) (dp_ds n ds _ (fun e he => t e (List.mem_cons_of_mem _ he)) r)
end
mutual
theorem lay_d : ∀ (n : Nat) (d : D), Tg n d → (toPy d).canLay0 = true ∧ (toPy d).depth ≤ n
  | _, .non, _ => ⟨rfl, Nat.zero_le _⟩
  | _, .bl _, _ => ⟨rfl, Nat.zero_le _⟩
  | _, .int _, _ => ⟨rfl, Nat.zero_le _⟩
  | 0, .str _, h => ⟨h, Nat.zero_le _⟩
  | n + 1, .str _, h => ⟨h, Nat.zero_le _⟩
  | n + 1, .lst ds, t => by
    obtain ⟨a, b⟩ := lay_ds n ds t.2
    exact ⟨a, Nat.succ_le_succ b⟩
  | n + 1, .tup ds, t => by
    obtain ⟨a, b⟩ := lay_ds n ds t.2
    exact ⟨a, Nat.succ_le_succ b⟩
  | 0, .lst _, t => t.elim
  | 0, .tup _, t => t.elim
  | n, .scr _, t => by cases n <;> exact t.elim
  | n, .tk _, t => by cases n <;> exact t.elim
  | n, .dt _ _, t => by cases n <;> exact t.elim
  | n, .dk _ _, t => by cases n <;> exact t.elim
  | n, .ins _ _ _, t => by cases n <;> exact t.elim
  | n, .obj _, t => by cases n <;> exact t.elim
  | n, .ty _, t => by cases n <;> exact t.elim
theorem lay_ds : ∀ (n : Nat) (ds : List D), (∀ d ∈ ds, Tg n d) → PyData.canLayAll0 (toPys ds) = true ∧ PyData.depthAll (toPys ds) ≤ n
  | _, [], _ => ⟨rfl, Nat.zero_le _⟩
  | n, d :: ds, t => by
    obtain ⟨a, b⟩ := lay_d n d (t d List.mem_cons_self)
    obtain ⟨e, f⟩ := lay_ds n ds (fun e he => t e (List.mem_cons_of_mem _ he))
    refine ⟨?_, ?_⟩
    · show ((toPy d).canLay0 && PyData.canLayAll0 (toPys ds)) = true
      rw [a, e]; rfl
    · show max (toPy d).depth (PyData.depthAll (toPys ds)) ≤ n
      omega
end
theorem shaped_d {d : D} (t : Tg 60 d) : SeqAt.shaped (toPy d) = true := by
  obtain ⟨a, b⟩ := lay_d 60 d t
  unfold SeqAt.shaped
  rw [a, decide_eq_true (by omega : (toPy d).depth ≤ 64)]
  rfl
end
theorem oc_neD {S : Sig} {d e : D} (hd : Tg 60 d) (he : Tg 60 e) : OC S .NotEq d e (!PyData.eqv (toPy d) (toPy e)) :=
  ⟨rNeD S.K, fun q o => op_neD (X := S.cx q) (by have := o.units; show q.A.units + 64 < cLine; omega), fun x y F H Q ex rx ry q => ⟨_, _, dp_d 60 d x hd rx, dp_d 60 e y he ry, shaped_d hd, shaped_d he, q _ F H (Grow.refl ex) .bl⟩⟩
/-- xs != [] -/
theorem xt_neNil {S : Sig} {ρ : Env} {a : Expr} {pos p2 : Pos} {ds : List D} (h : XV S ρ a (.lst ds)) (hl : ds.length ≤ 1000) (t : ∀ d ∈ ds, Tg 50 d) : XT S ρ (.Compare a [.NotEq] [.List [] p2] pos) (!ds.isEmpty) := by
  have z := xt_cmp (pos := pos) (oc_neD (S := S) (d := .lst ds) (e := .lst []) (Tg.mono (m := 51) (by omega) ⟨hl, t⟩) (Tg.mono (m := 1) (by omega) ⟨Nat.zero_le _, fun d hd => nomatch hd⟩)) h (XP.v (xp_lst (pos := p2) xa_nil))
  refine z.cast ?_
  cases ds with
  | nil => rfl
  | cons d ds => rfl
/-! ### tuples: t * 2, t[::-1], enumerate(t) -/
section
variable {S : Sig} {ρ : Env} {a b c e : Expr} {pos p2 p3 pos2 : Pos}
theorem ob_repT {ds : List D} {k : Int} (h0 : ds ≠ []) (h1 : 2 ≤ k) (h2 : k ≤ 1000) (hl : ds.length ≤ 1000) : OBF S .Mult (.tup ds) (.int k) (.tup (List.replicate k.toNat ds).flatten) := ⟨rRepT S.K, fun _ _ => op_repT, fun x y F H Q e rx ry q => by
  cases rx with
  | tup hx r =>
    cases ry
    refine ⟨_, k, _, rfl, rfl, .of (e _ _ hx), fun z => ?_, h1, h2, by rw [r.length]; exact hl, fun p hp => q _ _ _ (Grow.new e hp) (.tup upd_same (reps_new e hp (r.flat_rep k.toNat)))⟩
    subst z
    cases r
    exact h0 rfl⟩
end
def tRevT (K : PySem.W.Frag) (te : TE) : TE := fun σ H Q => te σ H fun x H1 => ∃ a xs, x = .ref a ∧ SqT K H1 a xs ∧ ∀ p, H1 p = none → Q (.ref p) (upd H1 p (.tup xs.reverse))
theorem slice_back {prog : Program} {w : World} {A : Around} {E : Value → Shared → Prop} {s : Shared} {sl : Addr} {vs : Value} {n : Nat} {Q : Int × Int × Nat → Shared → Prop} (hs : ∃ o, s.heap.get? sl = some o ∧ o.data = .fields #[.none, .none, vs]) (ps : IsPart vs (some (-1)))
    (h : Q ((n : Int) - 1, -1, n) s) : wpAny (model prog w) A (Builtin.Slice.sliceApplied (.ref sl) (pure (n : Int))) Q E s := by
  obtain ⟨os, hos, hds⟩ := hs
  unfold Builtin.Slice.sliceApplied Builtin.Slice.sliceFields
  refine wpAny_bind (wpAny_bind (wpAny_field hos hds (x := .none) rfl (wpAny_bind (wpAny_field hos hds (x := .none) rfl (wpAny_bind (wpAny_field hos hds (x := vs) rfl (wpAny_pure ?_)))))))
  refine wpAny_bind (HT.slicePart_ ps ?_)
  show wpAny _ _ (if ((-1 : Int) == 0) = true then _ else _) _ _ s
  rw [if_neg (by decide)]
  refine wpAny_bind (HT.slicePart_ .none (wpAny_bind (HT.slicePart_ .none (wpAny_bind (wpAny_pure ?_)))))
  show wpAny _ _ (match Builtin.Slice.sliceAdjust none none (-1) (n : Int) with | (lo, hi) => pure (lo, (-1 : Int), Builtin.Slice.slicePlaces lo hi (-1))) _ _ s
  have e1 : Builtin.Slice.sliceAdjust none none (-1) (n : Int) = ((n : Int) - 1, -1) := rfl
  rw [e1]
  have e2 : Builtin.Slice.slicePlaces ((n : Int) - 1) (-1) (-1) = n := by
    unfold Builtin.Slice.slicePlaces
    have h1 : ¬ ((-1 : Int) > 0) := by decide
    simp only [h1, if_false]
    split
    · rw [show (-(-1) : Int) = 1 by decide, Int.ediv_one]
      omega
    · omega
  show wpAny _ _ (pure ((n : Int) - 1, (-1 : Int), Builtin.Slice.slicePlaces ((n : Int) - 1) (-1) (-1))) _ _ s
  rw [e2]
  exact wpAny_pure h
theorem fm_ext {α β : Type} {f g : α → Option β} : ∀ {l : List α}, (∀ x ∈ l, f x = g x) → l.filterMap f = l.filterMap g
  | [], _ => rfl
  | x :: l, h => by rw [List.filterMap_cons, List.filterMap_cons, h x List.mem_cons_self, fm_ext fun y hy => h y (List.mem_cons_of_mem _ hy)]
theorem pick_back (xs : Array Value) : (List.range xs.size).filterMap (fun (k : Nat) => xs[(((xs.size : Nat) : Int) - 1 + (k : Int) * (-1)).toNat]?) = xs.toList.reverse := by
  have e : (List.range xs.size).filterMap (fun (k : Nat) => xs[(((xs.size : Nat) : Int) - 1 + (k : Int) * (-1)).toNat]?) = (((List.range xs.size).map fun k => xs.size - 1 - k)).filterMap (xs[·]?) := by
    rw [List.filterMap_map]
    refine fm_ext fun k hk => ?_
    have := List.mem_range.mp hk
    show _ = xs[xs.size - 1 - k]?
    congr 1
    omega
  rw [e, PySem.W.krv_range, List.filterMap_reverse, PySem.W.krv_all]
theorem item_back {prog : Program} {w : World} {A : Around} {E : Value → Shared → Prop} {s : Shared} {t sl : Addr} {items : Array Value} {vs : Value} {Q : Value → Shared → Prop} (ht : IsTup s.heap t items) (hs : s.heap.IsSliceOf sl .none .none vs) (ps : IsPart vs (some (-1))) (hsz : items.size ≤ sizeLine)
    (h : Q (.ref s.heap.objs.size) { s with heap := s.heap.push { cls := .type "tuple", data := .seq items.toList.reverse.toArray } }) : wpAny (model prog w) A (getItem (.ref t) (.ref sl)) Q E s := by
  have hz : sizeOk (.seq items.toList.reverse.toArray) := by
    show items.toList.reverse.toArray.size ≤ sizeLine
    rw [List.size_toArray, List.length_reverse, Array.length_toList]
    exact hsz
  obtain ⟨os, hos, hcs, hds⟩ := id hs
  have kind : s.TypeIs (.ref sl) "slice" := ⟨os, hos, hcs⟩
  unfold getItem
  try with_reducible refine wpAny_holding ?_
  first | refine wpAny_bind (wpAny_pure ?_) | skip
  refine wpAny_bind (wpAny_sequenceKey ht.typeIs (by decide) ?_)
  refine wpAny_bind (wpAny_callSpecial?_slot (name := Str.ofString "__getitem__") ht.typeIs PyProof.Rows.slot_tuple_getitem (wpAny_call_entry PyProof.Rows.slot_tuple_getitem ht.typeIs entry_tuple_getitem ?_ (args_tuple_getitem _ _)))
  show wpAny _ _ (Builtin.Tuple.tupleItemsOf (.ref t) >>= _) _ _ s
  refine wpAny_bind (PyProof.Rows.tupleItemsOf_ ht ?_)
  refine wpAny_bind (wpAny_typeOf kind ?_)
  rw [if_pos (by decide)]
  refine wpAny_bind (slice_back ⟨os, hos, hds⟩ ps ?_)
  show wpAny _ _ (if ((((items.size : Nat) : Int) - 1 == 0) && (-1 : Int) == 1 && items.size == items.size) = true then _ else _) _ _ s
  rw [if_neg (by rw [show ((-1 : Int) == 1) = false by decide, Bool.and_false, Bool.false_and]; exact Bool.false_ne_true), pick_back]
  first
    | exact wpAny_bind (m := Builtin.Tuple.tupleExact _) (wpAny_newObj_type (wpAny_pure ⟨_, rfl, wpAny_pure h⟩) hz)
    | exact wpAny_bind (m := Builtin.Tuple.tupleExact _) (wpAny_newObj_type (wpAny_bind (wpAny_pure (wpAny_pure ⟨_, rfl, wpAny_pure h⟩))) hz)
    | exact wpAny_bind (wpAny_bind (m := Builtin.Tuple.tupleExact _) (wpAny_newObj_type (wpAny_pure (wpAny_pure ⟨_, rfl, wpAny_pure h⟩)) hz))
    | exact wpAny_bind (wpAny_bind (m := Builtin.Tuple.tupleExact _) (wpAny_newObj_type (wpAny_pure ⟨_, rfl, wpAny_pure h⟩) hz))
theorem pe_revT {X : Cx} {e : Expr} {te : TE} {k : Nat} {p1 p2 p3 pos : Pos} (he : PE X e te) : PE X (.Subscript e (.Slice none none (some (.UnaryOp .USub (.Constant (.int 1) k p1) p2)) p3) pos) (tRevT X.K te) := by
  refine ⟨fun pins s σ H Q I h => ?_⟩
  refine Subscript_ (thn (he.run pins s σ H _ I h) fun v s1 ⟨x, H1, I1, r1, a, xs, ex, hx, q⟩ => ?_)
  subst ex
  cases r1
  have back : PO X (some (.UnaryOp .USub (.Constant (.int 1) k p1) p2)) (tPart (tUn (rU fun i => .int (-i)) (tC (.int 1)))) := po_some (pe_un un_neg pe_int)
  refine wpAny_Slice (thn (po_none.run pins s1 σ H1 (fun o H2 => o = none ∧ H2 = H1) I1 ⟨rfl, rfl⟩) fun vl s2 ⟨l, H2, I2, pl, el, e2⟩ => ?_)
  subst el e2
  refine thn (po_none.run pins s2 σ H2 (fun o H3 => o = none ∧ H3 = H2) I2 ⟨rfl, rfl⟩) fun vu s3 ⟨u, H3, I3, pu, eu, e3⟩ => ?_
  subst eu e3
  refine thn (back.run pins s3 σ H3 (fun o H4 => o = some (-1) ∧ H4 = H3) I3 ⟨1, rfl, -1, rfl, rfl, rfl⟩) fun vs s4 ⟨o, H4, I4, ps, eo, e4⟩ => ?_
  subst eo e4
  cases pl
  cases pu
  have I5 : Inv X pins σ H4 { s4 with heap := s4.heap.push { cls := .type "slice", data := .fields #[.none, .none, vs] } } := I4.kept (t' := s4.toks) fun b ob q => Heap.get?_push_of_some _ q
  obtain ⟨its, r, ht, hz⟩ := I5.tuple hx
  have hlen := r.length
  show wpAny (model X.prog X.w) X.A (subscriptTail e (.Slice none none (some (.UnaryOp .USub (.Constant (.int 1) k p1) p2)) p3) (.ref a) (.ref s4.heap.objs.size)) (L2.EP X pins σ Q) X.xe { s4 with heap := s4.heap.push { cls := .type "slice", data := .fields #[.none, .none, vs] } }
  refine tail_any (ops := [.ref a, .ref s4.heap.objs.size]) ht.typeIs PyProof.Rows.slot_tuple_getitem.lookup ?_ (by with_unfolding_all rfl)
  refine item_back ht (Heap.IsSliceOf.new _ .none .none vs) ps (by rw [List.size_toArray]; omega) ?_
  refine ⟨.ref _, _, I5.laid (t' := s4.toks) (o := .tup xs.reverse) (fun b ob q => Heap.get?_push_of_some _ q) (Nat.le_refl _) ?_, rfl, q _ (I5.hok.fresh (Nat.le_refl _))⟩
  exact ⟨by rw [List.length_reverse]; exact hz, _, r.reverse, IsTup.new _ _⟩
/-! enumerate(t) -/
theorem meets_enumT (l : Addr) (items : Array Value) (n : Nat) (dct : Option Addr) (sl : Array (Option Value)) :
    Meets (Builtin.«enumerate.__new__» ⟨[.type "enumerate", .ref l], []⟩) (fun _ R s => s.heap.get? l = some { cls := .type "tuple", dict := dct, data := .seq items n, slots := sl } ∧
      R (.ok (.ret (.ref (s.heap.push { cls := .type "tuple_iterator", data := .fields #[.ref l, .int 0 0] }).objs.size)))
        { s with heap := (s.heap.push { cls := .type "tuple_iterator", data := .fields #[.ref l, .int 0 0] }).push { cls := .type "enumerate", data := .fields #[.none, .bool false, .ref s.heap.objs.size, rawInt 0, .none, .none] } }) :=
  .of_wp fun prog w A R s h => by
    obtain ⟨hp, g, d, tk, os⟩ := s
    obtain ⟨hl, h⟩ := h
    have hsub := sub_enumerate
    have hT : Heap.IsTuple (Shared.heap ⟨hp, g, d, tk, os⟩) l items := ⟨_, hl, rfl, n, rfl⟩
    wp_walk using AutoSeq1.wpAny_loadPart' hl
    refine wpAny_stack_any fun st => wpAny_pure ?_
    split
    · rename_i c _ _ _ _ _
      cases (c == Value.type "enumerate") <;> (wp_walk using AutoSeq1.wpAny_loadPart' hl, wpAny_pyIter_tuple hT; exact ⟨_, rfl, h⟩)
    · wp_walk using AutoSeq1.wpAny_loadPart' hl, wpAny_pyIter_tuple hT
      exact ⟨_, rfl, h⟩
theorem call_enumT {prog : Program} {w : World} {A : Around} {E : Value → Shared → Prop} {s : Shared} {l : Addr} {items : Array Value} {Q : Value → Shared → Prop} (hL : s.heap.IsTuple l items)
    (h : ∀ h', IsEnum h' (s.heap.objs.size + 1) s.heap.objs.size 0 .none → h'.IsTupleIter s.heap.objs.size l 0 → (∀ b o, s.heap.get? b = some o → h'.get? b = some o) → Q (.ref (s.heap.objs.size + 1)) { s with heap := h' }) :
    wpAny (model prog w) A (call (.type "enumerate") [.ref l]) Q E s := by
  obtain ⟨⟨c, dct, dt, sl⟩, hl, hc, n, hd⟩ := hL
  replace hc : c = .type "tuple" := hc
  replace hd : dt = .seq items n := hd
  subst hc hd
  refine callType_new F.called_enumerate (by decide) (F.typeCall_enumerate_1 _) (F.newCall_enumerate_1 _) (fun obj => F.args_object_init_2 obj _) F.entry_enumerate_new (meets_enumT l items n dct sl) ⟨hl, ?_⟩
  have sz : (s.heap.push { cls := .type "tuple_iterator", data := .fields #[.ref l, .int 0 0] }).objs.size = s.heap.objs.size + 1 := Heap.size_push ..
  show _ ∧ _
  rw [sz]
  have he : IsEnum ((s.heap.push { cls := .type "tuple_iterator", data := .fields #[.ref l, .int 0 0] }).push { cls := .type "enumerate", data := .fields #[.none, .bool false, .ref s.heap.objs.size, rawInt 0, .none, .none] }) (s.heap.objs.size + 1) s.heap.objs.size 0 .none := by
    have := Heap.get?_push_size (s.heap.push { cls := .type "tuple_iterator", data := .fields #[.ref l, .int 0 0] }) (o := { cls := .type "enumerate", data := .fields #[.none, .bool false, .ref s.heap.objs.size, rawInt 0, .none, .none] }) rfl
    rw [sz] at this
    exact this
  exact ⟨⟨_, he, rfl⟩, h _ he ⟨_, Heap.get?_push_of_some _ (Heap.get?_push_size _ rfl), rfl, rfl⟩ fun b o x => Heap.get?_push_of_some _ (Heap.get?_push_of_some _ x)⟩
def ItT (K : PySem.W.Frag) (a : Addr) : It where
  go := fun i H => ∃ (xs : List V) (x : V), SqT K H a xs ∧ xs[i]? = some x
  yld := fun i H v H' => ∃ T x, v = V.ref T ∧ H T = none ∧ H' = upd H T (.tup [.int (i : Nat), x]) ∧ ∀ xs, SqT K H a xs → xs[i]? = some x
  stop := fun i H => ∃ xs : List V, SqT K H a xs ∧ i = xs.length
theorem enum_not {h : Heap} {a e it : Addr} {i : Int} {old : Value} {items : Array Value} (he : IsEnum h e it i old) (ht : h.IsTuple a items) : a ≠ e := by
  rintro rfl
  obtain ⟨o, ho, hc, _⟩ := ht
  have he : h.get? a = some _ := he
  rw [he] at ho
  cases ho
  have z : Value.type "enumerate" = Value.type "tuple" := hc
  injection z with z
  exact absurd z (by decide)
theorem turn_enumT {P : Program} {w : World} {K : PySem.W.Frag} {elts : List Expr} {kk : Nat} {tpos : Pos} (a e it : Addr) :
    Turn P w K (.Tuple elts kk tpos) (ItT K a) [e, it] e (fun i h => (∃ old, IsEnum h e it ((i : Nat) : Int) old) ∧ h.IsTupleIter it a i ∧ e ≠ it) where
  mem := by simp
  obj := fun i h st b hb => by
    obtain ⟨⟨old, he⟩, ⟨o, ho, hc, hd⟩, _⟩ := st
    have q : b = e ∨ b = it := by simpa using hb
    rcases q with z | z
    · rw [z]; exact ⟨_, he, fun v q => nomatch q⟩
    · rw [z]; exact ⟨o, ho, fun v q => by rw [hd] at q; cases q⟩
  keep := fun i h h' st k => by
    obtain ⟨⟨old, he⟩, ⟨o, ho, hc, hd⟩, ne⟩ := st
    exact ⟨⟨old, k e (by simp) _ he⟩, ⟨o, k it (by simp) _ ho, hc, hd⟩, ne⟩
  item := fun X hP hw hK hc i pins s σ H E I hf st hg => by
    subst hP hw hK
    obtain ⟨⟨old, he⟩, hit, ne⟩ := st
    obtain ⟨xs, x, hq, hx⟩ := hg
    obtain ⟨its, rv, p, hz⟩ := I.tuple hq
    obtain ⟨u, hu, ru⟩ := rv.get hx
    have hel := Heap.lt_size he
    have hil : it < s.heap.objs.size := by obtain ⟨o, ho, _⟩ := hit; exact Heap.lt_size ho
    have pt : s.heap.IsTuple a its.toArray := by obtain ⟨o, h1, h2, n, h3⟩ := p; exact ⟨o, h1, h2, n, h3⟩
    have ai : a ≠ it := by
      rintro rfl
      obtain ⟨o, ho, hc1, _⟩ := pt
      obtain ⟨o2, ho2, hc2, _⟩ := hit
      rw [ho] at ho2
      cases ho2
      have z : Value.type "tuple" = Value.type "tuple_iterator" := hc1.symm.trans hc2
      injection z with z
      exact absurd z (by decide)
    have ae := enum_not he pt
    have hsz : i < its.toArray.size := by
      rw [List.size_toArray]
      exact (List.getElem?_eq_some_iff.mp hu).1
    refine wpAny_pyNext_enum_itemD (Draws.tuple (A := X.A.in1) (show X.A.in1.handled = none from I.ok.hd hc) it a ai its.toArray) he ⟨hit, pt⟩ hsz ne (by simp only [List.mem_cons, List.not_mem_nil, or_false, not_or]; exact ⟨ne, Ne.symm ae⟩) fun v h' tk hv ho hst' hT hsz2 hk => ⟨Value.ref s.heap.objs.size, rfl, wpAny_letOwnedTupleGo_enum ho fun h'' he' sb => ?_⟩
    have hit' := hst'.1
    obtain rfl : v = u := by
      have : its[i]? = some v := by simpa using hv
      rw [hu] at this
      cases this
      rfl
    have hT2 := (sb.2 _ (Nat.ne_of_gt hel)).trans hT
    have new : ObjOk X.prog X.w (upd H s.heap.objs.size (.tup [.int (i : Nat), x])) h'' s.heap.objs.size (.tup [.int (i : Nat), x]) := ⟨by show 2 ≤ sizeLine; decide, [Value.int (i : Nat) tk, v], .cons ⟨tk, rfl⟩ (.cons ru .nil), _, hT2, rfl, 0, rfl⟩
    have I1 := Inv.turnedNew (ch := [e, it]) (t' := tk + 1) I (fun b ob hb q => by
      have n1 : b ≠ e := fun z => hb (by rw [z]; simp)
      have n2 : b ≠ it := fun z => hb (by rw [z]; simp)
      exact (sb.2 b n1).trans (hk b ob n1 n2 q)) hf (Nat.le_refl _) new
    have e1 : ((i : Nat) : Int) + 1 = ((i + 1 : Nat) : Int) := by omega
    refine ⟨.ref s.heap.objs.size, _, I1, rfl, ⟨_, x, rfl, I.hok.fresh (Nat.le_refl _), rfl, fun ys hy => by rw [I.tuple_inj hy hq]; exact hx⟩, ⟨⟨_, by rw [← e1]; exact he'⟩, ?_, ne⟩, fun b hb => ?_⟩
    · obtain ⟨o, ho2, h3, h4⟩ := hit'
      exact ⟨o, (sb.2 it (Ne.symm ne)).trans ho2, h3, h4⟩
    · have q : b = e ∨ b = it := by simpa using hb
      have lt : b < s.heap.objs.size := by rcases q with z | z <;> rw [z] <;> assumption
      rw [upd_ne (Nat.ne_of_lt lt)]
      exact (hf b hb).1
  done := fun X hP hw hK hc i pins s σ H E I hf st hg => by
    subst hP hw hK
    obtain ⟨⟨old, he⟩, hit, ne⟩ := st
    obtain ⟨xs, hq, hx⟩ := hg
    obtain ⟨its, rv, p, hz⟩ := I.tuple hq
    have pt : s.heap.IsTuple a its.toArray := by obtain ⟨o, h1, h2, n, h3⟩ := p; exact ⟨o, h1, h2, n, h3⟩
    have hl := rv.length
    have ai : a ≠ it := by
      rintro rfl
      obtain ⟨o, ho, hc1, _⟩ := pt
      obtain ⟨o2, ho2, hc2, _⟩ := hit
      rw [ho] at ho2
      cases ho2
      have z : Value.type "tuple" = Value.type "tuple_iterator" := hc1.symm.trans hc2
      injection z with z
      exact absurd z (by decide)
    obtain ⟨f0, f1, f2, f3, f4, f5⟩ := hf it (by simp)
    have hn : i = its.toArray.size := by rw [List.size_toArray]; omega
    rw [hn] at hit
    exact wpAny_pyNext_enum_endD (Draws.tuple (A := X.A.in1) (show X.A.in1.handled = none from I.ok.hd hc) it a ai its.toArray) he ⟨hit, pt⟩ fun h' eb => ⟨rfl, Inv.turned I (t' := s.toks) (fun b o hb q => eb b o hb q) f0 f1 f3 f4 f5⟩
  self := fun A i s Q E st h => by
    obtain ⟨⟨old, he⟩, _⟩ := st
    exact wpAny_pyIter_enum he h
def iEnumT (K : PySem.W.Frag) (ta : TA) : TI := fun σ H R => ta σ H fun vs H1 => ∃ a xs, vs = [.ref a] ∧ SqT K H1 a xs ∧ R (ItT K a) H1
theorem pi_enumT {X : Cx} {e : Expr} {ta : TA} {p pos tpos : Pos} {elts : List Expr} {kk : Nat} (hg : Gl X ("enumerate" : Str)) (hm : X.mg ("enumerate" : Str) = none) (ha : PA X [e] ta) (hs : starEach [e] X.env = [(false, eval e X.env)]) :
    PI X (.Tuple elts kk tpos) (.Call (.Name "enumerate" p) [e] [] pos) (iEnumT X.K ta) := by
  refine ⟨fun pins s σ H R I h => PyProof.Rows.Call_ (ld_blt I hg hm PyProof.Rows.boot_enumerate (PyProof.Rows.callWith_type1 (thn (ha.run pos pins s σ H _ I h) fun us s1 ⟨vs, H1, I1, r1, a, xs, ex, hq, q⟩ => ?_) hs rfl) (by decide) (by decide)) rfl⟩
  subst ex
  cases r1 with
  | cons r rr =>
    cases rr
    cases r
    obtain ⟨its, rv, p', hz⟩ := I1.tuple hq
    have pt : s1.heap.IsTuple a its.toArray := by obtain ⟨o, h1, h2, n, h3⟩ := p'; exact ⟨o, h1, h2, n, h3⟩
    refine call_enumT pt fun h' he hit hk => wpAny_pyIter_enum he ⟨s1.heap.objs.size + 1, [s1.heap.objs.size + 1, s1.heap.objs.size], _, ItT X.K a, H1, rfl, Inv.kept I1 hk, turn_enumT a (s1.heap.objs.size + 1) s1.heap.objs.size, ⟨⟨_, he⟩, hit, Nat.succ_ne_self _⟩, fun b hb => ?_, q⟩
    have hb' : b = s1.heap.objs.size + 1 ∨ b = s1.heap.objs.size := by simpa using hb
    have le : s1.heap.objs.size ≤ b := by
      rcases hb' with z | z
      · rw [z]; exact Nat.le_succ _
      · rw [z]; exact Nat.le_refl _
    exact I1.fpOk le (I1.hok.fresh le)
theorem walk_enumT {K : PySem.W.Frag} {a : Addr} {xs : List V} : Walk (ItT K a) xs.length (fun H => SqT K H a xs) (YPair (fun i => some (V.int (i : Nat))) fun i => xs[i]?) where
  goes := fun i H hi g => ⟨xs, xs[i], g, List.getElem?_eq_getElem hi⟩
  stops := fun H g => ⟨xs, g, rfl⟩
  yields := fun i H v H' _ g y => by
    obtain ⟨T, x, h1, h2, h3, h4⟩ := y
    exact ⟨T, _, _, h1, h2, h3, rfl, h4 xs g⟩
section
variable {S : Sig} {ρ : Env} {a b c e : Expr} {pos p2 p3 pos2 : Pos}
theorem xi_enumT {elts : List Expr} {kk : Nat} {tpos : Pos} {xs : List D} (hm : S.mg "enumerate" = none) (h : XP S ρ a (.ok (.tup xs))) (hg : S.scope.names.lookup ("enumerate" : Str) = some .globalImplicit := by rfl) (hs : ∀ env : PySem.Env, starEach [a] env = [(false, eval a env)] := by intro _; rfl) :
    XI S ρ (.Tuple elts kk tpos) (.Call (.Name "enumerate" p2) [a] [] pos) ((enumL xs).map fun p => .tup [.int p.1, p.2]) := by
  obtain ⟨t, h1, h2⟩ := xa_cons h xa_nil (fun env => hs env)
  refine ⟨iEnumT S.K t, fun q ok => pi_enumT (X := S.cx q) (show S.scope.names.lookup ("enumerate" : Str) = some .globalImplicit from hg) hm (h1 q ok) (hs _), fun σ F H A R w n k => h2 σ F H A _ w n fun vs F1 H1 g rr => ?_⟩
  obtain ⟨v, rfl, r⟩ := reps1 rr
  cases r with
  | tup hl r =>
    have len := r.length
    refine ⟨_, _, rfl, .of (g.ext _ _ hl), k _ F1 H1 g (src_pair (by rw [List.length_map, enumL_len, len]) walk_enumT (fun H2 e => .of (e _ _ hl)) fun i u v hi hu hv => ?_)⟩
    cases hu
    obtain ⟨d, e1, e2⟩ := r.get' hv
    refine ⟨.int (i : Nat), d, ?_, .int, e2⟩
    rw [List.getElem?_map, enumL_get e1]
    rfl
theorem xp_revT {ds : List D} {k : Nat} (h : XP S ρ a (.ok (.tup ds))) : XP S ρ (.Subscript a (.Slice none none (some (.UnaryOp .USub (.Constant (.int 1) k p2) p3)) pos2) pos) (.ok (.tup ds.reverse)) := by
  obtain ⟨t, h1, h2⟩ := h
  refine ⟨tRevT S.K t, fun q ok => pe_revT (h1 q ok), fun σ F H A Q w n q => h2 σ F H A _ w n fun v F1 H1 g r => ?_⟩
  cases r with
  | tup hv r => exact ⟨_, _, rfl, .of (g.ext _ _ hv), fun p hp => q _ _ _ (g.trans (Grow.new g.ext hp)) (.tup upd_same (reps_new g.ext hp r.reverse))⟩
/-- a def that tells a thing -/
theorem xp_callT [Calm S] {τ : Type} {dd : τ → List D} {pre : τ → Prop} {rese : τ → Except Str O} {d : D} {n : Nat} {x : Str} {ps : List Str} {es : List Expr} (hG : FnG S.P S.w S.K S.mg S.base n x ps (spP S.K dd pre rese)) (y : τ) (hp : pre y) (ha : XA S ρ (e :: es) (dd y)) (hr : rese y = .ok (.fro d) := by rfl) (hk : n ≤ S.kk := by exact Nat.le_of_ble_eq_true rfl) (hg : S.scope.names.lookup x = some .globalImplicit := by rfl) (hdb : (x == ("__debug__" : Str)) = false := by decide)
    (he : ∀ env : PySem.Env, starEach (e :: es) env = (false, eval e env) :: starEach es env := by intro _; rfl) (hpl : ∀ env : PySem.Env, (backTo pos (starEach es env)).any (·.1) = false := by intro _; rfl) : XP S ρ (.Call (.Name x p2) (e :: es) [] pos) (.ok d) :=
  (xp_call hG y hp ha hk hg hdb he hpl).cast (by rw [hr]; rfl)
/-- str(i) -/
theorem ct_strI {i : Int} (h : i.natAbs.log2 < 1920) : CT S "str" [.int i] (.str (toString i)) := ⟨_, fun _ _ => call_str_int, fun vs F H Q e rr q => by
  obtain ⟨v, rfl, r⟩ := reps1 rr
  cases r
  exact ⟨i, rfl, h, q _ F H (Grow.refl e) .str⟩⟩
end
end G

namespace My
open PySem PySem.Spec PyProof.Rows L2 G
open PySem.W (Datum DatumOrd Tup T3)
open Enc (enc)
def top (i : Nat) : Stmt := PySem.Challenge.pw_lampfloor_k01_floors_known.main.body.getD i (.Pass ⟨0, 0, 0, 0⟩)
abbrev s_is_whole : Stmt := top 2
abbrev s_is_spot : Stmt := top 3
abbrev s_is_on : Stmt := top 4
abbrev s_is_side : Stmt := top 5
abbrev s_is_floor : Stmt := top 6
abbrev s_is_cell : Stmt := top 7
abbrev s__law_cell : Stmt := top 9
abbrev s__law_drawn : Stmt := top 10
abbrev s__law_floor : Stmt := top 11
abbrev s__law_cells : Stmt := top 12
abbrev s__law_open : Stmt := top 13
abbrev s__law_off : Stmt := top 14
abbrev s__law_odd : Stmt := top 15
abbrev s__law_spoilt : Stmt := top 16
abbrev s__law_is_whole : Stmt := top 17
abbrev s__law_is_spot : Stmt := top 18
abbrev s__law_is_floor : Stmt := top 19
abbrev s_law : Stmt := top 20
def d0 : He.DefD := ⟨("is_whole", none), "is_whole", "is_whole", defArgs s_is_whole, defBody s_is_whole, defScope s_is_whole, [], []⟩
def d1 : He.DefD := ⟨("is_spot", none), "is_spot", "is_spot", defArgs s_is_spot, defBody s_is_spot, defScope s_is_spot, [], []⟩
def d2 : He.DefD := ⟨("is_on", none), "is_on", "is_on", defArgs s_is_on, defBody s_is_on, defScope s_is_on, [], []⟩
def d3 : He.DefD := ⟨("is_side", none), "is_side", "is_side", defArgs s_is_side, defBody s_is_side, defScope s_is_side, [], []⟩
def d4 : He.DefD := ⟨("is_floor", none), "is_floor", "is_floor", defArgs s_is_floor, defBody s_is_floor, defScope s_is_floor, [], []⟩
def d5 : He.DefD := ⟨("is_cell", none), "is_cell", "is_cell", defArgs s_is_cell, defBody s_is_cell, defScope s_is_cell, [], []⟩
def d6 : He.DefD := ⟨("_law_cell", none), "_law_cell", "_law_cell", defArgs s__law_cell, defBody s__law_cell, defScope s__law_cell, [], []⟩
def d7 : He.DefD := ⟨("_law_drawn", none), "_law_drawn", "_law_drawn", defArgs s__law_drawn, defBody s__law_drawn, defScope s__law_drawn, [], []⟩
def d8 : He.DefD := ⟨("_law_floor", none), "_law_floor", "_law_floor", defArgs s__law_floor, defBody s__law_floor, defScope s__law_floor, [], []⟩
def d9 : He.DefD := ⟨("_law_cells", none), "_law_cells", "_law_cells", defArgs s__law_cells, defBody s__law_cells, defScope s__law_cells, [], []⟩
def d10 : He.DefD := ⟨("_law_open", none), "_law_open", "_law_open", defArgs s__law_open, defBody s__law_open, defScope s__law_open, [], []⟩
def d11 : He.DefD := ⟨("_law_off", none), "_law_off", "_law_off", defArgs s__law_off, defBody s__law_off, defScope s__law_off, [], []⟩
def d12 : He.DefD := ⟨("_law_odd", none), "_law_odd", "_law_odd", defArgs s__law_odd, defBody s__law_odd, defScope s__law_odd, [], []⟩
def d13 : He.DefD := ⟨("_law_spoilt", none), "_law_spoilt", "_law_spoilt", defArgs s__law_spoilt, defBody s__law_spoilt, defScope s__law_spoilt, [], []⟩
def d14 : He.DefD := ⟨("_law_is_whole", none), "_law_is_whole", "_law_is_whole", defArgs s__law_is_whole, defBody s__law_is_whole, defScope s__law_is_whole, [], []⟩
def d15 : He.DefD := ⟨("_law_is_spot", none), "_law_is_spot", "_law_is_spot", defArgs s__law_is_spot, defBody s__law_is_spot, defScope s__law_is_spot, [], []⟩
def d16 : He.DefD := ⟨("_law_is_floor", none), "_law_is_floor", "_law_is_floor", defArgs s__law_is_floor, defBody s__law_is_floor, defScope s__law_is_floor, [], []⟩
def d17 : He.DefD := ⟨("law", none), "law", "law", defArgs s_law, defBody s_law, defScope s_law, [], []⟩
def fn : List He.DefD := [d0, d1, d2, d3, d4, d5, d6, d7, d8, d9, d10, d11, d12, d13, d14, d15, d16, d17]
def fa_0 : List He.Fa := [.int "MOST_SIDE" 12, .glo "is_whole", .glo "is_spot", .glo "is_on", .glo "is_side", .glo "is_floor", .glo "is_cell", .glo "_law_cell", .glo "_law_drawn", .glo "_law_floor", .glo "_law_cells", .glo "_law_open", .glo "_law_off", .glo "_law_odd", .glo "_law_spoilt", .glo "_law_is_whole", .glo "_law_is_spot", .glo "_law_is_floor", .glo "law", .free "all", .free "bool", .free "enumerate", .free "int", .free "isinstance", .free "len", .free "list", .free "range", .free "str", .free "tuple", .free "zip"]
def fa : List He.Fa := fa_0
def names_0 : List PySem.Str := ["MOST_SIDE", "is_whole", "is_spot", "is_on", "is_side", "is_floor", "is_cell", "_law_cell", "_law_drawn", "_law_floor", "_law_cells", "_law_open", "_law_off", "_law_odd", "_law_spoilt", "_law_is_whole", "_law_is_spot", "_law_is_floor"]
def names : List PySem.Str := names_0
def exf_0 : List G.KF := []
def exf : List G.KF := exf_0
def tabs : List He.Tab := []
abbrev R : PySem.W.OpenRow := PySem.W.OpenLaw.row PySem.Challenge.rw_lampfloor_k01_floors_known
abbrev hk : PySem.W.Hook := G.hookY 6 exf fa fn tabs
def ob (s : PySem.W.SharedT) : G.AlY := G.obsYG 6 exf fa fn tabs (HandSHeadRun.getT s)
theorem ob_eq (s : PySem.W.SharedT) : ob s = hk.obs s.abs := G.obsYG_eq (HandSHeadRun.getT_eq s)
theorem run (w : World) : HandSHeadRun.RunEq R (PySem.W.view R.prog [20]) hk ob 3000 names w := by
  intro os
  kernel_rfl
section
variable {P : Program} {w : World} {K : PySem.W.Frag} {mg : Str → Option Value} {base : Heap} {f : Addr} {fd : FuncData}

/-! sign_of -/
def m_sign (n : Int) : Int := (if decide (0 < n) then 1 else 0) - (if decide (n < 0) then 1 else 0)
/-! Line -/
structure LineS where
  cells : List Cell
  cps : List (Cell × Cell)
  right : Int
  down : Int
def lineO (C : Addr) (l : LineS) : O := .ins C ["cells", "couples", "right", "down"] [oL l.cells, oL l.cps, .fro (enc l.right), .fro (enc l.down)]
def m_step (lead : Int) : Cell := (if decide (0 ≤ lead) then 1 else 0, if decide (lead ≤ 0) then 1 else 0)
def m_there (l : LineS) (here : Cell) (lead : Int) : Cell := (here.1 + l.right * (m_step lead).1, here.2 + l.down * (m_step lead).2)
def m_next (l : LineS) (here : Cell) (lead : Int) : LineS :=
  if decide (lead = 0) = true then { l with cps := l.cps ++ [two ((m_there l here lead).1, here.2) (here.1, (m_there l here lead).2)] } else l
theorem m_step_b (lead : Int) : (-(2 ^ 64) < (m_step lead).1 ∧ (m_step lead).1 < 2 ^ 64) ∧ (-(2 ^ 64) < (m_step lead).2 ∧ (m_step lead).2 < 2 ^ 64) := by
  unfold m_step; constructor <;> (dsimp only; split <;> decide)
structure LState where
  cells : List Cell
  cps : List (Cell × Cell)
  lead : Int
  here : Cell
def absI (i : Int) : Int := if i < 0 then -i else i
def m_right (one other : Cell) : Int := m_sign (other.1 - one.1)
def m_down (one other : Cell) : Int := m_sign (other.2 - one.2)
def m_across (one other : Cell) : Int := absI (other.1 - one.1)
def m_along (one other : Cell) : Int := absI (other.2 - one.2)
def m_ls (one other : Cell) (s : LState) : LineS := ⟨s.cells, s.cps, m_right one other, m_down one other⟩
def m_go (one other : Cell) (s : LState) : LState where
  cells := s.cells ++ [m_there (m_ls one other s) s.here s.lead]
  cps := (m_next (m_ls one other s) s.here s.lead).cps
  lead := s.lead - 2 * m_along one other * (m_step s.lead).1 + 2 * m_across one other * (m_step s.lead).2
  here := m_there (m_ls one other s) s.here s.lead
def m_ini (one other : Cell) : LState := ⟨[one], [], m_across one other - m_along one other, one⟩
def m_run (one other : Cell) (n : Nat) (s : LState) : Option (LO LState Empty) := whL (fun s => !decide (s.here = other)) (fun s => .nx (m_go one other s)) n s
def LineOk (one other : Cell) : Prop := ∃ s, m_run one other 100 (m_ini one other) = some (.nx s)
def m_line (one other : Cell) : LState := match m_run one other 100 (m_ini one other) with
  | some (.nx s) => s
  | _ => m_ini one other
theorem m_line_ok {one other : Cell} (h : LineOk one other) : m_run one other 100 (m_ini one other) = some (.nx (m_line one other)) := by
  obtain ⟨s, h⟩ := h
  unfold m_line
  rw [h]
theorem m_next_ls (l : LineS) (here : Cell) (lead : Int) : m_next l here lead = ⟨l.cells, (m_next l here lead).cps, l.right, l.down⟩ := by
  unfold m_next; split <;> rfl
theorem m_next_len (l : LineS) (here : Cell) (lead : Int) : (m_next l here lead).cps.length ≤ l.cps.length + 1 := by
  unfold m_next; split <;> simp
/-! crossed, pinched -/
theorem lineO_d (C : Addr) (l : LineS) : (lineO C l).d = .ins C ["cells", "couples", "right", "down"] [enc l.cells, enc l.cps, enc l.right, enc l.down] := by
  unfold lineO
  simp only [O.d, O.ds, oL_d]

def m_at (c s : Cell) : Cell := (c.1 + s.1, c.2 + s.2)
def sh2 (t : Cell) (p : Cell × Cell) : Cell × Cell := (m_at t p.1, m_at t p.2)
def shift (t : Cell) (s : LState) : LState := ⟨s.cells.map (m_at t), s.cps.map (sh2 t), s.lead, m_at t s.here⟩
theorem at_inj {t x y : Cell} : m_at t x = m_at t y ↔ x = y := by
  unfold m_at
  constructor
  · intro h
    have h1 := congrArg Prod.fst h
    have h2 := congrArg Prod.snd h
    dsimp only at h1 h2
    exact Prod.ext (by omega) (by omega)
  · intro h; rw [h]
theorem lt_at (t x y : Cell) : DatumOrd.lt (m_at t x) (m_at t y) = DatumOrd.lt x y := by
  rw [lt_pair, lt_pair]
  unfold m_at
  simp only [G.lt_int]
  by_cases h : x.1 = y.1
  · rw [if_pos h, if_pos (by rw [h])]
    exact decide_eq_decide.mpr (by omega)
  · rw [if_neg h, if_neg (by omega)]
    exact decide_eq_decide.mpr (by omega)
theorem two_at (t x y : Cell) : two (m_at t x) (m_at t y) = sh2 t (two x y) := by
  unfold two sh2
  rw [lt_at]
  split <;> rfl
theorem go_shift (t : Cell) (a d : Int) (s : LState) : m_go t (t.1 + a, t.2 + d) (shift t s) = shift t (m_go (0, 0) (a, d) s) := by
  have e1 : m_right t (t.1 + a, t.2 + d) = m_right (0, 0) (a, d) := by unfold m_right; congr 1; dsimp only; omega
  have e2 : m_down t (t.1 + a, t.2 + d) = m_down (0, 0) (a, d) := by unfold m_down; congr 1; dsimp only; omega
  have e3 : m_across t (t.1 + a, t.2 + d) = m_across (0, 0) (a, d) := by unfold m_across; congr 1; dsimp only; omega
  have e4 : m_along t (t.1 + a, t.2 + d) = m_along (0, 0) (a, d) := by unfold m_along; congr 1; dsimp only; omega
  have e5 : m_there (m_ls t (t.1 + a, t.2 + d) (shift t s)) (m_at t s.here) s.lead = m_at t (m_there (m_ls (0, 0) (a, d) s) s.here s.lead) := by
    unfold m_there m_ls m_at
    simp only [e1, e2]
    rw [Int.add_assoc, Int.add_assoc]
  unfold m_go
  simp only [e3, e4, shift, LState.mk.injEq, List.map_append, List.map_cons, List.map_nil]
  refine ⟨by rw [← e5]; rfl, ?_, trivial, e5⟩
  show (m_next (m_ls t (t.1 + a, t.2 + d) (shift t s)) (m_at t s.here) s.lead).cps = _
  unfold m_next
  rw [e5]
  by_cases h : decide (s.lead = 0) = true
  · rw [if_pos h, if_pos h]
    show s.cps.map (sh2 t) ++ [two (m_at t ((m_there (m_ls (0, 0) (a, d) s) s.here s.lead).1, s.here.2)) (m_at t (s.here.1, (m_there (m_ls (0, 0) (a, d) s) s.here s.lead).2))] = _
    rw [two_at, List.map_append]
    rfl
  · rw [if_neg h, if_neg h]
    rfl
theorem run_shift (t : Cell) (a d : Int) : ∀ (n : Nat) (s s' : LState), m_run (0, 0) (a, d) n s = some (.nx s') → m_run t (t.1 + a, t.2 + d) n (shift t s) = some (.nx (shift t s'))
  | 0, _, _, h => by cases h
  | n + 1, s, s', h => by
    unfold m_run whL at h ⊢
    have e : decide ((shift t s).here = (t.1 + a, t.2 + d)) = decide (s.here = (a, d)) := decide_eq_decide.mpr (at_inj (t := t) (x := s.here) (y := (a, d)))
    rw [e]
    by_cases c : (!decide (s.here = (a, d))) = true
    · rw [if_pos c] at h ⊢
      show whL _ _ n (m_go t (t.1 + a, t.2 + d) (shift t s)) = _
      rw [go_shift]
      exact run_shift t a d n _ _ h
    · rw [if_neg c] at h ⊢
      cases h
      rfl

theorem rng_mem {lo hi x : Int} (h : lo ≤ x ∧ x < hi) : x ∈ rng lo hi := by
  unfold rng
  exact List.mem_map.mpr ⟨(x - lo).toNat, List.mem_range.mpr (by omega), by omega⟩
theorem mem_rng {lo hi x : Int} : x ∈ rng lo hi ↔ lo ≤ x ∧ x < hi := by
  refine ⟨fun h => ?_, rng_mem⟩
  unfold rng at h
  obtain ⟨i, hi, rfl⟩ := List.mem_map.mp h
  have := List.mem_range.mp hi
  omega
theorem ini_shift (t : Cell) (a d : Int) : m_ini t (t.1 + a, t.2 + d) = shift t (m_ini (0, 0) (a, d)) := by
  have e3 : m_across t (t.1 + a, t.2 + d) = m_across (0, 0) (a, d) := by unfold m_across; congr 1; dsimp only; omega
  have e4 : m_along t (t.1 + a, t.2 + d) = m_along (0, 0) (a, d) := by unfold m_along; congr 1; dsimp only; omega
  have e5 : m_at t (0, 0) = t := by unfold m_at; exact Prod.ext (by dsimp only; omega) (by dsimp only; omega)
  unfold m_ini shift
  simp only [e3, e4, List.map_cons, List.map_nil, e5]
/-- the line from (0, 0) -/
def rel (a d : Int) : Option (LO LState Empty) := m_run (0, 0) (a, d) 100 (m_ini (0, 0) (a, d))
def isNx : Option (LO LState Empty) → Bool
  | some (.nx _) => true
  | _ => false
theorem rel_all : (rng (-6) 7).all (fun a => (rng (-6) 7).all fun d => isNx (rel a d)) = true := by decide +kernel
def relS (a d : Int) : LState := match rel a d with
  | some (.nx s) => s
  | _ => m_ini (0, 0) (a, d)
theorem rel_ok (a d : Int) (h : -7 < a ∧ a < 7 ∧ -7 < d ∧ d < 7) : rel a d = some (.nx (relS a d)) := by
  have z := List.all_eq_true.mp (List.all_eq_true.mp rel_all a (rng_mem (by omega))) d (rng_mem (by omega))
  unfold relS
  cases e : rel a d with
  | none => rw [e] at z; cases z
  | some o =>
    cases o with
    | nx s => rfl
    | bk s => rw [e] at z; cases z
    | rt b => cases b
theorem line_at (t : Cell) (a d : Int) (h : -7 < a ∧ a < 7 ∧ -7 < d ∧ d < 7) : m_run t (t.1 + a, t.2 + d) 100 (m_ini t (t.1 + a, t.2 + d)) = some (.nx (shift t (relS a d))) := by
  rw [ini_shift]
  exact run_shift t a d 100 _ _ (rel_ok a d h)
theorem line_rel (one other : Cell) (h : -7 < other.1 - one.1 ∧ other.1 - one.1 < 7 ∧ -7 < other.2 - one.2 ∧ other.2 - one.2 < 7) : LineOk one other ∧ m_line one other = shift one (relS (other.1 - one.1) (other.2 - one.2)) := by
  have z := line_at one (other.1 - one.1) (other.2 - one.2) h
  have e : ((one.1 + (other.1 - one.1), one.2 + (other.2 - one.2)) : Cell) = other := Prod.ext (by dsimp only; omega) (by dsimp only; omega)
  rw [e] at z
  refine ⟨⟨_, z⟩, ?_⟩
  unfold m_line
  rw [z]


/-! _law_cell, _law_drawn -/
def m_cell (s : Scr) (k : Int) : Int := if decide (s.l = []) = true then 7 * k else (atI s.l (k % (s.l.length : Nat))).getD 0 + 6553 * (k / (s.l.length : Nat))
theorem sc_cell : FnScope ["_law_script", "_law_k"] ["_law_script", "_law_k"] (defScope s__law_cell) := ⟨rfl, rfl, rfl, by decide +kernel, rfl, by decide +kernel, by decide +kernel⟩
abbrev sp_cell (K : PySem.W.Frag) : Sp := spP K (fun (y : Scr × Int) => [enc y.1, enc y.2]) (fun y => y.1.l.length ≤ 1000) (fun y => oF (m_cell y.1 y.2))
theorem ok__law_cell (F : FnF K "_law_cell" "_law_cell" s__law_cell f fd) (m_len : mg "len" = none) : FnOk P w K mg base (L2N.CX P w) 1 f fd ["_law_script", "_law_k"] (sp_cell K) := by
  refine def_pure F sc_cell (fun _ => rfl) fun y E hp => ?_
  obtain ⟨s, k⟩ := y
  have hp : s.l.length ≤ 1000 := hp
  refine ⟨rF (m_cell s k), ?_, fits_F⟩
  refine xb_ifR rF (tt_eqS (y := []) (XP.v (xp_var 0)) (XP.v tp_nilL)) (fun _ => xb_ret rF _ (xs_retF (tp_mul tp_int (xp_var 1) (.inl (by decide)))) trivial) (fun _ z => nomatch z) fun hc => ?_
  have hne : s.l ≠ [] := by simpa using hc
  have hlen : 0 < s.l.length := List.length_pos_iff.mpr hne
  have hl2 : (0 : Int) < (s.l.length : Nat) := by omega
  obtain ⟨v, hv⟩ := atI_ok (xs := s.l) (i := k % (s.l.length : Nat)) ⟨Int.emod_nonneg _ (by omega), Int.emod_lt_of_pos _ hl2⟩
  rw [hv]
  exact xb_ret rF _ (xs_retF (tp_add (tp_ixS (xp_var 0) (tp_mod (xp_var 1) (tp_lenS m_len (XP.v (xp_var 0))) hl2) hv) (tp_mul tp_int (tp_div (xp_var 1) (tp_lenS m_len (XP.v (xp_var 0))) ⟨hl2, by omega⟩) (.inl (by decide))))) trivial
def m_dr1 (s : Scr) (k : Int) : Int := (m_cell s k % 2147483563 * 69069 + 104723 * (k + 1)) % 2147483563
def m_dr2 (c : Int) : Int := (c * c + c / 3) % 2147483399
def m_dr3 (many c : Int) : Int := (c * c + c / 7) % 2147483647 / 11 % many
def m_drawn (s : Scr) (k many : Int) : Int := m_dr3 many (m_dr2 (m_dr1 s k))
theorem m_drawn_b (s : Scr) (k : Int) {many : Int} (h : 0 < many) : 0 ≤ m_drawn s k many ∧ m_drawn s k many < many := ⟨Int.emod_nonneg _ (by omega), Int.emod_lt_of_pos _ h⟩
theorem sc_drawn : FnScope ["_law_script", "_law_k", "_law_many", "_law_cell_here"] ["_law_script", "_law_k", "_law_many"] (defScope s__law_drawn) := ⟨rfl, rfl, rfl, by decide +kernel, rfl, by decide +kernel, by decide +kernel⟩
abbrev sp_drawn (K : PySem.W.Frag) : Sp := spP K (fun (y : Scr × Int × Int) => [enc y.1, enc y.2.1, enc y.2.2]) (fun y => y.1.l.length ≤ 1000 ∧ 0 < y.2.2) (fun y => oF (m_drawn y.1 y.2.1 y.2.2))
theorem ok__law_drawn (F : FnF K "_law_drawn" "_law_drawn" s__law_drawn f fd) (h__law_cell : FnG P w K mg base 1 "_law_cell" ["_law_script", "_law_k"] (sp_cell K)) : FnOk P w K mg base (L2N.CX P w) 2 f fd ["_law_script", "_law_k", "_law_many"] (sp_drawn K) := by
  refine def_pure F sc_drawn (fun _ => rfl) fun y E hp => ?_
  obtain ⟨s, k, many⟩ := y
  obtain ⟨hp1, hp2⟩ : s.l.length ≤ 1000 ∧ 0 < many := hp
  refine ⟨rF (m_drawn s k many), ?_, fits_F⟩
  have b1 : 0 ≤ m_dr1 s k ∧ m_dr1 s k < 2147483563 := ⟨Int.emod_nonneg _ (by decide), Int.emod_lt_of_pos _ (by decide)⟩
  have b2 : 0 ≤ m_dr2 (m_dr1 s k) ∧ m_dr2 (m_dr1 s k) < 2147483399 := ⟨Int.emod_nonneg _ (by decide), Int.emod_lt_of_pos _ (by decide)⟩
  refine xb_cons (ρ1 := [some (.fro (enc s)), some (.fro (enc k)), some (.fro (enc many)), some (.fro (enc (m_dr1 s k)))])
    (xs_setF 3 (tp_mod (tp_add (tp_mul (tp_mod (tp_call h__law_cell (s, k) hp1 (xa_cons (xp_var 0) (xa_cons (xp_var 1) xa_nil))) tp_int (by decide)) tp_int (.inr (by decide))) (tp_mul tp_int (tp_add (xp_var 1) tp_int) (.inl (by decide)))) tp_int (by decide))) ?_
  refine xb_cons (ρ1 := [some (.fro (enc s)), some (.fro (enc k)), some (.fro (enc many)), some (.fro (enc (m_dr2 (m_dr1 s k))))])
    (xs_setF 3 (tp_mod (tp_add (tp_mul (xp_var 3) (xp_var 3) (.inl ⟨by omega, by omega⟩)) (tp_div (xp_var 3) tp_int (by decide))) tp_int (by decide))) ?_
  exact xb_ret rF _ (xs_retF (tp_mod (tp_div (tp_mod (tp_add (tp_mul (xp_var 3) (xp_var 3) (.inl ⟨by omega, by omega⟩)) (tp_div (xp_var 3) tp_int (by decide))) tp_int (by decide)) tp_int (by decide)) (xp_var 2) hp2)) trivial

def m_is_on (wide high : Int) (spot : Cell) : Bool := (decide (0 ≤ spot.1) && decide (spot.1 < wide)) && (decide (0 ≤ spot.2) && decide (spot.2 < high))
def m_need_cell (fl : Floor) (c : Cell) : Except Str Unit := if m_is_on fl.a fl.b c = true then .ok () else .error "OffFloor"
def m_is_solid (fl : Floor) (c : Cell) : Except Str Bool := bindE (m_need_cell fl c) fun _ => .ok (memB c fl.c.items)
def m_need_open (fl : Floor) (c : Cell) : Except Str Unit := bindE (m_is_solid fl c) fun k => if k = true then .error "InWall" else .ok ()
def m_all_cells (fl : Floor) : List Cell := (rng 0 (fl.a * fl.b)).map fun at_ => (at_ / fl.b, at_ % fl.b)
def FlB (fl : Floor) : Prop := 0 < fl.a ∧ fl.a ≤ 1000 ∧ 0 < fl.b ∧ fl.b ≤ 1000
theorem FlB.le {fl : Floor} (h : FlB fl) : 0 ≤ fl.a * fl.b ∧ fl.a * fl.b ≤ 1000000 := by
  obtain ⟨h1, h2, h3, h4⟩ := h
  refine ⟨Int.mul_nonneg (by omega) (by omega), ?_⟩
  exact Int.le_trans (Int.mul_le_mul_of_nonneg_right h2 (by omega)) (by omega)
theorem m_all_len {fl : Floor} (h : FlB fl) : (m_all_cells fl).length ≤ 1000000 := by
  have := h.le
  unfold m_all_cells
  rw [List.length_map, rng_len]
  omega
theorem need_on {fl : Floor} {c : Cell} (h : m_is_on fl.a fl.b c = true) : m_need_cell fl c = .ok () := if_pos h
theorem solid_on {fl : Floor} {c : Cell} (h : m_is_on fl.a fl.b c = true) : m_is_solid fl c = .ok (memB c fl.c.items) := by unfold m_is_solid; rw [need_on h]; rfl
theorem open_on {fl : Floor} {c : Cell} (h : m_is_on fl.a fl.b c = true) (h2 : c ∉ fl.c.items) : m_need_open fl c = .ok () := by unfold m_need_open; rw [solid_on h, memB_no.mpr h2]; rfl
theorem sc_is_on : FnScope ["wide", "high", "spot"] ["wide", "high", "spot"] (defScope s_is_on) := ⟨rfl, rfl, rfl, by decide +kernel, rfl, by decide +kernel, by decide +kernel⟩
abbrev sp_is_on (K : PySem.W.Frag) : Sp := spP K (fun (y : Int × Int × Cell) => [enc y.1, enc y.2.1, enc y.2.2]) (fun _ => True) (fun y => oF (m_is_on y.1 y.2.1 y.2.2))
theorem ok_is_on (F : FnF K "is_on" "is_on" s_is_on f fd) : FnOk P w K mg base (L2N.CX P w) 1 f fd ["wide", "high", "spot"] (sp_is_on K) := by
  refine def_pure F sc_is_on (fun _ => rfl) fun y E hp => ?_
  obtain ⟨wide, high, spot⟩ := y
  refine ⟨rF (m_is_on wide high spot), ?_, fits_F⟩
  exact xb_ret rF _ (xs_retF (xp_and (tp_ch oc_le oc_lt tp_int (tp_ix2a (xp_var 2)) (xp_var 0)) fun _ => xp_one (tp_ch oc_le oc_lt tp_int (tp_ix2b (xp_var 2)) (xp_var 1)))) trivial
def FlL (fl : Floor) : Prop := 0 < fl.a ∧ fl.a ≤ 6 ∧ 0 < fl.b ∧ fl.b ≤ 6
theorem FlL.b {fl : Floor} (h : FlL fl) : FlB fl := ⟨h.1, by have := h.2.1; omega, h.2.2.1, by have := h.2.2.2; omega⟩
theorem on_iff {a b : Int} {c : Cell} : m_is_on a b c = true ↔ 0 ≤ c.1 ∧ c.1 < a ∧ 0 ≤ c.2 ∧ c.2 < b := by
  unfold m_is_on
  simp only [Bool.and_eq_true, decide_eq_true_eq]
  omega
theorem mem_all {fl : Floor} (h : 0 < fl.b) {c : Cell} : c ∈ m_all_cells fl ↔ m_is_on fl.a fl.b c = true := by
  rw [on_iff]
  unfold m_all_cells
  constructor
  · intro hc
    obtain ⟨i, hi, rfl⟩ := List.mem_map.mp hc
    have hi := mem_rng.mp hi
    dsimp only
    refine ⟨Int.ediv_nonneg hi.1 (by omega), Int.ediv_lt_of_lt_mul h hi.2, Int.emod_nonneg _ (by omega), Int.emod_lt_of_pos _ h⟩
  · rintro ⟨h1, h2, h3, h4⟩
    refine List.mem_map.mpr ⟨c.1 * fl.b + c.2, mem_rng.mpr ⟨Int.add_nonneg (Int.mul_nonneg h1 (by omega)) h3, ?_⟩, ?_⟩
    · have : (c.1 + 1) * fl.b ≤ fl.a * fl.b := Int.mul_le_mul_of_nonneg_right (by omega) (by omega)
      rw [Int.add_mul] at this
      omega
    · refine Prod.ext ?_ ?_
      · show (c.1 * fl.b + c.2) / fl.b = c.1
        rw [Int.add_comm, Int.add_mul_ediv_right _ _ (by omega), Int.ediv_eq_zero_of_lt h3 h4]; omega
      · show (c.1 * fl.b + c.2) % fl.b = c.2
        rw [Int.add_comm, Int.add_mul_emod_self_right, Int.emod_eq_of_lt h3 h4]
theorem on_line {fl : Floor} (h : FlL fl) {c d : Cell} (hc : m_is_on fl.a fl.b c = true) (hd : m_is_on fl.a fl.b d = true) : LineOk c d ∧ m_line c d = shift c (relS (d.1 - c.1) (d.2 - c.2)) := by
  rw [on_iff] at hc hd
  obtain ⟨h1, h2, h3, h4⟩ := h
  exact line_rel c d (by omega)
/-! mirrored, flipped, without a wall -/
def m_mirrored (fl : Floor) : Floor := ⟨fl.a, fl.b, ⟨sortT (fl.c.items.map fun p => (fl.a - 1 - p.1, p.2))⟩⟩
def m_flipped (fl : Floor) : Floor := ⟨fl.b, fl.a, ⟨sortT (fl.c.items.map fun p => (p.2, p.1))⟩⟩
def m_without (fl : Floor) (c : Cell) : Floor := ⟨fl.a, fl.b, ⟨fl.c.items.filter fun v => !decide (v = c)⟩⟩
def FlW (fl : Floor) : Prop := fl.c.items.length ≤ 1000000

def m_shutcol (s : Scr) (at_ rate high x : Int) : List Cell := ((rng 0 high).filter fun y => decide (m_drawn s (at_ + 3 + 8 * x + y) rate = 0)).map fun y => (x, y)
def m_rates : List Int := [2, 3, 3, 5, 9]
def m_rate (s : Scr) (at_ : Int) : Int := (atI m_rates (m_drawn s (at_ + 2) 5)).getD 2
def m_wide (s : Scr) (at_ most : Int) : Int := 1 + m_drawn s at_ most
def m_high (s : Scr) (at_ most : Int) : Int := 1 + m_drawn s (at_ + 1) most
def m_shuts (s : Scr) (at_ most : Int) : List Cell := (rng 0 (m_wide s at_ most)).foldl (fun c x => c ++ m_shutcol s at_ (m_rate s at_) (m_high s at_ most) x) []
def m_law_floor (s : Scr) (at_ most : Int) : Floor := ⟨m_wide s at_ most, m_high s at_ most, ⟨m_shuts s at_ most⟩⟩
theorem rate_ok (s : Scr) (at_ : Int) : atI m_rates (m_drawn s (at_ + 2) 5) = some (m_rate s at_) ∧ 0 < m_rate s at_ := by
  have h := m_drawn_b s (at_ + 2) (many := 5) (by decide)
  have e : m_drawn s (at_ + 2) 5 = 0 ∨ m_drawn s (at_ + 2) 5 = 1 ∨ m_drawn s (at_ + 2) 5 = 2 ∨ m_drawn s (at_ + 2) 5 = 3 ∨ m_drawn s (at_ + 2) 5 = 4 := by omega
  unfold m_rate
  rcases e with e | e | e | e | e <;> rw [e] <;> exact ⟨rfl, by decide⟩
theorem wide_b (s : Scr) (at_ : Int) {most : Int} (h : 0 < most) : 0 < m_wide s at_ most ∧ m_wide s at_ most ≤ most := by
  have := m_drawn_b s at_ h
  unfold m_wide; omega
theorem high_b (s : Scr) (at_ : Int) {most : Int} (h : 0 < most) : 0 < m_high s at_ most ∧ m_high s at_ most ≤ most := by
  have := m_drawn_b s (at_ + 1) h
  unfold m_high; omega
theorem shutcol_len (s : Scr) (at_ rate high x : Int) : (m_shutcol s at_ rate high x).length ≤ high.toNat := by
  unfold m_shutcol
  rw [List.length_map]
  refine Nat.le_trans (List.length_filter_le _ _) ?_
  rw [rng_len]; omega
theorem foldl_app_len {α β : Type} (g : β → List α) (n : Nat) (h : ∀ x, (g x).length ≤ n) : ∀ (xs : List β) (c : List α), (xs.foldl (fun c x => c ++ g x) c).length ≤ c.length + n * xs.length
  | [], c => by simp
  | x :: xs, c => by
    have z := foldl_app_len g n h xs (c ++ g x)
    have := h x
    rw [List.foldl_cons, List.length_cons, Nat.mul_add]
    rw [List.length_append] at z
    omega
theorem mem_foldl_app {α β : Type} (g : β → List α) (v : α) : ∀ (xs : List β) (c : List α), v ∈ xs.foldl (fun c x => c ++ g x) c ↔ v ∈ c ∨ ∃ x ∈ xs, v ∈ g x
  | [], c => by simp
  | x :: xs, c => by
    rw [List.foldl_cons, mem_foldl_app g v xs (c ++ g x), List.mem_append]
    constructor
    · rintro ((h | h) | ⟨y, h1, h2⟩)
      · exact .inl h
      · exact .inr ⟨x, by simp, h⟩
      · exact .inr ⟨y, by simp [h1], h2⟩
    · rintro (h | ⟨y, h1, h2⟩)
      · exact .inl (.inl h)
      · rcases List.mem_cons.mp h1 with rfl | h1
        · exact .inl (.inr h2)
        · exact .inr ⟨y, h1, h2⟩
theorem shuts_on (s : Scr) (at_ most : Int) : ∀ c ∈ m_shuts s at_ most, m_is_on (m_wide s at_ most) (m_high s at_ most) c = true := by
  intro c h
  unfold m_shuts at h
  rcases (mem_foldl_app _ _ _ _).mp h with h | ⟨x, hx, h⟩
  · cases h
  · have hx := mem_rng.mp hx
    unfold m_shutcol at h
    obtain ⟨y, hy, rfl⟩ := List.mem_map.mp h
    have hy := mem_rng.mp (List.mem_filter.mp hy).1
    exact on_iff.mpr ⟨hx.1, hx.2, hy.1, hy.2⟩
theorem shuts_len (s : Scr) (at_ most : Int) (h : 0 < most ∧ most ≤ 100) : (m_shuts s at_ most).length ≤ 10000 := by
  have h1 := wide_b s at_ h.1
  have h2 := high_b s at_ h.1
  have z := foldl_app_len (fun x => m_shutcol s at_ (m_rate s at_) (m_high s at_ most) x) 100 (fun x => Nat.le_trans (shutcol_len _ _ _ _ _) (by omega)) (rng 0 (m_wide s at_ most)) []
  rw [rng_len] at z
  unfold m_shuts
  simp only [List.length_nil] at z
  omega
def m_open (fl : Floor) : List Cell := (m_all_cells fl).filter fun c => !memB c fl.c.items
theorem m_open_len {fl : Floor} (h : FlB fl) : (m_open fl).length ≤ 1000000 := Nat.le_trans (List.length_filter_le _ _) (m_all_len h)
theorem mem_open {fl : Floor} (h : 0 < fl.b) {c : Cell} : c ∈ m_open fl ↔ m_is_on fl.a fl.b c = true ∧ c ∉ fl.c.items := by
  unfold m_open
  rw [List.mem_filter, mem_all h, Bool.not_eq_true', memB_no]
abbrev NLF : List Str := ["_law_script", "_law_at", "_law_most", "_law_wide", "_law_high", "_law_rate", "_law_shuts", "_law_x", "_law_y"]
theorem sc__law_floor : FnScope NLF ["_law_script", "_law_at", "_law_most"] (defScope s__law_floor) := ⟨rfl, rfl, rfl, by decide +kernel, rfl, by decide +kernel, by decide +kernel⟩
abbrev sp__law_floor (K : PySem.W.Frag) : Sp := spP K (fun (y : Scr × Int × Int) => [enc y.1, enc y.2.1, enc y.2.2]) (fun y => y.1.l.length ≤ 1000 ∧ 0 < y.2.2 ∧ y.2.2 ≤ 100) (fun y => oF (m_law_floor y.1 y.2.1 y.2.2))
def R_lf (s : Scr) (at_ most : Int) (c : List Cell) : G.Env := [some (.fro (enc s)), some (.fro (enc at_)), some (.fro (enc most)), some (.fro (enc (m_wide s at_ most))), some (.fro (enc (m_high s at_ most))), some (.fro (enc (m_rate s at_))), some (oL c), none, none]
theorem ok__law_floor (F : FnF K "_law_floor" "_law_floor" s__law_floor f fd) (m_range : mg "range" = none) (m_tuple : mg "tuple" = none) (h__law_drawn : FnG P w K mg base 2 "_law_drawn" ["_law_script", "_law_k", "_law_many"] (sp_drawn K)) : FnOk P w K mg base (L2N.CX P w) 3 f fd ["_law_script", "_law_at", "_law_most"] (sp__law_floor K) := by
  refine def_pure F sc__law_floor (fun _ => rfl) fun y E hp => ?_
  obtain ⟨s, at_, most⟩ := y
  obtain ⟨hl, h0, h1⟩ : s.l.length ≤ 1000 ∧ 0 < most ∧ most ≤ 100 := hp
  have wb := wide_b s at_ h0
  have hb := high_b s at_ h0
  obtain ⟨r1, r2⟩ := rate_ok s at_
  refine ⟨rF (m_law_floor s at_ most), ?_, fits_F⟩
  refine xb_cons (ρ1 := [some (.fro (enc s)), some (.fro (enc at_)), some (.fro (enc most)), some (.fro (enc (m_wide s at_ most))), none, none, none, none, none]) (xs_setF 3 (tp_add tp_int (tp_call h__law_drawn (s, at_, most) ⟨hl, h0⟩ (xa_cons (xp_var 0) (xa_cons (xp_var 1) (xa_cons (xp_var 2) xa_nil)))))) ?_
  refine xb_cons (ρ1 := [some (.fro (enc s)), some (.fro (enc at_)), some (.fro (enc most)), some (.fro (enc (m_wide s at_ most))), some (.fro (enc (m_high s at_ most))), none, none, none, none]) (xs_setF 4 (tp_add tp_int (tp_call h__law_drawn (s, at_ + 1, most) ⟨hl, h0⟩ (xa_cons (xp_var 0) (xa_cons (tp_add (xp_var 1) tp_int) (xa_cons (xp_var 2) xa_nil)))))) ?_
  refine xb_cons (ρ1 := [some (.fro (enc s)), some (.fro (enc at_)), some (.fro (enc most)), some (.fro (enc (m_wide s at_ most))), some (.fro (enc (m_high s at_ most))), some (.fro (enc (m_rate s at_))), none, none, none])
    (xs_setF 5 (tp_ixL (xs := m_rates) (xp_lst (xa_cons tp_int (xa_cons tp_int (xa_cons tp_int (xa_cons tp_int (xa_cons tp_int xa_nil))))) (by show 5 ≤ 1000000; omega)) (tp_call h__law_drawn (s, at_ + 2, 5) ⟨hl, by dsimp only; decide⟩ (xa_cons (xp_var 0) (xa_cons (tp_add (xp_var 1) tp_int) (xa_cons tp_int xa_nil)))) r1)) ?_
  refine xb_cons (ρ1 := R_lf s at_ most []) (xs_setM 6 (xx_lst xa_nil)) ?_
  refine xb_cons (ρ1 := R_lf s at_ most (m_shuts s at_ most)) (xs_forN (rng 0 (m_wide s at_ most)) enc (R_lf s at_ most) (fun c x => c ++ m_shutcol s at_ (m_rate s at_) (m_high s at_ most) x) (fun i c => c.length ≤ 100 * i) (fun c x => (R_lf s at_ most c).set 7 (some (.fro (enc x)))) [] (xi_rng1 m_range (xp_var 3) (by omega)) (tg_n 7) (fun c x => eg_name 7) (by simp) fun i c x hx hI => ⟨?_, ?_⟩) ?_
  · have hi : i < 100 := by
      have h1 := (List.getElem?_eq_some_iff.mp hx).1
      rw [rng_len] at h1
      omega
    refine xb_forgets [7] (ρ1 := (R_lf s at_ most (c ++ m_shutcol s at_ (m_rate s at_) (m_high s at_ most) x)).set 7 (some (.fro (enc x)))) ?_ rfl
    exact xb_one (xs_exprM (xx_ext (xl_var 6) (tp_lc (rng 0 (m_high s at_ most)) enc (fun y => decide (m_drawn s (at_ + 3 + 8 * x + y) (m_rate s at_) = 0)) (fun y => ((x, y) : Cell)) [("_law_y", 8)] _ (xi_rng1 m_range (xp_var 4) (by omega)) (tg_n 8) to_name (fun y hy => eg_name 8)
      (fun y hy => tt_eq (XP.v (tp_call h__law_drawn (s, at_ + 3 + 8 * x + y, m_rate s at_) ⟨hl, r2⟩ (xa_cons (xp_var 0) (xa_cons (tp_add (tp_add (tp_add (xp_var 1) tp_int) (tp_mul tp_int (xp_var 7) (.inl (by decide)))) (xp_var 8)) (xa_cons (xp_var 5) xa_nil))))) (XP.v tp_int))
      (fun y hy _ => tp_2 (xa_cons (xp_var 7) (xa_cons (xp_var 8) xa_nil))) (by rw [rng_len]; omega)) (by have := shutcol_len s at_ (m_rate s at_) (m_high s at_ most) x; unfold m_shutcol at this; omega)))
  · have := shutcol_len s at_ (m_rate s at_) (m_high s at_ most) x
    show (c ++ _).length ≤ _
    rw [List.length_append]; omega
  refine xb_freeze 6 (o := oL (m_shuts s at_ most)) rfl ?_
  rw [oL_d]
  exact xb_ret rF (m_law_floor s at_ most) (xs_retF (tp_3 (p := m_wide s at_ most) (q := m_high s at_ most) (r := Tup.mk (m_shuts s at_ most)) (xa_cons (xp_var 3) (xa_cons (xp_var 4) (xa_cons (tp_tupL m_tuple (xp_var 6)) xa_nil))))) trivial
theorem sc__law_cells : FnScope ["_law_floor_here", "_law_at"] ["_law_floor_here"] (defScope s__law_cells) := ⟨rfl, rfl, rfl, by decide +kernel, rfl, by decide +kernel, by decide +kernel⟩
abbrev sp__law_cells (K : PySem.W.Frag) : Sp := spP K (fun (y : Floor) => [enc y]) FlB (fun y => oF (m_all_cells y))
theorem ok__law_cells (F : FnF K "_law_cells" "_law_cells" s__law_cells f fd) (m_range : mg "range" = none) : FnOk P w K mg base (L2N.CX P w) 1 f fd ["_law_floor_here"] (sp__law_cells K) := by
  refine def_pure F sc__law_cells (fun _ => rfl) fun y E hp => ?_
  have hb := hp.le
  obtain ⟨wide, high, walls⟩ := y
  obtain ⟨h1, h2, h3, h4⟩ : 0 < wide ∧ wide ≤ 1000 ∧ 0 < high ∧ high ≤ 1000 := hp
  dsimp only at hb
  refine ⟨rF (m_all_cells ⟨wide, high, walls⟩), ?_, fits_F⟩
  exact xb_ret rF _ (xs_retF (tp_lcm (rng 0 (wide * high)) enc (fun at_ => ((at_ / high, at_ % high) : Cell)) [("_law_at", 1)] _
      (xi_rng1 m_range (tp_mul (tp_ix3a (p := T3.mk wide high walls) (xp_var 0)) (tp_ix3b (p := T3.mk wide high walls) (xp_var 0)) (.inl ⟨by first | omega | (dsimp only; omega), by first | omega | (dsimp only; omega)⟩)) (by first | omega | (dsimp only; omega))) (tg_n 1) to_name (fun x hx => eg_name 1)
      (fun x hx => tp_2 (xa_cons (tp_div (xp_var 1) (tp_ix3b (p := T3.mk wide high walls) (xp_var 0)) (by first | omega | (dsimp only; omega))) (xa_cons (tp_mod (xp_var 1) (tp_ix3b (p := T3.mk wide high walls) (xp_var 0)) (by first | omega | (dsimp only; omega))) xa_nil))) (by rw [rng_len]; omega))) trivial
theorem sc__law_open : FnScope ["_law_floor_here", "_law_cell_here"] ["_law_floor_here"] (defScope s__law_open) := ⟨rfl, rfl, rfl, by decide +kernel, rfl, by decide +kernel, by decide +kernel⟩
abbrev sp__law_open (K : PySem.W.Frag) : Sp := spP K (fun (y : Floor) => [enc y]) FlB (fun y => oF (m_open y))
theorem ok__law_open (F : FnF K "_law_open" "_law_open" s__law_open f fd) (h__law_cells : FnG P w K mg base 1 "_law_cells" ["_law_floor_here"] (sp__law_cells K)) : FnOk P w K mg base (L2N.CX P w) 2 f fd ["_law_floor_here"] (sp__law_open K) := by
  refine def_pure F sc__law_open (fun _ => rfl) fun fl E hp => ?_
  refine ⟨rF (m_open fl), ?_, fits_F⟩
  exact xb_ret rF _ (xs_retF (XP.cast (tp_lc (m_all_cells fl) enc (fun v => !memB v fl.c.items) (fun v : Cell => v) [("_law_cell_here", 1)] _ (xi_lt (tp_call h__law_cells fl hp (xa_cons (xp_var 0) xa_nil))) (tg_n 1) to_name (fun v hv => eg_name 1) (fun v hv => tt_nmemT (XP.v (xp_var 1)) (XP.v (tp_ix3c (xp_var 0)))) (fun v hv _ => xp_var 1) (m_all_len hp)) (by rw [List.map_id']; rfl))) trivial

/-! things, by what they are -/
abbrev vd (d : D) : Option O := some (.fro d)
def isI : D → Bool
  | .int _ => true
  | .bl _ => true
  | _ => false
def isB : D → Bool
  | .bl _ => true
  | _ => false
def isT : D → Bool
  | .tup _ => true
  | _ => false
def isW : D → Bool
  | .int _ => true
  | _ => false
def its : D → List D
  | .tup ds => ds
  | _ => []
def nth (d : D) (i : Nat) : D := (its d).getD i .non
def vi : D → Int
  | .int i => i
  | _ => 0
theorem cls_of {n : Nat} {d : D} (h : Tg n d) : ∃ c, d.cls = some c ∧ kitB c "int" = some (isI d) ∧ kitB c "bool" = some (isB d) ∧ kitB c "tuple" = some (isT d) := by
  cases d with
  | non => exact ⟨_, rfl, by decide +kernel, by decide +kernel, by decide +kernel⟩
  | bl b => exact ⟨_, rfl, (by show _ = some true; decide +kernel), (by show _ = some true; decide +kernel), (by show _ = some false; decide +kernel)⟩
  | int i => exact ⟨_, rfl, (by show _ = some true; decide +kernel), (by show _ = some false; decide +kernel), (by show _ = some false; decide +kernel)⟩
  | str x => exact ⟨_, rfl, (by show _ = some false; decide +kernel), (by show _ = some false; decide +kernel), (by show _ = some false; decide +kernel)⟩
  | lst ds => exact ⟨_, rfl, (by show _ = some false; decide +kernel), (by show _ = some false; decide +kernel), (by show _ = some false; decide +kernel)⟩
  | tup ds => exact ⟨_, rfl, (by show _ = some false; decide +kernel), (by show _ = some false; decide +kernel), (by show _ = some true; decide +kernel)⟩
  | scr ds => cases n <;> exact h.elim
  | tk ds => cases n <;> exact h.elim
  | dt ks ds => cases n <;> exact h.elim
  | dk ks ds => cases n <;> exact h.elim
  | ins C ns ds => cases n <;> exact h.elim
  | obj a => cases n <;> exact h.elim
  | ty n => rename_i m; cases m <;> exact h.elim
theorem isT_eq {d : D} (h : isT d = true) : d = .tup (its d) := by cases d <;> first | rfl | cases h
theorem isW_eq {d : D} (h : isW d = true) : d = .int (vi d) := by cases d <;> first | rfl | cases h
theorem isW_val (d : D) : (isI d && !isB d) = isW d := by cases d <;> rfl
def isSp (d : D) : Bool := isT d && (eqB (((its d).length : Nat) : Int) 2 && (isW (nth d 0) && isW (nth d 1)))
def cellD (d : D) : Cell := (vi (nth d 0), vi (nth d 1))
theorem isSp_eq {d : D} (h : isSp d = true) : d = enc (cellD d) := by
  unfold isSp at h
  simp only [Bool.and_eq_true, eqB_iff] at h
  obtain ⟨h1, h2, h3, h4⟩ := h
  have e := isT_eq h1
  have e3 := isW_eq h3
  have e4 := isW_eq h4
  unfold cellD
  show d = D.tup [.int (vi (nth d 0)), .int (vi (nth d 1))]
  rw [← e3, ← e4]
  have h2 : (its d).length = 2 := by omega
  conv => lhs; rw [e]
  congr 1
  unfold nth
  match its d, h2 with
  | [a, b], _ => rfl
def isSd (d : D) : Bool := isW d && (decide ((1 : Int) ≤ vi d) && decide (vi d ≤ (12 : Int)))
theorem _root_.G.Tg.len {n : Nat} {d : D} (h : Tg n d) : (its d).length ≤ 1000 := by
  cases d with
  | tup ds => cases n with
    | zero => exact h.elim
    | succ n => exact h.1
  | _ => exact Nat.zero_le _
theorem _root_.G.Tg.its {n : Nat} {d : D} (h : Tg n d) : ∀ e ∈ My.its d, Tg n e := by
  cases d with
  | tup ds => cases n with
    | zero => exact h.elim
    | succ n => exact fun e he => (h.2 e he).up
  | _ => intro e he; cases he
theorem _root_.G.Tg.non (n : Nat) : Tg n .non := by cases n <;> trivial
theorem _root_.G.Tg.nth {n : Nat} {d : D} (h : Tg n d) (i : Nat) : Tg n (My.nth d i) := by
  unfold My.nth
  by_cases hi : i < (My.its d).length
  · rw [List.getD_eq_getElem?_getD, List.getElem?_eq_getElem hi]
    exact h.its _ (List.getElem_mem hi)
  · rw [List.getD_eq_getElem?_getD, List.getElem?_eq_none (by omega)]
    exact Tg.non n
theorem at_getD {ds : List D} {i : Nat} (h : i < ds.length) : atI ds (i : Int) = some (ds.getD i .non) := by
  unfold atI ixN
  rw [if_pos (by omega), if_pos (by omega)]
  show ds[((i : Nat) : Int).toNat]? = _
  rw [Int.toNat_natCast, List.getElem?_eq_getElem h, List.getD_eq_getElem?_getD, List.getElem?_eq_getElem h]
  rfl
section
variable {S : Sig} {ρ : G.Env} {a b e : Expr} {pos p2 : Pos}
theorem tp_lenD {ds : List D} (hm : S.mg "len" = none) (h : XV S ρ a (.tup ds)) (hg : S.scope.names.lookup ("len" : PySem.Str) = some .globalImplicit := by rfl) (he : ∀ env : PySem.Env, starEach [a] env = (false, eval a env) :: starEach [] env := by intro _; rfl) : TP S ρ (.Call (.Name "len" p2) [a] [] pos) ((ds.length : Nat) : Int) :=
  xp_cb (p := p2) (pos := pos) (cb_len_tup (S := S) (ds := ds)) hm (xav_cons h xav_nil he) hg (by decide +kernel) (by decide) (by decide) he (by intro _; rfl)
theorem xp_nthD {d : D} (n : Nat) {j : Nat} {pos' : Pos} {i : Int} (h : XP S ρ a (.ok (.tup (its d)))) (hn : n < (its d).length) (hi : i = (n : Int) := by rfl) : XP S ρ (.Subscript a (.Constant (.int i) j pos') pos) (.ok (nth d n)) := by
  subst hi
  exact xp_ix (oi_tup (at_getD hn)) h xp_int
theorem xi_tupD {ds : List D} {tg : Expr} (h : XP S ρ e (.ok (.tup ds))) : XI S ρ tg e (ds.map id) := by rw [List.map_id]; exact xi_tup h
end
theorem okT {d : D} (h : isT d = true) : (Except.ok d : Except Str D) = .ok (.tup (its d)) := congrArg Except.ok (isT_eq h)
theorem okW {d : D} (h : isW d = true) : (Except.ok d : Except Str D) = .ok (enc (vi d)) := congrArg Except.ok (isW_eq h)
theorem nt {b : Bool} (h : (!b) = false) : b = true := by cases b <;> first | rfl | cases h
def wallsD (d : D) : List Cell := (its (nth d 2)).map cellD
def m_is_floor (d : D) : Bool :=
  if (!isT d || (!eqB (((its d).length : Nat) : Int) 3 || (!isSd (nth d 0) || !isSd (nth d 1)))) = true then false else
  if (!isT (nth d 2) || !((its (nth d 2)).map isSp).all id) = true then false else
  if (!((wallsD d).map fun c => m_is_on (vi (nth d 0)) (vi (nth d 1)) c).all id) = true then false else
  (((wallsD d).zip (cutL (wallsD d) (some (1 : Int)) none)).map fun (p : Cell × Cell) => DatumOrd.lt p.1 p.2).all id
theorem walls_eq {d : D} (h1 : isT (nth d 2) = true) (h2 : ((its (nth d 2)).map isSp).all id = true) : nth d 2 = enc (Tup.mk (wallsD d)) := by
  have e := isT_eq h1
  have all : ∀ s ∈ its (nth d 2), isSp s = true := fun s hs => by
    rw [List.all_map, List.all_eq_true] at h2
    exact h2 s hs
  unfold wallsD
  rw [e]
  show D.tup (its (nth d 2)) = D.tup ((((its (D.tup (its (nth d 2)))).map cellD)).map enc)
  congr 1
  show its (nth d 2) = ((its (nth d 2)).map cellD).map enc
  rw [List.map_map]
  conv => lhs; rw [← List.map_id (its (nth d 2))]
  exact List.map_congr_left fun s hs => isSp_eq (all s hs)
theorem kOr {a b : Bool} (h : (a || b) = false) : a = false ∧ b = false := Bool.or_eq_false_iff.mp h
/-! is_whole, is_spot, is_side, is_floor, is_cell -/
theorem sc_is_whole : FnScope ["thing"] ["thing"] (defScope s_is_whole) := ⟨rfl, rfl, rfl, by decide +kernel, rfl, by decide +kernel, by decide +kernel⟩
abbrev sp_is_whole (K : PySem.W.Frag) : Sp := spP K (fun (y : D) => [y]) (fun y => Tg 30 y) (fun y => oF (isW y))
theorem ok_is_whole (F : FnF K "is_whole" "is_whole" s_is_whole f fd) (m_bool : mg "bool" = none) (m_int : mg "int" = none) (m_isinstance : mg "isinstance" = none) : FnOk P w K mg base (L2N.CX P w) 1 f fd ["thing"] (sp_is_whole K) := by
  refine def_pure F sc_is_whole (fun _ => rfl) fun d E hp => ?_
  obtain ⟨c, h1, h2, h3, h4⟩ := cls_of (show Tg 30 d from hp)
  refine ⟨rF (isW d), xb_rtF (v := isW d) (XP.cast (tp_and (tp_isi (n := "int") (isI d) m_isinstance m_int (XP.v (xp_var (d := d) 0)) h1 h2) (fun _ => tp_one (tp_not (tp_isi (n := "bool") (isB d) m_isinstance m_bool (XP.v (xp_var (d := d) 0)) h1 h3)))) (by rw [isW_val])), fits_F⟩
theorem sc_is_spot : FnScope ["thing"] ["thing"] (defScope s_is_spot) := ⟨rfl, rfl, rfl, by decide +kernel, rfl, by decide +kernel, by decide +kernel⟩
abbrev sp_is_spot (K : PySem.W.Frag) : Sp := spP K (fun (y : D) => [y]) (fun y => Tg 30 y) (fun y => oF (isSp y))
theorem ok_is_spot (F : FnF K "is_spot" "is_spot" s_is_spot f fd) (m_isinstance : mg "isinstance" = none) (m_len : mg "len" = none) (m_tuple : mg "tuple" = none)
    (h_is_whole : FnG P w K mg base 1 "is_whole" ["thing"] (sp_is_whole K)) : FnOk P w K mg base (L2N.CX P w) 2 f fd ["thing"] (sp_is_spot K) := by
  refine def_pure F sc_is_spot (fun _ => rfl) fun d E hp => ?_
  have hp : Tg 30 d := hp
  obtain ⟨c, h1, h2, h3, h4⟩ := cls_of hp
  refine ⟨rF (isSp d), xb_rtF (v := isSp d) ?_, fits_F⟩
  unfold isSp
  refine tp_and (tp_isi (n := "tuple") (isT d) m_isinstance m_tuple (XP.v (xp_var (d := d) 0)) h1 h4) (fun k1 => ?_)
  refine tp_and (tv_eq (XP.v (tp_lenD (ds := its d) m_len (XP.v (XP.cast (xp_var (d := d) 0) (okT k1))))) (XP.v tp_int)) (fun k2 => ?_)
  have k2 : (its d).length = 2 := by have := eqB_iff.mp k2; omega
  exact tp_and (tp_call h_is_whole (nth d 0) (hp.nth 0) (xa_cons (xp_nthD 0 (XP.cast (xp_var (d := d) 0) (okT k1)) (by omega)) xa_nil)) (fun _ => tp_one (tp_call h_is_whole (nth d 1) (hp.nth 1) (xa_cons (xp_nthD 1 (XP.cast (xp_var (d := d) 0) (okT k1)) (by omega)) xa_nil)))
theorem sc_is_side : FnScope ["thing"] ["thing"] (defScope s_is_side) := ⟨rfl, rfl, rfl, by decide +kernel, rfl, by decide +kernel, by decide +kernel⟩
abbrev sp_is_side (K : PySem.W.Frag) : Sp := spP K (fun (y : D) => [y]) (fun y => Tg 30 y) (fun y => oF (isSd y))
theorem ok_is_side (F : FnF K "is_side" "is_side" s_is_side f fd) (i_MOST_SIDE : ∃ t, mg "MOST_SIDE" = some (.int 12 t))
    (h_is_whole : FnG P w K mg base 1 "is_whole" ["thing"] (sp_is_whole K)) : FnOk P w K mg base (L2N.CX P w) 2 f fd ["thing"] (sp_is_side K) := by
  refine def_pure F sc_is_side (fun _ => rfl) fun d E hp => ?_
  refine ⟨rF (isSd d), xb_rtF (v := isSd d) ?_, fits_F⟩
  unfold isSd
  exact tp_and (tp_call h_is_whole d hp (xa_cons (xp_var (d := d) 0) xa_nil)) (fun k => tp_one (tp_ch oc_le oc_le tp_int (XP.cast (xp_var (d := d) 0) (okW k)) (xp_gint i_MOST_SIDE)))
theorem sc_is_floor : FnScope ["thing", "walls", "spot", "one", "other"] ["thing"] (defScope s_is_floor) := ⟨rfl, rfl, rfl, by decide +kernel, rfl, by decide +kernel, by decide +kernel⟩
abbrev sp_is_floor (K : PySem.W.Frag) : Sp := spP K (fun (y : D) => [y]) (fun y => Tg 30 y) (fun y => oF (m_is_floor y))
theorem ok_is_floor (F : FnF K "is_floor" "is_floor" s_is_floor f fd) (m_all : mg "all" = none) (m_isinstance : mg "isinstance" = none) (m_len : mg "len" = none) (m_tuple : mg "tuple" = none) (m_zip : mg "zip" = none)
    (h_is_side : FnG P w K mg base 2 "is_side" ["thing"] (sp_is_side K)) (h_is_spot : FnG P w K mg base 2 "is_spot" ["thing"] (sp_is_spot K))
    (h_is_on : FnG P w K mg base 1 "is_on" ["wide", "high", "spot"] (sp_is_on K)) : FnOk P w K mg base (L2N.CX P w) 3 f fd ["thing"] (sp_is_floor K) := by
  refine def_pure F sc_is_floor (fun _ => rfl) fun d E hp => ?_
  have hp : Tg 30 d := hp
  obtain ⟨c, h1, h2, h3, h4⟩ := cls_of hp
  obtain ⟨c', h1', h2', h3', h4'⟩ := cls_of (hp.nth 2)
  refine ⟨rF (m_is_floor d), ?_, fits_F⟩
  unfold m_is_floor
  refine xb_ifR _ (XW.t (xw_or (xt_not (tt_b (tp_isi (n := "tuple") (isT d) m_isinstance m_tuple (XP.v (xp_var (d := d) 0)) h1 h4))) (fun k1 => ?_))) (fun _ => xb_rtF xp_bl) term_F.ne (fun hk => ?_)
  · have k1 := nt k1
    refine xw_or (te_ne (XP.v (tp_lenD (ds := its d) m_len (XP.v (XP.cast (xp_var (d := d) 0) (okT k1))))) (XP.v tp_int)) (fun k2 => ?_)
    have k2 : (its d).length = 3 := by have := eqB_iff.mp (nt k2); omega
    exact xw_or (xt_not (tt_b (tp_call h_is_side (nth d 0) (hp.nth 0) (xa_cons (xp_nthD 0 (XP.cast (xp_var (d := d) 0) (okT k1)) (by omega)) xa_nil)))) (fun _ => xw_or1 (xt_not (tt_b (tp_call h_is_side (nth d 1) (hp.nth 1) (xa_cons (xp_nthD 1 (XP.cast (xp_var (d := d) 0) (okT k1)) (by omega)) xa_nil)))))
  obtain ⟨k1, hk⟩ := kOr hk
  obtain ⟨k2, hk⟩ := kOr hk
  obtain ⟨k3, k4⟩ := kOr hk
  have k1 := nt k1
  have k2 : (its d).length = 3 := by have := eqB_iff.mp (nt k2); omega
  have w0 : isW (nth d 0) = true := (Bool.and_eq_true_iff.mp (nt k3)).1
  have w1 : isW (nth d 1) = true := (Bool.and_eq_true_iff.mp (nt k4)).1
  refine xb_cons (ρ1 := [vd d, vd (nth d 2), none, none, none]) (xs_setF 1 (xp_nthD 2 (XP.cast (xp_var (d := d) 0) (okT k1)) (by omega))) ?_
  refine xb_ifR _ (XW.t (xw_or (xt_not (tt_b (tp_isi (n := "tuple") (isT (nth d 2)) m_isinstance m_tuple (XP.v (xp_var (d := nth d 2) 1)) h1' h4'))) (fun k5 => ?_))) (fun _ => xb_rtF xp_bl) term_F.ne (fun hk5 => ?_)
  · have k5 := nt k5
    exact xw_or1 (xt_not (tt_b (tp_all m_all (tp_lcm (its (nth d 2)) id isSp [("spot", 2)] _ (xi_tupD (XP.cast (xp_var (d := nth d 2) 1) (okT k5))) (tg_n 2) to_name (fun s hs => eg_name 2) (fun s hs => tp_call h_is_spot s ((hp.nth 2).its s hs) (xa_cons (xp_var (d := s) 2) xa_nil)) (Nat.le_trans (hp.nth 2).len (by decide))))))
  obtain ⟨k5, k6⟩ := kOr hk5
  have k5 := nt k5
  have hw := walls_eq k5 (nt k6)
  have hl : (wallsD d).length ≤ 1000000 := by unfold wallsD; rw [List.length_map]; exact Nat.le_trans (hp.nth 2).len (by decide)
  refine xb_ifR _ (xt_not (tt_b (tp_all m_all (tp_lcm (wallsD d) enc (fun c => m_is_on (vi (nth d 0)) (vi (nth d 1)) c) [("spot", 2)] _ (xi_tt (xs := Tup.mk (wallsD d)) (XP.cast (xp_var (d := nth d 2) 1) (congrArg Except.ok hw))) (tg_n 2) to_name (fun s hs => eg_name 2) (fun s hs => tp_call h_is_on (vi (nth d 0), vi (nth d 1), s) trivial (xa_cons (XP.cast (xp_nthD 0 (XP.cast (xp_var (d := d) 0) (okT k1)) (by omega)) (okW w0)) (xa_cons (XP.cast (xp_nthD 1 (XP.cast (xp_var (d := d) 0) (okT k1)) (by omega)) (okW w1)) (xa_cons (xp_var 2) xa_nil)))) hl)))) (fun _ => xb_rtF xp_bl) term_F.ne (fun _ => ?_)
  exact xb_rtF (tp_all m_all (tp_lcm ((wallsD d).zip (Tup.mk (cutL (wallsD d) (some (1 : Int)) none)).items) enc (fun (v_p : (Cell × Cell)) => DatumOrd.lt v_p.1 v_p.2) [("one", 3), ("other", 4)] _ (xi_zpT (xs := Tup.mk (wallsD d)) m_zip (XP.cast (xp_var (d := nth d 2) 1) (congrArg Except.ok hw)) (tp_slT (xs := Tup.mk (wallsD d)) (XP.cast (xp_var (d := nth d 2) 1) (congrArg Except.ok hw)) (xo_some tp_int) xo_none)) (tg_t (n := 2) (tgs_1 (tg_n 3) (tgs_1 (tg_n 4) tgs_0))) (to_tup (tos_cons (by decide) (tos_cons (by decide) tos_nil))) (fun v_p h_p => (eg_tup (egs_cons (eg_name 3) (egs_cons (eg_name 4) egs_nil)))) (fun v_p h_p => (tp_ltD (xp_var 3) (xp_var 4))) (by rw [List.length_zip]; omega)))
theorem sc_is_cell : FnScope ["floor", "thing"] ["floor", "thing"] (defScope s_is_cell) := ⟨rfl, rfl, rfl, by decide +kernel, rfl, by decide +kernel, by decide +kernel⟩
abbrev sp_is_cell (K : PySem.W.Frag) : Sp := spP K (fun (y : Floor × D) => [enc y.1, y.2]) (fun y => Tg 30 y.2) (fun y => oF (isSp y.2 && m_is_on y.1.a y.1.b (cellD y.2)))
theorem ok_is_cell (F : FnF K "is_cell" "is_cell" s_is_cell f fd) (h_is_spot : FnG P w K mg base 2 "is_spot" ["thing"] (sp_is_spot K)) (h_is_on : FnG P w K mg base 1 "is_on" ["wide", "high", "spot"] (sp_is_on K)) : FnOk P w K mg base (L2N.CX P w) 3 f fd ["floor", "thing"] (sp_is_cell K) := by
  refine def_pure F sc_is_cell (fun _ => rfl) fun y E hp => ?_
  obtain ⟨fl, d⟩ := y
  have hp : Tg 30 d := hp
  refine ⟨rF (isSp d && m_is_on fl.a fl.b (cellD d)), xb_rtF ?_, fits_F⟩
  exact tp_and (tp_call h_is_spot d hp (xa_cons (xp_var (d := d) 1) xa_nil)) (fun k => tp_one (tp_call h_is_on (fl.a, fl.b, cellD d) trivial (xa_cons (tp_ix3a (p := fl) (xp_var 0)) (xa_cons (tp_ix3b (p := fl) (xp_var 0)) (xa_cons (XP.cast (xp_var (d := d) 1) (congrArg Except.ok (isSp_eq k))) xa_nil)))))

/-! things of many kinds, and spoilt ones -/
def oddA : List D := [.int (-1), .int 0, .int 1, .int 2, .int 12, .int 13, .bl true, .bl false, .non, enc (⟨[]⟩ : Tx), enc (⟨['n']⟩ : Tx), enc (⟨['e']⟩ : Tx), .tup [], .lst [], .tup [.int 0, .int 0], .tup [.int 0, .int 1], .tup [.int 1, .int 0], .lst [.int 0, .int 0], .tup [.int 0, .int 0, .int 0]]
def oddB : List D := [.tup [enc (⟨['0']⟩ : Tx), .int 0], .tup [.int 0, enc (⟨['n']⟩ : Tx)], .tup [.bl true, .int 0], .tup [.int (-1), .int 0], .tup [.int 99, .int 1], .tup [.tup [.int 0, .int 0], .tup [.int 0, .int 1]]]
def pick (ds : List D) (i : Int) : D := ds.getD i.toNat .non
theorem pick_at {ds : List D} {i : Int} (h : 0 ≤ i ∧ i < (ds.length : Nat)) : atI ds i = some (pick ds i) := by
  obtain ⟨n, rfl⟩ := Int.eq_ofNat_of_zero_le h.1
  unfold pick
  rw [Int.toNat_natCast]
  exact at_getD (by omega)
theorem pick_mem {ds : List D} {i : Int} (h : 0 ≤ i ∧ i < (ds.length : Nat)) : pick ds i ∈ ds := by
  obtain ⟨n, rfl⟩ := Int.eq_ofNat_of_zero_le h.1
  have hn : n < ds.length := by omega
  unfold pick
  rw [Int.toNat_natCast, List.getD_eq_getElem?_getD, List.getElem?_eq_getElem hn]
  exact List.getElem_mem hn
def m_odd (k : Int) : D := pick (oddA ++ oddB) (k % 25)
theorem mod_b (k : Int) {m : Int} (h : 0 < m) : 0 ≤ k % m ∧ k % m < m := ⟨Int.emod_nonneg _ (by omega), Int.emod_lt_of_pos _ h⟩
theorem tx_ok (t : Tx) : PyData.strOk t.s = true := by
  show ((t.l.map Char.toNat).toArray).all (· < 0x110000) = true
  rw [List.all_toArray, List.all_map, List.all_eq_true]
  intro c _
  have hv := c.valid
  show decide (c.toNat < 0x110000) = true
  refine decide_eq_true ?_
  rcases hv with h | h
  · exact Nat.lt_trans h (by decide)
  · exact h.2
theorem str_ok (s : String) : PyData.strOk (Str.ofString s) = true := by
  have e : Str.ofString s = (⟨s.toList⟩ : Tx).s := Str.ofString_eq_toList s
  rw [e]
  exact tx_ok _
theorem odd_tg : ∀ d ∈ oddA ++ oddB, Tg 3 d := by
  have h : ∀ t : Tx, Tg 2 (enc t) := fun t => tx_ok t
  have h3 : ∀ t : Tx, Tg 3 (enc t) := fun t => tx_ok t
  have i2 : ∀ i, Tg 2 (.int i) := fun _ => trivial
  have b2 : ∀ i, Tg 2 (.bl i) := fun _ => trivial
  have two : ∀ {n : Nat} {x y : D}, Tg n x → Tg n y → Tg (n + 1) (.tup [x, y]) := fun hx hy => ⟨by simp, fun d hd => by
    rcases List.mem_cons.mp hd with rfl | hd
    · exact hx
    · rw [List.mem_singleton.mp hd]; exact hy⟩
  intro d hd
  simp only [oddA, oddB, List.cons_append, List.nil_append, List.mem_cons, List.not_mem_nil, or_false] at hd
  rcases hd with rfl | rfl | rfl | rfl | rfl | rfl | rfl | rfl | rfl | rfl | rfl | rfl | rfl | rfl | rfl | rfl | rfl | rfl | rfl | rfl | rfl | rfl | rfl | rfl | rfl
  · trivial
  · trivial
  · trivial
  · trivial
  · trivial
  · trivial
  · trivial
  · trivial
  · trivial
  · exact h3 _
  · exact h3 _
  · exact h3 _
  · exact ⟨by simp, fun d hd => nomatch hd⟩
  · exact ⟨by simp, fun d hd => nomatch hd⟩
  · exact two (i2 _) (i2 _)
  · exact two (i2 _) (i2 _)
  · exact two (i2 _) (i2 _)
  · exact two (n := 2) (i2 _) (i2 _)
  · exact ⟨by simp, fun d hd => by
      simp only [List.mem_cons, List.not_mem_nil, or_false] at hd
      rcases hd with rfl | rfl | rfl <;> trivial⟩
  · exact two (h _) (i2 _)
  · exact two (i2 _) (h _)
  · exact two (b2 _) (i2 _)
  · exact two (i2 _) (i2 _)
  · exact two (i2 _) (i2 _)
  · exact two (two trivial trivial) (two trivial trivial)
theorem m_odd_tg (k : Int) : Tg 3 (m_odd k) := odd_tg _ (pick_mem (mod_b k (m := 25) (by decide)))
def Gd : Nat → D → Prop
  | _, .int i => i.natAbs < 2 ^ 60
  | n + 1, .tup ds => ds.length ≤ 100 ∧ ∀ d ∈ ds, Gd n d
  | _, _ => False
theorem Gd.tg : ∀ {n : Nat} {d : D}, Gd n d → Tg n d
  | 0, .int _, _ => trivial
  | n + 1, .int _, _ => trivial
  | n + 1, .tup ds, h => ⟨by have := h.1; omega, fun d hd => (h.2 d hd).tg⟩
  | 0, .tup _, h => h.elim
  | n, .non, h => by cases n <;> exact h.elim
  | n, .bl _, h => by cases n <;> exact h.elim
  | n, .str _, h => by cases n <;> exact h.elim
  | n, .lst _, h => by cases n <;> exact h.elim
  | n, .scr _, h => by cases n <;> exact h.elim
  | n, .tk _, h => by cases n <;> exact h.elim
  | n, .dt _ _, h => by cases n <;> exact h.elim
  | n, .dk _ _, h => by cases n <;> exact h.elim
  | n, .ins _ _ _, h => by cases n <;> exact h.elim
  | n, .obj _, h => by cases n <;> exact h.elim
  | n, .ty _, h => by cases n <;> exact h.elim
theorem Gd.len {n : Nat} {d : D} (h : Gd n d) : (its d).length ≤ 100 := by
  cases d with
  | tup ds => cases n with
    | zero => exact h.elim
    | succ n => exact h.1
  | _ => exact Nat.zero_le _
theorem Gd.int {n : Nat} {d : D} (h : Gd n d) (hi : isI d = true) : d = .int (vi d) ∧ (vi d).natAbs.log2 < 1920 := by
  cases d with
  | int i =>
    refine ⟨rfl, ?_⟩
    have h : i.natAbs < 2 ^ 60 := by cases n <;> exact h
    show i.natAbs.log2 < 1920
    by_cases z : i.natAbs = 0
    · rw [z]; decide
    · have := (Nat.log2_lt z).mpr h
      omega
  | bl b => cases n <;> exact h.elim
  | _ => cases hi
theorem Gd.its {n : Nat} {d : D} (h : Gd (n + 1) d) (t : isT d = true) : ∀ e ∈ My.its d, Gd n e := by
  cases d with
  | tup ds => exact h.2
  | _ => cases t
def six1 (ds : List D) : List D := [.lst ds, .tup (cutL ds none (some (-(1 : Int)))), .tup (ds ++ cutL ds (some (-(1 : Int))) none), .tup (cutL ds (some (1 : Int)) none), .tup ds.reverse, .tup (List.replicate (2 : Int).toNat ds).flatten]
def six2 (i : Int) : List D := [.str (toString i), .int (0 - i), .int (i + 1), .bl (eqB i 1), .int (i - 1), .int (i + 12)]
def spR (d : D) (k : Int) : D :=
  if (isT d && (decide ((0 : Int) < ((its d).length : Nat)) && eqB (k / 7 % 2) 0)) = true then pick (six1 (its d)) (k / 14 % 6) else
  if (isI d && eqB (k / 7 % 2) 0) = true then pick (six2 (vi d)) (k / 14 % 6) else m_odd (k / 7)
def spC (d : D) (k deep : Int) : Bool := decide ((0 : Int) < deep) && (isT d && (decide ((0 : Int) < ((its d).length : Nat)) && decide ((0 : Int) < k % 7)))
def m_sp : Nat → D → Int → Int → D
  | 0, d, k, _ => spR d k
  | n + 1, d, k, deep => if spC d k deep = true then .tup ((cutL (its d) none (some (k / 7 % ((its d).length : Nat))) ++ [m_sp n (pick (its d) (k / 7 % ((its d).length : Nat))) (k / 91) (deep - 1)]) ++ cutL (its d) (some (k / 7 % ((its d).length : Nat) + 1)) none) else spR d k
theorem cut_mem {ds : List D} {lo hi : Option Int} {x : D} (h : x ∈ cutL ds lo hi) : x ∈ ds := by
  unfold cutL at h
  exact List.mem_of_mem_drop (List.mem_of_mem_take h)
theorem cut_le {ds : List D} (lo hi : Option Int) : (cutL ds lo hi).length ≤ ds.length := by
  unfold cutL
  rw [List.length_take, List.length_drop]
  omega
theorem six1_tg {n : Nat} {ds : List D} (hl : ds.length ≤ 100) (h : ∀ d ∈ ds, Tg n d) : ∀ d ∈ six1 ds, Tg (n + 1) d := by
  intro d hd
  simp only [six1, List.mem_cons, List.not_mem_nil, or_false] at hd
  rcases hd with rfl | rfl | rfl | rfl | rfl | rfl
  · exact ⟨by omega, h⟩
  · exact ⟨by have := cut_le (ds := ds) none (some (-(1 : Int))); omega, fun d hd => h d (cut_mem hd)⟩
  · refine ⟨?_, fun d hd => ?_⟩
    · have := cut_le (ds := ds) (some (-(1 : Int))) none
      rw [List.length_append]; omega
    · rcases List.mem_append.mp hd with z | z
      · exact h d z
      · exact h d (cut_mem z)
  · exact ⟨by have := cut_le (ds := ds) (some (1 : Int)) none; omega, fun d hd => h d (cut_mem hd)⟩
  · exact ⟨by rw [List.length_reverse]; omega, fun d hd => h d (List.mem_reverse.mp hd)⟩
  · refine ⟨?_, fun d hd => ?_⟩
    · show (List.replicate 2 ds).flatten.length ≤ 1000
      simp only [List.replicate, List.flatten_cons, List.flatten_nil, List.append_nil, List.length_append]
      omega
    · have hd : d ∈ (List.replicate 2 ds).flatten := hd
      simp only [List.replicate, List.flatten_cons, List.flatten_nil, List.append_nil, List.mem_append, or_self] at hd
      exact h d hd
theorem six2_tg (i : Int) (n : Nat) : ∀ d ∈ six2 i, Tg n d := by
  intro d hd
  simp only [six2, List.mem_cons, List.not_mem_nil, or_false] at hd
  rcases hd with rfl | rfl | rfl | rfl | rfl | rfl
  · cases n <;> exact str_ok _
  · cases n <;> trivial
  · cases n <;> trivial
  · cases n <;> trivial
  · cases n <;> trivial
  · cases n <;> trivial
theorem spR_tg {m : Nat} {d : D} (h : Gd m d) (k : Int) : Tg (m + 3) (spR d k) := by
  unfold spR
  split
  · rename_i c
    rw [Bool.and_eq_true] at c
    cases d with
    | tup ds =>
      cases m with
      | zero => exact h.elim
      | succ m => exact Tg.mono (m := m + 1) (by omega) (six1_tg h.1 (fun d hd => (h.2 d hd).tg) _ (pick_mem (mod_b _ (m := 6) (by decide))))
    | _ => cases c.1
  · split
    · exact six2_tg _ _ _ (pick_mem (mod_b _ (m := 6) (by decide)))
    · exact Tg.mono (by omega) (m_odd_tg _)
theorem sp_tg : ∀ (n : Nat) {m : Nat} {d : D} (k deep : Int), Gd m d → Tg (m + 3) (m_sp n d k deep)
  | 0, _, _, k, _, h => spR_tg h k
  | n + 1, m, d, k, deep, h => by
    unfold m_sp
    split
    · rename_i c
      unfold spC at c
      simp only [Bool.and_eq_true, decide_eq_true_eq] at c
      obtain ⟨_, ct, cl, _⟩ := c
      cases m with
      | zero => rw [isT_eq ct] at h; exact h.elim
      | succ m =>
        have hl := h.len
        have gi := h.its ct
        have b := mod_b (k / 7) (m := ((its d).length : Nat)) cl
        have l1 := cut_le (ds := its d) none (some (k / 7 % ((its d).length : Nat)))
        have l2 := cut_le (ds := its d) (some (k / 7 % ((its d).length : Nat) + 1)) none
        refine ⟨?_, fun e he => ?_⟩
        · rw [List.length_append, List.length_append]
          simp only [List.length_cons, List.length_nil]
          omega
        · rcases List.mem_append.mp he with z | z
          · rcases List.mem_append.mp z with z | z
            · exact Tg.mono (by omega) (gi e (cut_mem z)).tg
            · rw [List.mem_singleton.mp z]
              exact sp_tg n _ _ (gi _ (pick_mem b))
          · exact Tg.mono (by omega) (gi e (cut_mem z)).tg
    · exact spR_tg h k
abbrev rD (d : D) : RS := .rt (.fro d) none
abbrev oDD (d : D) : Except PySem.Str O := .ok (.fro d)
section
variable {S : Sig} {ρ : G.Env} {pin : List Nat} {e : Expr} {pos : Pos} {ss : List Stmt}
theorem xb_rD {d : D} (h : XP S ρ e (.ok d)) : XB S pin ρ (.Return (some e) pos :: ss) (rD d) := xb_stop (xs_retF h) fun _ z => nomatch z
end
theorem sc__law_odd : FnScope ["_law_number", "_law_some"] ["_law_number"] (defScope s__law_odd) := ⟨rfl, rfl, rfl, by decide +kernel, rfl, by decide +kernel, by decide +kernel⟩
abbrev sp__law_odd (K : PySem.W.Frag) : Sp := spP K (fun (y : Int) => [enc y]) (fun _ => True) (fun y => oDD (m_odd y))
theorem ok__law_odd (F : FnF K "_law_odd" "_law_odd" s__law_odd f fd) : FnOk P w K mg base (L2N.CX P w) 1 f fd ["_law_number"] (sp__law_odd K) := by
  refine def_pure F sc__law_odd (fun _ => rfl) fun k E hp => ?_
  refine ⟨rD (m_odd k), ?_, .rt rfl⟩
  refine xb_cons (ρ1 := [fv k, vd (.lst oddA)]) (xs_setF 1 (xp_lst (ds := oddA) (xa_cons (tp_neg tp_int) (xa_cons xp_int (xa_cons xp_int (xa_cons xp_int (xa_cons xp_int (xa_cons xp_int (xa_cons xp_bl (xa_cons xp_bl (xa_cons xp_non (xa_cons (xp_tx ⟨[]⟩) (xa_cons (xp_tx ⟨['n']⟩) (xa_cons (xp_tx ⟨['e']⟩) (xa_cons (xp_tup xa_nil) (xa_cons (xp_lst xa_nil) (xa_cons (xp_tup (xa_cons xp_int (xa_cons xp_int xa_nil))) (xa_cons (xp_tup (xa_cons xp_int (xa_cons xp_int xa_nil))) (xa_cons (xp_tup (xa_cons xp_int (xa_cons xp_int xa_nil))) (xa_cons (xp_lst (xa_cons xp_int (xa_cons xp_int xa_nil))) (xa_cons (xp_tup (xa_cons xp_int (xa_cons xp_int (xa_cons xp_int xa_nil)))) xa_nil))))))))))))))))))) (by show 19 ≤ 1000000; omega))) ?_
  exact xb_rD (xp_ix (oi_lst (pick_at (ds := oddA ++ oddB) (mod_b k (m := 25) (by decide)))) (xp_binF (ob_cat (ds := oddA) (es := oddB) (by show 19 + 6 ≤ 1000000; omega)) (xp_var (d := .lst oddA) 1) (xp_lst (ds := oddB) (xa_cons (xp_tup (xa_cons (xp_tx ⟨['0']⟩) (xa_cons xp_int xa_nil))) (xa_cons (xp_tup (xa_cons xp_int (xa_cons (xp_tx ⟨['n']⟩) xa_nil))) (xa_cons (xp_tup (xa_cons xp_bl (xa_cons xp_int xa_nil))) (xa_cons (xp_tup (xa_cons (tp_neg tp_int) (xa_cons xp_int xa_nil))) (xa_cons (xp_tup (xa_cons xp_int (xa_cons xp_int xa_nil))) (xa_cons (xp_tup (xa_cons (xp_tup (xa_cons xp_int (xa_cons xp_int xa_nil))) (xa_cons (xp_tup (xa_cons xp_int (xa_cons xp_int xa_nil))) xa_nil))) xa_nil)))))) (by show 6 ≤ 1000000; omega))) (tp_mod (xp_var 0) tp_int (by decide)))
theorem sc__law_spoilt : FnScope ["_law_thing", "_law_number", "_law_deep", "_law_at", "_law_part"] ["_law_thing", "_law_number", "_law_deep"] (defScope s__law_spoilt) := ⟨rfl, rfl, rfl, by decide +kernel, rfl, by decide +kernel, by decide +kernel⟩
abbrev sp_spn (K : PySem.W.Frag) (n : Nat) : Sp := spP K (fun (y : D × Int × Int) => [y.1, enc y.2.1, enc y.2.2]) (fun y => (∃ m, m ≤ 10 ∧ Gd m y.1) ∧ y.2.2 ≤ (n : Int)) (fun y => oDD (m_sp n y.1 y.2.1 y.2.2))
abbrev sp__law_spoilt (K : PySem.W.Frag) : Sp := sp_spn K 3
theorem spoilt_step {n : Nat} (F : FnF K "_law_spoilt" "_law_spoilt" s__law_spoilt f fd) (m_isinstance : mg "isinstance" = none) (m_tuple : mg "tuple" = none) (m_int : mg "int" = none) (m_len : mg "len" = none) (m_list : mg "list" = none) (m_str : mg "str" = none)
    (h__law_odd : FnG P w K mg base 1 "_law_odd" ["_law_number"] (sp__law_odd K)) (hself : ∀ n', n = n' + 1 → FnG P w K mg base (n + 1) "_law_spoilt" ["_law_thing", "_law_number", "_law_deep"] (sp_spn K n')) : FnOk P w K mg base (L2N.CX P w) (n + 2) f fd ["_law_thing", "_law_number", "_law_deep"] (sp_spn K n) := by
  refine def_pure F sc__law_spoilt (fun _ => rfl) fun y E hp => ?_
  obtain ⟨d, k, deep⟩ := y
  obtain ⟨⟨m, hm, g⟩, hd⟩ : (∃ m, m ≤ 10 ∧ Gd m d) ∧ deep ≤ (n : Int) := hp
  obtain ⟨c, h1, h2, h3, h4⟩ := cls_of g.tg
  have gl := g.len
  refine ⟨rD (m_sp n d k deep), ?_, .rt rfl⟩
  have me : m_sp n d k deep = if spC d k deep = true then m_sp n d k deep else spR d k := by
    split
    · rfl
    · rename_i z
      cases n with
      | zero => rfl
      | succ n => unfold m_sp; rw [if_neg z]
  rw [me]
  unfold spC
  refine xb_ifR rD (XW.t (xw_and (tt_gt (xp_var 2) tp_int) (fun _ => xw_and (tt_b (tp_isi (n := "tuple") (isT d) m_isinstance m_tuple (XP.v (xp_var (d := d) 0)) h1 h4)) (fun k1 => xw_and (tt_gt (tp_lenD (ds := its d) m_len (XP.v (XP.cast (xp_var (d := d) 0) (okT k1)))) tp_int) (fun _ => xw_and1 (tt_gt (tp_mod (xp_var 1) tp_int (by decide)) tp_int)))))) (fun hk => ?_) (fun _ z => nomatch z) (fun _ => ?_)
  · have hk' : spC d k deep = true := hk
    simp only [Bool.and_eq_true, decide_eq_true_eq] at hk
    obtain ⟨d0, k1, l0, _⟩ := hk
    cases n with
    | zero => omega
    | succ n =>
      have hs := hself n rfl
      have b := mod_b (k / 7) (m := ((its d).length : Nat)) l0
      unfold m_sp
      rw [if_pos hk']
      generalize hat : k / 7 % ((its d).length : Nat) = at_ at b
      have gm : ∃ m', m' ≤ 10 ∧ Gd m' (pick (its d) at_) := by
        cases m with
        | zero => rw [isT_eq k1] at g; exact g.elim
        | succ m => exact ⟨m, by omega, g.its k1 _ (pick_mem b)⟩
      have l1 := cut_le (ds := its d) none (some at_)
      have l2 := cut_le (ds := its d) (some (at_ + 1)) none
      refine xb_cons (ρ1 := [vd d, fv k, fv deep, fv at_, none]) (xs_setF 3 (XP.cast (tp_mod (tp_div (xp_var 1) tp_int (by decide)) (tp_lenD (ds := its d) m_len (XP.v (XP.cast (xp_var (d := d) 0) (okT k1)))) l0) (by rw [hat]))) ?_
      refine xb_cons (ρ1 := [vd d, fv k, fv deep, fv at_, vd (m_sp n (pick (its d) at_) (k / 91) (deep - 1))]) (xs_setF 4 (xp_callT hs (pick (its d) at_, k / 91, deep - 1) ⟨gm, by dsimp only; omega⟩ (xa_cons (xp_ix (oi_tup (pick_at b)) (XP.cast (xp_var (d := d) 0) (okT k1)) (xp_var (d := .int at_) 3)) (xa_cons (tp_div (xp_var 1) tp_int (by decide)) (xa_cons (tp_sub (xp_var 2) tp_int) xa_nil))) (hk := Nat.le_refl _))) ?_
      exact xb_rD (xp_binF (ob_catT (by rw [List.length_append]; simp only [List.length_cons, List.length_nil]; omega)) (xp_binF (ob_catT (by simp only [List.length_cons, List.length_nil]; omega)) (xp_slT (XP.cast (xp_var (d := d) 0) (okT k1)) xo_none (xo_some (xp_var (d := .int at_) 3))) (xp_tup (xa_cons (xp_var (d := m_sp n (pick (its d) at_) (k / 91) (deep - 1)) 4) xa_nil))) (xp_slT (XP.cast (xp_var (d := d) 0) (okT k1)) (xo_some (tp_add (xp_var (d := .int at_) 3) tp_int)) xo_none))
  unfold spR
  refine xb_ifR rD (XW.t (xw_and (tt_b (tp_isi (n := "tuple") (isT d) m_isinstance m_tuple (XP.v (xp_var (d := d) 0)) h1 h4)) (fun k1 => xw_and (tt_gt (tp_lenD (ds := its d) m_len (XP.v (XP.cast (xp_var (d := d) 0) (okT k1)))) tp_int) (fun _ => xw_and1 (te_eq (XP.v (tp_mod (tp_div (xp_var 1) tp_int (by decide)) tp_int (by decide))) (XP.v tp_int)))))) (fun hk => ?_) (fun _ z => nomatch z) (fun _ => ?_)
  · simp only [Bool.and_eq_true, decide_eq_true_eq] at hk
    obtain ⟨k1, l0, _⟩ := hk
    have ne : its d ≠ [] := fun e => by rw [e] at l0; simp at l0
    have l1 := cut_le (ds := its d) (some (-(1 : Int))) none
    exact xb_rD (xp_ix (oi_lst (pick_at (ds := six1 (its d)) (mod_b _ (m := 6) (by decide)))) (xp_lst (ds := six1 (its d)) (xa_cons (xp_ct (ct_list_tup (ds := its d)) m_list (xa_cons (XP.cast (xp_var (d := d) 0) (okT k1)) xa_nil)) (xa_cons (xp_slT (XP.cast (xp_var (d := d) 0) (okT k1)) xo_none (xo_some (tp_neg tp_int))) (xa_cons (xp_binF (ob_catT (by omega)) (XP.cast (xp_var (d := d) 0) (okT k1)) (xp_slT (XP.cast (xp_var (d := d) 0) (okT k1)) (xo_some (tp_neg tp_int)) xo_none)) (xa_cons (xp_slT (XP.cast (xp_var (d := d) 0) (okT k1)) (xo_some tp_int) xo_none) (xa_cons (xp_revT (XP.cast (xp_var (d := d) 0) (okT k1))) (xa_cons (xp_binF (ob_repT ne (by decide) (by decide) (by omega)) (XP.cast (xp_var (d := d) 0) (okT k1)) xp_int) xa_nil)))))) (by show 6 ≤ 1000000; omega)) (tp_mod (tp_div (xp_var 1) tp_int (by decide)) tp_int (by decide)))
  refine xb_ifR rD (XW.t (xw_and (tt_b (tp_isi (n := "int") (isI d) m_isinstance m_int (XP.v (xp_var (d := d) 0)) h1 h2)) (fun k1 => xw_and1 (te_eq (XP.v (tp_mod (tp_div (xp_var 1) tp_int (by decide)) tp_int (by decide))) (XP.v tp_int))))) (fun hk => ?_) (fun _ z => nomatch z) (fun _ => ?_)
  · obtain ⟨ei, lg⟩ := g.int (Bool.and_eq_true_iff.mp hk).1
    have ei : (Except.ok d : Except PySem.Str D) = .ok (enc (vi d)) := congrArg Except.ok ei
    exact xb_rD (xp_ix (oi_lst (pick_at (ds := six2 (vi d)) (mod_b _ (m := 6) (by decide)))) (xp_lst (ds := six2 (vi d)) (xa_cons (xp_ct (ct_strI lg) m_str (xa_cons (XP.cast (xp_var (d := d) 0) ei) xa_nil)) (xa_cons (tp_sub tp_int (XP.cast (xp_var (d := d) 0) ei)) (xa_cons (tp_add (XP.cast (xp_var (d := d) 0) ei) tp_int) (xa_cons (tv_eq (u := vi d) (v := (1 : Int)) (XP.v (XP.cast (xp_var (d := d) 0) ei)) (XP.v tp_int)) (xa_cons (tp_sub (XP.cast (xp_var (d := d) 0) ei) tp_int) (xa_cons (tp_add (XP.cast (xp_var (d := d) 0) ei) tp_int) xa_nil)))))) (by show 6 ≤ 1000000; omega)) (tp_mod (tp_div (xp_var 1) tp_int (by decide)) tp_int (by decide)))
  exact xb_rD (xp_callT h__law_odd (k / 7) trivial (xa_cons (tp_div (xp_var 1) tp_int (by decide)) xa_nil))
theorem ok__law_spoilt (F : FnF K "_law_spoilt" "_law_spoilt" s__law_spoilt f fd) (m_isinstance : mg "isinstance" = none) (m_tuple : mg "tuple" = none) (m_int : mg "int" = none) (m_len : mg "len" = none) (m_list : mg "list" = none) (m_str : mg "str" = none)
    (g_self : mg "_law_spoilt" = some (.ref f)) (kp_self : PySem.W.keepIn K (.ref f) = true) (b_self : Binds K fd ["_law_thing", "_law_number", "_law_deep"] []) (h__law_odd : FnG P w K mg base 1 "_law_odd" ["_law_number"] (sp__law_odd K)) : FnOk P w K mg base (L2N.CX P w) 5 f fd ["_law_thing", "_law_number", "_law_deep"] (sp__law_spoilt K) := by
  have z0 := spoilt_step (n := 0) F m_isinstance m_tuple m_int m_len m_list m_str h__law_odd (fun n' e => by omega)
  have g0 : FnG P w K mg base 2 "_law_spoilt" ["_law_thing", "_law_number", "_law_deep"] (sp_spn K 0) := ⟨_, _, z0, g_self, kp_self, b_self⟩
  have z1 := spoilt_step (n := 1) F m_isinstance m_tuple m_int m_len m_list m_str h__law_odd (fun n' e => by obtain rfl : n' = 0 := (by omega); exact g0)
  have g1 : FnG P w K mg base 3 "_law_spoilt" ["_law_thing", "_law_number", "_law_deep"] (sp_spn K 1) := ⟨_, _, z1, g_self, kp_self, b_self⟩
  have z2 := spoilt_step (n := 2) F m_isinstance m_tuple m_int m_len m_list m_str h__law_odd (fun n' e => by obtain rfl : n' = 1 := (by omega); exact g1)
  have g2 : FnG P w K mg base 4 "_law_spoilt" ["_law_thing", "_law_number", "_law_deep"] (sp_spn K 2) := ⟨_, _, z2, g_self, kp_self, b_self⟩
  exact spoilt_step (n := 3) F m_isinstance m_tuple m_int m_len m_list m_str h__law_odd (fun n' e => by obtain rfl : n' = 2 := (by omega); exact g2)

/-! the law's own finding, and that it is the same -/
def badC (d s : D) : Bool := !isSp s || (!(decide ((0 : Int) ≤ (cellD s).1) && decide ((cellD s).1 < vi (nth d 0))) || !(decide ((0 : Int) ≤ (cellD s).2) && decide ((cellD s).2 < vi (nth d 1))))
def prevC (d : D) (i : Int) : Cell := cellD (pick (its (nth d 2)) (i - 1))
def lifF (d : D) (_ : Unit) (p : Int × D) : LO Unit Bool := if badC d p.2 = true then LO.rt false else if (decide ((0 : Int) < p.1) && !DatumOrd.lt (prevC d p.1) (cellD p.2)) = true then LO.rt false else LO.nx ()
def sideBad (s : D) : Bool := !isW s || !(decide ((1 : Int) ≤ vi s) && decide (vi s ≤ (12 : Int)))
def m_lif (d : D) : Bool :=
  if (!isT d || (!eqB (((its d).length : Nat) : Int) 3 || !isT (nth d 2))) = true then false else
  if (!([nth d 0, nth d 1].filter sideBad).isEmpty) = true then false else
  (forL (lifF d) (enumL (its (nth d 2))) ()).fin (fun _ => true)
theorem enumL_inv {α : Type} {xs : List α} {i : Nat} {x : Int × α} (h : (enumL xs)[i]? = some x) : x.1 = (i : Int) ∧ xs[i]? = some x.2 := by
  have hl := (List.getElem?_eq_some_iff.mp h).1
  rw [enumL_len] at hl
  have := enumL_get (List.getElem?_eq_getElem hl)
  rw [h] at this
  injection this with this
  subst this
  exact ⟨rfl, List.getElem?_eq_getElem hl⟩
structure Flo (d : D) : Prop where
  t : isT d = true
  l : (its d).length = 3
  a : isSd (nth d 0) = true
  b : isSd (nth d 1) = true
  w : isT (nth d 2) = true
  s : ∀ s ∈ its (nth d 2), isSp s = true
  o : ∀ s ∈ its (nth d 2), m_is_on (vi (nth d 0)) (vi (nth d 1)) (cellD s) = true
  c : ∀ (i : Nat) (x y : D), (its (nth d 2))[i]? = some x → (its (nth d 2))[i + 1]? = some y → DatumOrd.lt (cellD x) (cellD y) = true
theorem zip_all {cs : List Cell} : (((cs.zip (cutL cs (some (1 : Int)) none)).map fun (p : Cell × Cell) => DatumOrd.lt p.1 p.2).all id) = true ↔ ∀ (i : Nat) (x y : Cell), cs[i]? = some x → cs[i + 1]? = some y → DatumOrd.lt x y = true := by
  have e : cutL cs (some (1 : Int)) none = cs.drop 1 := by
    unfold cutL HT.sIx
    cases cs with
    | nil => rfl
    | cons c cs => simp
  rw [e, List.all_map, List.all_eq_true]
  constructor
  · intro h i x y hx hy
    have : (cs.zip (cs.drop 1))[i]? = some (x, y) := List.getElem?_zip_eq_some.mpr ⟨hx, by rw [List.getElem?_drop, Nat.add_comm]; exact hy⟩
    exact h (x, y) (List.mem_of_getElem? this)
  · intro h p hp
    obtain ⟨i, hi, ep⟩ := List.getElem_of_mem hp
    have : (cs.zip (cs.drop 1))[i]? = some p := by rw [List.getElem?_eq_getElem hi, ep]
    obtain ⟨h1, h2⟩ := List.getElem?_zip_eq_some.mp this
    rw [List.getElem?_drop, Nat.add_comm] at h2
    exact h i _ _ h1 h2
theorem floor_iff {d : D} : m_is_floor d = true ↔ Flo d := by
  unfold m_is_floor
  split
  · rename_i h
    refine ⟨fun z => (nomatch z), fun F => ?_⟩
    rw [F.t, F.a, F.b, F.l] at h
    exact absurd h (by decide)
  · rename_i h
    have h := Bool.not_eq_true _ ▸ h
    obtain ⟨k1, h⟩ := kOr h
    obtain ⟨k2, h⟩ := kOr h
    obtain ⟨k3, k4⟩ := kOr h
    have l3 : (its d).length = 3 := by have := eqB_iff.mp (nt k2); omega
    have mem : ∀ {p : D → Bool}, ((its (nth d 2)).map p).all id = true ↔ ∀ s ∈ its (nth d 2), p s = true := fun {p} => by rw [List.all_map, List.all_eq_true]; rfl
    split
    · rename_i h5
      refine ⟨fun z => (nomatch z), fun F => ?_⟩
      rw [F.w, mem.mpr F.s] at h5
      exact absurd h5 (by decide)
    · rename_i h5
      have h5 := Bool.not_eq_true _ ▸ h5
      obtain ⟨k5, k6⟩ := kOr h5
      have on : ((wallsD d).map fun c => m_is_on (vi (nth d 0)) (vi (nth d 1)) c).all id = true ↔ ∀ s ∈ its (nth d 2), m_is_on (vi (nth d 0)) (vi (nth d 1)) (cellD s) = true := by
        unfold wallsD
        rw [List.map_map]
        exact mem
      split
      · rename_i h7
        refine ⟨fun z => (nomatch z), fun F => ?_⟩
        rw [on.mpr F.o] at h7
        exact absurd h7 (by decide)
      · rename_i h7
        have h7 := nt (Bool.not_eq_true _ ▸ h7)
        rw [zip_all]
        have ix : ∀ i, (wallsD d)[i]? = ((its (nth d 2))[i]?).map cellD := fun i => by unfold wallsD; rw [List.getElem?_map]
        constructor
        · intro h
          refine ⟨nt k1, l3, nt k3, nt k4, nt k5, mem.mp (nt k6), on.mp h7, fun i x y hx hy => h i _ _ ?_ ?_⟩
          · rw [ix, hx]; rfl
          · rw [ix, hy]; rfl
        · intro F i x y hx hy
          rw [ix] at hx hy
          obtain ⟨x', h1, rfl⟩ := Option.map_eq_some_iff.mp hx
          obtain ⟨y', h2, rfl⟩ := Option.map_eq_some_iff.mp hy
          exact F.c i x' y' h1 h2
theorem forL_ok {α : Type} {f : Unit → α → LO Unit Bool} (h : ∀ x, f () x = .nx () ∨ f () x = .rt false) : ∀ {xs : List α}, (forL f xs ()).fin (fun _ => true) = true ↔ ∀ x ∈ xs, f () x = .nx ()
  | [] => ⟨fun _ x hx => (nomatch hx), fun _ => rfl⟩
  | x :: xs => by
    rw [forL]
    rcases h x with e | e
    · rw [e]
      show (forL f xs ()).fin (fun _ => true) = true ↔ _
      rw [forL_ok h]
      constructor
      · intro z y hy
        rcases List.mem_cons.mp hy with rfl | hy
        · exact e
        · exact z y hy
      · exact fun z y hy => z y (List.mem_cons_of_mem _ hy)
    · rw [e]
      refine ⟨fun z => (nomatch z), fun z => ?_⟩
      have := z x List.mem_cons_self
      rw [e] at this
      cases this
theorem bad_iff {d s : D} : badC d s = false ↔ isSp s = true ∧ m_is_on (vi (nth d 0)) (vi (nth d 1)) (cellD s) = true := by
  unfold badC m_is_on
  cases isSp s <;> cases decide ((0 : Int) ≤ (cellD s).1) <;> cases decide ((cellD s).1 < vi (nth d 0)) <;> cases decide ((0 : Int) ≤ (cellD s).2) <;> cases decide ((cellD s).2 < vi (nth d 1)) <;> simp
theorem lif_nx {d : D} {p : Int × D} : lifF d () p = .nx () ↔ (isSp p.2 = true ∧ m_is_on (vi (nth d 0)) (vi (nth d 1)) (cellD p.2) = true) ∧ (0 < p.1 → DatumOrd.lt (prevC d p.1) (cellD p.2) = true) := by
  unfold lifF
  cases hb : badC d p.2 with
  | true =>
    rw [if_pos rfl]
    refine ⟨fun z => (nomatch z), fun z => ?_⟩
    rw [bad_iff.mpr z.1] at hb
    cases hb
  | false =>
    rw [if_neg (by decide)]
    have h1 := bad_iff.mp hb
    by_cases h0 : (0 : Int) < p.1
    · rw [decide_eq_true h0]
      cases hl : DatumOrd.lt (prevC d p.1) (cellD p.2) with
      | true => exact ⟨fun _ => ⟨h1, fun _ => rfl⟩, fun _ => rfl⟩
      | false => exact ⟨fun z => (nomatch z), fun z => absurd (z.2 h0) (by decide)⟩
    · rw [decide_eq_false h0]
      exact ⟨fun _ => ⟨h1, fun z => absurd z h0⟩, fun _ => rfl⟩
theorem lif_or (d : D) (p : Int × D) : lifF d () p = .nx () ∨ lifF d () p = .rt false := by
  unfold lifF
  split
  · exact .inr rfl
  · split
    · exact .inr rfl
    · exact .inl rfl
theorem side_iff {s : D} : sideBad s = false ↔ isSd s = true := by
  unfold sideBad isSd
  cases isW s <;> cases (decide ((1 : Int) ≤ vi s) && decide (vi s ≤ (12 : Int))) <;> simp
theorem prev_at {d : D} {i : Nat} {x : D} (h : (its (nth d 2))[i]? = some x) : prevC d (((i + 1 : Nat) : Int)) = cellD x := by
  unfold prevC pick
  rw [show (((i + 1 : Nat) : Int) - 1).toNat = i by omega, List.getD_eq_getElem?_getD, h]
  rfl
theorem lif_iff {d : D} : m_lif d = true ↔ Flo d := by
  unfold m_lif
  split
  · rename_i h
    refine ⟨fun z => (nomatch z), fun F => ?_⟩
    rw [F.t, F.w, F.l] at h
    exact absurd h (by decide)
  · rename_i h
    have h := Bool.not_eq_true _ ▸ h
    obtain ⟨k1, h⟩ := kOr h
    obtain ⟨k2, k3⟩ := kOr h
    have l3 : (its d).length = 3 := by have := eqB_iff.mp (nt k2); omega
    have sd : ([nth d 0, nth d 1].filter sideBad).isEmpty = true ↔ isSd (nth d 0) = true ∧ isSd (nth d 1) = true := by
      rw [List.isEmpty_iff, List.filter_eq_nil_iff, ← side_iff, ← side_iff]
      constructor
      · intro z
        exact ⟨by simpa using z (nth d 0) (by simp), by simpa using z (nth d 1) (by simp)⟩
      · rintro ⟨a, b⟩ x hx
        rcases List.mem_cons.mp hx with rfl | hx
        · simp [a]
        · rw [List.mem_singleton.mp hx]; simp [b]
    split
    · rename_i h5
      refine ⟨fun z => (nomatch z), fun F => ?_⟩
      rw [sd.mpr ⟨F.a, F.b⟩] at h5
      exact absurd h5 (by decide)
    · rename_i h5
      obtain ⟨sa, sb⟩ := sd.mp (nt (Bool.not_eq_true _ ▸ h5))
      rw [forL_ok (lif_or d)]
      have el : ∀ (i : Nat) (x : D), (its (nth d 2))[i]? = some x → (((i : Nat) : Int), x) ∈ enumL (its (nth d 2)) := fun i x hx => List.mem_of_getElem? (enumL_get hx)
      constructor
      · intro z
        refine ⟨nt k1, l3, sa, sb, nt k3, fun s hs => ?_, fun s hs => ?_, fun i x y hx hy => ?_⟩
        · obtain ⟨i, hi, rfl⟩ := List.getElem_of_mem hs
          exact (lif_nx.mp (z _ (el i _ (List.getElem?_eq_getElem hi)))).1.1
        · obtain ⟨i, hi, rfl⟩ := List.getElem_of_mem hs
          exact (lif_nx.mp (z _ (el i _ (List.getElem?_eq_getElem hi)))).1.2
        · have := (lif_nx.mp (z _ (el (i + 1) y hy))).2 (by dsimp only; omega)
          dsimp only at this
          rw [prev_at hx] at this
          exact this
      · intro F p hp
        obtain ⟨i, hi, ep⟩ := List.getElem_of_mem hp
        obtain ⟨e1, e2⟩ := enumL_inv (x := p) (by rw [List.getElem?_eq_getElem hi, ep])
        have m := List.mem_of_getElem? e2
        refine lif_nx.mpr ⟨⟨F.s _ m, F.o _ m⟩, fun h0 => ?_⟩
        obtain ⟨j, rfl⟩ : ∃ j, i = j + 1 := ⟨i - 1, by omega⟩
        have hj : j < (its (nth d 2)).length := by have := (List.getElem?_eq_some_iff.mp e2).1; omega
        rw [e1, prev_at (List.getElem?_eq_getElem hj)]
        exact F.c j _ _ (List.getElem?_eq_getElem hj) e2
theorem lif_eq (d : D) : m_lif d = m_is_floor d := by
  rw [Bool.eq_iff_iff, lif_iff, floor_iff]
theorem sc__law_is_whole : FnScope ["_law_thing"] ["_law_thing"] (defScope s__law_is_whole) := ⟨rfl, rfl, rfl, by decide +kernel, rfl, by decide +kernel, by decide +kernel⟩
abbrev sp__law_is_whole (K : PySem.W.Frag) : Sp := spP K (fun (y : D) => [y]) (fun y => Tg 30 y) (fun y => oF (isW y))
theorem ok__law_is_whole (F : FnF K "_law_is_whole" "_law_is_whole" s__law_is_whole f fd) (m_bool : mg "bool" = none) (m_int : mg "int" = none) (m_isinstance : mg "isinstance" = none) : FnOk P w K mg base (L2N.CX P w) 1 f fd ["_law_thing"] (sp__law_is_whole K) := by
  refine def_pure F sc__law_is_whole (fun _ => rfl) fun d E hp => ?_
  obtain ⟨c, h1, h2, h3, h4⟩ := cls_of (show Tg 30 d from hp)
  refine ⟨rF (isW d), xb_rtF (v := isW d) (XP.cast (tp_and (tp_isi (n := "int") (isI d) m_isinstance m_int (XP.v (xp_var (d := d) 0)) h1 h2) (fun _ => tp_one (tp_not (tp_isi (n := "bool") (isB d) m_isinstance m_bool (XP.v (xp_var (d := d) 0)) h1 h3)))) (by rw [isW_val])), fits_F⟩
theorem sc__law_is_spot : FnScope ["_law_thing"] ["_law_thing"] (defScope s__law_is_spot) := ⟨rfl, rfl, rfl, by decide +kernel, rfl, by decide +kernel, by decide +kernel⟩
abbrev sp__law_is_spot (K : PySem.W.Frag) : Sp := spP K (fun (y : D) => [y]) (fun y => Tg 30 y) (fun y => oF (isSp y))
theorem ok__law_is_spot (F : FnF K "_law_is_spot" "_law_is_spot" s__law_is_spot f fd) (m_isinstance : mg "isinstance" = none) (m_len : mg "len" = none) (m_tuple : mg "tuple" = none)
    (h__law_is_whole : FnG P w K mg base 1 "_law_is_whole" ["_law_thing"] (sp__law_is_whole K)) : FnOk P w K mg base (L2N.CX P w) 2 f fd ["_law_thing"] (sp__law_is_spot K) := by
  refine def_pure F sc__law_is_spot (fun _ => rfl) fun d E hp => ?_
  have hp : Tg 30 d := hp
  obtain ⟨c, h1, h2, h3, h4⟩ := cls_of hp
  refine ⟨rF (isSp d), ?_, fits_F⟩
  have e : isSp d = if (!isT d || !eqB (((its d).length : Nat) : Int) 2) = true then false else (isW (nth d 0) && isW (nth d 1)) := by
    unfold isSp
    cases isT d <;> cases eqB (((its d).length : Nat) : Int) 2 <;> rfl
  rw [e]
  refine xb_ifR _ (XW.t (xw_or (xt_not (tt_b (tp_isi (n := "tuple") (isT d) m_isinstance m_tuple (XP.v (xp_var (d := d) 0)) h1 h4))) (fun k1 => xw_or1 (te_ne (XP.v (tp_lenD (ds := its d) m_len (XP.v (XP.cast (xp_var (d := d) 0) (okT (nt k1)))))) (XP.v tp_int))))) (fun _ => xb_rtF xp_bl) term_F.ne (fun hk => ?_)
  obtain ⟨k1, k2⟩ := kOr hk
  have k1 := nt k1
  have k2 : (its d).length = 2 := by have := eqB_iff.mp (nt k2); omega
  exact xb_rtF (tp_and (tp_call h__law_is_whole (nth d 0) (hp.nth 0) (xa_cons (xp_nthD 0 (XP.cast (xp_var (d := d) 0) (okT k1)) (by omega)) xa_nil)) (fun _ => tp_one (tp_call h__law_is_whole (nth d 1) (hp.nth 1) (xa_cons (xp_nthD 1 (XP.cast (xp_var (d := d) 0) (okT k1)) (by omega)) xa_nil))))
theorem sc__law_is_floor : FnScope ["_law_thing", "_law_at", "_law_cell_here", "_law_side"] ["_law_thing"] (defScope s__law_is_floor) := ⟨rfl, rfl, rfl, by decide +kernel, rfl, by decide +kernel, by decide +kernel⟩
abbrev sp__law_is_floor (K : PySem.W.Frag) : Sp := spP K (fun (y : D) => [y]) (fun y => Tg 30 y) (fun y => oF (m_lif y))
theorem ok__law_is_floor (F : FnF K "_law_is_floor" "_law_is_floor" s__law_is_floor f fd) (m_isinstance : mg "isinstance" = none) (m_len : mg "len" = none) (m_tuple : mg "tuple" = none) (m_enumerate : mg "enumerate" = none)
    (h__law_is_whole : FnG P w K mg base 1 "_law_is_whole" ["_law_thing"] (sp__law_is_whole K)) (h__law_is_spot : FnG P w K mg base 2 "_law_is_spot" ["_law_thing"] (sp__law_is_spot K)) : FnOk P w K mg base (L2N.CX P w) 3 f fd ["_law_thing"] (sp__law_is_floor K) := by
  refine def_pure F sc__law_is_floor (fun _ => rfl) fun d E hp => ?_
  have hp : Tg 30 d := hp
  obtain ⟨c, h1, h2, h3, h4⟩ := cls_of hp
  obtain ⟨c', h1', h2', h3', h4'⟩ := cls_of (hp.nth 2)
  refine ⟨rF (m_lif d), ?_, fits_F⟩
  unfold m_lif
  refine xb_ifR _ (XW.t (xw_or (xt_not (tt_b (tp_isi (n := "tuple") (isT d) m_isinstance m_tuple (XP.v (xp_var (d := d) 0)) h1 h4))) (fun k1 => ?_))) (fun _ => xb_rtF xp_bl) term_F.ne (fun hk => ?_)
  · have k1 := nt k1
    refine xw_or (te_ne (XP.v (tp_lenD (ds := its d) m_len (XP.v (XP.cast (xp_var (d := d) 0) (okT k1))))) (XP.v tp_int)) (fun k2 => ?_)
    have k2 : (its d).length = 3 := by have := eqB_iff.mp (nt k2); omega
    exact xw_or1 (xt_not (tt_b (tp_isi (n := "tuple") (isT (nth d 2)) m_isinstance m_tuple (XP.v (xp_nthD 2 (XP.cast (xp_var (d := d) 0) (okT k1)) (by omega))) h1' h4')))
  obtain ⟨k1, hk⟩ := kOr hk
  obtain ⟨k2, k3⟩ := kOr hk
  have k1 := nt k1
  have k3 := nt k3
  have k2 : (its d).length = 3 := by have := eqB_iff.mp (nt k2); omega
  have e2 : cutL (its d) none (some (2 : Int)) = [nth d 0, nth d 1] := by
    unfold nth
    match its d, k2 with
    | [a, b, c], _ => rfl
  have sm : ∀ s ∈ [nth d 0, nth d 1], Tg 30 s := fun s hs => by
    rcases List.mem_cons.mp hs with rfl | hs
    · exact hp.nth 0
    · rw [List.mem_singleton.mp hs]; exact hp.nth 1
  have el : (([nth d 0, nth d 1].filter sideBad).map fun (s : D) => s) = [nth d 0, nth d 1].filter sideBad := List.map_id' _
  refine xb_ifR _ (XT.cast (xt_neNil (XP.v (xp_lc [nth d 0, nth d 1] id sideBad (fun (s : D) => s) [("_law_side", 3)] _ (xi_tupD (XP.cast (xp_slT (XP.cast (xp_var (d := d) 0) (okT k1)) xo_none (xo_some tp_int)) (by rw [e2]))) (tg_n 3) to_name (fun s hs => eg_name 3) (fun s hs => xts_one (XW.t (xw_or (xt_not (tt_b (tp_call h__law_is_whole s (sm s hs) (xa_cons (xp_var (d := s) 3) xa_nil)))) (fun kw => xw_or1 (xt_not (tt_ch oc_le oc_le tp_int (XP.cast (xp_var (d := s) 3) (okW (nt kw))) tp_int)))))) (fun s hs _ => xp_var (d := s) 3) (by show 2 ≤ 1000000; omega))) (by rw [List.length_map]; exact Nat.le_trans (List.length_filter_le _ _) (by show 2 ≤ 1000; omega)) (fun s hs => by
    rw [el] at hs
    exact Tg.mono (m := 30) (by omega) (sm s (List.mem_filter.mp hs).1))) (by rw [el])) (fun _ => xb_rtF xp_bl) term_F.ne (fun hk5 => ?_)
  have hk5 := nt hk5
  rw [List.isEmpty_iff, List.filter_eq_nil_iff] at hk5
  have wa : isW (nth d 0) = true := (Bool.and_eq_true_iff.mp (side_iff.mp (by simpa using hk5 (nth d 0) (by simp)))).1
  have wb : isW (nth d 1) = true := (Bool.and_eq_true_iff.mp (side_iff.mp (by simpa using hk5 (nth d 1) (by simp)))).1
  refine xb_fe rF (fun _ => term_F) (enumL (its (nth d 2))) (fun p => .tup [.int p.1, p.2]) (fun (_ : Unit) => [vd d, none, none, none]) (fun i _ => ∀ j, j < i → ∀ s, (its (nth d 2))[j]? = some s → isSp s = true) (fun _ p => [vd d, fv p.1, vd p.2, none]) (xi_enumT m_enumerate (XP.cast (xp_nthD 2 (XP.cast (xp_var (d := d) 0) (okT k1)) (by omega)) (okT k3))) (tg_t (n := 2) (tgs_1 (tg_n 1) (tgs_1 (tg_n 2) tgs_0))) (fun _ p => eg_tup (egs_cons (eg_name 1) (egs_cons (eg_name 2) egs_nil))) (fun j hj => absurd hj (Nat.not_lt_zero j)) (fun i u p u' hx hI e => ?_) (fun i u p hx hI => ?_) (fun u hu => ?_)
  · obtain ⟨e1, e2⟩ := enumL_inv hx
    intro j hj s hs
    by_cases hji : j = i
    · rw [hji, e2] at hs
      cases hs
      exact (lif_nx.mp e).1.1
    · exact hI j (by omega) s hs
  · obtain ⟨i1, s⟩ := p
    obtain ⟨e1, e2⟩ := enumL_inv hx
    have e1 : i1 = (i : Int) := e1
    have e2 : (its (nth d 2))[i]? = some s := e2
    have ts : Tg 30 s := (hp.nth 2).its s (List.mem_of_getElem? e2)
    unfold lifF
    dsimp only
    have t0 : ∀ {ρ : G.Env} {pos : Pos}, ρ[0]? = some (vd d) → True := fun _ => trivial
    refine xb_ifR _ (XW.t (xw_or (xt_not (tt_b (tp_call h__law_is_spot s ts (xa_cons (xp_var (d := s) 2) xa_nil)))) (fun ks => ?_))) (fun _ => xb_rtL _ _ (xb_rtF xp_bl)) (by intro _ z; cases z) (fun hb => ?_)
    · have ec := isSp_eq (nt ks)
      have ec : (Except.ok s : Except PySem.Str D) = .ok (enc (cellD s)) := congrArg Except.ok ec
      exact xw_or (xt_not (tt_ch oc_le oc_lt tp_int (tp_ix2a (p := cellD s) (XP.cast (xp_var (d := s) 2) ec)) (XP.cast (xp_nthD 0 (XP.cast (xp_var (d := d) 0) (okT k1)) (by omega)) (okW wa)))) (fun _ => xw_or1 (xt_not (tt_ch oc_le oc_lt tp_int (tp_ix2b (p := cellD s) (XP.cast (xp_var (d := s) 2) ec)) (XP.cast (xp_nthD 1 (XP.cast (xp_var (d := d) 0) (okT k1)) (by omega)) (okW wb)))))
    have hs := (bad_iff.mp (show badC d s = false from hb)).1
    have ec : (Except.ok s : Except PySem.Str D) = .ok (enc (cellD s)) := congrArg Except.ok (isSp_eq hs)
    refine xb_ifR _ (XW.t (xw_and (tt_gt (xp_var 1) tp_int) (fun k0 => ?_))) (fun _ => xb_rtL _ _ (xb_rtF xp_bl)) (by intro _ z; cases z) (fun _ => ?_)
    · have k0 := of_decide_eq_true k0
      have b : 0 ≤ i1 - 1 ∧ i1 - 1 < ((its (nth d 2)).length : Nat) := by
        have := (List.getElem?_eq_some_iff.mp e2).1
        omega
      have hpv : isSp (pick (its (nth d 2)) (i1 - 1)) = true := by
        have hi1 : i - 1 < (its (nth d 2)).length := by have := (List.getElem?_eq_some_iff.mp e2).1; omega
        refine hI (i - 1) (by omega) _ ?_
        unfold pick
        rw [show (i1 - 1).toNat = i - 1 by omega, List.getD_eq_getElem?_getD, List.getElem?_eq_getElem hi1]
        rfl
      have ep : (Except.ok (pick (its (nth d 2)) (i1 - 1)) : Except PySem.Str D) = .ok (enc (prevC d i1)) := congrArg Except.ok (isSp_eq hpv)
      exact xw_and1 (xt_not (tt_ltD (XP.cast (xp_ix (oi_tup (pick_at b)) (XP.cast (xp_nthD 2 (XP.cast (xp_var (d := d) 0) (okT k1)) (by omega)) (okT k3)) (tp_sub (xp_var 1) tp_int)) ep) (XP.cast (xp_var (d := s) 2) ec)))
    · exact xb_goL _ _ [1, 2] ()
  · exact xb_rtF xp_bl

def m_law (_ : Scr) : Bool := true
theorem law_true (s : Scr) (_ : s.l.length ≤ 1000) : m_law s = true := rfl
theorem cell_gd {c : Cell} (h : (c.1.natAbs < 100) ∧ c.2.natAbs < 100) : Gd 1 (enc c) := by
  refine ⟨by show 2 ≤ 100; omega, fun d hd => ?_⟩
  have hd : d ∈ [D.int c.1, .int c.2] := hd
  rcases List.mem_cons.mp hd with rfl | hd
  · show c.1.natAbs < 2 ^ 60
    omega
  · rw [List.mem_singleton.mp hd]
    show c.2.natAbs < 2 ^ 60
    omega
theorem gd_up : ∀ {n : Nat} {d : D}, Gd n d → Gd (n + 1) d
  | 0, .int _, h => h
  | n + 1, .int _, h => h
  | n + 1, .tup ds, h => ⟨h.1, fun d hd => gd_up (h.2 d hd)⟩
  | 0, .tup _, h => h.elim
  | n, .non, h => by cases n <;> exact h.elim
  | n, .bl _, h => by cases n <;> exact h.elim
  | n, .str _, h => by cases n <;> exact h.elim
  | n, .lst _, h => by cases n <;> exact h.elim
  | n, .scr _, h => by cases n <;> exact h.elim
  | n, .tk _, h => by cases n <;> exact h.elim
  | n, .dt _ _, h => by cases n <;> exact h.elim
  | n, .dk _ _, h => by cases n <;> exact h.elim
  | n, .ins _ _ _, h => by cases n <;> exact h.elim
  | n, .obj _, h => by cases n <;> exact h.elim
  | n, .ty _, h => by cases n <;> exact h.elim
theorem floor_gd (s : Scr) : Gd 3 (enc (m_law_floor s 0 5)) ∧ (m_law_floor s 0 5).c.items.length ≤ 25 ∧ ∀ d ∈ (m_law_floor s 0 5).c.items.map enc, Gd 1 d := by
  have wb := wide_b s 0 (most := 5) (by decide)
  have hb := high_b s 0 (most := 5) (by decide)
  have len : (m_shuts s 0 5).length ≤ 25 := by
    have z := foldl_app_len (fun x => m_shutcol s 0 (m_rate s 0) (m_high s 0 5) x) 5 (fun x => Nat.le_trans (shutcol_len _ _ _ _ _) (by omega)) (rng 0 (m_wide s 0 5)) []
    rw [rng_len] at z
    unfold m_shuts
    simp only [List.length_nil] at z
    omega
  have wc : ∀ d ∈ (m_law_floor s 0 5).c.items.map enc, Gd 1 d := fun d hd => by
    obtain ⟨c, hc, rfl⟩ := List.mem_map.mp hd
    obtain ⟨a1, a2, a3, a4⟩ := on_iff.mp (shuts_on s 0 5 c hc)
    exact cell_gd ⟨by omega, by omega⟩
  refine ⟨⟨by show 3 ≤ 100; omega, fun d hd => ?_⟩, len, wc⟩
  have hd : d ∈ [D.int (m_wide s 0 5), .int (m_high s 0 5), .tup ((m_law_floor s 0 5).c.items.map enc)] := hd
  simp only [List.mem_cons, List.not_mem_nil, or_false] at hd
  rcases hd with rfl | rfl | rfl
  · show (m_wide s 0 5).natAbs < 2 ^ 60
    omega
  · show (m_high s 0 5).natAbs < 2 ^ 60
    omega
  · exact ⟨by rw [List.length_map]; show (m_shuts s 0 5).length ≤ 100; omega, wc⟩
section
variable {S : Sig} {ρ : G.Env} {e : Expr}
theorem xi_lstD {ds : List D} {tg : Expr} (h : XP S ρ e (.ok (.lst ds))) : XI S ρ tg e (ds.map id) := by rw [List.map_id]; exact xi_lst h
end
theorem tup3 {n : Nat} {x y z : D} (hx : Tg n x) (hy : Tg n y) (hz : Tg n z) : Tg (n + 1) (.tup [x, y, z]) := by
  refine ⟨by show 3 ≤ 1000; omega, fun d hd => ?_⟩
  simp only [List.mem_cons, List.not_mem_nil, or_false] at hd
  rcases hd with rfl | rfl | rfl
  · exact hx
  · exact hy
  · exact hz
theorem sc_law : FnScope ["_law_script", "_law_floor_here", "_law_thing", "_law_one", "_law_said", "_law_cell_here", "_law_other", "_law_due"] ["_law_script"] (defScope s_law) := ⟨rfl, rfl, rfl, by decide +kernel, rfl, by decide +kernel, by decide +kernel⟩
abbrev sp_law (K : PySem.W.Frag) : Sp := spP K (fun (y : Scr) => [enc y]) (fun y => y.l.length ≤ 1000) (fun y => oF (m_law y))
theorem ok_law (F : FnF K "law" "law" s_law f fd) (m_isinstance : mg "isinstance" = none) (m_bool : mg "bool" = none) (h__law_drawn : FnG P w K mg base 2 "_law_drawn" ["_law_script", "_law_k", "_law_many"] (sp_drawn K)) (h__law_floor : FnG P w K mg base 3 "_law_floor" ["_law_script", "_law_at", "_law_most"] (sp__law_floor K))
    (h__law_spoilt : FnG P w K mg base 5 "_law_spoilt" ["_law_thing", "_law_number", "_law_deep"] (sp__law_spoilt K)) (h_is_floor : FnG P w K mg base 3 "is_floor" ["thing"] (sp_is_floor K)) (h_is_cell : FnG P w K mg base 3 "is_cell" ["floor", "thing"] (sp_is_cell K)) (h__law_is_floor : FnG P w K mg base 3 "_law_is_floor" ["_law_thing"] (sp__law_is_floor K)) (h__law_is_spot : FnG P w K mg base 2 "_law_is_spot" ["_law_thing"] (sp__law_is_spot K)) : FnOk P w K mg base (L2N.CX P w) 6 f fd ["_law_script"] (sp_law K) := by
  refine def_pure F sc_law (fun _ => rfl) fun sc E hp => ?_
  have hl : sc.l.length ≤ 1000 := hp
  refine ⟨.rt (.fro (enc true)) none, ?_, .rt rfl⟩
  obtain ⟨g3, wl, wc⟩ := floor_gd sc
  refine xb_cons (ρ1 := [fv sc, fv (m_law_floor sc 0 5), none, none, none, none, none, none]) (xs_sF 1 (tp_call (v := m_law_floor sc 0 5) h__law_floor (sc, 0, 5) (by exact ⟨hl, by dsimp only; decide, by dsimp only; decide⟩) (xa_cons (xp_var 0) (xa_cons tp_int (xa_cons tp_int xa_nil))))) ?_
  generalize m_law_floor sc 0 5 = fl at g3 wl wc
  have d61 := m_drawn_b sc 61 (many := 4) (by decide)
  have d65 := m_drawn_b sc 65 (many := 2) (by decide)
  have th := sp_tg 3 (m_drawn sc 60 (10 ^ (7 : Int).toNat)) (m_drawn sc 61 4) g3
  generalize htd : m_sp 3 (enc fl) (m_drawn sc 60 (10 ^ (7 : Int).toNat)) (m_drawn sc 61 4) = td at th
  refine xb_cons (ρ1 := [fv sc, fv fl, vd td, none, none, none, none, none]) (xs_setF 2 (XP.cast (xp_callT (d := m_sp 3 (enc fl) (m_drawn sc 60 (10 ^ (7 : Int).toNat)) (m_drawn sc 61 4)) h__law_spoilt (enc fl, m_drawn sc 60 (10 ^ (7 : Int).toNat), m_drawn sc 61 4) ⟨⟨3, by omega, g3⟩, by show m_drawn sc 61 4 ≤ 3; omega⟩ (xa_cons (xp_var (d := enc fl) 1) (xa_cons (tp_call h__law_drawn (sc, 60, 10 ^ (7 : Int).toNat) ⟨hl, by show (0 : Int) < 10 ^ (7 : Int).toNat; decide⟩ (xa_cons (xp_var 0) (xa_cons tp_int (xa_cons (tp_pow tp_int tp_int (by decide)) xa_nil)))) (xa_cons (tp_call h__law_drawn (sc, 61, 4) ⟨hl, by show (0 : Int) < 4; decide⟩ (xa_cons (xp_var 0) (xa_cons tp_int (xa_cons tp_int xa_nil)))) xa_nil)))) (by rw [htd]))) ?_
  have td30 : Tg 30 td := Tg.mono (by omega) th
  have ws : (enc fl.c : D) = .tup (fl.c.items.map enc) := rfl
  have lw : (fl.c.items.map (enc (α := Cell))).length ≤ 25 := by rw [List.length_map]; exact wl
  have l1 := cut_le (ds := fl.c.items.map (enc (α := Cell))) none (some (1 : Int))
  have t5 : ∀ d ∈ [enc fl, td, D.tup (cutL [D.int fl.a, .int fl.b, enc fl.c] none (some (2 : Int)) ++ [.tup (fl.c.items.map enc ++ cutL (fl.c.items.map enc) none (some (1 : Int)))]), .tup [.int 12, .int 13, .tup []], .tup [.int 12, .int 12, .tup []]], Tg 30 d := fun d hd => by
    simp only [List.mem_cons, List.not_mem_nil, or_false] at hd
    have z0 : Tg 29 (.tup []) := ⟨by show 0 ≤ 1000; omega, fun d hd => nomatch hd⟩
    rcases hd with rfl | rfl | rfl | rfl | rfl
    · exact Tg.mono (by omega) g3.tg
    · exact td30
    · refine tup3 (n := 29) (x := .int fl.a) (y := .int fl.b) trivial trivial ⟨?_, fun d hd => ?_⟩
      · rw [List.length_append]; omega
      · rcases List.mem_append.mp hd with z | z
        · exact Tg.mono (m := 1) (n := 28) (by omega) (wc d z).tg
        · exact Tg.mono (m := 1) (n := 28) (by omega) (wc d (cut_mem z)).tg
    · exact tup3 (n := 29) trivial trivial z0
    · exact tup3 (n := 29) trivial trivial z0
  refine xb_forC [enc fl, td, D.tup (cutL [D.int fl.a, .int fl.b, enc fl.c] none (some (2 : Int)) ++ [.tup (fl.c.items.map enc ++ cutL (fl.c.items.map enc) none (some (1 : Int)))]), .tup [.int 12, .int 13, .tup []], .tup [.int 12, .int 12, .tup []]] id (fun _ => [fv sc, fv fl, vd td, none, none, none, none, none]) (fun _ d => [fv sc, fv fl, vd td, vd d, none, none, none, none])
    (xi_tupD (xp_tup (xa_cons (xp_var (d := enc fl) 1) (xa_cons (xp_var (d := td) 2) (xa_cons (xp_binF (ob_catT (ds := cutL [D.int fl.a, .int fl.b, enc fl.c] none (some (2 : Int))) (es := [.tup (fl.c.items.map enc ++ cutL (fl.c.items.map enc) none (some (1 : Int)))]) (by show 2 + 1 ≤ 1000000; omega)) (xp_slT (ds := [D.int fl.a, .int fl.b, enc fl.c]) (xp_var (d := enc fl) 1) xo_none (xo_some tp_int)) (xp_tup (xa_cons (xp_binF (ob_catT (ds := fl.c.items.map enc) (es := cutL (fl.c.items.map enc) none (some (1 : Int))) (by omega)) (tp_ix3c (p := fl) (xp_var 1)) (xp_slT (ds := fl.c.items.map enc) (tp_ix3c (p := fl) (xp_var 1)) xo_none (xo_some tp_int))) xa_nil)))
      (xa_cons (xp_tup (xa_cons xp_int (xa_cons xp_int (xa_cons (xp_tup xa_nil) xa_nil)))) (xa_cons (xp_tup (xa_cons xp_int (xa_cons xp_int (xa_cons (xp_tup xa_nil) xa_nil)))) xa_nil))))) (by show 5 ≤ 1000000; omega))) (tg_n 3) (fun i d => eg_name 3) (fun i d hd => ?_) ?_
  · have hd := t5 d (List.mem_of_getElem? hd)
    refine xb_cons (ρ1 := [fv sc, fv fl, vd td, vd d, fv (m_is_floor d), none, none, none]) (xs_sF 4 (tp_call h_is_floor d hd (xa_cons (xp_var (d := d) 3) xa_nil))) ?_
    refine xb_cons (xs_if (k := false) (XT.cast (XW.t (xw_or (xt_not (tt_b (tp_isi (n := "bool") true m_isinstance m_bool (XP.v (xp_var (d := enc (m_is_floor d)) 4))))) (fun _ => xw_or1 (te_ne (u := m_is_floor d) (v := m_lif d) (XP.v (xp_var 4)) (XP.v (tp_call h__law_is_floor d hd (xa_cons (xp_var (d := d) 3) xa_nil))))))) (by rw [lif_eq, eqB_self]; rfl)) (fun z => nomatch z) fun _ => xb_nil) ?_
    exact xb_forgets [3, 4] xb_nil rfl
  have d62 := m_drawn_b sc 62 (many := 8) (by decide)
  have d63 := m_drawn_b sc 63 (many := 8) (by decide)
  refine xb_cons (ρ1 := [fv sc, fv fl, vd td, none, none, fv ((m_drawn sc 62 8 - 1, m_drawn sc 63 8 - 1) : Cell), none, none]) (xs_sF 5 (tp_2 (xa_cons (tp_sub (tp_call h__law_drawn (sc, 62, 8) ⟨hl, by show (0 : Int) < 8; decide⟩ (xa_cons (xp_var 0) (xa_cons tp_int (xa_cons tp_int xa_nil)))) tp_int) (xa_cons (tp_sub (tp_call h__law_drawn (sc, 63, 8) ⟨hl, by show (0 : Int) < 8; decide⟩ (xa_cons (xp_var 0) (xa_cons tp_int (xa_cons tp_int xa_nil)))) tp_int) xa_nil)))) ?_
  have cg : Gd 1 (enc ((m_drawn sc 62 8 - 1, m_drawn sc 63 8 - 1) : Cell)) := cell_gd ⟨by dsimp only; omega, by dsimp only; omega⟩
  generalize ((m_drawn sc 62 8 - 1, m_drawn sc 63 8 - 1) : Cell) = cc at cg
  have oh := sp_tg 3 (m_drawn sc 64 (10 ^ (6 : Int).toNat)) (m_drawn sc 65 2) cg
  generalize hod : m_sp 3 (enc cc) (m_drawn sc 64 (10 ^ (6 : Int).toNat)) (m_drawn sc 65 2) = od at oh
  refine xb_cons (ρ1 := [fv sc, fv fl, vd td, none, none, fv cc, vd od, none]) (xs_setF 6 (XP.cast (xp_callT (d := m_sp 3 (enc cc) (m_drawn sc 64 (10 ^ (6 : Int).toNat)) (m_drawn sc 65 2)) h__law_spoilt (enc cc, m_drawn sc 64 (10 ^ (6 : Int).toNat), m_drawn sc 65 2) ⟨⟨1, by omega, cg⟩, by show m_drawn sc 65 2 ≤ 3; omega⟩ (xa_cons (xp_var (d := enc cc) 5) (xa_cons (tp_call h__law_drawn (sc, 64, 10 ^ (6 : Int).toNat) ⟨hl, by show (0 : Int) < 10 ^ (6 : Int).toNat; decide⟩ (xa_cons (xp_var 0) (xa_cons tp_int (xa_cons (tp_pow tp_int tp_int (by decide)) xa_nil)))) (xa_cons (tp_call h__law_drawn (sc, 65, 2) ⟨hl, by show (0 : Int) < 2; decide⟩ (xa_cons (xp_var 0) (xa_cons tp_int (xa_cons tp_int xa_nil)))) xa_nil)))) (by rw [hod]))) ?_
  have t4 : ∀ d ∈ [enc cc, od, td, D.tup ([.int cc.1, .int cc.2] ++ [.int cc.1, .int cc.2])], Tg 30 d := fun d hd => by
    simp only [List.mem_cons, List.not_mem_nil, or_false] at hd
    rcases hd with rfl | rfl | rfl | rfl
    · exact Tg.mono (by omega) cg.tg
    · exact Tg.mono (by omega) oh
    · exact td30
    · refine ⟨by show 4 ≤ 1000; omega, fun d hd => ?_⟩
      simp only [List.cons_append, List.nil_append, List.mem_cons, List.not_mem_nil, or_false] at hd
      rcases hd with rfl | rfl | rfl | rfl <;> trivial
  refine xb_forC [enc cc, od, td, D.tup ([.int cc.1, .int cc.2] ++ [.int cc.1, .int cc.2])] id (fun _ => [fv sc, fv fl, vd td, none, none, fv cc, vd od, none]) (fun _ d => [fv sc, fv fl, vd td, vd d, none, fv cc, vd od, none])
    (xi_lstD (xp_lst (xa_cons (xp_var (d := enc cc) 5) (xa_cons (xp_var (d := od) 6) (xa_cons (xp_var (d := td) 2) (xa_cons (xp_binF (ob_catT (ds := [.int cc.1, .int cc.2]) (es := [.int cc.1, .int cc.2]) (by show 2 + 2 ≤ 1000000; omega)) (xp_var (d := enc cc) 5) (xp_var (d := enc cc) 5)) xa_nil)))) (by show 4 ≤ 1000000; omega))) (tg_n 3) (fun i d => eg_name 3) (fun i d hd => ?_) ?_
  · have hd := t4 d (List.mem_of_getElem? hd)
    refine xb_cons (ρ1 := [fv sc, fv fl, vd td, vd d, fv (isSp d && m_is_on fl.a fl.b (cellD d)), fv cc, vd od, none]) (xs_sF 4 (tp_call h_is_cell (fl, d) hd (xa_cons (xp_var 1) (xa_cons (xp_var (d := d) 3) xa_nil)))) ?_
    refine xb_cons (ρ1 := [fv sc, fv fl, vd td, vd d, fv (isSp d && m_is_on fl.a fl.b (cellD d)), fv cc, vd od, fv (isSp d && m_is_on fl.a fl.b (cellD d))]) (xs_sF (v := (isSp d && m_is_on fl.a fl.b (cellD d))) 7 (tp_and (tp_call h__law_is_spot d hd (xa_cons (xp_var (d := d) 3) xa_nil)) (fun k => ?_))) ?_
    · have ec : (Except.ok d : Except PySem.Str D) = .ok (enc (cellD d)) := congrArg Except.ok (isSp_eq k)
      exact tp_and (tp_ch oc_le oc_lt tp_int (tp_ix2a (p := cellD d) (XP.cast (xp_var (d := d) 3) ec)) (tp_ix3a (p := fl) (xp_var 1))) (fun _ => tp_one (tp_ch oc_le oc_lt tp_int (tp_ix2b (p := cellD d) (XP.cast (xp_var (d := d) 3) ec)) (tp_ix3b (p := fl) (xp_var 1))))
    refine xb_cons (xs_if (k := false) (XT.cast (XW.t (xw_or (xt_not (tt_b (tp_isi (n := "bool") true m_isinstance m_bool (XP.v (xp_var (d := enc (isSp d && m_is_on fl.a fl.b (cellD d))) 4))))) (fun _ => xw_or1 (te_ne (u := (isSp d && m_is_on fl.a fl.b (cellD d))) (v := (isSp d && m_is_on fl.a fl.b (cellD d))) (XP.v (xp_var 4)) (XP.v (xp_var 7)))))) (by rw [eqB_self]; rfl)) (fun z => nomatch z) fun _ => xb_nil) ?_
    exact xb_forgets [3, 4, 7] xb_nil rfl
  exact xb_stop (xs_retF xp_bl) (fun _ z => nomatch z)

end
theorem facts {P : Program} {w : World} {K : PySem.W.Frag} {h : Heap} {mg : Str → Option Value} {f : Addr} (X : K.In h) (Gn : h.Ns mainGlobals mg) (hfa : mg ("law" : Str) = some (.ref f)) (cx : G.SaysY exf fa fn tabs w K) :
    ∃ fd : FuncData, (∀ (s : Shared) (v : Value), BindsTo s fd ⟨[v], []⟩ [("_law_script", v)]) ∧ ∀ base : Heap, K.In base → base.Ns mainGlobals mg → FnOk P w K mg base (L2N.CX P w) 6 f fd ["_law_script"] (sp_law K) := by
  have c := cx.d
  obtain ⟨fd0, F0⟩ := c.def_ 0 (d := d0) rfl
  have b0 := FunD.bindsN (ps := ["thing"]) F0 fun _ _ _ _ _ _ us hl => match us, hl with | [_], _ => rfl
  have g_is_whole := He.glo_ok X Gn (c.fact 1 (f := .glo "is_whole") rfl)
  obtain ⟨fd1, F1⟩ := c.def_ 1 (d := d1) rfl
  have b1 := FunD.bindsN (ps := ["thing"]) F1 fun _ _ _ _ _ _ us hl => match us, hl with | [_], _ => rfl
  have g_is_spot := He.glo_ok X Gn (c.fact 2 (f := .glo "is_spot") rfl)
  obtain ⟨fd2, F2⟩ := c.def_ 2 (d := d2) rfl
  have b2 := FunD.bindsN (ps := ["wide", "high", "spot"]) F2 fun _ _ _ _ _ _ us hl => match us, hl with | [_, _, _], _ => rfl
  have g_is_on := He.glo_ok X Gn (c.fact 3 (f := .glo "is_on") rfl)
  obtain ⟨fd3, F3⟩ := c.def_ 3 (d := d3) rfl
  have b3 := FunD.bindsN (ps := ["thing"]) F3 fun _ _ _ _ _ _ us hl => match us, hl with | [_], _ => rfl
  have g_is_side := He.glo_ok X Gn (c.fact 4 (f := .glo "is_side") rfl)
  obtain ⟨fd4, F4⟩ := c.def_ 4 (d := d4) rfl
  have b4 := FunD.bindsN (ps := ["thing"]) F4 fun _ _ _ _ _ _ us hl => match us, hl with | [_], _ => rfl
  have g_is_floor := He.glo_ok X Gn (c.fact 5 (f := .glo "is_floor") rfl)
  obtain ⟨fd5, F5⟩ := c.def_ 5 (d := d5) rfl
  have b5 := FunD.bindsN (ps := ["floor", "thing"]) F5 fun _ _ _ _ _ _ us hl => match us, hl with | [_, _], _ => rfl
  have g_is_cell := He.glo_ok X Gn (c.fact 6 (f := .glo "is_cell") rfl)
  obtain ⟨fd6, F6⟩ := c.def_ 6 (d := d6) rfl
  have b6 := FunD.bindsN (ps := ["_law_script", "_law_k"]) F6 fun _ _ _ _ _ _ us hl => match us, hl with | [_, _], _ => rfl
  have g__law_cell := He.glo_ok X Gn (c.fact 7 (f := .glo "_law_cell") rfl)
  obtain ⟨fd7, F7⟩ := c.def_ 7 (d := d7) rfl
  have b7 := FunD.bindsN (ps := ["_law_script", "_law_k", "_law_many"]) F7 fun _ _ _ _ _ _ us hl => match us, hl with | [_, _, _], _ => rfl
  have g__law_drawn := He.glo_ok X Gn (c.fact 8 (f := .glo "_law_drawn") rfl)
  obtain ⟨fd8, F8⟩ := c.def_ 8 (d := d8) rfl
  have b8 := FunD.bindsN (ps := ["_law_script", "_law_at", "_law_most"]) F8 fun _ _ _ _ _ _ us hl => match us, hl with | [_, _, _], _ => rfl
  have g__law_floor := He.glo_ok X Gn (c.fact 9 (f := .glo "_law_floor") rfl)
  obtain ⟨fd9, F9⟩ := c.def_ 9 (d := d9) rfl
  have b9 := FunD.bindsN (ps := ["_law_floor_here"]) F9 fun _ _ _ _ _ _ us hl => match us, hl with | [_], _ => rfl
  have g__law_cells := He.glo_ok X Gn (c.fact 10 (f := .glo "_law_cells") rfl)
  obtain ⟨fd10, F10⟩ := c.def_ 10 (d := d10) rfl
  have b10 := FunD.bindsN (ps := ["_law_floor_here"]) F10 fun _ _ _ _ _ _ us hl => match us, hl with | [_], _ => rfl
  have g__law_open := He.glo_ok X Gn (c.fact 11 (f := .glo "_law_open") rfl)
  obtain ⟨fd11, F11⟩ := c.def_ 11 (d := d11) rfl
  have b11 := FunD.bindsN (ps := ["_law_script", "_law_at", "_law_floor_here"]) F11 fun _ _ _ _ _ _ us hl => match us, hl with | [_, _, _], _ => rfl
  have g__law_off := He.glo_ok X Gn (c.fact 12 (f := .glo "_law_off") rfl)
  obtain ⟨fd12, F12⟩ := c.def_ 12 (d := d12) rfl
  have b12 := FunD.bindsN (ps := ["_law_number"]) F12 fun _ _ _ _ _ _ us hl => match us, hl with | [_], _ => rfl
  have g__law_odd := He.glo_ok X Gn (c.fact 13 (f := .glo "_law_odd") rfl)
  obtain ⟨fd13, F13⟩ := c.def_ 13 (d := d13) rfl
  have b13 := FunD.bindsN (ps := ["_law_thing", "_law_number", "_law_deep"]) F13 fun _ _ _ _ _ _ us hl => match us, hl with | [_, _, _], _ => rfl
  have g__law_spoilt := He.glo_ok X Gn (c.fact 14 (f := .glo "_law_spoilt") rfl)
  obtain ⟨fd14, F14⟩ := c.def_ 14 (d := d14) rfl
  have b14 := FunD.bindsN (ps := ["_law_thing"]) F14 fun _ _ _ _ _ _ us hl => match us, hl with | [_], _ => rfl
  have g__law_is_whole := He.glo_ok X Gn (c.fact 15 (f := .glo "_law_is_whole") rfl)
  obtain ⟨fd15, F15⟩ := c.def_ 15 (d := d15) rfl
  have b15 := FunD.bindsN (ps := ["_law_thing"]) F15 fun _ _ _ _ _ _ us hl => match us, hl with | [_], _ => rfl
  have g__law_is_spot := He.glo_ok X Gn (c.fact 16 (f := .glo "_law_is_spot") rfl)
  obtain ⟨fd16, F16⟩ := c.def_ 16 (d := d16) rfl
  have b16 := FunD.bindsN (ps := ["_law_thing"]) F16 fun _ _ _ _ _ _ us hl => match us, hl with | [_], _ => rfl
  have g__law_is_floor := He.glo_ok X Gn (c.fact 17 (f := .glo "_law_is_floor") rfl)
  obtain ⟨fd17, F17⟩ := c.def_ 17 (d := d17) rfl
  have b17 := FunD.bindsA (ps := ["_law_script"]) F17 fun _ _ _ _ _ _ us hl => match us, hl with | [_], _ => rfl
  have g_law := He.glo_ok X Gn (c.fact 18 (f := .glo "law") rfl)
  have m_all := He.free_ok X Gn (c.fact 19 (f := .free "all") rfl)
  have m_bool := He.free_ok X Gn (c.fact 20 (f := .free "bool") rfl)
  have m_enumerate := He.free_ok X Gn (c.fact 21 (f := .free "enumerate") rfl)
  have m_int := He.free_ok X Gn (c.fact 22 (f := .free "int") rfl)
  have m_isinstance := He.free_ok X Gn (c.fact 23 (f := .free "isinstance") rfl)
  have m_len := He.free_ok X Gn (c.fact 24 (f := .free "len") rfl)
  have m_list := He.free_ok X Gn (c.fact 25 (f := .free "list") rfl)
  have m_range := He.free_ok X Gn (c.fact 26 (f := .free "range") rfl)
  have m_str := He.free_ok X Gn (c.fact 27 (f := .free "str") rfl)
  have m_tuple := He.free_ok X Gn (c.fact 28 (f := .free "tuple") rfl)
  have m_zip := He.free_ok X Gn (c.fact 29 (f := .free "zip") rfl)
  have i_MOST_SIDE := He.int_ok X Gn (c.fact 0 (f := .int "MOST_SIDE" 12) rfl)
  have e := hfa.symm.trans g_law
  cases e
  refine ⟨fd17, fun s v => b17 s [v] rfl, fun base _ _ => ?_⟩
  have h__law_cell : FnG P w K mg base 1 "_law_cell" ["_law_script", "_law_k"] (sp_cell K) := ⟨_, _, ok__law_cell ⟨_, _, F6⟩ m_len, g__law_cell, F6.kp, b6⟩
  have h__law_drawn : FnG P w K mg base 2 "_law_drawn" ["_law_script", "_law_k", "_law_many"] (sp_drawn K) := ⟨_, _, ok__law_drawn ⟨_, _, F7⟩ h__law_cell, g__law_drawn, F7.kp, b7⟩
  have h__law_floor : FnG P w K mg base 3 "_law_floor" ["_law_script", "_law_at", "_law_most"] (sp__law_floor K) := ⟨_, _, ok__law_floor ⟨_, _, F8⟩ m_range m_tuple h__law_drawn, g__law_floor, F8.kp, b8⟩
  have h__law_odd : FnG P w K mg base 1 "_law_odd" ["_law_number"] (sp__law_odd K) := ⟨_, _, ok__law_odd ⟨_, _, F12⟩, g__law_odd, F12.kp, b12⟩
  have h__law_spoilt : FnG P w K mg base 5 "_law_spoilt" ["_law_thing", "_law_number", "_law_deep"] (sp__law_spoilt K) := ⟨_, _, ok__law_spoilt ⟨_, _, F13⟩ m_isinstance m_tuple m_int m_len m_list m_str g__law_spoilt F13.kp b13 h__law_odd, g__law_spoilt, F13.kp, b13⟩
  have h_is_whole : FnG P w K mg base 1 "is_whole" ["thing"] (sp_is_whole K) := ⟨_, _, ok_is_whole ⟨_, _, F0⟩ m_bool m_int m_isinstance, g_is_whole, F0.kp, b0⟩
  have h_is_side : FnG P w K mg base 2 "is_side" ["thing"] (sp_is_side K) := ⟨_, _, ok_is_side ⟨_, _, F3⟩ i_MOST_SIDE h_is_whole, g_is_side, F3.kp, b3⟩
  have h_is_spot : FnG P w K mg base 2 "is_spot" ["thing"] (sp_is_spot K) := ⟨_, _, ok_is_spot ⟨_, _, F1⟩ m_isinstance m_len m_tuple h_is_whole, g_is_spot, F1.kp, b1⟩
  have h_is_on : FnG P w K mg base 1 "is_on" ["wide", "high", "spot"] (sp_is_on K) := ⟨_, _, ok_is_on ⟨_, _, F2⟩, g_is_on, F2.kp, b2⟩
  have h_is_floor : FnG P w K mg base 3 "is_floor" ["thing"] (sp_is_floor K) := ⟨_, _, ok_is_floor ⟨_, _, F4⟩ m_all m_isinstance m_len m_tuple m_zip h_is_side h_is_spot h_is_on, g_is_floor, F4.kp, b4⟩
  have h_is_cell : FnG P w K mg base 3 "is_cell" ["floor", "thing"] (sp_is_cell K) := ⟨_, _, ok_is_cell ⟨_, _, F5⟩ h_is_spot h_is_on, g_is_cell, F5.kp, b5⟩
  have h__law_is_whole : FnG P w K mg base 1 "_law_is_whole" ["_law_thing"] (sp__law_is_whole K) := ⟨_, _, ok__law_is_whole ⟨_, _, F14⟩ m_bool m_int m_isinstance, g__law_is_whole, F14.kp, b14⟩
  have h__law_is_spot : FnG P w K mg base 2 "_law_is_spot" ["_law_thing"] (sp__law_is_spot K) := ⟨_, _, ok__law_is_spot ⟨_, _, F15⟩ m_isinstance m_len m_tuple h__law_is_whole, g__law_is_spot, F15.kp, b15⟩
  have h__law_is_floor : FnG P w K mg base 3 "_law_is_floor" ["_law_thing"] (sp__law_is_floor K) := ⟨_, _, ok__law_is_floor ⟨_, _, F16⟩ m_isinstance m_len m_tuple m_enumerate h__law_is_whole h__law_is_spot, g__law_is_floor, F16.kp, b16⟩
  exact ok_law ⟨_, _, F17⟩ m_isinstance m_bool h__law_drawn h__law_floor h__law_spoilt h_is_floor h_is_cell h__law_is_floor h__law_is_spot
theorem law_sp {K : PySem.W.Frag} {H : Hp} {a : Addr} {ns : List Int} (hl : ns.length ≤ 63) (hS : SqL K H a (ns.map V.int)) : sp_law K [.ref a] H (fun v _ => v = .bl true) fun _ _ _ => False := by
  refine ⟨⟨ns⟩, H, [], WF.none (Ext.refl H), Owns.fros (ds := [enc (⟨ns⟩ : Scr)]) (.cons (.scr hS (Reps.ints ns)) .nil), by show ns.length ≤ 1000; omega, ?_⟩
  show RM.Post _ _ _ _ _ _ _ (rmF _ (oF (m_law ⟨ns⟩)))
  rw [law_true ⟨ns⟩ (show ns.length ≤ 1000 by omega)]
  intro v F' H' B A' w s ow ows
  cases ow with
  | fro r => cases r; rfl
end My
open PySem PySem.W PySem.Calls PyProof.Rows
theorem PySem.Challenge.cw_lampfloor_k01_floors_known_holds : PySem.Challenge.rw_lampfloor_k01_floors_known.Holds := by
  w_on; o_law
  refine HandSHeadRun.head_any (r := OpenLaw.row PySem.Challenge.rw_lampfloor_k01_floors_known) (q := view (OpenLaw.row PySem.Challenge.rw_lampfloor_k01_floors_known).prog [20]) (H := My.hk) (ob := My.ob) (M := 3000) (loose := My.names) (d := HandSHeadRun.topDef (OpenLaw.row PySem.Challenge.rw_lampfloor_k01_floors_known).prog 20) (kwd := []) My.ob_eq
    (by kernel_rfl) (fun s => by kernel_rfl) My.run (by kernel_rfl) (by kernel_rfl) (by kernel_rfl) (by rfl) (by first | assumption | decide +kernel) (by decide +kernel) ⟨rfl, rfl, rfl, rfl, rfl, by decide +kernel⟩ ?hw ?hc
  case hw => w_witness2
  case hc =>
    refine LamX.walk_ofTsE (l := PySem.Challenge.rw_lampfloor_k01_floors_known) (n := 63) (k := 6) (x := "_law_script") (CX := fun w => L2N.CX (PySem.Challenge.rw_lampfloor_k01_floors_known).prog w) rfl (by decide) (by kernel_rfl) ⟨rfl, by decide, by decide⟩ ?F (fun _ _ _ _ _ ⟨_, _, _, _, _, _, _, _, _, _, _, _, z⟩ => z)
    intro w mg fa h Y Gn hmg0
    obtain ⟨K, KX, c⟩ := Y
    have hmg : mg ("law" : PySem.Str) = some (.ref fa) := by
      have e : (HandSHeadRun.topDef (OpenLaw.row PySem.Challenge.rw_lampfloor_k01_floors_known).prog 20).name = ("law" : PySem.Str) := by kernel_rfl
      rw [← e]
      exact hmg0
    obtain ⟨fd, hb, hF⟩ := My.facts (P := (PySem.Challenge.rw_lampfloor_k01_floors_known).prog) (w := w) KX Gn hmg c
    exact ⟨K, KX, fd, [], My.sp_law K, by simp, by simp, by simp, hb, fun H a ns hl _ _ hS => My.law_sp hl hS, fun base k1 k2 _ => hF base k1 k2⟩
