import PyProof.Rows.All
import Wide.All
import OpenK.AllK
import Wide.FinOn
import HandS.ForMost
import HandS.ForExc
import HandS.TupAny
import HandS.IsInst
import HandS.Flow
import HandS.Style
import HandS.DictComp
import HandS.Defaults
import HandS.StrMore
import HandS.FStr
import HandS.Zip
import HandS.Conv
import HandS.Wide
import HandS.RaiseMore
import HandS.WideMore
import KE.SortData
import HandS.MakeKwOnly
import PySem.Challenge.RW_dressedkinds_k07_numbers_in_letters
set_option Elab.async false
set_option linter.all false
set_option maxRecDepth 100000
set_option maxHeartbeats 4000000
/-! A layer of plain data over the hand layer: values as trees (D), what stands still (I) and what may turn, readings over data. -/
namespace Dk
open PySem L2

/-- plain data -/
inductive D where
  | non | bl (b : Bool) | int (i : Int) | str (x : Str)
  | tup (xs : List D) | lst (xs : List D) | dic (kvs : List (Key × D))
  | obj (C : Addr) (fs : List (Str × D)) | opq (a : Addr)

mutual
/-- the value v is the datum d, by the objects that stand still -/
inductive Rep (K : PySem.W.Frag) (I : Hp) : V → D → Prop
  | non : Rep K I .non .non
  | bl (b : Bool) : Rep K I (.bl b) (.bl b)
  | int (i : Int) : Rep K I (.int i) (.int i)
  | str (x : Str) : Rep K I (.str x) (.str x)
  | tup {a : Addr} {vs : List V} {ds : List D} : SqT K I a vs → Reps K I vs ds → Rep K I (.ref a) (.tup ds)
  | lst {a : Addr} {vs : List V} {ds : List D} : I a = some (.lst vs) → Reps K I vs ds → Rep K I (.ref a) (.lst ds)
  | dic {a : Addr} {kvs : List (Key × V)} {ds : List (Key × D)} : I a = some (.dK kvs) → kvs.map (·.1) = ds.map (·.1) → Reps K I (kvs.map (·.2)) (ds.map (·.2)) → Rep K I (.ref a) (.dic ds)
  | obj {a C dx : Addr} {fs : List (Str × V)} {ds : List (Str × D)} : I a = some (.ins C dx fs) → fs.map (·.1) = ds.map (·.1) → Reps K I (fs.map (·.2)) (ds.map (·.2)) → Rep K I (.ref a) (.obj C ds)
  | opq (a : Addr) : Rep K I (.ref a) (.opq a)
inductive Reps (K : PySem.W.Frag) (I : Hp) : List V → List D → Prop
  | nil : Reps K I [] []
  | cons {v : V} {vs : List V} {d : D} {ds : List D} : Rep K I v d → Reps K I vs ds → Reps K I (v :: vs) (d :: ds)
end

theorem Same.seqT {K : PySem.W.Frag} {H H' : Hp} {a : Addr} {xs : List V} (e : Same H H') (h : SqT K H a xs) : SqT K H' a xs := by
  rcases h with (h | ⟨o, h⟩) | h
  · exact .inl (.inl (e _ _ h))
  · exact .inl (.inr ⟨o, e _ _ h⟩)
  · exact .inr h
mutual
theorem Rep.mono {K : PySem.W.Frag} {I I' : Hp} (s : Same I I') : ∀ {v : V} {d : D}, Rep K I v d → Rep K I' v d
  | _, _, .non => .non
  | _, _, .bl b => .bl b
  | _, _, .int i => .int i
  | _, _, .str x => .str x
  | _, _, .tup h r => .tup (Same.seqT s h) (Reps.mono s r)
  | _, _, .lst h r => .lst (s _ _ h) (Reps.mono s r)
  | _, _, .dic h k r => .dic (s _ _ h) k (Reps.mono s r)
  | _, _, .obj h k r => .obj (s _ _ h) k (Reps.mono s r)
  | _, _, .opq a => .opq a
theorem Reps.mono {K : PySem.W.Frag} {I I' : Hp} (s : Same I I') : ∀ {vs : List V} {ds : List D}, Reps K I vs ds → Reps K I' vs ds
  | _, _, .nil => .nil
  | _, _, .cons h r => .cons (Rep.mono s h) (Reps.mono s r)
end
section
variable {K : PySem.W.Frag} {I : Hp}
theorem Reps.length {vs : List V} {ds : List D} (h : Reps K I vs ds) : vs.length = ds.length := by
  induction vs generalizing ds with
  | nil => cases h; rfl
  | cons v vs ih => cases h with | cons a b => simp [ih b]
theorem Reps.get {vs : List V} {ds : List D} {i : Nat} {d : D} (h : Reps K I vs ds) (e : ds[i]? = some d) : ∃ v, vs[i]? = some v ∧ Rep K I v d := by
  induction vs generalizing ds i with
  | nil => cases h; simp at e
  | cons v vs ih =>
    cases h with
    | cons a b =>
      cases i with
      | zero => simp at e; subst e; exact ⟨v, rfl, a⟩
      | succ i => simp at e; obtain ⟨w, h1, h2⟩ := ih b e; exact ⟨w, by simpa using h1, h2⟩
theorem Reps.getV {vs : List V} {ds : List D} {i : Nat} {v : V} (h : Reps K I vs ds) (e : vs[i]? = some v) : ∃ d, ds[i]? = some d ∧ Rep K I v d := by
  induction vs generalizing ds i with
  | nil => simp at e
  | cons w vs ih =>
    cases h with
    | cons a b =>
      cases i with
      | zero => simp at e; subst e; exact ⟨_, rfl, a⟩
      | succ i => simp at e; obtain ⟨w, h1, h2⟩ := ih b e; exact ⟨w, by simpa using h1, h2⟩
theorem Reps.append {vs ws : List V} {ds es : List D} (h : Reps K I vs ds) (h' : Reps K I ws es) : Reps K I (vs ++ ws) (ds ++ es) := by
  induction vs generalizing ds with
  | nil => cases h; exact h'
  | cons v vs ih => cases h with | cons a b => exact .cons a (ih b)
theorem Reps.take {vs : List V} {ds : List D} (n : Nat) (h : Reps K I vs ds) : Reps K I (vs.take n) (ds.take n) := by
  induction vs generalizing ds n with
  | nil => cases h; simp; exact .nil
  | cons v vs ih =>
    cases h with
    | cons a b =>
      cases n with
      | zero => exact .nil
      | succ n => exact .cons a (ih n b)
theorem Reps.drop {vs : List V} {ds : List D} (n : Nat) (h : Reps K I vs ds) : Reps K I (vs.drop n) (ds.drop n) := by
  induction vs generalizing ds n with
  | nil => cases h; simp; exact .nil
  | cons v vs ih =>
    cases h with
    | cons a b =>
      cases n with
      | zero => exact .cons a b
      | succ n => exact ih n b
theorem Reps.reverse {vs : List V} {ds : List D} (h : Reps K I vs ds) : Reps K I vs.reverse ds.reverse := by
  induction vs generalizing ds with
  | nil => cases h; exact .nil
  | cons v vs ih => cases h with | cons a b => rw [List.reverse_cons, List.reverse_cons]; exact (ih b).append (.cons a .nil)
theorem Reps.set {vs : List V} {ds : List D} {v : V} {d : D} (i : Nat) (h : Reps K I vs ds) (r : Rep K I v d) : Reps K I (vs.set i v) (ds.set i d) := by
  induction vs generalizing ds i with
  | nil => cases h; exact .nil
  | cons w vs ih =>
    cases h with
    | cons a b =>
      cases i with
      | zero => exact .cons r b
      | succ i => exact .cons a (ih i b)
theorem Reps.cut {vs : List V} {ds : List D} (h : Reps K I vs ds) (lo hi : Option Int) : Reps K I (cutV vs lo hi) ((ds.drop (HT.sIx ds.length 0 lo)).take (HT.sIx ds.length ds.length hi - HT.sIx ds.length 0 lo)) := by
  unfold cutV
  rw [h.length]
  exact (h.drop _).take _
theorem Reps.of_get {vs : List V} {ds : List D} (hl : vs.length = ds.length) (h : ∀ (i : Nat) (v : V) (d : D), vs[i]? = some v → ds[i]? = some d → Rep K I v d) : Reps K I vs ds := by
  induction vs generalizing ds with
  | nil => cases ds with | nil => exact .nil | cons _ _ => simp at hl
  | cons v vs ih =>
    cases ds with
    | nil => simp at hl
    | cons d ds => exact .cons (h 0 v d rfl rfl) (ih (by simpa using hl) fun i w e a b => h (i + 1) w e (by simpa using a) (by simpa using b))
theorem Reps.ints {ns : List Int} : Reps K I (ns.map V.int) (ns.map D.int) := by
  induction ns with
  | nil => exact .nil
  | cons n ns ih => exact .cons (.int n) ih
theorem Reps.strs {ns : List Str} : Reps K I (ns.map V.str) (ns.map D.str) := by
  induction ns with
  | nil => exact .nil
  | cons n ns ih => exact .cons (.str n) ih
theorem Reps.intsV {ns : List Int} {vs : List V} (h : Reps K I vs (ns.map D.int)) : vs = ns.map V.int := by
  induction ns generalizing vs with
  | nil => cases h; rfl
  | cons n ns ih => cases h with | cons a b => cases a; rw [ih b]; rfl
theorem Reps.strsV {ns : List Str} {vs : List V} (h : Reps K I vs (ns.map D.str)) : vs = ns.map V.str := by
  induction ns generalizing vs with
  | nil => cases h; rfl
  | cons n ns ih => cases h with | cons a b => cases a; rw [ih b]; rfl
theorem Reps.blsV {ns : List Bool} {vs : List V} (h : Reps K I vs (ns.map D.bl)) : vs = ns.map V.bl := by
  induction ns generalizing vs with
  | nil => cases h; rfl
  | cons n ns ih => cases h with | cons a b => cases a; rw [ih b]; rfl
end

/-! ### the world: objects that may turn while the law runs -/
structure Wd where
  mv : Addr → Prop
  inv : Hp → Prop
  frame : ∀ {H H' : Hp}, (∀ b, mv b → H' b = H b) → inv H → inv H'
  live : ∀ {H : Hp} {b : Addr}, inv H → mv b → H b ≠ none
/-- nothing of the world turns -/
def Wd.still : Wd := ⟨fun _ => False, fun _ => True, fun _ _ => trivial, fun _ h => h.elim⟩

structure StI (W : Wd) (I H : Hp) : Prop where
  sub : Same I H
  imm : ∀ b o, I b = some o → ¬ W.mv b
  inv : W.inv H
structure Stp (W : Wd) (I H I' H' : Hp) : Prop where
  i : Same I I'
  st : StI W I' H'
  h : ∀ b o, H b = some o → ¬ W.mv b → H' b = some o
  new : ∀ b o, H b = some o → I b = none → I' b = none
section
variable {W : Wd} {I H I' H' I'' H'' : Hp}
theorem StI.stp (s : StI W I H) : Stp W I H I H := ⟨Same.refl I, s, fun _ _ e _ => e, fun _ _ _ e => e⟩
theorem Stp.trans (a : Stp W I H I' H') (b : Stp W I' H' I'' H'') : Stp W I H I'' H'' := by
  refine ⟨Same.trans a.i b.i, b.st, fun c o e m => b.h c o (a.h c o e m) m, fun c o e n => ?_⟩
  by_cases m : W.mv c
  · cases q : I'' c with
    | none => rfl
    | some u => exact absurd m (b.st.imm c u q)
  · exact b.new c o (a.h c o e m) (a.new c o e n)
/-- a new object that stands still from now on -/
theorem StI.laid (s : StI W I H) {p : Addr} (hp : H p = none) (o : HO) : Stp W I H (upd I p o) (upd H p o) := by
  have np : ¬ W.mv p := fun m => s.inv |> fun i => W.live i m hp
  have ni : I p = none := by
    cases q : I p with
    | none => rfl
    | some u => rw [s.sub _ _ q] at hp; cases hp
  refine ⟨fun b u e => ?_, ⟨fun b u e => ?_, fun b u e => ?_, ?_⟩, fun b u e _ => ?_, fun b u e n => ?_⟩
  · rw [upd_ne (ne_of_none e ni)]; exact e
  · by_cases hb : b = p
    · subst hb; rw [upd_same] at e ⊢; exact e
    · rw [upd_ne hb] at e ⊢; exact s.sub _ _ e
  · by_cases hb : b = p
    · subst hb; exact np
    · rw [upd_ne hb] at e; exact s.imm _ _ e
  · exact W.frame (fun b m => upd_ne fun z => np (z ▸ m)) s.inv
  · rw [upd_ne (ne_of_none e hp)]; exact e
  · rw [upd_ne (ne_of_none e hp)]; exact n
/-- a new object that may turn (of our own) -/
theorem StI.laidM (s : StI W I H) {p : Addr} (hp : H p = none) (o : HO) : Stp W I H I (upd H p o) := by
  have np : ¬ W.mv p := fun m => s.inv |> fun i => W.live i m hp
  refine ⟨Same.refl I, ⟨fun b u e => ?_, s.imm, W.frame (fun b m => upd_ne fun z => np (z ▸ m)) s.inv⟩, fun b u e _ => ?_, fun b u e n => n⟩
  · rw [upd_ne (ne_of_none (s.sub _ _ e) hp)]; exact s.sub _ _ e
  · rw [upd_ne (ne_of_none e hp)]; exact e
theorem StI.free (s : StI W I H) {p : Addr} (hp : H p = none) : I p = none := by
  cases q : I p with
  | none => rfl
  | some u => rw [s.sub _ _ q] at hp; cases hp
end

/-! ### names: what a def's slots hold -/
inductive Ent where
  | dat (d : D)
  /-- a list of our own, that may grow -/
  | own (ds : List D)
  /-- a dict of our own -/
  | ownD (kvs : List (Key × D))
abbrev DEnv := List (Option Ent)
/-- a def's frame: the world, the heaps at its entry -/
structure Fx where
  W : Wd
  B : Hp
  I0 : Hp
def Ent.isOwn : Ent → Prop
  | .dat _ => False
  | _ => True
def EntRep (F : Fx) (K : PySem.W.Frag) (I H : Hp) : Ent → V → Prop
  | .dat d, v => Rep K I v d
  | .own ds, v => ∃ p vs, v = .ref p ∧ H p = some (.lst vs) ∧ Reps K I vs ds ∧ I p = none ∧ ¬ F.W.mv p ∧ F.B p = none
  | .ownD ds, v => ∃ p kvs, v = .ref p ∧ H p = some (.dK kvs) ∧ kvs.map (·.1) = ds.map (·.1) ∧ Reps K I (kvs.map (·.2)) (ds.map (·.2)) ∧ I p = none ∧ ¬ F.W.mv p ∧ F.B p = none
structure At (F : Fx) (K : PySem.W.Frag) (I : Hp) (ρ : DEnv) (σ : St) (H : Hp) : Prop where
  stp : Stp F.W F.I0 F.B I H
  len : ρ.length = σ.length
  env : ∀ (i : Nat) e, ρ[i]? = some (some e) → ∃ v, σ[i]? = some (some v) ∧ EntRep F K I H e v
  dis : ∀ (i j : Nat) e e' v, i ≠ j → ρ[i]? = some (some e) → ρ[j]? = some (some e') → e.isOwn → e'.isOwn → σ[i]? = some (some v) → σ[j]? ≠ some (some v)
section
variable {F : Fx} {K : PySem.W.Frag} {I H I' H' : Hp} {ρ : DEnv} {σ : St}
theorem At.st (a : At F K I ρ σ H) : StI F.W I H := a.stp.st
theorem EntRep.step {e : Ent} {v : V} (h : EntRep F K I H e v) (s : Stp F.W I H I' H') : EntRep F K I' H' e v := by
  cases e with
  | dat d => exact Rep.mono s.i h
  | own ds =>
    obtain ⟨p, vs, rfl, e, r, n, m, b⟩ := h
    exact ⟨p, vs, rfl, s.h _ _ e m, r.mono s.i, s.new _ _ e n, m, b⟩
  | ownD ds =>
    obtain ⟨p, vs, rfl, e, k, r, n, m, b⟩ := h
    exact ⟨p, vs, rfl, s.h _ _ e m, k, r.mono s.i, s.new _ _ e n, m, b⟩
theorem At.step (a : At F K I ρ σ H) (s : Stp F.W I H I' H') : At F K I' ρ σ H' :=
  ⟨a.stp.trans s, a.len, fun i e h => let ⟨v, h1, h2⟩ := a.env i e h; ⟨v, h1, h2.step s⟩, a.dis⟩
end

/-! ### readings over data -/
abbrev DT := DEnv → (D → Prop) → Prop
abbrev DB := DEnv → (Bool → Prop) → Prop
def fin (F : Fx) (K : PySem.W.Frag) (I H : Hp) (Q : VK) : D → Prop := fun d => ∀ v I' H', Stp F.W I H I' H' → Rep K I' v d → Q v H'
def finB (F : Fx) (I H : Hp) (Q : Bool → Hp → Prop) : Bool → Prop := fun b => ∀ I' H', Stp F.W I H I' H' → Q b H'
def rdE (F : Fx) (K : PySem.W.Frag) (t : DT) : TE := fun σ H Q => ∃ I ρ, At F K I ρ σ H ∧ t ρ (fin F K I H Q)
def rdT (F : Fx) (K : PySem.W.Frag) (t : DB) : TT := fun σ H Q => ∃ I ρ, At F K I ρ σ H ∧ t ρ (finB F I H Q)
structure DE (F : Fx) (X : Cx) (e : Expr) (t : DT) : Prop where
  mono : ∀ ρ (Q Q' : D → Prop), (∀ d, Q d → Q' d) → t ρ Q → t ρ Q'
  run : PE X e (rdE F X.K t)
structure DTest (F : Fx) (X : Cx) (e : Expr) (t : DB) : Prop where
  mono : ∀ ρ (Q Q' : Bool → Prop), (∀ d, Q d → Q' d) → t ρ Q → t ρ Q'
  run : PT X e (rdT F X.K t)
section
variable {F : Fx} {X : Cx} {K : PySem.W.Frag} {I H : Hp} {ρ : DEnv} {σ : St}
/-- a reading passes on to what follows -/
theorem rdE_next {t : DT} (mono : ∀ ρ (Q Q' : D → Prop), (∀ d, Q d → Q' d) → t ρ Q → t ρ Q') (a : At F K I ρ σ H) {P : D → Prop} {R : V → Hp → Prop} (h : t ρ P)
    (k : ∀ d v I' H', P d → Stp F.W I H I' H' → Rep K I' v d → R v H') : rdE F K t σ H R :=
  ⟨I, ρ, a, mono ρ _ _ (fun d p v I' H' s r => k d v I' H' p s r) h⟩
theorem rdT_next {t : DB} (mono : ∀ ρ (Q Q' : Bool → Prop), (∀ d, Q d → Q' d) → t ρ Q → t ρ Q') (a : At F K I ρ σ H) {P : Bool → Prop} {R : Bool → Hp → Prop} (h : t ρ P)
    (k : ∀ d I' H', P d → Stp F.W I H I' H' → R d H') : rdT F K t σ H R :=
  ⟨I, ρ, a, mono ρ _ _ (fun d p I' H' s => k d I' H' p s) h⟩
/-- the reading of a PE may be strengthened -/
theorem _root_.L2.PE.imp {e : Expr} {t u : TE} (h : PE X e t) (i : ∀ σ H Q, u σ H Q → t σ H Q) : PE X e u := ⟨fun pins s σ H Q J q => h.run pins s σ H Q J (i σ H Q q)⟩
theorem _root_.L2.PT.imp {e : Expr} {t u : TT} (h : PT X e t) (i : ∀ σ H Q, u σ H Q → t σ H Q) : PT X e u := ⟨fun pins s σ H Q J q => h.run pins s σ H Q J (i σ H Q q)⟩
theorem _root_.L2.PS.imp {e : Stmt} {t u : TS} (h : PS X e t) (i : ∀ D σ H, u D σ H → t D σ H) : PS X e u := ⟨fun pins s σ H Q J q => h.run pins s σ H Q J (i Q σ H q)⟩
theorem _root_.L2.PSs.imp {e : List Stmt} {t u : TS} (h : PSs X e t) (i : ∀ D σ H, u D σ H → t D σ H) : PSs X e u := ⟨fun pins s σ H Q J q => h.run pins s σ H Q J (i Q σ H q)⟩
theorem _root_.L2.PA.imp {e : List Expr} {t u : TA} (h : PA X e t) (i : ∀ σ H Q, u σ H Q → t σ H Q) : PA X e u := ⟨fun pos pins s σ H Q J q => h.run pos pins s σ H Q J (i σ H Q q)⟩
end

/-! ### names and constants -/
def getD (ρ : DEnv) (i : Nat) (Q : D → Prop) : Prop := ∃ d, ρ[i]? = some (some (.dat d)) ∧ Q d
section
variable {F : Fx} {X : Cx}
theorem de_name (i : Nat) {x : Str} {pos : Pos} (hN : X.N[i]? = some x := by rfl) (hv : Vis X.env.scope x := by first | exact Or.inl rfl | exact Or.inr (Or.inl rfl) | exact Or.inr (Or.inr rfl)) (hd : (x == ("__debug__" : Str)) = false := by decide)
    (hcd : (x == ("__classdict__" : Str)) = false := by decide) : DE F X (.Name x pos) (fun ρ Q => getD ρ i Q) := by
  refine ⟨fun ρ Q Q' h ⟨d, e, q⟩ => ⟨d, e, h d q⟩, (pv i hN hv hd hcd).imp fun σ H Q ⟨I, ρ, a, d, e, q⟩ => ?_⟩
  obtain ⟨v, h1, h2⟩ := a.env i _ e
  exact ⟨v, h1, q v I H a.st.stp h2⟩
theorem de_const {e : Expr} {v : V} {d : D} (h : PE X e (tC v)) (r : ∀ I, Rep X.K I v d) : DE F X e (fun _ Q => Q d) :=
  ⟨fun _ _ _ h q => h _ q, h.imp fun σ H Q ⟨I, ρ, a, q⟩ => q v I H a.st.stp (r I)⟩
theorem de_int {i : Int} {j : Nat} {pos : Pos} : DE F X (.Constant (.int i) j pos) (fun _ Q => Q (.int i)) := de_const pe_int fun _ => .int i
theorem de_bl {i : Bool} {j : Nat} {pos : Pos} : DE F X (.Constant (.bool i) j pos) (fun _ Q => Q (.bl i)) := de_const pe_bl fun _ => .bl i
theorem de_non {j : Nat} {pos : Pos} : DE F X (.Constant .none j pos) (fun _ Q => Q .non) := de_const pe_non fun _ => .non
theorem de_str {x : Str} {j : Nat} {pos : Pos} : DE F X (.Constant (.str x) j pos) (fun _ Q => Q (.str x)) := de_const pe_str fun _ => .str x
/-- a module's constant -/
theorem de_gstr {x : Str} {y : Str} {u : Value} {pos : Pos} (hg : Gl X x) (hm : X.mg x = some u) (r : RelV (.str y) u) (hd : (x == ("__debug__" : Str)) = false := by decide) : DE F X (.Name x pos) (fun _ Q => Q (.str y)) :=
  de_const (pe_glob hg hm r hd) fun _ => .str y
theorem de_gint {x : Str} {y : Int} {u : Value} {pos : Pos} (hg : Gl X x) (hm : X.mg x = some u) (r : RelV (.int y) u) (hd : (x == ("__debug__" : Str)) = false := by decide) : DE F X (.Name x pos) (fun _ Q => Q (.int y)) :=
  de_const (pe_glob hg hm r hd) fun _ => .int y
end
end Dk

namespace Dk
open PySem L2

/-! ### == over data -/
mutual
def toPy : D → PyData
  | .bl b => .bool b
  | .int i => .int i
  | .str x => .str x
  | .tup xs => .tuple (toPys xs)
  | .lst xs => .list (toPys xs)
  | .non => .none
  | .dic _ => .none
  | .obj _ _ => .none
  | .opq _ => .none
def toPys : List D → List PyData
  | [] => []
  | d :: ds => toPy d :: toPys ds
end
mutual
/-- nothing but none, truths, numbers, texts, tuples, lists -/
def plainD : D → Bool
  | .non | .bl _ | .int _ | .str _ => true
  | .tup xs => plainDs xs
  | .lst xs => plainDs xs
  | .dic _ => false
  | .obj _ _ => false
  | .opq _ => false
def plainDs : List D → Bool
  | [] => true
  | d :: ds => plainD d && plainDs ds
end
def deq (x y : D) : Bool := PyData.eqv (toPy x) (toPy y)
def deqs (x y : List D) : Bool := PyData.eqvAll (toPys x) (toPys y)
def okE (x : D) : Bool := plainD x && SeqAt.shaped (toPy x)
def scalD : D → Bool
  | .non | .bl _ | .int _ | .str _ => true
  | _ => false
mutual
theorem Rep.dp {K : PySem.W.Frag} {I H : Hp} (s : Same I H) : ∀ {d : D} {v : V}, plainD d = true → Rep K I v d → Dp K H v (toPy d)
  | .non, _, _, h => by cases h; exact .non
  | .bl b, _, _, h => by cases h; exact .bl b
  | .int i, _, _, h => by cases h; exact .int i
  | .str x, _, _, h => by cases h; exact .str x
  | .tup xs, _, p, h => by
    cases h with
    | tup a r => exact .tup (Same.seqT s a) (Reps.dp s (by unfold plainD at p; exact p) r)
  | .lst xs, _, p, h => by
    cases h with
    | lst a r => exact .lst (.of (s _ _ a)) (Reps.dp s (by unfold plainD at p; exact p) r)
  | .dic _, _, p, h => by unfold plainD at p; cases p
  | .obj _ _, _, p, h => by unfold plainD at p; cases p
  | .opq _, _, p, h => by unfold plainD at p; cases p
theorem Reps.dp {K : PySem.W.Frag} {I H : Hp} (s : Same I H) : ∀ {ds : List D} {vs : List V}, plainDs ds = true → Reps K I vs ds → DpAll K H vs (toPys ds)
  | [], _, _, h => by cases h; exact .nil
  | d :: ds, _, p, h => by
    cases h with
    | cons a b =>
      unfold plainDs at p
      rw [Bool.and_eq_true] at p
      exact .cons (Rep.dp s p.1 a) (Reps.dp s p.2 b)
end
/-- a truth beside a number -/
def mixD : D → D → Bool
  | .bl _, .int _ => true
  | .int _, .bl _ => true
  | _, _ => false
theorem scal_of {K : PySem.W.Frag} {I : Hp} {v w : V} {d e : D} (h : Rep K I v d) (h' : Rep K I w e) (s : scalD d = true) (s' : scalD e = true) (m : mixD d e = false) : scal v w = true ∧ decide (v = w) = deq d e := by
  cases h with
  | tup _ _ => cases s
  | lst _ _ => cases s
  | dic _ _ _ => cases s
  | obj _ _ _ => cases s
  | opq _ => cases s
  | non => cases h' <;> first | (cases s'; done) | exact ⟨rfl, rfl⟩
  | bl b => cases h' <;> first | (cases s'; done) | (cases m; done) | exact ⟨rfl, dec_bl⟩ | exact ⟨rfl, rfl⟩
  | int b => cases h' <;> first | (cases s'; done) | (cases m; done) | exact ⟨rfl, dec_int⟩ | exact ⟨rfl, rfl⟩
  | str b => cases h' <;> first | (cases s'; done) | exact ⟨rfl, dec_str⟩ | exact ⟨rfl, rfl⟩

/-! ### values by their rules -/
def LiftR (F : Fx) (K : PySem.W.Frag) (R : R2) (r : D → D → (D → Prop) → Prop) : Prop :=
  ∀ (x y : V) (dx dy : D) (I H : Hp) (Q : VK), StI F.W I H → Rep K I x dx → Rep K I y dy → r dx dy (fin F K I H Q) → R x y H Q
abbrev Mono2 (r : D → D → (D → Prop) → Prop) : Prop := ∀ x y (Q Q' : D → Prop), (∀ d, Q d → Q' d) → r x y Q → r x y Q'
abbrev Mono1 (r : D → (D → Prop) → Prop) : Prop := ∀ x (Q Q' : D → Prop), (∀ d, Q d → Q' d) → r x Q → r x Q'
abbrev MonoN (r : List D → (D → Prop) → Prop) : Prop := ∀ x (Q Q' : D → Prop), (∀ d, Q d → Q' d) → r x Q → r x Q'
section
variable {F : Fx} {X : Cx} {K : PySem.W.Frag} {I H I' H' : Hp} {Q : VK} {a b c : Expr} {ta tb tc : DT} {pos : Pos} {R : R2} {r : D → D → (D → Prop) → Prop}
theorem fin.of (q : fin F K I H Q d) (s : Stp F.W I H I' H') : fin F K I' H' Q d := fun v I2 H2 s2 rv => q v I2 H2 (s.trans s2) rv
theorem two_run (mr : Mono2 r) (l : LiftR F X.K R r) (ha : DE F X a ta) (hb : DE F X b tb) {σ : St} (h : rdE F X.K (fun ρ Q => ta ρ fun x => tb ρ fun y => r x y Q) σ H Q) : tOp R (rdE F X.K ta) (rdE F X.K tb) σ H Q := by
  obtain ⟨I, ρ, A, h⟩ := h
  refine rdE_next ha.mono A h fun d v I' H' p s rv => ?_
  refine rdE_next hb.mono (A.step s) p fun e u I2 H2 q s2 ru => ?_
  exact l v u d e I2 H2 Q s2.st (rv.mono s2.i) ru (mr _ _ _ _ (fun z hz => hz.of (s.trans s2)) q)
theorem two_mono (mr : Mono2 r) (ha : DE F X a ta) (hb : DE F X b tb) : ∀ ρ (Q Q' : D → Prop), (∀ d, Q d → Q' d) → (ta ρ fun x => tb ρ fun y => r x y Q) → (ta ρ fun x => tb ρ fun y => r x y Q') :=
  fun ρ Q Q' k h => ha.mono _ _ _ (fun d h => hb.mono _ _ _ (fun e h => mr _ _ _ _ k h) h) h
theorem de_op {op : Operator} (mr : Mono2 r) (ho : OpR X (binaryOp op) R) (l : LiftR F X.K R r) (ha : DE F X a ta) (hb : DE F X b tb) : DE F X (.BinOp a op b pos) (fun ρ Q => ta ρ fun x => tb ρ fun y => r x y Q) :=
  ⟨two_mono mr ha hb, (pe_op ho ha.run hb.run).imp fun σ H Q h => two_run mr l ha hb h⟩
theorem de_cmp {op : CmpOp} (mr : Mono2 r) (ho : OpR X (compareOp op) R) (l : LiftR F X.K R r) (ha : DE F X a ta) (hb : DE F X b tb) (hm : behindInMarks op b = false) : DE F X (.Compare a [op] [b] pos) (fun ρ Q => ta ρ fun x => tb ρ fun y => r x y Q) :=
  ⟨two_mono mr ha hb, (pe_cmpR ho ha.run hb.run hm).imp fun σ H Q h => two_run mr l ha hb h⟩
theorem de_ix (mr : Mono2 r) (ho : IxR X R) (l : LiftR F X.K R r) (ha : DE F X a ta) (hb : DE F X b tb) (hs : PlainIx b := by exact fun _ _ => rfl) : DE F X (.Subscript a b pos) (fun ρ Q => ta ρ fun x => tb ρ fun y => r x y Q) :=
  ⟨two_mono mr ha hb, (pe_ix ho ha.run hb.run hs).imp fun σ H Q h => two_run mr l ha hb h⟩
def boolD (d : D) (Q : Bool → Prop) : Prop := ∃ b, d = .bl b ∧ Q b
theorem boolD.mono {d : D} {Q Q' : Bool → Prop} (k : ∀ b, Q b → Q' b) : boolD d Q → boolD d Q' := fun ⟨b, e, q⟩ => ⟨b, e, k b q⟩
theorem dt_cmp {op : CmpOp} (mr : Mono2 r) (ho : OpR X (compareOp op) R) (l : LiftR F X.K R r) (ha : DE F X a ta) (hb : DE F X b tb) (hm : behindInMarks op b = false) : DTest F X (.Compare a [op] [b] pos) (fun ρ Q => ta ρ fun x => tb ρ fun y => r x y fun z => boolD z Q) := by
  refine ⟨fun ρ Q Q' k h => two_mono mr ha hb _ _ _ (fun d => boolD.mono k) h, (pt_cmpR ho ha.run hb.run hm).imp fun σ H Q ⟨I, ρ, A, h⟩ => ?_⟩
  refine two_run mr l ha hb ⟨I, ρ, A, two_mono mr ha hb _ _ _ (fun d hd => ?_) h⟩
  obtain ⟨b, rfl, q⟩ := hd
  intro v I' H' s rv
  cases rv
  exact ⟨b, rfl, q I' H' s⟩
theorem dt_val (ha : DE F X a ta) (he : ∀ whole, isTrue a X.env whole = (do let v ← whole; standAt a.pos; holding [v] (truthy v)) := by intro _; rfl) : DTest F X a (fun ρ Q => ta ρ fun d => boolD d Q) := by
  refine ⟨fun ρ Q Q' k h => ha.mono _ _ _ (fun d => boolD.mono k) h, (pt_val ha.run he).imp fun σ H Q ⟨I, ρ, A, h⟩ => ?_⟩
  refine rdE_next ha.mono A h fun d v I' H' p s rv => ?_
  obtain ⟨b, rfl, q⟩ := p
  cases rv
  exact ⟨b, rfl, q I' H' s⟩
end

/-! ### and, or, not -/
structure DWh (F : Fx) (X : Cx) (e : Expr) (t : DB) : Prop where
  mono : ∀ ρ (Q Q' : Bool → Prop), (∀ d, Q d → Q' d) → t ρ Q → t ρ Q'
  run : PW X e (rdT F X.K t)
section
variable {F : Fx} {X : Cx} {K : PySem.W.Frag} {I H I' H' : Hp} {a b c : Expr} {ta tb tc : DB} {va vb vc : DT} {pos : Pos} {rest : List Expr}
theorem _root_.L2.PW.imp {e : Expr} {t u : TT} (h : PW X e t) (i : ∀ σ H Q, u σ H Q → t σ H Q) : PW X e u := ⟨fun w pins s σ H Q J q => h.run w pins s σ H Q J (i σ H Q q)⟩
theorem finB.of {Q : Bool → Hp → Prop} {d : Bool} (q : finB F I H Q d) (s : Stp F.W I H I' H') : finB F I' H' Q d := fun I2 H2 s2 => q I2 H2 (s.trans s2)
theorem dt_wh (h : DWh F X a ta) : DTest F X a ta := ⟨h.mono, h.run.pt⟩
theorem dt_not (h : DTest F X a ta) : DTest F X (.UnaryOp .Not a pos) (fun ρ Q => ta ρ fun b => Q (!b)) := by
  refine ⟨fun ρ Q Q' k q => h.mono _ _ _ (fun b => k _) q, (pt_not h.run).imp fun σ H Q ⟨I, ρ, A, q⟩ => ?_⟩
  exact rdT_next h.mono A q fun d I' H' p s => p I' H' s
theorem dw_and1 (h : DTest F X a ta) : DWh F X (.BoolOp .And [a] pos) ta := ⟨h.mono, pw_and1 h.run⟩
theorem dw_or1 (h : DTest F X a ta) : DWh F X (.BoolOp .Or [a] pos) ta := ⟨h.mono, pw_or1 h.run⟩
theorem dw_and (h : DTest F X a ta) (h' : DWh F X (.BoolOp .And (b :: rest) pos) tb) : DWh F X (.BoolOp .And (a :: b :: rest) pos) (fun ρ Q => ta ρ fun x => if x = true then tb ρ Q else Q false) := by
  refine ⟨fun ρ Q Q' k q => h.mono _ _ _ (fun b q => ?_) q, (pw_and h.run h'.run).imp fun σ H Q ⟨I, ρ, A, q⟩ => ?_⟩
  · cases b
    · exact k _ q
    · exact h'.mono _ _ _ k q
  · refine rdT_next h.mono A q fun d I' H' p s => ?_
    cases d
    · exact p I' H' s
    · exact rdT_next h'.mono (A.step s) p fun d I2 H2 p s2 => p I2 H2 (s.trans s2)
theorem dw_or (h : DTest F X a ta) (h' : DWh F X (.BoolOp .Or (b :: rest) pos) tb) : DWh F X (.BoolOp .Or (a :: b :: rest) pos) (fun ρ Q => ta ρ fun x => if x = true then Q true else tb ρ Q) := by
  refine ⟨fun ρ Q Q' k q => h.mono _ _ _ (fun b q => ?_) q, (pw_or h.run h'.run).imp fun σ H Q ⟨I, ρ, A, q⟩ => ?_⟩
  · cases b
    · exact h'.mono _ _ _ k q
    · exact k _ q
  · refine rdT_next h.mono A q fun d I' H' p s => ?_
    cases d
    · exact rdT_next h'.mono (A.step s) p fun d I2 H2 p s2 => p I2 H2 (s.trans s2)
    · exact p I' H' s
/-- .. as values -/
theorem de_one {op : BoolOp} (h : DE F X a va) : DE F X (.BoolOp op [a] pos) va := ⟨h.mono, pe_one h.run⟩
theorem de_and (h : DE F X a va) (h' : DE F X (.BoolOp .And (b :: rest) pos) vb) : DE F X (.BoolOp .And (a :: b :: rest) pos) (fun ρ Q => va ρ fun x => boolD x fun k => if k = true then vb ρ Q else Q (.bl false)) := by
  refine ⟨fun ρ Q Q' k q => h.mono _ _ _ (fun b => boolD.mono fun b q => ?_) q, (pe_and h.run h'.run).imp fun σ H Q ⟨I, ρ, A, q⟩ => ?_⟩
  · cases b
    · exact k _ q
    · exact h'.mono _ _ _ k q
  · refine rdE_next h.mono A q fun d v I' H' p s rv => ?_
    obtain ⟨b, rfl, p⟩ := p
    cases rv
    refine ⟨b, rfl, ?_⟩
    cases b
    · exact p _ I' H' s (.bl false)
    · exact rdE_next h'.mono (A.step s) p fun d v I2 H2 p s2 r2 => p v I2 H2 (s.trans s2) r2
theorem de_or (h : DE F X a va) (h' : DE F X (.BoolOp .Or (b :: rest) pos) vb) : DE F X (.BoolOp .Or (a :: b :: rest) pos) (fun ρ Q => va ρ fun x => boolD x fun k => if k = true then Q (.bl true) else vb ρ Q) := by
  refine ⟨fun ρ Q Q' k q => h.mono _ _ _ (fun b => boolD.mono fun b q => ?_) q, (pe_or h.run h'.run).imp fun σ H Q ⟨I, ρ, A, q⟩ => ?_⟩
  · cases b
    · exact h'.mono _ _ _ k q
    · exact k _ q
  · refine rdE_next h.mono A q fun d v I' H' p s rv => ?_
    obtain ⟨b, rfl, p⟩ := p
    cases rv
    refine ⟨b, rfl, ?_⟩
    cases b
    · exact rdE_next h'.mono (A.step s) p fun d v I2 H2 p s2 r2 => p v I2 H2 (s.trans s2) r2
    · exact p _ I' H' s (.bl true)
theorem de_not (h : DE F X a va) : DE F X (.UnaryOp .Not a pos) (fun ρ Q => va ρ fun x => boolD x fun k => Q (.bl (!k))) := by
  refine ⟨fun ρ Q Q' k q => h.mono _ _ _ (fun b => boolD.mono fun b => k _) q, (pe_not h.run).imp fun σ H Q ⟨I, ρ, A, q⟩ => ?_⟩
  refine rdE_next h.mono A q fun d v I' H' p s rv => ?_
  obtain ⟨b, rfl, p⟩ := p
  cases rv
  exact ⟨b, rfl, p _ I' H' s (.bl _)⟩
theorem de_if (hc : DTest F X c tc) (h : DE F X a va) (h' : DE F X b vb) : DE F X (.IfExp c a b pos) (fun ρ Q => tc ρ fun k => if k = true then va ρ Q else vb ρ Q) := by
  refine ⟨fun ρ Q Q' k q => hc.mono _ _ _ (fun b q => ?_) q, (pe_ifExp hc.run h.run h'.run).imp fun σ H Q ⟨I, ρ, A, q⟩ => ?_⟩
  · cases b
    · exact h'.mono _ _ _ k q
    · exact h.mono _ _ _ k q
  · refine rdT_next hc.mono A q fun d I' H' p s => ?_
    cases d
    · exact rdE_next h'.mono (A.step s) p fun d v I2 H2 p s2 r2 => p v I2 H2 (s.trans s2) r2
    · exact rdE_next h.mono (A.step s) p fun d v I2 H2 p s2 r2 => p v I2 H2 (s.trans s2) r2
end

/-! ### arguments, displays -/
abbrev DAT := DEnv → (List D → Prop) → Prop
def finA (F : Fx) (K : PySem.W.Frag) (I H : Hp) (Q : List V → Hp → Prop) : List D → Prop := fun ds => ∀ vs I' H', Stp F.W I H I' H' → Reps K I' vs ds → Q vs H'
def rdA (F : Fx) (K : PySem.W.Frag) (t : DAT) : TA := fun σ H Q => ∃ I ρ, At F K I ρ σ H ∧ t ρ (finA F K I H Q)
structure DA (F : Fx) (X : Cx) (es : List Expr) (t : DAT) : Prop where
  mono : ∀ ρ (Q Q' : List D → Prop), (∀ d, Q d → Q' d) → t ρ Q → t ρ Q'
  run : PA X es (rdA F X.K t)
section
variable {F : Fx} {X : Cx} {K : PySem.W.Frag} {I H : Hp} {ρ : DEnv} {σ : St} {e : Expr} {es : List Expr} {te : DT} {t : DAT} {pos : Pos}
theorem rdA_next (mono : ∀ ρ (Q Q' : List D → Prop), (∀ d, Q d → Q' d) → t ρ Q → t ρ Q') (a : At F K I ρ σ H) {P : List D → Prop} {R : List V → Hp → Prop} (h : t ρ P)
    (k : ∀ d v I' H', P d → Stp F.W I H I' H' → Reps K I' v d → R v H') : rdA F K t σ H R :=
  ⟨I, ρ, a, mono ρ _ _ (fun d p v I' H' s r => k d v I' H' p s r) h⟩
theorem da_nil : DA F X [] (fun _ Q => Q []) := ⟨fun _ _ _ k q => k _ q, pa_nil.imp fun σ H Q ⟨I, ρ, A, q⟩ => q [] I H A.st.stp .nil⟩
theorem da_cons (h : DE F X e te) (h' : DA F X es t) (hs : starEach (e :: es) X.env = (false, eval e X.env) :: starEach es X.env := by rfl) : DA F X (e :: es) (fun ρ Q => te ρ fun d => t ρ fun ds => Q (d :: ds)) := by
  refine ⟨fun ρ Q Q' k q => h.mono _ _ _ (fun d q => h'.mono _ _ _ (fun ds => k _) q) q, (pa_cons h.run h'.run hs).imp fun σ H Q ⟨I, ρ, A, q⟩ => ?_⟩
  refine rdE_next h.mono A q fun d v I' H' p s rv => ?_
  exact rdA_next h'.mono (A.step s) p fun ds vs I2 H2 p s2 rs => p (v :: vs) I2 H2 (s.trans s2) (.cons (rv.mono s2.i) rs)
theorem de_tup {x1} (h : DA F X es t) : DE F X (.Tuple es x1 pos) (fun ρ Q => t ρ fun ds => ds.length ≤ sizeLine ∧ Q (.tup ds)) := by
  refine ⟨fun ρ Q Q' k q => h.mono _ _ _ (fun d q => ⟨q.1, k _ q.2⟩) q, (pe_tup h.run).imp fun σ H Q ⟨I, ρ, A, q⟩ => ?_⟩
  refine rdA_next h.mono A q fun ds vs I' H' p s rs => ⟨rs.length ▸ p.1, fun a ha => ?_⟩
  have l := s.st.laid ha (.tup vs)
  exact p.2 _ _ _ (s.trans l) (.tup (.of upd_same) (rs.mono l.i))
theorem de_lst (h : DA F X es t) : DE F X (.List es pos) (fun ρ Q => t ρ fun ds => ds.length ≤ sizeLine ∧ Q (.lst ds)) := by
  refine ⟨fun ρ Q Q' k q => h.mono _ _ _ (fun d q => ⟨q.1, k _ q.2⟩) q, (pe_lst h.run).imp fun σ H Q ⟨I, ρ, A, q⟩ => ?_⟩
  refine rdA_next h.mono A q fun ds vs I' H' p s rs => ⟨rs.length ▸ p.1, fun a ha => ?_⟩
  have l := s.st.laid ha (.lst vs)
  exact p.2 _ _ _ (s.trans l) (.lst upd_same (rs.mono l.i))
end

/-! ### the operators -/
def addD : D → D → (D → Prop) → Prop
  | .int i, .int j, Q => Q (.int (i + j))
  | .str x, .str y, Q => x.length + y.length ≤ sizeLine ∧ Q (.str (x ++ y))
  | .lst x, .lst y, Q => x.length + y.length ≤ sizeLine ∧ Q (.lst (x ++ y))
  | .tup x, .tup y, Q => x.length + y.length ≤ sizeLine ∧ Q (.tup (x ++ y))
  | _, _, _ => False
def subD : D → D → (D → Prop) → Prop
  | .int i, .int j, Q => Q (.int (i - j))
  | _, _, _ => False
def mulD : D → D → (D → Prop) → Prop
  | .int i, .int j, Q => CMul i j ∧ Q (.int (i * j))
  | .lst xs, .int k, Q => -(2 ^ 63) ≤ k ∧ k < 2 ^ 63 ∧ xs.length * k.toNat ≤ sizeLine ∧ Q (.lst (List.replicate k.toNat xs).flatten)
  | _, _, _ => False
def fdivD : D → D → (D → Prop) → Prop
  | .int i, .int j, Q => CDivW i j ∧ Q (.int (i / j))
  | _, _, _ => False
def modD : D → D → (D → Prop) → Prop
  | .int i, .int j, Q => 0 < j ∧ Q (.int (i % j))
  | _, _, _ => False
def powD : D → D → (D → Prop) → Prop
  | .int i, .int j, Q => CPow i j ∧ Q (.int (i ^ j.toNat))
  | _, _, _ => False
def ltD : D → D → (D → Prop) → Prop
  | .int i, .int j, Q => Q (.bl (decide (i < j)))
  | .str x, .str y, Q => Q (.bl (decide (x.cps.toList < y.cps.toList)))
  | _, _, _ => False
def leD : D → D → (D → Prop) → Prop
  | .int i, .int j, Q => Q (.bl (decide (i ≤ j)))
  | .str x, .str y, Q => Q (.bl (!decide (y.cps.toList < x.cps.toList)))
  | _, _, _ => False
def gtD : D → D → (D → Prop) → Prop
  | .int i, .int j, Q => Q (.bl (decide (j < i)))
  | .str x, .str y, Q => Q (.bl (decide (y.cps.toList < x.cps.toList)))
  | _, _, _ => False
def geD : D → D → (D → Prop) → Prop
  | .int i, .int j, Q => Q (.bl (decide (j ≤ i)))
  | .str x, .str y, Q => Q (.bl (!decide (x.cps.toList < y.cps.toList)))
  | _, _, _ => False
/-- may be compared -/
def canEq (x y : D) : Bool :=
  (scalD x && scalD y && !mixD x y) || (okE x && okE y)
def eqD (x y : D) (Q : D → Prop) : Prop := canEq x y = true ∧ Q (.bl (deq x y))
def neD (x y : D) (Q : D → Prop) : Prop := canEq x y = true ∧ Q (.bl (!deq x y))
section
variable {F : Fx} {X : Cx} {K : PySem.W.Frag}
theorem mono_add : Mono2 addD := by
  intro x y Q Q' k h
  cases x <;> cases y <;> first | exact h.elim | exact k _ h | exact ⟨h.1, k _ h.2⟩
theorem mono_sub : Mono2 subD := by
  intro x y Q Q' k h
  cases x <;> cases y <;> first | exact h.elim | exact k _ h | exact ⟨h.1, k _ h.2⟩
theorem mono_mul : Mono2 mulD := by
  intro x y Q Q' k h
  cases x <;> cases y <;> first | exact h.elim | exact k _ h | exact ⟨h.1, k _ h.2⟩ | exact ⟨h.1, h.2.1, h.2.2.1, k _ h.2.2.2⟩
theorem mono_fdiv : Mono2 fdivD := by
  intro x y Q Q' k h
  cases x <;> cases y <;> first | exact h.elim | exact k _ h | exact ⟨h.1, k _ h.2⟩
theorem mono_mod : Mono2 modD := by
  intro x y Q Q' k h
  cases x <;> cases y <;> first | exact h.elim | exact k _ h | exact ⟨h.1, k _ h.2⟩
theorem mono_pow : Mono2 powD := by
  intro x y Q Q' k h
  cases x <;> cases y <;> first | exact h.elim | exact k _ h | exact ⟨h.1, k _ h.2⟩
theorem mono_lt : Mono2 ltD := by
  intro x y Q Q' k h
  cases x <;> cases y <;> first | exact h.elim | exact k _ h
theorem mono_le : Mono2 leD := by
  intro x y Q Q' k h
  cases x <;> cases y <;> first | exact h.elim | exact k _ h
theorem mono_gt : Mono2 gtD := by
  intro x y Q Q' k h
  cases x <;> cases y <;> first | exact h.elim | exact k _ h
theorem mono_ge : Mono2 geD := by
  intro x y Q Q' k h
  cases x <;> cases y <;> first | exact h.elim | exact k _ h
theorem mono_eq : Mono2 eqD := fun x y Q Q' k h => ⟨h.1, k _ h.2⟩
theorem mono_ne : Mono2 neD := fun x y Q Q' k h => ⟨h.1, k _ h.2⟩
/-- + -/
def RAdd (K : PySem.W.Frag) : R2 := fun x y H Q => rI0 (fun i j => .int (i + j)) x y H Q ∨ (∃ i j, x = .str i ∧ y = .str j ∧ i.length + j.length ≤ sizeLine ∧ Q (.str (i ++ j)) H) ∨ rCat x y H Q ∨ rCatA K x y H Q
theorem or_add : OpR X (binaryOp .Add) (RAdd X.K) := op_add.or (op_add_str.or (op_cat.or op_catA))
theorem lf_add : LiftR F K (RAdd K) addD := by
  intro x y dx dy I H Q st rx ry h
  cases dx <;> cases dy <;> first | exact h.elim | skip
  · cases rx; cases ry
    exact .inl ⟨_, _, rfl, rfl, h _ I H st.stp (.int _)⟩
  · cases rx; cases ry
    exact .inr (.inl ⟨_, _, rfl, rfl, h.1, h.2 _ I H st.stp (.str _)⟩)
  · cases rx with
    | tup a r =>
      cases ry with
      | tup a' r' =>
        rename_i xs ys p vs q ws
        refine .inr (.inr (.inr ⟨p, q, vs, ws, rfl, rfl, Same.seqT st.sub a, Same.seqT st.sub a', by rw [r.length, r'.length]; exact h.1, fun e => ?_, fun e e' => ?_, fun e e' z hz => ?_⟩))
        · subst e
          cases r
          exact h.2 _ I H st.stp (.tup a' (by simpa using r'))
        · subst e'
          cases r'
          exact h.2 _ I H st.stp (.tup a (by simpa using r))
        · have l := st.laid hz (.tup (vs ++ ws))
          exact h.2 _ _ _ l (.tup (.of upd_same) ((r.append r').mono l.i))
  · cases rx with
    | lst a r =>
      cases ry with
      | lst a' r' =>
        rename_i xs ys p vs q ws
        refine .inr (.inr (.inl ⟨p, q, vs, ws, rfl, rfl, st.sub _ _ a, st.sub _ _ a', by rw [r.length, r'.length]; exact h.1, fun z hz => ?_⟩))
        have l := st.laid hz (.lst (vs ++ ws))
        exact h.2 _ _ _ l (.lst upd_same ((r.append r').mono l.i))
theorem lf_int {R : R2} {r : D → D → (D → Prop) → Prop} {C : Int → Int → Prop} {g : Int → Int → Int} (hR : R = rI C fun i j => .int (g i j)) (hr : ∀ x y Q, r x y Q → ∃ i j, x = .int i ∧ y = .int j ∧ C i j ∧ Q (.int (g i j))) : LiftR F K R r := by
  intro x y dx dy I H Q st rx ry h
  obtain ⟨i, j, rfl, rfl, c, q⟩ := hr _ _ _ h
  cases rx; cases ry
  rw [hR]
  exact ⟨i, j, rfl, rfl, c, q _ I H st.stp (.int _)⟩
theorem lf_sub : LiftR F K (rI0 fun i j => .int (i - j)) subD := by
  intro x y dx dy I H Q st rx ry h
  cases dx <;> cases dy <;> first | exact h.elim | skip
  cases rx; cases ry
  exact ⟨_, _, rfl, rfl, h _ I H st.stp (.int _)⟩
theorem lf_fdiv : LiftR F K (rI CDivW fun i j => .int (i / j)) fdivD := lf_int (C := CDivW) (g := fun i j => i / j) rfl fun x y Q h => by
  cases x <;> cases y <;> first | exact h.elim | exact ⟨_, _, rfl, rfl, h.1, h.2⟩
theorem lf_mod : LiftR F K (rI (fun _ j => 0 < j) fun i j => .int (i % j)) modD := lf_int (C := fun _ j => 0 < j) (g := fun i j => i % j) rfl fun x y Q h => by
  cases x <;> cases y <;> first | exact h.elim | exact ⟨_, _, rfl, rfl, h.1, h.2⟩
theorem lf_pow : LiftR F K (rI CPow fun i j => .int (i ^ j.toNat)) powD := lf_int (C := CPow) (g := fun i j => i ^ j.toNat) rfl fun x y Q h => by
  cases x <;> cases y <;> first | exact h.elim | exact ⟨_, _, rfl, rfl, h.1, h.2⟩
theorem Reps.rep {I : Hp} {vs : List V} {ds : List D} (h : Reps K I vs ds) : ∀ n : Nat, Reps K I (List.replicate n vs).flatten (List.replicate n ds).flatten
  | 0 => .nil
  | n + 1 => by rw [List.replicate_succ, List.replicate_succ, List.flatten_cons, List.flatten_cons]; exact h.append (Reps.rep h n)
def RMul : R2 := fun x y H Q => rI CMul (fun i j => .int (i * j)) x y H Q ∨ rRep x y H Q
theorem or_mul : OpR X (binaryOp .Mult) RMul := op_mul.or op_rep
theorem lf_mul : LiftR F K RMul mulD := by
  intro x y dx dy I H Q st rx ry h
  cases dx <;> cases dy <;> first | exact h.elim | skip
  · cases rx; cases ry
    exact .inl ⟨_, _, rfl, rfl, h.1, h.2 _ I H st.stp (.int _)⟩
  · cases ry
    cases rx with
    | lst a r =>
      rename_i xs k p vs
      refine .inr ⟨p, k, vs, rfl, rfl, st.sub _ _ a, h.1, h.2.1, by rw [r.length]; exact h.2.2.1, fun z hz => ?_⟩
      have l := st.laid hz (.lst (List.replicate k.toNat vs).flatten)
      exact h.2.2.2 _ _ _ l (.lst upd_same ((r.rep _).mono l.i))
/-- comparisons -/
theorem lf_cmp {R : R2} {r : D → D → (D → Prop) → Prop} {g : Int → Int → Bool} {g' : Str → Str → Bool} (hR : R = fun x y H Q => rI0 (fun i j => .bl (g i j)) x y H Q ∨ ∃ i j, x = .str i ∧ y = .str j ∧ Q (.bl (g' i j)) H)
    (hr : ∀ x y Q, r x y Q → (∃ i j, x = .int i ∧ y = .int j ∧ Q (.bl (g i j))) ∨ ∃ i j, x = .str i ∧ y = .str j ∧ Q (.bl (g' i j))) : LiftR F K R r := by
  intro x y dx dy I H Q st rx ry h
  rw [hR]
  rcases hr _ _ _ h with ⟨i, j, rfl, rfl, q⟩ | ⟨i, j, rfl, rfl, q⟩
  · cases rx; cases ry
    exact .inl ⟨i, j, rfl, rfl, q _ I H st.stp (.bl _)⟩
  · cases rx; cases ry
    exact .inr ⟨i, j, rfl, rfl, q _ I H st.stp (.bl _)⟩
def RLt : R2 := fun x y H Q => rI0 (fun i j => .bl (decide (i < j))) x y H Q ∨ ∃ i j, x = .str i ∧ y = .str j ∧ Q (.bl (decide (i.cps.toList < j.cps.toList))) H
def RLe : R2 := fun x y H Q => rI0 (fun i j => .bl (decide (i ≤ j))) x y H Q ∨ ∃ i j, x = .str i ∧ y = .str j ∧ Q (.bl (!decide (j.cps.toList < i.cps.toList))) H
def RGt : R2 := fun x y H Q => rI0 (fun i j => .bl (decide (j < i))) x y H Q ∨ ∃ i j, x = .str i ∧ y = .str j ∧ Q (.bl (decide (j.cps.toList < i.cps.toList))) H
def RGe : R2 := fun x y H Q => rI0 (fun i j => .bl (decide (j ≤ i))) x y H Q ∨ ∃ i j, x = .str i ∧ y = .str j ∧ Q (.bl (!decide (i.cps.toList < j.cps.toList))) H
theorem or_lt : OpR X (compareOp .Lt) RLt := op_lt.or op_lt_str
theorem or_le : OpR X (compareOp .LtE) RLe := op_le.or op_le_str
theorem or_gt : OpR X (compareOp .Gt) RGt := op_gt.or op_gt_str
theorem or_ge : OpR X (compareOp .GtE) RGe := op_ge.or op_ge_str
theorem lf_lt : LiftR F K RLt ltD := lf_cmp rfl fun x y Q h => by cases x <;> cases y <;> first | exact h.elim | exact .inl ⟨_, _, rfl, rfl, h⟩ | exact .inr ⟨_, _, rfl, rfl, h⟩
theorem lf_le : LiftR F K RLe leD := lf_cmp rfl fun x y Q h => by cases x <;> cases y <;> first | exact h.elim | exact .inl ⟨_, _, rfl, rfl, h⟩ | exact .inr ⟨_, _, rfl, rfl, h⟩
theorem lf_gt : LiftR F K RGt gtD := lf_cmp rfl fun x y Q h => by cases x <;> cases y <;> first | exact h.elim | exact .inl ⟨_, _, rfl, rfl, h⟩ | exact .inr ⟨_, _, rfl, rfl, h⟩
theorem lf_ge : LiftR F K RGe geD := lf_cmp rfl fun x y Q h => by cases x <;> cases y <;> first | exact h.elim | exact .inl ⟨_, _, rfl, rfl, h⟩ | exact .inr ⟨_, _, rfl, rfl, h⟩
/-- ==, != -/
def REq (K : PySem.W.Frag) : R2 := fun x y H Q => rEq x y H Q ∨ rEqD K x y H Q
def RNe (K : PySem.W.Frag) : R2 := fun x y H Q => rNe x y H Q ∨ rNeD K x y H Q
theorem or_eq (hu : X.A.units + 64 < cLine) : OpR X (compareOp .Eq) (REq X.K) := op_eq.or (op_eqD hu)
theorem or_ne (hu : X.A.units + 64 < cLine) : OpR X (compareOp .NotEq) (RNe X.K) := op_ne.or (op_neD hu)
theorem can_scal {I : Hp} {x y : V} {dx dy : D} (rx : Rep K I x dx) (ry : Rep K I y dy) (h : canEq x' y' = true) (ex : x' = dx) (ey : y' = dy) : (scal x y = true ∧ decide (x = y) = deq dx dy) ∨ (okE dx = true ∧ okE dy = true) := by
  subst ex ey
  unfold canEq at h
  rw [Bool.or_eq_true] at h
  rcases h with h | h
  · left
    rw [Bool.and_eq_true, Bool.and_eq_true] at h
    obtain ⟨⟨s1, s2⟩, s3⟩ := h
    exact scal_of rx ry s1 s2 (by simpa using s3)
  · rw [Bool.and_eq_true] at h
    exact .inr h
theorem okE_split {d : D} (h : okE d = true) : plainD d = true ∧ SeqAt.shaped (toPy d) = true := by
  unfold okE at h
  rw [Bool.and_eq_true] at h
  exact h
theorem lf_eq : LiftR F K (REq K) eqD := by
  intro x y dx dy I H Q st rx ry h
  rcases can_scal rx ry h.1 rfl rfl with ⟨s, e⟩ | ⟨s, s'⟩
  · exact .inl ⟨s, by rw [e]; exact h.2 _ I H st.stp (.bl _)⟩
  · exact .inr ⟨_, _, rx.dp st.sub (okE_split s).1, ry.dp st.sub (okE_split s').1, (okE_split s).2, (okE_split s').2, h.2 _ I H st.stp (.bl _)⟩
theorem lf_ne : LiftR F K (RNe K) neD := by
  intro x y dx dy I H Q st rx ry h
  rcases can_scal rx ry h.1 rfl rfl with ⟨s, e⟩ | ⟨s, s'⟩
  · exact .inl ⟨s, by rw [e]; exact h.2 _ I H st.stp (.bl _)⟩
  · exact .inr ⟨_, _, rx.dp st.sub (okE_split s).1, ry.dp st.sub (okE_split s').1, (okE_split s).2, (okE_split s').2, h.2 _ I H st.stp (.bl _)⟩
end
section
variable {F : Fx} {X : Cx} {a b c : Expr} {ta tb tc : DT} {pos : Pos}
theorem de_add (ha : DE F X a ta) (hb : DE F X b tb) : DE F X (.BinOp a .Add b pos) (fun ρ Q => ta ρ fun x => tb ρ fun y => addD x y Q) := de_op mono_add or_add lf_add ha hb
theorem de_sub (ha : DE F X a ta) (hb : DE F X b tb) : DE F X (.BinOp a .Sub b pos) (fun ρ Q => ta ρ fun x => tb ρ fun y => subD x y Q) := de_op mono_sub op_sub lf_sub ha hb
theorem de_mul (ha : DE F X a ta) (hb : DE F X b tb) : DE F X (.BinOp a .Mult b pos) (fun ρ Q => ta ρ fun x => tb ρ fun y => mulD x y Q) := de_op mono_mul or_mul lf_mul ha hb
theorem de_fdiv (ha : DE F X a ta) (hb : DE F X b tb) : DE F X (.BinOp a .FloorDiv b pos) (fun ρ Q => ta ρ fun x => tb ρ fun y => fdivD x y Q) := de_op mono_fdiv op_fdivW lf_fdiv ha hb
theorem de_mod (ha : DE F X a ta) (hb : DE F X b tb) : DE F X (.BinOp a .Mod b pos) (fun ρ Q => ta ρ fun x => tb ρ fun y => modD x y Q) := de_op mono_mod op_mod lf_mod ha hb
theorem de_pow (ha : DE F X a ta) (hb : DE F X b tb) : DE F X (.BinOp a .Pow b pos) (fun ρ Q => ta ρ fun x => tb ρ fun y => powD x y Q) := de_op mono_pow op_pow lf_pow ha hb
/-- comparisons by their sign -/
inductive Cmp (X : Cx) : CmpOp → R2 → (D → D → (D → Prop) → Prop) → Prop
  | lt : Cmp X .Lt RLt ltD
  | le : Cmp X .LtE RLe leD
  | gt : Cmp X .Gt RGt gtD
  | ge : Cmp X .GtE RGe geD
  | eq (hu : X.A.units + 64 < cLine) : Cmp X .Eq (REq X.K) eqD
  | ne (hu : X.A.units + 64 < cLine) : Cmp X .NotEq (RNe X.K) neD
theorem Cmp.mono {op : CmpOp} {R : R2} {r} (h : Cmp X op R r) : Mono2 r := by
  cases h
  · exact mono_lt
  · exact mono_le
  · exact mono_gt
  · exact mono_ge
  · exact mono_eq
  · exact mono_ne
theorem Cmp.op {op : CmpOp} {R : R2} {r} (h : Cmp X op R r) : OpR X (compareOp op) R := by
  cases h with
  | lt => exact or_lt
  | le => exact or_le
  | gt => exact or_gt
  | ge => exact or_ge
  | eq hu => exact or_eq hu
  | ne hu => exact or_ne hu
theorem Cmp.lf {op : CmpOp} {R : R2} {r} (h : Cmp X op R r) : LiftR F X.K R r := by
  cases h
  · exact lf_lt
  · exact lf_le
  · exact lf_gt
  · exact lf_ge
  · exact lf_eq
  · exact lf_ne
theorem de_c {op : CmpOp} {R : R2} {r} (h : Cmp X op R r) (ha : DE F X a ta) (hb : DE F X b tb) (hm : behindInMarks op b = false := by first | exact nomark _ | rfl) : DE F X (.Compare a [op] [b] pos) (fun ρ Q => ta ρ fun x => tb ρ fun y => r x y Q) := de_cmp h.mono h.op h.lf ha hb hm
theorem dt_c {op : CmpOp} {R : R2} {r} (h : Cmp X op R r) (ha : DE F X a ta) (hb : DE F X b tb) (hm : behindInMarks op b = false := by first | exact nomark _ | rfl) : DTest F X (.Compare a [op] [b] pos) (fun ρ Q => ta ρ fun x => tb ρ fun y => r x y fun z => boolD z Q) := dt_cmp h.mono h.op h.lf ha hb hm
end
end Dk

/-! A def's promise where the codes under way are known: no repr runs when it is called (so its own repr calls are told). -/
namespace Dk
open PySem L2
open PyProof.Rows (envOfC)
structure Rm (k : Nat) (A : Around) : Prop where
  room : Room k A
  gd : A.guards = some []
theorem Rm.mono {j k : Nat} {A : Around} (r : Rm k A) (h : j ≤ k) : Rm j A := ⟨r.room.mono h, r.gd⟩
theorem Rm.deeper {k : Nat} {A : Around} (r : Rm (k + 1) A) (env : Env) : Rm k (A.deeper env) := ⟨r.room.deeper env, r.gd⟩
theorem Rm.units {k : Nat} {A : Around} (r : Rm k A) : A.units + 64 < cLine := r.room.units
section
variable {P : Program} {w : World} {K : PySem.W.Frag} {mg : Str → Option Value} {base : Heap} {CX : CXT} {k j : Nat} {f : Addr} {fd : FuncData} {N ps : List Str} {sp sp' : Sp}
structure GnOk (P : Program) (w : World) (K : PySem.W.Frag) (mg : Str → Option Value) (base : Heap) (CX : CXT) (k : Nat) (f : Addr) (fd : FuncData) (ps : List Str) (sp : Sp) : Prop where
  lens : ∀ vs H Q E, sp vs H Q E → vs.length = ps.length
  go : ∀ (A : Around) (below : List Env) (s : Shared) (H : Hp) (given : Args) (us : List Value) (vs : List V) (Q : VK) (E : XK), Rm k A → Env0 P w K mg base A below s H → BindsTo s fd given (ps.zip us) → Vals vs us → sp vs H Q E → codeAny (model P w) A (.call (.ref f) given) (CR CX below P w H s Q E) s
theorem GnOk.mono (F : GnOk P w K mg base CX j f fd ps sp) (h : j ≤ k) : GnOk P w K mg base CX k f fd ps sp := ⟨F.lens, fun A o s H g us vs Q E hr => F.go A o s H g us vs Q E (hr.mono h)⟩
theorem GnOk.weak (F : GnOk P w K mg base CX k f fd ps sp) (h : ∀ vs H Q E, sp' vs H Q E → sp vs H Q E) : GnOk P w K mg base CX k f fd ps sp' :=
  ⟨fun vs H Q E q => F.lens vs H Q E (h _ _ _ _ q), fun A o s H g us vs Q E hr he hb hv q => F.go A o s H g us vs Q E hr he hb hv (h _ _ _ _ q)⟩
theorem _root_.L2.FnOk.gn (F : FnOk P w K mg base CX k f fd ps sp) : GnOk P w K mg base CX k f fd ps sp := ⟨F.len, fun A o s H g us vs Q E hr => F.run A o s H g us vs Q E hr.room⟩
/-- a def by its body -/
theorem gn_of {name qual : Str} {params : Arguments} {body : List Stmt} {scope : Scope} {dV kV doc pm cdv ct oc : Value} {an od : Option Addr} {osl : Array (Option Value)}
    (hlk : K.lookup f = some ⟨oc, od, .func (PySem.W.fnOf name qual params body scope dV kV doc pm an cdv ct), osl⟩) (hcode : PySem.W.codeIn K cdv qual = true) (Sc : FnScope N ps scope) (hlen : ∀ vs H Q E, sp vs H Q E → vs.length = ps.length)
    (hb : ∀ (A : Around) (below : List Env) (s : Shared) (H : Hp) (vs : List V) (Q : VK) (E : XK), Rm k (A.deeper (envOfC qual scope s.heap.objs.size f cdv)) → sp vs H Q E →
      ∃ t, PSs (cxOf CX P w K mg base N qual scope f cdv A below s H E) body t ∧ t { nx := fun _ H' => Q .non H', rt := Q } (L2.start N vs) H) :
    GnOk P w K mg base CX (k + 1) f (PySem.W.fnOf name qual params body scope dV kV doc pm an cdv ct) ps sp := by
  refine ⟨hlen, fun A below s H given us vs Q E hr e0 hbnd rv hs => ?_⟩
  have hvs := hlen _ _ _ _ hs
  have hK : K.In s.heap := e0.mod.kin.keeps fun b o e => (e0.bs b o e).1
  have hLim : s.heap.NoLimit := e0.mod.nolimit.keeps fun b o e => (e0.bs b o e).1
  have kinds : ∀ y ∈ ps.zip us, scope.names.lookup y.1 = some .local ∨ (scope.names.lookup y.1 = some .cell ∧ ((cellsFrom (s.heap.objs.size + 1) scope.names []).lookup y.1).isSome = true) := by
    rintro ⟨n, v⟩ hy
    rcases Sc.par n (List.of_mem_zip hy).1 with q | q
    · left; exact q
    · right; exact ⟨q, PySem.W.cellsFrom_some _ _ _ (.inl q)⟩
  refine codeAny_call_function hr.room.depth (hK _ _ hlk) rfl Sc.co Sc.gen rfl (PySem.W.codeRec_of hK hcode) (hbnd _ _ _ _ (wpAny_newFunctionEnv_cells Sc.kind kinds fun env he s1 x => ?_))
  subst he
  refine ⟨hLim.keeps x.toInCall.keep, codeAny_func ?_⟩
  obtain ⟨t, h1, h2⟩ := hb A below s H vs Q E (hr.deeper _) hs
  have J : Inv (cxOf CX P w K mg base N qual scope f cdv A below s H E) [] (L2.start N vs) H s1 := inv_start Sc hr.room.hd e0 hvs rv x
  have done : ∀ {σ' : St} {H' : Hp} {v : V} {u : Value} {s' : Shared}, Inv (cxOf CX P w K mg base N qual scope f cdv A below s H E) [] σ' H' s' → RelV v u → Q v H' → CE below P w H s Q u s' := fun {σ' H' v u s'} J rv q => ⟨v, H', J.os, J.bare, J.base, J.hok, rv, q⟩
  refine wpAny_mono (h1.run [] s1 (L2.start N vs) H _ J h2) (fun fl s' h => ?_) fun e s' h => h
  cases fl with
  | next => obtain ⟨σ', H', J', q⟩ := h; exact done (v := V.non) (u := Value.none) J' rfl q
  | ret u => obtain ⟨v, σ', H', J', rv', q⟩ := h; exact done J' rv' q
  | brk => obtain ⟨_, _, _, q⟩ := h; exact q.elim
  | cont => obtain ⟨_, _, _, q⟩ := h; exact q.elim
end
/-! ### calls of it -/
section
variable {X : Cx} {CX : CXT} {k n : Nat} {f : Addr} {fd : FuncData} {ps ks : List Str} {sp : Sp} {E : XK} {ds : List Value} {dvs : List V} {g : List Value → List Value → List Value} {gV : List V → List V → List V}
theorem gn_go {pins : List (Addr × Obj)} {σ : St} {H : Hp} {s : Shared} {Q : VK} {us as : List Value} {kw : List (Str × Value)} {vs : List V} (F : GnOk X.prog X.w X.K X.mg X.base CX k f fd ps sp) (hr : Rm k X.A) (hx : Passes CX X E) (J : Inv X pins σ H s)
    (hb : BindsTo s fd ⟨as, kw⟩ (ps.zip us)) (r : Vals vs us) (h : sp vs H Q E) : wpAny (model X.prog X.w) X.A (call (.ref f) as kw) (EP X pins σ Q) X.xe s := by
  refine wpAny_call (codeAny_mono (F.go X.A X.stack s H _ us vs Q E hr J.env0 hb r h) fun r s' q => ?_)
  cases r with
  | error e => exact hx pins σ H s e s' J q
  | ok fl => cases fl with
    | ret u => exact J.after q
    | next => exact q.elim
    | brk => exact q.elim
    | cont => exact q.elim
theorem gn_pos {pins : List (Addr × Obj)} {σ : St} {H : Hp} {s : Shared} {Q : VK} {us : List Value} {vs : List V} (F : GnOk X.prog X.w X.K X.mg X.base CX k f fd ps sp) (hr : Rm k X.A) (hb : Binds X.K fd ps ds) (hd : Vals dvs ds) (hx : Passes CX X E)
    (J : Inv X pins σ H s) (r : Vals vs us) (h : sp (vs ++ dvs) H Q E) : wpAny (model X.prog X.w) X.A (call (.ref f) us) (EP X pins σ Q) X.xe s := by
  have r2 : Vals (vs ++ dvs) (us ++ ds) := r.append hd
  exact gn_go F hr hx J (hb s us J.kIn (r2.length.symm.trans (F.lens _ _ _ _ h))) r2 h
theorem gn_key {pins : List (Addr × Obj)} {σ : St} {H : Hp} {s : Shared} {Q : VK} {us ws : List Value} {vs zs : List V} (F : GnOk X.prog X.w X.K X.mg X.base CX k f fd ps sp) (hr : Rm k X.A) (hb : KBn X.K fd ps n ks g gV) (hx : Passes CX X E)
    (J : Inv X pins σ H s) (r : Vals vs us) (rz : Vals zs ws) (l1 : vs.length = n) (l2 : zs.length = ks.length) (h : sp (gV vs zs) H Q E) : wpAny (model X.prog X.w) X.A (call (.ref f) us (ks.zip ws)) (EP X pins σ Q) X.xe s :=
  gn_go F hr hx J (hb.to s us ws J.kIn (r.length.symm.trans l1) (rz.length.symm.trans l2)) (hb.rel r rz) h
variable {x : Str} {p pos : Pos} {e : Expr} {es : List Expr} {kws : List Keyword} {t tk : TA}
theorem gn_call (F : GnOk X.prog X.w X.K X.mg X.base CX k f fd ps sp) (hr : Rm k X.A) (hg : Gl X x) (hm : X.mg x = some (.ref f)) (hkp : PySem.W.keepIn X.K (.ref f) = true) (hb : Binds X.K fd ps ds) (hd : Vals dvs ds) (hx : Passes CX X E) (ha : PA X (e :: es) t)
    (hdb : (x == ("__debug__" : Str)) = false) (he : starEach (e :: es) X.env = (false, eval e X.env) :: starEach es X.env) (hpl : (backTo pos (starEach es X.env)).any (·.1) = false) : PE X (.Call (.Name x p) (e :: es) [] pos) (tCall sp dvs E t) :=
  ⟨fun pins s σ H Q J h => wpAny_Call_Name_kw (ld_glob J hg hm (PySem.W.callWith_K (h₀ := X.base) J.ok.mod.kin hkp (thn (ha.run pos pins s σ H _ J h) fun us s1 ⟨vs, H1, J1, r, q⟩ => ⟨J1.kIn, gn_pos F hr hb hd hx J1 r q⟩) he hpl) hdb)⟩
theorem gn_call0 (F : GnOk X.prog X.w X.K X.mg X.base CX k f fd ps sp) (hr : Rm k X.A) (hg : Gl X x) (hm : X.mg x = some (.ref f)) (hkp : PySem.W.keepIn X.K (.ref f) = true) (hb : Binds X.K fd ps ds) (hd : Vals dvs ds) (hx : Passes CX X E)
    (hdb : (x == ("__debug__" : Str)) = false) : PE X (.Call (.Name x p) [] [] pos) (tCall sp dvs E tNil) :=
  ⟨fun pins s σ H Q J h => wpAny_Call_Name_kw (ld_glob J hg hm (PySem.W.callWith_K0 J.kIn hkp (gn_pos (us := []) F hr hb hd hx J .nil h)) hdb)⟩
theorem gn_callN (F : GnOk X.prog X.w X.K X.mg X.base CX k f fd ps sp) (hr : Rm k X.A) (hg : Gl X x) (hm : X.mg x = some (.ref f)) (hkp : PySem.W.keepIn X.K (.ref f) = true) (hb : KBn X.K fd ps n ks g gV) (hx : Passes CX X E) (ha : PA X (e :: es) t) (hkw : PK X kws tk)
    (hall : (backToKw pos (keywordEach kws X.env)).all (·.1.isSome) = true) (hks : (backToKw pos (keywordEach kws X.env)).filterMap (·.1) = ks) (hdb : (x == ("__debug__" : Str)) = false) (he : starEach (e :: es) X.env = (false, eval e X.env) :: starEach es X.env)
    (hpl : ((backTo pos (starEach (e :: es) X.env)).any (·.1) || (backToKw pos (keywordEach kws X.env)).any (·.1.isNone)) = false) : PE X (.Call (.Name x p) (e :: es) kws pos) (tCallN n ks.length sp gV E t tk) := by
  refine ⟨fun pins s σ H Q J h => wpAny_Call_Name_kw (ld_glob J hg hm ?_ hdb)⟩
  refine PySem.W.callWith_KW (h₀ := X.base) J.ok.mod.kin hkp hall (thn (ha.run pos pins s σ H _ J h) fun us s1 ⟨vs, H1, J1, r, q⟩ => ?_) hpl he
  refine thn (hkw.run pos pins s1 σ H1 _ J1 q) fun ws s2 ⟨zs, H2, J2, rz, l1, l2, q2⟩ => ⟨J2.kIn, ?_⟩
  rw [hks]
  exact gn_key F hr hb hx J2 r rz l1 l2 q2
theorem gn_callK0 (F : GnOk X.prog X.w X.K X.mg X.base CX k f fd ps sp) (hr : Rm k X.A) (hg : Gl X x) (hm : X.mg x = some (.ref f)) (hkp : PySem.W.keepIn X.K (.ref f) = true) (hb : KBn X.K fd ps 0 ks g gV) (hx : Passes CX X E) (hkw : PK X kws tk)
    (hall : (backToKw pos (keywordEach kws X.env)).all (·.1.isSome) = true) (hks : (backToKw pos (keywordEach kws X.env)).filterMap (·.1) = ks) (hdb : (x == ("__debug__" : Str)) = false)
    (hpl : ((backTo pos (starEach [] X.env)).any (·.1) || (backToKw pos (keywordEach kws X.env)).any (·.1.isNone)) = false) : PE X (.Call (.Name x p) [] kws pos) (fun σ H Q => tk σ H fun zs H2 => zs.length = ks.length ∧ sp (gV [] zs) H2 Q E) := by
  refine ⟨fun pins s σ H Q J h => wpAny_Call_Name_kw (ld_glob J hg hm ?_ hdb)⟩
  refine PySem.W.callWith_KW0 (h₀ := X.base) J.ok.mod.kin hkp hall (thn (hkw.run pos pins s σ H _ J h) fun ws s2 ⟨zs, H2, J2, rz, l, q⟩ => ⟨J2.kIn, ?_⟩) hpl
  rw [hks]
  exact gn_key (us := []) (vs := []) F hr hb hx J2 .nil rz rfl l q
end
end Dk

namespace Dk
open PySem L2
open PyProof.Rows (envOfC)

/-! ### what a def promises over data -/
/-- an exception: its class, its fields -/
structure Ex where
  cls : Value
  flds : List (Str × D)
def ExRep (K : PySem.W.Frag) (I H : Hp) (cls : Value) (d : Option Addr) (x : Ex) : Prop :=
  cls = x.cls ∧ (x.flds = [] ∨ ∃ dd fs, d = some dd ∧ H dd = some (.xd fs) ∧ fs.map (·.1) = x.flds.map (·.1) ∧ Reps K I (fs.map (·.2)) (x.flds.map (·.2)))
def finX (W : Wd) (K : PySem.W.Frag) (I H : Hp) (E : XK) : Ex → Prop := fun x => ∀ cls d I' H', Stp W I H I' H' → ExRep K I' H' cls d x → E cls d H'
structure DSp where
  n : Nat
  f : List D → (D → Prop) → (Ex → Prop) → Prop
  len : ∀ ds Q E, f ds Q E → ds.length = n
  mono : ∀ ds (Q Q' : D → Prop) (E E' : Ex → Prop), (∀ d, Q d → Q' d) → (∀ x, E x → E' x) → f ds Q E → f ds Q' E'
def spD (W : Wd) (K : PySem.W.Frag) (S : DSp) : Sp := fun vs H Q E => ∃ I ds, StI W I H ∧ Reps K I vs ds ∧ S.f ds (fin ⟨W, H, I⟩ K I H Q) (finX W K I H E)
theorem spD_len {W : Wd} {K : PySem.W.Frag} {S : DSp} : ∀ vs H Q E, spD W K S vs H Q E → vs.length = S.n := fun vs H Q E ⟨I, ds, _, r, h⟩ => r.length.trans (S.len _ _ _ h)

/-! ### calls -/
section
variable {F : Fx} {X : Cx} {K : PySem.W.Frag} {I H : Hp} {ρ : DEnv} {σ : St} {CX : CXT} {k : Nat} {f C : Addr} {fd : FuncData} {ps : List Str} {S : DSp} {E : XK} {x m : Str} {p pos apos : Pos} {e o : Expr} {es : List Expr} {ta : DT} {t : DAT}
def Lets (F : Fx) (K : PySem.W.Frag) (Ed : Ex → Prop) (E : XK) : Prop := ∀ I H, Stp F.W F.I0 F.B I H → ∀ x, Ed x → finX F.W K I H E x
theorem lets0 : Lets F K (fun _ => False) E := fun _ _ _ _ h => h.elim
/-- what leaves a def is what the def's caller wants -/
theorem letsX : Lets F K (finX F.W K F.I0 F.B E) E := fun I H s x h cls d I' H' s' r => h cls d I' H' (s.trans s') r
theorem call_run {Ed : Ex → Prop} (le : Lets F K Ed E) (mono : ∀ ρ (Q Q' : List D → Prop), (∀ d, Q d → Q' d) → t ρ Q → t ρ Q') {Q : VK} (h : rdE F K (fun ρ Q => t ρ fun ds => S.f ds Q Ed) σ H Q) : rdA F K t σ H fun vs H1 => spD F.W K S vs H1 Q E := by
  obtain ⟨I, ρ, A, h⟩ := h
  refine rdA_next mono A h fun ds vs I' H' p s rs => ?_
  refine ⟨I', ds, s.st, rs, S.mono _ _ _ _ _ (fun d q v I2 H2 s2 rv => q v I2 H2 (s.trans s2) rv) (le I' H' (A.stp.trans s)) p⟩
theorem de_call {Ed : Ex → Prop} (Fn : GnOk X.prog X.w X.K X.mg X.base CX k f fd ps (spD F.W X.K S)) (hr : Rm k X.A) (hm : X.mg x = some (.ref f)) (hk : PySem.W.keepIn X.K (.ref f) = true) (hb : Binds X.K fd ps []) (hx : Passes CX X E) (le : Lets F X.K Ed E) (ha : DA F X (e :: es) t)
    (hg : Gl X x := by rfl) (hdb : (x == ("__debug__" : Str)) = false := by decide) (he : starEach (e :: es) X.env = (false, eval e X.env) :: starEach es X.env := by rfl) (hpl : (backTo pos (starEach es X.env)).any (·.1) = false := by rfl) :
    DE F X (.Call (.Name x p) (e :: es) [] pos) (fun ρ Q => t ρ fun ds => S.f ds Q Ed) := by
  refine ⟨fun ρ Q Q' k h => ha.mono _ _ _ (fun d h => S.mono _ _ _ _ _ k (fun _ h => h) h) h, (gn_call Fn hr hg hm hk hb .nil hx ha.run hdb he hpl).imp fun σ H Q h => ?_⟩
  have h := call_run le ha.mono h
  show rdA F X.K t σ H fun vs H1 => spD F.W X.K S (vs ++ []) H1 Q E
  simpa using h
theorem de_call0 {Ed : Ex → Prop} (Fn : GnOk X.prog X.w X.K X.mg X.base CX k f fd ps (spD F.W X.K S)) (hr : Rm k X.A) (hm : X.mg x = some (.ref f)) (hk : PySem.W.keepIn X.K (.ref f) = true) (hb : Binds X.K fd ps []) (hx : Passes CX X E) (le : Lets F X.K Ed E)
    (hg : Gl X x := by rfl) (hdb : (x == ("__debug__" : Str)) = false := by decide) : DE F X (.Call (.Name x p) [] [] pos) (fun ρ Q => S.f [] Q Ed) := by
  refine ⟨fun ρ Q Q' k h => S.mono _ _ _ _ _ k (fun _ h => h) h, (gn_call0 Fn hr hg hm hk hb .nil hx hdb).imp fun σ H Q ⟨I, ρ, A, h⟩ => ?_⟩
  refine ⟨I, [], A.st, .nil, S.mono _ _ _ _ _ (fun d q v I2 H2 s2 rv => q v I2 H2 s2 rv) (le I H A.stp) h⟩
/-- a built-in function, by its rule over data -/
def LiftC (F : Fx) (K : PySem.W.Frag) (R : List V → Hp → VK → Prop) (r : List D → (D → Prop) → Prop) : Prop :=
  ∀ (vs : List V) (ds : List D) (I H : Hp) (Q : VK), StI F.W I H → Reps K I vs ds → r ds (fin F K I H Q) → R vs H Q
variable {R : List V → Hp → VK → Prop} {r : List D → (D → Prop) → Prop} {id T : String}
theorem blt_run (mr : MonoN r) (l : LiftC F K R r) (mono : ∀ ρ (Q Q' : List D → Prop), (∀ d, Q d → Q' d) → t ρ Q → t ρ Q') {Q : VK} (h : rdE F K (fun ρ Q => t ρ fun ds => r ds Q) σ H Q) : rdA F K t σ H fun vs H1 => R vs H1 Q := by
  obtain ⟨I, ρ, A, h⟩ := h
  exact rdA_next mono A h fun ds vs I' H' p s rs => l vs ds I' H' Q s.st rs (mr _ _ _ (fun d q => q.of s) p)
theorem de_callB (mr : MonoN r) (l : LiftC F X.K R r) (hc : CallR X (.builtin id) R) (hm : X.mg x = none) (hv : bootBuiltins x = some (.builtin id)) (ha : DA F X (e :: es) t) (hg : Gl X x := by rfl) (hn : x ≠ "__name__" := by decide) (hdb : (x == ("__debug__" : Str)) = false := by decide)
    (he : starEach (e :: es) X.env = (false, eval e X.env) :: starEach es X.env := by rfl) (hpl : (backTo pos (starEach es X.env)).any (·.1) = false := by rfl) : DE F X (.Call (.Name x p) (e :: es) [] pos) (fun ρ Q => t ρ fun ds => r ds Q) :=
  ⟨fun ρ Q Q' k h => ha.mono _ _ _ (fun d h => mr _ _ _ k h) h, (pe_callB hc hg hm hv ha.run hn hdb he hpl).imp fun σ H Q h => blt_run mr l ha.mono h⟩
theorem de_callT (mr : MonoN r) (l : LiftC F X.K R r) (hc : CallR X (.type T) R) (hm : X.mg x = none) (hv : bootBuiltins x = some (.type T)) (ha : DA F X (e :: es) t) (hg : Gl X x := by rfl) (hn : x ≠ "__name__" := by decide) (hdb : (x == ("__debug__" : Str)) = false := by decide)
    (he : starEach (e :: es) X.env = (false, eval e X.env) :: starEach es X.env := by rfl) (hpl : (backTo pos (starEach es X.env)).any (·.1) = false := by rfl) : DE F X (.Call (.Name x p) (e :: es) [] pos) (fun ρ Q => t ρ fun ds => r ds Q) :=
  ⟨fun ρ Q Q' k h => ha.mono _ _ _ (fun d h => mr _ _ _ k h) h, (pe_callTy hc hg hm hv ha.run hn hdb he hpl).imp fun σ H Q h => blt_run mr l ha.mono h⟩
end

/-! ### statements -/
structure DEnds where
  nx : DEnv → Prop
  rt : D → Prop
  bk : DEnv → Prop
  ct : DEnv → Prop
structure DEnds.le (a b : DEnds) : Prop where
  nx : ∀ ρ, a.nx ρ → b.nx ρ
  rt : ∀ d, a.rt d → b.rt d
  bk : ∀ ρ, a.bk ρ → b.bk ρ
  ct : ∀ ρ, a.ct ρ → b.ct ρ
abbrev DTS := DEnds → DEnv → Prop
def ends (F : Fx) (K : PySem.W.Frag) (I0 : Hp) (Z : Ends) : DEnds where
  nx := fun ρ => ∀ I σ H, Same I0 I → At F K I ρ σ H → Z.nx σ H
  rt := fun d => ∀ v I H, Stp F.W F.I0 F.B I H → Rep K I v d → Z.rt v H
  bk := fun ρ => ∀ I σ H, Same I0 I → At F K I ρ σ H → Z.bk σ H
  ct := fun ρ => ∀ I σ H, Same I0 I → At F K I ρ σ H → Z.ct σ H
def rdS (F : Fx) (K : PySem.W.Frag) (t : DTS) : TS := fun Z σ H => ∃ I ρ, At F K I ρ σ H ∧ t (ends F K I Z) ρ
structure DSt (F : Fx) (X : Cx) (st : Stmt) (t : DTS) : Prop where
  mono : ∀ Z Z' ρ, DEnds.le Z Z' → t Z ρ → t Z' ρ
  run : PS X st (rdS F X.K t)
structure DSts (F : Fx) (X : Cx) (st : List Stmt) (t : DTS) : Prop where
  mono : ∀ Z Z' ρ, DEnds.le Z Z' → t Z ρ → t Z' ρ
  run : PSs X st (rdS F X.K t)
theorem DEnds.le.rfl' {Z : DEnds} : DEnds.le Z Z := ⟨fun _ h => h, fun _ h => h, fun _ h => h, fun _ h => h⟩
theorem ends.le {F : Fx} {K : PySem.W.Frag} {I I' : Hp} {Z : Ends} (s : Same I I') : DEnds.le (ends F K I Z) (ends F K I' Z) :=
  ⟨fun _ h J σ H s' => h J σ H (Same.trans s s'), fun _ h => h, fun _ h J σ H s' => h J σ H (Same.trans s s'), fun _ h J σ H s' => h J σ H (Same.trans s s')⟩
theorem DEnds.le.withNx {Z Z' : DEnds} (l : DEnds.le Z Z') {a b : DEnv → Prop} (h : ∀ ρ, a ρ → b ρ) : DEnds.le { Z with nx := a } { Z' with nx := b } := ⟨h, l.rt, l.bk, l.ct⟩
section
variable {F : Fx} {X : Cx} {K : PySem.W.Frag} {I H I' H' : Hp} {ρ : DEnv} {σ : St} {st : Stmt} {sts : List Stmt} {e c : Expr} {te : DT} {tc : DB} {t u : DTS} {pos : Pos}
theorem dss_nil : DSts F X [] (fun Z ρ => Z.nx ρ) := ⟨fun Z Z' ρ l h => l.nx _ h, pss_nil.imp fun Z σ H ⟨I, ρ, A, h⟩ => h I σ H (Same.refl I) A⟩
theorem dss_cons (h : DSt F X st t) (h' : DSts F X sts u) : DSts F X (st :: sts) (fun Z ρ => t { Z with nx := u Z } ρ) := by
  refine ⟨fun Z Z' ρ l q => h.mono _ _ _ (l.withNx fun ρ => h'.mono _ _ _ l) q, (pss_cons h.run h'.run).imp fun Z σ H ⟨I, ρ, A, q⟩ => ⟨I, ρ, A, h.mono { ends F X.K I Z with nx := u (ends F X.K I Z) } _ _ ⟨fun ρ q I σ H s A => ⟨I, ρ, A, h'.mono _ _ _ (ends.le s) q⟩, fun d q => q, fun ρ q => q, fun ρ q => q⟩ q⟩⟩
theorem dss_one (h : DSt F X st t) : DSts F X [st] t := ⟨h.mono, pss_one h.run⟩
theorem ds_pass : DSt F X (.Pass pos) (fun Z ρ => Z.nx ρ) := ⟨fun Z Z' ρ l h => l.nx _ h, ps_pass.imp fun Z σ H ⟨I, ρ, A, h⟩ => h I σ H (Same.refl I) A⟩
theorem ds_break : DSt F X (.Break pos) (fun Z ρ => Z.bk ρ) := ⟨fun Z Z' ρ l h => l.bk _ h, ps_break.imp fun Z σ H ⟨I, ρ, A, h⟩ => h I σ H (Same.refl I) A⟩
theorem ds_continue : DSt F X (.Continue pos) (fun Z ρ => Z.ct ρ) := ⟨fun Z Z' ρ l h => l.ct _ h, ps_continue.imp fun Z σ H ⟨I, ρ, A, h⟩ => h I σ H (Same.refl I) A⟩
theorem ds_doc {x : Str} {j : Nat} {pos pos' : Pos} : DSt F X (.Expr (.Constant (.str x) j pos) pos') (fun Z ρ => Z.nx ρ) := ⟨fun Z Z' ρ l h => l.nx _ h, ps_doc.imp fun Z σ H ⟨I, ρ, A, h⟩ => h I σ H (Same.refl I) A⟩
theorem ds_ret (h : DE F X e te) : DSt F X (.Return (some e) pos) (fun Z ρ => te ρ Z.rt) :=
  ⟨fun Z Z' ρ l q => h.mono _ _ _ l.rt q, (ps_ret h.run).imp fun Z σ H ⟨I, ρ, A, q⟩ => rdE_next h.mono A q fun d v I' H' p s rv => p v I' H' (A.stp.trans s) rv⟩
theorem ds_retN : DSt F X (.Return none pos) (fun Z ρ => Z.rt .non) := ⟨fun Z Z' ρ l q => l.rt _ q, ps_retN.imp fun Z σ H ⟨I, ρ, A, q⟩ => q _ I H A.stp .non⟩
theorem ds_expr (h : DE F X e te) (hs : swapsWith e none pos.line X.env = pure false := by rfl) : DSt F X (.Expr e pos) (fun Z ρ => te ρ fun _ => Z.nx ρ) :=
  ⟨fun Z Z' ρ l q => h.mono _ _ _ (fun _ q => l.nx _ q) q, (ps_expr h.run hs).imp fun Z σ H ⟨I, ρ, A, q⟩ => rdE_next h.mono A q fun d v I' H' p s rv => p I' σ H' s.i (A.step s)⟩
theorem ds_if {a b : List Stmt} (hc : DTest F X c tc) (ha : DSts F X a t) (hb : DSts F X b u) : DSt F X (.If c a b pos) (fun Z ρ => tc ρ fun k => if k = true then t Z ρ else u Z ρ) := by
  refine ⟨fun Z Z' ρ l q => hc.mono _ _ _ (fun k q => ?_) q, (ps_if hc.run ha.run hb.run).imp fun Z σ H ⟨I, ρ, A, q⟩ => rdT_next hc.mono A q fun k I' H' p s => ?_⟩
  · cases k
    · exact hb.mono _ _ _ l q
    · exact ha.mono _ _ _ l q
  · cases k
    · exact ⟨I', ρ, A.step s, hb.mono _ _ _ (ends.le s.i) p⟩
    · exact ⟨I', ρ, A.step s, ha.mono _ _ _ (ends.le s.i) p⟩
theorem ds_never : DSt F X st (fun _ _ => False) := ⟨fun _ _ _ _ h => h.elim, ps_never.imp fun Z σ H ⟨I, ρ, A, h⟩ => h.elim⟩
end

/-! ### targets -/
abbrev DGT := D → DEnv → (DEnv → Prop) → Prop
/-- σ' is σ but for the slots of js -/
def Only (js : List Nat) (σ σ' : St) : Prop := σ'.length = σ.length ∧ ∀ i, i ∉ js → σ'[i]? = σ[i]?
def rdG (F : Fx) (K : PySem.W.Frag) (js : List Nat) (g : DGT) : TG := fun v σ H Q => ∃ I ρ d, At F K I ρ σ H ∧ Rep K I v d ∧ g d ρ fun ρ' => ∀ I' σ' H', At F K I' ρ' σ' H' → Stp F.W I H I' H' → Only js σ σ' → Q σ' H'
structure DG (F : Fx) (X : Cx) (e : Expr) (js : List Nat) (g : DGT) : Prop where
  mono : ∀ d ρ (Q Q' : DEnv → Prop), (∀ ρ, Q ρ → Q' ρ) → g d ρ Q → g d ρ Q'
  run : PG X e (rdG F X.K js g)
abbrev DGTs := List D → DEnv → (DEnv → Prop) → Prop
def rdGs (F : Fx) (K : PySem.W.Frag) (js : List Nat) (g : DGTs) : TGs := fun v σ H Q => ∃ I ρ d, At F K I ρ σ H ∧ Reps K I v d ∧ g d ρ fun ρ' => ∀ I' σ' H', At F K I' ρ' σ' H' → Stp F.W I H I' H' → Only js σ σ' → Q σ' H'
structure DGs (F : Fx) (X : Cx) (e : List Expr) (js : List Nat) (g : DGTs) : Prop where
  mono : ∀ d ρ (Q Q' : DEnv → Prop), (∀ ρ, Q ρ → Q' ρ) → g d ρ Q → g d ρ Q'
  run : PGs X e (rdGs F X.K js g)
section
variable {F : Fx} {X : Cx} {K : PySem.W.Frag} {I H I' H' : Hp} {ρ : DEnv} {σ : St} {st : Stmt} {e tg : Expr} {es : List Expr} {te : DT} {g : DGT} {gs : DGTs} {pos : Pos}
theorem _root_.L2.PG.imp {e : Expr} {t u : TG} (h : PG X e t) (i : ∀ v σ H Q, u v σ H Q → t v σ H Q) : PG X e u := ⟨fun pins s σ H v w Q J r q => h.run pins s σ H v w Q J r (i v σ H Q q)⟩
theorem _root_.L2.PGs.imp {e : List Expr} {t u : TGs} (h : PGs X e t) (i : ∀ v σ H Q, u v σ H Q → t v σ H Q) : PGs X e u := ⟨fun pins s σ H v w Q J r q => h.run pins s σ H v w Q J r (i v σ H Q q)⟩
theorem set_at {ρ : DEnv} {i j : Nat} {x : Option Ent} {e : Ent} (h : (ρ.set i x)[j]? = some (some e)) : (i = j ∧ x = some e) ∨ (i ≠ j ∧ ρ[j]? = some (some e)) := by
  by_cases hij : i = j
  · subst hij
    left
    rw [List.getElem?_set] at h
    simp at h
    exact ⟨rfl, h.2⟩
  · rw [List.getElem?_set_ne hij] at h
    exact .inr ⟨hij, h⟩
theorem At.set (a : At F K I ρ σ H) {i : Nat} {v : V} {d : D} (r : Rep K I v d) : At F K I (ρ.set i (some (.dat d))) (σ.set i (some v)) H := by
  refine ⟨a.stp, by simp [a.len], fun j e h => ?_, fun j l e e' w hjl h1 h2 o1 o2 hw => ?_⟩
  · rcases set_at h with ⟨rfl, q⟩ | ⟨hij, q⟩
    · cases q
      have hi : i < ρ.length := by
        have := (List.getElem?_eq_some_iff.mp h).1
        simpa using this
      exact ⟨v, by rw [List.getElem?_set]; simp [← a.len, hi], r⟩
    · obtain ⟨w, h1, h2⟩ := a.env j e q
      exact ⟨w, by rw [List.getElem?_set_ne hij]; exact h1, h2⟩
  · rcases set_at h1 with ⟨rfl, q⟩ | ⟨hij, q⟩
    · cases q; exact o1.elim
    · rcases set_at h2 with ⟨rfl, q'⟩ | ⟨hil, q'⟩
      · cases q'; exact o2.elim
      · rw [List.getElem?_set_ne hij] at hw
        rw [List.getElem?_set_ne hil]
        exact a.dis j l e e' w hjl q q' o1 o2 hw
theorem dg_name {x : Str} (i : Nat) (hN : X.N.Nodup) (hi : X.N[i]? = some x := by rfl) (hx : Loc X.env.scope x := by first | exact Or.inl rfl | exact Or.inr rfl) (hf : X.fn x = true ∨ X.env.scope.names.lookup x = some .local := by first | exact .inl rfl | exact .inr rfl | assumption) : DG F X (.Name x pos) [i] (fun d ρ Q => Q (ρ.set i (some (.dat d)))) :=
  ⟨fun d ρ Q Q' k q => k _ q, (pg_name hN hi hx hf).imp fun v σ H Q ⟨I, ρ, d, A, r, q⟩ => q I _ H (A.set r) A.st.stp ⟨by simp, fun j hj => List.getElem?_set_ne (fun e => hj (by simp [e]))⟩⟩
theorem dgs_nil : DGs F X [] [] (fun ds ρ Q => ds = [] ∧ Q ρ) := by
  refine ⟨fun d ρ Q Q' k q => ⟨q.1, k _ q.2⟩, pgs_nil.imp fun v σ H Q ⟨I, ρ, d, A, r, e, q⟩ => ?_⟩
  subst e
  cases r
  exact ⟨rfl, q I _ H A A.st.stp ⟨rfl, fun _ _ => rfl⟩⟩
theorem dgs_cons {js ks : List Nat} (h : DG F X e js g) (h' : DGs F X es ks gs) (hs : (assignEach (e :: es) X.env).map (·.2) = assign e X.env :: (assignEach es X.env).map (·.2) := by rfl) : DGs F X (e :: es) (js ++ ks) (fun ds ρ Q => ∃ d r, ds = d :: r ∧ g d ρ fun ρ' => gs r ρ' Q) := by
  refine ⟨fun d ρ Q Q' k ⟨x, r, e, q⟩ => ⟨x, r, e, h.mono _ _ _ _ (fun ρ q => h'.mono _ _ _ _ k q) q⟩, (pgs_cons h.run h'.run hs).imp fun v σ H Q ⟨I, ρ, d, A, rv, x, r, e, q⟩ => ?_⟩
  subst e
  cases rv with
  | cons r1 r2 =>
    refine ⟨_, _, rfl, I, ρ, x, A, r1, h.mono _ _ _ _ (fun ρ' q I' σ' H' A' s o => ?_) q⟩
    exact ⟨I', ρ', r, A', r2.mono s.i, h'.mono _ _ _ _ (fun ρ2 q I2 σ2 H2 A2 s2 o2 => q I2 σ2 H2 A2 (s.trans s2) ⟨o2.1.trans o.1, fun j hj => (o2.2 j fun z => hj (List.mem_append_right _ z)).trans (o.2 j fun z => hj (List.mem_append_left _ z))⟩) q⟩
theorem dg_tup {n k : Nat} {js : List Nat} (hc : X.calm = true) (h : DGs F X es js gs) (hn : (assignEach es X.env).length = n := by rfl) (hst : (assignEach es X.env).findIdx? (·.1) = none := by rfl) : DG F X (.Tuple es k pos) js (fun d ρ Q => ∃ ds, d = .tup ds ∧ ds.length = n ∧ gs ds ρ Q) := by
  refine ⟨fun d ρ Q Q' k ⟨ds, e, l, q⟩ => ⟨ds, e, l, h.mono _ _ _ _ k q⟩, (pg_tup hc h.run hn hst).imp fun v σ H Q ⟨I, ρ, d, A, r, ds, e, l, q⟩ => ?_⟩
  subst e
  cases r with
  | tup a rs => exact ⟨_, _, rfl, Same.seqT A.st.sub a, by rw [rs.length]; exact l, I, ρ, ds, A, rs, q⟩
/-- target = value -/
theorem ds_asg {js : List Nat} (he : DE F X e te) (hg : DG F X tg js g) (hs : swapsWithSole [tg] e pos.line X.env = pure false := by rfl) (hw : swappedStores [tg] e X.env = pure none := by rfl) (h1 : (assignEach [tg] X.env).map (·.2) = [assign tg X.env] := by rfl) : DSt F X (.Assign [tg] e pos) (fun Z ρ => te ρ fun d => g d ρ Z.nx) := by
  refine ⟨fun Z Z' ρ l q => he.mono _ _ _ (fun d q => hg.mono _ _ _ _ l.nx q) q, (ps_asg he.run hg.run hs hw h1).imp fun Z σ H ⟨I, ρ, A, q⟩ => rdE_next he.mono A q fun d v I' H' p s rv => ?_⟩
  exact ⟨I', ρ, d, A.step s, rv, hg.mono _ _ _ _ (fun ρ2 q I2 σ2 H2 A2 s2 _ => q I2 σ2 H2 (Same.trans s.i s2.i) A2) p⟩
theorem ds_set {x : Str} {pos' : Pos} (i : Nat) (he : DE F X e te) (hN : X.N.Nodup) (hi : X.N[i]? = some x := by rfl) (hx : Loc X.env.scope x := by first | exact Or.inl rfl | exact Or.inr rfl) (hs : swapsWith e (some (.Name x pos')) pos.line X.env = pure false := by rfl)
    (hf : X.fn x = true ∨ X.env.scope.names.lookup x = some .local := by first | exact .inl rfl | exact .inr rfl | assumption) : DSt F X (.Assign [.Name x pos'] e pos) (fun Z ρ => te ρ fun d => Z.nx (ρ.set i (some (.dat d)))) := by
  refine ⟨fun Z Z' ρ l q => he.mono _ _ _ (fun d q => l.nx _ q) q, (ps_set hN hi hx he.run hs hf).imp fun Z σ H ⟨I, ρ, A, q⟩ => rdE_next he.mono A q fun d v I' H' p s rv => ?_⟩
  exact p I' _ H' s.i ((A.step s).set rv)
/-- a, b = x, y -/
theorem ds_par {i j : Nat} {x y : Str} {a b : Expr} {ta : DAT} {px py pt : Pos} {kt k2 pt2} (hc : X.calm = true) (hN : X.N.Nodup) (hi : X.N[i]? = some x) (hj : X.N[j]? = some y) (hij : i ≠ j) (hkx : X.env.scope.names.lookup x = some .local) (hky : X.env.scope.names.lookup y = some .local)
    (ha : DA F X [a, b] ta) (hsw : swappedStores [.Tuple [.Name x px, .Name y py] kt pt] (.Tuple [a, b] k2 pt2) X.env = pure (some [x, y]) := by rfl) (hs : swapsWithSole [.Tuple [.Name x px, .Name y py] kt pt] (.Tuple [a, b] k2 pt2) pos.line X.env = pure false := by rfl) : DSt F X (.Assign [.Tuple [.Name x px, .Name y py] kt pt] (.Tuple [a, b] k2 pt2) pos) (fun Z ρ => ta ρ fun ds => ∃ d e, ds = [d, e] ∧ Z.nx ((ρ.set i (some (.dat d))).set j (some (.dat e)))) := by
  refine ⟨fun Z Z' ρ l q => ha.mono _ _ _ (fun d ⟨x, y, e, q⟩ => ⟨x, y, e, l.nx _ q⟩) q, (ps_par hc hN hi hj hij hkx hky ha.run hsw hs).imp fun Z σ H ⟨I, ρ, A, q⟩ => rdA_next ha.mono A q fun ds vs I' H' p s rs => ?_⟩
  obtain ⟨d, e, rfl, q⟩ := p
  cases rs with
  | cons r1 r2 =>
    cases r2 with
    | cons r2 r3 =>
      cases r3
      exact ⟨_, _, rfl, q I' _ H' s.i (((A.step s).set r1).set r2)⟩
end

/-! ### a def by its body -/
def startD (N : List Str) (ds : List D) : DEnv := ds.map (fun d => some (Ent.dat d)) ++ List.replicate (N.length - ds.length) none
theorem at_start {W : Wd} {K : PySem.W.Frag} {I H : Hp} {N : List Str} {vs : List V} {ds : List D} (s : StI W I H) (r : Reps K I vs ds) : At ⟨W, H, I⟩ K I (startD N ds) (L2.start N vs) H := by
  refine ⟨s.stp, by simp [startD, L2.start, r.length], fun i e h => ?_, fun i j e e' v hij h1 h2 o1 => ?_⟩
  · unfold startD at h
    by_cases hi : i < ds.length
    · rw [List.getElem?_append_left (by simpa using hi), List.getElem?_map] at h
      cases q : ds[i]? with
      | none => rw [q] at h; cases h
      | some d =>
        rw [q] at h
        cases h
        obtain ⟨v, h1, h2⟩ := r.get q
        refine ⟨v, ?_, h2⟩
        unfold L2.start
        rw [List.getElem?_append_left (by simpa [r.length] using hi), List.getElem?_map, h1]
        rfl
    · rw [List.getElem?_append_right (by simpa using hi), List.getElem?_replicate] at h
      split at h <;> cases h
  · unfold startD at h1
    by_cases hi : i < ds.length
    · rw [List.getElem?_append_left (by simpa using hi), List.getElem?_map] at h1
      cases q : ds[i]? with
      | none => rw [q] at h1; cases h1
      | some d => rw [q] at h1; cases h1; exact o1.elim
    · rw [List.getElem?_append_right (by simpa using hi), List.getElem?_replicate] at h1
      split at h1 <;> cases h1
def defEnds (Q : D → Prop) : DEnds := ⟨fun _ => Q .non, Q, fun _ => False, fun _ => False⟩
section
variable {P : Program} {w : World} {K : PySem.W.Frag} {mg : Str → Option Value} {base : Heap}
theorem body_run {F : Fx} {X : Cx} {t : DTS} {body : List Stmt} {N : List Str} {vs : List V} {ds : List D} {Q : VK} {H I : Hp} {W : Wd} (hF : F = ⟨W, H, I⟩) (h : DSts F X body t) (s : StI W I H) (r : Reps X.K I vs ds) (q : t (defEnds (fin F X.K I H Q)) (startD N ds)) :
    rdS F X.K t { nx := fun _ H' => Q .non H', rt := Q } (L2.start N vs) H := by
  subst hF
  exact ⟨I, _, at_start s r, h.mono (defEnds (fin ⟨W, H, I⟩ X.K I H Q)) _ _ ⟨fun ρ q I' σ' H' s A => q _ I' H' A.stp .non, fun d q v I' H' s r => q v I' H' s r, fun _ q => q.elim, fun _ q => q.elim⟩ q⟩
/-- a def of the text whose promise may lean on the guards -/
theorem _root_.L2.Fun.gn {CX : CXT} {x qual : Str} {st : Stmt} {f : Addr} {fd : FuncData} {N ps : List Str} {k : Nat} {sp : Sp} (Fn : Fun K x qual st f fd) (Sc : FnScope N ps (defScope st)) (hlen : ∀ vs H Q E, sp vs H Q E → vs.length = ps.length)
    (hb : ∀ (cdv : Value) (A : Around) (below : List Env) (s : Shared) (H : Hp) (vs : List V) (Q : VK) (E : XK), Rm k (A.deeper (envOfC qual (defScope st) s.heap.objs.size f cdv)) → sp vs H Q E →
      ∃ t, PSs (cxOf CX P w K mg base N qual (defScope st) f cdv A below s H E) (defBody st) t ∧ t { nx := fun _ H' => Q .non H', rt := Q } (L2.start N vs) H) : GnOk P w K mg base CX (k + 1) f fd ps sp := by
  obtain ⟨oc, od, kV, doc, pm, an, cdv, ct, osl, rfl, lk, hcd⟩ := Fn.ex
  exact gn_of lk hcd Sc hlen (hb cdv)
/-- a def that lets no exception out -/
theorem _root_.L2.Fun.okD {W : Wd} {S : DSp} {x qual : Str} {st : Stmt} {f : Addr} {fd : FuncData} {N ps : List Str} {k : Nat} (Fn : Fun K x qual st f fd) (Sc : FnScope N ps (defScope st)) (hn : S.n = ps.length)
    (hbody : ∀ (cdv : Value) (A : Around) (outer : List Env) (s : Shared) (H I : Hp) (ds : List D) (Q : D → Prop) (Ed : Ex → Prop) (E : XK), Rm k (A.deeper (envOfC qual (defScope st) s.heap.objs.size f cdv)) → S.f ds Q Ed →
      ∃ t, DSts ⟨W, H, I⟩ (cxOf CX0 P w K mg base N qual (defScope st) f cdv A outer s H E).nox (defBody st) t ∧ t (defEnds Q) (startD N ds)) : GnOk P w K mg base CX0 (k + 1) f fd ps (spD W K S) := by
  refine Fn.gn Sc (fun vs H Q E h => (spD_len _ _ _ _ h).trans hn) fun cdv A outer s H vs Q E hr ⟨I, ds, si, r, h⟩ => ?_
  obtain ⟨t, h1, h2⟩ := hbody cdv A outer s H I ds _ _ E hr h
  exact ⟨_, h1.run.nox, body_run rfl h1 si r h2⟩
/-- a def that may let one out -/
theorem _root_.L2.Fun.okXD {W : Wd} {S : DSp} {x qual : Str} {st : Stmt} {f : Addr} {fd : FuncData} {N ps : List Str} {k : Nat} (Fn : Fun K x qual st f fd) (Sc : FnScope N ps (defScope st)) (hn : S.n = ps.length)
    (hbody : ∀ (cdv : Value) (A : Around) (outer : List Env) (s : Shared) (H I : Hp) (ds : List D) (Q : D → Prop) (E : XK), Rm k (A.deeper (envOfC qual (defScope st) s.heap.objs.size f cdv)) → S.f ds Q (finX W K I H E) →
      ∃ t, DSts ⟨W, H, I⟩ (cxOf (L2.CX P w) P w K mg base N qual (defScope st) f cdv A outer s H E) (defBody st) t ∧ t (defEnds Q) (startD N ds)) : GnOk P w K mg base (L2.CX P w) (k + 1) f fd ps (spD W K S) := by
  refine Fn.gn Sc (fun vs H Q E h => (spD_len _ _ _ _ h).trans hn) fun cdv A outer s H vs Q E hr ⟨I, ds, si, r, h⟩ => ?_
  obtain ⟨t, h1, h2⟩ := hbody cdv A outer s H I ds _ E hr h
  exact ⟨_, h1.run, body_run rfl h1 si r h2⟩
end
end Dk

namespace Dk
open PySem L2
open PyProof.Rows (envOfC)
open RZ (ItzT pi_zipA iZipA)

/-! ### what is walked, over data -/
structure JRep (W : Wd) (K : PySem.W.Frag) (J : It) (I : Hp) (ds : List D) : Prop where
  go : ∀ (i : Nat) I2 H2, Same I I2 → StI W I2 H2 → i < ds.length → J.go i H2
  yld : ∀ (i : Nat) I2 H2 x H3, i < ds.length → Same I I2 → StI W I2 H2 → J.yld i H2 x H3 → ∃ d I3, ds[i]? = some d ∧ Stp W I2 H2 I3 H3 ∧ Rep K I3 x d
  stop : ∀ I2 H2, Same I I2 → StI W I2 H2 → J.stop ds.length H2
def finI (F : Fx) (K : PySem.W.Frag) (I H : Hp) (R : It → Hp → Prop) : List D → Prop := fun ds => ∀ J I' H', Stp F.W I H I' H' → JRep F.W K J I' ds → R J H'
def rdI (F : Fx) (K : PySem.W.Frag) (t : DAT) : TI := fun σ H R => ∃ I ρ, At F K I ρ σ H ∧ t ρ (finI F K I H R)
structure DI (F : Fx) (X : Cx) (tg e : Expr) (t : DAT) : Prop where
  mono : ∀ ρ (Q Q' : List D → Prop), (∀ d, Q d → Q' d) → t ρ Q → t ρ Q'
  run : PI X tg e (rdI F X.K t)
section
variable {F : Fx} {X : Cx} {K : PySem.W.Frag} {W : Wd} {I H : Hp} {ρ : DEnv} {σ : St} {tg e e2 : Expr} {te tb : DT} {ta : DAT} {p pos : Pos}
theorem _root_.L2.PI.imp {t u : TI} (h : PI X tg e t) (i : ∀ σ H R, u σ H R → t σ H R) : PI X tg e u := ⟨fun pins s σ H R J q => h.run pins s σ H R J (i σ H R q)⟩
theorem jr_list {a : Addr} {vs : List V} {ds : List D} (h : I a = some (.lst vs)) (r : Reps K I vs ds) : JRep W K (Itl K a) I ds where
  go := fun i I2 H2 s st hi => by
    have hv : i < vs.length := by rw [r.length]; exact hi
    exact ⟨vs, vs[i], .of (st.sub _ _ (s _ _ h)), by simp [hv]⟩
  yld := fun i I2 H2 x H3 hi s st ⟨e, y⟩ => by
    subst e
    obtain ⟨d, h1, h2⟩ := (r.mono s).getV (y vs (.of (st.sub _ _ (s _ _ h))))
    exact ⟨d, I2, h1, st.stp, h2⟩
  stop := fun I2 H2 s st => ⟨vs, .of (st.sub _ _ (s _ _ h)), by rw [r.length]; exact Nat.le_refl _⟩
theorem jr_tup {a : Addr} {vs : List V} {ds : List D} (h : SqT K I a vs) (r : Reps K I vs ds) : JRep W K (Itt K a) I ds where
  go := fun i I2 H2 s st hi => by
    have hv : i < vs.length := by rw [r.length]; exact hi
    exact ⟨vs, vs[i], Same.seqT (Same.trans s st.sub) h, by simp [hv]⟩
  yld := fun i I2 H2 x H3 hi s st ⟨e, y⟩ => by
    subst e
    obtain ⟨d, h1, h2⟩ := (r.mono s).getV (y vs (Same.seqT (Same.trans s st.sub) h))
    exact ⟨d, I2, h1, st.stp, h2⟩
  stop := fun I2 H2 s st => ⟨vs, Same.seqT (Same.trans s st.sub) h, by rw [r.length]; exact Nat.le_refl _⟩
def rngD (lo : Int) (n : Nat) : List D := (List.range n).map fun i => D.int (lo + (i : Nat))
theorem rngD_length (lo : Int) (n : Nat) : (rngD lo n).length = n := by simp [rngD]
theorem jr_range {lo : Int} {n : Nat} : JRep W K (Itr lo n) I (rngD lo n) where
  go := fun i I2 H2 s st hi => by rw [rngD_length] at hi; exact hi
  yld := fun i I2 H2 x H3 hi s st ⟨e, y⟩ => by
    subst e y
    refine ⟨.int (lo + i), I2, ?_, st.stp, .int _⟩
    rw [rngD_length] at hi
    unfold rngD
    rw [List.getElem?_map, List.getElem?_range hi]
    rfl
  stop := fun I2 H2 s st => by show n ≤ _; rw [rngD_length]; exact Nat.le_refl _
def sgnD (x : Str) : List D := x.cps.toList.map fun c => D.str ⟨#[c]⟩
theorem jr_str {x : Str} : JRep W K (Its x) I (sgnD x) where
  go := fun i I2 H2 s st hi => by show i < x.cps.size; simpa [sgnD] using hi
  yld := fun i I2 H2 v H3 hi s st ⟨e, c, hc, y⟩ => by
    subst e y
    refine ⟨.str ⟨#[c]⟩, I2, ?_, st.stp, .str _⟩
    unfold sgnD
    rw [List.getElem?_map, Array.getElem?_toList, hc]
    rfl
  stop := fun I2 H2 s st => by show x.cps.size ≤ _; simp [sgnD]
theorem jr_enum {a : Addr} {vs : List V} {ds : List D} (h : I a = some (.lst vs)) (r : Reps K I vs ds) : JRep W K (Ite K a) I (ds.mapIdx fun i d => .tup [.int (i : Nat), d]) where
  go := fun i I2 H2 s st hi => by
    have hv : i < vs.length := by rw [r.length]; simpa using hi
    exact ⟨vs, vs[i], .of (st.sub _ _ (s _ _ h)), by simp [hv]⟩
  yld := fun i I2 H2 v H3 hi s st ⟨T, x, ev, hT, eH, y⟩ => by
    subst ev eH
    obtain ⟨d, h1, h2⟩ := (r.mono s).getV (y vs (.of (st.sub _ _ (s _ _ h))))
    have l := st.laid hT (.tup [.int (i : Nat), x])
    refine ⟨.tup [.int (i : Nat), d], _, ?_, l, .tup (.of upd_same) (.cons (.int _) (.cons (h2.mono l.i) .nil))⟩
    rw [List.getElem?_mapIdx, h1]
    rfl
  stop := fun I2 H2 s st => ⟨vs, .of (st.sub _ _ (s _ _ h)), by simp [r.length]⟩
theorem jr_zipL {a b : Addr} {vs ws : List V} {ds es : List D} (h : I a = some (.lst vs)) (r : Reps K I vs ds) (h' : I b = some (.lst ws)) (r' : Reps K I ws es) : JRep W K (Itz K a b) I (List.zipWith (fun d e => .tup [d, e]) ds es) where
  go := fun i I2 H2 s st hi => by
    rw [List.length_zipWith] at hi
    have hv : i < vs.length := by rw [r.length]; omega
    have hw : i < ws.length := by rw [r'.length]; omega
    exact ⟨vs, ws, vs[i], ws[i], .of (st.sub _ _ (s _ _ h)), .of (st.sub _ _ (s _ _ h')), by simp [hv], by simp [hw]⟩
  yld := fun i I2 H2 v H3 hi s st ⟨T, x, x', ev, hT, eH, y, y'⟩ => by
    subst ev eH
    obtain ⟨d, h1, h2⟩ := (r.mono s).getV (y vs (.of (st.sub _ _ (s _ _ h))))
    obtain ⟨e, h3, h4⟩ := (r'.mono s).getV (y' ws (.of (st.sub _ _ (s _ _ h'))))
    have l := st.laid hT (.tup [x, x'])
    refine ⟨.tup [d, e], _, ?_, l, .tup (.of upd_same) (.cons (h2.mono l.i) (.cons (h4.mono l.i) .nil))⟩
    rw [List.getElem?_zipWith, h1, h3]
  stop := fun I2 H2 s st => ⟨vs, ws, .of (st.sub _ _ (s _ _ h)), .of (st.sub _ _ (s _ _ h')), by rw [r.length, r'.length, List.length_zipWith]; omega⟩
theorem jr_zipT {a b : Addr} {vs ws : List V} {ds es : List D} (h : SqT K I a vs) (r : Reps K I vs ds) (h' : SqT K I b ws) (r' : Reps K I ws es) : JRep W K (ItzT K a b) I (List.zipWith (fun d e => .tup [d, e]) ds es) where
  go := fun i I2 H2 s st hi => by
    rw [List.length_zipWith] at hi
    have hv : i < vs.length := by rw [r.length]; omega
    have hw : i < ws.length := by rw [r'.length]; omega
    exact ⟨vs, ws, vs[i], ws[i], Same.seqT (Same.trans s st.sub) h, Same.seqT (Same.trans s st.sub) h', by simp [hv], by simp [hw]⟩
  yld := fun i I2 H2 v H3 hi s st ⟨T, x, x', ev, hT, eH, y, y'⟩ => by
    subst ev eH
    obtain ⟨d, h1, h2⟩ := (r.mono s).getV (y vs (Same.seqT (Same.trans s st.sub) h))
    obtain ⟨e, h3, h4⟩ := (r'.mono s).getV (y' ws (Same.seqT (Same.trans s st.sub) h'))
    have l := st.laid hT (.tup [x, x'])
    refine ⟨.tup [d, e], _, ?_, l, .tup (.of upd_same) (.cons (h2.mono l.i) (.cons (h4.mono l.i) .nil))⟩
    rw [List.getElem?_zipWith, h1, h3]
  stop := fun I2 H2 s st => ⟨vs, ws, Same.seqT (Same.trans s st.sub) h, Same.seqT (Same.trans s st.sub) h', by rw [r.length, r'.length, List.length_zipWith]; omega⟩
/-- a list, a tuple, a text, whichever comes -/
def iVal (K : PySem.W.Frag) (te : TE) : TI := fun σ H R => te σ H fun x H1 => (∃ a xs, x = .ref a ∧ SqL K H1 a xs ∧ R (Itl K a) H1) ∨ (∃ a xs, x = .ref a ∧ SqT K H1 a xs ∧ R (Itt K a) H1) ∨ ∃ z, x = .str z ∧ R (Its z) H1
theorem pi_val {e : Expr} {t : TE} (h : PE X e t) : PI X tg e (iVal X.K t) := by
  refine ⟨fun pn s0 σ0 H0 R0 J0 q0 => thn (h.run pn s0 σ0 H0 _ J0 q0) fun u s1 hu => ?_⟩
  obtain ⟨x, H1, J1, ru, c⟩ := hu
  rcases c with ⟨a, xs, rfl, hx, q⟩ | ⟨a, xs, rfl, hx, q⟩ | ⟨z, rfl, q⟩
  · cases ru
    obtain ⟨its, _, pl, _⟩ := J1.list hx
    exact PySem.wpAny_pyIter_list pl.isList (pi_one (tk := s1.toks) J1 _ (turn_list a _) ⟨_, Heap.get?_push_size _ rfl, rfl, rfl⟩ q)
  · cases ru
    obtain ⟨its, _, pl, _⟩ := J1.tuple hx
    exact PySem.wpAny_pyIter_tuple (show s1.heap.IsTuple a its.toArray from pl) (pi_one (tk := s1.toks) J1 _ (turn_tuple a _) ⟨_, Heap.get?_push_size _ rfl, rfl, rfl⟩ q)
  · obtain ⟨t, rfl⟩ := ru
    cases hz : z.cps.all (· < 128)
    · exact PySem.wpAny_pyIter_wide hz (pi_one (tk := s1.toks) J1 _ (turn_str _ z t _ (.inr rfl)) ⟨_, Heap.get?_push_size _ rfl, rfl, rfl⟩ q)
    · exact PySem.wpAny_pyIter_ascii hz (pi_one (tk := s1.toks) J1 _ (turn_str _ z t _ (.inl rfl)) ⟨_, Heap.get?_push_size _ rfl, rfl, rfl⟩ q)
/-- what a for may walk -/
def itemsD : D → (List D → Prop) → Prop
  | .lst ds, Q => Q ds
  | .tup ds, Q => Q ds
  | .str x, Q => Q (sgnD x)
  | _, _ => False
theorem itemsD.mono {d : D} {Q Q' : List D → Prop} (k : ∀ ds, Q ds → Q' ds) (h : itemsD d Q) : itemsD d Q' := by
  cases d <;> first | exact h.elim | exact k _ h
theorem di_seq (he : DE F X e te) : DI F X tg e (fun ρ Q => te ρ fun d => itemsD d Q) := by
  refine ⟨fun ρ Q Q' k q => he.mono _ _ _ (fun d => itemsD.mono k) q, (pi_val he.run).imp fun σ H R ⟨I, ρ, A, q⟩ => rdE_next he.mono A q fun d v I' H' p s rv => ?_⟩
  cases rv with
  | tup a r => exact .inr (.inl ⟨_, _, rfl, Same.seqT s.st.sub a, p _ _ _ s (jr_tup a r)⟩)
  | lst a r => exact .inl ⟨_, _, rfl, .of (s.st.sub _ _ a), p _ _ _ s (jr_list a r)⟩
  | str x => exact .inr (.inr ⟨_, rfl, p _ _ _ s jr_str⟩)
  | non => exact p.elim
  | bl b => exact p.elim
  | int b => exact p.elim
  | dic _ _ _ => exact p.elim
  | obj _ _ _ => exact p.elim
  | opq _ => exact p.elim
theorem di_range1 (hm : X.mg "range" = none) (ha : DA F X [e] ta) (hg : Gl X "range" := by rfl) (hs : starEach [e] X.env = [(false, eval e X.env)] := by rfl) : DI F X tg (.Call (.Name "range" p) [e] [] pos) (fun ρ Q => ta ρ fun ds => ∃ j : Int, ds = [.int j] ∧ -(2 ^ 62) ≤ j ∧ j < 2 ^ 62 ∧ Q (rngD 0 j.toNat)) := by
  refine ⟨fun ρ Q Q' k q => ha.mono _ _ _ (fun ds ⟨j, e, a, b, q⟩ => ⟨j, e, a, b, k _ q⟩) q, (pi_range1 hg hm ha.run hs).imp fun σ H R ⟨I, ρ, A, q⟩ => rdA_next ha.mono A q fun ds vs I' H' p s rs => ?_⟩
  obtain ⟨j, rfl, a, b, q⟩ := p
  cases rs with
  | cons r1 r2 =>
    cases r2
    cases r1
    exact ⟨j, rfl, a, b, q _ _ _ s jr_range⟩
theorem di_range2 (hm : X.mg "range" = none) (ha : DA F X [e, e2] ta) (hg : Gl X "range" := by rfl) (hs : starEach [e, e2] X.env = [(false, eval e X.env), (false, eval e2 X.env)] := by rfl) (hs2 : starEach [e2] X.env = [(false, eval e2 X.env)] := by rfl) :
    DI F X tg (.Call (.Name "range" p) [e, e2] [] pos) (fun ρ Q => ta ρ fun ds => ∃ i j : Int, ds = [.int i, .int j] ∧ (-(2 ^ 62) ≤ i ∧ i < 2 ^ 62 ∧ -(2 ^ 62) ≤ j ∧ j < 2 ^ 62) ∧ Q (rngD i (j - i).toNat)) := by
  refine ⟨fun ρ Q Q' k q => ha.mono _ _ _ (fun ds ⟨i, j, e, a, q⟩ => ⟨i, j, e, a, k _ q⟩) q, (pi_range2 hg hm ha.run hs hs2).imp fun σ H R ⟨I, ρ, A, q⟩ => rdA_next ha.mono A q fun ds vs I' H' p s rs => ?_⟩
  obtain ⟨i, j, rfl, a, q⟩ := p
  cases rs with
  | cons r1 r2 =>
    cases r2 with
    | cons r2 r3 =>
      cases r3
      cases r1
      cases r2
      exact ⟨i, j, rfl, a, q _ _ _ s jr_range⟩
/-- enumerate of a list, zip of two lists or two tuples -/
theorem di_enum {elts : List Expr} {kk : Nat} {tpos : Pos} (hm : X.mg "enumerate" = none) (ha : DA F X [e] ta) (hg : Gl X "enumerate" := by rfl) (hs : starEach [e] X.env = [(false, eval e X.env)] := by rfl) :
    DI F X (.Tuple elts kk tpos) (.Call (.Name "enumerate" p) [e] [] pos) (fun ρ Q => ta ρ fun ds => ∃ es, ds = [.lst es] ∧ Q (es.mapIdx fun i d => .tup [.int (i : Nat), d])) := by
  refine ⟨fun ρ Q Q' k q => ha.mono _ _ _ (fun ds ⟨i, e, q⟩ => ⟨i, e, k _ q⟩) q, (pi_enum hg hm ha.run hs).imp fun σ H R ⟨I, ρ, A, q⟩ => rdA_next ha.mono A q fun ds vs I' H' p s rs => ?_⟩
  obtain ⟨es, rfl, q⟩ := p
  cases rs with
  | cons r1 r2 =>
    cases r2
    cases r1 with
    | lst a r => exact ⟨_, _, rfl, .of (s.st.sub _ _ a), q _ _ _ s (jr_enum a r)⟩
def zipD : List D → (List D → Prop) → Prop
  | [.lst xs, .lst ys], Q => Q (List.zipWith (fun d e => .tup [d, e]) xs ys)
  | [.tup xs, .tup ys], Q => Q (List.zipWith (fun d e => .tup [d, e]) xs ys)
  | _, _ => False
theorem zipD.mono {ds : List D} {Q Q' : List D → Prop} (k : ∀ ds, Q ds → Q' ds) (h : zipD ds Q) : zipD ds Q' := by
  unfold zipD at h ⊢
  split at h <;> first | exact k _ h | exact h.elim
theorem di_zip {elts : List Expr} {kk : Nat} {tpos : Pos} (hm : X.mg "zip" = none) (ha : DA F X [e, e2] ta) (hg : Gl X "zip" := by rfl) (hs : starEach [e, e2] X.env = (false, eval e X.env) :: starEach [e2] X.env := by rfl) (hpl : (backTo pos (starEach [e2] X.env)).any (·.1) = false := by rfl) :
    DI F X (.Tuple elts kk tpos) (.Call (.Name "zip" p) [e, e2] [] pos) (fun ρ Q => ta ρ fun ds => zipD ds Q) := by
  refine ⟨fun ρ Q Q' k q => ha.mono _ _ _ (fun ds => zipD.mono k) q, (pi_zipA hg hm ha.run hs hpl).imp fun σ H R ⟨I, ρ, A, q⟩ => rdA_next ha.mono A q fun ds vs I' H' p s rs => ?_⟩
  unfold zipD at p
  split at p
  · cases rs with
    | cons r1 r2 =>
      cases r2 with
      | cons r2 r3 =>
        cases r3
        cases r1 with
        | lst a r =>
          cases r2 with
          | lst a' r' => exact ⟨_, _, _, _, rfl, .inl ⟨.of (s.st.sub _ _ a), .of (s.st.sub _ _ a'), p _ _ _ s (jr_zipL a r a' r')⟩⟩
  · cases rs with
    | cons r1 r2 =>
      cases r2 with
      | cons r2 r3 =>
        cases r3
        cases r1 with
        | tup a r =>
          cases r2 with
          | tup a' r' => exact ⟨_, _, _, _, rfl, .inr ⟨Same.seqT s.st.sub a, Same.seqT s.st.sub a', p _ _ _ s (jr_zipT a r a' r')⟩⟩
  · exact p.elim
end

/-! ### for, while -/
def forD (g : DGT) (tb : DTS) (Z : DEnds) : List D → DEnv → Prop
  | [], ρ => Z.nx ρ
  | d :: ds, ρ => g d ρ fun ρ2 => tb { Z with nx := forD g tb Z ds, ct := forD g tb Z ds, bk := Z.nx } ρ2
theorem forD.mono {F : Fx} {X : Cx} {tg : Expr} {js : List Nat} {g : DGT} {body : List Stmt} {tb : DTS} (hg : DG F X tg js g) (hb : DSts F X body tb) {Z Z' : DEnds} (l : DEnds.le Z Z') : ∀ (ds : List D) (ρ : DEnv), forD g tb Z ds ρ → forD g tb Z' ds ρ
  | [], ρ, h => l.nx _ h
  | d :: ds, ρ, h => hg.mono _ _ _ _ (fun ρ2 q => hb.mono { Z with nx := forD g tb Z ds, ct := forD g tb Z ds, bk := Z.nx } _ _ ⟨forD.mono hg hb l ds, l.rt, l.nx, forD.mono hg hb l ds⟩ q) h
section
variable {F : Fx} {X : Cx} {tg iter c : Expr} {js : List Nat} {g : DGT} {body : List Stmt} {tb : DTS} {ti : DAT} {tc : DB} {pos : Pos}
theorem ds_for (hp : PassesOwn (model X.prog X.w) X.A X.env X.xe) (hc : X.calm = true) (hi : DI F X tg iter ti) (hg : DG F X tg js g) (hb : DSts F X body tb) (hs : ∀ x, foldedSetIterable iter X.env x = pure x := by intro _; rfl) : DSt F X (.For tg iter body [] pos) (fun Z ρ => ti ρ fun ds => forD g tb Z ds ρ) := by
  refine ⟨fun Z Z' ρ l q => hi.mono _ _ _ (fun ds => forD.mono hg hb l ds ρ) q, (ps_for hp hc hi.run hg.run hb.run hs).imp fun Z σ H ⟨I, ρ, A, q⟩ => ?_⟩
  refine ⟨I, ρ, A, hi.mono _ _ _ (fun ds q J I' H' s jr => ?_) q⟩
  refine ⟨fun i m σ' H2 => m = ds.length - i ∧ i ≤ ds.length ∧ ∃ I2 ρ2, At F X.K I2 ρ2 σ' H2 ∧ Same I' I2 ∧ forD g tb (ends F X.K I' Z) (ds.drop i) ρ2, ⟨ds.length, by simp, Nat.zero_le _, I', ρ, A.step s, Same.refl _, by simpa using forD.mono hg hb (ends.le s.i) ds ρ q⟩, ?_⟩
  rintro i m σ' H2 ⟨rfl, hi', I2, ρ2, A2, s2, q2⟩
  by_cases hlt : i < ds.length
  · refine .inr ⟨jr.go i I2 H2 s2 A2.st hlt, fun σ3 H3 => ∃ I3 ρ3, At F X.K I3 ρ3 σ3 H3 ∧ Same I' I3 ∧ forD g tb (ends F X.K I' Z) (ds.drop (i + 1)) ρ3, fun σ3 H3 ⟨I3, ρ3, A3, s3, q3⟩ => ⟨ds.length - (i + 1), by omega, rfl, hlt, I3, ρ3, A3, s3, q3⟩, fun x H3 y => ?_⟩
    obtain ⟨d, I3, hd, st3, rx⟩ := jr.yld i I2 H2 x H3 hlt s2 A2.st y
    rw [List.drop_eq_getElem_cons hlt] at q2
    have hd' : ds[i] = d := by
      rw [List.getElem?_eq_getElem hlt] at hd
      exact Option.some.inj hd
    rw [hd'] at q2
    refine ⟨I3, ρ2, d, A2.step st3, rx, hg.mono _ _ _ _ (fun ρ4 q4 I4 σ4 H4 A4 s4 _ => ?_) q2⟩
    have s4' : Same I' I4 := Same.trans (Same.trans s2 st3.i) s4.i
    refine ⟨I4, ρ4, A4, hb.mono { ends F X.K I' Z with nx := forD g tb (ends F X.K I' Z) (ds.drop (i + 1)), ct := forD g tb (ends F X.K I' Z) (ds.drop (i + 1)), bk := (ends F X.K I' Z).nx } _ _ ⟨fun ρ5 q5 I5 σ5 H5 s5 A5 => ⟨I5, ρ5, A5, Same.trans s4' s5, q5⟩, fun d q => q, fun ρ5 q5 I5 σ5 H5 s5 A5 => q5 I5 σ5 H5 (Same.trans s4' s5) A5, fun ρ5 q5 I5 σ5 H5 s5 A5 => ⟨I5, ρ5, A5, Same.trans s4' s5, q5⟩⟩ q4⟩
  · have e : i = ds.length := by omega
    subst e
    rw [List.drop_length] at q2
    exact .inl ⟨jr.stop I2 H2 s2 A2.st, q2 _ _ _ s2 A2⟩
def whileD (tc : DB) (tb : DTS) (Z : DEnds) (ρ : DEnv) : Prop := ∃ P : Nat → DEnv → Prop, (∃ m, P m ρ) ∧ ∀ m ρ, P m ρ → tc ρ fun b => if b = true then tb { Z with nx := fun ρ' => ∃ m', m' < m ∧ P m' ρ', ct := fun ρ' => ∃ m', m' < m ∧ P m' ρ', bk := Z.nx } ρ else Z.nx ρ
theorem ds_while (hp : PassesOwn (model X.prog X.w) X.A X.env X.xe) (hc : DTest F X c tc) (hb : DSts F X body tb) : DSt F X (.While c body [] pos) (whileD tc tb) := by
  refine ⟨fun Z Z' ρ l ⟨P, h0, hs⟩ => ⟨P, h0, fun m ρ p => hc.mono _ _ _ (fun b q => ?_) (hs m ρ p)⟩, (ps_while hp hc.run hb.run).imp fun Z σ H ⟨I, ρ, A, P, ⟨m, p⟩, hs⟩ => ?_⟩
  · cases b
    · exact l.nx _ q
    · exact hb.mono { Z with nx := fun ρ' => ∃ m', m' < m ∧ P m' ρ', ct := fun ρ' => ∃ m', m' < m ∧ P m' ρ', bk := Z.nx } _ _ ⟨fun _ h => h, l.rt, l.nx, fun _ h => h⟩ q
  · refine ⟨fun m σ' H2 => ∃ I2 ρ2, At F X.K I2 ρ2 σ' H2 ∧ Same I I2 ∧ P m ρ2, ⟨m, I, ρ, A, Same.refl _, p⟩, fun m σ' H2 ⟨I2, ρ2, A2, s2, p2⟩ => ?_⟩
    refine rdT_next hc.mono A2 (hs m ρ2 p2) fun b I3 H3 q s => ?_
    have s3 : Same I I3 := Same.trans s2 s.i
    cases b
    · exact q _ _ _ s3 (A2.step s)
    · refine ⟨fun σ' H' => ∃ m', m' < m ∧ ∃ I4 ρ4, At F X.K I4 ρ4 σ' H' ∧ Same I I4 ∧ P m' ρ4, fun σ' H' h => h, I3, ρ2, A2.step s, hb.mono { ends F X.K I Z with nx := fun ρ' => ∃ m', m' < m ∧ P m' ρ', ct := fun ρ' => ∃ m', m' < m ∧ P m' ρ', bk := (ends F X.K I Z).nx } _ _ ?_ q⟩
      exact ⟨fun ρ' ⟨m', l, p'⟩ I4 σ4 H4 s4 A4 => ⟨m', l, I4, ρ', A4, Same.trans s3 s4, p'⟩, fun d q => q, fun ρ' q I4 σ4 H4 s4 A4 => q I4 σ4 H4 (Same.trans s3 s4) A4, fun ρ' ⟨m', l, p'⟩ I4 σ4 H4 s4 A4 => ⟨m', l, I4, ρ', A4, Same.trans s3 s4, p'⟩⟩
end
end Dk

namespace Dk
open PySem L2
open PyProof.Rows (envOfC)

/-! ### list comprehensions -/
def wipeD (ρ : DEnv) : List Nat → DEnv
  | [] => ρ
  | v :: vs => (wipeD ρ vs).set v none
theorem wipeD_length (ρ : DEnv) : ∀ vs : List Nat, (wipeD ρ vs).length = ρ.length
  | [] => rfl
  | v :: vs => by unfold wipeD; rw [List.length_set, wipeD_length ρ vs]
theorem wipeD_some {ρ : DEnv} {i : Nat} {e : Ent} : ∀ {vs : List Nat}, (wipeD ρ vs)[i]? = some (some e) → ρ[i]? = some (some e) ∧ i ∉ vs
  | [], h => ⟨h, by simp⟩
  | v :: vs, h => by
    unfold wipeD at h
    rcases set_at h with ⟨_, q⟩ | ⟨hn, q⟩
    · cases q
    · obtain ⟨h1, h2⟩ := wipeD_some q
      exact ⟨h1, by simp [Ne.symm hn, h2]⟩
theorem wipe_at {σ : St} : ∀ {vs : List Nat} {i : Nat}, i ∈ vs → (wipe σ vs)[i]? ≠ some none → i ≥ σ.length
  | [], _, h, _ => by simp at h
  | v :: vs, i, h, hn => by
    unfold wipe at hn
    by_cases e : v = i
    · subst e
      rw [List.getElem?_set] at hn
      simp at hn
      rw [wipe_length] at hn
      exact hn
    · rw [List.getElem?_set_ne e] at hn
      exact wipe_at (by simpa [Ne.symm e] using h) hn
theorem wipe_only {σ σ' : St} {js vs : List Nat} (o : Only js σ σ') (h : ∀ j ∈ js, j ∈ vs) : wipe σ' vs = wipe σ vs := by
  have hl := o.1
  apply List.ext_getElem?
  intro i
  by_cases hi : i ∈ vs
  · by_cases hlt : i < σ.length
    · have a : (wipe σ vs)[i]? = some none := Classical.byContradiction fun z => absurd (wipe_at hi z) (by omega)
      have b : (wipe σ' vs)[i]? = some none := Classical.byContradiction fun z => absurd (wipe_at hi z) (by omega)
      rw [a, b]
    · rw [List.getElem?_eq_none (by rw [wipe_length]; omega), List.getElem?_eq_none (by rw [wipe_length]; omega)]
  · rw [wipe_out hi, wipe_out hi]
    exact o.2 i fun z => hi (h i z)
theorem wipe_wipe (σ : St) (vs : List Nat) : wipe (wipe σ vs) vs = wipe σ vs := by
  apply List.ext_getElem?
  intro i
  by_cases hi : i ∈ vs
  · by_cases hlt : i < σ.length
    · have a : (wipe σ vs)[i]? = some none := Classical.byContradiction fun z => absurd (wipe_at hi z) (by omega)
      have b : (wipe (wipe σ vs) vs)[i]? = some none := Classical.byContradiction fun z => absurd (wipe_at hi z) (by rw [wipe_length]; omega)
      rw [a, b]
    · rw [List.getElem?_eq_none (by rw [wipe_length, wipe_length]; omega), List.getElem?_eq_none (by rw [wipe_length]; omega)]
  · rw [wipe_out hi]
section
variable {F : Fx} {K : PySem.W.Frag} {I H I' H' : Hp} {ρ : DEnv} {σ : St}
theorem At.wipe (a : At F K I ρ σ H) (vs : List Nat) : At F K I (wipeD ρ vs) (wipe σ vs) H := by
  refine ⟨a.stp, by rw [wipeD_length, wipe_length]; exact a.len, fun i e h => ?_, fun i j e e' v hij h1 h2 o1 o2 hv => ?_⟩
  · obtain ⟨h1, h2⟩ := wipeD_some h
    obtain ⟨v, h3, h4⟩ := a.env i e h1
    exact ⟨v, by rw [wipe_out h2]; exact h3, h4⟩
  · obtain ⟨h3, h4⟩ := wipeD_some h1
    obtain ⟨h5, h6⟩ := wipeD_some h2
    rw [wipe_out h4] at hv
    rw [wipe_out h6]
    exact a.dis i j e e' v hij h3 h5 o1 o2 hv
/-- D is no list of a slot's own -/
def Apart (ρ : DEnv) (σ : St) (D : Addr) : Prop := ∀ (i : Nat) e, ρ[i]? = some (some e) → e.isOwn → σ[i]? ≠ some (some (.ref D))
theorem At.apart (a : At F K I ρ σ H) {D : Addr} (h : H D = none) : Apart ρ σ D := fun i e he o hv => by
  obtain ⟨v, h1, h2⟩ := a.env i e he
  rw [hv] at h1
  cases h1
  cases e with
  | dat d => exact o
  | own ds =>
    obtain ⟨p, vs, q, e, _⟩ := h2
    cases q
    rw [h] at e; cases e
  | ownD ds =>
    obtain ⟨p, vs, q, e, _⟩ := h2
    cases q
    rw [h] at e; cases e
theorem At.write (a : At F K I ρ σ H) {D : Addr} (o : HO) (hI : I D = none) (hm : ¬ F.W.mv D) (hB : F.B D = none) (hp : Apart ρ σ D) : At F K I ρ σ (upd H D o) := by
  refine ⟨⟨a.stp.i, ⟨fun b u e => ?_, a.st.imm, F.W.frame (fun b m => upd_ne fun z => hm (z ▸ m)) a.st.inv⟩, fun b u e m => ?_, a.stp.new⟩, a.len, fun i e h => ?_, a.dis⟩
  · rw [upd_ne (ne_of_none e hI)]; exact a.st.sub _ _ e
  · rw [upd_ne (ne_of_none e hB)]; exact a.stp.h _ _ e m
  · obtain ⟨v, h1, h2⟩ := a.env i e h
    refine ⟨v, h1, ?_⟩
    cases e with
    | dat d => exact h2
    | own ds =>
      obtain ⟨p, vs, q, e, r⟩ := h2
      subst q
      exact ⟨p, vs, rfl, by rw [upd_ne fun z => by subst z; exact hp i _ h trivial h1]; exact e, r⟩
    | ownD ds =>
      obtain ⟨p, vs, q, e, r⟩ := h2
      subst q
      exact ⟨p, vs, rfl, by rw [upd_ne fun z => by subst z; exact hp i _ h trivial h1]; exact e, r⟩
theorem Stp.write {W : Wd} (s : Stp W I H I' H') {D : Addr} (o : HO) (hI : I' D = none) (hm : ¬ W.mv D) (hn : H D = none) : Stp W I H I' (upd H' D o) := by
  refine ⟨s.i, ⟨fun b u e => ?_, s.st.imm, W.frame (fun b m => upd_ne fun z => hm (z ▸ m)) s.st.inv⟩, fun b u e m => ?_, s.new⟩
  · rw [upd_ne (ne_of_none e hI)]; exact s.st.sub _ _ e
  · rw [upd_ne (ne_of_none e hn)]; exact s.h _ _ e m
/-- what was made since stands still from now on -/
theorem Stp.freeze {W : Wd} (s : Stp W I H I' H') {D : Addr} {o : HO} (hI : I' D = none) (hm : ¬ W.mv D) (hn : H D = none) (hD : H' D = some o) : Stp W I H (upd I' D o) H' := by
  refine ⟨fun b u e => ?_, ⟨fun b u e => ?_, fun b u e => ?_, s.st.inv⟩, s.h, fun b u e n => ?_⟩
  · have e' := s.i _ _ e
    rw [upd_ne (ne_of_none e' hI)]; exact e'
  · by_cases hb : b = D
    · subst hb; rw [upd_same] at e; cases e; exact hD
    · rw [upd_ne hb] at e; exact s.st.sub _ _ e
  · by_cases hb : b = D
    · subst hb; exact hm
    · rw [upd_ne hb] at e; exact s.st.imm _ _ e
  · rw [upd_ne (ne_of_none e hn)]; exact s.new _ _ e n
theorem Same.laid {I : Hp} {D : Addr} {o : HO} (h : I D = none) : Same I (upd I D o) := fun b u e => by rw [upd_ne (ne_of_none e h)]; exact e
theorem Stp.new_none {W : Wd} (s : Stp W I H I' H') {D : Addr} {o : HO} (hn : I D = none) (h : H D = some o) : I' D = none := s.new _ _ h hn
end
/-- a comprehension's tests -/
structure DIfs (F : Fx) (X : Cx) (ifs : List Expr) (t : DB) : Prop where
  mono : ∀ ρ (Q Q' : Bool → Prop), (∀ d, Q d → Q' d) → t ρ Q → t ρ Q'
  run : PTs X ifs (rdT F X.K t)
theorem _root_.L2.PTs.imp {X : Cx} {ifs : List Expr} {t u : TT} (h : PTs X ifs t) (i : ∀ σ H Q, u σ H Q → t σ H Q) : PTs X ifs u := ⟨fun pins s σ H Q J q => h.run pins s σ H Q J (i σ H Q q)⟩
theorem dif_nil {F : Fx} {X : Cx} : DIfs F X [] (fun _ Q => Q true) := ⟨fun _ _ _ k q => k _ q, pts_nil.imp fun σ H Q ⟨I, ρ, A, q⟩ => q I H A.st.stp⟩
theorem dif_one {F : Fx} {X : Cx} {c : Expr} {t : DB} (h : DTest F X c t) : DIfs F X [c] t := ⟨h.mono, pts_one h.run⟩
def lcD (g : DGT) (tc : DB) (te : DT) (ρ : DEnv) : List D → (List D → Prop) → Prop
  | [], Q => Q []
  | d :: ds, Q => g d ρ fun ρ2 => tc ρ2 fun b => if b = true then te ρ2 fun y => lcD g tc te ρ ds fun ys => Q (y :: ys) else lcD g tc te ρ ds Q
section
variable {F : Fx} {X Y : Cx} {elt tg iter : Expr} {ifs : List Expr} {scope : Scope} {own : List (Str × Nat)} {pos : Pos} {ti : DAT} {js : List Nat} {g : DGT} {tc : DB} {te : DT}
theorem lcD.mono (hg : DG F Y tg js g) (ht : DIfs F Y ifs tc) (he : DE F Y elt te) (ρ : DEnv) : ∀ (ds : List D) (Q Q' : List D → Prop), (∀ ys, Q ys → Q' ys) → lcD g tc te ρ ds Q → lcD g tc te ρ ds Q'
  | [], Q, Q', k, h => k _ h
  | d :: ds, Q, Q', k, h => hg.mono _ _ _ _ (fun ρ2 q => ht.mono _ _ _ (fun b q => by
      cases b
      · exact lcD.mono hg ht he ρ ds _ _ k q
      · exact he.mono _ _ _ (fun y q => lcD.mono hg ht he ρ ds _ _ (fun ys => k _) q) q) q) h
/-- the reading of the block -/
theorem lc_run {vs : List Nat} {K : PySem.W.Frag} (hgm : ∀ d ρ (Q Q' : DEnv → Prop), (∀ ρ, Q ρ → Q' ρ) → g d ρ Q → g d ρ Q') (htm : ∀ ρ (Q Q' : Bool → Prop), (∀ d, Q d → Q' d) → tc ρ Q → tc ρ Q') (hem : ∀ ρ (Q Q' : D → Prop), (∀ d, Q d → Q' d) → te ρ Q → te ρ Q')
    (him : ∀ ρ (Q Q' : List D → Prop), (∀ d, Q d → Q' d) → ti ρ Q → ti ρ Q') (hjs : ∀ j ∈ js, j ∈ vs) {σ : St} {H : Hp} {Q : VK} {I : Hp} {ρ : DEnv} (A : At F K I ρ σ H) {P : List D → Prop}
    (q : ti ρ fun ds => ds.length ≤ sizeLine ∧ lcD g tc te (wipeD ρ vs) ds P) (hP : ∀ ys, P ys → ∀ p I' H', Stp F.W I H I' H' → H p = none → I' p = none → F.B p = none → ¬ F.W.mv p → (∃ ws, H' p = some (.lst ws) ∧ Reps K I' ws ys) → Q (.ref p) H') :
    tLc (rdI F K ti) (rdG F K js g) (rdT F K tc) (rdE F K te) vs σ H Q := by
  refine ⟨I, ρ, A, him _ _ _ (fun ds q J I1 H1 s jr E hE => ?_) q⟩
  obtain ⟨hl, q⟩ := q
  have A1 := (A.step s).wipe vs
  have hp : Apart (wipeD ρ vs) (wipe σ vs) E := A1.apart hE
  have hI1 : I1 E = none := s.st.free hE
  have hm : ¬ F.W.mv E := fun m => F.W.live s.st.inv m hE
  have hB : F.B E = none := by
    cases z : F.B E with
    | none => rfl
    | some u => have := A1.stp.h _ _ z hm; rw [hE] at this; cases this
  have hHE : H E = none := by
    cases z : H E with
    | none => rfl
    | some u => have := s.h _ _ z hm; rw [hE] at this; cases this
  refine ⟨fun i m H2 => m = ds.length - i ∧ i ≤ ds.length ∧ ∃ I2 ws ys, At F K I2 (wipeD ρ vs) (wipe σ vs) H2 ∧ Stp F.W I1 H1 I2 H2 ∧ H2 E = some (.lst ws) ∧ I2 E = none ∧ Reps K I2 ws ys ∧ ws.length ≤ i ∧ lcD g tc te (wipeD ρ vs) (ds.drop i) (fun zs => P (ys ++ zs)),
    ⟨ds.length, by simp, Nat.zero_le _, I1, [], [], A1.write _ hI1 hm hB hp, s.st.stp.write _ hI1 hm hE, upd_same, hI1, .nil, Nat.zero_le _, by simpa using q⟩, ?_⟩
  rintro i m H2 ⟨rfl, hi, I2, ws, ys, A2, s2, h2, n2, r2, l2, q2⟩
  by_cases hlt : i < ds.length
  · refine .inr ⟨jr.go i I2 H2 s2.i A2.st hlt, fun H3 => ∃ I3 ws3 ys3, At F K I3 (wipeD ρ vs) (wipe σ vs) H3 ∧ Stp F.W I1 H1 I3 H3 ∧ H3 E = some (.lst ws3) ∧ I3 E = none ∧ Reps K I3 ws3 ys3 ∧ ws3.length ≤ i + 1 ∧ lcD g tc te (wipeD ρ vs) (ds.drop (i + 1)) (fun zs => P (ys3 ++ zs)),
      fun H3 h => ⟨ds.length - (i + 1), by omega, rfl, hlt, h⟩, fun x H3 y => ?_⟩
    obtain ⟨d, I3, hd, st3, rx⟩ := jr.yld i I2 H2 x H3 hlt s2.i A2.st y
    rw [List.drop_eq_getElem_cons hlt] at q2
    rw [List.getElem?_eq_getElem hlt] at hd
    rw [Option.some.inj hd] at q2
    refine ⟨I3, wipeD ρ vs, d, A2.step st3, rx, hgm _ _ _ _ (fun ρ4 q4 I4 σ4 H4 A4 st4 o4 => ⟨(wipe_only o4 hjs).trans (wipe_wipe σ vs), ?_⟩) q2⟩
    refine rdT_next htm A4 q4 fun b I5 H5 q5 st5 => ?_
    have s25 : Stp F.W I2 H2 I5 H5 := (st3.trans st4).trans st5
    cases b
    · exact ⟨I5, ws, ys, A2.step s25, s2.trans s25, s25.h _ _ h2 hm, s25.new _ _ h2 n2, r2.mono s25.i, by omega, q5⟩
    · refine rdE_next hem (A4.step st5) q5 fun y' v I6 H6 q6 st6 rv => ?_
      have s26 : Stp F.W I2 H2 I6 H6 := s25.trans st6
      have n6 := s26.new _ _ h2 n2
      refine ⟨ws, s26.h _ _ h2 hm, by omega, I6, ws ++ [v], ys ++ [y'], (A2.step s26).write _ n6 hm hB hp, (s2.trans s26).write _ n6 hm hE, upd_same, n6, (r2.mono s26.i).append (.cons rv .nil), by simp; omega, ?_⟩
      simpa using q6
  · have e : i = ds.length := by omega
    subst e
    rw [List.drop_length] at q2
    refine .inl ⟨jr.stop I2 H2 s2.i A2.st, hP ys (by simpa [lcD] using q2) E I2 H2 (s.trans s2) hHE n2 hB hm ⟨ws, h2, r2⟩⟩
theorem de_lc (hc : X.calm = true) (hN : X.N.Nodup) (hi : DI F X tg iter ti) (ok : BlkOk X.N X.env.scope scope own)
    (hg : ∀ (s : Shared) (H : Hp) (C : Addr) (cl : List (Str × Addr)) (fp : List Addr), DG F (X.blk s H scope (compEnvC scope cl C X.env) fp) tg js g)
    (ht : ∀ (s : Shared) (H : Hp) (C : Addr) (cl : List (Str × Addr)) (fp : List Addr), DIfs F (X.blk s H scope (compEnvC scope cl C X.env) fp) ifs tc)
    (he : ∀ (s : Shared) (H : Hp) (C : Addr) (cl : List (Str × Addr)) (fp : List Addr), DE F (X.blk s H scope (compEnvC scope cl C X.env) fp) elt te)
    (hjs : ∀ j ∈ js, j ∈ own.map (·.2) := by decide) (hs : ∀ x, foldedSetIterable iter X.env x = pure x := by intro _; rfl) :
    DE F X (.ListComp elt [⟨tg, iter, ifs, 0⟩] scope pos) (fun ρ Q => ti ρ fun ds => ds.length ≤ sizeLine ∧ lcD g tc te (wipeD ρ (own.map (·.2))) ds fun ys => Q (.lst ys)) := by
  have g0 := hg X.s_0 X.H_0 0 [] []
  have t0 := ht X.s_0 X.H_0 0 [] []
  have e0 := he X.s_0 X.H_0 0 [] []
  refine ⟨fun ρ Q Q' k q => hi.mono _ _ _ (fun ds q => ⟨q.1, lcD.mono g0 t0 e0 _ _ _ _ (fun ys => k _) q.2⟩) q, (pe_lc (g := rdG F X.K js g) (tt := rdT F X.K tc) (te := rdE F X.K te) hc hN hi.run ok (fun s H C cl fp => (hg s H C cl fp).run) (fun s H C cl fp => (ht s H C cl fp).run) (fun s H C cl fp => (he s H C cl fp).run) hs).imp fun σ H Q ⟨I, ρ, A, q⟩ => ?_⟩
  refine lc_run g0.mono t0.mono e0.mono hi.mono hjs A q fun ys q p I' H' s hp ip bp mp ⟨ws, h, r⟩ => ?_
  exact q _ _ _ (s.freeze ip mp hp h) (.lst upd_same (r.mono (Same.laid ip)))
/-- y = [..]: the list stands still -/
theorem ds_setLc {i : Nat} {y : Str} {py spos : Pos} (hc : X.calm = true) (hN : X.N.Nodup) (hy : X.N[i]? = some y) (hyl : X.env.scope.names.lookup y = some .local)
    (hsw : swapsWith (.ListComp elt [⟨tg, iter, ifs, 0⟩] scope pos) (some (.Name y py)) spos.line X.env = pure true) (hi : DI F X tg iter ti) (ok : BlkOk X.N X.env.scope scope own)
    (hg : ∀ (s : Shared) (H : Hp) (C : Addr) (cl : List (Str × Addr)) (fp : List Addr), DG F (X.blk s H scope (compEnvC scope cl C X.env) fp) tg js g)
    (ht : ∀ (s : Shared) (H : Hp) (C : Addr) (cl : List (Str × Addr)) (fp : List Addr), DIfs F (X.blk s H scope (compEnvC scope cl C X.env) fp) ifs tc)
    (he : ∀ (s : Shared) (H : Hp) (C : Addr) (cl : List (Str × Addr)) (fp : List Addr), DE F (X.blk s H scope (compEnvC scope cl C X.env) fp) elt te)
    (hjs : ∀ j ∈ js, j ∈ own.map (·.2) := by decide) (hs : ∀ x, foldedSetIterable iter X.env x = pure x := by intro _; rfl) :
    DSt F X (.Assign [.Name y py] (.ListComp elt [⟨tg, iter, ifs, 0⟩] scope pos) spos) (fun Z ρ => ti ρ fun ds => ds.length ≤ sizeLine ∧ lcD g tc te (wipeD ρ (own.map (·.2))) ds fun ys => Z.nx (ρ.set i (some (.dat (.lst ys))))) := by
  have g0 := hg X.s_0 X.H_0 0 [] []
  have t0 := ht X.s_0 X.H_0 0 [] []
  have e0 := he X.s_0 X.H_0 0 [] []
  refine ⟨fun Z Z' ρ l q => hi.mono _ _ _ (fun ds q => ⟨q.1, lcD.mono g0 t0 e0 _ _ _ _ (fun ys => l.nx _) q.2⟩) q, (ps_setLc (g := rdG F X.K js g) (tt := rdT F X.K tc) (te := rdE F X.K te) hc hN hy hyl hsw hi.run ok (fun s H C cl fp => (hg s H C cl fp).run) (fun s H C cl fp => (ht s H C cl fp).run) (fun s H C cl fp => (he s H C cl fp).run) hs).imp fun Z σ H ⟨I, ρ, A, q⟩ => ?_⟩
  refine lc_run g0.mono t0.mono e0.mono hi.mono hjs A q fun ys q p I' H' s hp ip bp mp ⟨ws, h, r⟩ => ?_
  have s' := s.freeze ip mp hp h
  exact q _ _ _ s'.i ((A.step s').set (.lst upd_same (r.mono (Same.laid ip))))
end
end Dk

namespace Dk
open PySem L2

/-! ### subscripts, slices -/
def ixD : D → D → (D → Prop) → Prop
  | .lst xs, .int i, Q => ∃ d, atI xs i = some d ∧ Q d
  | .tup xs, .int i, Q => ∃ d, atI xs i = some d ∧ Q d
  | .str z, .int i, Q => z.length ≤ sizeLine ∧ ∃ c, atI z.cps.toList i = some c ∧ Q (.str ⟨#[c]⟩)
  | _, _, _ => False
theorem mono_ix : Mono2 ixD := by
  intro x y Q Q' k h
  cases x <;> cases y <;> first | exact h.elim | (obtain ⟨d, e, q⟩ := h; exact ⟨d, e, k _ q⟩) | (obtain ⟨l, d, e, q⟩ := h; exact ⟨l, d, e, k _ q⟩)
theorem Reps.atI {K : PySem.W.Frag} {I : Hp} {vs : List V} {ds : List D} {i : Int} {d : D} (r : Reps K I vs ds) (h : atI ds i = some d) : ∃ v, L2.atI vs i = some v ∧ Rep K I v d := by
  unfold L2.atI at h ⊢
  rw [r.length]
  cases e : ixN ds.length i with
  | none => rw [e] at h; cases h
  | some j =>
    rw [e] at h
    obtain ⟨v, h1, h2⟩ := r.get (show ds[j]? = some d from h)
    exact ⟨v, h1, h2⟩
section
variable {F : Fx} {X : Cx} {K : PySem.W.Frag} {I H : Hp} {a b e : Expr} {ta tb te : DT} {pos p2 : Pos}
theorem lf_ix : LiftR F K (rIx K) ixD := by
  intro x y dx dy I H Q st rx ry h
  cases dx <;> cases dy <;> first | exact h.elim | skip
  · cases rx; cases ry
    obtain ⟨l, c, e, q⟩ := h
    exact .inr (.inr ⟨_, _, c, rfl, rfl, l, e, q _ I H st.stp (.str _)⟩)
  · cases ry
    cases rx with
    | tup a r =>
      obtain ⟨d, e, q⟩ := h
      obtain ⟨v, h1, h2⟩ := r.atI e
      exact .inr (.inl ⟨_, _, _, v, rfl, rfl, Same.seqT st.sub a, h1, q _ I H st.stp h2⟩)
  · cases ry
    cases rx with
    | lst a r =>
      obtain ⟨d, e, q⟩ := h
      obtain ⟨v, h1, h2⟩ := r.atI e
      exact .inl ⟨_, _, _, v, rfl, rfl, .of (st.sub _ _ a), h1, q _ I H st.stp h2⟩
theorem de_at (ha : DE F X a ta) (hb : DE F X b tb) (hs : PlainIx b := by exact fun _ _ => rfl) : DE F X (.Subscript a b pos) (fun ρ Q => ta ρ fun x => tb ρ fun y => ixD x y Q) := de_ix mono_ix ix_seq lf_ix ha hb hs
/-- parts of a slice -/
abbrev DOT := DEnv → (Option Int → Prop) → Prop
def rdO (F : Fx) (K : PySem.W.Frag) (t : DOT) : TO := fun σ H Q => ∃ I ρ, At F K I ρ σ H ∧ t ρ fun o => ∀ I' H', Stp F.W I H I' H' → Q o H'
structure DO (F : Fx) (X : Cx) (e : Option Expr) (t : DOT) : Prop where
  mono : ∀ ρ (Q Q' : Option Int → Prop), (∀ d, Q d → Q' d) → t ρ Q → t ρ Q'
  run : PO X e (rdO F X.K t)
theorem _root_.L2.PO.imp {e : Option Expr} {t u : TO} (h : PO X e t) (i : ∀ σ H Q, u σ H Q → t σ H Q) : PO X e u := ⟨fun pins s σ H Q J q => h.run pins s σ H Q J (i σ H Q q)⟩
theorem do_none : DO F X none (fun _ Q => Q none) := ⟨fun _ _ _ k q => k _ q, po_none.imp fun σ H Q ⟨I, ρ, A, q⟩ => q I H A.st.stp⟩
def intD (d : D) (Q : Int → Prop) : Prop := ∃ i, d = .int i ∧ Q i
theorem do_some (h : DE F X e te) : DO F X (some e) (fun ρ Q => te ρ fun d => intD d fun i => Q (some i)) := by
  refine ⟨fun _ _ _ k q => h.mono _ _ _ (fun d ⟨i, e, q⟩ => ⟨i, e, k _ q⟩) q, (po_some h.run).imp fun σ H Q ⟨I, ρ, A, q⟩ => rdE_next h.mono A q fun d v I' H' p s rv => ?_⟩
  obtain ⟨i, rfl, p⟩ := p
  cases rv
  exact ⟨i, rfl, p I' H' s⟩
def cutD (xs : List D) (lo hi : Option Int) : List D := (xs.drop (HT.sIx xs.length 0 lo)).take (HT.sIx xs.length xs.length hi - HT.sIx xs.length 0 lo)
def sliceD : D → Option Int → Option Int → (D → Prop) → Prop
  | .lst xs, lo, hi, Q => Q (.lst (cutD xs lo hi))
  | .tup xs, lo, hi, Q => Q (.tup (cutD xs lo hi))
  | .str z, lo, hi, Q => z.length ≤ sizeLine ∧ Q (.str (cutS z lo hi))
  | _, _, _, _ => False
theorem sliceD.mono {d : D} {lo hi : Option Int} {Q Q' : D → Prop} (k : ∀ d, Q d → Q' d) (h : sliceD d lo hi Q) : sliceD d lo hi Q' := by
  cases d <;> first | exact h.elim | exact k _ h | exact ⟨h.1, k _ h.2⟩
theorem de_slice {lo hi : Option Expr} {tl th : DOT} (he : DE F X e te) (hl : DO F X lo tl) (hh : DO F X hi th) : DE F X (.Subscript e (.Slice lo hi none p2) pos) (fun ρ Q => te ρ fun d => tl ρ fun l => th ρ fun u => sliceD d l u Q) := by
  refine ⟨fun ρ Q Q' k q => he.mono _ _ _ (fun d q => hl.mono _ _ _ (fun l q => hh.mono _ _ _ (fun u => sliceD.mono k) q) q) q, (pe_slice (sl_list.or (sl_tupA.or sl_str)) he.run hl.run hh.run).imp fun σ H Q ⟨I, ρ, A, q⟩ => rdE_next he.mono A q fun d v I1 H1 q1 s1 rv => ?_⟩
  refine ⟨I1, ρ, A.step s1, hl.mono _ _ _ (fun l q2 I2 H2 s2 => ?_) q1⟩
  refine ⟨I2, ρ, (A.step s1).step s2, hh.mono _ _ _ (fun u q3 I3 H3 s3 => ?_) q2⟩
  have s := (s1.trans s2).trans s3
  have rv := rv.mono (Same.trans s2.i s3.i)
  cases rv with
  | @lst q zs es a r =>
    refine .inl ⟨_, _, rfl, .of (s3.st.sub _ _ a), fun p hp => ?_⟩
    have l' := s3.st.laid hp (.lst (cutV zs l u))
    exact q3 _ _ _ (s.trans l') (.lst upd_same ((r.cut l u).mono l'.i))
  | @tup q zs es a r =>
    refine .inr (.inl ⟨_, _, rfl, Same.seqT s3.st.sub a, fun hw => ?_, fun hw p hp => ?_⟩)
    · have e : cutD es l u = es := by
        unfold cutD
        rw [← r.length, hw.1, hw.2, Nat.sub_zero, List.drop_zero, r.length, List.take_length]
      have q3 : fin F X.K I H Q (.tup (cutD es l u)) := q3
      rw [e] at q3
      exact q3 _ _ _ s (.tup a r)
    · have l' := s3.st.laid hp (.tup (cutV zs l u))
      exact q3 _ _ _ (s.trans l') (.tup (.of upd_same) ((r.cut l u).mono l'.i))
  | str z => exact .inr (.inr ⟨_, rfl, q3.1, q3.2 _ _ _ s (.str _)⟩)
  | non => exact q3.elim
  | bl _ => exact q3.elim
  | int _ => exact q3.elim
  | dic _ _ _ => exact q3.elim
  | obj _ _ _ => exact q3.elim
  | opq _ => exact q3.elim
def revD : D → (D → Prop) → Prop
  | .lst xs, Q => Q (.lst xs.reverse)
  | _, _ => False
/-- xs[::-1] -/
theorem de_rev {k : Nat} {p1 p2 p3 pos : Pos} (he : DE F X e te) : DE F X (.Subscript e (.Slice none none (some (.UnaryOp .USub (.Constant (.int 1) k p1) p2)) p3) pos) (fun ρ Q => te ρ fun d => revD d Q) := by
  refine ⟨fun ρ Q Q' k q => he.mono _ _ _ (fun d q => by cases d <;> first | exact q.elim | exact k _ q) q, (pe_revL he.run).imp fun σ H Q ⟨I, ρ, A, q⟩ => rdE_next he.mono A q fun d v I1 H1 q1 s rv => ?_⟩
  cases rv with
  | @lst q zs es a r =>
    refine ⟨_, _, rfl, .of (s.st.sub _ _ a), fun p hp => ?_⟩
    have l' := s.st.laid hp (.lst zs.reverse)
    exact q1 _ _ _ (s.trans l') (.lst upd_same (r.reverse.mono l'.i))
  | _ => exact q1.elim
end

/-! ### built-in functions -/
def lenD : List D → (D → Prop) → Prop
  | [.lst xs], Q => Q (.int xs.length)
  | [.tup xs], Q => Q (.int xs.length)
  | [.str z], Q => z.length ≤ sizeLine ∧ Q (.int z.length)
  | _, _ => False
def sumD : List D → (D → Prop) → Prop
  | [.lst xs], Q => ∃ ns : List Int, xs = ns.map D.int ∧ Q (.int ns.sum)
  | _, _ => False
def allD : List D → (D → Prop) → Prop
  | [.lst xs], Q => ∃ ns : List Bool, xs = ns.map D.bl ∧ Q (.bl (ns.all id))
  | _, _ => False
def anyD : List D → (D → Prop) → Prop
  | [.lst xs], Q => ∃ ns : List Bool, xs = ns.map D.bl ∧ Q (.bl (ns.any id))
  | _, _ => False
def listD : List D → (D → Prop) → Prop
  | [.lst xs], Q => Q (.lst xs)
  | [.tup xs], Q => Q (.lst xs)
  | _, _ => False
def tupleD : List D → (D → Prop) → Prop
  | [.lst xs], Q => Q (.tup xs)
  | [.tup xs], Q => Q (.tup xs)
  | _, _ => False
def intOfD : List D → (D → Prop) → Prop
  | [.int i], Q => Q (.int i)
  | [.bl b], Q => Q (.int (if b then 1 else 0))
  | [.str z], Q => ∃ n, PySem.intText? z = some n ∧ z.length ≤ 640 ∧ Q (.int n)
  | _, _ => False
def strOfD : List D → (D → Prop) → Prop
  | [.int i], Q => i.natAbs.log2 < 1920 ∧ Q (.str (toString i))
  | [.str z], Q => Q (.str z)
  | _, _ => False
def max2D : List D → (D → Prop) → Prop
  | [.int i, .int j], Q => Q (.int (if j > i then j else i))
  | _, _ => False
def min2D : List D → (D → Prop) → Prop
  | [.int i, .int j], Q => Q (.int (if j < i then j else i))
  | _, _ => False
section
variable {F : Fx} {X : Cx} {K : PySem.W.Frag}
theorem Reps.one {I : Hp} {vs : List V} {d : D} (h : Reps K I vs [d]) : ∃ v, vs = [v] ∧ Rep K I v d := by
  cases h with
  | cons a b => cases b; exact ⟨_, rfl, a⟩
theorem Reps.two {I : Hp} {vs : List V} {d e : D} (h : Reps K I vs [d, e]) : ∃ v w, vs = [v, w] ∧ Rep K I v d ∧ Rep K I w e := by
  cases h with
  | cons a b =>
    obtain ⟨w, rfl, r⟩ := b.one
    exact ⟨_, _, rfl, a, r⟩
theorem Reps.blsOf {I : Hp} : ∀ {ns : List Bool} {vs : List V}, Reps K I vs (ns.map D.bl) → vs = ns.map V.bl := fun h => h.blsV
theorem mono_lenD : MonoN lenD := by
  intro ds Q Q' k h
  unfold lenD at h ⊢
  split at h <;> first | exact h.elim | exact k _ h | exact ⟨h.1, k _ h.2⟩ | (obtain ⟨n, e, q⟩ := h; exact ⟨n, e, k _ q⟩) | (obtain ⟨n, e, l, q⟩ := h; exact ⟨n, e, l, k _ q⟩)
theorem mono_sumD : MonoN sumD := by
  intro ds Q Q' k h
  unfold sumD at h ⊢
  split at h <;> first | exact h.elim | exact k _ h | exact ⟨h.1, k _ h.2⟩ | (obtain ⟨n, e, q⟩ := h; exact ⟨n, e, k _ q⟩) | (obtain ⟨n, e, l, q⟩ := h; exact ⟨n, e, l, k _ q⟩)
theorem mono_allD : MonoN allD := by
  intro ds Q Q' k h
  unfold allD at h ⊢
  split at h <;> first | exact h.elim | exact k _ h | exact ⟨h.1, k _ h.2⟩ | (obtain ⟨n, e, q⟩ := h; exact ⟨n, e, k _ q⟩) | (obtain ⟨n, e, l, q⟩ := h; exact ⟨n, e, l, k _ q⟩)
theorem mono_anyD : MonoN anyD := by
  intro ds Q Q' k h
  unfold anyD at h ⊢
  split at h <;> first | exact h.elim | exact k _ h | exact ⟨h.1, k _ h.2⟩ | (obtain ⟨n, e, q⟩ := h; exact ⟨n, e, k _ q⟩) | (obtain ⟨n, e, l, q⟩ := h; exact ⟨n, e, l, k _ q⟩)
theorem mono_listD : MonoN listD := by
  intro ds Q Q' k h
  unfold listD at h ⊢
  split at h <;> first | exact h.elim | exact k _ h | exact ⟨h.1, k _ h.2⟩ | (obtain ⟨n, e, q⟩ := h; exact ⟨n, e, k _ q⟩) | (obtain ⟨n, e, l, q⟩ := h; exact ⟨n, e, l, k _ q⟩)
theorem mono_tupleD : MonoN tupleD := by
  intro ds Q Q' k h
  unfold tupleD at h ⊢
  split at h <;> first | exact h.elim | exact k _ h | exact ⟨h.1, k _ h.2⟩ | (obtain ⟨n, e, q⟩ := h; exact ⟨n, e, k _ q⟩) | (obtain ⟨n, e, l, q⟩ := h; exact ⟨n, e, l, k _ q⟩)
theorem mono_intOfD : MonoN intOfD := by
  intro ds Q Q' k h
  unfold intOfD at h ⊢
  split at h <;> first | exact h.elim | exact k _ h | exact ⟨h.1, k _ h.2⟩ | (obtain ⟨n, e, q⟩ := h; exact ⟨n, e, k _ q⟩) | (obtain ⟨n, e, l, q⟩ := h; exact ⟨n, e, l, k _ q⟩)
theorem mono_strOfD : MonoN strOfD := by
  intro ds Q Q' k h
  unfold strOfD at h ⊢
  split at h <;> first | exact h.elim | exact k _ h | exact ⟨h.1, k _ h.2⟩ | (obtain ⟨n, e, q⟩ := h; exact ⟨n, e, k _ q⟩) | (obtain ⟨n, e, l, q⟩ := h; exact ⟨n, e, l, k _ q⟩)
theorem mono_max2D : MonoN max2D := by
  intro ds Q Q' k h
  unfold max2D at h ⊢
  split at h <;> first | exact h.elim | exact k _ h | exact ⟨h.1, k _ h.2⟩ | (obtain ⟨n, e, q⟩ := h; exact ⟨n, e, k _ q⟩) | (obtain ⟨n, e, l, q⟩ := h; exact ⟨n, e, l, k _ q⟩)
theorem mono_min2D : MonoN min2D := by
  intro ds Q Q' k h
  unfold min2D at h ⊢
  split at h <;> first | exact h.elim | exact k _ h | exact ⟨h.1, k _ h.2⟩ | (obtain ⟨n, e, q⟩ := h; exact ⟨n, e, k _ q⟩) | (obtain ⟨n, e, l, q⟩ := h; exact ⟨n, e, l, k _ q⟩)
theorem lc_len : LiftC F K (fun xs H Q => ∃ x n, xs = [x] ∧ LenV K x H n ∧ Q (.int n) H) lenD := by
  intro vs ds I H Q st rs h
  unfold lenD at h
  split at h
  · obtain ⟨v, rfl, r⟩ := rs.one
    cases r with
    | lst a r => exact ⟨_, _, rfl, .inl ⟨_, .of (st.sub _ _ a), r.length.symm⟩, h _ I H st.stp (.int _)⟩
  · obtain ⟨v, rfl, r⟩ := rs.one
    cases r with
    | tup a r => exact ⟨_, _, rfl, .inr ⟨_, Same.seqT st.sub a, r.length.symm⟩, h _ I H st.stp (.int _)⟩
  · obtain ⟨v, rfl, r⟩ := rs.one
    cases r
    exact ⟨_, _, rfl, ⟨h.1, rfl⟩, h.2 _ I H st.stp (.int _)⟩
  · exact h.elim
theorem lc_sum : LiftC F K (rSum K) sumD := by
  intro vs ds I H Q st rs h
  unfold sumD at h
  split at h
  · obtain ⟨v, rfl, r⟩ := rs.one
    obtain ⟨ns, rfl, q⟩ := h
    cases r with
    | lst a r => exact ⟨_, ns, rfl, r.intsV ▸ .of (st.sub _ _ a), q _ I H st.stp (.int _)⟩
  · exact h.elim
theorem lc_all : LiftC F K (rAll K) allD := by
  intro vs ds I H Q st rs h
  unfold allD at h
  split at h
  · obtain ⟨v, rfl, r⟩ := rs.one
    obtain ⟨ns, rfl, q⟩ := h
    cases r with
    | lst a r => exact ⟨_, ns, rfl, r.blsV ▸ .of (st.sub _ _ a), q _ I H st.stp (.bl _)⟩
  · exact h.elim
theorem lc_any : LiftC F K (rAny K) anyD := by
  intro vs ds I H Q st rs h
  unfold anyD at h
  split at h
  · obtain ⟨v, rfl, r⟩ := rs.one
    obtain ⟨ns, rfl, q⟩ := h
    cases r with
    | lst a r => exact ⟨_, ns, rfl, r.blsV ▸ .of (st.sub _ _ a), q _ I H st.stp (.bl _)⟩
  · exact h.elim
theorem lc_list : LiftC F K (fun xs H Q => ∃ p ys, xs = [.ref p] ∧ (SqL K H p ys ∨ SqT K H p ys) ∧ ∀ l, H l = none → Q (.ref l) (upd H l (.lst ys))) listD := by
  intro vs ds I H Q st rs h
  unfold listD at h
  split at h
  · obtain ⟨v, rfl, r⟩ := rs.one
    cases r with
    | @lst q zs es a r =>
      refine ⟨_, _, rfl, .inl (.of (st.sub _ _ a)), fun p hp => ?_⟩
      have l := st.laid hp (.lst zs)
      exact h _ _ _ l (.lst upd_same (r.mono l.i))
  · obtain ⟨v, rfl, r⟩ := rs.one
    cases r with
    | @tup q zs es a r =>
      refine ⟨_, _, rfl, .inr (Same.seqT st.sub a), fun p hp => ?_⟩
      have l := st.laid hp (.lst zs)
      exact h _ _ _ l (.lst upd_same (r.mono l.i))
  · exact h.elim
theorem lc_tuple : LiftC F K (fun xs H Q => ∃ p ys, xs = [.ref p] ∧ ((SqL K H p ys ∧ ∀ l, H l = none → Q (.ref l) (upd H l (.tup ys))) ∨ (SqT K H p ys ∧ Q (.ref p) H))) tupleD := by
  intro vs ds I H Q st rs h
  unfold tupleD at h
  split at h
  · obtain ⟨v, rfl, r⟩ := rs.one
    cases r with
    | @lst q zs es a r =>
      refine ⟨_, _, rfl, .inl ⟨.of (st.sub _ _ a), fun p hp => ?_⟩⟩
      have l := st.laid hp (.tup zs)
      exact h _ _ _ l (.tup (.of upd_same) (r.mono l.i))
  · obtain ⟨v, rfl, r⟩ := rs.one
    cases r with
    | tup a r => exact ⟨_, _, rfl, .inr ⟨Same.seqT st.sub a, h _ _ _ st.stp (.tup a r)⟩⟩
  · exact h.elim
theorem lc_int : LiftC F K (fun xs H Q => ((∃ i, xs = [.int i] ∧ Q (.int i) H) ∨ ∃ k, xs = [.bl k] ∧ Q (.int (if k then 1 else 0)) H) ∨ ∃ a n, xs = [.str a] ∧ PySem.intText? a = some n ∧ a.length ≤ 640 ∧ Q (.int n) H) intOfD := by
  intro vs ds I H Q st rs h
  unfold intOfD at h
  split at h
  · obtain ⟨v, rfl, r⟩ := rs.one
    cases r
    exact .inl (.inl ⟨_, rfl, h _ I H st.stp (.int _)⟩)
  · obtain ⟨v, rfl, r⟩ := rs.one
    cases r
    exact .inl (.inr ⟨_, rfl, h _ I H st.stp (.int _)⟩)
  · obtain ⟨v, rfl, r⟩ := rs.one
    obtain ⟨n, e, l, q⟩ := h
    cases r
    exact .inr ⟨_, n, rfl, e, l, q _ I H st.stp (.int _)⟩
  · exact h.elim
theorem lc_str : LiftC F K (fun xs H Q => (∃ i, xs = [.int i] ∧ i.natAbs.log2 < 1920 ∧ Q (.str (toString i)) H) ∨ ∃ a, xs = [.str a] ∧ Q (.str a) H) strOfD := by
  intro vs ds I H Q st rs h
  unfold strOfD at h
  split at h
  · obtain ⟨v, rfl, r⟩ := rs.one
    cases r
    exact .inl ⟨_, rfl, h.1, h.2 _ I H st.stp (.str _)⟩
  · obtain ⟨v, rfl, r⟩ := rs.one
    cases r
    exact .inr ⟨_, rfl, h _ I H st.stp (.str _)⟩
  · exact h.elim
theorem lc_max2 : LiftC F K (fun xs H Q => ∃ i j, xs = [.int i, .int j] ∧ Q (.int (if j > i then j else i)) H) max2D := by
  intro vs ds I H Q st rs h
  unfold max2D at h
  split at h
  · obtain ⟨v, w, rfl, r, r'⟩ := rs.two
    cases r; cases r'
    exact ⟨_, _, rfl, h _ I H st.stp (.int _)⟩
  · exact h.elim
theorem lc_min2 : LiftC F K (fun xs H Q => ∃ i j, xs = [.int i, .int j] ∧ Q (.int (if j < i then j else i)) H) min2D := by
  intro vs ds I H Q st rs h
  unfold min2D at h
  split at h
  · obtain ⟨v, w, rfl, r, r'⟩ := rs.two
    cases r; cases r'
    exact ⟨_, _, rfl, h _ I H st.stp (.int _)⟩
  · exact h.elim
variable {p pos : Pos} {e e2 : Expr} {es : List Expr} {t : DAT} {te : DT}
theorem de_len (hm : X.mg "len" = none) (ha : DA F X [e] t) (hg : Gl X "len" := by rfl) (he : starEach [e] X.env = (false, eval e X.env) :: starEach [] X.env := by rfl) : DE F X (.Call (.Name "len" p) [e] [] pos) (fun ρ Q => t ρ fun ds => lenD ds Q) := de_callB mono_lenD lc_len call_len hm PySem.boot_len ha hg (by decide) (by decide) he rfl
theorem de_sum (hc : X.calm = true) (hm : X.mg "sum" = none) (ha : DA F X [e] t) (hg : Gl X "sum" := by rfl) (he : starEach [e] X.env = (false, eval e X.env) :: starEach [] X.env := by rfl) : DE F X (.Call (.Name "sum" p) [e] [] pos) (fun ρ Q => t ρ fun ds => sumD ds Q) := de_callB mono_sumD lc_sum (cr_sum hc) hm (by decide +kernel) ha hg (by decide) (by decide) he rfl
theorem de_all (hc : X.calm = true) (hm : X.mg "all" = none) (ha : DA F X [e] t) (hg : Gl X "all" := by rfl) (he : starEach [e] X.env = (false, eval e X.env) :: starEach [] X.env := by rfl) : DE F X (.Call (.Name "all" p) [e] [] pos) (fun ρ Q => t ρ fun ds => allD ds Q) := de_callB mono_allD lc_all (cr_all hc) hm (by decide +kernel) ha hg (by decide) (by decide) he rfl
theorem de_any (hc : X.calm = true) (hm : X.mg "any" = none) (ha : DA F X [e] t) (hg : Gl X "any" := by rfl) (he : starEach [e] X.env = (false, eval e X.env) :: starEach [] X.env := by rfl) : DE F X (.Call (.Name "any" p) [e] [] pos) (fun ρ Q => t ρ fun ds => anyD ds Q) := de_callB mono_anyD lc_any (cr_any hc) hm (by decide +kernel) ha hg (by decide) (by decide) he rfl
theorem de_list (hm : X.mg "list" = none) (ha : DA F X [e] t) (hg : Gl X "list" := by rfl) (he : starEach [e] X.env = (false, eval e X.env) :: starEach [] X.env := by rfl) : DE F X (.Call (.Name "list" p) [e] [] pos) (fun ρ Q => t ρ fun ds => listD ds Q) := de_callT mono_listD lc_list call_list_of hm (by decide +kernel) ha hg (by decide) (by decide) he rfl
theorem de_tuple (hm : X.mg "tuple" = none) (ha : DA F X [e] t) (hg : Gl X "tuple" := by rfl) (he : starEach [e] X.env = (false, eval e X.env) :: starEach [] X.env := by rfl) : DE F X (.Call (.Name "tuple" p) [e] [] pos) (fun ρ Q => t ρ fun ds => tupleD ds Q) := de_callT mono_tupleD lc_tuple call_tuple_of hm (by decide +kernel) ha hg (by decide) (by decide) he rfl
theorem de_intOf (hm : X.mg "int" = none) (ha : DA F X [e] t) (hg : Gl X "int" := by rfl) (he : starEach [e] X.env = (false, eval e X.env) :: starEach [] X.env := by rfl) : DE F X (.Call (.Name "int" p) [e] [] pos) (fun ρ Q => t ρ fun ds => intOfD ds Q) := de_callT mono_intOfD lc_int (call_int1.or call_int_str) hm (by decide +kernel) ha hg (by decide) (by decide) he rfl
theorem de_strOf (hm : X.mg "str" = none) (ha : DA F X [e] t) (hg : Gl X "str" := by rfl) (he : starEach [e] X.env = (false, eval e X.env) :: starEach [] X.env := by rfl) : DE F X (.Call (.Name "str" p) [e] [] pos) (fun ρ Q => t ρ fun ds => strOfD ds Q) := de_callT mono_strOfD lc_str (call_str_int.or SkE.call_str_str) hm (by decide +kernel) ha hg (by decide) (by decide) he rfl
theorem de_max2 (hc : X.calm = true) (hm : X.mg "max" = none) (ha : DA F X [e, e2] t) (hg : Gl X "max" := by rfl) (he : starEach [e, e2] X.env = (false, eval e X.env) :: starEach [e2] X.env := by rfl) (hpl : (backTo pos (starEach [e2] X.env)).any (·.1) = false := by rfl) : DE F X (.Call (.Name "max" p) [e, e2] [] pos) (fun ρ Q => t ρ fun ds => max2D ds Q) := de_callB mono_max2D lc_max2 (call_max2 hc) hm (by decide +kernel) ha hg (by decide) (by decide) he hpl
theorem de_min2 (hc : X.calm = true) (hm : X.mg "min" = none) (ha : DA F X [e, e2] t) (hg : Gl X "min" := by rfl) (he : starEach [e, e2] X.env = (false, eval e X.env) :: starEach [e2] X.env := by rfl) (hpl : (backTo pos (starEach [e2] X.env)).any (·.1) = false := by rfl) : DE F X (.Call (.Name "min" p) [e, e2] [] pos) (fun ρ Q => t ρ fun ds => min2D ds Q) := de_callB mono_min2D lc_min2 (call_min2 hc) hm (by decide +kernel) ha hg (by decide) (by decide) he hpl
/-- list(range(..)) -/
theorem de_listRg1 (hc : X.calm = true) (hl : X.mg "list" = none) (hr : X.mg "range" = none) (he : DE F X e te) {q rp : Pos} (hgl : Gl X "list" := by rfl) (hgr : Gl X "range" := by rfl) (n1 : starEach [e] X.env = (false, eval e X.env) :: starEach [] X.env := by rfl)
    (n2 : starEach [Expr.Call (.Name "range" q) [e] [] rp] X.env = (false, eval (Expr.Call (.Name "range" q) [e] [] rp) X.env) :: starEach [] X.env := by rfl) : DE F X (.Call (.Name "list" p) [.Call (.Name "range" q) [e] [] rp] [] pos) (fun ρ Q => te ρ fun d => intD d fun n => RgOk 0 n ∧ Q (.lst (rngD 0 n.toNat))) := by
  refine ⟨fun ρ Q Q' k q => he.mono _ _ _ (fun d ⟨i, e, o, q⟩ => ⟨i, e, o, k _ q⟩) q, (pe_listRg hc hgl hl (prg_1 hgr hr he.run n1) n2).imp fun σ H Q ⟨I, ρ, A, q⟩ => rdE_next he.mono A q fun d v I1 H1 q1 s rv => ?_⟩
  obtain ⟨n, rfl, ok, q1⟩ := q1
  cases rv
  refine ⟨n, rfl, ok, fun z hz => ?_⟩
  have l := s.st.laid hz (.lst (rgV 0 n))
  refine q1 _ _ _ (s.trans l) (.lst upd_same ?_)
  have : Reps X.K (upd I1 z (.lst (rgV 0 n))) (rgV 0 n) (rngD 0 n.toNat) := by
    unfold rgV rngD
    rw [Int.sub_zero]
    refine .of_get (by simp) fun i v d h1 h2 => ?_
    rw [List.getElem?_map] at h1 h2
    cases e : (List.range n.toNat)[i]? with
    | none => rw [e] at h1; cases h1
    | some j => rw [e] at h1 h2; cases h1; cases h2; exact .int _
  exact this
end
end Dk

namespace Dk
open PySem L2

/-! ### lists of our own -/
section
variable {F : Fx} {X : Cx} {K : PySem.W.Frag} {I H I' H' : Hp} {ρ : DEnv} {σ : St} {e : Expr} {es : List Expr} {te : DT} {ta : DAT} {t : DTS} {sts : List Stmt} {pos : Pos}
theorem At.newOwn (a : At F K I ρ σ H) {i : Nat} {p : Addr} {vs : List V} {ds : List D} (hp : H p = none) (r : Reps K I vs ds) : At F K I (ρ.set i (some (.own ds))) (σ.set i (some (.ref p))) (upd H p (.lst vs)) := by
  have hm : ¬ F.W.mv p := fun m => F.W.live a.st.inv m hp
  have hI := a.st.free hp
  have hB : F.B p = none := by
    cases z : F.B p with
    | none => rfl
    | some u => have := a.stp.h _ _ z hm; rw [hp] at this; cases this
  have ap := a.apart hp
  have w := a.write (.lst vs) hI hm hB ap
  refine ⟨w.stp, by simp [a.len], fun j e h => ?_, fun j l e e' v hjl h1 h2 o1 o2 hv => ?_⟩
  · rcases set_at h with ⟨rfl, q⟩ | ⟨hij, q⟩
    · cases q
      have hi : i < ρ.length := by simpa using (List.getElem?_eq_some_iff.mp h).1
      exact ⟨.ref p, by rw [List.getElem?_set]; simp [← a.len, hi], p, vs, rfl, upd_same, r, hI, hm, hB⟩
    · obtain ⟨v, h1, h2⟩ := w.env j e q
      exact ⟨v, by rw [List.getElem?_set_ne hij]; exact h1, h2⟩
  · rcases set_at h1 with ⟨rfl, q⟩ | ⟨hij, q⟩
    · cases q
      have hi : i < ρ.length := by simpa using (List.getElem?_eq_some_iff.mp h1).1
      have hv' : v = .ref p := by
        rw [List.getElem?_set] at hv
        simp [← a.len, hi] at hv
        exact hv.symm
      subst hv'
      rcases set_at h2 with ⟨rfl, q'⟩ | ⟨hil, q'⟩
      · exact absurd rfl hjl
      · rw [List.getElem?_set_ne hil]
        exact ap l e' q' o2
    · rcases set_at h2 with ⟨rfl, q'⟩ | ⟨hil, q'⟩
      · cases q'
        rw [List.getElem?_set_ne hij] at hv
        intro z
        have hi : i < ρ.length := by simpa using (List.getElem?_eq_some_iff.mp h2).1
        rw [List.getElem?_set] at z
        simp [← a.len, hi] at z
        subst z
        exact ap j e q o1 hv
      · rw [List.getElem?_set_ne hij] at hv
        rw [List.getElem?_set_ne hil]
        exact a.dis j l e e' v hjl q q' o1 o2 hv
/-- .. turned -/
theorem At.turnOwn (a : At F K I ρ σ H) {i : Nat} {ds es : List D} (h : ρ[i]? = some (some (.own ds))) : ∃ p vs, σ[i]? = some (some (.ref p)) ∧ H p = some (.lst vs) ∧ Reps K I vs ds ∧ I p = none ∧ F.B p = none ∧ ¬ F.W.mv p ∧ ∀ ws, Reps K I ws es → At F K I (ρ.set i (some (.own es))) σ (upd H p (.lst ws)) := by
  obtain ⟨v, h1, p, vs, rfl, h2, r, n, m, b⟩ := a.env i _ h
  refine ⟨p, vs, h1, h2, r, n, b, m, fun ws rw' => ?_⟩
  refine ⟨⟨a.stp.i, ⟨fun c u e => ?_, a.st.imm, F.W.frame (fun c hm => upd_ne fun z => m (z ▸ hm)) a.st.inv⟩, fun c u e hm => ?_, a.stp.new⟩, by simp [a.len], fun j e hj => ?_, fun j l e e' v hjl h3 h4 o1 o2 hv => ?_⟩
  · rw [upd_ne (ne_of_none e n)]; exact a.st.sub _ _ e
  · rw [upd_ne (ne_of_none e b)]; exact a.stp.h _ _ e hm
  · rcases set_at hj with ⟨rfl, q⟩ | ⟨hij, q⟩
    · cases q
      exact ⟨.ref p, h1, p, ws, rfl, upd_same, rw', n, m, b⟩
    · obtain ⟨w, h3, h4⟩ := a.env j e q
      refine ⟨w, h3, ?_⟩
      cases e with
      | dat d => exact h4
      | own cs =>
        obtain ⟨p', vs', rfl, e', r'⟩ := h4
        exact ⟨p', vs', rfl, by rw [upd_ne fun z => by subst z; exact a.dis i j _ _ _ hij h q trivial trivial h1 h3]; exact e', r'⟩
      | ownD cs =>
        obtain ⟨p', vs', rfl, e', r'⟩ := h4
        exact ⟨p', vs', rfl, by rw [upd_ne fun z => by subst z; exact a.dis i j _ _ _ hij h q trivial trivial h1 h3]; exact e', r'⟩
  · have back : ∀ (k : Nat) (f : Ent), (ρ.set i (some (.own es)))[k]? = some (some f) → f.isOwn → ∃ f', ρ[k]? = some (some f') ∧ f'.isOwn := fun k f hk ho => by
      rcases set_at hk with ⟨rfl, _⟩ | ⟨_, q⟩
      · exact ⟨_, h, trivial⟩
      · exact ⟨f, q, ho⟩
    obtain ⟨f, q1, p1⟩ := back j e h3 o1
    obtain ⟨f', q2, p2⟩ := back l e' h4 o2
    exact a.dis j l f f' v hjl q1 q2 p1 p2 hv
/-- .. it stands still from now on -/
theorem At.freeze (a : At F K I ρ σ H) {i : Nat} {ds : List D} (h : ρ[i]? = some (some (.own ds))) : ∃ p vs, I p = none ∧ H p = some (.lst vs) ∧ Reps K I vs ds ∧ ¬ F.W.mv p ∧ F.B p = none ∧ Same I (upd I p (.lst vs)) ∧ At F K (upd I p (.lst vs)) (ρ.set i (some (.dat (.lst ds)))) σ H := by
  obtain ⟨v, h1, p, vs, rfl, h2, r, n, m, b⟩ := a.env i _ h
  have s : Same I (upd I p (.lst vs)) := Same.laid n
  refine ⟨p, vs, n, h2, r, m, b, s, a.stp.freeze n m b h2, by simp [a.len], fun j e hj => ?_, fun j l e e' v hjl h3 h4 o1 o2 hv => ?_⟩
  · rcases set_at hj with ⟨rfl, q⟩ | ⟨hij, q⟩
    · cases q
      exact ⟨.ref p, h1, .lst upd_same (r.mono s)⟩
    · obtain ⟨w, h3, h4⟩ := a.env j e q
      refine ⟨w, h3, ?_⟩
      cases e with
      | dat d => exact Rep.mono s h4
      | own cs =>
        obtain ⟨p', vs', rfl, e', r', n', m', b'⟩ := h4
        exact ⟨p', vs', rfl, e', r'.mono s, by rw [upd_ne fun z => by subst z; exact a.dis i j _ _ _ hij h q trivial trivial h1 h3]; exact n', m', b'⟩
      | ownD cs =>
        obtain ⟨p', vs', rfl, e', k', r', n', m', b'⟩ := h4
        exact ⟨p', vs', rfl, e', k', r'.mono s, by rw [upd_ne fun z => by subst z; exact a.dis i j _ _ _ hij h q trivial trivial h1 h3]; exact n', m', b'⟩
  · have back : ∀ (k : Nat) (f : Ent), (ρ.set i (some (.dat (.lst ds))))[k]? = some (some f) → f.isOwn → ρ[k]? = some (some f) := fun k f hk ho => by
      rcases set_at hk with ⟨rfl, q⟩ | ⟨_, q⟩
      · cases q; exact ho.elim
      · exact q
    exact a.dis j l e e' v hjl (back j e h3 o1) (back l e' h4 o2) o1 o2 hv
/-- x = [..], to grow -/
theorem ds_own {x : Str} {pos' p2 : Pos} (i : Nat) (ha : DA F X es ta) (hN : X.N.Nodup) (hi : X.N[i]? = some x := by rfl) (hx : Loc X.env.scope x := by first | exact Or.inl rfl | exact Or.inr rfl) (hs : swapsWith (.List es p2) (some (.Name x pos')) pos.line X.env = pure false := by rfl)
    (hf : X.fn x = true ∨ X.env.scope.names.lookup x = some .local := by first | exact .inl rfl | exact .inr rfl | assumption) : DSt F X (.Assign [.Name x pos'] (.List es p2) pos) (fun Z ρ => ta ρ fun ds => ds.length ≤ sizeLine ∧ Z.nx (ρ.set i (some (.own ds)))) := by
  refine ⟨fun Z Z' ρ l q => ha.mono _ _ _ (fun d q => ⟨q.1, l.nx _ q.2⟩) q, (ps_set hN hi hx (pe_lst ha.run) hs hf).imp fun Z σ H ⟨I, ρ, A, q⟩ => rdA_next ha.mono A q fun ds vs I' H' p s rs => ⟨rs.length ▸ p.1, fun a hz => ?_⟩⟩
  exact p.2 I' _ _ s.i ((A.step s).newOwn hz rs)
/-- x.append(e) -/
theorem ds_append {x : Str} {p1 p2 p3 : Pos} (i : Nat) (he : DE F X e te) (hN : X.N[i]? = some x := by rfl) (hv : Vis X.env.scope x := by first | exact Or.inl rfl | exact Or.inr (Or.inl rfl) | exact Or.inr (Or.inr rfl)) (hd : (x == ("__debug__" : Str)) = false := by decide)
    (hcd : (x == ("__classdict__" : Str)) = false := by decide) (hsw : swapsWith (.Call (.Attribute (.Name x p1) "append" p2) [e] [] p3) none pos.line X.env = pure false := by rfl) (hbase : attributeBase (.Name x p1) "append" X.env (eval (.Name x p1) X.env) = eval (.Name x p1) X.env := by rfl)
    (hfew : ((backTo p3 (starEach [e] X.env)).all (fun x => !x.1) && (backToKw p3 (keywordEach [] X.env)).all (fun x => x.1.isSome) && decide ([e].length + ([] : List Keyword).length + (if ([] : List Keyword).isEmpty then 0 else 1) < 30)) = true := by rfl)
    (hline : (p2.endLine == p3.line) = true := by rfl) (hst : starEach [e] X.env = (false, eval e X.env) :: starEach [] X.env := by rfl) (hpl : (backTo p3 (starEach [] X.env)).any (·.1) = false := by rfl) :
    DSt F X (.Expr (.Call (.Attribute (.Name x p1) "append" p2) [e] [] p3) pos) (fun Z ρ => ∃ xs, ρ[i]? = some (some (.own xs)) ∧ te ρ fun d => xs.length < sizeLine ∧ Z.nx (ρ.set i (some (.own (xs ++ [d]))))) := by
  refine ⟨fun Z Z' ρ l ⟨xs, h, q⟩ => ⟨xs, h, he.mono _ _ _ (fun d q => ⟨q.1, l.nx _ q.2⟩) q⟩,
    (ps_expr (pe_bm PySem.F.plainAttrs_list PySem.F.slot_list_append PySem.F.type_list_append mt_append (pv i hN hv hd hcd) (pa_cons he.run pa_nil hst) hbase hfew hline hst hpl) hsw).imp fun Z σ H ⟨I, ρ, A, q⟩ => ?_⟩
  obtain ⟨xs, hx, q⟩ := q
  obtain ⟨p, vs, h1, h2, _⟩ := A.turnOwn (es := []) hx
  refine ⟨_, h1, .inl ⟨rfl, vs, .of h2⟩, rdE_next he.mono A q fun d v I' H' q' s rv => ?_⟩
  have A' := A.step s
  obtain ⟨p', ws, h1', h2', r, n, b, m, turn⟩ := A'.turnOwn (es := xs ++ [d]) hx
  rw [h1] at h1'
  cases h1'
  exact ⟨p, ws, v, rfl, rfl, h2', by rw [r.length]; exact q'.1, q'.2 I' σ _ s.i (turn _ (r.append (.cons rv .nil)))⟩
/-- from here on x only stands -/
theorem dss_freeze (i : Nat) (h : DSts F X sts t) : DSts F X sts (fun Z ρ => ∃ xs, ρ[i]? = some (some (.own xs)) ∧ t Z (ρ.set i (some (.dat (.lst xs))))) := by
  refine ⟨fun Z Z' ρ l ⟨xs, e, q⟩ => ⟨xs, e, h.mono _ _ _ l q⟩, h.run.imp fun Z σ H ⟨I, ρ, A, xs, e, q⟩ => ?_⟩
  obtain ⟨p, vs, _, _, _, _, _, s, A'⟩ := A.freeze e
  exact ⟨_, _, A', h.mono _ _ _ (ends.le s) q⟩
/-- x is read in an expression whose value holds nothing of it -/
theorem de_lend (i : Nat) (h : DE F X e te) : DE F X e (fun ρ Q => ∃ xs, ρ[i]? = some (some (.own xs)) ∧ te (ρ.set i (some (.dat (.lst xs)))) fun d => scalD d = true ∧ Q d) := by
  refine ⟨fun ρ Q Q' k ⟨xs, e, q⟩ => ⟨xs, e, h.mono _ _ _ (fun d q => ⟨q.1, k _ q.2⟩) q⟩, h.run.imp fun σ H Q ⟨I, ρ, A, xs, e, q⟩ => ?_⟩
  obtain ⟨p, vs, n, hp, r, m, b, s, A'⟩ := A.freeze e
  refine ⟨_, _, A', h.mono _ _ _ (fun d ⟨sc, q⟩ v I2 H2 s2 rv => ?_) q⟩
  have np : ∀ b u, I b = some u → b ≠ p := fun b u e => ne_of_none e n
  refine q v (fun b => if b = p then none else I2 b) H2 ⟨fun c u e => ?_, ⟨fun c u e => ?_, fun c u e => ?_, s2.st.inv⟩, s2.h, fun c u e z => ?_⟩ ?_
  · rw [if_neg (np c u e)]; exact s2.i _ _ (s _ _ e)
  · split at e
    · cases e
    · exact s2.st.sub _ _ e
  · split at e
    · cases e
    · exact s2.st.imm _ _ e
  · by_cases hc : c = p
    · rw [if_pos hc]
    · rw [if_neg hc]; exact s2.new _ _ e (by rw [upd_ne hc]; exact z)
  · cases rv <;> first | (cases sc; done) | constructor
theorem dt_lend (i : Nat) {tc : DB} (h : DTest F X e tc) : DTest F X e (fun ρ Q => ∃ xs, ρ[i]? = some (some (.own xs)) ∧ tc (ρ.set i (some (.dat (.lst xs)))) Q) := by
  refine ⟨fun ρ Q Q' k ⟨xs, e, q⟩ => ⟨xs, e, h.mono _ _ _ k q⟩, h.run.imp fun σ H Q ⟨I, ρ, A, xs, e, q⟩ => ?_⟩
  obtain ⟨p, vs, n, hp, r, m, b, s, A'⟩ := A.freeze e
  refine ⟨_, _, A', h.mono _ _ _ (fun d q I2 H2 s2 => ?_) q⟩
  have np : ∀ b u, I b = some u → b ≠ p := fun b u e => ne_of_none e n
  refine q (fun b => if b = p then none else I2 b) H2 ⟨fun c u e => ?_, ⟨fun c u e => ?_, fun c u e => ?_, s2.st.inv⟩, s2.h, fun c u e z => ?_⟩
  · rw [if_neg (np c u e)]; exact s2.i _ _ (s _ _ e)
  · split at e
    · cases e
    · exact s2.st.sub _ _ e
  · split at e
    · cases e
    · exact s2.st.imm _ _ e
  · by_cases hc : c = p
    · rw [if_pos hc]
    · rw [if_neg hc]; exact s2.new _ _ e (by rw [upd_ne hc]; exact z)
end

/-! ### isinstance of a built-in class -/
def tyN : D → Option String
  | .non => some "NoneType"
  | .bl _ => some "bool"
  | .int _ => some "int"
  | .str _ => some "str"
  | .tup _ => some "tuple"
  | .lst _ => some "list"
  | .dic _ => some "dict"
  | _ => none
def isTup : D → Bool | .tup _ => true | _ => false
def isLst : D → Bool | .lst _ => true | _ => false
def isStr : D → Bool | .str _ => true | _ => false
def isInt : D → Bool | .int _ => true | .bl _ => true | _ => false
def isBl : D → Bool | .bl _ => true | _ => false
def isDic : D → Bool | .dic _ => true | _ => false
/-- a built-in kind of value -/
def known (d : D) : Bool := (tyN d).isSome
structure IsT (T : String) (p : D → Bool) : Prop where
  k : ∀ d t, tyN d = some t → kitB t T = some (p d)
theorem is_tup : IsT "tuple" isTup := ⟨fun d t h => by cases d <;> first | (cases h; done) | (cases h; exact (show kitB _ _ = some true by decide +kernel)) | (cases h; exact (show kitB _ _ = some false by decide +kernel))⟩
theorem is_lst : IsT "list" isLst := ⟨fun d t h => by cases d <;> first | (cases h; done) | (cases h; exact (show kitB _ _ = some true by decide +kernel)) | (cases h; exact (show kitB _ _ = some false by decide +kernel))⟩
theorem is_str : IsT "str" isStr := ⟨fun d t h => by cases d <;> first | (cases h; done) | (cases h; exact (show kitB _ _ = some true by decide +kernel)) | (cases h; exact (show kitB _ _ = some false by decide +kernel))⟩
theorem is_int : IsT "int" isInt := ⟨fun d t h => by cases d <;> first | (cases h; done) | (cases h; exact (show kitB _ _ = some true by decide +kernel)) | (cases h; exact (show kitB _ _ = some false by decide +kernel))⟩
theorem is_bool : IsT "bool" isBl := ⟨fun d t h => by cases d <;> first | (cases h; done) | (cases h; exact (show kitB _ _ = some true by decide +kernel)) | (cases h; exact (show kitB _ _ = some false by decide +kernel))⟩
theorem is_dic : IsT "dict" isDic := ⟨fun d t h => by cases d <;> first | (cases h; done) | (cases h; exact (show kitB _ _ = some true by decide +kernel)) | (cases h; exact (show kitB _ _ = some false by decide +kernel))⟩
section
variable {F : Fx} {X : Cx} {K : PySem.W.Frag} {I H : Hp} {e : Expr} {te : DT} {T : String} {p : D → Bool} {x : Str} {q1 q2 pos : Pos}
theorem Rep.ty {v : V} {d : D} {t : String} (s : Same I H) (r : Rep K I v d) (h : tyN d = some t) : TyX K H v (.type t) := by
  cases r with
  | non => cases h; exact .base .non
  | bl b => cases h; exact .base (.bl b)
  | int b => cases h; exact .base (.int b)
  | str b => cases h; exact .base (.str b)
  | tup a r =>
    cases h
    rcases Same.seqT s a with (a | ⟨o, a⟩) | ⟨o, its, n, a, c, _⟩
    · exact .base (.tup a)
    · exact .fTuple a
    · exact .kTuple a c
  | lst a r => cases h; exact .base (.lst (s _ _ a))
  | dic a _ r => cases h; exact .base (.dK (s _ _ a))
  | obj _ _ _ => cases h
  | opq _ => cases h
theorem de_isi (hT : IsT T p) (hm : X.mg "isinstance" = none) (hx : X.mg x = none) (hv : bootBuiltins x = some (.type T)) (he : DE F X e te) (hg : Gl X "isinstance" := by rfl) (hgx : Gl X x := by rfl) (hn : x ≠ "__name__" := by decide) (hdb : (x == ("__debug__" : Str)) = false := by decide)
    (h1 : starEach [e, .Name x q2] X.env = (false, eval e X.env) :: starEach [.Name x q2] X.env := by rfl) (h2 : starEach [Expr.Name x q2] X.env = (false, eval (.Name x q2) X.env) :: starEach [] X.env := by rfl) (hpl : (backTo pos (starEach [Expr.Name x q2] X.env)).any (·.1) = false := by rfl) :
    DE F X (.Call (.Name "isinstance" q1) [e, .Name x q2] [] pos) (fun ρ Q => te ρ fun d => known d = true ∧ Q (.bl (p d))) := by
  refine ⟨fun ρ Q Q' k q => he.mono _ _ _ (fun d q => ⟨q.1, k _ q.2⟩) q, (pe_callB call_isi hg hm (by decide +kernel) (pa_cons he.run (pa_cons (pe_bltn (v := .ty T) hgx hx hv rfl hn hdb) pa_nil h2) h1) (by decide) (by decide) h1 hpl).imp fun σ H Q ⟨I, ρ, A, q⟩ => ?_⟩
  refine rdE_next he.mono A q fun d v I' H' q' s rv => ?_
  obtain ⟨kn, q'⟩ := q'
  unfold known at kn
  obtain ⟨t, ht⟩ := Option.isSome_iff_exists.mp kn
  exact ⟨v, .ty T, .type t, .type T, p d, rfl, .ty T, rv.ty s.st.sub ht, kit_ty (hT.k d t ht), q' _ _ _ s (.bl _)⟩
end

/-! ### x op= e -/
section
variable {F : Fx} {X : Cx} {K : PySem.W.Frag} {e : Expr} {te : DT} {op : Operator} {R : R2} {r : D → D → (D → Prop) → Prop} {x : Str} {pos pos' : Pos}
theorem ds_aug (i : Nat) (mr : Mono2 r) (ho : OpR X (inplaceOp op) R) (l : LiftR F X.K R r) (he : DE F X e te) (hN : X.N.Nodup) (hi : X.N[i]? = some x := by rfl) (hx : Loc X.env.scope x := by first | exact Or.inl rfl | exact Or.inr rfl) (hf : X.fn x = true ∨ X.env.scope.names.lookup x = some .local := by first | exact .inl rfl | exact .inr rfl | assumption) :
    DSt F X (.AugAssign (.Name x pos') op e pos) (fun Z ρ => getD ρ i fun d => te ρ fun y => r d y fun z => Z.nx (ρ.set i (some (.dat z)))) := by
  refine ⟨fun Z Z' ρ l ⟨d, e, q⟩ => ⟨d, e, he.mono _ _ _ (fun y q => mr _ _ _ _ (fun z q => l.nx _ q) q) q⟩, (ps_aug (ti := R) hN hi hx he.run ho hf).imp fun Z σ H ⟨I, ρ, A, d, hd, q⟩ => ?_⟩
  obtain ⟨v, h1, rv⟩ := A.env i _ hd
  refine ⟨v, h1, rdE_next he.mono A q fun y w I' H' q' s rw' => ?_⟩
  refine l v w d y I' H' _ s.st (Rep.mono s.i rv) rw' (mr _ _ _ _ (fun z q2 u I2 H2 s2 ru => ?_) q')
  exact q2 I2 _ H2 (Same.trans s.i s2.i) (((A.step s).step s2).set ru)
def iaddD : D → D → (D → Prop) → Prop
  | .int i, .int j, Q => Q (.int (i + j))
  | .str x, .str y, Q => x.length + y.length ≤ sizeLine ∧ Q (.str (x ++ y))
  | _, _, _ => False
theorem mono_iadd : Mono2 iaddD := by
  intro x y Q Q' k h
  cases x <;> cases y <;> first | exact h.elim | exact k _ h | exact ⟨h.1, k _ h.2⟩
def RIadd : R2 := fun x y H Q => rI0 (fun i j => .int (i + j)) x y H Q ∨ ∃ i j, x = .str i ∧ y = .str j ∧ i.length + j.length ≤ sizeLine ∧ Q (.str (i ++ j)) H
theorem lf_iadd : LiftR F K RIadd iaddD := by
  intro x y dx dy I H Q st rx ry h
  cases dx <;> cases dy <;> first | exact h.elim | skip
  · cases rx; cases ry
    exact .inl ⟨_, _, rfl, rfl, h _ I H st.stp (.int _)⟩
  · cases rx; cases ry
    exact .inr ⟨_, _, rfl, rfl, h.1, h.2 _ I H st.stp (.str _)⟩
theorem ds_iadd (i : Nat) (he : DE F X e te) (hN : X.N.Nodup) (hi : X.N[i]? = some x := by rfl) (hx : Loc X.env.scope x := by first | exact Or.inl rfl | exact Or.inr rfl) (hf : X.fn x = true ∨ X.env.scope.names.lookup x = some .local := by first | exact .inl rfl | exact .inr rfl | assumption) :
    DSt F X (.AugAssign (.Name x pos') .Add e pos) (fun Z ρ => getD ρ i fun d => te ρ fun y => iaddD d y fun z => Z.nx (ρ.set i (some (.dat z)))) := ds_aug i mono_iadd (iop_add.or iop_add_str) lf_iadd he hN hi hx hf
theorem ds_ifdiv (i : Nat) (he : DE F X e te) (hN : X.N.Nodup) (hi : X.N[i]? = some x := by rfl) (hx : Loc X.env.scope x := by first | exact Or.inl rfl | exact Or.inr rfl) (hf : X.fn x = true ∨ X.env.scope.names.lookup x = some .local := by first | exact .inl rfl | exact .inr rfl | assumption) :
    DSt F X (.AugAssign (.Name x pos') .FloorDiv e pos) (fun Z ρ => getD ρ i fun d => te ρ fun y => fdivD d y fun z => Z.nx (ρ.set i (some (.dat z)))) := ds_aug i mono_fdiv iop_fdivW lf_fdiv he hN hi hx hf
end

/-! ### methods of texts -/
def strD (x : D) (Q : Str → Prop) : Prop := ∃ a, x = .str a ∧ Q a
theorem strD.mono {x : D} {Q Q' : Str → Prop} (k : ∀ a, Q a → Q' a) (h : strD x Q) : strD x Q' := let ⟨a, e, q⟩ := h; ⟨a, e, k a q⟩
section
variable {F : Fx} {X : Cx} {K : PySem.W.Frag} {o e : Expr} {to te : DT} {apos pos : Pos} {R : V → List V → Hp → VK → Prop}
/-- s.m(e), by values -/
theorem m1_run {r : Str → D → (D → Prop) → Prop} (mr : ∀ a y (Q Q' : D → Prop), (∀ d, Q d → Q' d) → r a y Q → r a y Q') (l : ∀ a (y : V) (dy : D) (I H : Hp) (Q : VK), StI F.W I H → Rep X.K I y dy → r a dy (fin F X.K I H Q) → R (.str a) [y] H Q)
    (ho : DE F X o to) (he : DE F X e te) {σ : St} {H : Hp} {Q : VK} (h : rdE F X.K (fun ρ Q => to ρ fun x => strD x fun a => te ρ fun y => r a y Q) σ H Q) : tM1 R (rdE F X.K to) (rdE F X.K te) σ H Q := by
  obtain ⟨I, ρ, A, h⟩ := h
  refine rdE_next ho.mono A h fun d v I1 H1 q1 s1 r1 => ?_
  obtain ⟨a, rfl, q1⟩ := q1
  cases r1
  refine ⟨⟨a, rfl⟩, rdE_next he.mono (A.step s1) q1 fun y w I2 H2 q2 s2 r2 => ?_⟩
  exact l a w y I2 H2 Q s2.st r2 (mr _ _ _ _ (fun z hz => hz.of (s1.trans s2)) q2)
theorem m1_mono {r : Str → D → (D → Prop) → Prop} (mr : ∀ a y (Q Q' : D → Prop), (∀ d, Q d → Q' d) → r a y Q → r a y Q') (ho : DE F X o to) (he : DE F X e te) :
    ∀ ρ (Q Q' : D → Prop), (∀ d, Q d → Q' d) → (to ρ fun x => strD x fun a => te ρ fun y => r a y Q) → (to ρ fun x => strD x fun a => te ρ fun y => r a y Q') :=
  fun ρ Q Q' k h => ho.mono _ _ _ (fun d h => h.mono fun a h => he.mono _ _ _ (fun y h => mr _ _ _ _ k h) h) h
def joinD (a : Str) (y : D) (Q : D → Prop) : Prop := ∃ ys : List Str, (y = .lst (ys.map D.str) ∨ y = .tup (ys.map D.str)) ∧ (ys.map (·.length)).sum + ys.length * a.length ≤ 16777216 ∧ Q (.str (Txt.join a ys))
theorem mono_join : ∀ a y (Q Q' : D → Prop), (∀ d, Q d → Q' d) → joinD a y Q → joinD a y Q' := fun a y Q Q' k ⟨ys, h2, h3, q⟩ => ⟨ys, h2, h3, k _ q⟩
theorem de_join (ho : DE F X o to) (he : DE F X e te) (hs : starEach [e] X.env = [(false, eval e X.env)] := by rfl) (hbase : attributeBase o "join" X.env (eval o X.env) = eval o X.env := by rfl) (hline : (apos.endLine == pos.line) = true := by rfl) :
    DE F X (.Call (.Attribute o "join" apos) [e] [] pos) (fun ρ Q => to ρ fun x => strD x fun a => te ρ fun y => joinD a y Q) := by
  refine ⟨m1_mono mono_join ho he, (pe_join ho.run he.run hs hbase hline).imp fun σ H Q q => m1_run mono_join (fun a y dy I H Q st ry h => ?_) ho he q⟩
  obtain ⟨ys, h1, h2, q⟩ := h
  rcases h1 with rfl | rfl
  · cases ry with
    | lst b r => exact ⟨a, _, ys, rfl, rfl, .inl (r.strsV ▸ .of (st.sub _ _ b)), h2, q _ _ _ st.stp (.str _)⟩
  · cases ry with
    | tup b r => exact ⟨a, _, ys, rfl, rfl, .inr (r.strsV ▸ Same.seqT st.sub b), h2, q _ _ _ st.stp (.str _)⟩
/-- s.index(y), found -/
def sidxD (a : Str) (y : D) (Q : D → Prop) : Prop := ∃ b k, y = .str b ∧ Txt.index0 a b = some k ∧ Q (.int (k : Nat))
theorem de_sindex {W : WX} (hc : X.calm = true) (tk : Takes X W) (ho : DE F X o to) (he : DE F X e te) (hbase : attributeBase o "index" X.env (eval o X.env) = eval o X.env := by rfl)
    (hfew : ((backTo pos (starEach [e] X.env)).all (fun x => !x.1) && (backToKw pos (keywordEach [] X.env)).all (fun x => x.1.isSome) && decide ([e].length + ([] : List Keyword).length + (if ([] : List Keyword).isEmpty then 0 else 1) < 30)) = true := by rfl)
    (hline : (apos.endLine == pos.line) = true := by rfl) (hs : starEach [e] X.env = (false, eval e X.env) :: starEach [] X.env := by rfl) (hplain : (backTo pos (starEach [] X.env)).any (·.1) = false := by rfl) :
    DE F X (.Call (.Attribute o "index" apos) [e] [] pos) (fun ρ Q => to ρ fun x => strD x fun a => te ρ fun y => sidxD a y Q) := by
  refine ⟨m1_mono (fun a y Q Q' k ⟨b, j, h1, h2, q⟩ => ⟨b, j, h1, h2, k _ q⟩) ho he, (pe_bmS PySem.F.plainAttrs_str PySem.F.slot_str_index PySem.F.type_str_index (mt_indexX hc tk) ho.run (pa_cons he.run pa_nil hs) hbase hfew hline hs hplain).imp fun σ H Q ⟨I, ρ, A, h⟩ => ?_⟩
  refine rdE_next ho.mono A h fun d v I1 H1 q1 s1 r1 => ?_
  obtain ⟨a, rfl, q1⟩ := q1
  cases r1
  refine ⟨rfl, rdE_next he.mono (A.step s1) q1 fun y w I2 H2 q2 s2 r2 => ?_⟩
  obtain ⟨b, k, rfl, hk, q2⟩ := q2
  cases r2
  refine ⟨a, b, rfl, rfl, fun k' hk' => ?_, fun z => by rw [hk] at z; cases z⟩
  rw [hk] at hk'
  cases hk'
  exact q2 _ _ _ (s1.trans s2) (.int _)
end

/-! ### sorted -/
def sortedD : List D → (D → Prop) → Prop
  | [.lst xs], Q => plainDs xs = true ∧ PySem.W.AllAlike (xs.map toPy) ∧ PySem.W.Sortable (xs.map toPy) ∧ xs.length ≤ sizeLine ∧ (∀ x ∈ xs, (toPy x).depth ≤ 50) ∧ Q (.lst (xs.mergeSort (PySem.W.dataLe false toPy)))
  | _, _ => False
theorem mono_sortedD : MonoN sortedD := by
  intro ds Q Q' k h
  unfold sortedD at h ⊢
  split at h
  · exact ⟨h.1, h.2.1, h.2.2.1, h.2.2.2.1, h.2.2.2.2.1, k _ h.2.2.2.2.2⟩
  · exact h.elim
/-- a list at a, in I, as data -/
def rSortD (I : Hp) (K : PySem.W.Frag) : List V → Hp → VK → Prop := fun vs H Q => ∃ (a : Addr) (ws : List V) (ds : List D), vs = [.ref a] ∧ SqL K H a ws ∧ Reps K I ws ds
theorem plainDs_mem : ∀ {xs : List D}, plainDs xs = true → ∀ x ∈ xs, plainD x = true
  | [], _, x, h => by simp at h
  | d :: ds, p, x, h => by
    unfold plainDs at p
    rw [Bool.and_eq_true] at p
    rcases List.mem_cons.mp h with rfl | h
    · exact p.1
    · exact plainDs_mem p.2 x h
section
variable {F : Fx} {X : Cx} {e : Expr} {t : DAT} {p pos : Pos}
theorem each_of {K : PySem.W.Frag} {I : Hp} : ∀ {us : List Value} {vs : List V} {ds : List D}, Vals vs us → Reps K I vs ds → PySem.W.EachIs (fun u d => ∃ v, RelV v u ∧ Rep K I v d) us ds
  | _, _, _, .nil, h => by cases h; exact .nil
  | _, _, _, .cons r t, h => by
    cases h with
    | cons a b => exact .cons ⟨_, r, a⟩ (each_of t b)
theorem each_back {K : PySem.W.Frag} {I : Hp} : ∀ {us : List Value} {ds : List D}, PySem.W.EachIs (fun u d => ∃ v, RelV v u ∧ Rep K I v d) us ds → ∃ vs, Vals vs us ∧ Reps K I vs ds
  | _, _, .nil => ⟨[], .nil, .nil⟩
  | _, _, .cons ⟨v, r, a⟩ t => by
    obtain ⟨vs, h1, h2⟩ := each_back t
    exact ⟨v :: vs, .cons r h1, .cons a h2⟩
theorem each_imp {α β : Type} {R S : α → β → Prop} : ∀ {as : List α} {bs : List β}, PySem.W.EachIs R as bs → (∀ a b, b ∈ bs → R a b → S a b) → PySem.W.EachIs S as bs
  | _, _, .nil, _ => .nil
  | _, _, .cons r t, k => .cons (k _ _ (by simp) r) (each_imp t fun a b hb => k a b (List.mem_cons_of_mem _ hb))
theorem de_sorted (hm : X.mg "sorted" = none) (hu : X.A.units + 64 < cLine) (ha : DA F X [e] t) (hg : Gl X "sorted" := by rfl) (he : starEach [e] X.env = (false, eval e X.env) :: starEach [] X.env := by rfl) : DE F X (.Call (.Name "sorted" p) [e] [] pos) (fun ρ Q => t ρ fun ds => sortedD ds Q) := by
  refine de_callB (id := "sorted") (R := fun vs H Q => ∃ I ds, StI F.W I H ∧ Reps X.K I vs ds ∧ sortedD ds (fin F X.K I H Q)) mono_sortedD (fun vs ds I H Q st rs h => ⟨I, ds, st, rs, h⟩) ?_ hm (by decide +kernel) ha hg (by decide) (by decide) he rfl
  intro pins s σ H xs us Q J r h
  obtain ⟨I, ds, st, rs, h⟩ := h
  unfold sortedD at h
  split at h
  · rename_i es
    obtain ⟨pl, al, so, hl, dp, q⟩ := h
    obtain ⟨v, rfl, rv⟩ := rs.one
    obtain ⟨u, rfl, ru⟩ := vals1 r
    cases rv with
    | @lst a ws _ ha' rw' =>
      cases ru
      obtain ⟨its, rI, hL, hz⟩ := J.list (.of (st.sub _ _ ha'))
      have e1 := each_of rI rw'
      refine PySem.W.sorted_data (enc := toPy) hL.isList e1 (each_imp e1 fun u d hd ⟨v, h1, h2⟩ => ?_) al so hl (fun b hb => by have := dp b hb; omega) fun out hlen eo => ?_
      · exact Dp.reads J _ _ _ (h2.dp st.sub (plainDs_mem pl d hd)) h1
      · obtain ⟨vs', v1, v2⟩ := each_back eo
        obtain ⟨ep, he'⟩ := PyProof.Rows.sortedAll_at s.heap its (List.toArray out)
        have hf : H (s.heap.objs.size + 1) = none := J.hok.fresh (Nat.le_succ _)
        have lay := st.laid hf (.lst vs')
        refine ⟨.ref _, upd H (s.heap.objs.size + 1) (.lst vs'), J.laid (t' := s.toks) (fun _ _ => PyProof.Rows.sortedAll_old) (Nat.le_succ _) ⟨by rw [v2.length, List.length_mergeSort]; exact hl, out, ep, v1, he'⟩, rfl, ?_⟩
        exact q _ _ _ lay (.lst upd_same (v2.mono lay.i))
  · exact h.elim
end
end Dk

namespace Dk
open PySem L2

/-! ### a def that may be called, in one fact -/
structure Cal (P : Program) (w : World) (K : PySem.W.Frag) (mg : Str → Option Value) (base : Heap) (CX : CXT) (W : Wd) (k : Nat) (x : Str) (ps : List Str) (S : DSp) : Prop where
  ex : ∃ f fd, GnOk P w K mg base CX k f fd ps (spD W K S) ∧ mg x = some (.ref f) ∧ PySem.W.keepIn K (.ref f) = true ∧ Binds K fd ps []
/-- .. by keywords alone: ks their names as written, g their order -/
structure CalK (P : Program) (w : World) (K : PySem.W.Frag) (mg : Str → Option Value) (base : Heap) (CX : CXT) (W : Wd) (k : Nat) (x : Str) (ps ks : List Str) (g : {α : Type} → List α → List α) (S : DSp) : Prop where
  ex : ∃ f fd, GnOk P w K mg base CX k f fd ps (spD W K S) ∧ mg x = some (.ref f) ∧ PySem.W.keepIn K (.ref f) = true ∧ KBn K fd ps 0 ks (fun _ ws => g ws) (fun _ zs => g zs)
  rel : ∀ {K : PySem.W.Frag} {I : Hp} {vs : List V} {ds : List D}, Reps K I vs ds → Reps K I (g vs) (g ds)
structure DKw (F : Fx) (X : Cx) (kws : List Keyword) (t : DAT) : Prop where
  mono : ∀ ρ (Q Q' : List D → Prop), (∀ d, Q d → Q' d) → t ρ Q → t ρ Q'
  run : PK X kws (rdA F X.K t)
section
variable {F : Fx} {X : Cx} {K : PySem.W.Frag} {CX : CXT} {W : Wd} {k : Nat} {x nm : Str} {ps ks : List Str} {S : DSp} {E : XK} {p pos kpos : Pos} {e : Expr} {es : List Expr} {t tk : DAT} {te : DT} {Ed : Ex → Prop} {kws : List Keyword} {g : {α : Type} → List α → List α}
theorem _root_.L2.PK.imp {t u : TA} (h : PK X kws t) (i : ∀ σ H Q, u σ H Q → t σ H Q) : PK X kws u := ⟨fun pos pins s σ H Q J q => h.run pos pins s σ H Q J (i σ H Q q)⟩
theorem dk_nil : DKw F X [] (fun _ Q => Q []) := ⟨fun _ _ _ k q => k _ q, pk_nil.imp fun σ H Q ⟨I, ρ, A, q⟩ => q [] I H A.st.stp .nil⟩
theorem dk_cons (h : DE F X e te) (h' : DKw F X kws t) : DKw F X (⟨nm, e, kpos⟩ :: kws) (fun ρ Q => te ρ fun d => t ρ fun ds => Q (d :: ds)) := by
  refine ⟨fun ρ Q Q' k q => h.mono _ _ _ (fun d q => h'.mono _ _ _ (fun ds => k _) q) q, (pk_cons h.run h'.run).imp fun σ H Q ⟨I, ρ, A, q⟩ => ?_⟩
  refine rdE_next h.mono A q fun d v I' H' p s rv => ?_
  exact rdA_next h'.mono (A.step s) p fun ds vs I2 H2 p s2 rs => p (v :: vs) I2 H2 (s.trans s2) (.cons (rv.mono s2.i) rs)
theorem de_fn (C : Cal X.prog X.w X.K X.mg X.base CX F.W k x ps S) (hr : Rm k X.A) (hx : Passes CX X E) (le : Lets F X.K Ed E) (ha : DA F X (e :: es) t)
    (hg : Gl X x := by rfl) (hdb : (x == ("__debug__" : Str)) = false := by decide) (he : starEach (e :: es) X.env = (false, eval e X.env) :: starEach es X.env := by rfl) (hpl : (backTo pos (starEach es X.env)).any (·.1) = false := by rfl) :
    DE F X (.Call (.Name x p) (e :: es) [] pos) (fun ρ Q => t ρ fun ds => S.f ds Q Ed) := by
  obtain ⟨f, fd, h1, h2, h3, h4⟩ := C.ex
  exact de_call h1 hr h2 h3 h4 hx le ha hg hdb he hpl
theorem de_fn0 (C : Cal X.prog X.w X.K X.mg X.base CX F.W k x ps S) (hr : Rm k X.A) (hx : Passes CX X E) (le : Lets F X.K Ed E)
    (hg : Gl X x := by rfl) (hdb : (x == ("__debug__" : Str)) = false := by decide) : DE F X (.Call (.Name x p) [] [] pos) (fun ρ Q => S.f [] Q Ed) := by
  obtain ⟨f, fd, h1, h2, h3, h4⟩ := C.ex
  exact de_call0 h1 hr h2 h3 h4 hx le hg hdb
theorem de_fnK (C : CalK X.prog X.w X.K X.mg X.base CX F.W k x ps ks g S) (hr : Rm k X.A) (hx : Passes CX X E) (le : Lets F X.K Ed E) (hk : DKw F X kws t) (hg : Gl X x := by rfl)
    (hall : (backToKw pos (keywordEach kws X.env)).all (·.1.isSome) = true := by rfl) (hks : (backToKw pos (keywordEach kws X.env)).filterMap (·.1) = ks := by rfl) (hdb : (x == ("__debug__" : Str)) = false := by decide)
    (hpl : ((backTo pos (starEach [] X.env)).any (·.1) || (backToKw pos (keywordEach kws X.env)).any (·.1.isNone)) = false := by rfl) :
    DE F X (.Call (.Name x p) [] kws pos) (fun ρ Q => t ρ fun ds => ds.length = ks.length ∧ S.f (g ds) Q Ed) := by
  obtain ⟨f, fd, h1, h2, h3, h4⟩ := C.ex
  refine ⟨fun ρ Q Q' k h => hk.mono _ _ _ (fun d h => ⟨h.1, S.mono _ _ _ _ _ k (fun _ h => h) h.2⟩) h, (gn_callK0 h1 hr hg h2 h3 h4 hx hk.run hall hks hdb hpl).imp fun σ H Q ⟨I, ρ, A, h⟩ => ?_⟩
  refine rdA_next hk.mono A h fun ds vs I' H' p s rs => ⟨rs.length.trans p.1, I', g ds, s.st, C.rel rs, S.mono _ _ _ _ _ (fun d q v I2 H2 s2 rv => q v I2 H2 (s.trans s2) rv) (le I' H' (A.stp.trans s)) p.2⟩
end

/-! ### any frame -/
theorem pss_any {X : Cx} {sts : List Stmt} {ι : Type} {F : ι → Fx} {t : ι → DTS} (h : ∀ i, DSts (F i) X sts (t i)) : PSs X sts (fun Z σ H => ∃ i, rdS (F i) X.K (t i) Z σ H) := ⟨fun pins s σ H Z J ⟨i, q⟩ => (h i).run.run pins s σ H Z J q⟩
/-! ### how a def of the text is called -/
section
variable {P : Program} {w : World} {K : PySem.W.Frag} {mg : Str → Option Value} {base : Heap} {CX : CXT} {W : Wd} {k : Nat} {x qual : Str} {st : Stmt} {f : Addr} {fd : FuncData} {ps ks : List Str} {S : DSp} {g : {α : Type} → List α → List α}
theorem Cal.of (Fn : Fun K x qual st f fd) (G : GnOk P w K mg base CX k f fd ps (spD W K S)) (m : mg x = some (.ref f))
    (h : ∀ (kV doc pm : Value) (an : Option Addr) (cdv ct : Value) (us : List Value), us.length = ps.length → bindArgs (PySem.W.fnOf x qual (defArgs st) (defBody st) (defScope st) .none kV doc pm an cdv ct) ⟨us, []⟩ = pure (ps.zip us)) : Cal P w K mg base CX W k x ps S :=
  ⟨f, fd, G, m, Fn.kp, Fn.binds h⟩
theorem CalK.of (Fn : Fun K x qual st f fd) (G : GnOk P w K mg base CX k f fd ps (spD W K S)) (m : mg x = some (.ref f)) (rV : ∀ {vs : List V} {us : List Value}, Vals vs us → Vals (g vs) (g us)) (rD : ∀ {K : PySem.W.Frag} {I : Hp} {vs : List V} {ds : List D}, Reps K I vs ds → Reps K I (g vs) (g ds))
    (h : ∀ (kV doc pm : Value) (an : Option Addr) (cdv ct : Value) (ws : List Value), ws.length = ks.length → bindArgs (PySem.W.fnOf x qual (defArgs st) (defBody st) (defScope st) .none kV doc pm an cdv ct) ⟨[], ks.zip ws⟩ = pure (ps.zip (g ws))) : CalK P w K mg base CX W k x ps ks g S := by
  refine ⟨⟨f, fd, G, m, Fn.kp, ⟨fun s us ws _ l1 l2 => ?_, fun _ r => rV r⟩⟩, rD⟩
  obtain ⟨oc, od, kV, doc, pm, an, cdv, ct, osl, rfl, lk, hcd⟩ := Fn.ex
  obtain rfl : us = [] := List.length_eq_zero_iff.mp l1
  exact .of_eq (h kV doc pm an cdv ct ws l2)
end

/-! ### the deck: a list of cells, a number, a number -/
def deckAt (a l : Addr) (H : Hp) : Prop := ∃ (ns : List Int) (s t : Int), H a = some (.lst [.ref l, .int s, .int t]) ∧ H l = some (.lst (ns.map V.int)) ∧ ns.length ≤ 63 ∧ a ≠ l
def DeckW (a l : Addr) : Wd where
  mv := fun b => b = a ∨ b = l
  inv := deckAt a l
  frame := fun {H H'} h ⟨ns, s, t, h1, h2, h3⟩ => ⟨ns, s, t, by rw [h a (.inl rfl)]; exact h1, by rw [h l (.inr rfl)]; exact h2, h3⟩
  live := fun {H b} ⟨ns, s, t, h1, h2, h3⟩ m => by
    rcases m with rfl | rfl
    · rw [h1]; exact fun z => nomatch z
    · rw [h2]; exact fun z => nomatch z
/-- what a draw tells: any number below the most -/
def spDraw (a : Addr) : DSp where
  n := 2
  f := fun ds Q _ => ∃ m : Int, ds = [.opq a, .int m] ∧ 0 < m ∧ m.natAbs.log2 < 9000 ∧ ∀ v : Int, 0 ≤ v → v < m → Q (.int v)
  len := fun ds Q E ⟨m, e, _⟩ => by rw [e]; rfl
  mono := fun ds Q Q' E E' k _ ⟨m, e, h, h', q⟩ => ⟨m, e, h, h', fun v a b => k _ (q v a b)⟩
theorem shaped_ints (ns : List Int) : SeqAt.shaped (.list (ns.map .int)) = true := by
  have h1 : ∀ ns : List Int, PyData.canLayAll0 (ns.map .int) = true := fun ns => by
    induction ns with
    | nil => simp [PyData.canLayAll0]
    | cons n ns ih => simp [PyData.canLayAll0, PyData.canLay0, ih]
  have h2 : ∀ ns : List Int, PyData.depthAll (ns.map .int) = 0 := PySem.W.depth_ints
  unfold SeqAt.shaped
  simp [PyData.canLay0, PyData.depth, h1, h2]
theorem dp_ints {K : PySem.W.Frag} {H : Hp} : ∀ ns : List Int, DpAll K H (ns.map V.int) (ns.map PyData.int)
  | [] => .nil
  | n :: ns => .cons (.int n) (dp_ints ns)
theorem eqv_nil (ns : List Int) : PyData.eqv (.list (ns.map .int)) (.list []) = ns.isEmpty := by
  cases ns <;> simp [PyData.eqv, PyData.eqvAll]
theorem stp_deck {a l : Addr} {I H H' : Hp} (s : StI (DeckW a l) I H) (h : ∀ b o, H b = some o → b ≠ a → b ≠ l → H' b = some o) (d : deckAt a l H') : Stp (DeckW a l) I H I H' := by
  refine ⟨Same.refl I, ⟨fun b o e => ?_, s.imm, d⟩, fun b o e m => h b o e (fun z => m (.inl z)) (fun z => m (.inr z)), fun b o e n => n⟩
  have m := s.imm b o e
  exact h b o (s.sub b o e) (fun z => m (.inl z)) (fun z => m (.inr z))
end Dk

namespace Dk
open PySem L2

/-! ### repr of plain data -/
/-- how it is written -/
def shw (d : D) : Str := (toPy d).shown
def reprD : List D → (D → Prop) → Prop
  | [d], Q => plainD d = true ∧ (toPy d).showable = true ∧ (toPy d).depth ≤ 50 ∧ (shw d).length ≤ sizeLine ∧ Q (.str (shw d))
  | _, _ => False
theorem mono_reprD : MonoN reprD := by
  intro ds Q Q' k h
  unfold reprD at h ⊢
  split at h
  · exact ⟨h.1, h.2.1, h.2.2.1, h.2.2.2.1, k _ h.2.2.2.2⟩
  · exact h.elim
mutual
theorem noDict : ∀ {d : D}, plainD d = true → (toPy d).hasDict = false
  | .non, _ => by simp only [toPy, PyData.hasDict]
  | .bl _, _ => by simp only [toPy, PyData.hasDict]
  | .int _, _ => by simp only [toPy, PyData.hasDict]
  | .str _, _ => by simp only [toPy, PyData.hasDict]
  | .tup xs, h => by
    simp only [toPy, PyData.hasDict]
    exact noDicts (by unfold plainD at h; exact h)
  | .lst xs, h => by
    simp only [toPy, PyData.hasDict]
    exact noDicts (by unfold plainD at h; exact h)
  | .dic _, h => by simp [plainD] at h
  | .obj _ _, h => by simp [plainD] at h
  | .opq _, h => by simp [plainD] at h
theorem noDicts : ∀ {ds : List D}, plainDs ds = true → PyData.hasDictAll (toPys ds) = false
  | [], _ => by simp only [toPys, PyData.hasDictAll]
  | d :: ds, h => by
    unfold plainDs at h
    rw [Bool.and_eq_true] at h
    simp only [toPys, PyData.hasDictAll, noDict h.1, noDicts h.2, Bool.or_self]
end
section
variable {F : Fx} {X : Cx} {e : Expr} {t : DAT} {p pos : Pos}
theorem call_reprP (hg : X.A.guards = some []) (hu : X.A.units + 64 < cLine) : CallR X (.builtin "repr") (fun xs H Q => ∃ v d, xs = [v] ∧ Dp X.K H v d ∧ d.showable = true ∧ d.hasDict = false ∧ d.depth ≤ 50 ∧ d.shown.length ≤ sizeLine ∧ Q (.str d.shown) H) := by
  intro pins s σ H xs us Q J r h
  obtain ⟨v, d, rfl, hd, h1, h2, h3, h4, q⟩ := h
  obtain ⟨u, rfl, ru⟩ := vals1 r
  have fin : ∀ (tk : Nat) (u' : Tok), EP X pins σ Q (.str d.shown u') { s with toks := tk } := fun tk u' => ⟨.str d.shown, H, J.tok tk, ⟨u', rfl⟩, q⟩
  obtain ⟨as, rd⟩ := Dp.reads J _ _ _ hd ru
  cases hd with
  | non => cases ru; exact PySem.P.repr_of_none (by unfold PyData.shown at fin; exact fin _ _)
  | bl b => cases ru; exact PySem.P.repr_of_bool (by unfold PyData.shown at fin; exact fin _ _)
  | int i =>
    obtain ⟨t, rfl⟩ := ru
    have hz : i.natAbs.log2 < 1920 := by simpa [PyData.showable] using h1
    exact PySem.P.repr_of_int hz (by unfold PyData.shown at fin; exact fin _ _)
  | str x =>
    obtain ⟨t, rfl⟩ := ru
    unfold PyData.shown at fin h4
    exact PySem.P.repr_of_str (fin _ _) h4
  | lst a r' =>
    cases ru
    exact repr_of_reads' rd h1 (PyData.noDict_hsm h2) hg (by omega) (fun b o e => e) (fun h' u tk hk => ⟨.str _, H, J.kept hk, ⟨u, rfl⟩, q⟩) h4
  | tup a r' =>
    cases ru
    exact repr_of_reads' rd h1 (PyData.noDict_hsm h2) hg (by omega) (fun b o e => e) (fun h' u tk hk => ⟨.str _, H, J.kept hk, ⟨u, rfl⟩, q⟩) h4
theorem de_repr (hm : X.mg "repr" = none) (hg : X.A.guards = some []) (hu : X.A.units + 64 < cLine) (ha : DA F X [e] t) (hgl : Gl X "repr" := by rfl) (he : starEach [e] X.env = (false, eval e X.env) :: starEach [] X.env := by rfl) : DE F X (.Call (.Name "repr" p) [e] [] pos) (fun ρ Q => t ρ fun ds => reprD ds Q) := by
  refine de_callB (id := "repr") mono_reprD (fun vs ds I H Q st rs h => ?_) (call_reprP hg hu) hm (by decide +kernel) ha hgl (by decide) (by decide) he rfl
  unfold reprD at h
  split at h
  · obtain ⟨pl, sh, dp, l, q⟩ := h
    obtain ⟨v, rfl, rv⟩ := rs.one
    exact ⟨v, _, rfl, rv.dp st.sub pl, sh, noDict pl, dp, l, q _ _ _ st.stp (.str _)⟩
  · exact h.elim
/-- a constant of the module -/
theorem de_gs {x y : Str} {pos : Pos} (h : ∃ t, X.mg x = some (.str y t)) (hg : Gl X x := by rfl) (hd : (x == ("__debug__" : Str)) = false := by decide) : DE F X (.Name x pos) (fun _ Q => Q (.str y)) := by
  obtain ⟨t, e⟩ := h
  exact de_gstr hg e ⟨t, rfl⟩ hd
theorem de_gi {x : Str} {y : Int} {pos : Pos} (h : ∃ t, X.mg x = some (.int y t)) (hg : Gl X x := by rfl) (hd : (x == ("__debug__" : Str)) = false := by decide) : DE F X (.Name x pos) (fun _ Q => Q (.int y)) := by
  obtain ⟨t, e⟩ := h
  exact de_gint hg e ⟨t, rfl⟩ hd
end
/-- the world of a deck, at the def that has made it -/
theorem at_deck {K : PySem.W.Frag} {a l : Addr} {H : Hp} {σ : St} (i : Nat) (d : deckAt a l H) (hi : σ[i]? = some (some (.ref a))) : At ⟨DeckW a l, H, fun _ => none⟩ K (fun _ => none) ((List.replicate σ.length none).set i (some (.dat (.opq a)))) σ H := by
  refine ⟨⟨fun b o e => (nomatch (show (none : Option HO) = some o from e)), ⟨fun b o e => (nomatch (show (none : Option HO) = some o from e)), fun b o e => (nomatch (show (none : Option HO) = some o from e)), d⟩, fun b o e _ => e, fun b o e n => n⟩, by simp, fun j e h => ?_, fun j j' e e' v hj h1 h2 o1 => ?_⟩
  · rcases set_at h with ⟨rfl, q⟩ | ⟨_, q⟩
    · cases q
      exact ⟨_, hi, .opq a⟩
    · rw [List.getElem?_replicate] at q
      split at q <;> cases q
  · rcases set_at h1 with ⟨rfl, q⟩ | ⟨_, q⟩
    · cases q
      exact o1.elim
    · rw [List.getElem?_replicate] at q
      split at q <;> cases q
/-! ### reading a derivation's outcome -/
theorem getD_0 {d : D} {ρ : DEnv} {Q : D → Prop} : getD (some (.dat d) :: ρ) 0 Q = Q d := by simp [getD]
theorem getD_s {x : Option Ent} {ρ : DEnv} {n : Nat} {Q : D → Prop} : getD (x :: ρ) (n + 1) Q = getD ρ n Q := by simp [getD]
theorem set_0 {x y : Option Ent} {ρ : DEnv} : (x :: ρ).set 0 y = y :: ρ := rfl
theorem set_s {x y : Option Ent} {ρ : DEnv} {n : Nat} : (x :: ρ).set (n + 1) y = x :: ρ.set n y := rfl
theorem forD_ind {g : DGT} {tb : DTS} {Z : DEnds} (P : List D → DEnv → Prop) (h0 : ∀ ρ, P [] ρ → Z.nx ρ) (h1 : ∀ d ds ρ (R : DEnv → Prop), P (d :: ds) ρ → (∀ ρ', P ds ρ' → R ρ') → g d ρ fun ρ2 => tb { Z with nx := R, ct := R, bk := Z.nx } ρ2) : ∀ (ds : List D) (ρ : DEnv), P ds ρ → forD g tb Z ds ρ
  | [], ρ, h => h0 ρ h
  | d :: ds, ρ, h => h1 d ds ρ (forD g tb Z ds) h fun ρ' h' => forD_ind P h0 h1 ds ρ' h'
theorem eqD_int {x y : Int} {Q : D → Prop} : eqD (.int x) (.int y) Q = Q (.bl (decide (x = y))) := by
  have e : deq (.int x) (.int y) = decide (x = y) := by simp [deq, toPy, PyData.eqv]; rfl
  simp [eqD, canEq, scalD, mixD, e]
theorem neD_int {x y : Int} {Q : D → Prop} : neD (.int x) (.int y) Q = Q (.bl (!decide (x = y))) := by
  have e : deq (.int x) (.int y) = decide (x = y) := by simp [deq, toPy, PyData.eqv]; rfl
  simp [neD, canEq, scalD, mixD, e]
theorem eqD_str {x y : Str} {Q : D → Prop} : eqD (.str x) (.str y) Q = Q (.bl (decide (x = y))) := by
  have e : deq (.str x) (.str y) = decide (x = y) := by simp [deq, toPy, PyData.eqv]; rfl
  simp [eqD, canEq, scalD, mixD, e]
theorem neD_str {x y : Str} {Q : D → Prop} : neD (.str x) (.str y) Q = Q (.bl (!decide (x = y))) := by
  have e : deq (.str x) (.str y) = decide (x = y) := by simp [deq, toPy, PyData.eqv]; rfl
  simp [neD, canEq, scalD, mixD, e]
theorem boolD_bl {b : Bool} {Q : Bool → Prop} : boolD (.bl b) Q = Q b := by simp [boolD]
theorem intD_int {i : Int} {Q : Int → Prop} : intD (.int i) Q = Q i := by simp [intD]
/-! ### data that may be compared -/
structure OkN (k : Nat) (d : D) : Prop where
  pl : plainD d = true
  cl : (toPy d).canLay0 = true
  dp : (toPy d).depth ≤ k
theorem OkN.mono {j k : Nat} {d : D} (h : OkN j d) (l : j ≤ k) : OkN k d := ⟨h.pl, h.cl, Nat.le_trans h.dp l⟩
theorem okN_int (i : Int) : OkN 0 (.int i) := ⟨rfl, by simp [toPy, PyData.canLay0], by simp [toPy, PyData.depth]⟩
theorem okN_bl (i : Bool) : OkN 0 (.bl i) := ⟨rfl, by simp [toPy, PyData.canLay0], by simp [toPy, PyData.depth]⟩
theorem okN_non : OkN 0 .non := ⟨rfl, by simp [toPy, PyData.canLay0], by simp [toPy, PyData.depth]⟩
theorem okN_str {x : Str} (h : PyData.strOk x = true) : OkN 0 (.str x) := ⟨rfl, by simp [toPy, PyData.canLay0, h], by simp [toPy, PyData.depth]⟩
theorem okNs {k : Nat} : ∀ {xs : List D}, (∀ x ∈ xs, OkN k x) → plainDs xs = true ∧ PyData.canLayAll0 (toPys xs) = true ∧ PyData.depthAll (toPys xs) ≤ k
  | [], _ => by simp [plainDs, toPys, PyData.canLayAll0, PyData.depthAll]
  | x :: xs, h => by
    have h1 := h x (by simp)
    obtain ⟨a, b, c⟩ := okNs fun y hy => h y (List.mem_cons_of_mem _ hy)
    simp only [plainDs, toPys, PyData.canLayAll0, PyData.depthAll, h1.pl, h1.cl, a, b, Bool.and_self, true_and]
    exact Nat.max_le.mpr ⟨h1.dp, c⟩
theorem okN_tup {k : Nat} {xs : List D} (h : ∀ x ∈ xs, OkN k x) : OkN (k + 1) (.tup xs) := by
  obtain ⟨a, b, c⟩ := okNs h
  exact ⟨by simp [plainD, a], by simp [toPy, PyData.canLay0, b], by simp [toPy, PyData.depth]; exact c⟩
theorem okN_lst {k : Nat} {xs : List D} (h : ∀ x ∈ xs, OkN k x) : OkN (k + 1) (.lst xs) := by
  obtain ⟨a, b, c⟩ := okNs h
  exact ⟨by simp [plainD, a], by simp [toPy, PyData.canLay0, b], by simp [toPy, PyData.depth]; exact c⟩
theorem OkN.okE {k : Nat} {d : D} (h : OkN k d) (l : k ≤ 64) : Dk.okE d = true := by
  unfold Dk.okE SeqAt.shaped
  simp only [h.pl, h.cl, Bool.and_self, Bool.true_and, decide_eq_true_eq]
  exact Nat.le_trans h.dp l
theorem OkN.eqD {k : Nat} {d : D} {Q : D → Prop} (h : OkN k d) (l : k ≤ 64) (q : Q (.bl true)) : Dk.eqD d d Q := by
  have e : deq d d = true := SeqAt.eqv_refl _ h.cl
  refine ⟨by simp [canEq, h.okE l], ?_⟩
  rw [e]
  exact q
/-- a comprehension over a list of things, each taken or left -/
theorem lcD_map {α : Type} {g : DGT} {tc : DB} {te : DT} {ρ : DEnv} (f h : α → D) (p : α → Bool) {Q : List D → Prop} : ∀ {l : List α}, (∀ a ∈ l, ∀ (R : D → Prop) (S : Prop), (p a = true → R (h a)) → (p a = false → S) → g (f a) ρ fun ρ2 => tc ρ2 fun b => if b = true then te ρ2 R else S) → Q ((l.filter p).map h) → lcD g tc te ρ (l.map f) Q := by
  intro l
  induction l generalizing Q with
  | nil => intro _ q; exact q
  | cons a l ih =>
    intro hs q
    refine hs a (by simp) _ _ (fun e => ?_) fun e => ?_
    · refine ih (fun b hb => hs b (List.mem_cons_of_mem _ hb)) ?_
      rw [List.filter_cons_of_pos e] at q
      exact q
    · refine ih (fun b hb => hs b (List.mem_cons_of_mem _ hb)) ?_
      rw [List.filter_cons_of_neg (by simp [e])] at q
      exact q
theorem lcD_all {α : Type} {g : DGT} {tc : DB} {te : DT} {ρ : DEnv} (f h : α → D) {Q : List D → Prop} {l : List α} (hs : ∀ a ∈ l, ∀ (R : D → Prop) (S : Prop), R (h a) → g (f a) ρ fun ρ2 => tc ρ2 fun b => if b = true then te ρ2 R else S) (q : Q (l.map h)) : lcD g tc te ρ (l.map f) Q :=
  lcD_map f h (fun _ => true) (fun a ha R S r _ => hs a ha R S (r rfl)) (by rw [List.filter_eq_self.mpr (by simp)]; exact q)
end Dk

namespace Dk
open PySem L2 PySem.Spec PyProof.Rows
/-! ### a law's end, its promise under known guards -/
theorem law_gn {P : Program} {w : World} {K : PySem.W.Frag} {mg mb : Str → Option Value} {CX : CXT} {k : Nat} {fa a : Addr} {fd : FuncData} {x : Str} {sp : Sp} {s1 : Shared} {us : List Value} {ns : List Int}
    (inK : K.In s1.heap) (inM : s1.heap.Ns mainGlobals mg) (inB : s1.heap.Ns builtinsNs mb) (boots : ∀ x : Str, x ≠ "__name__" → mb x = bootBuiltins x) (noLim : s1.heap.NoLimit) (noGen : s1.gens = #[])
    (isL : s1.heap.get? a = some { cls := .type "list", data := .seq us.toArray }) (its0 : IntsAre us ns) (small : ns.length ≤ sizeLine) (room : Room k callerA)
    (F : ∀ base : Heap, K.In base → base.Ns mainGlobals mg → GnOk P w K mg base CX k fa fd [x] sp) (binds : ∀ (s : Shared) (u : Value), BindsTo s fd ⟨[u], []⟩ [(x, u)])
    (says : ∀ H : Hp, L2.Only H → SqL K H a (ns.map V.int) → sp [.ref a] H (fun v _ => v = .bl true) fun _ _ _ => False) (lets : ∀ H e s', CX [] H s1 (fun _ _ _ => False) e s' → False) :
    codeAny (model P w) callerA (.call (.ref fa) ⟨[.ref a], []⟩) (fun r s' => r = .ok (.ret (.bool true)) ∧ OldK s1.heap s'.heap ∧ s'.os = s1.os ∧ AllBare s'.gens) s1 := by
  have vals := vals_ints its0
  -- a heap that tells of the script, or of nothing
  have main : ∀ H : Hp, L2.Only H → SqL K H a (ns.map V.int) → HOk P w H s1.heap → (∀ b, H b ≠ none → b = a ∧ K.lookup b = none) →
      codeAny (model P w) callerA (.call (.ref fa) ⟨[.ref a], []⟩) (fun r s' => r = .ok (.ret (.bool true)) ∧ OldK s1.heap s'.heap ∧ s'.os = s1.os ∧ AllBare s'.gens) s1 := by
    intro H only sq ok few
    have dict_out : ∀ {b : Addr} {m : Str → Option Value}, s1.heap.Ns b m → (hidT s1.heap H).Ns b m := by
      rintro b m ⟨o, es, ep, e1, e2, e3⟩
      refine ⟨o, es, ep, hidT_get e1 ?_, e2, e3⟩
      rcases hb : H b with _ | u
      · rfl
      · obtain ⟨rfl, _⟩ := few b (by rw [hb]; simp)
        rw [isL] at e1
        cases e1
        exact Data.noConfusion e2
    have inK' : K.In (hidT s1.heap H) := fun b o e => hidT_get (inK b o e) (by
      rcases hb : H b with _ | u
      · rfl
      · have := (few b (by rw [hb]; simp)).2
        rw [this] at e
        cases e)
    obtain ⟨mc, lim1, lim2⟩ := noLim
    have env : Env0 P w K mg (hidT s1.heap H) callerA [] s1 H := { frames := rfl, mod := ⟨inK', dict_out inM, ⟨mb, dict_out inB, boots⟩, ⟨mc, dict_out lim1, lim2⟩⟩, bs := fun b o e => of_hidT e, bsz := Nat.le_of_eq (hidT_size _ _), funs := trivial, frf := (by simp [frs]), hok := ok, bare := .of_eq noGen }
    refine codeAny_mono ((F _ inK' (dict_out inM)).go callerA [] s1 H ⟨[.ref a], []⟩ [.ref a] [.ref a] _ _ ⟨room, rfl⟩ env (binds s1 (.ref a)) (.cons rfl .nil) (says H only sq)) fun r s' q => ?_
    match r, q with
    | .error e, q => exact (lets H e s' q).elim
    | .ok .next, q => exact q.elim
    | .ok .brk, q => exact q.elim
    | .ok .cont, q => exact q.elim
    | .ok (.ret u), ⟨v, H2, os, bare, un, ok2, rel, q⟩ =>
      have q : v = .bl true := q
      subst q
      obtain rfl : u = Value.bool true := rel
      refine ⟨rfl, OldK.of_keep fun b o e => ?_, os, bare⟩
      rcases only b with z | ⟨ob, xs, z⟩
      · exact un.keep b o e z (by simp [frs]) (by simp)
      · obtain ⟨e1, _⟩ := ok b _ z
        obtain ⟨e2, _⟩ := ok2 b _ (un.frzs b ob _ z)
        rw [e1] at e
        cases e
        exact e2
  rcases hk : K.lookup a with _ | o
  · -- the script stands beside the module's objects
    have told : ∀ b u, (if b = a then some (HO.frz { cls := .type "list", data := .seq us.toArray } (.lst (ns.map V.int))) else none) = some u → b = a ∧ u = HO.frz { cls := .type "list", data := .seq us.toArray } (.lst (ns.map V.int)) := fun b u z => by
      split at z
      · exact ⟨by assumption, (Option.some.inj z).symm⟩
      · cases z
    refine main (fun b => if b = a then some (.frz { cls := .type "list", data := .seq us.toArray } (.lst (ns.map V.int))) else none) (fun b => ?_) (.inl (.inr ⟨_, if_pos rfl⟩)) (fun b u z => ?_) fun b z => ?_
    · by_cases hb : b = a
      · right; exact ⟨_, _, if_pos hb⟩
      · left; exact if_neg hb
    · obtain ⟨rfl, rfl⟩ := told b u z
      exact ⟨isL, by rw [List.length_map]; exact small, us, _, vals, isL⟩
    · rcases hb : (if b = a then some (HO.frz { cls := .type "list", data := .seq us.toArray } (.lst (ns.map V.int))) else none) with _ | u
      · exact absurd hb z
      · obtain ⟨rfl, _⟩ := told b u hb
        exact ⟨rfl, hk⟩
  · -- it is one of them
    have e := inK a o hk
    rw [isL] at e
    cases e
    exact main (fun _ => none) (fun _ => .inl rfl) (.inr ⟨_, us.toArray, _, hk, rfl, rfl, rfl, by rw [List.size_toArray, its0.length]; exact small, by simpa using vals⟩) (fun b u z => (nomatch (show (none : Option HO) = some u from z))) fun b z => absurd rfl z
theorem walk_gn {l : PySem.W.OpenLaw} {n k : Nat} {q : Program} {loose : List Str} {XP : (Str → Option Value) → Heap → Prop} {YP : World → Heap → Prop} {d : DefRec} {K : Params → PySem.W.Frag} {x : Str} {sp : PySem.W.Frag → Sp}
    (hn : l.most = some n) (hn2 : n ≤ sizeLine) (hdf : d.params.defaults = []) (room : Room k callerA) (inY : ∀ (w : World) (h : Heap), YP w h → (K w.params).In h)
    (F : ∀ (w : World) (mg : Str → Option Value) (fa : Addr) (h : Heap), (K w.params).In h → h.Ns mainGlobals mg → mg d.name = some (.ref fa) →
      ∃ fd : FuncData, (∀ (s : Shared) (u : Value), BindsTo s fd ⟨[u], []⟩ [(x, u)]) ∧ ∀ base : Heap, (K w.params).In base → base.Ns mainGlobals mg → GnOk l.prog w (K w.params) mg base CX0 k fa fd [x] (sp (K w.params)))
    (says : ∀ (K : PySem.W.Frag) (H : Hp) (a : Addr) (ns : List Int), ns.length ≤ n → SqL K H a (ns.map V.int) → sp K [.ref a] H (fun v _ => v = .bl true) fun _ _ _ => False) :
    PySem.W.WalkO q loose XP YP l.row.toRowW d [] (fun f vs => PySem.call f vs) := by
  refine Att.attach_call hn hdf fun w s0 s1 mg mb fa o pm cd doc a us ns G Y ho hd hcd hmg hobj hints hlen hg => ?_
  obtain ⟨fd, hb, hF⟩ := F w mg fa _ (inY w _ Y) G.T.g hmg
  exact law_gn (inY w _ Y) G.T.g G.T.b G.T.builtins G.T.nolimit hg hobj hints (Nat.le_trans hlen hn2) room hF hb (fun H _ hS => says _ H a ns hlen hS) fun H e s' z => z
end Dk

namespace K07
open PySem L2 Dk
open PyProof.Rows (envOfC)
def top (i : Nat) : Stmt := PySem.Challenge.pw_dressedkinds_k07_numbers_in_letters.main.body.getD i (.Pass ⟨0, 0, 0, 0⟩)
abbrev sLettersOf : Stmt := top 3
abbrev sDeck : Stmt := top 5
abbrev sDraw : Stmt := top 6
abbrev sLetters : Stmt := top 7
abbrev sRead : Stmt := top 8
abbrev sLaw : Stmt := top 9
section
variable {P : Program} {w : World} {K : PySem.W.Frag} {mg : Str → Option Value} {base : Heap}
/-- a deck made of the script -/
def spDeck (K : PySem.W.Frag) : Sp := fun vs H Q _ => ∃ (a : Addr) (ns : List Int), vs = [.ref a] ∧ SqL K H a (ns.map V.int) ∧ ns.length ≤ 63 ∧ ∀ p l H', Same H H' → H p = none → H l = none → deckAt p l H' → Q (.ref p) H'
theorem scD : FnScope ["_law_script", "_law_cell"] ["_law_script"] (defScope sDeck) := ⟨rfl, rfl, rfl, by decide +kernel, rfl, by decide +kernel, by decide +kernel⟩
theorem ok_deck {f : Addr} {fd : FuncData} {k : Nat} (Fn : Fun K "_law_deck" "_law_deck" sDeck f fd) (mList : mg "list" = none) (mSum : mg "sum" = none) (mLen : mg "len" = none) : FnOk P w K mg base CX0 (k + 1) f fd ["_law_script"] (spDeck K) := by
  refine Fn.ok scD (fun vs H Q E h => ?_) (fun cdv A outer s H vs Q E hr h => ?_)
  · obtain ⟨a, ns, rfl, _⟩ := h
    rfl
  obtain ⟨a, ns, rfl, hS, h63, q⟩ := h
  refine ⟨_, pss_one (ps_ret (pe_lst (pa_cons (pe_revL (pe_callTy call_list_of rfl mList (by decide +kernel) (pa_cons (pe_slice sl_list (pv 0) po_none (po_some pe_int)) pa_nil)))
    (pa_cons (pe_op op_add (pe_callB (cr_sum rfl) rfl mSum (by decide +kernel) (pa_cons (pe_lc (own := [("_law_cell", 1)]) (g := gName 1) (tt := tYes) rfl scD.nd (pi_list (pe_slice sl_list (pv 0) po_none (po_some pe_int))) (blkOk_by (own := [("_law_cell", 1)]) (N := ["_law_script", "_law_cell"]) (sc := defScope sDeck) (by decide +kernel))
        (fun _ _ _ _ _ => pg_name (i := 1) scD.nd rfl (Or.inl rfl)) (fun _ _ _ _ _ => pts_nil) (fun _ _ _ _ _ => pe_op op_modN (pv 1) pe_int)) pa_nil))
      (pe_op op_mul pe_int (pe_callB call_len_seq rfl mLen PySem.boot_len (pa_cons (pe_slice sl_list (pv 0) po_none (po_some pe_int)) pa_nil))))
    (pa_cons pe_int pa_nil))))), ?_⟩
  have cut63 : cutV (ns.map V.int) none (some 63) = ns.map V.int := by
    unfold cutV
    rw [HT.sIx_none, List.drop_zero, show HT.sIx (ns.map V.int).length (ns.map V.int).length (some 63) = min 63 (ns.map V.int).length from HT.sIx_nat _ _ 63]
    rw [List.length_map, Nat.min_eq_right h63, Nat.sub_zero, ← List.length_map (f := V.int), List.take_length]
  -- list(script[:63])[::-1]
  refine ⟨_, rfl, 63, rfl, a, _, rfl, hS, fun c nc => ?_⟩
  rw [cut63]
  have s1 : Same H (upd H c (.lst (ns.map V.int))) := Same.laid nc
  refine ⟨c, _, rfl, .inl (.of upd_same), fun d nd => ?_⟩
  have s2 := Same.trans s1 (Same.laid (o := .lst (ns.map V.int)) nd)
  refine ⟨d, _, rfl, .of upd_same, fun l nl => ?_⟩
  have s3 := Same.trans s2 (Same.laid (o := .lst (ns.map V.int).reverse) nl)
  -- sum([cell % 1000003 for cell in script[:63]]) + 7919 * len(script[:63])
  refine ⟨_, rfl, 63, rfl, a, _, rfl, s3.seq hS, fun e ne => ?_⟩
  rw [cut63]
  have s4 := Same.trans s3 (Same.laid (o := .lst (ns.map V.int)) ne)
  refine ⟨e, rfl, ⟨_, .of upd_same⟩, fun D nD => ?_⟩
  generalize hH4 : upd (upd (upd (upd H c (HO.lst (List.map V.int ns))) d (HO.lst (List.map V.int ns))) l (HO.lst (List.map V.int ns).reverse)) e (HO.lst (List.map V.int ns)) = H4 at *
  have e4 : H4 e = some (.lst (ns.map V.int)) := by rw [← hH4]; exact upd_same
  have l4 : H4 l = some (.lst (ns.map V.int).reverse) := by rw [← hH4, upd_ne (ne_of_none upd_same ne)]; exact upd_same
  refine lc_list (K := K) (a := e) (xs := ns.map V.int) (fun i H' => Same H4 H' ∧ H' D = some (.lst ((ns.take i).map fun c => V.int (c.fmod 1000003)))) ⟨Same.laid nD, upd_same⟩ (fun i H' _ h => .of (h.1 _ _ e4)) ?_ ?_
  · intro i x H' hx ⟨sm, hD⟩
    have hi : i < ns.length := by
      have := (List.getElem?_eq_some_iff.mp hx).1
      simpa using this
    have hx' : x = .int ns[i] := by
      rw [List.getElem?_map, List.getElem?_eq_getElem hi] at hx
      exact (Option.some.inj hx).symm
    subst hx'
    refine ⟨rfl, _, rfl, _, _, rfl, rfl, (show (1000003 : Int) ≠ 0 by decide), _, hD, ?_, fun b u eb => ?_, ?_⟩
    · rw [List.length_map, List.length_take]
      exact Nat.lt_of_le_of_lt (Nat.min_le_left _ _) (small1000 (by omega))
    · rw [upd_ne (ne_of_none eb nD)]; exact sm _ _ eb
    · rw [upd_same, List.take_add_one, List.getElem?_eq_getElem hi, List.map_append]
      rfl
  · intro H' ⟨sm, hD⟩
    rw [List.length_map, List.take_length] at hD
    refine ⟨D, ns.map fun c => c.fmod 1000003, rfl, .of (by rw [hD, List.map_map]; rfl), _, rfl, 63, rfl, a, _, rfl, sm.seq (s4.seq hS), fun g ng => ?_⟩
    rw [cut63]
    refine ⟨g, _, rfl, .inl (.of upd_same), _, _, rfl, rfl, (.inl ⟨by decide, by decide⟩), _, _, rfl, rfl, (show 3 ≤ sizeLine by decide), fun p np => ?_⟩
    have s5 : Same H4 (upd (upd H' g (.lst (ns.map V.int))) p (.lst [.ref l, .int ((ns.map fun c => c.fmod 1000003).sum + 7919 * ((ns.map V.int).length : Int)), .int 0])) := Same.trans sm (Same.trans (Same.laid ng) (Same.laid np))
    have np4 : H4 p = none := by
      cases z : H4 p with
      | none => rfl
      | some u => have := Same.trans sm (Same.laid (o := .lst (ns.map V.int)) ng) _ _ z; rw [np] at this; cases this
    refine q p l _ (Same.trans s4 s5) (Same.free s4 np4) (Same.free s2 nl) ⟨ns.reverse, _, 0, upd_same, ?_, by simpa using h63, ?_⟩
    · rw [s5 _ _ l4, List.map_reverse]
    · intro z
      rw [z, l4] at np4
      cases np4
/-- a draw: any number below the most -/
theorem scDr : FnScope ["_law_deck_here", "_law_most", "_law_cell", "_law_own_number"] ["_law_deck_here", "_law_most"] (defScope sDraw) := ⟨rfl, rfl, rfl, by decide +kernel, rfl, by decide +kernel, by decide +kernel⟩
theorem ok_draw {a l : Addr} {f : Addr} {fd : FuncData} {k : Nat} (Fn : Fun K "_law_draw" "_law_draw" sDraw f fd) : FnOk P w K mg base CX0 (k + 1) f fd ["_law_deck_here", "_law_most"] (spD (DeckW a l) K (spDraw a)) := by
  refine Fn.ok scDr (fun vs H Q E h => spD_len _ _ _ _ h) (fun cdv A outer s H vs Q E hr h => ?_)
  obtain ⟨I, ds, st, rs, m, rfl, m0, m1, q⟩ := h
  obtain ⟨v1, v2, rfl, r1, r2⟩ := rs.two
  cases r1
  cases r2
  have hu := hr.units
  obtain ⟨ns, sm, t, ha, hl, h63, nal⟩ := st.inv
  have done : ∀ (v : Int) (ns' : List Int) (sm' t' : Int) (H' : Hp), 0 ≤ v → v < m → ns'.length ≤ 63 → H' a = some (.lst [.ref l, .int sm', .int t']) → H' l = some (.lst (ns'.map V.int)) → (∀ b o, H b = some o → b ≠ a → b ≠ l → H' b = some o) → Q (.int v) H' :=
    fun v ns' sm' t' H' h0 h1 h2 h3 h4 h5 => q v h0 h1 (.int v) I H' (stp_deck st h5 ⟨ns', sm', t', h3, h4, h2, nal⟩) (.int v)
  -- the last three rows
  obtain ⟨t2, d2, r2⟩ : ∃ t2, PSs (cxOf CX0 P w K mg base ["_law_deck_here", "_law_most", "_law_cell", "_law_own_number"] "_law_draw" (defScope sDraw) f cdv A outer s H E).nox ((defBody sDraw).drop 3) t2 ∧
      ∀ (c : Int) (ns' : List Int) (t' : Int) (H' : Hp), ns'.length ≤ 63 → H' a = some (.lst [.ref l, .int sm, .int t']) → H' l = some (.lst (ns'.map V.int)) → (∀ b o, H b = some o → b ≠ a → b ≠ l → H' b = some o) →
        t2 { nx := fun _ H' => Q .non H', rt := Q } [some (.ref a), some (.int m), some (.int c), none] H' := by
    refine ⟨_, pss_cons (ps_set (i := 3) scDr.nd rfl (.inl rfl) (pe_op op_mod (pe_op op_mul (pe_op op_add (pe_op op_add (pe_op op_mod (pv 2) pe_int) (pe_op op_mul pe_int (pe_ix ix_list (pv 0) pe_int (fun _ _ => rfl)))) pe_int) pe_int) pe_int))
      (pss_cons (ps_set (i := 3) scDr.nd rfl (.inl rfl) (pe_op op_mod (pe_op op_add (pe_op op_add (pe_op op_mul (pv 3) (pv 3)) (pe_op op_mul pe_int (pe_ix ix_list (pv 0) pe_int (fun _ _ => rfl)))) pe_int) pe_int))
      (pss_one (ps_ret (pe_op op_mod (pe_op op_fdivW (pe_op op_mod (pe_op op_add (pe_op op_mul (pv 3) (pv 3)) pe_int) pe_int) pe_int) (pv 1))))), fun c ns' t' H' h2 h3 h4 h5 => ?_⟩
    have pos1 : (0 : Int) < 2147483629 := by decide
    refine ⟨_, rfl, _, _, rfl, rfl, pos1, _, rfl, a, _, 2, .int t', rfl, rfl, .of h3, atI_nat (j := 2) rfl, _, _, rfl, rfl, .inl ⟨by decide, by decide⟩, _, _, rfl, rfl, _, _, rfl, rfl, _, _, rfl, rfl, .inr ⟨by decide, by decide⟩, _, _, rfl, rfl, (show (0 : Int) < 2147483647 by decide), ?_⟩
    generalize hx : (c % 2147483629 + 65537 * t' + 11) * 48271 % 2147483647 = x
    have x0 : 0 ≤ x := by rw [← hx]; exact Int.emod_nonneg _ (by decide)
    have x1 : x < 2147483647 := by rw [← hx]; exact Int.emod_lt_of_pos _ (by decide)
    refine ⟨_, rfl, _, rfl, _, _, rfl, rfl, .inl ⟨by omega, by omega⟩, _, rfl, a, _, 2, .int t', rfl, rfl, .of h3, atI_nat (j := 2) rfl, _, _, rfl, rfl, .inl ⟨by decide, by decide⟩, _, _, rfl, rfl, _, _, rfl, rfl, _, _, rfl, rfl, (show (0 : Int) < 2147483587 by decide), ?_⟩
    generalize hy : (x * x + 69621 * t' + 23) % 2147483587 = y
    have y0 : 0 ≤ y := by rw [← hy]; exact Int.emod_nonneg _ (by decide)
    have y1 : y < 2147483587 := by rw [← hy]; exact Int.emod_lt_of_pos _ (by decide)
    refine ⟨_, rfl, _, rfl, _, _, rfl, rfl, .inl ⟨by omega, by omega⟩, _, _, rfl, rfl, _, _, rfl, rfl, (show (0 : Int) < 2147483563 by decide), _, _, rfl, rfl, ⟨by decide, by decide⟩, _, rfl, _, _, rfl, rfl, m0, ?_⟩
    exact done _ ns' sm t' H' (Int.emod_nonneg _ (by omega)) (Int.emod_lt_of_pos _ m0) h2 h3 h4 h5
  refine ⟨_, pss_cons (ps_asg (pe_op op_add (pe_ix ix_list (pv 0) pe_int (fun _ _ => rfl)) pe_int) (pg_sub (pv 0) pe_int set_list))
    (pss_cons (ps_set (i := 2) scDr.nd rfl (.inl rfl) (pe_ix ix_list (pv 0) pe_int (fun _ _ => rfl)))
    (pss_cons (ps_if (pt_cmpR (op_neD hu) (pe_ix ix_list (pv 0) pe_int (fun _ _ => rfl)) (pe_lst pa_nil) (nomark _))
      (pss_cons (ps_set (i := 2) scDr.nd rfl (.inl rfl) (pe_bm0 PySem.F.plainAttrs_list PySem.F.slot_list_pop PySem.F.type_list_pop mt_pop (pe_ix ix_list (pv 0) pe_int (fun _ _ => rfl))))
      (pss_one (ps_if (pt_cmpR op_ge (pv 2) (pe_op op_pow pe_int pe_int) (nomark _))
        (pss_cons (ps_expr (pe_bm PySem.F.plainAttrs_list PySem.F.slot_list_append PySem.F.type_list_append mt_append (pe_ix ix_list (pv 0) pe_int (fun _ _ => rfl)) (pa_cons (pe_op op_fdivW (pv 2) (pv 1)) pa_nil)))
        (pss_one (ps_ret (pe_op op_mod (pv 2) (pv 1))))) pss_nil))) pss_nil) d2)), ?_⟩
  -- deck[2] = deck[2] + 1; cell = deck[1]
  refine ⟨_, rfl, a, _, 2, .int t, rfl, rfl, .of ha, atI_nat (j := 2) rfl, _, _, rfl, rfl, _, rfl, a, _, 2, 2, rfl, rfl, ha, rfl, ?_⟩
  refine ⟨_, rfl, a, _, 1, .int sm, rfl, rfl, .of upd_same, atI_nat (j := 1) rfl, ?_⟩
  -- if deck[0] != []
  have hl1 : ∀ o, upd H a o l = some (.lst (ns.map V.int)) := fun o => by rw [upd_ne nal.symm]; exact hl
  refine ⟨_, rfl, a, _, 0, .ref l, rfl, rfl, .of upd_same, atI_nat (j := 0) rfl, Nat.zero_le _, fun p np => ?_⟩
  have npa : a ≠ p := ne_of_none upd_same np
  have npl : l ≠ p := ne_of_none (hl1 _) np
  have ha2 : upd (upd H a (.lst [.ref l, .int sm, .int (t + 1)])) p (.lst []) a = some (.lst [.ref l, .int sm, .int (t + 1)]) := by rw [upd_ne npa, upd_same]
  have hl2 : upd (upd H a (.lst [.ref l, .int sm, .int (t + 1)])) p (.lst []) l = some (.lst (ns.map V.int)) := by rw [upd_ne npl]; exact hl1 _
  have kp2 : ∀ b o, H b = some o → b ≠ a → upd (upd H a (.lst [.ref l, .int sm, .int (t + 1)])) p (.lst []) b = some o := fun b o e nb => by
    have e' : upd H a (.lst [.ref l, .int sm, .int (t + 1)]) b = some o := by rw [upd_ne nb]; exact e
    rw [upd_ne (ne_of_none e' np)]; exact e'
  refine ⟨.list (ns.map .int), .list [], .lst (.of hl2) (dp_ints ns), .lst (.of upd_same) .nil, shaped_ints ns, shaped_ints [], _, rfl, ?_⟩
  rw [eqv_nil]
  refine ite2 (fun hc => ?_) (fun hc => ?_)
  · -- a cell is there
    have hne : ns ≠ [] := by
      rintro rfl
      simp at hc
    obtain ⟨pre, c, rfl⟩ : ∃ pre c, ns = pre ++ [c] := ⟨_, _, (List.dropLast_concat_getLast hne).symm⟩
    have hlen : ((pre ++ [c]).map V.int).length - 1 = pre.length := by simp
    refine ⟨_, rfl, a, _, 0, .ref l, rfl, rfl, .of ha2, atI_nat (j := 0) rfl, .inl ⟨rfl, _, .of hl2⟩, l, _, .int c, rfl, rfl, hl2, ?_, ?_⟩
    · rw [hlen]; simp
    have hd : ((pre ++ [c]).map V.int).dropLast = pre.map V.int := by simp
    rw [hd]
    have ha3 : upd (upd (upd H a (.lst [.ref l, .int sm, .int (t + 1)])) p (.lst [])) l (.lst (pre.map V.int)) a = some (.lst [.ref l, .int sm, .int (t + 1)]) := by rw [upd_ne nal]; exact ha2
    have hpre : pre.length ≤ 62 := by
      have := h63
      simp at this
      omega
    refine ⟨_, rfl, _, _, rfl, rfl, ⟨by decide, by decide, by decide⟩, _, _, rfl, rfl, _, rfl, ?_⟩
    refine ite2 (fun hb => ?_) (fun hb => ?_)
    · -- the rest of it is put back
      refine ⟨_, rfl, a, _, 0, .ref l, rfl, rfl, .of ha3, atI_nat (j := 0) rfl, .inl ⟨rfl, _, .of upd_same⟩, _, rfl, _, rfl, _, _, rfl, rfl, ⟨m0, m1⟩, l, _, _, rfl, rfl, upd_same, ?_, ?_⟩
      · rw [List.length_map]; exact small1000 (by omega)
      · refine ⟨_, rfl, _, rfl, _, _, rfl, rfl, m0, ?_⟩
        refine done _ (pre ++ [c / m]) sm (t + 1) _ (Int.emod_nonneg _ (by omega)) (Int.emod_lt_of_pos _ m0) (by simp; omega) ?_ ?_ fun b o e na nl => ?_
        · rw [upd_ne nal, upd_ne nal]; exact ha2
        · rw [upd_same]; simp
        · rw [upd_ne nl, upd_ne nl]; exact kp2 b o e na
    · exact r2 c pre (t + 1) _ (by omega) ha3 upd_same fun b o e na nl => by rw [upd_ne nl]; exact kp2 b o e na
  · exact r2 sm ns (t + 1) _ h63 ha2 hl2 fun b o e na _ => kp2 b o e na
end
end K07

namespace K07
open PySem L2 Dk
/-! ### numbers in letters, in plain words -/
def digsF : Nat → Nat → List Nat
  | 0, _ => []
  | f + 1, n => if n < 26 then [n] else digsF f (n / 26) ++ [n % 26]
def val : List Nat → Nat := List.foldl (fun a d => 26 * a + d) 0
theorem val_snoc (l : List Nat) (d : Nat) : val (l ++ [d]) = 26 * val l + d := by simp [val]
theorem digs_val : ∀ (f n : Nat), n < 26 ^ f → val (digsF f n) = n
  | 0, n, h => by
    have : n = 0 := by simp at h; exact h
    subst this
    rfl
  | f + 1, n, h => by
    unfold digsF
    split
    · simp [val]
    · rw [val_snoc, digs_val f (n / 26) (by rw [Nat.pow_succ] at h; omega)]
      omega
theorem digs_small : ∀ (f n d : Nat), d ∈ digsF f n → d < 26
  | 0, _, _, h => by simp [digsF] at h
  | f + 1, n, d, h => by
    unfold digsF at h
    split at h
    · simp at h; omega
    · rw [List.mem_append] at h
      rcases h with h | h
      · exact digs_small f _ d h
      · simp at h; omega
theorem digs_ne (f n : Nat) : digsF (f + 1) n ≠ [] := by
  unfold digsF
  split <;> simp
theorem digs_len : ∀ (f n m : Nat), n ≤ m → m < 26 ^ f → (digsF f n).length ≤ (digsF f m).length
  | 0, _, _, _, _ => by simp [digsF]
  | f + 1, n, m, h, hm => by
    unfold digsF
    split
    · split
      · simp
      · simp
    · rw [if_neg (by omega)]
      have := digs_len f (n / 26) (m / 26) (Nat.div_le_div_right h) (by rw [Nat.pow_succ] at hm; omega)
      simpa using this
theorem digs_len_le : ∀ (f n : Nat), (digsF f n).length ≤ f
  | 0, _ => by simp [digsF]
  | f + 1, n => by
    unfold digsF
    split
    · simp
    · have := digs_len_le f (n / 26)
      simp
      exact this
theorem val_go (a : Nat) : ∀ l : List Nat, l.foldl (fun a d => 26 * a + d) a = a * 26 ^ l.length + val l
  | [] => by simp [val]
  | d :: l => by
    unfold val
    rw [List.foldl_cons, List.foldl_cons, val_go (26 * a + d) l, val_go (26 * 0 + d) l, List.length_cons, Nat.pow_succ]
    simp only [Nat.mul_zero, Nat.zero_add, Nat.add_mul, Nat.add_assoc]
    rw [Nat.mul_comm 26 a, Nat.mul_assoc, Nat.mul_comm 26]
theorem val_cons (d : Nat) (l : List Nat) : val (d :: l) = d * 26 ^ l.length + val l := by
  have := val_go d l
  unfold val at this ⊢
  simpa using this
theorem val_lt : ∀ l : List Nat, (∀ d ∈ l, d < 26) → val l < 26 ^ l.length
  | [], _ => by simp [val]
  | d :: l, h => by
    have h1 := val_lt l fun x hx => h x (by simp [hx])
    have h2 := h d (by simp)
    rw [val_cons, List.length_cons, Nat.pow_succ]
    have : d * 26 ^ l.length ≤ 25 * 26 ^ l.length := Nat.mul_le_mul_right _ (by omega)
    omega
theorem lex_val : ∀ l m : List Nat, l.length = m.length → (∀ d ∈ l, d < 26) → (∀ d ∈ m, d < 26) → l.map (97 + ·) < m.map (97 + ·) → val l < val m
  | [], [], _, _, _, h => by simp at h
  | [], _ :: _, h, _, _, _ => by simp at h
  | _ :: _, [], h, _, _, _ => by simp at h
  | a :: l, b :: m, hl, h1, h2, h => by
    have hl' : l.length = m.length := by simpa using hl
    rw [List.map_cons, List.map_cons, List.cons_lt_cons_iff] at h
    rw [val_cons, val_cons, hl']
    rcases h with h | ⟨h, h'⟩
    · have h3 := val_lt l fun x hx => h1 x (by simp [hx])
      have : (a + 1) * 26 ^ m.length ≤ b * 26 ^ m.length := Nat.mul_le_mul_right _ (by omega)
      rw [Nat.add_mul, Nat.one_mul] at this
      rw [hl'] at h3
      omega
    · have e : a = b := by omega
      have := lex_val l m hl' (fun x hx => h1 x (by simp [hx])) (fun x hx => h2 x (by simp [hx])) h'
      rw [e]
      omega
/-- numbers below 26 ^ 15 -/
def digs (n : Nat) : List Nat := digsF 15 n
def letS (n : Nat) : Str := ⟨((digs n).map (97 + ·)).toArray⟩
theorem letS_list (n : Nat) : (letS n).cps.toList = (digs n).map (97 + ·) := rfl
theorem letS_len (n : Nat) : (letS n).length = (digs n).length := by simp [letS, Str.length]
theorem digs_inj {n m : Nat} (hn : n < 26 ^ 15) (hm : m < 26 ^ 15) (h : digs n = digs m) : n = m := by
  rw [← digs_val 15 n hn, ← digs_val 15 m hm]
  exact congrArg val h
theorem map97_inj {l m : List Nat} (h : l.map (97 + ·) = m.map (97 + ·)) : l = m := by
  induction l generalizing m with
  | nil => cases m with | nil => rfl | cons _ _ => simp at h
  | cons a l ih =>
    cases m with
    | nil => simp at h
    | cons b m =>
      simp only [List.map_cons, List.cons.injEq] at h
      rw [ih h.2, show a = b by omega]
theorem letS_inj {n m : Nat} (hn : n < 26 ^ 15) (hm : m < 26 ^ 15) (h : letS n = letS m) : n = m := by
  refine digs_inj hn hm (map97_inj ?_)
  rw [← letS_list, ← letS_list, h]
theorem letS_lt {n m : Nat} (hn : n < 26 ^ 15) (hm : m < 26 ^ 15) (hl : (letS n).length = (letS m).length) (h : n ≠ m) : decide ((letS n).cps.toList < (letS m).cps.toList) = decide (n < m) := by
  rw [letS_len, letS_len] at hl
  have key : ∀ {a b : Nat}, a < 26 ^ 15 → b < 26 ^ 15 → (digs a).length = (digs b).length → (letS a).cps.toList < (letS b).cps.toList → a < b := fun {a b} ha hb hl hlt => by
    have := lex_val (digs a) (digs b) hl (fun d => digs_small 15 a d) (fun d => digs_small 15 b d) hlt
    rwa [show val (digs a) = a from digs_val 15 a ha, show val (digs b) = b from digs_val 15 b hb] at this
  rw [decide_eq_decide]
  refine ⟨key hn hm hl, fun hlt => ?_⟩
  rcases Std.lt_trichotomy (letS n).cps.toList (letS m).cps.toList with c | c | c
  · exact c
  · rw [letS_list, letS_list] at c
    exact absurd (digs_inj hn hm (map97_inj c)) h
  · have := key hm hn hl.symm c
    omega
theorem letS_short {n m : Nat} (hn : n < 26 ^ 15) (hm : m < 26 ^ 15) (hl : (letS n).length ≠ (letS m).length) : decide ((letS n).length < (letS m).length) = decide (n < m) := by
  rw [letS_len, letS_len] at hl ⊢
  rw [decide_eq_decide]
  constructor
  · intro h
    by_cases c : n < m
    · exact c
    · have := digs_len 15 m n (by omega) hn
      unfold digs at h
      omega
  · intro h
    have := digs_len 15 n m (by omega) hm
    unfold digs at hl ⊢
    omega
theorem head_ne : ∀ (f n : Nat), n ≠ 0 → n < 26 ^ (f + 1) → (digsF (f + 1) n).head? ≠ some 0
  | f, n, h, hn => by
    unfold digsF
    split
    · simpa using h
    · cases f with
      | zero => simp at hn; omega
      | succ f =>
        have := head_ne f (n / 26) (by omega) (by rw [Nat.pow_succ] at hn; omega)
        rw [List.head?_append]
        cases q : (digsF (f + 1) (n / 26)).head? with
        | none => exact absurd (List.head?_eq_none_iff.mp q) (digs_ne f _)
        | some d => rw [q] at this; simpa using this
theorem fuel : ∀ (f m : Nat), m < 26 ^ (f + 1) → digsF (f + 2) m = digsF (f + 1) m
  | 0, m, h => by
    have h : m < 26 := by simpa using h
    simp [digsF, h]
  | f + 1, m, h => by
    have e := fuel f (m / 26) (by rw [Nat.pow_succ] at h; omega)
    show (if m < 26 then [m] else digsF (f + 2) (m / 26) ++ [m % 26]) = if m < 26 then [m] else digsF (f + 1) (m / 26) ++ [m % 26]
    rw [e]
/-- one step of the spelling -/
theorem letS_step {n : Nat} (h : 26 ≤ n) (hn : n < 26 ^ 15) : letS n = letS (n / 26) ++ ⟨#[97 + n % 26]⟩ := by
  have e : digs n = digs (n / 26) ++ [n % 26] := by
    show digsF 15 n = digsF 15 (n / 26) ++ [n % 26]
    rw [fuel 13 (n / 26) (by omega)]
    conv => lhs; unfold digsF
    rw [if_neg (by omega)]
  show (⟨((digs n).map (97 + ·)).toArray⟩ : Str) = ⟨((digs (n / 26)).map (97 + ·)).toArray ++ #[97 + n % 26]⟩
  rw [e]
  simp
theorem letS_one {n : Nat} (h : n < 26) : letS n = ⟨#[97 + n]⟩ := by simp [letS, digs, digsF, h]
theorem letS_head {n : Nat} (h : n ≠ 0) (hn : n < 26 ^ 15) : ∃ c, (letS n).cps.toList[0]? = some c ∧ c ≠ 97 := by
  have h1 := head_ne 14 n h hn
  rw [letS_list, List.getElem?_map]
  cases q : digs n with
  | nil => exact absurd q (digs_ne 14 n)
  | cons d l =>
    unfold digs at q
    rw [q] at h1
    refine ⟨97 + d, rfl, ?_⟩
    simp at h1
    omega
end K07

namespace K07
open PySem L2 Dk
open PyProof.Rows (envOfC)
abbrev s_letters_of : Stmt := top 3
theorem sc_letters_of : FnScope ["number", "found"] ["number"] (defScope s_letters_of) := ⟨rfl, rfl, rfl, by decide +kernel, rfl, by decide +kernel, by decide +kernel⟩
theorem bd_letters_of (kV doc pm : Value) (an : Option Addr) (cdv ct : Value) (us : List Value) (hl : us.length = 1) : bindArgs (PySem.W.fnOf "letters_of" "letters_of" (defArgs s_letters_of) (defBody s_letters_of) (defScope s_letters_of) .none kV doc pm an cdv ct) ⟨us, []⟩ = pure ((["number"] : List Str).zip us) := by
  match us, hl with
  | [v0], _ => rfl
theorem bk_letters_of (kV doc pm : Value) (an : Option Addr) (cdv ct : Value) (ws : List Value) (hl : ws.length = 1) : bindArgs (PySem.W.fnOf "letters_of" "letters_of" (defArgs s_letters_of) (defBody s_letters_of) (defScope s_letters_of) .none kV doc pm an cdv ct) ⟨[], (["number"] : List Str).zip ws⟩ = pure ((["number"] : List Str).zip ws) := by
  match ws, hl with
  | [v0], _ => rfl
abbrev s__law_letters : Stmt := top 7
theorem sc__law_letters : FnScope ["_law_own_number", "_law_letters_here", "_law_found"] ["_law_own_number"] (defScope s__law_letters) := ⟨rfl, rfl, rfl, by decide +kernel, rfl, by decide +kernel, by decide +kernel⟩
theorem bd__law_letters (kV doc pm : Value) (an : Option Addr) (cdv ct : Value) (us : List Value) (hl : us.length = 1) : bindArgs (PySem.W.fnOf "_law_letters" "_law_letters" (defArgs s__law_letters) (defBody s__law_letters) (defScope s__law_letters) .none kV doc pm an cdv ct) ⟨us, []⟩ = pure ((["_law_own_number"] : List Str).zip us) := by
  match us, hl with
  | [v0], _ => rfl
abbrev s__law_read : Stmt := top 8
theorem sc__law_read : FnScope ["_law_text", "_law_found", "_law_letter"] ["_law_text"] (defScope s__law_read) := ⟨rfl, rfl, rfl, by decide +kernel, rfl, by decide +kernel, by decide +kernel⟩
theorem bd__law_read (kV doc pm : Value) (an : Option Addr) (cdv ct : Value) (us : List Value) (hl : us.length = 1) : bindArgs (PySem.W.fnOf "_law_read" "_law_read" (defArgs s__law_read) (defBody s__law_read) (defScope s__law_read) .none kV doc pm an cdv ct) ⟨us, []⟩ = pure ((["_law_text"] : List Str).zip us) := by
  match us, hl with
  | [v0], _ => rfl
abbrev s_law : Stmt := top 9
theorem sc_law : FnScope ["_law_script", "_law_deck_here", "_law_numbers", "_law_turn", "_law_fixed", "_law_rows", "_law_own_number", "_law_text", "_law_told"] ["_law_script"] (defScope s_law) := ⟨rfl, rfl, rfl, by decide +kernel, rfl, by decide +kernel, by decide +kernel⟩
theorem bd_law (kV doc pm : Value) (an : Option Addr) (cdv ct : Value) (us : List Value) (hl : us.length = 1) : bindArgs (PySem.W.fnOf "law" "law" (defArgs s_law) (defBody s_law) (defScope s_law) .none kV doc pm an cdv ct) ⟨us, []⟩ = pure ((["_law_script"] : List Str).zip us) := by
  match us, hl with
  | [v0], _ => rfl
abbrev s__law_deck : Stmt := top 5
theorem sc__law_deck : FnScope ["_law_script", "_law_cell"] ["_law_script"] (defScope s__law_deck) := ⟨rfl, rfl, rfl, by decide +kernel, rfl, by decide +kernel, by decide +kernel⟩
theorem bd__law_deck (kV doc pm : Value) (an : Option Addr) (cdv ct : Value) (us : List Value) (hl : us.length = 1) : bindArgs (PySem.W.fnOf "_law_deck" "_law_deck" (defArgs s__law_deck) (defBody s__law_deck) (defScope s__law_deck) .none kV doc pm an cdv ct) ⟨us, []⟩ = pure ((["_law_script"] : List Str).zip us) := by
  match us, hl with
  | [v0], _ => rfl
abbrev s__law_draw : Stmt := top 6
theorem sc__law_draw : FnScope ["_law_deck_here", "_law_most", "_law_cell", "_law_own_number"] ["_law_deck_here", "_law_most"] (defScope s__law_draw) := ⟨rfl, rfl, rfl, by decide +kernel, rfl, by decide +kernel, by decide +kernel⟩
theorem bd__law_draw (kV doc pm : Value) (an : Option Addr) (cdv ct : Value) (us : List Value) (hl : us.length = 2) : bindArgs (PySem.W.fnOf "_law_draw" "_law_draw" (defArgs s__law_draw) (defBody s__law_draw) (defScope s__law_draw) .none kV doc pm an cdv ct) ⟨us, []⟩ = pure ((["_law_deck_here", "_law_most"] : List Str).zip us) := by
  match us, hl with
  | [v0, v1], _ => rfl
/-- the facts of the text -/
structure Txt (mg : Str → Option Value) : Prop where
  g_LETTERS : ∃ t, mg "LETTERS" = some (.str "abcdefghijklmnopqrstuvwxyz" t)
  g_MANY : ∃ t, mg "MANY" = some (.int 26 t)
  b_list : mg "list" = none
  b_sum : mg "sum" = none
  b_len : mg "len" = none
  b_range : mg "range" = none
  b_repr : mg "repr" = none
  b_isinstance : mg "isinstance" = none
  b_str : mg "str" = none
  b_sorted : mg "sorted" = none
def sgn (n : Nat) : Str := ⟨#[97 + n]⟩
theorem ix_abc {i : Int} {Q : D → Prop} (h0 : 0 ≤ i) (h1 : i < 26) (q : Q (.str (sgn i.toNat))) : ixD (.str "abcdefghijklmnopqrstuvwxyz") (.int i) Q := by
  refine ⟨by decide, 97 + i.toNat, ?_, q⟩
  obtain ⟨n, rfl⟩ := Int.eq_ofNat_of_zero_le h0
  have h : n < 26 := by omega
  have all : ∀ n, n < 26 → atI ("abcdefghijklmnopqrstuvwxyz" : Str).cps.toList ((n : Nat) : Int) = some (97 + n) := by decide +kernel
  simpa using all n h
theorem app_len (a b : Str) : (a ++ b).length = a.length + b.length := strLen_append a b
theorem sgn_len (n : Nat) : (sgn n).length = 1 := rfl
theorem spell_len {N m : Nat} {r : Str} (h : letS N = letS m ++ r) : r.length ≤ 15 := by
  have h1 := congrArg Str.length h
  have h2 := digs_len_le 15 N
  rw [app_len, letS_len] at h1
  unfold digs at h1
  omega
theorem spell_step {N m : Nat} {r : Str} (h : 26 ≤ m) (hm : m < 26 ^ 15) (e : letS N = letS m ++ r) : letS N = letS (m / 26) ++ (sgn (m % 26) ++ r) ∧ 1 + (1 + r.length) ≤ sizeLine := by
  refine ⟨by rw [e, letS_step h hm]; exact PySem.Str.append_assoc _ _ _, ?_⟩
  have h1 := spell_len e
  have : (17 : Nat) ≤ sizeLine := by decide
  omega
/-- a spelling, read back -/
def spRead : DSp where
  n := 1
  f := fun ds Q _ => ∃ n : Nat, ds = [.str (letS n)] ∧ n < 26 ^ 15 ∧ Q (.int n)
  len := fun ds Q E ⟨m, e, _⟩ => by rw [e]; rfl
  mono := fun ds Q Q' E E' k _ ⟨m, e, h, q⟩ => ⟨m, e, h, k _ q⟩
def spLet : DSp where
  n := 1
  f := fun ds Q _ => ∃ n : Nat, ds = [.int n] ∧ n < 26 ^ 15 ∧ Q (.str (letS n))
  len := fun ds Q E ⟨m, e, _⟩ => by rw [e]; rfl
  mono := fun ds Q Q' E E' k _ ⟨m, e, h, q⟩ => ⟨m, e, h, k _ q⟩
section
variable {P : Program} {w : World} {K : PySem.W.Frag} {mg : Str → Option Value} {base : Heap} {W : Wd}
theorem ok_letters_of (T : Txt mg) {f : Addr} {fd : FuncData} {k : Nat} (Fn : Fun K "letters_of" "letters_of" s_letters_of f fd) : GnOk P w K mg base CX0 (k + 1) f fd ["number"] (spD W K spLet) := by
  refine Fn.okD sc_letters_of rfl fun cdv A outer s H I ds Q Ed E hr h => ?_
  have hu := hr.units
  obtain ⟨n, rfl, n1, q⟩ := h
  refine ⟨_, (dss_cons (ds_set 1 (de_at (de_gs T.g_LETTERS) (de_mod (de_name 0) (de_gi T.g_MANY))) sc_letters_of.nd)
  (dss_cons (ds_while PassesOwn.never (dt_c .ge (de_name 0) (de_gi T.g_MANY))
  (dss_cons (ds_ifdiv 0 (de_gi T.g_MANY) sc_letters_of.nd)
  (dss_one (ds_set 1 (de_add (de_at (de_gs T.g_LETTERS) (de_mod (de_name 0) (de_gi T.g_MANY))) (de_name 1)) sc_letters_of.nd))))
  (dss_one (ds_ret (de_name 1))))), ?_⟩
  simp only [getD_0, getD_s, set_0, set_s, boolD_bl, intD_int, startD, List.map, List.length_cons, List.length_nil, List.replicate, List.cons_append, List.nil_append, defEnds]
  refine ⟨by decide, ix_abc (by omega) (by omega) ⟨fun m ρ => ∃ r : Str, ρ = [some (.dat (.int (m : Nat))), some (.dat (.str (sgn (m % 26) ++ r)))] ∧ m < 26 ^ 15 ∧ letS n = letS m ++ r, ⟨n, "", ?_, n1, ?_⟩, ?_⟩⟩
  · rw [show ((n : Int) % 26).toNat = n % 26 by omega]; simp [sgn]; rfl
  · exact (PySem.Str.append_empty _).symm
  rintro m ρ ⟨r, rfl, hm, e⟩
  simp only [getD_0, getD_s, set_0, set_s, boolD_bl, intD_int, startD, List.map, List.length_cons, List.length_nil, List.replicate, List.cons_append, List.nil_append, defEnds, geD]
  by_cases hc : 26 ≤ m
  · rw [if_pos (by simp; omega)]
    obtain ⟨e1, r1⟩ := spell_step hc hm e
    refine ⟨⟨by decide, by decide⟩, by decide, ix_abc (by omega) (by omega) ⟨?_, m / 26, by omega, sgn (m % 26) ++ r, ?_, by omega, e1⟩⟩
    · rw [app_len, sgn_len, sgn_len]; exact r1
    · rw [show ((m : Int) / 26 % 26).toNat = m / 26 % 26 by omega]; rfl
  · rw [if_neg (by simp; omega)]
    rw [letS_one (by omega : m < 26)] at e
    rw [show sgn (m % 26) ++ r = letS n by rw [e, sgn, Nat.mod_eq_of_lt (by omega)]]
    exact q
theorem ok_law_letters (T : Txt mg) {f : Addr} {fd : FuncData} {k : Nat} (Fn : Fun K "_law_letters" "_law_letters" s__law_letters f fd) : GnOk P w K mg base CX0 (k + 1) f fd ["_law_own_number"] (spD W K spLet) := by
  refine Fn.okD sc__law_letters rfl fun cdv A outer s H I ds Q Ed E hr h => ?_
  have hu := hr.units
  obtain ⟨n, rfl, n1, q⟩ := h
  refine ⟨_, (dss_cons (ds_set 1 de_str sc__law_letters.nd)
  (dss_cons (ds_set 2 (de_at (de_name 1) (de_mod (de_name 0) de_int)) sc__law_letters.nd)
  (dss_cons (ds_while PassesOwn.never (dt_c .gt (de_name 0) de_int)
  (dss_cons (ds_set 0 (de_fdiv (de_name 0) de_int) sc__law_letters.nd)
  (dss_one (ds_set 2 (de_add (de_at (de_name 1) (de_mod (de_name 0) de_int)) (de_name 2)) sc__law_letters.nd))))
  (dss_one (ds_ret (de_name 2)))))), ?_⟩
  simp only [getD_0, getD_s, set_0, set_s, boolD_bl, intD_int, startD, List.map, List.length_cons, List.length_nil, List.replicate, List.cons_append, List.nil_append, defEnds]
  refine ⟨by decide, ix_abc (by omega) (by omega) ⟨fun m ρ => ∃ r : Str, ρ = [some (.dat (.int (m : Nat))), some (.dat (.str "abcdefghijklmnopqrstuvwxyz")), some (.dat (.str (sgn (m % 26) ++ r)))] ∧ m < 26 ^ 15 ∧ letS n = letS m ++ r, ⟨n, "", ?_, n1, ?_⟩, ?_⟩⟩
  · rw [show ((n : Int) % 26).toNat = n % 26 by omega]; simp [sgn]; rfl
  · exact (PySem.Str.append_empty _).symm
  rintro m ρ ⟨r, rfl, hm, e⟩
  simp only [getD_0, getD_s, set_0, set_s, boolD_bl, intD_int, startD, List.map, List.length_cons, List.length_nil, List.replicate, List.cons_append, List.nil_append, defEnds, gtD]
  by_cases hc : 26 ≤ m
  · rw [if_pos (by simp; omega)]
    obtain ⟨e1, r1⟩ := spell_step hc hm e
    refine ⟨⟨by decide, by decide⟩, by decide, ix_abc (by omega) (by omega) ⟨?_, m / 26, by omega, sgn (m % 26) ++ r, ?_, by omega, e1⟩⟩
    · rw [app_len, sgn_len, sgn_len]; exact r1
    · rw [show ((m : Int) / 26 % 26).toNat = m / 26 % 26 by omega]; rfl
  · rw [if_neg (by simp; omega)]
    rw [letS_one (by omega : m < 26)] at e
    rw [show sgn (m % 26) ++ r = letS n by rw [e, sgn, Nat.mod_eq_of_lt (by omega)]]
    exact q
theorem idx_abc {d : Nat} (h : d < 26) : Txt.index0 "abcdefghijklmnopqrstuvwxyz" (sgn d) = some d := by
  have all : ∀ d, d < 26 → Txt.index0 "abcdefghijklmnopqrstuvwxyz" (sgn d) = some d := by decide +kernel
  exact all d h
theorem ok_law_read (T : Txt mg) {f : Addr} {fd : FuncData} {k : Nat} (Fn : Fun K "_law_read" "_law_read" s__law_read f fd) : GnOk P w K mg base CX0 (k + 1) f fd ["_law_text"] (spD W K spRead) := by
  refine Fn.okD sc__law_read rfl fun cdv A outer s H I ds Q Ed E hr h => ?_
  have hu := hr.units
  obtain ⟨n, rfl, n1, q⟩ := h
  refine ⟨_, (dss_cons (ds_set 1 de_int sc__law_read.nd)
  (dss_cons (ds_for PassesOwn.never rfl (di_seq (de_name 0)) (dg_name 2 sc__law_read.nd)
  (dss_one (ds_set 1 (de_add (de_mul de_int (de_name 1)) (de_sindex rfl takes0 de_str (de_name 2))) sc__law_read.nd)))
  (dss_one (ds_ret (de_name 1))))), ?_⟩
  simp only [getD_0, getD_s, set_0, set_s, boolD_bl, intD_int, startD, List.map, List.length_cons, List.length_nil, List.replicate, List.cons_append, List.nil_append, defEnds, itemsD, strD]
  have e : sgnD (letS n) = (digs n).map fun d => D.str (sgn d) := by
    unfold sgnD
    rw [letS_list, List.map_map]
    rfl
  rw [e]
  refine forD_ind (fun ds ρ => ∃ (pre post : List Nat) (u : Option Ent), digs n = pre ++ post ∧ ds = post.map (fun d => D.str (sgn d)) ∧ ρ = [some (.dat (.str (letS n))), some (.dat (.int (val pre))), u]) ?_ ?_ _ _ ⟨[], digs n, none, rfl, rfl, rfl⟩
  · rintro ρ ⟨pre, post, u, h1, h2, rfl⟩
    obtain rfl : post = [] := by simpa using h2.symm
    rw [List.append_nil] at h1
    simp only [getD_0, getD_s, set_0, set_s, boolD_bl, intD_int, startD, List.map, List.length_cons, List.length_nil, List.replicate, List.cons_append, List.nil_append, defEnds]
    rw [← h1, show val (digs n) = n from digs_val 15 n n1]
    exact q
  · rintro d ds ρ R ⟨pre, post, u, h1, h2, rfl⟩ hR
    cases post with
    | nil => simp at h2
    | cons c post =>
      simp only [List.map_cons, List.cons.injEq] at h2
      obtain ⟨rfl, rfl⟩ := h2
      simp only [getD_0, getD_s, set_0, set_s, boolD_bl, intD_int, startD, List.map, List.length_cons, List.length_nil, List.replicate, List.cons_append, List.nil_append, defEnds]
      have hc : c < 26 := digs_small 15 n c (by show c ∈ digs n; rw [h1]; simp)
      refine ⟨.inl ⟨by decide, by decide⟩, _, rfl, _, c, rfl, idx_abc hc, ?_⟩
      refine hR _ ⟨pre ++ [c], post, some (.dat (.str (sgn c))), by rw [h1]; simp, rfl, ?_⟩
      rw [val_snoc]
      simp
end
end K07

namespace K07
open PySem L2 Dk
open PyProof.Rows (envOfC)
def spLaw (K : PySem.W.Frag) : Sp := fun vs H Q _ => ∃ (a : Addr) (ns : List Int), vs = [.ref a] ∧ SqL K H a (ns.map V.int) ∧ ns.length ≤ 63 ∧ ∀ H', Q (.bl true) H'
def toldD (n : Nat) : D := .tup [.int (letS n).length, .str (letS n)]
def rowD (n : Nat) : D := .tup [.int n, toldD n]
theorem okTold (n : Nat) : OkN 1 (toldD n) := okN_tup (k := 0) fun x hx => by
  simp only [List.mem_cons, List.not_mem_nil, or_false] at hx
  rcases hx with rfl | rfl
  · exact okN_int _
  · refine okN_str ?_
    unfold PyData.strOk
    rw [← Array.all_toList, letS_list]
    simp only [List.all_map, List.all_eq_true]
    intro d hd
    have := digs_small 15 n d hd
    simp only [Function.comp_apply, decide_eq_true_eq]
    omega
theorem alike_told (n m : Nat) : PySem.W.alike (toPy (toldD n)) (toPy (toldD m)) = true := by simp [toldD, toPy, toPys, PySem.W.alike, PySem.W.alikeAll]
theorem allAlike_told (ms : List Nat) : PySem.W.AllAlike ((ms.map toldD).map toPy) := by
  rw [List.map_map]
  exact PySem.W.AllAlike.of (enc := toPy ∘ toldD) alike_told
theorem allAlike_rows (ms : List Nat) : PySem.W.AllAlike ((ms.map rowD).map toPy) := by
  rw [List.map_map]
  refine PySem.W.AllAlike.of (enc := toPy ∘ rowD) fun n m => ?_
  have := alike_told n m
  simp only [Function.comp_apply, rowD, toPy, toPys, PySem.W.alike, PySem.W.alikeAll, this, Bool.and_self]
theorem eqv_int (x y : Int) : PyData.eqv (.int x) (.int y) = decide (x = y) := by simp [PyData.eqv]; rfl
theorem eqv_str (x y : Str) : PyData.eqv (.str x) (.str y) = decide (x = y) := by simp [PyData.eqv]; rfl
theorem lt_told {n m : Nat} (hn : n < 26 ^ 15) (hm : m < 26 ^ 15) : PySem.W.dataLt (toPy (toldD n)) (toPy (toldD m)) = decide (n < m) := by
  have e : ∀ n, toPy (toldD n) = .tuple [.int (letS n).length, .str (letS n)] := fun n => by simp [toldD, toPy, toPys]
  rw [e, e, PySem.W.dataLt_pair (by simp [PySem.W.alike]) (by simp [PySem.W.alike]), eqv_int, eqv_str, PySem.W.dataLt_str, PySem.W.dataLt_int]
  by_cases hl : (letS n).length = (letS m).length
  · rw [if_pos (by simp [hl])]
    by_cases hs : letS n = letS m
    · rw [if_pos (by simp [hs])]
      have := letS_inj hn hm hs
      simp [this]
    · rw [if_neg (by simp [hs])]
      exact letS_lt hn hm hl fun h => hs (by rw [h])
  · rw [if_neg (by simp; omega)]
    rw [← letS_short hn hm hl]
    simp
theorem le_told {n m : Nat} (hn : n < 26 ^ 15) (hm : m < 26 ^ 15) : PySem.W.dataLe false toPy (toldD n) (toldD m) = decide (n ≤ m) := by
  show (!PySem.W.dataLt (toPy (toldD m)) (toPy (toldD n))) = _
  rw [lt_told hm hn]
  by_cases h : n ≤ m
  · simp [h]
  · simp [h]; omega
theorem le_rows {n m : Nat} (hn : n < 26 ^ 15) (hm : m < 26 ^ 15) : PySem.W.dataLe false toPy (rowD n) (rowD m) = decide (n ≤ m) := by
  show (!PySem.W.dataLt (toPy (rowD m)) (toPy (rowD n))) = _
  have e : ∀ n, toPy (rowD n) = .tuple [.int n, toPy (toldD n)] := fun n => by simp [rowD, toPy, toPys]
  rw [e, e, PySem.W.dataLt_pair (by simp [PySem.W.alike]) (alike_told m n), eqv_int, PySem.W.dataLt_int, lt_told hm hn]
  by_cases h1 : n = m
  · subst h1
    simp
  · rw [if_neg (by simp; omega)]
    by_cases h : n ≤ m
    · simp [h]
    · simp [h]; omega
section
variable {P : Program} {w : World} {K : PySem.W.Frag} {mg : Str → Option Value} {base : Heap} {W : Wd}
theorem ok_law (T : Txt mg) {f : Addr} {fd : FuncData} (Fn : Fun K "law" "law" s_law f fd)
    {fK : Addr} {fdK : FuncData} (GK : GnOk P w K mg base CX0 1 fK fdK ["_law_script"] (spDeck K)) (mK : mg "_law_deck" = some (.ref fK)) (kK : PySem.W.keepIn K (.ref fK) = true) (bK : Binds K fdK ["_law_script"] [])
    (CD : ∀ p l, Cal P w K mg base CX0 (DeckW p l) 1 "_law_draw" ["_law_deck_here", "_law_most"] (spDraw p))
    (C1 : ∀ W, Cal P w K mg base CX0 W 1 "letters_of" ["number"] spLet) (C1K : ∀ W, CalK P w K mg base CX0 W 1 "letters_of" ["number"] ["number"] (fun l => l) spLet)
    (C2 : ∀ W, Cal P w K mg base CX0 W 1 "_law_letters" ["_law_own_number"] spLet) (C3 : ∀ W, Cal P w K mg base CX0 W 1 "_law_read" ["_law_text"] spRead) : GnOk P w K mg base CX0 2 f fd ["_law_script"] (spLaw K) := by
  refine Fn.gn sc_law (fun vs H Q E h => ?_) fun cdv A outer s H vs Q E hr h => ?_
  · obtain ⟨a, ns, rfl, _⟩ := h
    rfl
  have hu := hr.units
  obtain ⟨a, ns, rfl, hS, h63, q⟩ := h
  refine ⟨_, PSs.nox (pss_cons (ps_set (i := 1) sc_law.nd rfl (.inl rfl) (gn_call GK hr rfl mK kK bK .nil pass0 (pa_cons (pv 0) pa_nil) (by decide) rfl rfl)) (pss_any (F := fun i : Addr × Addr × Hp × Hp => ⟨DeckW i.1 i.2.1, i.2.2.1, i.2.2.2⟩) (fun i => by
    have C_letters_of := C1 (DeckW i.1 i.2.1)
    have CK_letters_of := C1K (DeckW i.1 i.2.1)
    have C__law_letters := C2 (DeckW i.1 i.2.1)
    have C__law_read := C3 (DeckW i.1 i.2.1)
    exact (dss_cons (ds_set 2 (de_add (de_listRg1 rfl T.b_list T.b_range de_int) (de_lst (da_cons de_int (da_cons de_int (da_cons de_int (da_cons de_int (da_cons de_int (da_cons de_int (da_cons de_int (da_cons de_int (da_cons de_int (da_cons de_int (da_cons (de_sub (de_pow de_int de_int) de_int) (da_cons (de_pow de_int de_int) da_nil)))))))))))))) sc_law.nd)
  (dss_cons (ds_for PassesOwn.never rfl (di_range1 T.b_range (da_cons de_int da_nil)) (dg_name 3 sc_law.nd)
  (dss_one (ds_set 2 (de_add (de_name 2) (de_lst (da_cons (de_fn (CD i.1 i.2.1) (hr.mono (by omega)) pass0 lets0 (da_cons (de_name 1) (da_cons de_int da_nil))) (da_cons (de_fn (CD i.1 i.2.1) (hr.mono (by omega)) pass0 lets0 (da_cons (de_name 1) (da_cons (de_pow de_int de_int) da_nil))) (da_cons (de_fn (CD i.1 i.2.1) (hr.mono (by omega)) pass0 lets0 (da_cons (de_name 1) (da_cons (de_pow de_int de_int) da_nil))) da_nil))))) sc_law.nd)))
  (dss_cons (ds_set 4 (de_lst (da_cons (de_fn C_letters_of (hr.mono (by omega)) pass0 lets0 (da_cons de_int da_nil)) (da_cons (de_fn C_letters_of (hr.mono (by omega)) pass0 lets0 (da_cons de_int da_nil)) (da_cons (de_fn C_letters_of (hr.mono (by omega)) pass0 lets0 (da_cons de_int da_nil)) (da_cons (de_fn C_letters_of (hr.mono (by omega)) pass0 lets0 (da_cons de_int da_nil)) (da_cons (de_fn C_letters_of (hr.mono (by omega)) pass0 lets0 (da_cons de_int da_nil)) da_nil)))))) sc_law.nd)
  (dss_cons (ds_if (dt_c (.ne hu) (de_repr T.b_repr hr.gd hu (da_cons (de_name 4) da_nil)) (de_repr T.b_repr hr.gd hu (da_cons (de_lst (da_cons de_str (da_cons de_str (da_cons de_str (da_cons de_str (da_cons de_str da_nil)))))) da_nil)))
  (dss_one (ds_ret de_bl))
  dss_nil)
  (dss_cons (ds_own 5 da_nil sc_law.nd)
  (dss_cons (ds_for PassesOwn.never rfl (di_seq (de_add (de_name 2) (de_slice (de_name 2) do_none (do_some de_int)))) (dg_name 6 sc_law.nd)
  (dss_cons (ds_set 7 (de_fn C_letters_of (hr.mono (by omega)) pass0 lets0 (da_cons (de_name 6) da_nil)) sc_law.nd)
  (dss_cons (ds_if (dt_wh (dw_or (dt_not (dt_val (de_isi is_str T.b_isinstance T.b_str (by decide +kernel) (de_name 7)))) (dw_or (dt_c (.ne hu) (de_name 7) (de_fn C__law_letters (hr.mono (by omega)) pass0 lets0 (da_cons (de_name 6) da_nil))) (dw_or1 (dt_c (.ne hu) (de_fnK CK_letters_of (hr.mono (by omega)) pass0 lets0 (dk_cons (de_name 6) dk_nil)) (de_name 7))))))
  (dss_one (ds_ret de_bl))
  dss_nil)
  (dss_cons (ds_if (dt_wh (dw_or (dt_c (.ne hu) (de_fn C__law_read (hr.mono (by omega)) pass0 lets0 (da_cons (de_name 7) da_nil)) (de_name 6)) (dw_or1 (dt_wh (dw_and (dt_c (.eq hu) (de_at (de_name 7) de_int) de_str) (dw_and1 (dt_c (.ne hu) (de_name 6) de_int)))))))
  (dss_one (ds_ret de_bl))
  dss_nil)
  (dss_one (ds_append 5 (de_tup (da_cons (de_name 6) (da_cons (de_tup (da_cons (de_len T.b_len (da_cons (de_name 7) da_nil)) (da_cons (de_name 7) da_nil))) da_nil)))))))))
  (dss_freeze 5
  (dss_one (ds_ret (de_c (.eq hu) (de_lc (own := [("_law_own_number", 6), ("_law_told", 8)]) rfl sc_law.nd (di_seq (de_sorted T.b_sorted hu (da_cons (de_name 5) da_nil))) (blkOk_by (own := [("_law_own_number", 6), ("_law_told", 8)]) (N := ["_law_script", "_law_deck_here", "_law_numbers", "_law_turn", "_law_fixed", "_law_rows", "_law_own_number", "_law_text", "_law_told"]) (sc := defScope s_law) (by decide +kernel)) (fun _ _ _ _ _ => (dg_tup (n := 2) rfl (dgs_cons (dg_name 6 sc_law.nd) (dgs_cons (dg_name 8 sc_law.nd) dgs_nil)))) (fun _ _ _ _ _ => dif_nil) (fun _ _ _ _ _ => (de_name 8))) (de_sorted T.b_sorted hu (da_cons (de_lc (own := [("_law_own_number", 6), ("_law_told", 8)]) rfl sc_law.nd (di_seq (de_name 5)) (blkOk_by (own := [("_law_own_number", 6), ("_law_told", 8)]) (N := ["_law_script", "_law_deck_here", "_law_numbers", "_law_turn", "_law_fixed", "_law_rows", "_law_own_number", "_law_text", "_law_told"]) (sc := defScope s_law) (by decide +kernel)) (fun _ _ _ _ _ => (dg_tup (n := 2) rfl (dgs_cons (dg_name 6 sc_law.nd) (dgs_cons (dg_name 8 sc_law.nd) dgs_nil)))) (fun _ _ _ _ _ => dif_nil) (fun _ _ _ _ _ => (de_name 8))) da_nil))))))))))))))), ?_⟩
  refine ⟨_, rfl, a, ns, rfl, hS, h63, fun p l H' sm np nl dk => ?_⟩
  refine ⟨(p, l, H', fun _ => none), fun _ => none, _, at_deck (σ := [some (.ref a), some (.ref p), none, none, none, none, none, none, none]) 1 dk rfl, ?_⟩
  generalize hZ : ends _ _ _ _ = Z
  have hq : Z.rt (.bl true) := by
    rw [← hZ]
    intro v I' H'' _ rv
    cases rv
    exact q _
  clear hZ
  simp only [getD_0, getD_s, set_0, set_s, boolD_bl, intD_int, startD, List.map, List.length_cons, List.length_nil, List.replicate, List.cons_append, List.nil_append, defEnds, wipeD]
  refine ⟨⟨by decide, by decide, by decide⟩, ⟨by decide, by decide, by decide⟩, ⟨by decide, by decide, by decide⟩, by decide, by decide, 6, rfl, by decide, by decide, ?_⟩
  refine forD_ind (fun ds ρ => ∃ (ns : List Nat) (u : Option Ent), ρ = [none, some (.dat (.opq p)), some (.dat (.lst (ns.map fun n => D.int (n : Nat)))), u, none, none, none, none, none] ∧ (∀ n ∈ ns, n < 26 ^ 15) ∧ ns.length + 3 * ds.length = 60) ?_ ?_ _ _ ⟨List.range 30 ++ [51, 52, 53, 675, 676, 677, 702, 17575, 17576, 17577, 26 ^ 5 - 1, 26 ^ 5], none, by rfl, by decide, by decide⟩
  rotate_left
  · rintro d ds ρ R ⟨ns, u, rfl, hn, hl⟩ hR
    simp only [getD_0, getD_s, set_0, set_s, boolD_bl, intD_int, startD, List.map, List.length_cons, List.length_nil, List.replicate, List.cons_append, List.nil_append, defEnds]
    simp only [List.length_cons] at hl
    refine ⟨1000, rfl, by decide, by decide, fun v1 a1 b1 => ⟨⟨by decide, by decide, by decide⟩, _, rfl, by decide, by decide, fun v2 a2 b2 => ⟨⟨by decide, by decide, by decide⟩, _, rfl, by decide, by decide, fun v3 a3 b3 => ⟨by decide, ?_, ?_⟩⟩⟩⟩
    · rw [List.length_map]
      exact Nat.le_trans (show _ ≤ 1000 by simp; omega) (by decide)
    refine hR _ ⟨ns ++ [v1.toNat, v2.toNat, v3.toNat], some (.dat d), ?_, fun n h => ?_, by simp; omega⟩
    · simp [Int.toNat_of_nonneg a1, Int.toNat_of_nonneg a2, Int.toNat_of_nonneg a3]
    · have b2 : v2 < 10 ^ 6 := b2
      have b3 : v3 < 10 ^ 20 := b3
      rcases List.mem_append.mp h with h | h
      · exact hn n h
      · simp at h
        omega
  rintro ρ ⟨ns, u, rfl, hn, hl⟩
  simp only [getD_0, getD_s, set_0, set_s, boolD_bl, intD_int, startD, List.map, List.length_cons, List.length_nil, List.replicate, List.cons_append, List.nil_append, defEnds]
  refine ⟨0, rfl, by decide, 25, rfl, by decide, 26, rfl, by decide, 27, rfl, by decide, 676, rfl, by decide, by decide, ?_⟩
  have e0 : letS 0 = "a" := by decide +kernel
  have e1 : letS 25 = "z" := by decide +kernel
  have e2 : letS 26 = "ba" := by decide +kernel
  have e3 : letS 27 = "bb" := by decide +kernel
  have e4 : letS 676 = "baa" := by decide +kernel
  rw [e0, e1, e2, e3, e4]
  refine ⟨rfl, rfl, by decide +kernel, by decide +kernel, by decide, rfl, rfl, by decide +kernel, by decide +kernel, ?_⟩
  simp only [neD_str, getD_0, getD_s, set_0, set_s, boolD_bl, intD_int, startD, List.map, List.length_cons, List.length_nil, List.replicate, List.cons_append, List.nil_append, defEnds, decide_true, Bool.not_true, Bool.false_eq_true, if_false]
  refine ⟨by decide, ?_⟩
  have h3 : cutD (ns.map fun n => D.int (n : Nat)) none (some 3) = (ns.take 3).map fun n => D.int (n : Nat) := by
    unfold cutD
    rw [HT.sIx_none, List.drop_zero, show HT.sIx (ns.map fun n => D.int (n : Nat)).length (ns.map fun n => D.int (n : Nat)).length (some 3) = min 3 (ns.map fun n => D.int (n : Nat)).length from HT.sIx_nat _ _ 3]
    simp at hl
    rw [List.length_map, hl]
    simp [List.map_take]
  simp only [sliceD, h3, addD]
  refine ⟨by simp at hl ⊢; exact Nat.le_trans (show _ ≤ 1000 by omega) (by decide), ?_⟩
  rw [← List.map_append]
  have hn2 : ∀ n ∈ ns ++ ns.take 3, n < 26 ^ 15 := fun n h => (List.mem_append.mp h).elim (hn n) fun h => hn n (List.mem_of_mem_take h)
  have hl2 : (ns ++ ns.take 3).length ≤ 1000 := by simp at hl ⊢; omega
  generalize ns ++ ns.take 3 = ms at hn2 hl2
  simp only [itemsD]
  refine forD_ind (fun ds ρ => ∃ (pre post : List Nat) (f6 u7 u8 : Option Ent), ms = pre ++ post ∧ ds = post.map (fun n => D.int (n : Nat)) ∧ ρ = [none, some (.dat (.opq p)), some (.dat (.lst (ns.map fun n => D.int (n : Nat)))), u, some (Ent.dat (D.lst [D.str "a", D.str "z", D.str "ba", D.str "bb", D.str "baa"])), some (.own (pre.map rowD)), f6, u7, u8]) ?_ ?_ _ _ ⟨[], ms, none, none, none, rfl, rfl, rfl⟩
  rotate_left
  · rintro d ds ρ R ⟨pre, post, f6, u7, u8, e, e', rfl⟩ hR
    cases post with
    | nil => simp at e'
    | cons n post =>
      simp only [List.map_cons, List.cons.injEq] at e'
      obtain ⟨rfl, rfl⟩ := e'
      have hb := hn2 n (by rw [e]; simp)
      simp only [getD_0, getD_s, set_0, set_s, boolD_bl, intD_int, startD, List.map, List.length_cons, List.length_nil, List.replicate, List.cons_append, List.nil_append, defEnds]
      refine ⟨n, rfl, hb, ?_⟩
      simp only [getD_0, getD_s, set_0, set_s, boolD_bl, intD_int, startD, List.map, List.length_cons, List.length_nil, List.replicate, List.cons_append, List.nil_append, defEnds, known, tyN, isStr, Option.isSome_some, Bool.not_true, Bool.false_eq_true, if_false]
      refine ⟨trivial, n, rfl, hb, ?_⟩
      simp only [neD_str, decide_true, Bool.not_true, Bool.false_eq_true, if_false, getD_0, getD_s, set_0, set_s, boolD_bl, intD_int, startD, List.map, List.length_cons, List.length_nil, List.replicate, List.cons_append, List.nil_append, defEnds]
      refine ⟨trivial, n, rfl, hb, ?_⟩
      simp only [neD_str, decide_true, Bool.not_true, Bool.false_eq_true, if_false, getD_0, getD_s, set_0, set_s, boolD_bl, intD_int, startD, List.map, List.length_cons, List.length_nil, List.replicate, List.cons_append, List.nil_append, defEnds]
      refine ⟨n, rfl, hb, ?_⟩
      simp only [neD_int, decide_true, Bool.not_true, Bool.false_eq_true, if_false, getD_0, getD_s, set_0, set_s, boolD_bl, intD_int, startD, List.map, List.length_cons, List.length_nil, List.replicate, List.cons_append, List.nil_append, defEnds]
      obtain ⟨c, hc, hx⟩ : ∃ c, (letS n).cps.toList[0]? = some c ∧ ((⟨#[c]⟩ : Str) = "a" → n = 0) := by
        by_cases hz : n = 0
        · subst hz
          exact ⟨97, by decide +kernel, fun _ => rfl⟩
        · obtain ⟨c, h1, h2⟩ := letS_head hz hb
          refine ⟨c, h1, fun e => absurd ?_ h2⟩
          have e2 := congrArg (fun z : Str => z.cps.toList) e
          have e3 : ("a" : Str).cps.toList = [97] := by decide +kernel
          simp only [e3] at e2
          simpa using e2
      have lenS : (letS n).length ≤ 15 := by rw [letS_len]; exact digs_len_le 15 n
      refine ⟨Nat.le_trans lenS (by decide), c, atI_nat (j := 0) hc, ?_⟩
      simp only [eqD_str, getD_0, getD_s, set_0, set_s, boolD_bl, intD_int, startD, List.map, List.length_cons, List.length_nil, List.replicate, List.cons_append, List.nil_append, defEnds]
      by_cases ha : (⟨#[c]⟩ : Str) = "a"
      rw [if_pos (by simpa using ha), if_neg (by simp [hx ha])]
      rotate_left
      rw [if_neg (by simpa using ha)]
      all_goals
        refine ⟨_, rfl, Nat.le_trans lenS (by decide), by decide, by decide, ?_, hR _ ⟨pre ++ [n], post, _, _, _, by rw [e]; simp, rfl, by rw [List.map_append]; rfl⟩⟩
        rw [List.length_map]
        have := congrArg List.length e
        rw [List.length_append] at this
        exact Nat.lt_of_le_of_lt (show pre.length ≤ 1000 by omega) (by decide)
  · rintro ρ ⟨pre, post, f6, u7, u8, e, e', rfl⟩
    obtain rfl : post = [] := by simpa using e'.symm
    rw [List.append_nil] at e
    subst e
    have small : ms.length ≤ sizeLine := Nat.le_trans hl2 (by decide)
    have okRow : ∀ n : Nat, OkN 2 (rowD n) := fun n => okN_tup (k := 1) fun x hx => by
      simp only [List.mem_cons, List.not_mem_nil, or_false] at hx
      rcases hx with rfl | rfl
      · exact (okN_int _).mono (by decide)
      · exact okTold n
    refine ⟨_, rfl, ?_⟩
    simp only [getD_0, getD_s, set_0, set_s, boolD_bl, intD_int, startD, List.map, List.length_cons, List.length_nil, List.replicate, List.cons_append, List.nil_append, defEnds, sortedD]
    refine ⟨(okNs (k := 2) fun x hx => ?_).1, allAlike_rows ms, .inl fun d hd => ?_, by rw [List.length_map]; exact small, fun x hx => ?_, ?_⟩
    · obtain ⟨n, _, rfl⟩ := List.mem_map.mp hx
      exact okRow n
    · rw [List.map_map] at hd
      obtain ⟨n, _, rfl⟩ := List.mem_map.mp hd
      exact ⟨.int n, [toPy (toldD n)], by simp [rowD, toPy, toPys]⟩
    · obtain ⟨n, _, rfl⟩ := List.mem_map.mp hx
      exact Nat.le_trans (okRow n).dp (by decide)
    have s1 : (ms.map rowD).mergeSort (PySem.W.dataLe false toPy) = (ms.mergeSort fun a b => decide (a ≤ b)).map rowD := (PySem.W.sort_maps rowD fun a ha b hb => (le_rows (hn2 a ha) (hn2 b hb)).symm).symm
    have s2 : (ms.map toldD).mergeSort (PySem.W.dataLe false toPy) = (ms.mergeSort fun a b => decide (a ≤ b)).map toldD := (PySem.W.sort_maps toldD fun a ha b hb => (le_told (hn2 a ha) (hn2 b hb)).symm).symm
    have take : ∀ (ρ : DEnv) (a : Nat) (R : D → Prop) (S : Prop), 9 = ρ.length → R (toldD a) → (∃ ds, rowD a = D.tup ds ∧ ds.length = 2 ∧ ∃ d r, ds = d :: r ∧ ∃ d_1 r_1, r = d_1 :: r_1 ∧ r_1 = [] ∧ if true = true then getD ((List.set ρ 6 (some (Ent.dat d))).set 8 (some (Ent.dat d_1))) 8 R else S) := by
      intro ρ a R S hρ h
      refine ⟨_, rfl, rfl, _, _, rfl, _, _, rfl, rfl, ?_⟩
      rw [if_pos rfl]
      exact ⟨_, by rw [List.getElem?_set]; simp [← hρ], h⟩
    rw [s1]
    refine ⟨by rw [List.length_map, List.length_mergeSort]; exact small, lcD_all rowD toldD (fun a _ R S h => take _ a R S rfl h) ?_⟩
    refine ⟨by rw [List.length_map]; exact small, lcD_all rowD toldD (fun a _ R S h => take _ a R S rfl h) ?_⟩
    refine ⟨(okNs (k := 1) fun x hx => ?_).1, allAlike_told ms, .inl fun d hd => ?_, by rw [List.length_map]; exact small, fun x hx => ?_, ?_⟩
    · obtain ⟨n, _, rfl⟩ := List.mem_map.mp hx
      exact okTold n
    · rw [List.map_map] at hd
      obtain ⟨n, _, rfl⟩ := List.mem_map.mp hd
      exact ⟨.int (letS n).length, [.str (letS n)], by simp [toldD, toPy, toPys]⟩
    · obtain ⟨n, _, rfl⟩ := List.mem_map.mp hx
      exact Nat.le_trans (okTold n).dp (by decide)
    rw [s2]
    refine OkN.eqD (k := 2) (okN_lst fun x hx => ?_) (by decide) hq
    obtain ⟨n, _, rfl⟩ := List.mem_map.mp hx
    exact okTold n
end
end K07

namespace K07
open PySem L2 Dk PySem.Spec PyProof.Rows
theorem all_mk {l : PySem.W.OpenLaw} {w : World} {K : PySem.W.Frag} {h : Heap} {mg : Str → Option Value} {fa : Addr} (X : K.In h) (G : h.Ns mainGlobals mg) (hfa : mg "law" = some (.ref fa))
    {f1 : Addr} {od1 an1 : Option Addr} {sl1 : Array (Option Value)} {oc1 kV1 dc1 pm1 cd1 ct1 : Value}
    {f2 : Addr} {od2 an2 : Option Addr} {sl2 : Array (Option Value)} {oc2 kV2 dc2 pm2 cd2 ct2 : Value}
    {f3 : Addr} {od3 an3 : Option Addr} {sl3 : Array (Option Value)} {oc3 kV3 dc3 pm3 cd3 ct3 : Value}
    {f4 : Addr} {od4 an4 : Option Addr} {sl4 : Array (Option Value)} {oc4 kV4 dc4 pm4 cd4 ct4 : Value}
    {f5 : Addr} {od5 an5 : Option Addr} {sl5 : Array (Option Value)} {oc5 kV5 dc5 pm5 cd5 ct5 : Value}
    {f6 : Addr} {od6 an6 : Option Addr} {sl6 : Array (Option Value)} {oc6 kV6 dc6 pm6 cd6 ct6 : Value}
    {t1 : Tok}
    {t2 : Tok}
    (a1 : PySem.W.nsIn K mainGlobals "letters_of" = some (some (.ref f1))) (l1 : K.lookup f1 = some ⟨oc1, od1, .func (PySem.W.fnOf "letters_of" "letters_of" (defArgs s_letters_of) (defBody s_letters_of) (defScope s_letters_of) .none kV1 dc1 pm1 an1 cd1 ct1), sl1⟩) (c1 : PySem.W.codeIn K cd1 "letters_of" = true) (k1 : PySem.W.keepIn K (.ref f1) = true)
    (a2 : PySem.W.nsIn K mainGlobals "_law_deck" = some (some (.ref f2))) (l2 : K.lookup f2 = some ⟨oc2, od2, .func (PySem.W.fnOf "_law_deck" "_law_deck" (defArgs s__law_deck) (defBody s__law_deck) (defScope s__law_deck) .none kV2 dc2 pm2 an2 cd2 ct2), sl2⟩) (c2 : PySem.W.codeIn K cd2 "_law_deck" = true) (k2 : PySem.W.keepIn K (.ref f2) = true)
    (a3 : PySem.W.nsIn K mainGlobals "_law_draw" = some (some (.ref f3))) (l3 : K.lookup f3 = some ⟨oc3, od3, .func (PySem.W.fnOf "_law_draw" "_law_draw" (defArgs s__law_draw) (defBody s__law_draw) (defScope s__law_draw) .none kV3 dc3 pm3 an3 cd3 ct3), sl3⟩) (c3 : PySem.W.codeIn K cd3 "_law_draw" = true) (k3 : PySem.W.keepIn K (.ref f3) = true)
    (a4 : PySem.W.nsIn K mainGlobals "_law_letters" = some (some (.ref f4))) (l4 : K.lookup f4 = some ⟨oc4, od4, .func (PySem.W.fnOf "_law_letters" "_law_letters" (defArgs s__law_letters) (defBody s__law_letters) (defScope s__law_letters) .none kV4 dc4 pm4 an4 cd4 ct4), sl4⟩) (c4 : PySem.W.codeIn K cd4 "_law_letters" = true) (k4 : PySem.W.keepIn K (.ref f4) = true)
    (a5 : PySem.W.nsIn K mainGlobals "_law_read" = some (some (.ref f5))) (l5 : K.lookup f5 = some ⟨oc5, od5, .func (PySem.W.fnOf "_law_read" "_law_read" (defArgs s__law_read) (defBody s__law_read) (defScope s__law_read) .none kV5 dc5 pm5 an5 cd5 ct5), sl5⟩) (c5 : PySem.W.codeIn K cd5 "_law_read" = true) (k5 : PySem.W.keepIn K (.ref f5) = true)
    (a6 : PySem.W.nsIn K mainGlobals "law" = some (some (.ref f6))) (l6 : K.lookup f6 = some ⟨oc6, od6, .func (PySem.W.fnOf "law" "law" (defArgs s_law) (defBody s_law) (defScope s_law) .none kV6 dc6 pm6 an6 cd6 ct6), sl6⟩) (c6 : PySem.W.codeIn K cd6 "law" = true) (k6 : PySem.W.keepIn K (.ref f6) = true)
    (g1 : PySem.W.nsIn K mainGlobals "LETTERS" = some (some (.str "abcdefghijklmnopqrstuvwxyz" t1)))
    (g2 : PySem.W.nsIn K mainGlobals "MANY" = some (some (.int (26) t2)))
    (z1 : PySem.W.nsIn K mainGlobals "list" = some none)
    (z2 : PySem.W.nsIn K mainGlobals "sum" = some none)
    (z3 : PySem.W.nsIn K mainGlobals "len" = some none)
    (z4 : PySem.W.nsIn K mainGlobals "range" = some none)
    (z5 : PySem.W.nsIn K mainGlobals "repr" = some none)
    (z6 : PySem.W.nsIn K mainGlobals "isinstance" = some none)
    (z7 : PySem.W.nsIn K mainGlobals "str" = some none)
    (z8 : PySem.W.nsIn K mainGlobals "sorted" = some none) :
    ∃ fd : FuncData, (∀ (s : Shared) (v : Value), BindsTo s fd ⟨[v], []⟩ [("_law_script", v)]) ∧ ∀ base : Heap, K.In base → base.Ns mainGlobals mg → GnOk l.prog w K mg base CX0 2 fa fd ["_law_script"] (spLaw K) := by
  have F_letters_of := fun_mk (st := s_letters_of) l1 c1 k1
  have m_letters_of := PySem.W.mg_of X G a1
  have F__law_deck := fun_mk (st := s__law_deck) l2 c2 k2
  have m__law_deck := PySem.W.mg_of X G a2
  have F__law_draw := fun_mk (st := s__law_draw) l3 c3 k3
  have m__law_draw := PySem.W.mg_of X G a3
  have F__law_letters := fun_mk (st := s__law_letters) l4 c4 k4
  have m__law_letters := PySem.W.mg_of X G a4
  have F__law_read := fun_mk (st := s__law_read) l5 c5 k5
  have m__law_read := PySem.W.mg_of X G a5
  have F_law := fun_mk (st := s_law) l6 c6 k6
  have m_law := PySem.W.mg_of X G a6
  have T : Txt mg := ⟨⟨t1, PySem.W.mg_of X G g1⟩, ⟨t2, PySem.W.mg_of X G g2⟩, PySem.W.mg_none_of X G z1, PySem.W.mg_none_of X G z2, PySem.W.mg_none_of X G z3, PySem.W.mg_none_of X G z4, PySem.W.mg_none_of X G z5, PySem.W.mg_none_of X G z6, PySem.W.mg_none_of X G z7, PySem.W.mg_none_of X G z8⟩
  have e := hfa.symm.trans m_law
  cases e
  refine ⟨PySem.W.fnOf "law" "law" (defArgs s_law) (defBody s_law) (defScope s_law) .none kV6 dc6 pm6 an6 cd6 ct6, fun s v => .of_eq rfl, fun base _ _ => ?_⟩
  refine ok_law T F_law (ok_deck F__law_deck T.b_list T.b_sum T.b_len).gn m__law_deck k2 (F__law_deck.binds bd__law_deck)
    (fun p l => Cal.of F__law_draw (ok_draw F__law_draw).gn m__law_draw bd__law_draw)
    (fun W => Cal.of F_letters_of (ok_letters_of T F_letters_of) m_letters_of bd_letters_of)
    (fun W => CalK.of F_letters_of (ok_letters_of T F_letters_of) m_letters_of (fun r => r) (fun r => r) bk_letters_of)
    (fun W => Cal.of F__law_letters (ok_law_letters T F__law_letters) m__law_letters bd__law_letters)
    (fun W => Cal.of F__law_read (ok_law_read T F__law_read) m__law_read bd__law_read)
end K07
open PySem PySem.W PyProof.Rows
set_option maxRecDepth 100000 in
set_option maxHeartbeats 0 in
theorem PySem.Challenge.cw_dressedkinds_k07_numbers_in_letters_holds : PySem.Challenge.rw_dressedkinds_k07_numbers_in_letters.Holds := by
  w_on; o_law; k_head; (case hw => w_witness2)
  k_fill
  refine Dk.walk_gn (l := PySem.Challenge.rw_dressedkinds_k07_numbers_in_letters) (n := 63) (k := 2) (x := "_law_script") (sp := K07.spLaw) rfl (by decide) rfl ⟨rfl, by decide, by decide⟩ (fun w h Y => PySem.W.kIn_of Y) ?F fun K H a ns hl hS => ⟨a, ns, rfl, hS, hl, fun _ => rfl⟩
  case F =>
    intro w mg fa h KX G hmg
    refine' K07.all_mk KX G hmg ?a1 ?l1 ?c1 ?k1 ?a2 ?l2 ?c2 ?k2 ?a3 ?l3 ?c3 ?k3 ?a4 ?l4 ?c4 ?k4 ?a5 ?l5 ?c5 ?k5 ?a6 ?l6 ?c6 ?k6 ?g1 ?g2 ?z1 ?z2 ?z3 ?z4 ?z5 ?z6 ?z7 ?z8
    (case a1 => k_is)
    (case l1 => k_is)
    (case c1 => k_is)
    (case k1 => k_is)
    (case a2 => k_is)
    (case l2 => k_is)
    (case c2 => k_is)
    (case k2 => k_is)
    (case a3 => k_is)
    (case l3 => k_is)
    (case c3 => k_is)
    (case k3 => k_is)
    (case a4 => k_is)
    (case l4 => k_is)
    (case c4 => k_is)
    (case k4 => k_is)
    (case a5 => k_is)
    (case l5 => k_is)
    (case c5 => k_is)
    (case k5 => k_is)
    (case a6 => k_is)
    (case l6 => k_is)
    (case c6 => k_is)
    (case k6 => k_is)
    (case g1 => k_is)
    (case g2 => k_is)
    (case z1 => k_is)
    (case z2 => k_is)
    (case z3 => k_is)
    (case z4 => k_is)
    (case z5 => k_is)
    (case z6 => k_is)
    (case z7 => k_is)
    (case z8 => k_is)
