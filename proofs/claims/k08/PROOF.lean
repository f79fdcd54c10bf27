import PyProof.Rows.All
import Wide.All
import OpenK.AllK
import Wide.FinOn
import HandS.ForMost
import HandS.ForExc
import HandS.TupAny
import HandS.IsInst
import HandS.Flow
import HandS.Style
import HandS.DictComp
import HandS.Defaults
import HandS.StrMore
import HandS.FStr
import HandS.Zip
import HandS.Conv
import HandS.Wide
import HandS.RaiseMore
import HandS.WideMore
import KE.SortData
import HandS.MakeKwOnly
import KE.GoesSet
import HandS.SetKeys
import HandS.SetBool
import KE.KUnpackStar
import HandS.Deep
import HandS.Strs
import PySem.Challenge.RW_dressedkinds_k08_worths_of_anything
import HandS.OwnEq
import HandS.Small
import PyProof.Rows.Range3
import PyProof.StrHeap
import HandS.TupMul
import KE.KExcInit
import KE.KExcIs
import HandS.ExcInit
import HandS.ExcField
import HandS.TryMany
import HandS.ExcOwn
import HandS.ExcBuiltin
import HandS.JoinGen
import HandS.Codes
import PyProof.StrLawsRepr
import HandS.TryOnly
set_option Elab.async false
set_option linter.all false
set_option maxRecDepth 100000
set_option maxHeartbeats 4000000
/-! A layer of plain data over the hand layer: values as trees (D), what stands still (I) and what may turn, readings over data. -/
namespace Dk
open PySem L2

/-- plain data -/
inductive D where
  | non | bl (b : Bool) | int (i : Int) | str (x : Str)
  | tup (xs : List D) | lst (xs : List D) | dic (kvs : List (Key × D))
  | obj (C : Addr) (fs : List (Str × D)) | opq (a : Addr)
  /-- a dict that is locked: it may be walked -/
  | dfz (kvs : List (Key × D))

mutual
/-- the value v is the datum d, by the objects that stand still -/
inductive Rep (K : PySem.W.Frag) (I : Hp) : V → D → Prop
  | non : Rep K I .non .non
  | bl (b : Bool) : Rep K I (.bl b) (.bl b)
  | int (i : Int) : Rep K I (.int i) (.int i)
  | str (x : Str) : Rep K I (.str x) (.str x)
  | tup {a : Addr} {vs : List V} {ds : List D} : SqT K I a vs → Reps K I vs ds → Rep K I (.ref a) (.tup ds)
  | lst {a : Addr} {vs : List V} {ds : List D} : I a = some (.lst vs) → Reps K I vs ds → Rep K I (.ref a) (.lst ds)
  | dic {a : Addr} {kvs : List (Key × V)} {ds : List (Key × D)} : I a = some (.dK kvs) → kvs.map (·.1) = ds.map (·.1) → Reps K I (kvs.map (·.2)) (ds.map (·.2)) → Rep K I (.ref a) (.dic ds)
  | obj {a C dx : Addr} {fs : List (Str × V)} {ds : List (Str × D)} : I a = some (.ins C dx fs) → fs.map (·.1) = ds.map (·.1) → Reps K I (fs.map (·.2)) (ds.map (·.2)) → Rep K I (.ref a) (.obj C ds)
  | opq (a : Addr) : Rep K I (.ref a) (.opq a)
  | dfz {a : Addr} {o : Obj} {kvs : List (Key × V)} {ds : List (Key × D)} : I a = some (.frz o (.dK kvs)) → kvs.map (·.1) = ds.map (·.1) → Reps K I (kvs.map (·.2)) (ds.map (·.2)) → Rep K I (.ref a) (.dfz ds)
inductive Reps (K : PySem.W.Frag) (I : Hp) : List V → List D → Prop
  | nil : Reps K I [] []
  | cons {v : V} {vs : List V} {d : D} {ds : List D} : Rep K I v d → Reps K I vs ds → Reps K I (v :: vs) (d :: ds)
end

theorem Same.seqT {K : PySem.W.Frag} {H H' : Hp} {a : Addr} {xs : List V} (e : Same H H') (h : SqT K H a xs) : SqT K H' a xs := by
  rcases h with (h | ⟨o, h⟩) | h
  · exact .inl (.inl (e _ _ h))
  · exact .inl (.inr ⟨o, e _ _ h⟩)
  · exact .inr h
mutual
theorem Rep.mono {K : PySem.W.Frag} {I I' : Hp} (s : Same I I') : ∀ {v : V} {d : D}, Rep K I v d → Rep K I' v d
  | _, _, .non => .non
  | _, _, .bl b => .bl b
  | _, _, .int i => .int i
  | _, _, .str x => .str x
  | _, _, .tup h r => .tup (Same.seqT s h) (Reps.mono s r)
  | _, _, .lst h r => .lst (s _ _ h) (Reps.mono s r)
  | _, _, .dic h k r => .dic (s _ _ h) k (Reps.mono s r)
  | _, _, .obj h k r => .obj (s _ _ h) k (Reps.mono s r)
  | _, _, .opq a => .opq a
  | _, _, .dfz h k r => .dfz (s _ _ h) k (Reps.mono s r)
theorem Reps.mono {K : PySem.W.Frag} {I I' : Hp} (s : Same I I') : ∀ {vs : List V} {ds : List D}, Reps K I vs ds → Reps K I' vs ds
  | _, _, .nil => .nil
  | _, _, .cons h r => .cons (Rep.mono s h) (Reps.mono s r)
end
section
variable {K : PySem.W.Frag} {I : Hp}
theorem Reps.length {vs : List V} {ds : List D} (h : Reps K I vs ds) : vs.length = ds.length := by
  induction vs generalizing ds with
  | nil => cases h; rfl
  | cons v vs ih => cases h with | cons a b => simp [ih b]
theorem Reps.get {vs : List V} {ds : List D} {i : Nat} {d : D} (h : Reps K I vs ds) (e : ds[i]? = some d) : ∃ v, vs[i]? = some v ∧ Rep K I v d := by
  induction vs generalizing ds i with
  | nil => cases h; simp at e
  | cons v vs ih =>
    cases h with
    | cons a b =>
      cases i with
      | zero => simp at e; subst e; exact ⟨v, rfl, a⟩
      | succ i => simp at e; obtain ⟨w, h1, h2⟩ := ih b e; exact ⟨w, by simpa using h1, h2⟩
theorem Reps.getV {vs : List V} {ds : List D} {i : Nat} {v : V} (h : Reps K I vs ds) (e : vs[i]? = some v) : ∃ d, ds[i]? = some d ∧ Rep K I v d := by
  induction vs generalizing ds i with
  | nil => simp at e
  | cons w vs ih =>
    cases h with
    | cons a b =>
      cases i with
      | zero => simp at e; subst e; exact ⟨_, rfl, a⟩
      | succ i => simp at e; obtain ⟨w, h1, h2⟩ := ih b e; exact ⟨w, by simpa using h1, h2⟩
theorem Reps.append {vs ws : List V} {ds es : List D} (h : Reps K I vs ds) (h' : Reps K I ws es) : Reps K I (vs ++ ws) (ds ++ es) := by
  induction vs generalizing ds with
  | nil => cases h; exact h'
  | cons v vs ih => cases h with | cons a b => exact .cons a (ih b)
theorem Reps.take {vs : List V} {ds : List D} (n : Nat) (h : Reps K I vs ds) : Reps K I (vs.take n) (ds.take n) := by
  induction vs generalizing ds n with
  | nil => cases h; simp; exact .nil
  | cons v vs ih =>
    cases h with
    | cons a b =>
      cases n with
      | zero => exact .nil
      | succ n => exact .cons a (ih n b)
theorem Reps.drop {vs : List V} {ds : List D} (n : Nat) (h : Reps K I vs ds) : Reps K I (vs.drop n) (ds.drop n) := by
  induction vs generalizing ds n with
  | nil => cases h; simp; exact .nil
  | cons v vs ih =>
    cases h with
    | cons a b =>
      cases n with
      | zero => exact .cons a b
      | succ n => exact ih n b
theorem Reps.reverse {vs : List V} {ds : List D} (h : Reps K I vs ds) : Reps K I vs.reverse ds.reverse := by
  induction vs generalizing ds with
  | nil => cases h; exact .nil
  | cons v vs ih => cases h with | cons a b => rw [List.reverse_cons, List.reverse_cons]; exact (ih b).append (.cons a .nil)
theorem Reps.set {vs : List V} {ds : List D} {v : V} {d : D} (i : Nat) (h : Reps K I vs ds) (r : Rep K I v d) : Reps K I (vs.set i v) (ds.set i d) := by
  induction vs generalizing ds i with
  | nil => cases h; exact .nil
  | cons w vs ih =>
    cases h with
    | cons a b =>
      cases i with
      | zero => exact .cons r b
      | succ i => exact .cons a (ih i b)
theorem Reps.cut {vs : List V} {ds : List D} (h : Reps K I vs ds) (lo hi : Option Int) : Reps K I (cutV vs lo hi) ((ds.drop (HT.sIx ds.length 0 lo)).take (HT.sIx ds.length ds.length hi - HT.sIx ds.length 0 lo)) := by
  unfold cutV
  rw [h.length]
  exact (h.drop _).take _
theorem Reps.of_get {vs : List V} {ds : List D} (hl : vs.length = ds.length) (h : ∀ (i : Nat) (v : V) (d : D), vs[i]? = some v → ds[i]? = some d → Rep K I v d) : Reps K I vs ds := by
  induction vs generalizing ds with
  | nil => cases ds with | nil => exact .nil | cons _ _ => simp at hl
  | cons v vs ih =>
    cases ds with
    | nil => simp at hl
    | cons d ds => exact .cons (h 0 v d rfl rfl) (ih (by simpa using hl) fun i w e a b => h (i + 1) w e (by simpa using a) (by simpa using b))
theorem Reps.ints {ns : List Int} : Reps K I (ns.map V.int) (ns.map D.int) := by
  induction ns with
  | nil => exact .nil
  | cons n ns ih => exact .cons (.int n) ih
theorem Reps.strs {ns : List Str} : Reps K I (ns.map V.str) (ns.map D.str) := by
  induction ns with
  | nil => exact .nil
  | cons n ns ih => exact .cons (.str n) ih
theorem Reps.intsV {ns : List Int} {vs : List V} (h : Reps K I vs (ns.map D.int)) : vs = ns.map V.int := by
  induction ns generalizing vs with
  | nil => cases h; rfl
  | cons n ns ih => cases h with | cons a b => cases a; rw [ih b]; rfl
theorem Reps.strsV {ns : List Str} {vs : List V} (h : Reps K I vs (ns.map D.str)) : vs = ns.map V.str := by
  induction ns generalizing vs with
  | nil => cases h; rfl
  | cons n ns ih => cases h with | cons a b => cases a; rw [ih b]; rfl
theorem Reps.blsV {ns : List Bool} {vs : List V} (h : Reps K I vs (ns.map D.bl)) : vs = ns.map V.bl := by
  induction ns generalizing vs with
  | nil => cases h; rfl
  | cons n ns ih => cases h with | cons a b => cases a; rw [ih b]; rfl
end

/-! ### the world: objects that may turn while the law runs -/
structure Wd where
  mv : Addr → Prop
  inv : Hp → Prop
  frame : ∀ {H H' : Hp}, (∀ b, mv b → H' b = H b) → inv H → inv H'
  live : ∀ {H : Hp} {b : Addr}, inv H → mv b → H b ≠ none
/-- nothing of the world turns -/
def Wd.still : Wd := ⟨fun _ => False, fun _ => True, fun _ _ => trivial, fun _ h => h.elim⟩

structure StI (W : Wd) (I H : Hp) : Prop where
  sub : Same I H
  imm : ∀ b o, I b = some o → ¬ W.mv b
  inv : W.inv H
structure Stp (W : Wd) (I H I' H' : Hp) : Prop where
  i : Same I I'
  st : StI W I' H'
  h : ∀ b o, H b = some o → ¬ W.mv b → H' b = some o
  new : ∀ b o, H b = some o → I b = none → I' b = none
section
variable {W : Wd} {I H I' H' I'' H'' : Hp}
theorem StI.stp (s : StI W I H) : Stp W I H I H := ⟨Same.refl I, s, fun _ _ e _ => e, fun _ _ _ e => e⟩
theorem Stp.trans (a : Stp W I H I' H') (b : Stp W I' H' I'' H'') : Stp W I H I'' H'' := by
  refine ⟨Same.trans a.i b.i, b.st, fun c o e m => b.h c o (a.h c o e m) m, fun c o e n => ?_⟩
  by_cases m : W.mv c
  · cases q : I'' c with
    | none => rfl
    | some u => exact absurd m (b.st.imm c u q)
  · exact b.new c o (a.h c o e m) (a.new c o e n)
/-- a new object that stands still from now on -/
theorem StI.laid (s : StI W I H) {p : Addr} (hp : H p = none) (o : HO) : Stp W I H (upd I p o) (upd H p o) := by
  have np : ¬ W.mv p := fun m => s.inv |> fun i => W.live i m hp
  have ni : I p = none := by
    cases q : I p with
    | none => rfl
    | some u => rw [s.sub _ _ q] at hp; cases hp
  refine ⟨fun b u e => ?_, ⟨fun b u e => ?_, fun b u e => ?_, ?_⟩, fun b u e _ => ?_, fun b u e n => ?_⟩
  · rw [upd_ne (ne_of_none e ni)]; exact e
  · by_cases hb : b = p
    · subst hb; rw [upd_same] at e ⊢; exact e
    · rw [upd_ne hb] at e ⊢; exact s.sub _ _ e
  · by_cases hb : b = p
    · subst hb; exact np
    · rw [upd_ne hb] at e; exact s.imm _ _ e
  · exact W.frame (fun b m => upd_ne fun z => np (z ▸ m)) s.inv
  · rw [upd_ne (ne_of_none e hp)]; exact e
  · rw [upd_ne (ne_of_none e hp)]; exact n
/-- a new object that may turn (of our own) -/
theorem StI.laidM (s : StI W I H) {p : Addr} (hp : H p = none) (o : HO) : Stp W I H I (upd H p o) := by
  have np : ¬ W.mv p := fun m => s.inv |> fun i => W.live i m hp
  refine ⟨Same.refl I, ⟨fun b u e => ?_, s.imm, W.frame (fun b m => upd_ne fun z => np (z ▸ m)) s.inv⟩, fun b u e _ => ?_, fun b u e n => n⟩
  · rw [upd_ne (ne_of_none (s.sub _ _ e) hp)]; exact s.sub _ _ e
  · rw [upd_ne (ne_of_none e hp)]; exact e
theorem StI.free (s : StI W I H) {p : Addr} (hp : H p = none) : I p = none := by
  cases q : I p with
  | none => rfl
  | some u => rw [s.sub _ _ q] at hp; cases hp
end

/-! ### names: what a def's slots hold -/
inductive Ent where
  | dat (d : D)
  /-- a list of our own, that may grow -/
  | own (ds : List D)
  /-- a dict of our own -/
  | ownD (kvs : List (Key × D))
  /-- an object of our own, as long as its attributes are set -/
  | ownO (q C : Addr) (fs : List (Str × D))
  /-- a dict of our own, at a known place -/
  | ownQ (q : Addr) (kvs : List (Key × D))
  /-- .. locked -/
  | ownF (q : Addr) (kvs : List (Key × D))
/-- the place it must be at -/
def Ent.adr : Ent → Option Addr
  | .ownO q _ _ => some q
  | .ownQ q _ => some q
  | .ownF q _ => some q
  | _ => none
abbrev DEnv := List (Option Ent)
/-- a def's frame: the world, the heaps at its entry -/
structure Fx where
  W : Wd
  B : Hp
  I0 : Hp
def Ent.isOwn : Ent → Prop
  | .dat _ => False
  | _ => True
/-- what it is once it stands still -/
def Ent.toD : Ent → D
  | .dat d => d
  | .own ds => .lst ds
  | .ownD ds => .dic ds
  | .ownO _ C fs => .obj C fs
  | .ownQ _ ds => .dic ds
  | .ownF _ ds => .dfz ds
def OwnRep (K : PySem.W.Frag) (I : Hp) : Ent → HO → Prop
  | .dat _, _ => False
  | .own ds, o => ∃ vs, o = .lst vs ∧ Reps K I vs ds
  | .ownD ds, o => ∃ kvs, o = .dK kvs ∧ kvs.map (·.1) = ds.map (·.1) ∧ Reps K I (kvs.map (·.2)) (ds.map (·.2))
  | .ownO _ C fs, o => ∃ dx ws, o = .ins C dx ws ∧ ws.map (·.1) = fs.map (·.1) ∧ Reps K I (ws.map (·.2)) (fs.map (·.2))
  | .ownQ _ ds, o => ∃ kvs, o = .dK kvs ∧ kvs.map (·.1) = ds.map (·.1) ∧ Reps K I (kvs.map (·.2)) (ds.map (·.2))
  | .ownF _ ds, o => ∃ f kvs, o = .frz f (.dK kvs) ∧ kvs.map (·.1) = ds.map (·.1) ∧ Reps K I (kvs.map (·.2)) (ds.map (·.2))
theorem OwnRep.mono {K : PySem.W.Frag} {I I' : Hp} (s : Same I I') {e : Ent} {o : HO} (h : OwnRep K I e o) : OwnRep K I' e o := by
  cases e with
  | dat _ => exact h
  | own ds => obtain ⟨vs, q, r⟩ := h; exact ⟨vs, q, r.mono s⟩
  | ownD ds => obtain ⟨vs, q, k, r⟩ := h; exact ⟨vs, q, k, r.mono s⟩
  | ownO _ C fs => obtain ⟨dx, vs, q, k, r⟩ := h; exact ⟨dx, vs, q, k, r.mono s⟩
  | ownQ _ ds => obtain ⟨vs, q, k, r⟩ := h; exact ⟨vs, q, k, r.mono s⟩
  | ownF _ ds => obtain ⟨f, vs, q, k, r⟩ := h; exact ⟨f, vs, q, k, r.mono s⟩
theorem OwnRep.rep {K : PySem.W.Frag} {I : Hp} {e : Ent} {o : HO} {p : Addr} (h : OwnRep K I e o) (hp : I p = some o) : Rep K I (.ref p) e.toD := by
  cases e with
  | dat _ => exact h.elim
  | own ds => obtain ⟨vs, rfl, r⟩ := h; exact .lst hp r
  | ownD ds => obtain ⟨vs, rfl, k, r⟩ := h; exact .dic hp k r
  | ownO _ C fs => obtain ⟨dx, vs, rfl, k, r⟩ := h; exact .obj hp k r
  | ownQ _ ds => obtain ⟨vs, rfl, k, r⟩ := h; exact .dic hp k r
  | ownF _ ds => obtain ⟨f, vs, rfl, k, r⟩ := h; exact .dfz hp k r
theorem OwnRep.isOwn {K : PySem.W.Frag} {I : Hp} {e : Ent} {o : HO} (h : OwnRep K I e o) : e.isOwn := by
  cases e <;> first | exact h.elim | trivial
/-- e is held by v: nothing of it stands still -/
structure OwnAt (F : Fx) (K : PySem.W.Frag) (I H : Hp) (e : Ent) (p : Addr) (o : HO) : Prop where
  hp : H p = some o
  rep : OwnRep K I e o
  ni : I p = none
  nm : ¬ F.W.mv p
  nb : F.B p = none
  ad : ∀ q, e.adr = some q → p = q
def EntRep (F : Fx) (K : PySem.W.Frag) (I H : Hp) (e : Ent) (v : V) : Prop :=
  (∃ d, e = .dat d ∧ Rep K I v d) ∨ ∃ p o, v = .ref p ∧ OwnAt F K I H e p o
theorem EntRep.dat {F : Fx} {K : PySem.W.Frag} {I H : Hp} {d : D} {v : V} (h : EntRep F K I H (.dat d) v) : Rep K I v d := by
  rcases h with ⟨d', e, r⟩ | ⟨p, o, _, h⟩
  · cases e; exact r
  · exact h.rep.elim
theorem EntRep.own {F : Fx} {K : PySem.W.Frag} {I H : Hp} {e : Ent} {v : V} (h : EntRep F K I H e v) (o : e.isOwn) : ∃ p u, v = .ref p ∧ OwnAt F K I H e p u := by
  rcases h with ⟨d', rfl, r⟩ | h
  · exact o.elim
  · exact h
structure At (F : Fx) (K : PySem.W.Frag) (I : Hp) (ρ : DEnv) (σ : St) (H : Hp) : Prop where
  stp : Stp F.W F.I0 F.B I H
  len : ρ.length = σ.length
  env : ∀ (i : Nat) e, ρ[i]? = some (some e) → ∃ v, σ[i]? = some (some v) ∧ EntRep F K I H e v
  dis : ∀ (i j : Nat) e e' v, i ≠ j → ρ[i]? = some (some e) → ρ[j]? = some (some e') → e.isOwn → e'.isOwn → σ[i]? = some (some v) → σ[j]? ≠ some (some v)
section
variable {F : Fx} {K : PySem.W.Frag} {I H I' H' : Hp} {ρ : DEnv} {σ : St}
theorem At.st (a : At F K I ρ σ H) : StI F.W I H := a.stp.st
theorem OwnAt.step {e : Ent} {p : Addr} {o : HO} (h : OwnAt F K I H e p o) (s : Stp F.W I H I' H') : OwnAt F K I' H' e p o := ⟨s.h _ _ h.hp h.nm, h.rep.mono s.i, s.new _ _ h.hp h.ni, h.nm, h.nb, h.ad⟩
theorem EntRep.step {e : Ent} {v : V} (h : EntRep F K I H e v) (s : Stp F.W I H I' H') : EntRep F K I' H' e v := by
  rcases h with ⟨d, rfl, r⟩ | ⟨p, o, rfl, h⟩
  · exact .inl ⟨d, rfl, r.mono s.i⟩
  · exact .inr ⟨p, o, rfl, h.step s⟩
theorem At.step (a : At F K I ρ σ H) (s : Stp F.W I H I' H') : At F K I' ρ σ H' :=
  ⟨a.stp.trans s, a.len, fun i e h => let ⟨v, h1, h2⟩ := a.env i e h; ⟨v, h1, h2.step s⟩, a.dis⟩
end

/-! ### readings over data -/
abbrev DT := DEnv → (D → Prop) → Prop
abbrev DB := DEnv → (Bool → Prop) → Prop
def fin (F : Fx) (K : PySem.W.Frag) (I H : Hp) (Q : VK) : D → Prop := fun d => ∀ v I' H', Stp F.W I H I' H' → Rep K I' v d → Q v H'
def finB (F : Fx) (I H : Hp) (Q : Bool → Hp → Prop) : Bool → Prop := fun b => ∀ I' H', Stp F.W I H I' H' → Q b H'
def rdE (F : Fx) (K : PySem.W.Frag) (t : DT) : TE := fun σ H Q => ∃ I ρ, At F K I ρ σ H ∧ t ρ (fin F K I H Q)
def rdT (F : Fx) (K : PySem.W.Frag) (t : DB) : TT := fun σ H Q => ∃ I ρ, At F K I ρ σ H ∧ t ρ (finB F I H Q)
structure DE (F : Fx) (X : Cx) (e : Expr) (t : DT) : Prop where
  mono : ∀ ρ (Q Q' : D → Prop), (∀ d, Q d → Q' d) → t ρ Q → t ρ Q'
  run : PE X e (rdE F X.K t)
structure DTest (F : Fx) (X : Cx) (e : Expr) (t : DB) : Prop where
  mono : ∀ ρ (Q Q' : Bool → Prop), (∀ d, Q d → Q' d) → t ρ Q → t ρ Q'
  run : PT X e (rdT F X.K t)
section
variable {F : Fx} {X : Cx} {K : PySem.W.Frag} {I H : Hp} {ρ : DEnv} {σ : St}
/-- a reading passes on to what follows -/
theorem rdE_next {t : DT} (mono : ∀ ρ (Q Q' : D → Prop), (∀ d, Q d → Q' d) → t ρ Q → t ρ Q') (a : At F K I ρ σ H) {P : D → Prop} {R : V → Hp → Prop} (h : t ρ P)
    (k : ∀ d v I' H', P d → Stp F.W I H I' H' → Rep K I' v d → R v H') : rdE F K t σ H R :=
  ⟨I, ρ, a, mono ρ _ _ (fun d p v I' H' s r => k d v I' H' p s r) h⟩
theorem rdT_next {t : DB} (mono : ∀ ρ (Q Q' : Bool → Prop), (∀ d, Q d → Q' d) → t ρ Q → t ρ Q') (a : At F K I ρ σ H) {P : Bool → Prop} {R : Bool → Hp → Prop} (h : t ρ P)
    (k : ∀ d I' H', P d → Stp F.W I H I' H' → R d H') : rdT F K t σ H R :=
  ⟨I, ρ, a, mono ρ _ _ (fun d p I' H' s => k d I' H' p s) h⟩
/-- the reading of a PE may be strengthened -/
theorem _root_.L2.PE.imp {e : Expr} {t u : TE} (h : PE X e t) (i : ∀ σ H Q, u σ H Q → t σ H Q) : PE X e u := ⟨fun pins s σ H Q J q => h.run pins s σ H Q J (i σ H Q q)⟩
theorem _root_.L2.PT.imp {e : Expr} {t u : TT} (h : PT X e t) (i : ∀ σ H Q, u σ H Q → t σ H Q) : PT X e u := ⟨fun pins s σ H Q J q => h.run pins s σ H Q J (i σ H Q q)⟩
theorem _root_.L2.PS.imp {e : Stmt} {t u : TS} (h : PS X e t) (i : ∀ D σ H, u D σ H → t D σ H) : PS X e u := ⟨fun pins s σ H Q J q => h.run pins s σ H Q J (i Q σ H q)⟩
theorem _root_.L2.PSs.imp {e : List Stmt} {t u : TS} (h : PSs X e t) (i : ∀ D σ H, u D σ H → t D σ H) : PSs X e u := ⟨fun pins s σ H Q J q => h.run pins s σ H Q J (i Q σ H q)⟩
theorem _root_.L2.PA.imp {e : List Expr} {t u : TA} (h : PA X e t) (i : ∀ σ H Q, u σ H Q → t σ H Q) : PA X e u := ⟨fun pos pins s σ H Q J q => h.run pos pins s σ H Q J (i σ H Q q)⟩
end

/-! ### names and constants -/
def getD (ρ : DEnv) (i : Nat) (Q : D → Prop) : Prop := ∃ d, ρ[i]? = some (some (.dat d)) ∧ Q d
section
variable {F : Fx} {X : Cx}
theorem de_name (i : Nat) {x : Str} {pos : Pos} (hN : X.N[i]? = some x := by rfl) (hv : Vis X.env.scope x := by first | exact Or.inl rfl | exact Or.inr (Or.inl rfl) | exact Or.inr (Or.inr rfl)) (hd : (x == ("__debug__" : Str)) = false := by decide)
    (hcd : (x == ("__classdict__" : Str)) = false := by decide) : DE F X (.Name x pos) (fun ρ Q => getD ρ i Q) := by
  refine ⟨fun ρ Q Q' h ⟨d, e, q⟩ => ⟨d, e, h d q⟩, (pv i hN hv hd hcd).imp fun σ H Q ⟨I, ρ, a, d, e, q⟩ => ?_⟩
  obtain ⟨v, h1, h2⟩ := a.env i _ e
  exact ⟨v, h1, q v I H a.st.stp h2.dat⟩
theorem de_const {e : Expr} {v : V} {d : D} (h : PE X e (tC v)) (r : ∀ I, Rep X.K I v d) : DE F X e (fun _ Q => Q d) :=
  ⟨fun _ _ _ h q => h _ q, h.imp fun σ H Q ⟨I, ρ, a, q⟩ => q v I H a.st.stp (r I)⟩
theorem de_int {i : Int} {j : Nat} {pos : Pos} : DE F X (.Constant (.int i) j pos) (fun _ Q => Q (.int i)) := de_const pe_int fun _ => .int i
theorem de_bl {i : Bool} {j : Nat} {pos : Pos} : DE F X (.Constant (.bool i) j pos) (fun _ Q => Q (.bl i)) := de_const pe_bl fun _ => .bl i
theorem de_non {j : Nat} {pos : Pos} : DE F X (.Constant .none j pos) (fun _ Q => Q .non) := de_const pe_non fun _ => .non
theorem de_str {x : Str} {j : Nat} {pos : Pos} : DE F X (.Constant (.str x) j pos) (fun _ Q => Q (.str x)) := de_const pe_str fun _ => .str x
/-- a module's constant -/
theorem de_gstr {x : Str} {y : Str} {u : Value} {pos : Pos} (hg : Gl X x) (hm : X.mg x = some u) (r : RelV (.str y) u) (hd : (x == ("__debug__" : Str)) = false := by decide) : DE F X (.Name x pos) (fun _ Q => Q (.str y)) :=
  de_const (pe_glob hg hm r hd) fun _ => .str y
theorem de_gint {x : Str} {y : Int} {u : Value} {pos : Pos} (hg : Gl X x) (hm : X.mg x = some u) (r : RelV (.int y) u) (hd : (x == ("__debug__" : Str)) = false := by decide) : DE F X (.Name x pos) (fun _ Q => Q (.int y)) :=
  de_const (pe_glob hg hm r hd) fun _ => .int y
end
end Dk

namespace Dk
open PySem L2

/-! ### == over data -/
mutual
def toPy : D → PyData
  | .bl b => .bool b
  | .int i => .int i
  | .str x => .str x
  | .tup xs => .tuple (toPys xs)
  | .lst xs => .list (toPys xs)
  | .non => .none
  | .dic _ => .none
  | .obj _ _ => .none
  | .opq _ => .none
  | .dfz _ => .none
def toPys : List D → List PyData
  | [] => []
  | d :: ds => toPy d :: toPys ds
end
def keyD : Key → D
  | .inl i => .int i
  | .inr x => .str x
theorem keyD_rep {K : PySem.W.Frag} {I : Hp} {v : V} {k : Key} (r : Rep K I v (keyD k)) : v = kV k := by
  cases k <;> (cases r; rfl)
def lookD (kvs : List (Key × D)) (k : Key) : Option D := (kvs.find? fun kv => decide (kv.1 = k)).map (·.2)
theorem lookD_rep {K : PySem.W.Frag} {I : Hp} {k : Key} : ∀ {kvs : List (Key × V)} {ds : List (Key × D)}, kvs.map (·.1) = ds.map (·.1) → Reps K I (kvs.map (·.2)) (ds.map (·.2)) → (valV kvs k = none ∧ lookD ds k = none) ∨ ∃ v d, valV kvs k = some v ∧ lookD ds k = some d ∧ Rep K I v d
  | [], [], _, _ => .inl ⟨rfl, rfl⟩
  | [], _ :: _, h, _ => by simp at h
  | _ :: _, [], h, _ => by simp at h
  | (i, x) :: kvs, (j, y) :: ds, h, r => by
    simp only [List.map_cons, List.cons.injEq] at h
    obtain ⟨rfl, h⟩ := h
    cases r with
    | cons r1 r2 =>
      by_cases e : i = k
      · exact .inr ⟨x, y, by simp [valV, List.find?_cons, e], by simp [lookD, List.find?_cons, e], r1⟩
      · have e1 : valV ((i, x) :: kvs) k = valV kvs k := by simp [valV, List.find?_cons, e]
        have e2 : lookD ((i, y) :: ds) k = lookD ds k := by simp [lookD, List.find?_cons, e]
        rw [e1, e2]
        exact lookD_rep h r2
mutual
/-- nothing but none, truths, numbers, texts, tuples, lists -/
def plainD : D → Bool
  | .non | .bl _ | .int _ | .str _ => true
  | .tup xs => plainDs xs
  | .lst xs => plainDs xs
  | .dic _ => false
  | .obj _ _ => false
  | .opq _ => false
  | .dfz _ => false
def plainDs : List D → Bool
  | [] => true
  | d :: ds => plainD d && plainDs ds
end
def deq (x y : D) : Bool := PyData.eqv (toPy x) (toPy y)
def deqs (x y : List D) : Bool := PyData.eqvAll (toPys x) (toPys y)
def okE (x : D) : Bool := plainD x && SeqAt.shaped (toPy x)
def scalD : D → Bool
  | .non | .bl _ | .int _ | .str _ => true
  | _ => false
mutual
theorem Rep.dp {K : PySem.W.Frag} {I H : Hp} (s : Same I H) : ∀ {d : D} {v : V}, plainD d = true → Rep K I v d → Dp K H v (toPy d)
  | .non, _, _, h => by cases h; exact .non
  | .bl b, _, _, h => by cases h; exact .bl b
  | .int i, _, _, h => by cases h; exact .int i
  | .str x, _, _, h => by cases h; exact .str x
  | .tup xs, _, p, h => by
    cases h with
    | tup a r => exact .tup (Same.seqT s a) (Reps.dp s (by unfold plainD at p; exact p) r)
  | .lst xs, _, p, h => by
    cases h with
    | lst a r => exact .lst (.of (s _ _ a)) (Reps.dp s (by unfold plainD at p; exact p) r)
  | .dic _, _, p, h => by unfold plainD at p; cases p
  | .obj _ _, _, p, h => by unfold plainD at p; cases p
  | .opq _, _, p, h => by unfold plainD at p; cases p
  | .dfz _, _, p, h => by unfold plainD at p; cases p
theorem Reps.dp {K : PySem.W.Frag} {I H : Hp} (s : Same I H) : ∀ {ds : List D} {vs : List V}, plainDs ds = true → Reps K I vs ds → DpAll K H vs (toPys ds)
  | [], _, _, h => by cases h; exact .nil
  | d :: ds, _, p, h => by
    cases h with
    | cons a b =>
      unfold plainDs at p
      rw [Bool.and_eq_true] at p
      exact .cons (Rep.dp s p.1 a) (Reps.dp s p.2 b)
end
/-- a truth beside a number -/
def mixD : D → D → Bool
  | .bl _, .int _ => true
  | .int _, .bl _ => true
  | _, _ => false
theorem scal_of {K : PySem.W.Frag} {I : Hp} {v w : V} {d e : D} (h : Rep K I v d) (h' : Rep K I w e) (s : scalD d = true) (s' : scalD e = true) (m : mixD d e = false) : scal v w = true ∧ decide (v = w) = deq d e := by
  cases h with
  | tup _ _ => cases s
  | lst _ _ => cases s
  | dic _ _ _ => cases s
  | obj _ _ _ => cases s
  | opq _ => cases s
  | dfz _ _ _ => cases s
  | non => cases h' <;> first | (cases s'; done) | exact ⟨rfl, rfl⟩
  | bl b => cases h' <;> first | (cases s'; done) | (cases m; done) | exact ⟨rfl, dec_bl⟩ | exact ⟨rfl, rfl⟩
  | int b => cases h' <;> first | (cases s'; done) | (cases m; done) | exact ⟨rfl, dec_int⟩ | exact ⟨rfl, rfl⟩
  | str b => cases h' <;> first | (cases s'; done) | exact ⟨rfl, dec_str⟩ | exact ⟨rfl, rfl⟩

/-! ### values by their rules -/
def LiftR (F : Fx) (K : PySem.W.Frag) (R : R2) (r : D → D → (D → Prop) → Prop) : Prop :=
  ∀ (x y : V) (dx dy : D) (I H : Hp) (Q : VK), StI F.W I H → Rep K I x dx → Rep K I y dy → r dx dy (fin F K I H Q) → R x y H Q
abbrev Mono2 (r : D → D → (D → Prop) → Prop) : Prop := ∀ x y (Q Q' : D → Prop), (∀ d, Q d → Q' d) → r x y Q → r x y Q'
abbrev Mono1 (r : D → (D → Prop) → Prop) : Prop := ∀ x (Q Q' : D → Prop), (∀ d, Q d → Q' d) → r x Q → r x Q'
abbrev MonoN (r : List D → (D → Prop) → Prop) : Prop := ∀ x (Q Q' : D → Prop), (∀ d, Q d → Q' d) → r x Q → r x Q'
section
variable {F : Fx} {X : Cx} {K : PySem.W.Frag} {I H I' H' : Hp} {Q : VK} {a b c : Expr} {ta tb tc : DT} {pos : Pos} {R : R2} {r : D → D → (D → Prop) → Prop}
theorem fin.of (q : fin F K I H Q d) (s : Stp F.W I H I' H') : fin F K I' H' Q d := fun v I2 H2 s2 rv => q v I2 H2 (s.trans s2) rv
theorem two_run (mr : Mono2 r) (l : LiftR F X.K R r) (ha : DE F X a ta) (hb : DE F X b tb) {σ : St} (h : rdE F X.K (fun ρ Q => ta ρ fun x => tb ρ fun y => r x y Q) σ H Q) : tOp R (rdE F X.K ta) (rdE F X.K tb) σ H Q := by
  obtain ⟨I, ρ, A, h⟩ := h
  refine rdE_next ha.mono A h fun d v I' H' p s rv => ?_
  refine rdE_next hb.mono (A.step s) p fun e u I2 H2 q s2 ru => ?_
  exact l v u d e I2 H2 Q s2.st (rv.mono s2.i) ru (mr _ _ _ _ (fun z hz => hz.of (s.trans s2)) q)
theorem two_mono (mr : Mono2 r) (ha : DE F X a ta) (hb : DE F X b tb) : ∀ ρ (Q Q' : D → Prop), (∀ d, Q d → Q' d) → (ta ρ fun x => tb ρ fun y => r x y Q) → (ta ρ fun x => tb ρ fun y => r x y Q') :=
  fun ρ Q Q' k h => ha.mono _ _ _ (fun d h => hb.mono _ _ _ (fun e h => mr _ _ _ _ k h) h) h
theorem de_op {op : Operator} (mr : Mono2 r) (ho : OpR X (binaryOp op) R) (l : LiftR F X.K R r) (ha : DE F X a ta) (hb : DE F X b tb) : DE F X (.BinOp a op b pos) (fun ρ Q => ta ρ fun x => tb ρ fun y => r x y Q) :=
  ⟨two_mono mr ha hb, (pe_op ho ha.run hb.run).imp fun σ H Q h => two_run mr l ha hb h⟩
theorem de_cmp {op : CmpOp} (mr : Mono2 r) (ho : OpR X (compareOp op) R) (l : LiftR F X.K R r) (ha : DE F X a ta) (hb : DE F X b tb) (hm : behindInMarks op b = false) : DE F X (.Compare a [op] [b] pos) (fun ρ Q => ta ρ fun x => tb ρ fun y => r x y Q) :=
  ⟨two_mono mr ha hb, (pe_cmpR ho ha.run hb.run hm).imp fun σ H Q h => two_run mr l ha hb h⟩
theorem de_ix (mr : Mono2 r) (ho : IxR X R) (l : LiftR F X.K R r) (ha : DE F X a ta) (hb : DE F X b tb) (hs : PlainIx b := by exact fun _ _ => rfl) : DE F X (.Subscript a b pos) (fun ρ Q => ta ρ fun x => tb ρ fun y => r x y Q) :=
  ⟨two_mono mr ha hb, (pe_ix ho ha.run hb.run hs).imp fun σ H Q h => two_run mr l ha hb h⟩
def boolD (d : D) (Q : Bool → Prop) : Prop := ∃ b, d = .bl b ∧ Q b
theorem boolD.mono {d : D} {Q Q' : Bool → Prop} (k : ∀ b, Q b → Q' b) : boolD d Q → boolD d Q' := fun ⟨b, e, q⟩ => ⟨b, e, k b q⟩
theorem dt_cmp {op : CmpOp} (mr : Mono2 r) (ho : OpR X (compareOp op) R) (l : LiftR F X.K R r) (ha : DE F X a ta) (hb : DE F X b tb) (hm : behindInMarks op b = false) : DTest F X (.Compare a [op] [b] pos) (fun ρ Q => ta ρ fun x => tb ρ fun y => r x y fun z => boolD z Q) := by
  refine ⟨fun ρ Q Q' k h => two_mono mr ha hb _ _ _ (fun d => boolD.mono k) h, (pt_cmpR ho ha.run hb.run hm).imp fun σ H Q ⟨I, ρ, A, h⟩ => ?_⟩
  refine two_run mr l ha hb ⟨I, ρ, A, two_mono mr ha hb _ _ _ (fun d hd => ?_) h⟩
  obtain ⟨b, rfl, q⟩ := hd
  intro v I' H' s rv
  cases rv
  exact ⟨b, rfl, q I' H' s⟩
theorem dt_val (ha : DE F X a ta) (he : ∀ whole, isTrue a X.env whole = (do let v ← whole; standAt a.pos; holding [v] (truthy v)) := by intro _; rfl) : DTest F X a (fun ρ Q => ta ρ fun d => boolD d Q) := by
  refine ⟨fun ρ Q Q' k h => ha.mono _ _ _ (fun d => boolD.mono k) h, (pt_val ha.run he).imp fun σ H Q ⟨I, ρ, A, h⟩ => ?_⟩
  refine rdE_next ha.mono A h fun d v I' H' p s rv => ?_
  obtain ⟨b, rfl, q⟩ := p
  cases rv
  exact ⟨b, rfl, q I' H' s⟩
end

/-! ### and, or, not -/
structure DWh (F : Fx) (X : Cx) (e : Expr) (t : DB) : Prop where
  mono : ∀ ρ (Q Q' : Bool → Prop), (∀ d, Q d → Q' d) → t ρ Q → t ρ Q'
  run : PW X e (rdT F X.K t)
section
variable {F : Fx} {X : Cx} {K : PySem.W.Frag} {I H I' H' : Hp} {a b c : Expr} {ta tb tc : DB} {va vb vc : DT} {pos : Pos} {rest : List Expr}
theorem _root_.L2.PW.imp {e : Expr} {t u : TT} (h : PW X e t) (i : ∀ σ H Q, u σ H Q → t σ H Q) : PW X e u := ⟨fun w pins s σ H Q J q => h.run w pins s σ H Q J (i σ H Q q)⟩
theorem finB.of {Q : Bool → Hp → Prop} {d : Bool} (q : finB F I H Q d) (s : Stp F.W I H I' H') : finB F I' H' Q d := fun I2 H2 s2 => q I2 H2 (s.trans s2)
theorem dt_wh (h : DWh F X a ta) : DTest F X a ta := ⟨h.mono, h.run.pt⟩
theorem dt_not (h : DTest F X a ta) : DTest F X (.UnaryOp .Not a pos) (fun ρ Q => ta ρ fun b => Q (!b)) := by
  refine ⟨fun ρ Q Q' k q => h.mono _ _ _ (fun b => k _) q, (pt_not h.run).imp fun σ H Q ⟨I, ρ, A, q⟩ => ?_⟩
  exact rdT_next h.mono A q fun d I' H' p s => p I' H' s
theorem dw_and1 (h : DTest F X a ta) : DWh F X (.BoolOp .And [a] pos) ta := ⟨h.mono, pw_and1 h.run⟩
theorem dw_or1 (h : DTest F X a ta) : DWh F X (.BoolOp .Or [a] pos) ta := ⟨h.mono, pw_or1 h.run⟩
theorem dw_and (h : DTest F X a ta) (h' : DWh F X (.BoolOp .And (b :: rest) pos) tb) : DWh F X (.BoolOp .And (a :: b :: rest) pos) (fun ρ Q => ta ρ fun x => if x = true then tb ρ Q else Q false) := by
  refine ⟨fun ρ Q Q' k q => h.mono _ _ _ (fun b q => ?_) q, (pw_and h.run h'.run).imp fun σ H Q ⟨I, ρ, A, q⟩ => ?_⟩
  · cases b
    · exact k _ q
    · exact h'.mono _ _ _ k q
  · refine rdT_next h.mono A q fun d I' H' p s => ?_
    cases d
    · exact p I' H' s
    · exact rdT_next h'.mono (A.step s) p fun d I2 H2 p s2 => p I2 H2 (s.trans s2)
theorem dw_or (h : DTest F X a ta) (h' : DWh F X (.BoolOp .Or (b :: rest) pos) tb) : DWh F X (.BoolOp .Or (a :: b :: rest) pos) (fun ρ Q => ta ρ fun x => if x = true then Q true else tb ρ Q) := by
  refine ⟨fun ρ Q Q' k q => h.mono _ _ _ (fun b q => ?_) q, (pw_or h.run h'.run).imp fun σ H Q ⟨I, ρ, A, q⟩ => ?_⟩
  · cases b
    · exact h'.mono _ _ _ k q
    · exact k _ q
  · refine rdT_next h.mono A q fun d I' H' p s => ?_
    cases d
    · exact rdT_next h'.mono (A.step s) p fun d I2 H2 p s2 => p I2 H2 (s.trans s2)
    · exact p I' H' s
/-- .. as values -/
theorem de_one {op : BoolOp} (h : DE F X a va) : DE F X (.BoolOp op [a] pos) va := ⟨h.mono, pe_one h.run⟩
theorem de_and (h : DE F X a va) (h' : DE F X (.BoolOp .And (b :: rest) pos) vb) : DE F X (.BoolOp .And (a :: b :: rest) pos) (fun ρ Q => va ρ fun x => boolD x fun k => if k = true then vb ρ Q else Q (.bl false)) := by
  refine ⟨fun ρ Q Q' k q => h.mono _ _ _ (fun b => boolD.mono fun b q => ?_) q, (pe_and h.run h'.run).imp fun σ H Q ⟨I, ρ, A, q⟩ => ?_⟩
  · cases b
    · exact k _ q
    · exact h'.mono _ _ _ k q
  · refine rdE_next h.mono A q fun d v I' H' p s rv => ?_
    obtain ⟨b, rfl, p⟩ := p
    cases rv
    refine ⟨b, rfl, ?_⟩
    cases b
    · exact p _ I' H' s (.bl false)
    · exact rdE_next h'.mono (A.step s) p fun d v I2 H2 p s2 r2 => p v I2 H2 (s.trans s2) r2
theorem de_or (h : DE F X a va) (h' : DE F X (.BoolOp .Or (b :: rest) pos) vb) : DE F X (.BoolOp .Or (a :: b :: rest) pos) (fun ρ Q => va ρ fun x => boolD x fun k => if k = true then Q (.bl true) else vb ρ Q) := by
  refine ⟨fun ρ Q Q' k q => h.mono _ _ _ (fun b => boolD.mono fun b q => ?_) q, (pe_or h.run h'.run).imp fun σ H Q ⟨I, ρ, A, q⟩ => ?_⟩
  · cases b
    · exact h'.mono _ _ _ k q
    · exact k _ q
  · refine rdE_next h.mono A q fun d v I' H' p s rv => ?_
    obtain ⟨b, rfl, p⟩ := p
    cases rv
    refine ⟨b, rfl, ?_⟩
    cases b
    · exact rdE_next h'.mono (A.step s) p fun d v I2 H2 p s2 r2 => p v I2 H2 (s.trans s2) r2
    · exact p _ I' H' s (.bl true)
theorem de_not (h : DE F X a va) : DE F X (.UnaryOp .Not a pos) (fun ρ Q => va ρ fun x => boolD x fun k => Q (.bl (!k))) := by
  refine ⟨fun ρ Q Q' k q => h.mono _ _ _ (fun b => boolD.mono fun b => k _) q, (pe_not h.run).imp fun σ H Q ⟨I, ρ, A, q⟩ => ?_⟩
  refine rdE_next h.mono A q fun d v I' H' p s rv => ?_
  obtain ⟨b, rfl, p⟩ := p
  cases rv
  exact ⟨b, rfl, p _ I' H' s (.bl _)⟩
theorem de_if (hc : DTest F X c tc) (h : DE F X a va) (h' : DE F X b vb) : DE F X (.IfExp c a b pos) (fun ρ Q => tc ρ fun k => if k = true then va ρ Q else vb ρ Q) := by
  refine ⟨fun ρ Q Q' k q => hc.mono _ _ _ (fun b q => ?_) q, (pe_ifExp hc.run h.run h'.run).imp fun σ H Q ⟨I, ρ, A, q⟩ => ?_⟩
  · cases b
    · exact h'.mono _ _ _ k q
    · exact h.mono _ _ _ k q
  · refine rdT_next hc.mono A q fun d I' H' p s => ?_
    cases d
    · exact rdE_next h'.mono (A.step s) p fun d v I2 H2 p s2 r2 => p v I2 H2 (s.trans s2) r2
    · exact rdE_next h.mono (A.step s) p fun d v I2 H2 p s2 r2 => p v I2 H2 (s.trans s2) r2
end

/-! ### arguments, displays -/
abbrev DAT := DEnv → (List D → Prop) → Prop
def finA (F : Fx) (K : PySem.W.Frag) (I H : Hp) (Q : List V → Hp → Prop) : List D → Prop := fun ds => ∀ vs I' H', Stp F.W I H I' H' → Reps K I' vs ds → Q vs H'
def rdA (F : Fx) (K : PySem.W.Frag) (t : DAT) : TA := fun σ H Q => ∃ I ρ, At F K I ρ σ H ∧ t ρ (finA F K I H Q)
structure DA (F : Fx) (X : Cx) (es : List Expr) (t : DAT) : Prop where
  mono : ∀ ρ (Q Q' : List D → Prop), (∀ d, Q d → Q' d) → t ρ Q → t ρ Q'
  run : PA X es (rdA F X.K t)
section
variable {F : Fx} {X : Cx} {K : PySem.W.Frag} {I H : Hp} {ρ : DEnv} {σ : St} {e : Expr} {es : List Expr} {te : DT} {t : DAT} {pos : Pos}
theorem rdA_next (mono : ∀ ρ (Q Q' : List D → Prop), (∀ d, Q d → Q' d) → t ρ Q → t ρ Q') (a : At F K I ρ σ H) {P : List D → Prop} {R : List V → Hp → Prop} (h : t ρ P)
    (k : ∀ d v I' H', P d → Stp F.W I H I' H' → Reps K I' v d → R v H') : rdA F K t σ H R :=
  ⟨I, ρ, a, mono ρ _ _ (fun d p v I' H' s r => k d v I' H' p s r) h⟩
theorem da_nil : DA F X [] (fun _ Q => Q []) := ⟨fun _ _ _ k q => k _ q, pa_nil.imp fun σ H Q ⟨I, ρ, A, q⟩ => q [] I H A.st.stp .nil⟩
theorem da_cons (h : DE F X e te) (h' : DA F X es t) (hs : starEach (e :: es) X.env = (false, eval e X.env) :: starEach es X.env := by rfl) : DA F X (e :: es) (fun ρ Q => te ρ fun d => t ρ fun ds => Q (d :: ds)) := by
  refine ⟨fun ρ Q Q' k q => h.mono _ _ _ (fun d q => h'.mono _ _ _ (fun ds => k _) q) q, (pa_cons h.run h'.run hs).imp fun σ H Q ⟨I, ρ, A, q⟩ => ?_⟩
  refine rdE_next h.mono A q fun d v I' H' p s rv => ?_
  exact rdA_next h'.mono (A.step s) p fun ds vs I2 H2 p s2 rs => p (v :: vs) I2 H2 (s.trans s2) (.cons (rv.mono s2.i) rs)
theorem de_tup {x1} (h : DA F X es t) : DE F X (.Tuple es x1 pos) (fun ρ Q => t ρ fun ds => ds.length ≤ sizeLine ∧ Q (.tup ds)) := by
  refine ⟨fun ρ Q Q' k q => h.mono _ _ _ (fun d q => ⟨q.1, k _ q.2⟩) q, (pe_tup h.run).imp fun σ H Q ⟨I, ρ, A, q⟩ => ?_⟩
  refine rdA_next h.mono A q fun ds vs I' H' p s rs => ⟨rs.length ▸ p.1, fun a ha => ?_⟩
  have l := s.st.laid ha (.tup vs)
  exact p.2 _ _ _ (s.trans l) (.tup (.of upd_same) (rs.mono l.i))
theorem de_lst (h : DA F X es t) : DE F X (.List es pos) (fun ρ Q => t ρ fun ds => ds.length ≤ sizeLine ∧ Q (.lst ds)) := by
  refine ⟨fun ρ Q Q' k q => h.mono _ _ _ (fun d q => ⟨q.1, k _ q.2⟩) q, (pe_lst h.run).imp fun σ H Q ⟨I, ρ, A, q⟩ => ?_⟩
  refine rdA_next h.mono A q fun ds vs I' H' p s rs => ⟨rs.length ▸ p.1, fun a ha => ?_⟩
  have l := s.st.laid ha (.lst vs)
  exact p.2 _ _ _ (s.trans l) (.lst upd_same (rs.mono l.i))
end

/-! ### the operators -/
def addD : D → D → (D → Prop) → Prop
  | .int i, .int j, Q => Q (.int (i + j))
  | .str x, .str y, Q => x.length + y.length ≤ sizeLine ∧ Q (.str (x ++ y))
  | .lst x, .lst y, Q => x.length + y.length ≤ sizeLine ∧ Q (.lst (x ++ y))
  | .tup x, .tup y, Q => x.length + y.length ≤ sizeLine ∧ Q (.tup (x ++ y))
  | _, _, _ => False
def subD : D → D → (D → Prop) → Prop
  | .int i, .int j, Q => Q (.int (i - j))
  | _, _, _ => False
def mulD : D → D → (D → Prop) → Prop
  | .int i, .int j, Q => CMul i j ∧ Q (.int (i * j))
  | .lst xs, .int k, Q => -(2 ^ 63) ≤ k ∧ k < 2 ^ 63 ∧ xs.length * k.toNat ≤ sizeLine ∧ Q (.lst (List.replicate k.toNat xs).flatten)
  | _, _, _ => False
def fdivD : D → D → (D → Prop) → Prop
  | .int i, .int j, Q => CDivW i j ∧ Q (.int (i / j))
  | _, _, _ => False
def modD : D → D → (D → Prop) → Prop
  | .int i, .int j, Q => 0 < j ∧ Q (.int (i % j))
  | _, _, _ => False
def powD : D → D → (D → Prop) → Prop
  | .int i, .int j, Q => CPow i j ∧ Q (.int (i ^ j.toNat))
  | _, _, _ => False
def ltD : D → D → (D → Prop) → Prop
  | .int i, .int j, Q => Q (.bl (decide (i < j)))
  | .str x, .str y, Q => Q (.bl (decide (x.cps.toList < y.cps.toList)))
  | _, _, _ => False
def leD : D → D → (D → Prop) → Prop
  | .int i, .int j, Q => Q (.bl (decide (i ≤ j)))
  | .str x, .str y, Q => Q (.bl (!decide (y.cps.toList < x.cps.toList)))
  | _, _, _ => False
def gtD : D → D → (D → Prop) → Prop
  | .int i, .int j, Q => Q (.bl (decide (j < i)))
  | .str x, .str y, Q => Q (.bl (decide (y.cps.toList < x.cps.toList)))
  | _, _, _ => False
def geD : D → D → (D → Prop) → Prop
  | .int i, .int j, Q => Q (.bl (decide (j ≤ i)))
  | .str x, .str y, Q => Q (.bl (!decide (x.cps.toList < y.cps.toList)))
  | _, _, _ => False
/-- may be compared -/
def canEq (x y : D) : Bool :=
  (scalD x && scalD y && !mixD x y) || (okE x && okE y)
def eqD (x y : D) (Q : D → Prop) : Prop := canEq x y = true ∧ Q (.bl (deq x y))
def neD (x y : D) (Q : D → Prop) : Prop := canEq x y = true ∧ Q (.bl (!deq x y))
section
variable {F : Fx} {X : Cx} {K : PySem.W.Frag}
theorem mono_add : Mono2 addD := by
  intro x y Q Q' k h
  cases x <;> cases y <;> first | exact h.elim | exact k _ h | exact ⟨h.1, k _ h.2⟩
theorem mono_sub : Mono2 subD := by
  intro x y Q Q' k h
  cases x <;> cases y <;> first | exact h.elim | exact k _ h | exact ⟨h.1, k _ h.2⟩
theorem mono_mul : Mono2 mulD := by
  intro x y Q Q' k h
  cases x <;> cases y <;> first | exact h.elim | exact k _ h | exact ⟨h.1, k _ h.2⟩ | exact ⟨h.1, h.2.1, h.2.2.1, k _ h.2.2.2⟩
theorem mono_fdiv : Mono2 fdivD := by
  intro x y Q Q' k h
  cases x <;> cases y <;> first | exact h.elim | exact k _ h | exact ⟨h.1, k _ h.2⟩
theorem mono_mod : Mono2 modD := by
  intro x y Q Q' k h
  cases x <;> cases y <;> first | exact h.elim | exact k _ h | exact ⟨h.1, k _ h.2⟩
theorem mono_pow : Mono2 powD := by
  intro x y Q Q' k h
  cases x <;> cases y <;> first | exact h.elim | exact k _ h | exact ⟨h.1, k _ h.2⟩
theorem mono_lt : Mono2 ltD := by
  intro x y Q Q' k h
  cases x <;> cases y <;> first | exact h.elim | exact k _ h
theorem mono_le : Mono2 leD := by
  intro x y Q Q' k h
  cases x <;> cases y <;> first | exact h.elim | exact k _ h
theorem mono_gt : Mono2 gtD := by
  intro x y Q Q' k h
  cases x <;> cases y <;> first | exact h.elim | exact k _ h
theorem mono_ge : Mono2 geD := by
  intro x y Q Q' k h
  cases x <;> cases y <;> first | exact h.elim | exact k _ h
theorem mono_eq : Mono2 eqD := fun x y Q Q' k h => ⟨h.1, k _ h.2⟩
theorem mono_ne : Mono2 neD := fun x y Q Q' k h => ⟨h.1, k _ h.2⟩
/-- + -/
def RAdd (K : PySem.W.Frag) : R2 := fun x y H Q => rI0 (fun i j => .int (i + j)) x y H Q ∨ (∃ i j, x = .str i ∧ y = .str j ∧ i.length + j.length ≤ sizeLine ∧ Q (.str (i ++ j)) H) ∨ rCat x y H Q ∨ rCatA K x y H Q
theorem or_add : OpR X (binaryOp .Add) (RAdd X.K) := op_add.or (op_add_str.or (op_cat.or op_catA))
theorem lf_add : LiftR F K (RAdd K) addD := by
  intro x y dx dy I H Q st rx ry h
  cases dx <;> cases dy <;> first | exact h.elim | skip
  · cases rx; cases ry
    exact .inl ⟨_, _, rfl, rfl, h _ I H st.stp (.int _)⟩
  · cases rx; cases ry
    exact .inr (.inl ⟨_, _, rfl, rfl, h.1, h.2 _ I H st.stp (.str _)⟩)
  · cases rx with
    | tup a r =>
      cases ry with
      | tup a' r' =>
        rename_i xs ys p vs q ws
        refine .inr (.inr (.inr ⟨p, q, vs, ws, rfl, rfl, Same.seqT st.sub a, Same.seqT st.sub a', by rw [r.length, r'.length]; exact h.1, fun e => ?_, fun e e' => ?_, fun e e' z hz => ?_⟩))
        · subst e
          cases r
          exact h.2 _ I H st.stp (.tup a' (by simpa using r'))
        · subst e'
          cases r'
          exact h.2 _ I H st.stp (.tup a (by simpa using r))
        · have l := st.laid hz (.tup (vs ++ ws))
          exact h.2 _ _ _ l (.tup (.of upd_same) ((r.append r').mono l.i))
  · cases rx with
    | lst a r =>
      cases ry with
      | lst a' r' =>
        rename_i xs ys p vs q ws
        refine .inr (.inr (.inl ⟨p, q, vs, ws, rfl, rfl, st.sub _ _ a, st.sub _ _ a', by rw [r.length, r'.length]; exact h.1, fun z hz => ?_⟩))
        have l := st.laid hz (.lst (vs ++ ws))
        exact h.2 _ _ _ l (.lst upd_same ((r.append r').mono l.i))
theorem lf_int {R : R2} {r : D → D → (D → Prop) → Prop} {C : Int → Int → Prop} {g : Int → Int → Int} (hR : R = rI C fun i j => .int (g i j)) (hr : ∀ x y Q, r x y Q → ∃ i j, x = .int i ∧ y = .int j ∧ C i j ∧ Q (.int (g i j))) : LiftR F K R r := by
  intro x y dx dy I H Q st rx ry h
  obtain ⟨i, j, rfl, rfl, c, q⟩ := hr _ _ _ h
  cases rx; cases ry
  rw [hR]
  exact ⟨i, j, rfl, rfl, c, q _ I H st.stp (.int _)⟩
theorem lf_sub : LiftR F K (rI0 fun i j => .int (i - j)) subD := by
  intro x y dx dy I H Q st rx ry h
  cases dx <;> cases dy <;> first | exact h.elim | skip
  cases rx; cases ry
  exact ⟨_, _, rfl, rfl, h _ I H st.stp (.int _)⟩
theorem lf_fdiv : LiftR F K (rI CDivW fun i j => .int (i / j)) fdivD := lf_int (C := CDivW) (g := fun i j => i / j) rfl fun x y Q h => by
  cases x <;> cases y <;> first | exact h.elim | exact ⟨_, _, rfl, rfl, h.1, h.2⟩
theorem lf_mod : LiftR F K (rI (fun _ j => 0 < j) fun i j => .int (i % j)) modD := lf_int (C := fun _ j => 0 < j) (g := fun i j => i % j) rfl fun x y Q h => by
  cases x <;> cases y <;> first | exact h.elim | exact ⟨_, _, rfl, rfl, h.1, h.2⟩
theorem lf_pow : LiftR F K (rI CPow fun i j => .int (i ^ j.toNat)) powD := lf_int (C := CPow) (g := fun i j => i ^ j.toNat) rfl fun x y Q h => by
  cases x <;> cases y <;> first | exact h.elim | exact ⟨_, _, rfl, rfl, h.1, h.2⟩
theorem Reps.rep {I : Hp} {vs : List V} {ds : List D} (h : Reps K I vs ds) : ∀ n : Nat, Reps K I (List.replicate n vs).flatten (List.replicate n ds).flatten
  | 0 => .nil
  | n + 1 => by rw [List.replicate_succ, List.replicate_succ, List.flatten_cons, List.flatten_cons]; exact h.append (Reps.rep h n)
def RMul : R2 := fun x y H Q => rI CMul (fun i j => .int (i * j)) x y H Q ∨ rRep x y H Q
theorem or_mul : OpR X (binaryOp .Mult) RMul := op_mul.or op_rep
theorem lf_mul : LiftR F K RMul mulD := by
  intro x y dx dy I H Q st rx ry h
  cases dx <;> cases dy <;> first | exact h.elim | skip
  · cases rx; cases ry
    exact .inl ⟨_, _, rfl, rfl, h.1, h.2 _ I H st.stp (.int _)⟩
  · cases ry
    cases rx with
    | lst a r =>
      rename_i xs k p vs
      refine .inr ⟨p, k, vs, rfl, rfl, st.sub _ _ a, h.1, h.2.1, by rw [r.length]; exact h.2.2.1, fun z hz => ?_⟩
      have l := st.laid hz (.lst (List.replicate k.toNat vs).flatten)
      exact h.2.2.2 _ _ _ l (.lst upd_same ((r.rep _).mono l.i))
/-- comparisons -/
theorem lf_cmp {R : R2} {r : D → D → (D → Prop) → Prop} {g : Int → Int → Bool} {g' : Str → Str → Bool} (hR : R = fun x y H Q => rI0 (fun i j => .bl (g i j)) x y H Q ∨ ∃ i j, x = .str i ∧ y = .str j ∧ Q (.bl (g' i j)) H)
    (hr : ∀ x y Q, r x y Q → (∃ i j, x = .int i ∧ y = .int j ∧ Q (.bl (g i j))) ∨ ∃ i j, x = .str i ∧ y = .str j ∧ Q (.bl (g' i j))) : LiftR F K R r := by
  intro x y dx dy I H Q st rx ry h
  rw [hR]
  rcases hr _ _ _ h with ⟨i, j, rfl, rfl, q⟩ | ⟨i, j, rfl, rfl, q⟩
  · cases rx; cases ry
    exact .inl ⟨i, j, rfl, rfl, q _ I H st.stp (.bl _)⟩
  · cases rx; cases ry
    exact .inr ⟨i, j, rfl, rfl, q _ I H st.stp (.bl _)⟩
def RLt : R2 := fun x y H Q => rI0 (fun i j => .bl (decide (i < j))) x y H Q ∨ ∃ i j, x = .str i ∧ y = .str j ∧ Q (.bl (decide (i.cps.toList < j.cps.toList))) H
def RLe : R2 := fun x y H Q => rI0 (fun i j => .bl (decide (i ≤ j))) x y H Q ∨ ∃ i j, x = .str i ∧ y = .str j ∧ Q (.bl (!decide (j.cps.toList < i.cps.toList))) H
def RGt : R2 := fun x y H Q => rI0 (fun i j => .bl (decide (j < i))) x y H Q ∨ ∃ i j, x = .str i ∧ y = .str j ∧ Q (.bl (decide (j.cps.toList < i.cps.toList))) H
def RGe : R2 := fun x y H Q => rI0 (fun i j => .bl (decide (j ≤ i))) x y H Q ∨ ∃ i j, x = .str i ∧ y = .str j ∧ Q (.bl (!decide (i.cps.toList < j.cps.toList))) H
theorem or_lt : OpR X (compareOp .Lt) RLt := op_lt.or op_lt_str
theorem or_le : OpR X (compareOp .LtE) RLe := op_le.or op_le_str
theorem or_gt : OpR X (compareOp .Gt) RGt := op_gt.or op_gt_str
theorem or_ge : OpR X (compareOp .GtE) RGe := op_ge.or op_ge_str
theorem lf_lt : LiftR F K RLt ltD := lf_cmp rfl fun x y Q h => by cases x <;> cases y <;> first | exact h.elim | exact .inl ⟨_, _, rfl, rfl, h⟩ | exact .inr ⟨_, _, rfl, rfl, h⟩
theorem lf_le : LiftR F K RLe leD := lf_cmp rfl fun x y Q h => by cases x <;> cases y <;> first | exact h.elim | exact .inl ⟨_, _, rfl, rfl, h⟩ | exact .inr ⟨_, _, rfl, rfl, h⟩
theorem lf_gt : LiftR F K RGt gtD := lf_cmp rfl fun x y Q h => by cases x <;> cases y <;> first | exact h.elim | exact .inl ⟨_, _, rfl, rfl, h⟩ | exact .inr ⟨_, _, rfl, rfl, h⟩
theorem lf_ge : LiftR F K RGe geD := lf_cmp rfl fun x y Q h => by cases x <;> cases y <;> first | exact h.elim | exact .inl ⟨_, _, rfl, rfl, h⟩ | exact .inr ⟨_, _, rfl, rfl, h⟩
/-- ==, != -/
def REq (K : PySem.W.Frag) : R2 := fun x y H Q => rEq x y H Q ∨ rEqD K x y H Q
def RNe (K : PySem.W.Frag) : R2 := fun x y H Q => rNe x y H Q ∨ rNeD K x y H Q
theorem or_eq (hu : X.A.units + 64 < cLine) : OpR X (compareOp .Eq) (REq X.K) := op_eq.or (op_eqD hu)
theorem or_ne (hu : X.A.units + 64 < cLine) : OpR X (compareOp .NotEq) (RNe X.K) := op_ne.or (op_neD hu)
theorem can_scal {I : Hp} {x y : V} {dx dy : D} (rx : Rep K I x dx) (ry : Rep K I y dy) (h : canEq x' y' = true) (ex : x' = dx) (ey : y' = dy) : (scal x y = true ∧ decide (x = y) = deq dx dy) ∨ (okE dx = true ∧ okE dy = true) := by
  subst ex ey
  unfold canEq at h
  rw [Bool.or_eq_true] at h
  rcases h with h | h
  · left
    rw [Bool.and_eq_true, Bool.and_eq_true] at h
    obtain ⟨⟨s1, s2⟩, s3⟩ := h
    exact scal_of rx ry s1 s2 (by simpa using s3)
  · rw [Bool.and_eq_true] at h
    exact .inr h
theorem okE_split {d : D} (h : okE d = true) : plainD d = true ∧ SeqAt.shaped (toPy d) = true := by
  unfold okE at h
  rw [Bool.and_eq_true] at h
  exact h
theorem lf_eq : LiftR F K (REq K) eqD := by
  intro x y dx dy I H Q st rx ry h
  rcases can_scal rx ry h.1 rfl rfl with ⟨s, e⟩ | ⟨s, s'⟩
  · exact .inl ⟨s, by rw [e]; exact h.2 _ I H st.stp (.bl _)⟩
  · exact .inr ⟨_, _, rx.dp st.sub (okE_split s).1, ry.dp st.sub (okE_split s').1, (okE_split s).2, (okE_split s').2, h.2 _ I H st.stp (.bl _)⟩
theorem lf_ne : LiftR F K (RNe K) neD := by
  intro x y dx dy I H Q st rx ry h
  rcases can_scal rx ry h.1 rfl rfl with ⟨s, e⟩ | ⟨s, s'⟩
  · exact .inl ⟨s, by rw [e]; exact h.2 _ I H st.stp (.bl _)⟩
  · exact .inr ⟨_, _, rx.dp st.sub (okE_split s).1, ry.dp st.sub (okE_split s').1, (okE_split s).2, (okE_split s').2, h.2 _ I H st.stp (.bl _)⟩
end
section
variable {F : Fx} {X : Cx} {a b c : Expr} {ta tb tc : DT} {pos : Pos}
theorem de_add (ha : DE F X a ta) (hb : DE F X b tb) : DE F X (.BinOp a .Add b pos) (fun ρ Q => ta ρ fun x => tb ρ fun y => addD x y Q) := de_op mono_add or_add lf_add ha hb
theorem de_sub (ha : DE F X a ta) (hb : DE F X b tb) : DE F X (.BinOp a .Sub b pos) (fun ρ Q => ta ρ fun x => tb ρ fun y => subD x y Q) := de_op mono_sub op_sub lf_sub ha hb
theorem de_mul (ha : DE F X a ta) (hb : DE F X b tb) : DE F X (.BinOp a .Mult b pos) (fun ρ Q => ta ρ fun x => tb ρ fun y => mulD x y Q) := de_op mono_mul or_mul lf_mul ha hb
theorem de_fdiv (ha : DE F X a ta) (hb : DE F X b tb) : DE F X (.BinOp a .FloorDiv b pos) (fun ρ Q => ta ρ fun x => tb ρ fun y => fdivD x y Q) := de_op mono_fdiv op_fdivW lf_fdiv ha hb
theorem de_mod (ha : DE F X a ta) (hb : DE F X b tb) : DE F X (.BinOp a .Mod b pos) (fun ρ Q => ta ρ fun x => tb ρ fun y => modD x y Q) := de_op mono_mod op_mod lf_mod ha hb
theorem de_pow (ha : DE F X a ta) (hb : DE F X b tb) : DE F X (.BinOp a .Pow b pos) (fun ρ Q => ta ρ fun x => tb ρ fun y => powD x y Q) := de_op mono_pow op_pow lf_pow ha hb
/-- comparisons by their sign -/
inductive Cmp (X : Cx) : CmpOp → R2 → (D → D → (D → Prop) → Prop) → Prop
  | lt : Cmp X .Lt RLt ltD
  | le : Cmp X .LtE RLe leD
  | gt : Cmp X .Gt RGt gtD
  | ge : Cmp X .GtE RGe geD
  | eq (hu : X.A.units + 64 < cLine) : Cmp X .Eq (REq X.K) eqD
  | ne (hu : X.A.units + 64 < cLine) : Cmp X .NotEq (RNe X.K) neD
theorem Cmp.mono {op : CmpOp} {R : R2} {r} (h : Cmp X op R r) : Mono2 r := by
  cases h
  · exact mono_lt
  · exact mono_le
  · exact mono_gt
  · exact mono_ge
  · exact mono_eq
  · exact mono_ne
theorem Cmp.op {op : CmpOp} {R : R2} {r} (h : Cmp X op R r) : OpR X (compareOp op) R := by
  cases h with
  | lt => exact or_lt
  | le => exact or_le
  | gt => exact or_gt
  | ge => exact or_ge
  | eq hu => exact or_eq hu
  | ne hu => exact or_ne hu
theorem Cmp.lf {op : CmpOp} {R : R2} {r} (h : Cmp X op R r) : LiftR F X.K R r := by
  cases h
  · exact lf_lt
  · exact lf_le
  · exact lf_gt
  · exact lf_ge
  · exact lf_eq
  · exact lf_ne
theorem de_c {op : CmpOp} {R : R2} {r} (h : Cmp X op R r) (ha : DE F X a ta) (hb : DE F X b tb) (hm : behindInMarks op b = false := by first | exact nomark _ | rfl) : DE F X (.Compare a [op] [b] pos) (fun ρ Q => ta ρ fun x => tb ρ fun y => r x y Q) := de_cmp h.mono h.op h.lf ha hb hm
theorem dt_c {op : CmpOp} {R : R2} {r} (h : Cmp X op R r) (ha : DE F X a ta) (hb : DE F X b tb) (hm : behindInMarks op b = false := by first | exact nomark _ | rfl) : DTest F X (.Compare a [op] [b] pos) (fun ρ Q => ta ρ fun x => tb ρ fun y => r x y fun z => boolD z Q) := dt_cmp h.mono h.op h.lf ha hb hm
end
end Dk

/-! A def's promise where the codes under way are known: no repr runs when it is called (so its own repr calls are told). -/
namespace Dk
open PySem L2
open PyProof.Rows (envOfC)
structure Rm (k : Nat) (A : Around) : Prop where
  room : Room k A
  gd : A.guards = some []
theorem Rm.mono {j k : Nat} {A : Around} (r : Rm k A) (h : j ≤ k) : Rm j A := ⟨r.room.mono h, r.gd⟩
theorem Rm.deeper {k : Nat} {A : Around} (r : Rm (k + 1) A) (env : Env) : Rm k (A.deeper env) := ⟨r.room.deeper env, r.gd⟩
theorem Rm.units {k : Nat} {A : Around} (r : Rm k A) : A.units + 64 < cLine := r.room.units
section
variable {P : Program} {w : World} {K : PySem.W.Frag} {mg : Str → Option Value} {base : Heap} {CX : CXT} {k j : Nat} {f : Addr} {fd : FuncData} {N ps : List Str} {sp sp' : Sp}
structure GnOk (P : Program) (w : World) (K : PySem.W.Frag) (mg : Str → Option Value) (base : Heap) (CX : CXT) (k : Nat) (f : Addr) (fd : FuncData) (ps : List Str) (sp : Sp) : Prop where
  lens : ∀ vs H Q E, sp vs H Q E → vs.length = ps.length
  go : ∀ (A : Around) (below : List Env) (s : Shared) (H : Hp) (given : Args) (us : List Value) (vs : List V) (Q : VK) (E : XK), Rm k A → Env0 P w K mg base A below s H → BindsTo s fd given (ps.zip us) → Vals vs us → sp vs H Q E → codeAny (model P w) A (.call (.ref f) given) (CR CX below P w H s Q E) s
theorem GnOk.mono (F : GnOk P w K mg base CX j f fd ps sp) (h : j ≤ k) : GnOk P w K mg base CX k f fd ps sp := ⟨F.lens, fun A o s H g us vs Q E hr => F.go A o s H g us vs Q E (hr.mono h)⟩
theorem GnOk.weak (F : GnOk P w K mg base CX k f fd ps sp) (h : ∀ vs H Q E, sp' vs H Q E → sp vs H Q E) : GnOk P w K mg base CX k f fd ps sp' :=
  ⟨fun vs H Q E q => F.lens vs H Q E (h _ _ _ _ q), fun A o s H g us vs Q E hr he hb hv q => F.go A o s H g us vs Q E hr he hb hv (h _ _ _ _ q)⟩
theorem _root_.L2.FnOk.gn (F : FnOk P w K mg base CX k f fd ps sp) : GnOk P w K mg base CX k f fd ps sp := ⟨F.len, fun A o s H g us vs Q E hr => F.run A o s H g us vs Q E hr.room⟩
/-- a def by its body -/
theorem gn_of {name qual : Str} {params : Arguments} {body : List Stmt} {scope : Scope} {dV kV doc pm cdv ct oc : Value} {an od : Option Addr} {osl : Array (Option Value)}
    (hlk : K.lookup f = some ⟨oc, od, .func (PySem.W.fnOf name qual params body scope dV kV doc pm an cdv ct), osl⟩) (hcode : PySem.W.codeIn K cdv qual = true) (Sc : FnScope N ps scope) (hlen : ∀ vs H Q E, sp vs H Q E → vs.length = ps.length)
    (hb : ∀ (A : Around) (below : List Env) (s : Shared) (H : Hp) (vs : List V) (Q : VK) (E : XK), Rm k (A.deeper (envOfC qual scope s.heap.objs.size f cdv)) → sp vs H Q E →
      ∃ t, PSs (cxOf CX P w K mg base N qual scope f cdv A below s H E) body t ∧ t { nx := fun _ H' => Q .non H', rt := Q } (L2.start N vs) H) :
    GnOk P w K mg base CX (k + 1) f (PySem.W.fnOf name qual params body scope dV kV doc pm an cdv ct) ps sp := by
  refine ⟨hlen, fun A below s H given us vs Q E hr e0 hbnd rv hs => ?_⟩
  have hvs := hlen _ _ _ _ hs
  have hK : K.In s.heap := e0.mod.kin.keeps fun b o e => (e0.bs b o e).1
  have hLim : s.heap.NoLimit := e0.mod.nolimit.keeps fun b o e => (e0.bs b o e).1
  have kinds : ∀ y ∈ ps.zip us, scope.names.lookup y.1 = some .local ∨ (scope.names.lookup y.1 = some .cell ∧ ((cellsFrom (s.heap.objs.size + 1) scope.names []).lookup y.1).isSome = true) := by
    rintro ⟨n, v⟩ hy
    rcases Sc.par n (List.of_mem_zip hy).1 with q | q
    · left; exact q
    · right; exact ⟨q, PySem.W.cellsFrom_some _ _ _ (.inl q)⟩
  refine codeAny_call_function hr.room.depth (hK _ _ hlk) rfl Sc.co Sc.gen rfl (PySem.W.codeRec_of hK hcode) (hbnd _ _ _ _ (wpAny_newFunctionEnv_cells Sc.kind kinds fun env he s1 x => ?_))
  subst he
  refine ⟨hLim.keeps x.toInCall.keep, codeAny_func ?_⟩
  obtain ⟨t, h1, h2⟩ := hb A below s H vs Q E (hr.deeper _) hs
  have J : Inv (cxOf CX P w K mg base N qual scope f cdv A below s H E) [] (L2.start N vs) H s1 := inv_start Sc hr.room.hd e0 hvs rv x
  have done : ∀ {σ' : St} {H' : Hp} {v : V} {u : Value} {s' : Shared}, Inv (cxOf CX P w K mg base N qual scope f cdv A below s H E) [] σ' H' s' → RelV v u → Q v H' → CE below P w H s Q u s' := fun {σ' H' v u s'} J rv q => ⟨v, H', J.os, J.bare, J.base, J.hok, rv, q⟩
  refine wpAny_mono (h1.run [] s1 (L2.start N vs) H _ J h2) (fun fl s' h => ?_) fun e s' h => h
  cases fl with
  | next => obtain ⟨σ', H', J', q⟩ := h; exact done (v := V.non) (u := Value.none) J' rfl q
  | ret u => obtain ⟨v, σ', H', J', rv', q⟩ := h; exact done J' rv' q
  | brk => obtain ⟨_, _, _, q⟩ := h; exact q.elim
  | cont => obtain ⟨_, _, _, q⟩ := h; exact q.elim
end
/-! ### calls of it -/
section
variable {X : Cx} {CX : CXT} {k n : Nat} {f : Addr} {fd : FuncData} {ps ks : List Str} {sp : Sp} {E : XK} {ds : List Value} {dvs : List V} {g : List Value → List Value → List Value} {gV : List V → List V → List V}
theorem gn_go {pins : List (Addr × Obj)} {σ : St} {H : Hp} {s : Shared} {Q : VK} {us as : List Value} {kw : List (Str × Value)} {vs : List V} (F : GnOk X.prog X.w X.K X.mg X.base CX k f fd ps sp) (hr : Rm k X.A) (hx : Passes CX X E) (J : Inv X pins σ H s)
    (hb : BindsTo s fd ⟨as, kw⟩ (ps.zip us)) (r : Vals vs us) (h : sp vs H Q E) : wpAny (model X.prog X.w) X.A (call (.ref f) as kw) (EP X pins σ Q) X.xe s := by
  refine wpAny_call (codeAny_mono (F.go X.A X.stack s H _ us vs Q E hr J.env0 hb r h) fun r s' q => ?_)
  cases r with
  | error e => exact hx pins σ H s e s' J q
  | ok fl => cases fl with
    | ret u => exact J.after q
    | next => exact q.elim
    | brk => exact q.elim
    | cont => exact q.elim
theorem gn_pos {pins : List (Addr × Obj)} {σ : St} {H : Hp} {s : Shared} {Q : VK} {us : List Value} {vs : List V} (F : GnOk X.prog X.w X.K X.mg X.base CX k f fd ps sp) (hr : Rm k X.A) (hb : Binds X.K fd ps ds) (hd : Vals dvs ds) (hx : Passes CX X E)
    (J : Inv X pins σ H s) (r : Vals vs us) (h : sp (vs ++ dvs) H Q E) : wpAny (model X.prog X.w) X.A (call (.ref f) us) (EP X pins σ Q) X.xe s := by
  have r2 : Vals (vs ++ dvs) (us ++ ds) := r.append hd
  exact gn_go F hr hx J (hb s us J.kIn (r2.length.symm.trans (F.lens _ _ _ _ h))) r2 h
theorem gn_key {pins : List (Addr × Obj)} {σ : St} {H : Hp} {s : Shared} {Q : VK} {us ws : List Value} {vs zs : List V} (F : GnOk X.prog X.w X.K X.mg X.base CX k f fd ps sp) (hr : Rm k X.A) (hb : KBn X.K fd ps n ks g gV) (hx : Passes CX X E)
    (J : Inv X pins σ H s) (r : Vals vs us) (rz : Vals zs ws) (l1 : vs.length = n) (l2 : zs.length = ks.length) (h : sp (gV vs zs) H Q E) : wpAny (model X.prog X.w) X.A (call (.ref f) us (ks.zip ws)) (EP X pins σ Q) X.xe s :=
  gn_go F hr hx J (hb.to s us ws J.kIn (r.length.symm.trans l1) (rz.length.symm.trans l2)) (hb.rel r rz) h
variable {x : Str} {p pos : Pos} {e : Expr} {es : List Expr} {kws : List Keyword} {t tk : TA}
theorem gn_call (F : GnOk X.prog X.w X.K X.mg X.base CX k f fd ps sp) (hr : Rm k X.A) (hg : Gl X x) (hm : X.mg x = some (.ref f)) (hkp : PySem.W.keepIn X.K (.ref f) = true) (hb : Binds X.K fd ps ds) (hd : Vals dvs ds) (hx : Passes CX X E) (ha : PA X (e :: es) t)
    (hdb : (x == ("__debug__" : Str)) = false) (he : starEach (e :: es) X.env = (false, eval e X.env) :: starEach es X.env) (hpl : (backTo pos (starEach es X.env)).any (·.1) = false) : PE X (.Call (.Name x p) (e :: es) [] pos) (tCall sp dvs E t) :=
  ⟨fun pins s σ H Q J h => wpAny_Call_Name_kw (ld_glob J hg hm (PySem.W.callWith_K (h₀ := X.base) J.ok.mod.kin hkp (thn (ha.run pos pins s σ H _ J h) fun us s1 ⟨vs, H1, J1, r, q⟩ => ⟨J1.kIn, gn_pos F hr hb hd hx J1 r q⟩) he hpl) hdb)⟩
theorem gn_call0 (F : GnOk X.prog X.w X.K X.mg X.base CX k f fd ps sp) (hr : Rm k X.A) (hg : Gl X x) (hm : X.mg x = some (.ref f)) (hkp : PySem.W.keepIn X.K (.ref f) = true) (hb : Binds X.K fd ps ds) (hd : Vals dvs ds) (hx : Passes CX X E)
    (hdb : (x == ("__debug__" : Str)) = false) : PE X (.Call (.Name x p) [] [] pos) (tCall sp dvs E tNil) :=
  ⟨fun pins s σ H Q J h => wpAny_Call_Name_kw (ld_glob J hg hm (PySem.W.callWith_K0 J.kIn hkp (gn_pos (us := []) F hr hb hd hx J .nil h)) hdb)⟩
theorem gn_callN (F : GnOk X.prog X.w X.K X.mg X.base CX k f fd ps sp) (hr : Rm k X.A) (hg : Gl X x) (hm : X.mg x = some (.ref f)) (hkp : PySem.W.keepIn X.K (.ref f) = true) (hb : KBn X.K fd ps n ks g gV) (hx : Passes CX X E) (ha : PA X (e :: es) t) (hkw : PK X kws tk)
    (hall : (backToKw pos (keywordEach kws X.env)).all (·.1.isSome) = true) (hks : (backToKw pos (keywordEach kws X.env)).filterMap (·.1) = ks) (hdb : (x == ("__debug__" : Str)) = false) (he : starEach (e :: es) X.env = (false, eval e X.env) :: starEach es X.env)
    (hpl : ((backTo pos (starEach (e :: es) X.env)).any (·.1) || (backToKw pos (keywordEach kws X.env)).any (·.1.isNone)) = false) : PE X (.Call (.Name x p) (e :: es) kws pos) (tCallN n ks.length sp gV E t tk) := by
  refine ⟨fun pins s σ H Q J h => wpAny_Call_Name_kw (ld_glob J hg hm ?_ hdb)⟩
  refine PySem.W.callWith_KW (h₀ := X.base) J.ok.mod.kin hkp hall (thn (ha.run pos pins s σ H _ J h) fun us s1 ⟨vs, H1, J1, r, q⟩ => ?_) hpl he
  refine thn (hkw.run pos pins s1 σ H1 _ J1 q) fun ws s2 ⟨zs, H2, J2, rz, l1, l2, q2⟩ => ⟨J2.kIn, ?_⟩
  rw [hks]
  exact gn_key F hr hb hx J2 r rz l1 l2 q2
theorem gn_callK0 (F : GnOk X.prog X.w X.K X.mg X.base CX k f fd ps sp) (hr : Rm k X.A) (hg : Gl X x) (hm : X.mg x = some (.ref f)) (hkp : PySem.W.keepIn X.K (.ref f) = true) (hb : KBn X.K fd ps 0 ks g gV) (hx : Passes CX X E) (hkw : PK X kws tk)
    (hall : (backToKw pos (keywordEach kws X.env)).all (·.1.isSome) = true) (hks : (backToKw pos (keywordEach kws X.env)).filterMap (·.1) = ks) (hdb : (x == ("__debug__" : Str)) = false)
    (hpl : ((backTo pos (starEach [] X.env)).any (·.1) || (backToKw pos (keywordEach kws X.env)).any (·.1.isNone)) = false) : PE X (.Call (.Name x p) [] kws pos) (fun σ H Q => tk σ H fun zs H2 => zs.length = ks.length ∧ sp (gV [] zs) H2 Q E) := by
  refine ⟨fun pins s σ H Q J h => wpAny_Call_Name_kw (ld_glob J hg hm ?_ hdb)⟩
  refine PySem.W.callWith_KW0 (h₀ := X.base) J.ok.mod.kin hkp hall (thn (hkw.run pos pins s σ H _ J h) fun ws s2 ⟨zs, H2, J2, rz, l, q⟩ => ⟨J2.kIn, ?_⟩) hpl
  rw [hks]
  exact gn_key (us := []) (vs := []) F hr hb hx J2 .nil rz rfl l q
end
end Dk

namespace Dk
open PySem L2
open PyProof.Rows (envOfC)

/-! ### what a def promises over data -/
/-- an exception: its class, its fields -/
structure Ex where
  cls : Value
  flds : List (Str × D)
def ExRep (K : PySem.W.Frag) (I H : Hp) (cls : Value) (d : Option Addr) (x : Ex) : Prop :=
  cls = x.cls ∧ ((x.flds = [] ∧ d = none) ∨ ∃ dd fs, d = some dd ∧ I dd = some (.xd fs) ∧ fs.map (·.1) = x.flds.map (·.1) ∧ Reps K I (fs.map (·.2)) (x.flds.map (·.2)))
def finX (W : Wd) (K : PySem.W.Frag) (I H : Hp) (E : XK) : Ex → Prop := fun x => ∀ cls d I' H', Stp W I H I' H' → ExRep K I' H' cls d x → E cls d H'
structure DSp where
  n : Nat
  f : List D → (D → Prop) → (Ex → Prop) → Prop
  len : ∀ ds Q E, f ds Q E → ds.length = n
  mono : ∀ ds (Q Q' : D → Prop) (E E' : Ex → Prop), (∀ d, Q d → Q' d) → (∀ x, E x → E' x) → f ds Q E → f ds Q' E'
def spD (W : Wd) (K : PySem.W.Frag) (S : DSp) : Sp := fun vs H Q E => ∃ I ds, StI W I H ∧ Reps K I vs ds ∧ S.f ds (fin ⟨W, H, I⟩ K I H Q) (finX W K I H E)
theorem spD_len {W : Wd} {K : PySem.W.Frag} {S : DSp} : ∀ vs H Q E, spD W K S vs H Q E → vs.length = S.n := fun vs H Q E ⟨I, ds, _, r, h⟩ => r.length.trans (S.len _ _ _ h)

/-! ### calls -/
section
variable {F : Fx} {X : Cx} {K : PySem.W.Frag} {I H : Hp} {ρ : DEnv} {σ : St} {CX : CXT} {k : Nat} {f C : Addr} {fd : FuncData} {ps : List Str} {S : DSp} {E : XK} {x m : Str} {p pos apos : Pos} {e o : Expr} {es : List Expr} {ta : DT} {t : DAT}
def Lets (F : Fx) (K : PySem.W.Frag) (Ed : Ex → Prop) (E : XK) : Prop := ∀ I H, Stp F.W F.I0 F.B I H → ∀ x, Ed x → finX F.W K I H E x
theorem lets0 : Lets F K (fun _ => False) E := fun _ _ _ _ h => h.elim
/-- what leaves a def is what the def's caller wants -/
theorem letsX : Lets F K (finX F.W K F.I0 F.B E) E := fun I H s x h cls d I' H' s' r => h cls d I' H' (s.trans s') r
theorem call_run {Ed : Ex → Prop} (le : Lets F K Ed E) (mono : ∀ ρ (Q Q' : List D → Prop), (∀ d, Q d → Q' d) → t ρ Q → t ρ Q') {Q : VK} (h : rdE F K (fun ρ Q => t ρ fun ds => S.f ds Q Ed) σ H Q) : rdA F K t σ H fun vs H1 => spD F.W K S vs H1 Q E := by
  obtain ⟨I, ρ, A, h⟩ := h
  refine rdA_next mono A h fun ds vs I' H' p s rs => ?_
  refine ⟨I', ds, s.st, rs, S.mono _ _ _ _ _ (fun d q v I2 H2 s2 rv => q v I2 H2 (s.trans s2) rv) (le I' H' (A.stp.trans s)) p⟩
theorem de_call {Ed : Ex → Prop} (Fn : GnOk X.prog X.w X.K X.mg X.base CX k f fd ps (spD F.W X.K S)) (hr : Rm k X.A) (hm : X.mg x = some (.ref f)) (hk : PySem.W.keepIn X.K (.ref f) = true) (hb : Binds X.K fd ps []) (hx : Passes CX X E) (le : Lets F X.K Ed E) (ha : DA F X (e :: es) t)
    (hg : Gl X x := by rfl) (hdb : (x == ("__debug__" : Str)) = false := by decide) (he : starEach (e :: es) X.env = (false, eval e X.env) :: starEach es X.env := by rfl) (hpl : (backTo pos (starEach es X.env)).any (·.1) = false := by rfl) :
    DE F X (.Call (.Name x p) (e :: es) [] pos) (fun ρ Q => t ρ fun ds => S.f ds Q Ed) := by
  refine ⟨fun ρ Q Q' k h => ha.mono _ _ _ (fun d h => S.mono _ _ _ _ _ k (fun _ h => h) h) h, (gn_call Fn hr hg hm hk hb .nil hx ha.run hdb he hpl).imp fun σ H Q h => ?_⟩
  have h := call_run le ha.mono h
  show rdA F X.K t σ H fun vs H1 => spD F.W X.K S (vs ++ []) H1 Q E
  simpa using h
theorem de_call0 {Ed : Ex → Prop} (Fn : GnOk X.prog X.w X.K X.mg X.base CX k f fd ps (spD F.W X.K S)) (hr : Rm k X.A) (hm : X.mg x = some (.ref f)) (hk : PySem.W.keepIn X.K (.ref f) = true) (hb : Binds X.K fd ps []) (hx : Passes CX X E) (le : Lets F X.K Ed E)
    (hg : Gl X x := by rfl) (hdb : (x == ("__debug__" : Str)) = false := by decide) : DE F X (.Call (.Name x p) [] [] pos) (fun ρ Q => S.f [] Q Ed) := by
  refine ⟨fun ρ Q Q' k h => S.mono _ _ _ _ _ k (fun _ h => h) h, (gn_call0 Fn hr hg hm hk hb .nil hx hdb).imp fun σ H Q ⟨I, ρ, A, h⟩ => ?_⟩
  refine ⟨I, [], A.st, .nil, S.mono _ _ _ _ _ (fun d q v I2 H2 s2 rv => q v I2 H2 s2 rv) (le I H A.stp) h⟩
/-- a built-in function, by its rule over data -/
def LiftC (F : Fx) (K : PySem.W.Frag) (R : List V → Hp → VK → Prop) (r : List D → (D → Prop) → Prop) : Prop :=
  ∀ (vs : List V) (ds : List D) (I H : Hp) (Q : VK), StI F.W I H → Reps K I vs ds → r ds (fin F K I H Q) → R vs H Q
variable {R : List V → Hp → VK → Prop} {r : List D → (D → Prop) → Prop} {id T : String}
theorem blt_run (mr : MonoN r) (l : LiftC F K R r) (mono : ∀ ρ (Q Q' : List D → Prop), (∀ d, Q d → Q' d) → t ρ Q → t ρ Q') {Q : VK} (h : rdE F K (fun ρ Q => t ρ fun ds => r ds Q) σ H Q) : rdA F K t σ H fun vs H1 => R vs H1 Q := by
  obtain ⟨I, ρ, A, h⟩ := h
  exact rdA_next mono A h fun ds vs I' H' p s rs => l vs ds I' H' Q s.st rs (mr _ _ _ (fun d q => q.of s) p)
theorem de_callB (mr : MonoN r) (l : LiftC F X.K R r) (hc : CallR X (.builtin id) R) (hm : X.mg x = none) (hv : bootBuiltins x = some (.builtin id)) (ha : DA F X (e :: es) t) (hg : Gl X x := by rfl) (hn : x ≠ "__name__" := by decide) (hdb : (x == ("__debug__" : Str)) = false := by decide)
    (he : starEach (e :: es) X.env = (false, eval e X.env) :: starEach es X.env := by rfl) (hpl : (backTo pos (starEach es X.env)).any (·.1) = false := by rfl) : DE F X (.Call (.Name x p) (e :: es) [] pos) (fun ρ Q => t ρ fun ds => r ds Q) :=
  ⟨fun ρ Q Q' k h => ha.mono _ _ _ (fun d h => mr _ _ _ k h) h, (pe_callB hc hg hm hv ha.run hn hdb he hpl).imp fun σ H Q h => blt_run mr l ha.mono h⟩
theorem de_callT (mr : MonoN r) (l : LiftC F X.K R r) (hc : CallR X (.type T) R) (hm : X.mg x = none) (hv : bootBuiltins x = some (.type T)) (ha : DA F X (e :: es) t) (hg : Gl X x := by rfl) (hn : x ≠ "__name__" := by decide) (hdb : (x == ("__debug__" : Str)) = false := by decide)
    (he : starEach (e :: es) X.env = (false, eval e X.env) :: starEach es X.env := by rfl) (hpl : (backTo pos (starEach es X.env)).any (·.1) = false := by rfl) : DE F X (.Call (.Name x p) (e :: es) [] pos) (fun ρ Q => t ρ fun ds => r ds Q) :=
  ⟨fun ρ Q Q' k h => ha.mono _ _ _ (fun d h => mr _ _ _ k h) h, (pe_callTy hc hg hm hv ha.run hn hdb he hpl).imp fun σ H Q h => blt_run mr l ha.mono h⟩
end

/-! ### statements -/
structure DEnds where
  nx : DEnv → Prop
  rt : D → Prop
  bk : DEnv → Prop
  ct : DEnv → Prop
  /-- a list of our own is handed back -/
  ro : List D → Prop
structure DEnds.le (a b : DEnds) : Prop where
  nx : ∀ ρ, a.nx ρ → b.nx ρ
  rt : ∀ d, a.rt d → b.rt d
  bk : ∀ ρ, a.bk ρ → b.bk ρ
  ct : ∀ ρ, a.ct ρ → b.ct ρ
  ro : ∀ ds, a.ro ds → b.ro ds
abbrev DTS := DEnds → DEnv → Prop
def ends (F : Fx) (K : PySem.W.Frag) (I0 : Hp) (Z : Ends) : DEnds where
  nx := fun ρ => ∀ I σ H, Same I0 I → At F K I ρ σ H → Z.nx σ H
  rt := fun d => ∀ v I H, Stp F.W F.I0 F.B I H → Rep K I v d → Z.rt v H
  bk := fun ρ => ∀ I σ H, Same I0 I → At F K I ρ σ H → Z.bk σ H
  ct := fun ρ => ∀ I σ H, Same I0 I → At F K I ρ σ H → Z.ct σ H
  ro := fun ds => ∀ p vs I H, Stp F.W F.I0 F.B I H → H p = none → Reps K I vs ds → Z.rt (.ref p) (upd H p (.lst vs))
def rdS (F : Fx) (K : PySem.W.Frag) (t : DTS) : TS := fun Z σ H => ∃ I ρ, At F K I ρ σ H ∧ t (ends F K I Z) ρ
structure DSt (F : Fx) (X : Cx) (st : Stmt) (t : DTS) : Prop where
  mono : ∀ Z Z' ρ, DEnds.le Z Z' → t Z ρ → t Z' ρ
  run : PS X st (rdS F X.K t)
structure DSts (F : Fx) (X : Cx) (st : List Stmt) (t : DTS) : Prop where
  mono : ∀ Z Z' ρ, DEnds.le Z Z' → t Z ρ → t Z' ρ
  run : PSs X st (rdS F X.K t)
theorem DEnds.le.rfl' {Z : DEnds} : DEnds.le Z Z := ⟨fun _ h => h, fun _ h => h, fun _ h => h, fun _ h => h, fun _ h => h⟩
theorem ends.le {F : Fx} {K : PySem.W.Frag} {I I' : Hp} {Z : Ends} (s : Same I I') : DEnds.le (ends F K I Z) (ends F K I' Z) :=
  ⟨fun _ h J σ H s' => h J σ H (Same.trans s s'), fun _ h => h, fun _ h J σ H s' => h J σ H (Same.trans s s'), fun _ h J σ H s' => h J σ H (Same.trans s s'), fun _ h => h⟩
theorem DEnds.le.withNx {Z Z' : DEnds} (l : DEnds.le Z Z') {a b : DEnv → Prop} (h : ∀ ρ, a ρ → b ρ) : DEnds.le { Z with nx := a } { Z' with nx := b } := ⟨h, l.rt, l.bk, l.ct, l.ro⟩
section
variable {F : Fx} {X : Cx} {K : PySem.W.Frag} {I H I' H' : Hp} {ρ : DEnv} {σ : St} {st : Stmt} {sts : List Stmt} {e c : Expr} {te : DT} {tc : DB} {t u : DTS} {pos : Pos}
theorem dss_nil : DSts F X [] (fun Z ρ => Z.nx ρ) := ⟨fun Z Z' ρ l h => l.nx _ h, pss_nil.imp fun Z σ H ⟨I, ρ, A, h⟩ => h I σ H (Same.refl I) A⟩
theorem dss_cons (h : DSt F X st t) (h' : DSts F X sts u) : DSts F X (st :: sts) (fun Z ρ => t { Z with nx := u Z } ρ) := by
  refine ⟨fun Z Z' ρ l q => h.mono _ _ _ (l.withNx fun ρ => h'.mono _ _ _ l) q, (pss_cons h.run h'.run).imp fun Z σ H ⟨I, ρ, A, q⟩ => ⟨I, ρ, A, h.mono { ends F X.K I Z with nx := u (ends F X.K I Z) } _ _ ⟨fun ρ q I σ H s A => ⟨I, ρ, A, h'.mono _ _ _ (ends.le s) q⟩, fun d q => q, fun ρ q => q, fun ρ q => q, fun d q => q⟩ q⟩⟩
theorem dss_one (h : DSt F X st t) : DSts F X [st] t := ⟨h.mono, pss_one h.run⟩
theorem ds_pass : DSt F X (.Pass pos) (fun Z ρ => Z.nx ρ) := ⟨fun Z Z' ρ l h => l.nx _ h, ps_pass.imp fun Z σ H ⟨I, ρ, A, h⟩ => h I σ H (Same.refl I) A⟩
theorem ds_break : DSt F X (.Break pos) (fun Z ρ => Z.bk ρ) := ⟨fun Z Z' ρ l h => l.bk _ h, ps_break.imp fun Z σ H ⟨I, ρ, A, h⟩ => h I σ H (Same.refl I) A⟩
theorem ds_continue : DSt F X (.Continue pos) (fun Z ρ => Z.ct ρ) := ⟨fun Z Z' ρ l h => l.ct _ h, ps_continue.imp fun Z σ H ⟨I, ρ, A, h⟩ => h I σ H (Same.refl I) A⟩
theorem ds_doc {x : Str} {j : Nat} {pos pos' : Pos} : DSt F X (.Expr (.Constant (.str x) j pos) pos') (fun Z ρ => Z.nx ρ) := ⟨fun Z Z' ρ l h => l.nx _ h, ps_doc.imp fun Z σ H ⟨I, ρ, A, h⟩ => h I σ H (Same.refl I) A⟩
theorem ds_ret (h : DE F X e te) : DSt F X (.Return (some e) pos) (fun Z ρ => te ρ Z.rt) :=
  ⟨fun Z Z' ρ l q => h.mono _ _ _ l.rt q, (ps_ret h.run).imp fun Z σ H ⟨I, ρ, A, q⟩ => rdE_next h.mono A q fun d v I' H' p s rv => p v I' H' (A.stp.trans s) rv⟩
theorem ds_retN : DSt F X (.Return none pos) (fun Z ρ => Z.rt .non) := ⟨fun Z Z' ρ l q => l.rt _ q, ps_retN.imp fun Z σ H ⟨I, ρ, A, q⟩ => q _ I H A.stp .non⟩
theorem ds_expr (h : DE F X e te) (hs : swapsWith e none pos.line X.env = pure false := by rfl) : DSt F X (.Expr e pos) (fun Z ρ => te ρ fun _ => Z.nx ρ) :=
  ⟨fun Z Z' ρ l q => h.mono _ _ _ (fun _ q => l.nx _ q) q, (ps_expr h.run hs).imp fun Z σ H ⟨I, ρ, A, q⟩ => rdE_next h.mono A q fun d v I' H' p s rv => p I' σ H' s.i (A.step s)⟩
theorem ds_if {a b : List Stmt} (hc : DTest F X c tc) (ha : DSts F X a t) (hb : DSts F X b u) : DSt F X (.If c a b pos) (fun Z ρ => tc ρ fun k => if k = true then t Z ρ else u Z ρ) := by
  refine ⟨fun Z Z' ρ l q => hc.mono _ _ _ (fun k q => ?_) q, (ps_if hc.run ha.run hb.run).imp fun Z σ H ⟨I, ρ, A, q⟩ => rdT_next hc.mono A q fun k I' H' p s => ?_⟩
  · cases k
    · exact hb.mono _ _ _ l q
    · exact ha.mono _ _ _ l q
  · cases k
    · exact ⟨I', ρ, A.step s, hb.mono _ _ _ (ends.le s.i) p⟩
    · exact ⟨I', ρ, A.step s, ha.mono _ _ _ (ends.le s.i) p⟩
theorem ds_never : DSt F X st (fun _ _ => False) := ⟨fun _ _ _ _ h => h.elim, ps_never.imp fun Z σ H ⟨I, ρ, A, h⟩ => h.elim⟩
end

/-! ### targets -/
abbrev DGT := D → DEnv → (DEnv → Prop) → Prop
/-- σ' is σ but for the slots of js -/
def Only (js : List Nat) (σ σ' : St) : Prop := σ'.length = σ.length ∧ ∀ i, i ∉ js → σ'[i]? = σ[i]?
def rdG (F : Fx) (K : PySem.W.Frag) (js : List Nat) (g : DGT) : TG := fun v σ H Q => ∃ I ρ d, At F K I ρ σ H ∧ Rep K I v d ∧ g d ρ fun ρ' => ∀ I' σ' H', At F K I' ρ' σ' H' → Stp F.W I H I' H' → Only js σ σ' → Q σ' H'
/-- what is own in ρ' was so in ρ, off the slots of js -/
def Kept (js : List Nat) (ρ ρ' : DEnv) : Prop := ∀ (j : Nat) (e : Ent), ρ'[j]? = some (some e) → e.isOwn → j ∉ js ∧ ρ[j]? = some (some e)
structure DG (F : Fx) (X : Cx) (e : Expr) (js : List Nat) (g : DGT) : Prop where
  mono : ∀ d ρ (Q Q' : DEnv → Prop), (∀ ρ, Q ρ → Q' ρ) → g d ρ Q → g d ρ Q'
  keeps : ∀ d ρ (Q : DEnv → Prop), g d ρ Q → g d ρ fun ρ' => Q ρ' ∧ Kept js ρ ρ'
  run : PG X e (rdG F X.K js g)
abbrev DGTs := List D → DEnv → (DEnv → Prop) → Prop
def rdGs (F : Fx) (K : PySem.W.Frag) (js : List Nat) (g : DGTs) : TGs := fun v σ H Q => ∃ I ρ d, At F K I ρ σ H ∧ Reps K I v d ∧ g d ρ fun ρ' => ∀ I' σ' H', At F K I' ρ' σ' H' → Stp F.W I H I' H' → Only js σ σ' → Q σ' H'
structure DGs (F : Fx) (X : Cx) (e : List Expr) (js : List Nat) (g : DGTs) : Prop where
  mono : ∀ d ρ (Q Q' : DEnv → Prop), (∀ ρ, Q ρ → Q' ρ) → g d ρ Q → g d ρ Q'
  keeps : ∀ d ρ (Q : DEnv → Prop), g d ρ Q → g d ρ fun ρ' => Q ρ' ∧ Kept js ρ ρ'
  run : PGs X e (rdGs F X.K js g)
section
variable {F : Fx} {X : Cx} {K : PySem.W.Frag} {I H I' H' : Hp} {ρ : DEnv} {σ : St} {st : Stmt} {e tg : Expr} {es : List Expr} {te : DT} {g : DGT} {gs : DGTs} {pos : Pos}
theorem _root_.L2.PG.imp {e : Expr} {t u : TG} (h : PG X e t) (i : ∀ v σ H Q, u v σ H Q → t v σ H Q) : PG X e u := ⟨fun pins s σ H v w Q J r q => h.run pins s σ H v w Q J r (i v σ H Q q)⟩
theorem _root_.L2.PGs.imp {e : List Expr} {t u : TGs} (h : PGs X e t) (i : ∀ v σ H Q, u v σ H Q → t v σ H Q) : PGs X e u := ⟨fun pins s σ H v w Q J r q => h.run pins s σ H v w Q J r (i v σ H Q q)⟩
theorem set_at {ρ : DEnv} {i j : Nat} {x : Option Ent} {e : Ent} (h : (ρ.set i x)[j]? = some (some e)) : (i = j ∧ x = some e) ∨ (i ≠ j ∧ ρ[j]? = some (some e)) := by
  by_cases hij : i = j
  · subst hij
    left
    rw [List.getElem?_set] at h
    simp at h
    exact ⟨rfl, h.2⟩
  · rw [List.getElem?_set_ne hij] at h
    exact .inr ⟨hij, h⟩
theorem At.set (a : At F K I ρ σ H) {i : Nat} {v : V} {d : D} (r : Rep K I v d) : At F K I (ρ.set i (some (.dat d))) (σ.set i (some v)) H := by
  refine ⟨a.stp, by simp [a.len], fun j e h => ?_, fun j l e e' w hjl h1 h2 o1 o2 hw => ?_⟩
  · rcases set_at h with ⟨rfl, q⟩ | ⟨hij, q⟩
    · cases q
      have hi : i < ρ.length := by
        have := (List.getElem?_eq_some_iff.mp h).1
        simpa using this
      exact ⟨v, by rw [List.getElem?_set]; simp [← a.len, hi], .inl ⟨_, rfl, r⟩⟩
    · obtain ⟨w, h1, h2⟩ := a.env j e q
      exact ⟨w, by rw [List.getElem?_set_ne hij]; exact h1, h2⟩
  · rcases set_at h1 with ⟨rfl, q⟩ | ⟨hij, q⟩
    · cases q; exact o1.elim
    · rcases set_at h2 with ⟨rfl, q'⟩ | ⟨hil, q'⟩
      · cases q'; exact o2.elim
      · rw [List.getElem?_set_ne hij] at hw
        rw [List.getElem?_set_ne hil]
        exact a.dis j l e e' w hjl q q' o1 o2 hw
theorem dg_name {x : Str} (i : Nat) (hN : X.N.Nodup) (hi : X.N[i]? = some x := by rfl) (hx : Loc X.env.scope x := by first | exact Or.inl rfl | exact Or.inr rfl) (hf : X.fn x = true ∨ X.env.scope.names.lookup x = some .local := by first | exact .inl rfl | exact .inr rfl | assumption) : DG F X (.Name x pos) [i] (fun d ρ Q => Q (ρ.set i (some (.dat d)))) :=
  ⟨fun d ρ Q Q' k q => k _ q, fun d ρ Q q => ⟨q, fun j e hj ho => by
    rcases set_at hj with ⟨_, z⟩ | ⟨hij, z⟩
    · cases z; exact ho.elim
    · exact ⟨by simp [Ne.symm hij], z⟩⟩, (pg_name hN hi hx hf).imp fun v σ H Q ⟨I, ρ, d, A, r, q⟩ => q I _ H (A.set r) A.st.stp ⟨by simp, fun j hj => List.getElem?_set_ne (fun e => hj (by simp [e]))⟩⟩
theorem dgs_nil : DGs F X [] [] (fun ds ρ Q => ds = [] ∧ Q ρ) := by
  refine ⟨fun d ρ Q Q' k q => ⟨q.1, k _ q.2⟩, fun d ρ Q q => ⟨q.1, q.2, fun j e hj ho => ⟨by simp, hj⟩⟩, pgs_nil.imp fun v σ H Q ⟨I, ρ, d, A, r, e, q⟩ => ?_⟩
  subst e
  cases r
  exact ⟨rfl, q I _ H A A.st.stp ⟨rfl, fun _ _ => rfl⟩⟩
theorem dgs_cons {js ks : List Nat} (h : DG F X e js g) (h' : DGs F X es ks gs) (hs : (assignEach (e :: es) X.env).map (·.2) = assign e X.env :: (assignEach es X.env).map (·.2) := by rfl) : DGs F X (e :: es) (js ++ ks) (fun ds ρ Q => ∃ d r, ds = d :: r ∧ g d ρ fun ρ' => gs r ρ' Q) := by
  refine ⟨fun d ρ Q Q' k ⟨x, r, e, q⟩ => ⟨x, r, e, h.mono _ _ _ _ (fun ρ q => h'.mono _ _ _ _ k q) q⟩, fun d ρ Q ⟨x, r, e, q⟩ => ⟨x, r, e, h.mono _ _ _ _ (fun ρ1 ⟨q, k1⟩ => h'.mono _ _ _ _ (fun ρ2 ⟨q, k2⟩ => ⟨q, fun j e hj ho => have ⟨a, b⟩ := k2 j e hj ho; have ⟨c, d⟩ := k1 j e b ho; ⟨fun z => (List.mem_append.mp z).elim c a, d⟩⟩) (h'.keeps _ _ _ q)) (h.keeps _ _ _ q)⟩, (pgs_cons h.run h'.run hs).imp fun v σ H Q ⟨I, ρ, d, A, rv, x, r, e, q⟩ => ?_⟩
  subst e
  cases rv with
  | cons r1 r2 =>
    refine ⟨_, _, rfl, I, ρ, x, A, r1, h.mono _ _ _ _ (fun ρ' q I' σ' H' A' s o => ?_) q⟩
    exact ⟨I', ρ', r, A', r2.mono s.i, h'.mono _ _ _ _ (fun ρ2 q I2 σ2 H2 A2 s2 o2 => q I2 σ2 H2 A2 (s.trans s2) ⟨o2.1.trans o.1, fun j hj => (o2.2 j fun z => hj (List.mem_append_right _ z)).trans (o.2 j fun z => hj (List.mem_append_left _ z))⟩) q⟩
theorem dg_tup {n k : Nat} {js : List Nat} (hc : X.calm = true) (h : DGs F X es js gs) (hn : (assignEach es X.env).length = n := by rfl) (hst : (assignEach es X.env).findIdx? (·.1) = none := by rfl) : DG F X (.Tuple es k pos) js (fun d ρ Q => ∃ ds, d = .tup ds ∧ ds.length = n ∧ gs ds ρ Q) := by
  refine ⟨fun d ρ Q Q' k ⟨ds, e, l, q⟩ => ⟨ds, e, l, h.mono _ _ _ _ k q⟩, fun d ρ Q ⟨ds, e, l, q⟩ => ⟨ds, e, l, h.keeps _ _ _ q⟩, (pg_tup hc h.run hn hst).imp fun v σ H Q ⟨I, ρ, d, A, r, ds, e, l, q⟩ => ?_⟩
  subst e
  cases r with
  | tup a rs => exact ⟨_, _, rfl, Same.seqT A.st.sub a, by rw [rs.length]; exact l, I, ρ, ds, A, rs, q⟩
/-- target = value -/
theorem ds_asg {js : List Nat} (he : DE F X e te) (hg : DG F X tg js g) (hs : swapsWithSole [tg] e pos.line X.env = pure false := by rfl) (hw : swappedStores [tg] e X.env = pure none := by rfl) (h1 : (assignEach [tg] X.env).map (·.2) = [assign tg X.env] := by rfl) : DSt F X (.Assign [tg] e pos) (fun Z ρ => te ρ fun d => g d ρ Z.nx) := by
  refine ⟨fun Z Z' ρ l q => he.mono _ _ _ (fun d q => hg.mono _ _ _ _ l.nx q) q, (ps_asg he.run hg.run hs hw h1).imp fun Z σ H ⟨I, ρ, A, q⟩ => rdE_next he.mono A q fun d v I' H' p s rv => ?_⟩
  exact ⟨I', ρ, d, A.step s, rv, hg.mono _ _ _ _ (fun ρ2 q I2 σ2 H2 A2 s2 _ => q I2 σ2 H2 (Same.trans s.i s2.i) A2) p⟩
theorem ds_set {x : Str} {pos' : Pos} (i : Nat) (he : DE F X e te) (hN : X.N.Nodup) (hi : X.N[i]? = some x := by rfl) (hx : Loc X.env.scope x := by first | exact Or.inl rfl | exact Or.inr rfl) (hs : swapsWith e (some (.Name x pos')) pos.line X.env = pure false := by rfl)
    (hf : X.fn x = true ∨ X.env.scope.names.lookup x = some .local := by first | exact .inl rfl | exact .inr rfl | assumption) : DSt F X (.Assign [.Name x pos'] e pos) (fun Z ρ => te ρ fun d => Z.nx (ρ.set i (some (.dat d)))) := by
  refine ⟨fun Z Z' ρ l q => he.mono _ _ _ (fun d q => l.nx _ q) q, (ps_set hN hi hx he.run hs hf).imp fun Z σ H ⟨I, ρ, A, q⟩ => rdE_next he.mono A q fun d v I' H' p s rv => ?_⟩
  exact p I' _ H' s.i ((A.step s).set rv)
/-- a, b = x, y -/
theorem ds_par {i j : Nat} {x y : Str} {a b : Expr} {ta : DAT} {px py pt : Pos} {kt k2 pt2} (hc : X.calm = true) (hN : X.N.Nodup) (hi : X.N[i]? = some x) (hj : X.N[j]? = some y) (hij : i ≠ j) (hkx : X.env.scope.names.lookup x = some .local) (hky : X.env.scope.names.lookup y = some .local)
    (ha : DA F X [a, b] ta) (hsw : swappedStores [.Tuple [.Name x px, .Name y py] kt pt] (.Tuple [a, b] k2 pt2) X.env = pure (some [x, y]) := by rfl) (hs : swapsWithSole [.Tuple [.Name x px, .Name y py] kt pt] (.Tuple [a, b] k2 pt2) pos.line X.env = pure false := by rfl) : DSt F X (.Assign [.Tuple [.Name x px, .Name y py] kt pt] (.Tuple [a, b] k2 pt2) pos) (fun Z ρ => ta ρ fun ds => ∃ d e, ds = [d, e] ∧ Z.nx ((ρ.set i (some (.dat d))).set j (some (.dat e)))) := by
  refine ⟨fun Z Z' ρ l q => ha.mono _ _ _ (fun d ⟨x, y, e, q⟩ => ⟨x, y, e, l.nx _ q⟩) q, (ps_par hc hN hi hj hij hkx hky ha.run hsw hs).imp fun Z σ H ⟨I, ρ, A, q⟩ => rdA_next ha.mono A q fun ds vs I' H' p s rs => ?_⟩
  obtain ⟨d, e, rfl, q⟩ := p
  cases rs with
  | cons r1 r2 =>
    cases r2 with
    | cons r2 r3 =>
      cases r3
      exact ⟨_, _, rfl, q I' _ H' s.i (((A.step s).set r1).set r2)⟩
end

/-! ### a def by its body -/
def startD (N : List Str) (ds : List D) : DEnv := ds.map (fun d => some (Ent.dat d)) ++ List.replicate (N.length - ds.length) none
theorem at_start {W : Wd} {K : PySem.W.Frag} {I H : Hp} {N : List Str} {vs : List V} {ds : List D} (s : StI W I H) (r : Reps K I vs ds) : At ⟨W, H, I⟩ K I (startD N ds) (L2.start N vs) H := by
  refine ⟨s.stp, by simp [startD, L2.start, r.length], fun i e h => ?_, fun i j e e' v hij h1 h2 o1 => ?_⟩
  · unfold startD at h
    by_cases hi : i < ds.length
    · rw [List.getElem?_append_left (by simpa using hi), List.getElem?_map] at h
      cases q : ds[i]? with
      | none => rw [q] at h; cases h
      | some d =>
        rw [q] at h
        cases h
        obtain ⟨v, h1, h2⟩ := r.get q
        refine ⟨v, ?_, .inl ⟨_, rfl, h2⟩⟩
        unfold L2.start
        rw [List.getElem?_append_left (by simpa [r.length] using hi), List.getElem?_map, h1]
        rfl
    · rw [List.getElem?_append_right (by simpa using hi), List.getElem?_replicate] at h
      split at h <;> cases h
  · unfold startD at h1
    by_cases hi : i < ds.length
    · rw [List.getElem?_append_left (by simpa using hi), List.getElem?_map] at h1
      cases q : ds[i]? with
      | none => rw [q] at h1; cases h1
      | some d => rw [q] at h1; cases h1; exact o1.elim
    · rw [List.getElem?_append_right (by simpa using hi), List.getElem?_replicate] at h1
      split at h1 <;> cases h1
def defEnds (Q : D → Prop) : DEnds := ⟨fun _ => Q .non, Q, fun _ => False, fun _ => False, fun _ => False⟩
section
variable {P : Program} {w : World} {K : PySem.W.Frag} {mg : Str → Option Value} {base : Heap}
theorem body_run {F : Fx} {X : Cx} {t : DTS} {body : List Stmt} {N : List Str} {vs : List V} {ds : List D} {Q : VK} {H I : Hp} {W : Wd} (hF : F = ⟨W, H, I⟩) (h : DSts F X body t) (s : StI W I H) (r : Reps X.K I vs ds) (q : t (defEnds (fin F X.K I H Q)) (startD N ds)) :
    rdS F X.K t { nx := fun _ H' => Q .non H', rt := Q } (L2.start N vs) H := by
  subst hF
  exact ⟨I, _, at_start s r, h.mono (defEnds (fin ⟨W, H, I⟩ X.K I H Q)) _ _ ⟨fun ρ q I' σ' H' s A => q _ I' H' A.stp .non, fun d q v I' H' s r => q v I' H' s r, fun _ q => q.elim, fun _ q => q.elim, fun _ q => q.elim⟩ q⟩
/-- a def of the text whose promise may lean on the guards -/
theorem _root_.L2.Fun.gn {CX : CXT} {x qual : Str} {st : Stmt} {f : Addr} {fd : FuncData} {N ps : List Str} {k : Nat} {sp : Sp} (Fn : Fun K x qual st f fd) (Sc : FnScope N ps (defScope st)) (hlen : ∀ vs H Q E, sp vs H Q E → vs.length = ps.length)
    (hb : ∀ (cdv : Value) (A : Around) (below : List Env) (s : Shared) (H : Hp) (vs : List V) (Q : VK) (E : XK), Rm k (A.deeper (envOfC qual (defScope st) s.heap.objs.size f cdv)) → sp vs H Q E →
      ∃ t, PSs (cxOf CX P w K mg base N qual (defScope st) f cdv A below s H E) (defBody st) t ∧ t { nx := fun _ H' => Q .non H', rt := Q } (L2.start N vs) H) : GnOk P w K mg base CX (k + 1) f fd ps sp := by
  obtain ⟨oc, od, kV, doc, pm, an, cdv, ct, osl, rfl, lk, hcd⟩ := Fn.ex
  exact gn_of lk hcd Sc hlen (hb cdv)
/-- a def that lets no exception out -/
theorem _root_.L2.Fun.okD {W : Wd} {S : DSp} {x qual : Str} {st : Stmt} {f : Addr} {fd : FuncData} {N ps : List Str} {k : Nat} (Fn : Fun K x qual st f fd) (Sc : FnScope N ps (defScope st)) (hn : S.n = ps.length)
    (hbody : ∀ (cdv : Value) (A : Around) (outer : List Env) (s : Shared) (H I : Hp) (ds : List D) (Q : D → Prop) (Ed : Ex → Prop) (E : XK), Rm k (A.deeper (envOfC qual (defScope st) s.heap.objs.size f cdv)) → S.f ds Q Ed →
      ∃ t, DSts ⟨W, H, I⟩ (cxOf CX0 P w K mg base N qual (defScope st) f cdv A outer s H E).nox (defBody st) t ∧ t (defEnds Q) (startD N ds)) : GnOk P w K mg base CX0 (k + 1) f fd ps (spD W K S) := by
  refine Fn.gn Sc (fun vs H Q E h => (spD_len _ _ _ _ h).trans hn) fun cdv A outer s H vs Q E hr ⟨I, ds, si, r, h⟩ => ?_
  obtain ⟨t, h1, h2⟩ := hbody cdv A outer s H I ds _ _ E hr h
  exact ⟨_, h1.run.nox, body_run rfl h1 si r h2⟩
/-- a def that may let one out -/
theorem _root_.L2.Fun.okXD {W : Wd} {S : DSp} {x qual : Str} {st : Stmt} {f : Addr} {fd : FuncData} {N ps : List Str} {k : Nat} (Fn : Fun K x qual st f fd) (Sc : FnScope N ps (defScope st)) (hn : S.n = ps.length)
    (hbody : ∀ (cdv : Value) (A : Around) (outer : List Env) (s : Shared) (H I : Hp) (ds : List D) (Q : D → Prop) (E : XK), Rm k (A.deeper (envOfC qual (defScope st) s.heap.objs.size f cdv)) → S.f ds Q (finX W K I H E) →
      ∃ t, DSts ⟨W, H, I⟩ (cxOf (L2.CX P w) P w K mg base N qual (defScope st) f cdv A outer s H E) (defBody st) t ∧ t (defEnds Q) (startD N ds)) : GnOk P w K mg base (L2.CX P w) (k + 1) f fd ps (spD W K S) := by
  refine Fn.gn Sc (fun vs H Q E h => (spD_len _ _ _ _ h).trans hn) fun cdv A outer s H vs Q E hr ⟨I, ds, si, r, h⟩ => ?_
  obtain ⟨t, h1, h2⟩ := hbody cdv A outer s H I ds _ E hr h
  exact ⟨_, h1.run, body_run rfl h1 si r h2⟩
end
end Dk

namespace Dk
open PySem L2
open PyProof.Rows (envOfC)
open RZ (ItzT pi_zipA iZipA)

/-! ### what is walked, over data -/
structure JRep (W : Wd) (K : PySem.W.Frag) (J : It) (I : Hp) (ds : List D) : Prop where
  go : ∀ (i : Nat) I2 H2, Same I I2 → StI W I2 H2 → i < ds.length → J.go i H2
  yld : ∀ (i : Nat) I2 H2 x H3, i < ds.length → Same I I2 → StI W I2 H2 → J.yld i H2 x H3 → ∃ d I3, ds[i]? = some d ∧ Stp W I2 H2 I3 H3 ∧ Rep K I3 x d
  stop : ∀ I2 H2, Same I I2 → StI W I2 H2 → J.stop ds.length H2
def finI (F : Fx) (K : PySem.W.Frag) (I H : Hp) (R : It → Hp → Prop) : List D → Prop := fun ds => ∀ J I' H', Stp F.W I H I' H' → JRep F.W K J I' ds → R J H'
def rdI (F : Fx) (K : PySem.W.Frag) (t : DAT) : TI := fun σ H R => ∃ I ρ, At F K I ρ σ H ∧ t ρ (finI F K I H R)
structure DI (F : Fx) (X : Cx) (tg e : Expr) (t : DAT) : Prop where
  mono : ∀ ρ (Q Q' : List D → Prop), (∀ d, Q d → Q' d) → t ρ Q → t ρ Q'
  run : PI X tg e (rdI F X.K t)
section
variable {F : Fx} {X : Cx} {K : PySem.W.Frag} {W : Wd} {I H : Hp} {ρ : DEnv} {σ : St} {tg e e2 : Expr} {te tb : DT} {ta : DAT} {p pos : Pos}
theorem _root_.L2.PI.imp {t u : TI} (h : PI X tg e t) (i : ∀ σ H R, u σ H R → t σ H R) : PI X tg e u := ⟨fun pins s σ H R J q => h.run pins s σ H R J (i σ H R q)⟩
theorem jr_list {a : Addr} {vs : List V} {ds : List D} (h : I a = some (.lst vs)) (r : Reps K I vs ds) : JRep W K (Itl K a) I ds where
  go := fun i I2 H2 s st hi => by
    have hv : i < vs.length := by rw [r.length]; exact hi
    exact ⟨vs, vs[i], .of (st.sub _ _ (s _ _ h)), by simp [hv]⟩
  yld := fun i I2 H2 x H3 hi s st ⟨e, y⟩ => by
    subst e
    obtain ⟨d, h1, h2⟩ := (r.mono s).getV (y vs (.of (st.sub _ _ (s _ _ h))))
    exact ⟨d, I2, h1, st.stp, h2⟩
  stop := fun I2 H2 s st => ⟨vs, .of (st.sub _ _ (s _ _ h)), by rw [r.length]; exact Nat.le_refl _⟩
theorem jr_tup {a : Addr} {vs : List V} {ds : List D} (h : SqT K I a vs) (r : Reps K I vs ds) : JRep W K (Itt K a) I ds where
  go := fun i I2 H2 s st hi => by
    have hv : i < vs.length := by rw [r.length]; exact hi
    exact ⟨vs, vs[i], Same.seqT (Same.trans s st.sub) h, by simp [hv]⟩
  yld := fun i I2 H2 x H3 hi s st ⟨e, y⟩ => by
    subst e
    obtain ⟨d, h1, h2⟩ := (r.mono s).getV (y vs (Same.seqT (Same.trans s st.sub) h))
    exact ⟨d, I2, h1, st.stp, h2⟩
  stop := fun I2 H2 s st => ⟨vs, Same.seqT (Same.trans s st.sub) h, by rw [r.length]; exact Nat.le_refl _⟩
def rngD (lo : Int) (n : Nat) : List D := (List.range n).map fun i => D.int (lo + (i : Nat))
theorem rngD_length (lo : Int) (n : Nat) : (rngD lo n).length = n := by simp [rngD]
theorem jr_range {lo : Int} {n : Nat} : JRep W K (Itr lo n) I (rngD lo n) where
  go := fun i I2 H2 s st hi => by rw [rngD_length] at hi; exact hi
  yld := fun i I2 H2 x H3 hi s st ⟨e, y⟩ => by
    subst e y
    refine ⟨.int (lo + i), I2, ?_, st.stp, .int _⟩
    rw [rngD_length] at hi
    unfold rngD
    rw [List.getElem?_map, List.getElem?_range hi]
    rfl
  stop := fun I2 H2 s st => by show n ≤ _; rw [rngD_length]; exact Nat.le_refl _
def sgnD (x : Str) : List D := x.cps.toList.map fun c => D.str ⟨#[c]⟩
theorem jr_str {x : Str} : JRep W K (Its x) I (sgnD x) where
  go := fun i I2 H2 s st hi => by show i < x.cps.size; simpa [sgnD] using hi
  yld := fun i I2 H2 v H3 hi s st ⟨e, c, hc, y⟩ => by
    subst e y
    refine ⟨.str ⟨#[c]⟩, I2, ?_, st.stp, .str _⟩
    unfold sgnD
    rw [List.getElem?_map, Array.getElem?_toList, hc]
    rfl
  stop := fun I2 H2 s st => by show x.cps.size ≤ _; simp [sgnD]
theorem jr_enum {a : Addr} {vs : List V} {ds : List D} (h : I a = some (.lst vs)) (r : Reps K I vs ds) : JRep W K (Ite K a) I (ds.mapIdx fun i d => .tup [.int (i : Nat), d]) where
  go := fun i I2 H2 s st hi => by
    have hv : i < vs.length := by rw [r.length]; simpa using hi
    exact ⟨vs, vs[i], .of (st.sub _ _ (s _ _ h)), by simp [hv]⟩
  yld := fun i I2 H2 v H3 hi s st ⟨T, x, ev, hT, eH, y⟩ => by
    subst ev eH
    obtain ⟨d, h1, h2⟩ := (r.mono s).getV (y vs (.of (st.sub _ _ (s _ _ h))))
    have l := st.laid hT (.tup [.int (i : Nat), x])
    refine ⟨.tup [.int (i : Nat), d], _, ?_, l, .tup (.of upd_same) (.cons (.int _) (.cons (h2.mono l.i) .nil))⟩
    rw [List.getElem?_mapIdx, h1]
    rfl
  stop := fun I2 H2 s st => ⟨vs, .of (st.sub _ _ (s _ _ h)), by simp [r.length]⟩
theorem jr_zipL {a b : Addr} {vs ws : List V} {ds es : List D} (h : I a = some (.lst vs)) (r : Reps K I vs ds) (h' : I b = some (.lst ws)) (r' : Reps K I ws es) : JRep W K (Itz K a b) I (List.zipWith (fun d e => .tup [d, e]) ds es) where
  go := fun i I2 H2 s st hi => by
    rw [List.length_zipWith] at hi
    have hv : i < vs.length := by rw [r.length]; omega
    have hw : i < ws.length := by rw [r'.length]; omega
    exact ⟨vs, ws, vs[i], ws[i], .of (st.sub _ _ (s _ _ h)), .of (st.sub _ _ (s _ _ h')), by simp [hv], by simp [hw]⟩
  yld := fun i I2 H2 v H3 hi s st ⟨T, x, x', ev, hT, eH, y, y'⟩ => by
    subst ev eH
    obtain ⟨d, h1, h2⟩ := (r.mono s).getV (y vs (.of (st.sub _ _ (s _ _ h))))
    obtain ⟨e, h3, h4⟩ := (r'.mono s).getV (y' ws (.of (st.sub _ _ (s _ _ h'))))
    have l := st.laid hT (.tup [x, x'])
    refine ⟨.tup [d, e], _, ?_, l, .tup (.of upd_same) (.cons (h2.mono l.i) (.cons (h4.mono l.i) .nil))⟩
    rw [List.getElem?_zipWith, h1, h3]
  stop := fun I2 H2 s st => ⟨vs, ws, .of (st.sub _ _ (s _ _ h)), .of (st.sub _ _ (s _ _ h')), by rw [r.length, r'.length, List.length_zipWith]; omega⟩
theorem jr_zipT {a b : Addr} {vs ws : List V} {ds es : List D} (h : SqT K I a vs) (r : Reps K I vs ds) (h' : SqT K I b ws) (r' : Reps K I ws es) : JRep W K (ItzT K a b) I (List.zipWith (fun d e => .tup [d, e]) ds es) where
  go := fun i I2 H2 s st hi => by
    rw [List.length_zipWith] at hi
    have hv : i < vs.length := by rw [r.length]; omega
    have hw : i < ws.length := by rw [r'.length]; omega
    exact ⟨vs, ws, vs[i], ws[i], Same.seqT (Same.trans s st.sub) h, Same.seqT (Same.trans s st.sub) h', by simp [hv], by simp [hw]⟩
  yld := fun i I2 H2 v H3 hi s st ⟨T, x, x', ev, hT, eH, y, y'⟩ => by
    subst ev eH
    obtain ⟨d, h1, h2⟩ := (r.mono s).getV (y vs (Same.seqT (Same.trans s st.sub) h))
    obtain ⟨e, h3, h4⟩ := (r'.mono s).getV (y' ws (Same.seqT (Same.trans s st.sub) h'))
    have l := st.laid hT (.tup [x, x'])
    refine ⟨.tup [d, e], _, ?_, l, .tup (.of upd_same) (.cons (h2.mono l.i) (.cons (h4.mono l.i) .nil))⟩
    rw [List.getElem?_zipWith, h1, h3]
  stop := fun I2 H2 s st => ⟨vs, ws, Same.seqT (Same.trans s st.sub) h, Same.seqT (Same.trans s st.sub) h', by rw [r.length, r'.length, List.length_zipWith]; omega⟩
theorem jr_keys {a : Addr} {o : Obj} {ws : List (Key × V)} {kvs : List (Key × D)} (h : I a = some (.frz o (.dK ws))) (k : ws.map (·.1) = kvs.map (·.1)) : JRep W K (Itk a o ws) I (kvs.map fun kv => keyD kv.1) where
  go := fun i I2 H2 s st hi => ⟨st.sub _ _ (s _ _ h), by have := congrArg List.length k; simp at this hi; omega⟩
  yld := fun i I2 H2 x H3 hi s st ⟨e, key, v, hk, y⟩ => by
    subst e y
    have e2 : (kvs.map (·.1))[i]? = some key := by rw [← k, List.getElem?_map, hk]; rfl
    refine ⟨keyD key, I2, ?_, st.stp, ?_⟩
    · rw [List.getElem?_map] at e2 ⊢
      cases q : kvs[i]? with
      | none => rw [q] at e2; cases e2
      | some p => rw [q] at e2; cases e2; rfl
    · cases key with
      | inl n => exact .int n
      | inr n => exact .str n
  stop := fun I2 H2 s st => ⟨st.sub _ _ (s _ _ h), by have := congrArg List.length k; simp at this ⊢; omega⟩
/-- a list, a tuple, a text, whichever comes -/
def iVal (K : PySem.W.Frag) (te : TE) : TI := fun σ H R => te σ H fun x H1 => (∃ a xs, x = .ref a ∧ SqL K H1 a xs ∧ R (Itl K a) H1) ∨ (∃ a xs, x = .ref a ∧ SqT K H1 a xs ∧ R (Itt K a) H1) ∨ (∃ z, x = .str z ∧ R (Its z) H1) ∨ ∃ d o kvs, x = .ref d ∧ H1 d = some (.frz o (.dK kvs)) ∧ R (Itk d o kvs) H1
theorem pi_val {e : Expr} {t : TE} (h : PE X e t) : PI X tg e (iVal X.K t) := by
  refine ⟨fun pn s0 σ0 H0 R0 J0 q0 => thn (h.run pn s0 σ0 H0 _ J0 q0) fun u s1 hu => ?_⟩
  obtain ⟨x, H1, J1, ru, c⟩ := hu
  rcases c with ⟨a, xs, rfl, hx, q⟩ | ⟨a, xs, rfl, hx, q⟩ | ⟨z, rfl, q⟩ | ⟨d, o, kvs, rfl, hd, q⟩
  · cases ru
    obtain ⟨its, _, pl, _⟩ := J1.list hx
    exact PySem.wpAny_pyIter_list pl.isList (pi_one (tk := s1.toks) J1 _ (turn_list a _) ⟨_, Heap.get?_push_size _ rfl, rfl, rfl⟩ q)
  · cases ru
    obtain ⟨its, _, pl, _⟩ := J1.tuple hx
    exact PySem.wpAny_pyIter_tuple (show s1.heap.IsTuple a its.toArray from pl) (pi_one (tk := s1.toks) J1 _ (turn_tuple a _) ⟨_, Heap.get?_push_size _ rfl, rfl, rfl⟩ q)
  · obtain ⟨t, rfl⟩ := ru
    cases hz : z.cps.all (· < 128)
    · exact PySem.wpAny_pyIter_wide hz (pi_one (tk := s1.toks) J1 _ (turn_str _ z t _ (.inr rfl)) ⟨_, Heap.get?_push_size _ rfl, rfl, rfl⟩ q)
    · exact PySem.wpAny_pyIter_ascii hz (pi_one (tk := s1.toks) J1 _ (turn_str _ z t _ (.inl rfl)) ⟨_, Heap.get?_push_size _ rfl, rfl, rfl⟩ q)
  · cases ru
    obtain ⟨hs, hgd, hx, es, ep, vs, hdt, hsz, kv, hm⟩ := J1.frzK hd
    refine iter_keys hs hgd hx hdt (pi_one (tk := s1.toks) J1 _ (turn_keys _ hdt) ⟨_, Heap.get?_push_size _ rfl, rfl, ?_⟩ q)
    rw [hsz]
    rfl
/-- what a for may walk -/
def itemsD : D → (List D → Prop) → Prop
  | .lst ds, Q => Q ds
  | .tup ds, Q => Q ds
  | .str x, Q => Q (sgnD x)
  | .dfz kvs, Q => Q (kvs.map fun kv => keyD kv.1)
  | _, _ => False
theorem itemsD.mono {d : D} {Q Q' : List D → Prop} (k : ∀ ds, Q ds → Q' ds) (h : itemsD d Q) : itemsD d Q' := by
  cases d <;> first | exact h.elim | exact k _ h
theorem di_seq (he : DE F X e te) : DI F X tg e (fun ρ Q => te ρ fun d => itemsD d Q) := by
  refine ⟨fun ρ Q Q' k q => he.mono _ _ _ (fun d => itemsD.mono k) q, (pi_val he.run).imp fun σ H R ⟨I, ρ, A, q⟩ => rdE_next he.mono A q fun d v I' H' p s rv => ?_⟩
  cases rv with
  | tup a r => exact .inr (.inl ⟨_, _, rfl, Same.seqT s.st.sub a, p _ _ _ s (jr_tup a r)⟩)
  | lst a r => exact .inl ⟨_, _, rfl, .of (s.st.sub _ _ a), p _ _ _ s (jr_list a r)⟩
  | str x => exact .inr (.inr (.inl ⟨_, rfl, p _ _ _ s jr_str⟩))
  | dfz a k r => exact .inr (.inr (.inr ⟨_, _, _, rfl, s.st.sub _ _ a, p _ _ _ s (jr_keys a k)⟩))
  | non => exact p.elim
  | bl b => exact p.elim
  | int b => exact p.elim
  | dic _ _ _ => exact p.elim
  | obj _ _ _ => exact p.elim
  | opq _ => exact p.elim
theorem di_range1 (hm : X.mg "range" = none) (ha : DA F X [e] ta) (hg : Gl X "range" := by rfl) (hs : starEach [e] X.env = [(false, eval e X.env)] := by rfl) : DI F X tg (.Call (.Name "range" p) [e] [] pos) (fun ρ Q => ta ρ fun ds => ∃ j : Int, ds = [.int j] ∧ -(2 ^ 62) ≤ j ∧ j < 2 ^ 62 ∧ Q (rngD 0 j.toNat)) := by
  refine ⟨fun ρ Q Q' k q => ha.mono _ _ _ (fun ds ⟨j, e, a, b, q⟩ => ⟨j, e, a, b, k _ q⟩) q, (pi_range1 hg hm ha.run hs).imp fun σ H R ⟨I, ρ, A, q⟩ => rdA_next ha.mono A q fun ds vs I' H' p s rs => ?_⟩
  obtain ⟨j, rfl, a, b, q⟩ := p
  cases rs with
  | cons r1 r2 =>
    cases r2
    cases r1
    exact ⟨j, rfl, a, b, q _ _ _ s jr_range⟩
theorem di_range2 (hm : X.mg "range" = none) (ha : DA F X [e, e2] ta) (hg : Gl X "range" := by rfl) (hs : starEach [e, e2] X.env = [(false, eval e X.env), (false, eval e2 X.env)] := by rfl) (hs2 : starEach [e2] X.env = [(false, eval e2 X.env)] := by rfl) :
    DI F X tg (.Call (.Name "range" p) [e, e2] [] pos) (fun ρ Q => ta ρ fun ds => ∃ i j : Int, ds = [.int i, .int j] ∧ (-(2 ^ 62) ≤ i ∧ i < 2 ^ 62 ∧ -(2 ^ 62) ≤ j ∧ j < 2 ^ 62) ∧ Q (rngD i (j - i).toNat)) := by
  refine ⟨fun ρ Q Q' k q => ha.mono _ _ _ (fun ds ⟨i, j, e, a, q⟩ => ⟨i, j, e, a, k _ q⟩) q, (pi_range2 hg hm ha.run hs hs2).imp fun σ H R ⟨I, ρ, A, q⟩ => rdA_next ha.mono A q fun ds vs I' H' p s rs => ?_⟩
  obtain ⟨i, j, rfl, a, q⟩ := p
  cases rs with
  | cons r1 r2 =>
    cases r2 with
    | cons r2 r3 =>
      cases r3
      cases r1
      cases r2
      exact ⟨i, j, rfl, a, q _ _ _ s jr_range⟩
/-- enumerate of a list, zip of two lists or two tuples -/
theorem di_enum {elts : List Expr} {kk : Nat} {tpos : Pos} (hm : X.mg "enumerate" = none) (ha : DA F X [e] ta) (hg : Gl X "enumerate" := by rfl) (hs : starEach [e] X.env = [(false, eval e X.env)] := by rfl) :
    DI F X (.Tuple elts kk tpos) (.Call (.Name "enumerate" p) [e] [] pos) (fun ρ Q => ta ρ fun ds => ∃ es, ds = [.lst es] ∧ Q (es.mapIdx fun i d => .tup [.int (i : Nat), d])) := by
  refine ⟨fun ρ Q Q' k q => ha.mono _ _ _ (fun ds ⟨i, e, q⟩ => ⟨i, e, k _ q⟩) q, (pi_enum hg hm ha.run hs).imp fun σ H R ⟨I, ρ, A, q⟩ => rdA_next ha.mono A q fun ds vs I' H' p s rs => ?_⟩
  obtain ⟨es, rfl, q⟩ := p
  cases rs with
  | cons r1 r2 =>
    cases r2
    cases r1 with
    | lst a r => exact ⟨_, _, rfl, .of (s.st.sub _ _ a), q _ _ _ s (jr_enum a r)⟩
def zipD : List D → (List D → Prop) → Prop
  | [.lst xs, .lst ys], Q => Q (List.zipWith (fun d e => .tup [d, e]) xs ys)
  | [.tup xs, .tup ys], Q => Q (List.zipWith (fun d e => .tup [d, e]) xs ys)
  | _, _ => False
theorem zipD.mono {ds : List D} {Q Q' : List D → Prop} (k : ∀ ds, Q ds → Q' ds) (h : zipD ds Q) : zipD ds Q' := by
  unfold zipD at h ⊢
  split at h <;> first | exact k _ h | exact h.elim
theorem di_zip {elts : List Expr} {kk : Nat} {tpos : Pos} (hm : X.mg "zip" = none) (ha : DA F X [e, e2] ta) (hg : Gl X "zip" := by rfl) (hs : starEach [e, e2] X.env = (false, eval e X.env) :: starEach [e2] X.env := by rfl) (hpl : (backTo pos (starEach [e2] X.env)).any (·.1) = false := by rfl) :
    DI F X (.Tuple elts kk tpos) (.Call (.Name "zip" p) [e, e2] [] pos) (fun ρ Q => ta ρ fun ds => zipD ds Q) := by
  refine ⟨fun ρ Q Q' k q => ha.mono _ _ _ (fun ds => zipD.mono k) q, (pi_zipA hg hm ha.run hs hpl).imp fun σ H R ⟨I, ρ, A, q⟩ => rdA_next ha.mono A q fun ds vs I' H' p s rs => ?_⟩
  unfold zipD at p
  split at p
  · cases rs with
    | cons r1 r2 =>
      cases r2 with
      | cons r2 r3 =>
        cases r3
        cases r1 with
        | lst a r =>
          cases r2 with
          | lst a' r' => exact ⟨_, _, _, _, rfl, .inl ⟨.of (s.st.sub _ _ a), .of (s.st.sub _ _ a'), p _ _ _ s (jr_zipL a r a' r')⟩⟩
  · cases rs with
    | cons r1 r2 =>
      cases r2 with
      | cons r2 r3 =>
        cases r3
        cases r1 with
        | tup a r =>
          cases r2 with
          | tup a' r' => exact ⟨_, _, _, _, rfl, .inr ⟨Same.seqT s.st.sub a, Same.seqT s.st.sub a', p _ _ _ s (jr_zipT a r a' r')⟩⟩
  · exact p.elim
end

/-! ### for, while -/
def forD (g : DGT) (tb : DTS) (Z : DEnds) : List D → DEnv → Prop
  | [], ρ => Z.nx ρ
  | d :: ds, ρ => g d ρ fun ρ2 => tb { Z with nx := forD g tb Z ds, ct := forD g tb Z ds, bk := Z.nx } ρ2
theorem forD.mono {F : Fx} {X : Cx} {tg : Expr} {js : List Nat} {g : DGT} {body : List Stmt} {tb : DTS} (hg : DG F X tg js g) (hb : DSts F X body tb) {Z Z' : DEnds} (l : DEnds.le Z Z') : ∀ (ds : List D) (ρ : DEnv), forD g tb Z ds ρ → forD g tb Z' ds ρ
  | [], ρ, h => l.nx _ h
  | d :: ds, ρ, h => hg.mono _ _ _ _ (fun ρ2 q => hb.mono { Z with nx := forD g tb Z ds, ct := forD g tb Z ds, bk := Z.nx } _ _ ⟨forD.mono hg hb l ds, l.rt, l.nx, forD.mono hg hb l ds, l.ro⟩ q) h
section
variable {F : Fx} {X : Cx} {tg iter c : Expr} {js : List Nat} {g : DGT} {body : List Stmt} {tb : DTS} {ti : DAT} {tc : DB} {pos : Pos}
theorem ds_for (hp : PassesOwn (model X.prog X.w) X.A X.env X.xe) (hc : X.calm = true) (hi : DI F X tg iter ti) (hg : DG F X tg js g) (hb : DSts F X body tb) (hs : ∀ x, foldedSetIterable iter X.env x = pure x := by intro _; rfl) : DSt F X (.For tg iter body [] pos) (fun Z ρ => ti ρ fun ds => forD g tb Z ds ρ) := by
  refine ⟨fun Z Z' ρ l q => hi.mono _ _ _ (fun ds => forD.mono hg hb l ds ρ) q, (ps_for hp hc hi.run hg.run hb.run hs).imp fun Z σ H ⟨I, ρ, A, q⟩ => ?_⟩
  refine ⟨I, ρ, A, hi.mono _ _ _ (fun ds q J I' H' s jr => ?_) q⟩
  refine ⟨fun i m σ' H2 => m = ds.length - i ∧ i ≤ ds.length ∧ ∃ I2 ρ2, At F X.K I2 ρ2 σ' H2 ∧ Same I' I2 ∧ forD g tb (ends F X.K I' Z) (ds.drop i) ρ2, ⟨ds.length, by simp, Nat.zero_le _, I', ρ, A.step s, Same.refl _, by simpa using forD.mono hg hb (ends.le s.i) ds ρ q⟩, ?_⟩
  rintro i m σ' H2 ⟨rfl, hi', I2, ρ2, A2, s2, q2⟩
  by_cases hlt : i < ds.length
  · refine .inr ⟨jr.go i I2 H2 s2 A2.st hlt, fun σ3 H3 => ∃ I3 ρ3, At F X.K I3 ρ3 σ3 H3 ∧ Same I' I3 ∧ forD g tb (ends F X.K I' Z) (ds.drop (i + 1)) ρ3, fun σ3 H3 ⟨I3, ρ3, A3, s3, q3⟩ => ⟨ds.length - (i + 1), by omega, rfl, hlt, I3, ρ3, A3, s3, q3⟩, fun x H3 y => ?_⟩
    obtain ⟨d, I3, hd, st3, rx⟩ := jr.yld i I2 H2 x H3 hlt s2 A2.st y
    rw [List.drop_eq_getElem_cons hlt] at q2
    have hd' : ds[i] = d := by
      rw [List.getElem?_eq_getElem hlt] at hd
      exact Option.some.inj hd
    rw [hd'] at q2
    refine ⟨I3, ρ2, d, A2.step st3, rx, hg.mono _ _ _ _ (fun ρ4 q4 I4 σ4 H4 A4 s4 _ => ?_) q2⟩
    have s4' : Same I' I4 := Same.trans (Same.trans s2 st3.i) s4.i
    refine ⟨I4, ρ4, A4, hb.mono { ends F X.K I' Z with nx := forD g tb (ends F X.K I' Z) (ds.drop (i + 1)), ct := forD g tb (ends F X.K I' Z) (ds.drop (i + 1)), bk := (ends F X.K I' Z).nx } _ _ ⟨fun ρ5 q5 I5 σ5 H5 s5 A5 => ⟨I5, ρ5, A5, Same.trans s4' s5, q5⟩, fun d q => q, fun ρ5 q5 I5 σ5 H5 s5 A5 => q5 I5 σ5 H5 (Same.trans s4' s5) A5, fun ρ5 q5 I5 σ5 H5 s5 A5 => ⟨I5, ρ5, A5, Same.trans s4' s5, q5⟩, fun d q => q⟩ q4⟩
  · have e : i = ds.length := by omega
    subst e
    rw [List.drop_length] at q2
    exact .inl ⟨jr.stop I2 H2 s2 A2.st, q2 _ _ _ s2 A2⟩
def whileD (tc : DB) (tb : DTS) (Z : DEnds) (ρ : DEnv) : Prop := ∃ P : Nat → DEnv → Prop, (∃ m, P m ρ) ∧ ∀ m ρ, P m ρ → tc ρ fun b => if b = true then tb { Z with nx := fun ρ' => ∃ m', m' < m ∧ P m' ρ', ct := fun ρ' => ∃ m', m' < m ∧ P m' ρ', bk := Z.nx } ρ else Z.nx ρ
theorem ds_while (hp : PassesOwn (model X.prog X.w) X.A X.env X.xe) (hc : DTest F X c tc) (hb : DSts F X body tb) : DSt F X (.While c body [] pos) (whileD tc tb) := by
  refine ⟨fun Z Z' ρ l ⟨P, h0, hs⟩ => ⟨P, h0, fun m ρ p => hc.mono _ _ _ (fun b q => ?_) (hs m ρ p)⟩, (ps_while hp hc.run hb.run).imp fun Z σ H ⟨I, ρ, A, P, ⟨m, p⟩, hs⟩ => ?_⟩
  · cases b
    · exact l.nx _ q
    · exact hb.mono { Z with nx := fun ρ' => ∃ m', m' < m ∧ P m' ρ', ct := fun ρ' => ∃ m', m' < m ∧ P m' ρ', bk := Z.nx } _ _ ⟨fun _ h => h, l.rt, l.nx, fun _ h => h, l.ro⟩ q
  · refine ⟨fun m σ' H2 => ∃ I2 ρ2, At F X.K I2 ρ2 σ' H2 ∧ Same I I2 ∧ P m ρ2, ⟨m, I, ρ, A, Same.refl _, p⟩, fun m σ' H2 ⟨I2, ρ2, A2, s2, p2⟩ => ?_⟩
    refine rdT_next hc.mono A2 (hs m ρ2 p2) fun b I3 H3 q s => ?_
    have s3 : Same I I3 := Same.trans s2 s.i
    cases b
    · exact q _ _ _ s3 (A2.step s)
    · refine ⟨fun σ' H' => ∃ m', m' < m ∧ ∃ I4 ρ4, At F X.K I4 ρ4 σ' H' ∧ Same I I4 ∧ P m' ρ4, fun σ' H' h => h, I3, ρ2, A2.step s, hb.mono { ends F X.K I Z with nx := fun ρ' => ∃ m', m' < m ∧ P m' ρ', ct := fun ρ' => ∃ m', m' < m ∧ P m' ρ', bk := (ends F X.K I Z).nx } _ _ ?_ q⟩
      exact ⟨fun ρ' ⟨m', l, p'⟩ I4 σ4 H4 s4 A4 => ⟨m', l, I4, ρ', A4, Same.trans s3 s4, p'⟩, fun d q => q, fun ρ' q I4 σ4 H4 s4 A4 => q I4 σ4 H4 (Same.trans s3 s4) A4, fun ρ' ⟨m', l, p'⟩ I4 σ4 H4 s4 A4 => ⟨m', l, I4, ρ', A4, Same.trans s3 s4, p'⟩, fun d q => q⟩
end
end Dk

namespace Dk
open PySem L2
open PyProof.Rows (envOfC)

/-! ### list comprehensions -/
def wipeD (ρ : DEnv) : List Nat → DEnv
  | [] => ρ
  | v :: vs => (wipeD ρ vs).set v none
theorem wipeD_length (ρ : DEnv) : ∀ vs : List Nat, (wipeD ρ vs).length = ρ.length
  | [] => rfl
  | v :: vs => by unfold wipeD; rw [List.length_set, wipeD_length ρ vs]
theorem wipeD_some {ρ : DEnv} {i : Nat} {e : Ent} : ∀ {vs : List Nat}, (wipeD ρ vs)[i]? = some (some e) → ρ[i]? = some (some e) ∧ i ∉ vs
  | [], h => ⟨h, by simp⟩
  | v :: vs, h => by
    unfold wipeD at h
    rcases set_at h with ⟨_, q⟩ | ⟨hn, q⟩
    · cases q
    · obtain ⟨h1, h2⟩ := wipeD_some q
      exact ⟨h1, by simp [Ne.symm hn, h2]⟩
theorem wipe_at {σ : St} : ∀ {vs : List Nat} {i : Nat}, i ∈ vs → (wipe σ vs)[i]? ≠ some none → i ≥ σ.length
  | [], _, h, _ => by simp at h
  | v :: vs, i, h, hn => by
    unfold wipe at hn
    by_cases e : v = i
    · subst e
      rw [List.getElem?_set] at hn
      simp at hn
      rw [wipe_length] at hn
      exact hn
    · rw [List.getElem?_set_ne e] at hn
      exact wipe_at (by simpa [Ne.symm e] using h) hn
theorem wipe_only {σ σ' : St} {js vs : List Nat} (o : Only js σ σ') (h : ∀ j ∈ js, j ∈ vs) : wipe σ' vs = wipe σ vs := by
  have hl := o.1
  apply List.ext_getElem?
  intro i
  by_cases hi : i ∈ vs
  · by_cases hlt : i < σ.length
    · have a : (wipe σ vs)[i]? = some none := Classical.byContradiction fun z => absurd (wipe_at hi z) (by omega)
      have b : (wipe σ' vs)[i]? = some none := Classical.byContradiction fun z => absurd (wipe_at hi z) (by omega)
      rw [a, b]
    · rw [List.getElem?_eq_none (by rw [wipe_length]; omega), List.getElem?_eq_none (by rw [wipe_length]; omega)]
  · rw [wipe_out hi, wipe_out hi]
    exact o.2 i fun z => hi (h i z)
theorem wipe_wipe (σ : St) (vs : List Nat) : wipe (wipe σ vs) vs = wipe σ vs := by
  apply List.ext_getElem?
  intro i
  by_cases hi : i ∈ vs
  · by_cases hlt : i < σ.length
    · have a : (wipe σ vs)[i]? = some none := Classical.byContradiction fun z => absurd (wipe_at hi z) (by omega)
      have b : (wipe (wipe σ vs) vs)[i]? = some none := Classical.byContradiction fun z => absurd (wipe_at hi z) (by rw [wipe_length]; omega)
      rw [a, b]
    · rw [List.getElem?_eq_none (by rw [wipe_length, wipe_length]; omega), List.getElem?_eq_none (by rw [wipe_length]; omega)]
  · rw [wipe_out hi]
section
variable {F : Fx} {K : PySem.W.Frag} {I H I' H' : Hp} {ρ : DEnv} {σ : St}
theorem At.wipe (a : At F K I ρ σ H) (vs : List Nat) : At F K I (wipeD ρ vs) (wipe σ vs) H := by
  refine ⟨a.stp, by rw [wipeD_length, wipe_length]; exact a.len, fun i e h => ?_, fun i j e e' v hij h1 h2 o1 o2 hv => ?_⟩
  · obtain ⟨h1, h2⟩ := wipeD_some h
    obtain ⟨v, h3, h4⟩ := a.env i e h1
    exact ⟨v, by rw [wipe_out h2]; exact h3, h4⟩
  · obtain ⟨h3, h4⟩ := wipeD_some h1
    obtain ⟨h5, h6⟩ := wipeD_some h2
    rw [wipe_out h4] at hv
    rw [wipe_out h6]
    exact a.dis i j e e' v hij h3 h5 o1 o2 hv
/-- D is no list of a slot's own -/
def Apart (ρ : DEnv) (σ : St) (D : Addr) : Prop := ∀ (i : Nat) e, ρ[i]? = some (some e) → e.isOwn → σ[i]? ≠ some (some (.ref D))
theorem At.apart (a : At F K I ρ σ H) {D : Addr} (h : H D = none) : Apart ρ σ D := fun i e he o hv => by
  obtain ⟨v, h1, h2⟩ := a.env i e he
  rw [hv] at h1
  cases h1
  obtain ⟨p, u, q, w⟩ := h2.own o
  cases q
  rw [w.hp] at h
  cases h
theorem At.write (a : At F K I ρ σ H) {D : Addr} (o : HO) (hI : I D = none) (hm : ¬ F.W.mv D) (hB : F.B D = none) (hp : Apart ρ σ D) : At F K I ρ σ (upd H D o) := by
  refine ⟨⟨a.stp.i, ⟨fun b u e => ?_, a.st.imm, F.W.frame (fun b m => upd_ne fun z => hm (z ▸ m)) a.st.inv⟩, fun b u e m => ?_, a.stp.new⟩, a.len, fun i e h => ?_, a.dis⟩
  · rw [upd_ne (ne_of_none e hI)]; exact a.st.sub _ _ e
  · rw [upd_ne (ne_of_none e hB)]; exact a.stp.h _ _ e m
  · obtain ⟨v, h1, h2⟩ := a.env i e h
    refine ⟨v, h1, ?_⟩
    rcases h2 with ⟨d, rfl, r⟩ | ⟨p, u, rfl, w⟩
    · exact .inl ⟨d, rfl, r⟩
    · exact .inr ⟨p, u, rfl, by rw [upd_ne fun z => by subst z; exact hp i _ h w.rep.isOwn h1]; exact w.hp, w.rep, w.ni, w.nm, w.nb, w.ad⟩
theorem Stp.write {W : Wd} (s : Stp W I H I' H') {D : Addr} (o : HO) (hI : I' D = none) (hm : ¬ W.mv D) (hn : H D = none) : Stp W I H I' (upd H' D o) := by
  refine ⟨s.i, ⟨fun b u e => ?_, s.st.imm, W.frame (fun b m => upd_ne fun z => hm (z ▸ m)) s.st.inv⟩, fun b u e m => ?_, s.new⟩
  · rw [upd_ne (ne_of_none e hI)]; exact s.st.sub _ _ e
  · rw [upd_ne (ne_of_none e hn)]; exact s.h _ _ e m
/-- what was made since stands still from now on -/
theorem Stp.freeze {W : Wd} (s : Stp W I H I' H') {D : Addr} {o : HO} (hI : I' D = none) (hm : ¬ W.mv D) (hn : H D = none) (hD : H' D = some o) : Stp W I H (upd I' D o) H' := by
  refine ⟨fun b u e => ?_, ⟨fun b u e => ?_, fun b u e => ?_, s.st.inv⟩, s.h, fun b u e n => ?_⟩
  · have e' := s.i _ _ e
    rw [upd_ne (ne_of_none e' hI)]; exact e'
  · by_cases hb : b = D
    · subst hb; rw [upd_same] at e; cases e; exact hD
    · rw [upd_ne hb] at e; exact s.st.sub _ _ e
  · by_cases hb : b = D
    · subst hb; exact hm
    · rw [upd_ne hb] at e; exact s.st.imm _ _ e
  · rw [upd_ne (ne_of_none e hn)]; exact s.new _ _ e n
theorem Same.laid {I : Hp} {D : Addr} {o : HO} (h : I D = none) : Same I (upd I D o) := fun b u e => by rw [upd_ne (ne_of_none e h)]; exact e
theorem Stp.new_none {W : Wd} (s : Stp W I H I' H') {D : Addr} {o : HO} (hn : I D = none) (h : H D = some o) : I' D = none := s.new _ _ h hn
end
/-- a comprehension's tests -/
structure DIfs (F : Fx) (X : Cx) (ifs : List Expr) (t : DB) : Prop where
  mono : ∀ ρ (Q Q' : Bool → Prop), (∀ d, Q d → Q' d) → t ρ Q → t ρ Q'
  run : PTs X ifs (rdT F X.K t)
theorem _root_.L2.PTs.imp {X : Cx} {ifs : List Expr} {t u : TT} (h : PTs X ifs t) (i : ∀ σ H Q, u σ H Q → t σ H Q) : PTs X ifs u := ⟨fun pins s σ H Q J q => h.run pins s σ H Q J (i σ H Q q)⟩
theorem dif_nil {F : Fx} {X : Cx} : DIfs F X [] (fun _ Q => Q true) := ⟨fun _ _ _ k q => k _ q, pts_nil.imp fun σ H Q ⟨I, ρ, A, q⟩ => q I H A.st.stp⟩
theorem dif_one {F : Fx} {X : Cx} {c : Expr} {t : DB} (h : DTest F X c t) : DIfs F X [c] t := ⟨h.mono, pts_one h.run⟩
def lcD (g : DGT) (tc : DB) (te : DT) (ρ : DEnv) : List D → (List D → Prop) → Prop
  | [], Q => Q []
  | d :: ds, Q => g d ρ fun ρ2 => tc ρ2 fun b => if b = true then te ρ2 fun y => lcD g tc te ρ ds fun ys => Q (y :: ys) else lcD g tc te ρ ds Q
section
variable {F : Fx} {X Y : Cx} {elt tg iter : Expr} {ifs : List Expr} {scope : Scope} {own : List (Str × Nat)} {pos : Pos} {ti : DAT} {js : List Nat} {g : DGT} {tc : DB} {te : DT}
theorem lcD.mono (hg : DG F Y tg js g) (ht : DIfs F Y ifs tc) (he : DE F Y elt te) (ρ : DEnv) : ∀ (ds : List D) (Q Q' : List D → Prop), (∀ ys, Q ys → Q' ys) → lcD g tc te ρ ds Q → lcD g tc te ρ ds Q'
  | [], Q, Q', k, h => k _ h
  | d :: ds, Q, Q', k, h => hg.mono _ _ _ _ (fun ρ2 q => ht.mono _ _ _ (fun b q => by
      cases b
      · exact lcD.mono hg ht he ρ ds _ _ k q
      · exact he.mono _ _ _ (fun y q => lcD.mono hg ht he ρ ds _ _ (fun ys => k _) q) q) q) h
/-- the reading of the block -/
theorem lc_run {vs : List Nat} {K : PySem.W.Frag} (hgm : ∀ d ρ (Q Q' : DEnv → Prop), (∀ ρ, Q ρ → Q' ρ) → g d ρ Q → g d ρ Q') (htm : ∀ ρ (Q Q' : Bool → Prop), (∀ d, Q d → Q' d) → tc ρ Q → tc ρ Q') (hem : ∀ ρ (Q Q' : D → Prop), (∀ d, Q d → Q' d) → te ρ Q → te ρ Q')
    (him : ∀ ρ (Q Q' : List D → Prop), (∀ d, Q d → Q' d) → ti ρ Q → ti ρ Q') (hjs : ∀ j ∈ js, j ∈ vs) {σ : St} {H : Hp} {Q : VK} {I : Hp} {ρ : DEnv} (A : At F K I ρ σ H) {P : List D → Prop}
    (q : ti ρ fun ds => ds.length ≤ sizeLine ∧ lcD g tc te (wipeD ρ vs) ds P) (hP : ∀ ys, P ys → ∀ p I' H', Stp F.W I H I' H' → H p = none → I' p = none → F.B p = none → ¬ F.W.mv p → (∃ ws, H' p = some (.lst ws) ∧ Reps K I' ws ys) → Q (.ref p) H') :
    tLc (rdI F K ti) (rdG F K js g) (rdT F K tc) (rdE F K te) vs σ H Q := by
  refine ⟨I, ρ, A, him _ _ _ (fun ds q J I1 H1 s jr E hE => ?_) q⟩
  obtain ⟨hl, q⟩ := q
  have A1 := (A.step s).wipe vs
  have hp : Apart (wipeD ρ vs) (wipe σ vs) E := A1.apart hE
  have hI1 : I1 E = none := s.st.free hE
  have hm : ¬ F.W.mv E := fun m => F.W.live s.st.inv m hE
  have hB : F.B E = none := by
    cases z : F.B E with
    | none => rfl
    | some u => have := A1.stp.h _ _ z hm; rw [hE] at this; cases this
  have hHE : H E = none := by
    cases z : H E with
    | none => rfl
    | some u => have := s.h _ _ z hm; rw [hE] at this; cases this
  refine ⟨fun i m H2 => m = ds.length - i ∧ i ≤ ds.length ∧ ∃ I2 ws ys, At F K I2 (wipeD ρ vs) (wipe σ vs) H2 ∧ Stp F.W I1 H1 I2 H2 ∧ H2 E = some (.lst ws) ∧ I2 E = none ∧ Reps K I2 ws ys ∧ ws.length ≤ i ∧ lcD g tc te (wipeD ρ vs) (ds.drop i) (fun zs => P (ys ++ zs)),
    ⟨ds.length, by simp, Nat.zero_le _, I1, [], [], A1.write _ hI1 hm hB hp, s.st.stp.write _ hI1 hm hE, upd_same, hI1, .nil, Nat.zero_le _, by simpa using q⟩, ?_⟩
  rintro i m H2 ⟨rfl, hi, I2, ws, ys, A2, s2, h2, n2, r2, l2, q2⟩
  by_cases hlt : i < ds.length
  · refine .inr ⟨jr.go i I2 H2 s2.i A2.st hlt, fun H3 => ∃ I3 ws3 ys3, At F K I3 (wipeD ρ vs) (wipe σ vs) H3 ∧ Stp F.W I1 H1 I3 H3 ∧ H3 E = some (.lst ws3) ∧ I3 E = none ∧ Reps K I3 ws3 ys3 ∧ ws3.length ≤ i + 1 ∧ lcD g tc te (wipeD ρ vs) (ds.drop (i + 1)) (fun zs => P (ys3 ++ zs)),
      fun H3 h => ⟨ds.length - (i + 1), by omega, rfl, hlt, h⟩, fun x H3 y => ?_⟩
    obtain ⟨d, I3, hd, st3, rx⟩ := jr.yld i I2 H2 x H3 hlt s2.i A2.st y
    rw [List.drop_eq_getElem_cons hlt] at q2
    rw [List.getElem?_eq_getElem hlt] at hd
    rw [Option.some.inj hd] at q2
    refine ⟨I3, wipeD ρ vs, d, A2.step st3, rx, hgm _ _ _ _ (fun ρ4 q4 I4 σ4 H4 A4 st4 o4 => ⟨(wipe_only o4 hjs).trans (wipe_wipe σ vs), ?_⟩) q2⟩
    refine rdT_next htm A4 q4 fun b I5 H5 q5 st5 => ?_
    have s25 : Stp F.W I2 H2 I5 H5 := (st3.trans st4).trans st5
    cases b
    · exact ⟨I5, ws, ys, A2.step s25, s2.trans s25, s25.h _ _ h2 hm, s25.new _ _ h2 n2, r2.mono s25.i, by omega, q5⟩
    · refine rdE_next hem (A4.step st5) q5 fun y' v I6 H6 q6 st6 rv => ?_
      have s26 : Stp F.W I2 H2 I6 H6 := s25.trans st6
      have n6 := s26.new _ _ h2 n2
      refine ⟨ws, s26.h _ _ h2 hm, by omega, I6, ws ++ [v], ys ++ [y'], (A2.step s26).write _ n6 hm hB hp, (s2.trans s26).write _ n6 hm hE, upd_same, n6, (r2.mono s26.i).append (.cons rv .nil), by simp; omega, ?_⟩
      simpa using q6
  · have e : i = ds.length := by omega
    subst e
    rw [List.drop_length] at q2
    refine .inl ⟨jr.stop I2 H2 s2.i A2.st, hP ys (by simpa [lcD] using q2) E I2 H2 (s.trans s2) hHE n2 hB hm ⟨ws, h2, r2⟩⟩
theorem de_lc (hc : X.calm = true) (hN : X.N.Nodup) (hi : DI F X tg iter ti) (ok : BlkOk X.N X.env.scope scope own)
    (hg : ∀ (s : Shared) (H : Hp) (C : Addr) (cl : List (Str × Addr)) (fp : List Addr), DG F (X.blk s H scope (compEnvC scope cl C X.env) fp) tg js g)
    (ht : ∀ (s : Shared) (H : Hp) (C : Addr) (cl : List (Str × Addr)) (fp : List Addr), DIfs F (X.blk s H scope (compEnvC scope cl C X.env) fp) ifs tc)
    (he : ∀ (s : Shared) (H : Hp) (C : Addr) (cl : List (Str × Addr)) (fp : List Addr), DE F (X.blk s H scope (compEnvC scope cl C X.env) fp) elt te)
    (hjs : ∀ j ∈ js, j ∈ own.map (·.2) := by decide) (hs : ∀ x, foldedSetIterable iter X.env x = pure x := by intro _; rfl) :
    DE F X (.ListComp elt [⟨tg, iter, ifs, 0⟩] scope pos) (fun ρ Q => ti ρ fun ds => ds.length ≤ sizeLine ∧ lcD g tc te (wipeD ρ (own.map (·.2))) ds fun ys => Q (.lst ys)) := by
  have g0 := hg X.s_0 X.H_0 0 [] []
  have t0 := ht X.s_0 X.H_0 0 [] []
  have e0 := he X.s_0 X.H_0 0 [] []
  refine ⟨fun ρ Q Q' k q => hi.mono _ _ _ (fun ds q => ⟨q.1, lcD.mono g0 t0 e0 _ _ _ _ (fun ys => k _) q.2⟩) q, (pe_lc (g := rdG F X.K js g) (tt := rdT F X.K tc) (te := rdE F X.K te) hc hN hi.run ok (fun s H C cl fp => (hg s H C cl fp).run) (fun s H C cl fp => (ht s H C cl fp).run) (fun s H C cl fp => (he s H C cl fp).run) hs).imp fun σ H Q ⟨I, ρ, A, q⟩ => ?_⟩
  refine lc_run g0.mono t0.mono e0.mono hi.mono hjs A q fun ys q p I' H' s hp ip bp mp ⟨ws, h, r⟩ => ?_
  exact q _ _ _ (s.freeze ip mp hp h) (.lst upd_same (r.mono (Same.laid ip)))
/-- y = [..]: the list stands still -/
theorem ds_setLc {i : Nat} {y : Str} {py spos : Pos} (hc : X.calm = true) (hN : X.N.Nodup) (hy : X.N[i]? = some y) (hyl : X.env.scope.names.lookup y = some .local)
    (hsw : swapsWith (.ListComp elt [⟨tg, iter, ifs, 0⟩] scope pos) (some (.Name y py)) spos.line X.env = pure true) (hi : DI F X tg iter ti) (ok : BlkOk X.N X.env.scope scope own)
    (hg : ∀ (s : Shared) (H : Hp) (C : Addr) (cl : List (Str × Addr)) (fp : List Addr), DG F (X.blk s H scope (compEnvC scope cl C X.env) fp) tg js g)
    (ht : ∀ (s : Shared) (H : Hp) (C : Addr) (cl : List (Str × Addr)) (fp : List Addr), DIfs F (X.blk s H scope (compEnvC scope cl C X.env) fp) ifs tc)
    (he : ∀ (s : Shared) (H : Hp) (C : Addr) (cl : List (Str × Addr)) (fp : List Addr), DE F (X.blk s H scope (compEnvC scope cl C X.env) fp) elt te)
    (hjs : ∀ j ∈ js, j ∈ own.map (·.2) := by decide) (hs : ∀ x, foldedSetIterable iter X.env x = pure x := by intro _; rfl) :
    DSt F X (.Assign [.Name y py] (.ListComp elt [⟨tg, iter, ifs, 0⟩] scope pos) spos) (fun Z ρ => ti ρ fun ds => ds.length ≤ sizeLine ∧ lcD g tc te (wipeD ρ (own.map (·.2))) ds fun ys => Z.nx (ρ.set i (some (.dat (.lst ys))))) := by
  have g0 := hg X.s_0 X.H_0 0 [] []
  have t0 := ht X.s_0 X.H_0 0 [] []
  have e0 := he X.s_0 X.H_0 0 [] []
  refine ⟨fun Z Z' ρ l q => hi.mono _ _ _ (fun ds q => ⟨q.1, lcD.mono g0 t0 e0 _ _ _ _ (fun ys => l.nx _) q.2⟩) q, (ps_setLc (g := rdG F X.K js g) (tt := rdT F X.K tc) (te := rdE F X.K te) hc hN hy hyl hsw hi.run ok (fun s H C cl fp => (hg s H C cl fp).run) (fun s H C cl fp => (ht s H C cl fp).run) (fun s H C cl fp => (he s H C cl fp).run) hs).imp fun Z σ H ⟨I, ρ, A, q⟩ => ?_⟩
  refine lc_run g0.mono t0.mono e0.mono hi.mono hjs A q fun ys q p I' H' s hp ip bp mp ⟨ws, h, r⟩ => ?_
  have s' := s.freeze ip mp hp h
  exact q _ _ _ s'.i ((A.step s').set (.lst upd_same (r.mono (Same.laid ip))))
end
end Dk

namespace Dk
open PySem L2

/-! ### subscripts, slices -/
def ixD : D → D → (D → Prop) → Prop
  | .lst xs, .int i, Q => ∃ d, atI xs i = some d ∧ Q d
  | .tup xs, .int i, Q => ∃ d, atI xs i = some d ∧ Q d
  | .str z, .int i, Q => z.length ≤ sizeLine ∧ ∃ c, atI z.cps.toList i = some c ∧ Q (.str ⟨#[c]⟩)
  | .dic kvs, y, Q => ∃ k d, y = keyD k ∧ lookD kvs k = some d ∧ Q d
  | .dfz kvs, y, Q => ∃ k d, y = keyD k ∧ lookD kvs k = some d ∧ Q d
  | _, _, _ => False
theorem mono_ix : Mono2 ixD := by
  intro x y Q Q' k h
  cases x <;> cases y <;> first | exact h.elim | (obtain ⟨d, e, q⟩ := h; exact ⟨d, e, k _ q⟩) | (obtain ⟨l, d, e, q⟩ := h; exact ⟨l, d, e, k _ q⟩) | (obtain ⟨l, d, e, e2, q⟩ := h; exact ⟨l, d, e, e2, k _ q⟩)
def rIxG (K : PySem.W.Frag) : R2 := fun x y H Q => rIx K x y H Q ∨ ∃ a v, x = .ref a ∧ DGet H a y (some v) ∧ Q v H
theorem ix_dict {X : Cx} (hu : X.A.units + 64 < cLine) : IxR X (fun x y H Q => ∃ a v, x = .ref a ∧ DGet H a y (some v) ∧ Q v H) := by
  intro value slice pins s σ H x y v u Q J rx ry h hs
  obtain ⟨a, w, rfl, g, q⟩ := h
  cases rx
  exact PyProof.Rows.tail_any (dict_typeIs J g) PySem.F.slot_dict_getitem.lookup (d_getItem (by omega) J g ry fun w' s3 J3 rw' => ⟨w, H, J3, rw', q⟩) hs
theorem ix_all {X : Cx} (hu : X.A.units + 64 < cLine) : IxR X (rIxG X.K) := ix_seq.or (ix_dict hu)
theorem Reps.atI {K : PySem.W.Frag} {I : Hp} {vs : List V} {ds : List D} {i : Int} {d : D} (r : Reps K I vs ds) (h : atI ds i = some d) : ∃ v, L2.atI vs i = some v ∧ Rep K I v d := by
  unfold L2.atI at h ⊢
  rw [r.length]
  cases e : ixN ds.length i with
  | none => rw [e] at h; cases h
  | some j =>
    rw [e] at h
    obtain ⟨v, h1, h2⟩ := r.get (show ds[j]? = some d from h)
    exact ⟨v, h1, h2⟩
section
variable {F : Fx} {X : Cx} {K : PySem.W.Frag} {I H : Hp} {a b e : Expr} {ta tb te : DT} {pos p2 : Pos}
theorem lf_ix : LiftR F K (rIxG K) ixD := by
  intro x y dx dy I H Q st rx ry h
  cases dx with
  | dic kvs =>
    obtain ⟨k, d, rfl, e, q⟩ := h
    cases rx with
    | @dic p ws _ a kk r =>
      rcases lookD_rep (k := k) kk r with ⟨_, z⟩ | ⟨v, d', h1, h2, h3⟩
      · rw [e] at z; cases z
      · rw [e] at h2
        cases h2
        refine .inr ⟨p, v, rfl, .inl ⟨ws, k, .of (st.sub _ _ a), keyD_rep ry, h1.symm⟩, q _ I H st.stp h3⟩
  | dfz kvs =>
    obtain ⟨k, d, rfl, e, q⟩ := h
    cases rx with
    | @dfz p _ ws _ a kk r =>
      rcases lookD_rep (k := k) kk r with ⟨_, z⟩ | ⟨v, d', h1, h2, h3⟩
      · rw [e] at z; cases z
      · rw [e] at h2
        cases h2
        refine .inr ⟨p, v, rfl, .inl ⟨ws, k, .inr ⟨_, st.sub _ _ a⟩, keyD_rep ry, h1.symm⟩, q _ I H st.stp h3⟩
  | str z =>
    cases dy <;> first | exact h.elim | skip
    cases rx; cases ry
    obtain ⟨l, c, e, q⟩ := h
    exact .inl (.inr (.inr ⟨_, _, c, rfl, rfl, l, e, q _ I H st.stp (.str _)⟩))
  | tup xs =>
    cases dy <;> first | exact h.elim | skip
    cases ry
    cases rx with
    | tup a r =>
      obtain ⟨d, e, q⟩ := h
      obtain ⟨v, h1, h2⟩ := r.atI e
      exact .inl (.inr (.inl ⟨_, _, _, v, rfl, rfl, Same.seqT st.sub a, h1, q _ I H st.stp h2⟩))
  | lst xs =>
    cases dy <;> first | exact h.elim | skip
    cases ry
    cases rx with
    | lst a r =>
      obtain ⟨d, e, q⟩ := h
      obtain ⟨v, h1, h2⟩ := r.atI e
      exact .inl (.inl ⟨_, _, _, v, rfl, rfl, .of (st.sub _ _ a), h1, q _ I H st.stp h2⟩)
  | _ => cases dy <;> exact h.elim
theorem de_at (hu : X.A.units + 64 < cLine) (ha : DE F X a ta) (hb : DE F X b tb) (hs : PlainIx b := by exact fun _ _ => rfl) : DE F X (.Subscript a b pos) (fun ρ Q => ta ρ fun x => tb ρ fun y => ixD x y Q) := de_ix mono_ix (ix_all hu) lf_ix ha hb hs
/-- parts of a slice -/
abbrev DOT := DEnv → (Option Int → Prop) → Prop
def rdO (F : Fx) (K : PySem.W.Frag) (t : DOT) : TO := fun σ H Q => ∃ I ρ, At F K I ρ σ H ∧ t ρ fun o => ∀ I' H', Stp F.W I H I' H' → Q o H'
structure DO (F : Fx) (X : Cx) (e : Option Expr) (t : DOT) : Prop where
  mono : ∀ ρ (Q Q' : Option Int → Prop), (∀ d, Q d → Q' d) → t ρ Q → t ρ Q'
  run : PO X e (rdO F X.K t)
theorem _root_.L2.PO.imp {e : Option Expr} {t u : TO} (h : PO X e t) (i : ∀ σ H Q, u σ H Q → t σ H Q) : PO X e u := ⟨fun pins s σ H Q J q => h.run pins s σ H Q J (i σ H Q q)⟩
theorem do_none : DO F X none (fun _ Q => Q none) := ⟨fun _ _ _ k q => k _ q, po_none.imp fun σ H Q ⟨I, ρ, A, q⟩ => q I H A.st.stp⟩
def intD (d : D) (Q : Int → Prop) : Prop := ∃ i, d = .int i ∧ Q i
theorem do_some (h : DE F X e te) : DO F X (some e) (fun ρ Q => te ρ fun d => intD d fun i => Q (some i)) := by
  refine ⟨fun _ _ _ k q => h.mono _ _ _ (fun d ⟨i, e, q⟩ => ⟨i, e, k _ q⟩) q, (po_some h.run).imp fun σ H Q ⟨I, ρ, A, q⟩ => rdE_next h.mono A q fun d v I' H' p s rv => ?_⟩
  obtain ⟨i, rfl, p⟩ := p
  cases rv
  exact ⟨i, rfl, p I' H' s⟩
def cutD (xs : List D) (lo hi : Option Int) : List D := (xs.drop (HT.sIx xs.length 0 lo)).take (HT.sIx xs.length xs.length hi - HT.sIx xs.length 0 lo)
def sliceD : D → Option Int → Option Int → (D → Prop) → Prop
  | .lst xs, lo, hi, Q => Q (.lst (cutD xs lo hi))
  | .tup xs, lo, hi, Q => Q (.tup (cutD xs lo hi))
  | .str z, lo, hi, Q => z.length ≤ sizeLine ∧ Q (.str (cutS z lo hi))
  | _, _, _, _ => False
theorem sliceD.mono {d : D} {lo hi : Option Int} {Q Q' : D → Prop} (k : ∀ d, Q d → Q' d) (h : sliceD d lo hi Q) : sliceD d lo hi Q' := by
  cases d <;> first | exact h.elim | exact k _ h | exact ⟨h.1, k _ h.2⟩
theorem de_slice {lo hi : Option Expr} {tl th : DOT} (he : DE F X e te) (hl : DO F X lo tl) (hh : DO F X hi th) : DE F X (.Subscript e (.Slice lo hi none p2) pos) (fun ρ Q => te ρ fun d => tl ρ fun l => th ρ fun u => sliceD d l u Q) := by
  refine ⟨fun ρ Q Q' k q => he.mono _ _ _ (fun d q => hl.mono _ _ _ (fun l q => hh.mono _ _ _ (fun u => sliceD.mono k) q) q) q, (pe_slice (sl_list.or (sl_tupA.or sl_str)) he.run hl.run hh.run).imp fun σ H Q ⟨I, ρ, A, q⟩ => rdE_next he.mono A q fun d v I1 H1 q1 s1 rv => ?_⟩
  refine ⟨I1, ρ, A.step s1, hl.mono _ _ _ (fun l q2 I2 H2 s2 => ?_) q1⟩
  refine ⟨I2, ρ, (A.step s1).step s2, hh.mono _ _ _ (fun u q3 I3 H3 s3 => ?_) q2⟩
  have s := (s1.trans s2).trans s3
  have rv := rv.mono (Same.trans s2.i s3.i)
  cases rv with
  | @lst q zs es a r =>
    refine .inl ⟨_, _, rfl, .of (s3.st.sub _ _ a), fun p hp => ?_⟩
    have l' := s3.st.laid hp (.lst (cutV zs l u))
    exact q3 _ _ _ (s.trans l') (.lst upd_same ((r.cut l u).mono l'.i))
  | @tup q zs es a r =>
    refine .inr (.inl ⟨_, _, rfl, Same.seqT s3.st.sub a, fun hw => ?_, fun hw p hp => ?_⟩)
    · have e : cutD es l u = es := by
        unfold cutD
        rw [← r.length, hw.1, hw.2, Nat.sub_zero, List.drop_zero, r.length, List.take_length]
      have q3 : fin F X.K I H Q (.tup (cutD es l u)) := q3
      rw [e] at q3
      exact q3 _ _ _ s (.tup a r)
    · have l' := s3.st.laid hp (.tup (cutV zs l u))
      exact q3 _ _ _ (s.trans l') (.tup (.of upd_same) ((r.cut l u).mono l'.i))
  | str z => exact .inr (.inr ⟨_, rfl, q3.1, q3.2 _ _ _ s (.str _)⟩)
  | non => exact q3.elim
  | bl _ => exact q3.elim
  | int _ => exact q3.elim
  | dic _ _ _ => exact q3.elim
  | obj _ _ _ => exact q3.elim
  | opq _ => exact q3.elim
  | dfz _ _ _ => exact q3.elim
def revD : D → (D → Prop) → Prop
  | .lst xs, Q => Q (.lst xs.reverse)
  | _, _ => False
/-- xs[::-1] -/
theorem de_rev {k : Nat} {p1 p2 p3 pos : Pos} (he : DE F X e te) : DE F X (.Subscript e (.Slice none none (some (.UnaryOp .USub (.Constant (.int 1) k p1) p2)) p3) pos) (fun ρ Q => te ρ fun d => revD d Q) := by
  refine ⟨fun ρ Q Q' k q => he.mono _ _ _ (fun d q => by cases d <;> first | exact q.elim | exact k _ q) q, (pe_revL he.run).imp fun σ H Q ⟨I, ρ, A, q⟩ => rdE_next he.mono A q fun d v I1 H1 q1 s rv => ?_⟩
  cases rv with
  | @lst q zs es a r =>
    refine ⟨_, _, rfl, .of (s.st.sub _ _ a), fun p hp => ?_⟩
    have l' := s.st.laid hp (.lst zs.reverse)
    exact q1 _ _ _ (s.trans l') (.lst upd_same (r.reverse.mono l'.i))
  | _ => exact q1.elim
end

/-! ### built-in functions -/
def lenD : List D → (D → Prop) → Prop
  | [.lst xs], Q => Q (.int xs.length)
  | [.tup xs], Q => Q (.int xs.length)
  | [.str z], Q => z.length ≤ sizeLine ∧ Q (.int z.length)
  | _, _ => False
def sumD : List D → (D → Prop) → Prop
  | [.lst xs], Q => ∃ ns : List Int, xs = ns.map D.int ∧ Q (.int ns.sum)
  | _, _ => False
def allD : List D → (D → Prop) → Prop
  | [.lst xs], Q => ∃ ns : List Bool, xs = ns.map D.bl ∧ Q (.bl (ns.all id))
  | _, _ => False
def anyD : List D → (D → Prop) → Prop
  | [.lst xs], Q => ∃ ns : List Bool, xs = ns.map D.bl ∧ Q (.bl (ns.any id))
  | _, _ => False
def listD : List D → (D → Prop) → Prop
  | [.lst xs], Q => Q (.lst xs)
  | [.tup xs], Q => Q (.lst xs)
  | _, _ => False
def tupleD : List D → (D → Prop) → Prop
  | [.lst xs], Q => Q (.tup xs)
  | [.tup xs], Q => Q (.tup xs)
  | _, _ => False
def intOfD : List D → (D → Prop) → Prop
  | [.int i], Q => Q (.int i)
  | [.bl b], Q => Q (.int (if b then 1 else 0))
  | [.str z], Q => ∃ n, PySem.intText? z = some n ∧ z.length ≤ 640 ∧ Q (.int n)
  | _, _ => False
def strOfD : List D → (D → Prop) → Prop
  | [.int i], Q => i.natAbs.log2 < 1920 ∧ Q (.str (toString i))
  | [.str z], Q => Q (.str z)
  | _, _ => False
def max2D : List D → (D → Prop) → Prop
  | [.int i, .int j], Q => Q (.int (if j > i then j else i))
  | _, _ => False
def min2D : List D → (D → Prop) → Prop
  | [.int i, .int j], Q => Q (.int (if j < i then j else i))
  | _, _ => False
section
variable {F : Fx} {X : Cx} {K : PySem.W.Frag}
theorem Reps.one {I : Hp} {vs : List V} {d : D} (h : Reps K I vs [d]) : ∃ v, vs = [v] ∧ Rep K I v d := by
  cases h with
  | cons a b => cases b; exact ⟨_, rfl, a⟩
theorem Reps.two {I : Hp} {vs : List V} {d e : D} (h : Reps K I vs [d, e]) : ∃ v w, vs = [v, w] ∧ Rep K I v d ∧ Rep K I w e := by
  cases h with
  | cons a b =>
    obtain ⟨w, rfl, r⟩ := b.one
    exact ⟨_, _, rfl, a, r⟩
theorem Reps.blsOf {I : Hp} : ∀ {ns : List Bool} {vs : List V}, Reps K I vs (ns.map D.bl) → vs = ns.map V.bl := fun h => h.blsV
theorem mono_lenD : MonoN lenD := by
  intro ds Q Q' k h
  unfold lenD at h ⊢
  split at h <;> first | exact h.elim | exact k _ h | exact ⟨h.1, k _ h.2⟩ | (obtain ⟨n, e, q⟩ := h; exact ⟨n, e, k _ q⟩) | (obtain ⟨n, e, l, q⟩ := h; exact ⟨n, e, l, k _ q⟩)
theorem mono_sumD : MonoN sumD := by
  intro ds Q Q' k h
  unfold sumD at h ⊢
  split at h <;> first | exact h.elim | exact k _ h | exact ⟨h.1, k _ h.2⟩ | (obtain ⟨n, e, q⟩ := h; exact ⟨n, e, k _ q⟩) | (obtain ⟨n, e, l, q⟩ := h; exact ⟨n, e, l, k _ q⟩)
theorem mono_allD : MonoN allD := by
  intro ds Q Q' k h
  unfold allD at h ⊢
  split at h <;> first | exact h.elim | exact k _ h | exact ⟨h.1, k _ h.2⟩ | (obtain ⟨n, e, q⟩ := h; exact ⟨n, e, k _ q⟩) | (obtain ⟨n, e, l, q⟩ := h; exact ⟨n, e, l, k _ q⟩)
theorem mono_anyD : MonoN anyD := by
  intro ds Q Q' k h
  unfold anyD at h ⊢
  split at h <;> first | exact h.elim | exact k _ h | exact ⟨h.1, k _ h.2⟩ | (obtain ⟨n, e, q⟩ := h; exact ⟨n, e, k _ q⟩) | (obtain ⟨n, e, l, q⟩ := h; exact ⟨n, e, l, k _ q⟩)
theorem mono_listD : MonoN listD := by
  intro ds Q Q' k h
  unfold listD at h ⊢
  split at h <;> first | exact h.elim | exact k _ h | exact ⟨h.1, k _ h.2⟩ | (obtain ⟨n, e, q⟩ := h; exact ⟨n, e, k _ q⟩) | (obtain ⟨n, e, l, q⟩ := h; exact ⟨n, e, l, k _ q⟩)
theorem mono_tupleD : MonoN tupleD := by
  intro ds Q Q' k h
  unfold tupleD at h ⊢
  split at h <;> first | exact h.elim | exact k _ h | exact ⟨h.1, k _ h.2⟩ | (obtain ⟨n, e, q⟩ := h; exact ⟨n, e, k _ q⟩) | (obtain ⟨n, e, l, q⟩ := h; exact ⟨n, e, l, k _ q⟩)
theorem mono_intOfD : MonoN intOfD := by
  intro ds Q Q' k h
  unfold intOfD at h ⊢
  split at h <;> first | exact h.elim | exact k _ h | exact ⟨h.1, k _ h.2⟩ | (obtain ⟨n, e, q⟩ := h; exact ⟨n, e, k _ q⟩) | (obtain ⟨n, e, l, q⟩ := h; exact ⟨n, e, l, k _ q⟩)
theorem mono_strOfD : MonoN strOfD := by
  intro ds Q Q' k h
  unfold strOfD at h ⊢
  split at h <;> first | exact h.elim | exact k _ h | exact ⟨h.1, k _ h.2⟩ | (obtain ⟨n, e, q⟩ := h; exact ⟨n, e, k _ q⟩) | (obtain ⟨n, e, l, q⟩ := h; exact ⟨n, e, l, k _ q⟩)
theorem mono_max2D : MonoN max2D := by
  intro ds Q Q' k h
  unfold max2D at h ⊢
  split at h <;> first | exact h.elim | exact k _ h | exact ⟨h.1, k _ h.2⟩ | (obtain ⟨n, e, q⟩ := h; exact ⟨n, e, k _ q⟩) | (obtain ⟨n, e, l, q⟩ := h; exact ⟨n, e, l, k _ q⟩)
theorem mono_min2D : MonoN min2D := by
  intro ds Q Q' k h
  unfold min2D at h ⊢
  split at h <;> first | exact h.elim | exact k _ h | exact ⟨h.1, k _ h.2⟩ | (obtain ⟨n, e, q⟩ := h; exact ⟨n, e, k _ q⟩) | (obtain ⟨n, e, l, q⟩ := h; exact ⟨n, e, l, k _ q⟩)
theorem lc_len : LiftC F K (fun xs H Q => ∃ x n, xs = [x] ∧ LenV K x H n ∧ Q (.int n) H) lenD := by
  intro vs ds I H Q st rs h
  unfold lenD at h
  split at h
  · obtain ⟨v, rfl, r⟩ := rs.one
    cases r with
    | lst a r => exact ⟨_, _, rfl, .inl ⟨_, .of (st.sub _ _ a), r.length.symm⟩, h _ I H st.stp (.int _)⟩
  · obtain ⟨v, rfl, r⟩ := rs.one
    cases r with
    | tup a r => exact ⟨_, _, rfl, .inr ⟨_, Same.seqT st.sub a, r.length.symm⟩, h _ I H st.stp (.int _)⟩
  · obtain ⟨v, rfl, r⟩ := rs.one
    cases r
    exact ⟨_, _, rfl, ⟨h.1, rfl⟩, h.2 _ I H st.stp (.int _)⟩
  · exact h.elim
theorem lc_sum : LiftC F K (rSum K) sumD := by
  intro vs ds I H Q st rs h
  unfold sumD at h
  split at h
  · obtain ⟨v, rfl, r⟩ := rs.one
    obtain ⟨ns, rfl, q⟩ := h
    cases r with
    | lst a r => exact ⟨_, ns, rfl, r.intsV ▸ .of (st.sub _ _ a), q _ I H st.stp (.int _)⟩
  · exact h.elim
theorem lc_all : LiftC F K (rAll K) allD := by
  intro vs ds I H Q st rs h
  unfold allD at h
  split at h
  · obtain ⟨v, rfl, r⟩ := rs.one
    obtain ⟨ns, rfl, q⟩ := h
    cases r with
    | lst a r => exact ⟨_, ns, rfl, r.blsV ▸ .of (st.sub _ _ a), q _ I H st.stp (.bl _)⟩
  · exact h.elim
theorem lc_any : LiftC F K (rAny K) anyD := by
  intro vs ds I H Q st rs h
  unfold anyD at h
  split at h
  · obtain ⟨v, rfl, r⟩ := rs.one
    obtain ⟨ns, rfl, q⟩ := h
    cases r with
    | lst a r => exact ⟨_, ns, rfl, r.blsV ▸ .of (st.sub _ _ a), q _ I H st.stp (.bl _)⟩
  · exact h.elim
theorem lc_list : LiftC F K (fun xs H Q => ∃ p ys, xs = [.ref p] ∧ (SqL K H p ys ∨ SqT K H p ys) ∧ ∀ l, H l = none → Q (.ref l) (upd H l (.lst ys))) listD := by
  intro vs ds I H Q st rs h
  unfold listD at h
  split at h
  · obtain ⟨v, rfl, r⟩ := rs.one
    cases r with
    | @lst q zs es a r =>
      refine ⟨_, _, rfl, .inl (.of (st.sub _ _ a)), fun p hp => ?_⟩
      have l := st.laid hp (.lst zs)
      exact h _ _ _ l (.lst upd_same (r.mono l.i))
  · obtain ⟨v, rfl, r⟩ := rs.one
    cases r with
    | @tup q zs es a r =>
      refine ⟨_, _, rfl, .inr (Same.seqT st.sub a), fun p hp => ?_⟩
      have l := st.laid hp (.lst zs)
      exact h _ _ _ l (.lst upd_same (r.mono l.i))
  · exact h.elim
theorem lc_tuple : LiftC F K (fun xs H Q => ∃ p ys, xs = [.ref p] ∧ ((SqL K H p ys ∧ ∀ l, H l = none → Q (.ref l) (upd H l (.tup ys))) ∨ (SqT K H p ys ∧ Q (.ref p) H))) tupleD := by
  intro vs ds I H Q st rs h
  unfold tupleD at h
  split at h
  · obtain ⟨v, rfl, r⟩ := rs.one
    cases r with
    | @lst q zs es a r =>
      refine ⟨_, _, rfl, .inl ⟨.of (st.sub _ _ a), fun p hp => ?_⟩⟩
      have l := st.laid hp (.tup zs)
      exact h _ _ _ l (.tup (.of upd_same) (r.mono l.i))
  · obtain ⟨v, rfl, r⟩ := rs.one
    cases r with
    | tup a r => exact ⟨_, _, rfl, .inr ⟨Same.seqT st.sub a, h _ _ _ st.stp (.tup a r)⟩⟩
  · exact h.elim
theorem lc_int : LiftC F K (fun xs H Q => ((∃ i, xs = [.int i] ∧ Q (.int i) H) ∨ ∃ k, xs = [.bl k] ∧ Q (.int (if k then 1 else 0)) H) ∨ ∃ a n, xs = [.str a] ∧ PySem.intText? a = some n ∧ a.length ≤ 640 ∧ Q (.int n) H) intOfD := by
  intro vs ds I H Q st rs h
  unfold intOfD at h
  split at h
  · obtain ⟨v, rfl, r⟩ := rs.one
    cases r
    exact .inl (.inl ⟨_, rfl, h _ I H st.stp (.int _)⟩)
  · obtain ⟨v, rfl, r⟩ := rs.one
    cases r
    exact .inl (.inr ⟨_, rfl, h _ I H st.stp (.int _)⟩)
  · obtain ⟨v, rfl, r⟩ := rs.one
    obtain ⟨n, e, l, q⟩ := h
    cases r
    exact .inr ⟨_, n, rfl, e, l, q _ I H st.stp (.int _)⟩
  · exact h.elim
theorem lc_str : LiftC F K (fun xs H Q => (∃ i, xs = [.int i] ∧ i.natAbs.log2 < 1920 ∧ Q (.str (toString i)) H) ∨ ∃ a, xs = [.str a] ∧ Q (.str a) H) strOfD := by
  intro vs ds I H Q st rs h
  unfold strOfD at h
  split at h
  · obtain ⟨v, rfl, r⟩ := rs.one
    cases r
    exact .inl ⟨_, rfl, h.1, h.2 _ I H st.stp (.str _)⟩
  · obtain ⟨v, rfl, r⟩ := rs.one
    cases r
    exact .inr ⟨_, rfl, h _ I H st.stp (.str _)⟩
  · exact h.elim
theorem lc_max2 : LiftC F K (fun xs H Q => ∃ i j, xs = [.int i, .int j] ∧ Q (.int (if j > i then j else i)) H) max2D := by
  intro vs ds I H Q st rs h
  unfold max2D at h
  split at h
  · obtain ⟨v, w, rfl, r, r'⟩ := rs.two
    cases r; cases r'
    exact ⟨_, _, rfl, h _ I H st.stp (.int _)⟩
  · exact h.elim
theorem lc_min2 : LiftC F K (fun xs H Q => ∃ i j, xs = [.int i, .int j] ∧ Q (.int (if j < i then j else i)) H) min2D := by
  intro vs ds I H Q st rs h
  unfold min2D at h
  split at h
  · obtain ⟨v, w, rfl, r, r'⟩ := rs.two
    cases r; cases r'
    exact ⟨_, _, rfl, h _ I H st.stp (.int _)⟩
  · exact h.elim
variable {p pos : Pos} {e e2 : Expr} {es : List Expr} {t : DAT} {te : DT}
theorem de_len (hm : X.mg "len" = none) (ha : DA F X [e] t) (hg : Gl X "len" := by rfl) (he : starEach [e] X.env = (false, eval e X.env) :: starEach [] X.env := by rfl) : DE F X (.Call (.Name "len" p) [e] [] pos) (fun ρ Q => t ρ fun ds => lenD ds Q) := de_callB mono_lenD lc_len call_len hm PySem.boot_len ha hg (by decide) (by decide) he rfl
theorem de_sum (hc : X.calm = true) (hm : X.mg "sum" = none) (ha : DA F X [e] t) (hg : Gl X "sum" := by rfl) (he : starEach [e] X.env = (false, eval e X.env) :: starEach [] X.env := by rfl) : DE F X (.Call (.Name "sum" p) [e] [] pos) (fun ρ Q => t ρ fun ds => sumD ds Q) := de_callB mono_sumD lc_sum (cr_sum hc) hm (by decide +kernel) ha hg (by decide) (by decide) he rfl
theorem de_all (hc : X.calm = true) (hm : X.mg "all" = none) (ha : DA F X [e] t) (hg : Gl X "all" := by rfl) (he : starEach [e] X.env = (false, eval e X.env) :: starEach [] X.env := by rfl) : DE F X (.Call (.Name "all" p) [e] [] pos) (fun ρ Q => t ρ fun ds => allD ds Q) := de_callB mono_allD lc_all (cr_all hc) hm (by decide +kernel) ha hg (by decide) (by decide) he rfl
theorem de_any (hc : X.calm = true) (hm : X.mg "any" = none) (ha : DA F X [e] t) (hg : Gl X "any" := by rfl) (he : starEach [e] X.env = (false, eval e X.env) :: starEach [] X.env := by rfl) : DE F X (.Call (.Name "any" p) [e] [] pos) (fun ρ Q => t ρ fun ds => anyD ds Q) := de_callB mono_anyD lc_any (cr_any hc) hm (by decide +kernel) ha hg (by decide) (by decide) he rfl
theorem de_list (hm : X.mg "list" = none) (ha : DA F X [e] t) (hg : Gl X "list" := by rfl) (he : starEach [e] X.env = (false, eval e X.env) :: starEach [] X.env := by rfl) : DE F X (.Call (.Name "list" p) [e] [] pos) (fun ρ Q => t ρ fun ds => listD ds Q) := de_callT mono_listD lc_list call_list_of hm (by decide +kernel) ha hg (by decide) (by decide) he rfl
theorem de_tuple (hm : X.mg "tuple" = none) (ha : DA F X [e] t) (hg : Gl X "tuple" := by rfl) (he : starEach [e] X.env = (false, eval e X.env) :: starEach [] X.env := by rfl) : DE F X (.Call (.Name "tuple" p) [e] [] pos) (fun ρ Q => t ρ fun ds => tupleD ds Q) := de_callT mono_tupleD lc_tuple call_tuple_of hm (by decide +kernel) ha hg (by decide) (by decide) he rfl
theorem de_intOf (hm : X.mg "int" = none) (ha : DA F X [e] t) (hg : Gl X "int" := by rfl) (he : starEach [e] X.env = (false, eval e X.env) :: starEach [] X.env := by rfl) : DE F X (.Call (.Name "int" p) [e] [] pos) (fun ρ Q => t ρ fun ds => intOfD ds Q) := de_callT mono_intOfD lc_int (call_int1.or call_int_str) hm (by decide +kernel) ha hg (by decide) (by decide) he rfl
theorem de_strOf (hm : X.mg "str" = none) (ha : DA F X [e] t) (hg : Gl X "str" := by rfl) (he : starEach [e] X.env = (false, eval e X.env) :: starEach [] X.env := by rfl) : DE F X (.Call (.Name "str" p) [e] [] pos) (fun ρ Q => t ρ fun ds => strOfD ds Q) := de_callT mono_strOfD lc_str (call_str_int.or SkE.call_str_str) hm (by decide +kernel) ha hg (by decide) (by decide) he rfl
theorem de_max2 (hc : X.calm = true) (hm : X.mg "max" = none) (ha : DA F X [e, e2] t) (hg : Gl X "max" := by rfl) (he : starEach [e, e2] X.env = (false, eval e X.env) :: starEach [e2] X.env := by rfl) (hpl : (backTo pos (starEach [e2] X.env)).any (·.1) = false := by rfl) : DE F X (.Call (.Name "max" p) [e, e2] [] pos) (fun ρ Q => t ρ fun ds => max2D ds Q) := de_callB mono_max2D lc_max2 (call_max2 hc) hm (by decide +kernel) ha hg (by decide) (by decide) he hpl
theorem de_min2 (hc : X.calm = true) (hm : X.mg "min" = none) (ha : DA F X [e, e2] t) (hg : Gl X "min" := by rfl) (he : starEach [e, e2] X.env = (false, eval e X.env) :: starEach [e2] X.env := by rfl) (hpl : (backTo pos (starEach [e2] X.env)).any (·.1) = false := by rfl) : DE F X (.Call (.Name "min" p) [e, e2] [] pos) (fun ρ Q => t ρ fun ds => min2D ds Q) := de_callB mono_min2D lc_min2 (call_min2 hc) hm (by decide +kernel) ha hg (by decide) (by decide) he hpl
/-- list(range(..)) -/
theorem de_listRg1 (hc : X.calm = true) (hl : X.mg "list" = none) (hr : X.mg "range" = none) (he : DE F X e te) {q rp : Pos} (hgl : Gl X "list" := by rfl) (hgr : Gl X "range" := by rfl) (n1 : starEach [e] X.env = (false, eval e X.env) :: starEach [] X.env := by rfl)
    (n2 : starEach [Expr.Call (.Name "range" q) [e] [] rp] X.env = (false, eval (Expr.Call (.Name "range" q) [e] [] rp) X.env) :: starEach [] X.env := by rfl) : DE F X (.Call (.Name "list" p) [.Call (.Name "range" q) [e] [] rp] [] pos) (fun ρ Q => te ρ fun d => intD d fun n => RgOk 0 n ∧ Q (.lst (rngD 0 n.toNat))) := by
  refine ⟨fun ρ Q Q' k q => he.mono _ _ _ (fun d ⟨i, e, o, q⟩ => ⟨i, e, o, k _ q⟩) q, (pe_listRg hc hgl hl (prg_1 hgr hr he.run n1) n2).imp fun σ H Q ⟨I, ρ, A, q⟩ => rdE_next he.mono A q fun d v I1 H1 q1 s rv => ?_⟩
  obtain ⟨n, rfl, ok, q1⟩ := q1
  cases rv
  refine ⟨n, rfl, ok, fun z hz => ?_⟩
  have l := s.st.laid hz (.lst (rgV 0 n))
  refine q1 _ _ _ (s.trans l) (.lst upd_same ?_)
  have : Reps X.K (upd I1 z (.lst (rgV 0 n))) (rgV 0 n) (rngD 0 n.toNat) := by
    unfold rgV rngD
    rw [Int.sub_zero]
    refine .of_get (by simp) fun i v d h1 h2 => ?_
    rw [List.getElem?_map] at h1 h2
    cases e : (List.range n.toNat)[i]? with
    | none => rw [e] at h1; cases h1
    | some j => rw [e] at h1 h2; cases h1; cases h2; exact .int _
  exact this
end
end Dk

namespace Dk
open PySem L2

/-! ### lists of our own -/
section
variable {F : Fx} {X : Cx} {K : PySem.W.Frag} {I H I' H' : Hp} {ρ : DEnv} {σ : St} {e : Expr} {es : List Expr} {te : DT} {ta : DAT} {t : DTS} {sts : List Stmt} {pos : Pos}
theorem At.newOwn (a : At F K I ρ σ H) {i : Nat} {p : Addr} {en : Ent} {o : HO} (hp : H p = none) (r : OwnRep K I en o) (ad : ∀ q, en.adr = some q → p = q := by intro _ h; cases h) : At F K I (ρ.set i (some en)) (σ.set i (some (.ref p))) (upd H p o) := by
  have hm : ¬ F.W.mv p := fun m => F.W.live a.st.inv m hp
  have hI := a.st.free hp
  have hB : F.B p = none := by
    cases z : F.B p with
    | none => rfl
    | some u => have := a.stp.h _ _ z hm; rw [hp] at this; cases this
  have ap := a.apart hp
  have w := a.write o hI hm hB ap
  refine ⟨w.stp, by simp [a.len], fun j e h => ?_, fun j l e e' v hjl h1 h2 o1 o2 hv => ?_⟩
  · rcases set_at h with ⟨rfl, q⟩ | ⟨hij, q⟩
    · cases q
      have hi : i < ρ.length := by simpa using (List.getElem?_eq_some_iff.mp h).1
      exact ⟨.ref p, by rw [List.getElem?_set]; simp [← a.len, hi], .inr ⟨p, o, rfl, upd_same, r, hI, hm, hB, ad⟩⟩
    · obtain ⟨v, h1, h2⟩ := w.env j e q
      exact ⟨v, by rw [List.getElem?_set_ne hij]; exact h1, h2⟩
  · rcases set_at h1 with ⟨rfl, q⟩ | ⟨hij, q⟩
    · cases q
      have hi : i < ρ.length := by simpa using (List.getElem?_eq_some_iff.mp h1).1
      have hv' : v = .ref p := by
        rw [List.getElem?_set] at hv
        simp [← a.len, hi] at hv
        exact hv.symm
      subst hv'
      rcases set_at h2 with ⟨rfl, q'⟩ | ⟨hil, q'⟩
      · exact absurd rfl hjl
      · rw [List.getElem?_set_ne hil]
        exact ap l e' q' o2
    · rcases set_at h2 with ⟨rfl, q'⟩ | ⟨hil, q'⟩
      · cases q'
        rw [List.getElem?_set_ne hij] at hv
        intro z
        have hi : i < ρ.length := by simpa using (List.getElem?_eq_some_iff.mp h2).1
        rw [List.getElem?_set] at z
        simp [← a.len, hi] at z
        subst z
        exact ap j e q o1 hv
      · rw [List.getElem?_set_ne hij] at hv
        rw [List.getElem?_set_ne hil]
        exact a.dis j l e e' v hjl q q' o1 o2 hv
theorem OwnAt.other {e : Ent} {p q : Addr} {o u : HO} (h : OwnAt F K I H e p o) (n : p ≠ q) : OwnAt F K I (upd H q u) e p o := ⟨by rw [upd_ne n]; exact h.hp, h.rep, h.ni, h.nm, h.nb, h.ad⟩
/-- .. turned -/
theorem At.turnOwn (a : At F K I ρ σ H) {i : Nat} {en : Ent} (h : ρ[i]? = some (some en)) (ho : en.isOwn) : ∃ p o, σ[i]? = some (some (.ref p)) ∧ OwnAt F K I H en p o ∧ ∀ en' o', OwnRep K I en' o' → (∀ q, en'.adr = some q → p = q) → At F K I (ρ.set i (some en')) σ (upd H p o') := by
  obtain ⟨v, h1, h2⟩ := a.env i _ h
  obtain ⟨p, o, rfl, w⟩ := h2.own ho
  refine ⟨p, o, h1, w, fun en' o' rw' ad => ?_⟩
  refine ⟨⟨a.stp.i, ⟨fun c u e => ?_, a.st.imm, F.W.frame (fun c hm => upd_ne fun z => w.nm (z ▸ hm)) a.st.inv⟩, fun c u e hm => ?_, a.stp.new⟩, by simp [a.len], fun j e hj => ?_, fun j l e e' v hjl h3 h4 o1 o2 hv => ?_⟩
  · rw [upd_ne (ne_of_none e w.ni)]; exact a.st.sub _ _ e
  · rw [upd_ne (ne_of_none e w.nb)]; exact a.stp.h _ _ e hm
  · rcases set_at hj with ⟨rfl, q⟩ | ⟨hij, q⟩
    · cases q
      exact ⟨.ref p, h1, .inr ⟨p, o', rfl, upd_same, rw', w.ni, w.nm, w.nb, ad⟩⟩
    · obtain ⟨u, h3, h4⟩ := a.env j e q
      refine ⟨u, h3, ?_⟩
      rcases h4 with ⟨d, rfl, r⟩ | ⟨p', o2, rfl, w'⟩
      · exact .inl ⟨d, rfl, r⟩
      · exact .inr ⟨p', o2, rfl, w'.other fun z => by subst z; exact a.dis i j _ _ _ hij h q ho w'.rep.isOwn h1 h3⟩
  · have back : ∀ (k : Nat) (f : Ent), (ρ.set i (some en'))[k]? = some (some f) → f.isOwn → ∃ f', ρ[k]? = some (some f') ∧ f'.isOwn := fun k f hk hf => by
      rcases set_at hk with ⟨rfl, _⟩ | ⟨_, q⟩
      · exact ⟨_, h, ho⟩
      · exact ⟨f, q, hf⟩
    obtain ⟨f, q1, p1⟩ := back j e h3 o1
    obtain ⟨f', q2, p2⟩ := back l e' h4 o2
    exact a.dis j l f f' v hjl q1 q2 p1 p2 hv
/-- .. it stands still from now on -/
theorem At.freeze (a : At F K I ρ σ H) {i : Nat} {en : Ent} (h : ρ[i]? = some (some en)) (ho : en.isOwn) : ∃ p o, σ[i]? = some (some (.ref p)) ∧ OwnAt F K I H en p o ∧ Same I (upd I p o) ∧ At F K (upd I p o) (ρ.set i (some (.dat en.toD))) σ H := by
  obtain ⟨v, h1, h2⟩ := a.env i _ h
  obtain ⟨p, o, rfl, w⟩ := h2.own ho
  have s : Same I (upd I p o) := Same.laid w.ni
  refine ⟨p, o, h1, w, s, a.stp.freeze w.ni w.nm w.nb w.hp, by simp [a.len], fun j e hj => ?_, fun j l e e' v hjl h3 h4 o1 o2 hv => ?_⟩
  · rcases set_at hj with ⟨rfl, q⟩ | ⟨hij, q⟩
    · cases q
      exact ⟨.ref p, h1, .inl ⟨_, rfl, (w.rep.mono s).rep upd_same⟩⟩
    · obtain ⟨u, h3, h4⟩ := a.env j e q
      refine ⟨u, h3, ?_⟩
      rcases h4 with ⟨d, rfl, r⟩ | ⟨p', o2, rfl, w'⟩
      · exact .inl ⟨d, rfl, r.mono s⟩
      · exact .inr ⟨p', o2, rfl, w'.hp, w'.rep.mono s, by rw [upd_ne fun z => by subst z; exact a.dis i j _ _ _ hij h q ho w'.rep.isOwn h1 h3]; exact w'.ni, w'.nm, w'.nb, w'.ad⟩
  · have back : ∀ (k : Nat) (f : Ent), (ρ.set i (some (.dat en.toD)))[k]? = some (some f) → f.isOwn → ρ[k]? = some (some f) := fun k f hk hf => by
      rcases set_at hk with ⟨rfl, q⟩ | ⟨_, q⟩
      · cases q; exact hf.elim
      · exact q
    exact a.dis j l e e' v hjl (back j e h3 o1) (back l e' h4 o2) o1 o2 hv
/-- x = [..], to grow -/
theorem ds_own {x : Str} {pos' p2 : Pos} (i : Nat) (ha : DA F X es ta) (hN : X.N.Nodup) (hi : X.N[i]? = some x := by rfl) (hx : Loc X.env.scope x := by first | exact Or.inl rfl | exact Or.inr rfl) (hs : swapsWith (.List es p2) (some (.Name x pos')) pos.line X.env = pure false := by rfl)
    (hf : X.fn x = true ∨ X.env.scope.names.lookup x = some .local := by first | exact .inl rfl | exact .inr rfl | assumption) : DSt F X (.Assign [.Name x pos'] (.List es p2) pos) (fun Z ρ => ta ρ fun ds => ds.length ≤ sizeLine ∧ Z.nx (ρ.set i (some (.own ds)))) := by
  refine ⟨fun Z Z' ρ l q => ha.mono _ _ _ (fun d q => ⟨q.1, l.nx _ q.2⟩) q, (ps_set hN hi hx (pe_lst ha.run) hs hf).imp fun Z σ H ⟨I, ρ, A, q⟩ => rdA_next ha.mono A q fun ds vs I' H' p s rs => ⟨rs.length ▸ p.1, fun a hz => ?_⟩⟩
  exact p.2 I' _ _ s.i ((A.step s).newOwn hz ⟨_, rfl, rs⟩)
/-- x.append(e) -/
theorem ds_append {x : Str} {p1 p2 p3 : Pos} (i : Nat) (he : DE F X e te) (hN : X.N[i]? = some x := by rfl) (hv : Vis X.env.scope x := by first | exact Or.inl rfl | exact Or.inr (Or.inl rfl) | exact Or.inr (Or.inr rfl)) (hd : (x == ("__debug__" : Str)) = false := by decide)
    (hcd : (x == ("__classdict__" : Str)) = false := by decide) (hsw : swapsWith (.Call (.Attribute (.Name x p1) "append" p2) [e] [] p3) none pos.line X.env = pure false := by rfl) (hbase : attributeBase (.Name x p1) "append" X.env (eval (.Name x p1) X.env) = eval (.Name x p1) X.env := by rfl)
    (hfew : ((backTo p3 (starEach [e] X.env)).all (fun x => !x.1) && (backToKw p3 (keywordEach [] X.env)).all (fun x => x.1.isSome) && decide ([e].length + ([] : List Keyword).length + (if ([] : List Keyword).isEmpty then 0 else 1) < 30)) = true := by rfl)
    (hline : (p2.endLine == p3.line) = true := by rfl) (hst : starEach [e] X.env = (false, eval e X.env) :: starEach [] X.env := by rfl) (hpl : (backTo p3 (starEach [] X.env)).any (·.1) = false := by rfl) :
    DSt F X (.Expr (.Call (.Attribute (.Name x p1) "append" p2) [e] [] p3) pos) (fun Z ρ => ∃ xs, ρ[i]? = some (some (.own xs)) ∧ te ρ fun d => xs.length < sizeLine ∧ Z.nx (ρ.set i (some (.own (xs ++ [d]))))) := by
  refine ⟨fun Z Z' ρ l ⟨xs, h, q⟩ => ⟨xs, h, he.mono _ _ _ (fun d q => ⟨q.1, l.nx _ q.2⟩) q⟩,
    (ps_expr (pe_bm PySem.F.plainAttrs_list PySem.F.slot_list_append PySem.F.type_list_append mt_append (pv i hN hv hd hcd) (pa_cons he.run pa_nil hst) hbase hfew hline hst hpl) hsw).imp fun Z σ H ⟨I, ρ, A, q⟩ => ?_⟩
  obtain ⟨xs, hx, q⟩ := q
  obtain ⟨p, o, h1, w, _⟩ := A.turnOwn hx trivial
  obtain ⟨vs, rfl, _⟩ := w.rep
  refine ⟨_, h1, .inl ⟨rfl, vs, .of w.hp⟩, rdE_next he.mono A q fun d v I' H' q' s rv => ?_⟩
  have A' := A.step s
  obtain ⟨p', o', h1', w', turn⟩ := A'.turnOwn hx trivial
  obtain ⟨ws, rfl, r⟩ := w'.rep
  rw [h1] at h1'
  cases h1'
  exact ⟨p, ws, v, rfl, rfl, w'.hp, by rw [r.length]; exact q'.1, q'.2 I' σ _ s.i (turn _ _ ⟨_, rfl, r.append (.cons rv .nil)⟩ (by intro _ h; cases h))⟩
/-- what a slot holds, own or not -/
def ownOf (ρ : DEnv) (i : Nat) (Q : Ent → Prop) : Prop := ∃ en, ρ[i]? = some (some en) ∧ en.isOwn ∧ Q en
/-- from here on x only stands -/
theorem dss_freeze (i : Nat) (h : DSts F X sts t) : DSts F X sts (fun Z ρ => ownOf ρ i fun en => t Z (ρ.set i (some (.dat en.toD)))) := by
  refine ⟨fun Z Z' ρ l ⟨xs, e, o, q⟩ => ⟨xs, e, o, h.mono _ _ _ l q⟩, h.run.imp fun Z σ H ⟨I, ρ, A, en, e, o, q⟩ => ?_⟩
  obtain ⟨p, vs, _, _, s, A'⟩ := A.freeze e o
  exact ⟨_, _, A', h.mono _ _ _ (ends.le s) q⟩
theorem lend_step {p : Addr} {o : HO} (n : I p = none) (hp : H p = some o) (s2 : Stp F.W (upd I p o) H I' H') : Stp F.W I H (fun b => if b = p then none else I' b) H' := by
  have np : ∀ b u, I b = some u → b ≠ p := fun b u e => ne_of_none e n
  have s := Same.laid (o := o) n
  refine ⟨fun c u e => ?_, ⟨fun c u e => ?_, fun c u e => ?_, s2.st.inv⟩, s2.h, fun c u e z => ?_⟩
  · rw [if_neg (np c u e)]; exact s2.i _ _ (s _ _ e)
  · split at e
    · cases e
    · exact s2.st.sub _ _ e
  · split at e
    · cases e
    · exact s2.st.imm _ _ e
  · by_cases hc : c = p
    · rw [if_pos hc]
    · rw [if_neg hc]; exact s2.new _ _ e (by rw [upd_ne hc]; exact z)
/-- x is read in an expression whose value holds nothing of it -/
theorem de_lend (i : Nat) (h : DE F X e te) : DE F X e (fun ρ Q => ownOf ρ i fun en => te (ρ.set i (some (.dat en.toD))) fun d => scalD d = true ∧ Q d) := by
  refine ⟨fun ρ Q Q' k ⟨xs, e, o, q⟩ => ⟨xs, e, o, h.mono _ _ _ (fun d q => ⟨q.1, k _ q.2⟩) q⟩, h.run.imp fun σ H Q ⟨I, ρ, A, en, e, o, q⟩ => ?_⟩
  obtain ⟨p, u, _, w, s, A'⟩ := A.freeze e o
  refine ⟨_, _, A', h.mono _ _ _ (fun d ⟨sc, q⟩ v I2 H2 s2 rv => q v _ H2 (lend_step w.ni w.hp s2) ?_) q⟩
  cases rv <;> first | (cases sc; done) | constructor
theorem dt_lend (i : Nat) {tc : DB} (h : DTest F X e tc) : DTest F X e (fun ρ Q => ownOf ρ i fun en => tc (ρ.set i (some (.dat en.toD))) Q) := by
  refine ⟨fun ρ Q Q' k ⟨xs, e, o, q⟩ => ⟨xs, e, o, h.mono _ _ _ k q⟩, h.run.imp fun σ H Q ⟨I, ρ, A, en, e, o, q⟩ => ?_⟩
  obtain ⟨p, u, _, w, s, A'⟩ := A.freeze e o
  exact ⟨_, _, A', h.mono _ _ _ (fun d q I2 H2 s2 => q _ H2 (lend_step w.ni w.hp s2)) q⟩
end

/-! ### isinstance of a built-in class -/
def tyN : D → Option String
  | .non => some "NoneType"
  | .bl _ => some "bool"
  | .int _ => some "int"
  | .str _ => some "str"
  | .tup _ => some "tuple"
  | .lst _ => some "list"
  | .dic _ => some "dict"
  | .dfz _ => some "dict"
  | _ => none
def isTup : D → Bool | .tup _ => true | _ => false
def isLst : D → Bool | .lst _ => true | _ => false
def isStr : D → Bool | .str _ => true | _ => false
def isInt : D → Bool | .int _ => true | .bl _ => true | _ => false
def isBl : D → Bool | .bl _ => true | _ => false
def isDic : D → Bool | .dic _ => true | .dfz _ => true | _ => false
/-- a built-in kind of value -/
def known (d : D) : Bool := (tyN d).isSome
structure IsT (T : String) (p : D → Bool) : Prop where
  k : ∀ d t, tyN d = some t → kitB t T = some (p d)
theorem is_tup : IsT "tuple" isTup := ⟨fun d t h => by cases d <;> first | (cases h; done) | (cases h; exact (show kitB _ _ = some true by decide +kernel)) | (cases h; exact (show kitB _ _ = some false by decide +kernel))⟩
theorem is_lst : IsT "list" isLst := ⟨fun d t h => by cases d <;> first | (cases h; done) | (cases h; exact (show kitB _ _ = some true by decide +kernel)) | (cases h; exact (show kitB _ _ = some false by decide +kernel))⟩
theorem is_str : IsT "str" isStr := ⟨fun d t h => by cases d <;> first | (cases h; done) | (cases h; exact (show kitB _ _ = some true by decide +kernel)) | (cases h; exact (show kitB _ _ = some false by decide +kernel))⟩
theorem is_int : IsT "int" isInt := ⟨fun d t h => by cases d <;> first | (cases h; done) | (cases h; exact (show kitB _ _ = some true by decide +kernel)) | (cases h; exact (show kitB _ _ = some false by decide +kernel))⟩
theorem is_bool : IsT "bool" isBl := ⟨fun d t h => by cases d <;> first | (cases h; done) | (cases h; exact (show kitB _ _ = some true by decide +kernel)) | (cases h; exact (show kitB _ _ = some false by decide +kernel))⟩
theorem is_dic : IsT "dict" isDic := ⟨fun d t h => by cases d <;> first | (cases h; done) | (cases h; exact (show kitB _ _ = some true by decide +kernel)) | (cases h; exact (show kitB _ _ = some false by decide +kernel))⟩
section
variable {F : Fx} {X : Cx} {K : PySem.W.Frag} {I H : Hp} {e : Expr} {te : DT} {T : String} {p : D → Bool} {x : Str} {q1 q2 pos : Pos}
theorem Rep.ty {v : V} {d : D} {t : String} (s : Same I H) (r : Rep K I v d) (h : tyN d = some t) : TyX K H v (.type t) := by
  cases r with
  | non => cases h; exact .base .non
  | bl b => cases h; exact .base (.bl b)
  | int b => cases h; exact .base (.int b)
  | str b => cases h; exact .base (.str b)
  | tup a r =>
    cases h
    rcases Same.seqT s a with (a | ⟨o, a⟩) | ⟨o, its, n, a, c, _⟩
    · exact .base (.tup a)
    · exact .fTuple a
    · exact .kTuple a c
  | lst a r => cases h; exact .base (.lst (s _ _ a))
  | dic a _ r => cases h; exact .base (.dK (s _ _ a))
  | obj _ _ _ => cases h
  | opq _ => cases h
  | dfz a _ r => cases h; exact .fDict (s _ _ a)
theorem de_isi (hT : IsT T p) (hm : X.mg "isinstance" = none) (hx : X.mg x = none) (hv : bootBuiltins x = some (.type T)) (he : DE F X e te) (hg : Gl X "isinstance" := by rfl) (hgx : Gl X x := by rfl) (hn : x ≠ "__name__" := by decide) (hdb : (x == ("__debug__" : Str)) = false := by decide)
    (h1 : starEach [e, .Name x q2] X.env = (false, eval e X.env) :: starEach [.Name x q2] X.env := by rfl) (h2 : starEach [Expr.Name x q2] X.env = (false, eval (.Name x q2) X.env) :: starEach [] X.env := by rfl) (hpl : (backTo pos (starEach [Expr.Name x q2] X.env)).any (·.1) = false := by rfl) :
    DE F X (.Call (.Name "isinstance" q1) [e, .Name x q2] [] pos) (fun ρ Q => te ρ fun d => known d = true ∧ Q (.bl (p d))) := by
  refine ⟨fun ρ Q Q' k q => he.mono _ _ _ (fun d q => ⟨q.1, k _ q.2⟩) q, (pe_callB call_isi hg hm (by decide +kernel) (pa_cons he.run (pa_cons (pe_bltn (v := .ty T) hgx hx hv rfl hn hdb) pa_nil h2) h1) (by decide) (by decide) h1 hpl).imp fun σ H Q ⟨I, ρ, A, q⟩ => ?_⟩
  refine rdE_next he.mono A q fun d v I' H' q' s rv => ?_
  obtain ⟨kn, q'⟩ := q'
  unfold known at kn
  obtain ⟨t, ht⟩ := Option.isSome_iff_exists.mp kn
  exact ⟨v, .ty T, .type t, .type T, p d, rfl, .ty T, rv.ty s.st.sub ht, kit_ty (hT.k d t ht), q' _ _ _ s (.bl _)⟩
end

/-! ### x op= e -/
section
variable {F : Fx} {X : Cx} {K : PySem.W.Frag} {e : Expr} {te : DT} {op : Operator} {R : R2} {r : D → D → (D → Prop) → Prop} {x : Str} {pos pos' : Pos}
theorem ds_aug (i : Nat) (mr : Mono2 r) (ho : OpR X (inplaceOp op) R) (l : LiftR F X.K R r) (he : DE F X e te) (hN : X.N.Nodup) (hi : X.N[i]? = some x := by rfl) (hx : Loc X.env.scope x := by first | exact Or.inl rfl | exact Or.inr rfl) (hf : X.fn x = true ∨ X.env.scope.names.lookup x = some .local := by first | exact .inl rfl | exact .inr rfl | assumption) :
    DSt F X (.AugAssign (.Name x pos') op e pos) (fun Z ρ => getD ρ i fun d => te ρ fun y => r d y fun z => Z.nx (ρ.set i (some (.dat z)))) := by
  refine ⟨fun Z Z' ρ l ⟨d, e, q⟩ => ⟨d, e, he.mono _ _ _ (fun y q => mr _ _ _ _ (fun z q => l.nx _ q) q) q⟩, (ps_aug (ti := R) hN hi hx he.run ho hf).imp fun Z σ H ⟨I, ρ, A, d, hd, q⟩ => ?_⟩
  obtain ⟨v, h1, rv⟩ := A.env i _ hd
  refine ⟨v, h1, rdE_next he.mono A q fun y w I' H' q' s rw' => ?_⟩
  refine l v w d y I' H' _ s.st (Rep.mono s.i rv.dat) rw' (mr _ _ _ _ (fun z q2 u I2 H2 s2 ru => ?_) q')
  exact q2 I2 _ H2 (Same.trans s.i s2.i) (((A.step s).step s2).set ru)
def iaddD : D → D → (D → Prop) → Prop
  | .int i, .int j, Q => Q (.int (i + j))
  | .str x, .str y, Q => x.length + y.length ≤ sizeLine ∧ Q (.str (x ++ y))
  | _, _, _ => False
theorem mono_iadd : Mono2 iaddD := by
  intro x y Q Q' k h
  cases x <;> cases y <;> first | exact h.elim | exact k _ h | exact ⟨h.1, k _ h.2⟩
def RIadd : R2 := fun x y H Q => rI0 (fun i j => .int (i + j)) x y H Q ∨ ∃ i j, x = .str i ∧ y = .str j ∧ i.length + j.length ≤ sizeLine ∧ Q (.str (i ++ j)) H
theorem lf_iadd : LiftR F K RIadd iaddD := by
  intro x y dx dy I H Q st rx ry h
  cases dx <;> cases dy <;> first | exact h.elim | skip
  · cases rx; cases ry
    exact .inl ⟨_, _, rfl, rfl, h _ I H st.stp (.int _)⟩
  · cases rx; cases ry
    exact .inr ⟨_, _, rfl, rfl, h.1, h.2 _ I H st.stp (.str _)⟩
theorem ds_iadd (i : Nat) (he : DE F X e te) (hN : X.N.Nodup) (hi : X.N[i]? = some x := by rfl) (hx : Loc X.env.scope x := by first | exact Or.inl rfl | exact Or.inr rfl) (hf : X.fn x = true ∨ X.env.scope.names.lookup x = some .local := by first | exact .inl rfl | exact .inr rfl | assumption) :
    DSt F X (.AugAssign (.Name x pos') .Add e pos) (fun Z ρ => getD ρ i fun d => te ρ fun y => iaddD d y fun z => Z.nx (ρ.set i (some (.dat z)))) := ds_aug i mono_iadd (iop_add.or iop_add_str) lf_iadd he hN hi hx hf
theorem ds_ifdiv (i : Nat) (he : DE F X e te) (hN : X.N.Nodup) (hi : X.N[i]? = some x := by rfl) (hx : Loc X.env.scope x := by first | exact Or.inl rfl | exact Or.inr rfl) (hf : X.fn x = true ∨ X.env.scope.names.lookup x = some .local := by first | exact .inl rfl | exact .inr rfl | assumption) :
    DSt F X (.AugAssign (.Name x pos') .FloorDiv e pos) (fun Z ρ => getD ρ i fun d => te ρ fun y => fdivD d y fun z => Z.nx (ρ.set i (some (.dat z)))) := ds_aug i mono_fdiv iop_fdivW lf_fdiv he hN hi hx hf
end

/-! ### methods of texts -/
def strD (x : D) (Q : Str → Prop) : Prop := ∃ a, x = .str a ∧ Q a
theorem strD.mono {x : D} {Q Q' : Str → Prop} (k : ∀ a, Q a → Q' a) (h : strD x Q) : strD x Q' := let ⟨a, e, q⟩ := h; ⟨a, e, k a q⟩
section
variable {F : Fx} {X : Cx} {K : PySem.W.Frag} {o e : Expr} {to te : DT} {apos pos : Pos} {R : V → List V → Hp → VK → Prop}
/-- s.m(e), by values -/
theorem m1_run {r : Str → D → (D → Prop) → Prop} (mr : ∀ a y (Q Q' : D → Prop), (∀ d, Q d → Q' d) → r a y Q → r a y Q') (l : ∀ a (y : V) (dy : D) (I H : Hp) (Q : VK), StI F.W I H → Rep X.K I y dy → r a dy (fin F X.K I H Q) → R (.str a) [y] H Q)
    (ho : DE F X o to) (he : DE F X e te) {σ : St} {H : Hp} {Q : VK} (h : rdE F X.K (fun ρ Q => to ρ fun x => strD x fun a => te ρ fun y => r a y Q) σ H Q) : tM1 R (rdE F X.K to) (rdE F X.K te) σ H Q := by
  obtain ⟨I, ρ, A, h⟩ := h
  refine rdE_next ho.mono A h fun d v I1 H1 q1 s1 r1 => ?_
  obtain ⟨a, rfl, q1⟩ := q1
  cases r1
  refine ⟨⟨a, rfl⟩, rdE_next he.mono (A.step s1) q1 fun y w I2 H2 q2 s2 r2 => ?_⟩
  exact l a w y I2 H2 Q s2.st r2 (mr _ _ _ _ (fun z hz => hz.of (s1.trans s2)) q2)
theorem m1_mono {r : Str → D → (D → Prop) → Prop} (mr : ∀ a y (Q Q' : D → Prop), (∀ d, Q d → Q' d) → r a y Q → r a y Q') (ho : DE F X o to) (he : DE F X e te) :
    ∀ ρ (Q Q' : D → Prop), (∀ d, Q d → Q' d) → (to ρ fun x => strD x fun a => te ρ fun y => r a y Q) → (to ρ fun x => strD x fun a => te ρ fun y => r a y Q') :=
  fun ρ Q Q' k h => ho.mono _ _ _ (fun d h => h.mono fun a h => he.mono _ _ _ (fun y h => mr _ _ _ _ k h) h) h
def joinD (a : Str) (y : D) (Q : D → Prop) : Prop := ∃ ys : List Str, (y = .lst (ys.map D.str) ∨ y = .tup (ys.map D.str)) ∧ (ys.map (·.length)).sum + ys.length * a.length ≤ 16777216 ∧ Q (.str (Txt.join a ys))
theorem mono_join : ∀ a y (Q Q' : D → Prop), (∀ d, Q d → Q' d) → joinD a y Q → joinD a y Q' := fun a y Q Q' k ⟨ys, h2, h3, q⟩ => ⟨ys, h2, h3, k _ q⟩
theorem de_join (ho : DE F X o to) (he : DE F X e te) (hs : starEach [e] X.env = [(false, eval e X.env)] := by rfl) (hbase : attributeBase o "join" X.env (eval o X.env) = eval o X.env := by rfl) (hline : (apos.endLine == pos.line) = true := by rfl) :
    DE F X (.Call (.Attribute o "join" apos) [e] [] pos) (fun ρ Q => to ρ fun x => strD x fun a => te ρ fun y => joinD a y Q) := by
  refine ⟨m1_mono mono_join ho he, (pe_join ho.run he.run hs hbase hline).imp fun σ H Q q => m1_run mono_join (fun a y dy I H Q st ry h => ?_) ho he q⟩
  obtain ⟨ys, h1, h2, q⟩ := h
  rcases h1 with rfl | rfl
  · cases ry with
    | lst b r => exact ⟨a, _, ys, rfl, rfl, .inl (r.strsV ▸ .of (st.sub _ _ b)), h2, q _ _ _ st.stp (.str _)⟩
  · cases ry with
    | tup b r => exact ⟨a, _, ys, rfl, rfl, .inr (r.strsV ▸ Same.seqT st.sub b), h2, q _ _ _ st.stp (.str _)⟩
/-- s.index(y), found -/
def sidxD (a : Str) (y : D) (Q : D → Prop) : Prop := ∃ b k, y = .str b ∧ Txt.index0 a b = some k ∧ Q (.int (k : Nat))
theorem de_sindex {W : WX} (hc : X.calm = true) (tk : Takes X W) (ho : DE F X o to) (he : DE F X e te) (hbase : attributeBase o "index" X.env (eval o X.env) = eval o X.env := by rfl)
    (hfew : ((backTo pos (starEach [e] X.env)).all (fun x => !x.1) && (backToKw pos (keywordEach [] X.env)).all (fun x => x.1.isSome) && decide ([e].length + ([] : List Keyword).length + (if ([] : List Keyword).isEmpty then 0 else 1) < 30)) = true := by rfl)
    (hline : (apos.endLine == pos.line) = true := by rfl) (hs : starEach [e] X.env = (false, eval e X.env) :: starEach [] X.env := by rfl) (hplain : (backTo pos (starEach [] X.env)).any (·.1) = false := by rfl) :
    DE F X (.Call (.Attribute o "index" apos) [e] [] pos) (fun ρ Q => to ρ fun x => strD x fun a => te ρ fun y => sidxD a y Q) := by
  refine ⟨m1_mono (fun a y Q Q' k ⟨b, j, h1, h2, q⟩ => ⟨b, j, h1, h2, k _ q⟩) ho he, (pe_bmS PySem.F.plainAttrs_str PySem.F.slot_str_index PySem.F.type_str_index (mt_indexX hc tk) ho.run (pa_cons he.run pa_nil hs) hbase hfew hline hs hplain).imp fun σ H Q ⟨I, ρ, A, h⟩ => ?_⟩
  refine rdE_next ho.mono A h fun d v I1 H1 q1 s1 r1 => ?_
  obtain ⟨a, rfl, q1⟩ := q1
  cases r1
  refine ⟨rfl, rdE_next he.mono (A.step s1) q1 fun y w I2 H2 q2 s2 r2 => ?_⟩
  obtain ⟨b, k, rfl, hk, q2⟩ := q2
  cases r2
  refine ⟨a, b, rfl, rfl, fun k' hk' => ?_, fun z => by rw [hk] at z; cases z⟩
  rw [hk] at hk'
  cases hk'
  exact q2 _ _ _ (s1.trans s2) (.int _)
end

/-! ### sorted -/
def sortedD : List D → (D → Prop) → Prop
  | [.lst xs], Q => plainDs xs = true ∧ PySem.W.AllAlike (xs.map toPy) ∧ PySem.W.Sortable (xs.map toPy) ∧ xs.length ≤ sizeLine ∧ (∀ x ∈ xs, (toPy x).depth ≤ 50) ∧ Q (.lst (xs.mergeSort (PySem.W.dataLe false toPy)))
  | _, _ => False
theorem mono_sortedD : MonoN sortedD := by
  intro ds Q Q' k h
  unfold sortedD at h ⊢
  split at h
  · exact ⟨h.1, h.2.1, h.2.2.1, h.2.2.2.1, h.2.2.2.2.1, k _ h.2.2.2.2.2⟩
  · exact h.elim
/-- a list at a, in I, as data -/
def rSortD (I : Hp) (K : PySem.W.Frag) : List V → Hp → VK → Prop := fun vs H Q => ∃ (a : Addr) (ws : List V) (ds : List D), vs = [.ref a] ∧ SqL K H a ws ∧ Reps K I ws ds
theorem plainDs_mem : ∀ {xs : List D}, plainDs xs = true → ∀ x ∈ xs, plainD x = true
  | [], _, x, h => by simp at h
  | d :: ds, p, x, h => by
    unfold plainDs at p
    rw [Bool.and_eq_true] at p
    rcases List.mem_cons.mp h with rfl | h
    · exact p.1
    · exact plainDs_mem p.2 x h
section
variable {F : Fx} {X : Cx} {e : Expr} {t : DAT} {p pos : Pos}
theorem each_of {K : PySem.W.Frag} {I : Hp} : ∀ {us : List Value} {vs : List V} {ds : List D}, Vals vs us → Reps K I vs ds → PySem.W.EachIs (fun u d => ∃ v, RelV v u ∧ Rep K I v d) us ds
  | _, _, _, .nil, h => by cases h; exact .nil
  | _, _, _, .cons r t, h => by
    cases h with
    | cons a b => exact .cons ⟨_, r, a⟩ (each_of t b)
theorem each_back {K : PySem.W.Frag} {I : Hp} : ∀ {us : List Value} {ds : List D}, PySem.W.EachIs (fun u d => ∃ v, RelV v u ∧ Rep K I v d) us ds → ∃ vs, Vals vs us ∧ Reps K I vs ds
  | _, _, .nil => ⟨[], .nil, .nil⟩
  | _, _, .cons ⟨v, r, a⟩ t => by
    obtain ⟨vs, h1, h2⟩ := each_back t
    exact ⟨v :: vs, .cons r h1, .cons a h2⟩
theorem each_imp {α β : Type} {R S : α → β → Prop} : ∀ {as : List α} {bs : List β}, PySem.W.EachIs R as bs → (∀ a b, b ∈ bs → R a b → S a b) → PySem.W.EachIs S as bs
  | _, _, .nil, _ => .nil
  | _, _, .cons r t, k => .cons (k _ _ (by simp) r) (each_imp t fun a b hb => k a b (List.mem_cons_of_mem _ hb))
theorem de_sorted (hm : X.mg "sorted" = none) (hu : X.A.units + 64 < cLine) (ha : DA F X [e] t) (hg : Gl X "sorted" := by rfl) (he : starEach [e] X.env = (false, eval e X.env) :: starEach [] X.env := by rfl) : DE F X (.Call (.Name "sorted" p) [e] [] pos) (fun ρ Q => t ρ fun ds => sortedD ds Q) := by
  refine de_callB (id := "sorted") (R := fun vs H Q => ∃ I ds, StI F.W I H ∧ Reps X.K I vs ds ∧ sortedD ds (fin F X.K I H Q)) mono_sortedD (fun vs ds I H Q st rs h => ⟨I, ds, st, rs, h⟩) ?_ hm (by decide +kernel) ha hg (by decide) (by decide) he rfl
  intro pins s σ H xs us Q J r h
  obtain ⟨I, ds, st, rs, h⟩ := h
  unfold sortedD at h
  split at h
  · rename_i es
    obtain ⟨pl, al, so, hl, dp, q⟩ := h
    obtain ⟨v, rfl, rv⟩ := rs.one
    obtain ⟨u, rfl, ru⟩ := vals1 r
    cases rv with
    | @lst a ws _ ha' rw' =>
      cases ru
      obtain ⟨its, rI, hL, hz⟩ := J.list (.of (st.sub _ _ ha'))
      have e1 := each_of rI rw'
      refine PySem.W.sorted_data (enc := toPy) hL.isList e1 (each_imp e1 fun u d hd ⟨v, h1, h2⟩ => ?_) al so hl (fun b hb => by have := dp b hb; omega) fun out hlen eo => ?_
      · exact Dp.reads J _ _ _ (h2.dp st.sub (plainDs_mem pl d hd)) h1
      · obtain ⟨vs', v1, v2⟩ := each_back eo
        obtain ⟨ep, he'⟩ := PyProof.Rows.sortedAll_at s.heap its (List.toArray out)
        have hf : H (s.heap.objs.size + 1) = none := J.hok.fresh (Nat.le_succ _)
        have lay := st.laid hf (.lst vs')
        refine ⟨.ref _, upd H (s.heap.objs.size + 1) (.lst vs'), J.laid (t' := s.toks) (fun _ _ => PyProof.Rows.sortedAll_old) (Nat.le_succ _) ⟨by rw [v2.length, List.length_mergeSort]; exact hl, out, ep, v1, he'⟩, rfl, ?_⟩
        exact q _ _ _ lay (.lst upd_same (v2.mono lay.i))
  · exact h.elim
end
end Dk

namespace Dk
open PySem L2

/-! ### a def that may be called, in one fact -/
structure Cal (P : Program) (w : World) (K : PySem.W.Frag) (mg : Str → Option Value) (base : Heap) (CX : CXT) (W : Wd) (k : Nat) (x : Str) (ps : List Str) (S : DSp) : Prop where
  ex : ∃ f fd, GnOk P w K mg base CX k f fd ps (spD W K S) ∧ mg x = some (.ref f) ∧ PySem.W.keepIn K (.ref f) = true ∧ Binds K fd ps []
/-- .. by keywords alone: ks their names as written, g their order -/
structure CalK (P : Program) (w : World) (K : PySem.W.Frag) (mg : Str → Option Value) (base : Heap) (CX : CXT) (W : Wd) (k : Nat) (x : Str) (ps ks : List Str) (g : {α : Type} → List α → List α) (S : DSp) : Prop where
  ex : ∃ f fd, GnOk P w K mg base CX k f fd ps (spD W K S) ∧ mg x = some (.ref f) ∧ PySem.W.keepIn K (.ref f) = true ∧ KBn K fd ps 0 ks (fun _ ws => g ws) (fun _ zs => g zs)
  rel : ∀ {K : PySem.W.Frag} {I : Hp} {vs : List V} {ds : List D}, Reps K I vs ds → Reps K I (g vs) (g ds)
structure DKw (F : Fx) (X : Cx) (kws : List Keyword) (t : DAT) : Prop where
  mono : ∀ ρ (Q Q' : List D → Prop), (∀ d, Q d → Q' d) → t ρ Q → t ρ Q'
  run : PK X kws (rdA F X.K t)
section
variable {F : Fx} {X : Cx} {K : PySem.W.Frag} {CX : CXT} {W : Wd} {k : Nat} {x nm : Str} {ps ks : List Str} {S : DSp} {E : XK} {p pos kpos : Pos} {e : Expr} {es : List Expr} {t tk : DAT} {te : DT} {Ed : Ex → Prop} {kws : List Keyword} {g : {α : Type} → List α → List α}
theorem _root_.L2.PK.imp {t u : TA} (h : PK X kws t) (i : ∀ σ H Q, u σ H Q → t σ H Q) : PK X kws u := ⟨fun pos pins s σ H Q J q => h.run pos pins s σ H Q J (i σ H Q q)⟩
theorem dk_nil : DKw F X [] (fun _ Q => Q []) := ⟨fun _ _ _ k q => k _ q, pk_nil.imp fun σ H Q ⟨I, ρ, A, q⟩ => q [] I H A.st.stp .nil⟩
theorem dk_cons (h : DE F X e te) (h' : DKw F X kws t) : DKw F X (⟨nm, e, kpos⟩ :: kws) (fun ρ Q => te ρ fun d => t ρ fun ds => Q (d :: ds)) := by
  refine ⟨fun ρ Q Q' k q => h.mono _ _ _ (fun d q => h'.mono _ _ _ (fun ds => k _) q) q, (pk_cons h.run h'.run).imp fun σ H Q ⟨I, ρ, A, q⟩ => ?_⟩
  refine rdE_next h.mono A q fun d v I' H' p s rv => ?_
  exact rdA_next h'.mono (A.step s) p fun ds vs I2 H2 p s2 rs => p (v :: vs) I2 H2 (s.trans s2) (.cons (rv.mono s2.i) rs)
theorem de_fn (C : Cal X.prog X.w X.K X.mg X.base CX F.W k x ps S) (hr : Rm k X.A) (hx : Passes CX X E) (le : Lets F X.K Ed E) (ha : DA F X (e :: es) t)
    (hg : Gl X x := by rfl) (hdb : (x == ("__debug__" : Str)) = false := by decide) (he : starEach (e :: es) X.env = (false, eval e X.env) :: starEach es X.env := by rfl) (hpl : (backTo pos (starEach es X.env)).any (·.1) = false := by rfl) :
    DE F X (.Call (.Name x p) (e :: es) [] pos) (fun ρ Q => t ρ fun ds => S.f ds Q Ed) := by
  obtain ⟨f, fd, h1, h2, h3, h4⟩ := C.ex
  exact de_call h1 hr h2 h3 h4 hx le ha hg hdb he hpl
theorem de_fn0 (C : Cal X.prog X.w X.K X.mg X.base CX F.W k x ps S) (hr : Rm k X.A) (hx : Passes CX X E) (le : Lets F X.K Ed E)
    (hg : Gl X x := by rfl) (hdb : (x == ("__debug__" : Str)) = false := by decide) : DE F X (.Call (.Name x p) [] [] pos) (fun ρ Q => S.f [] Q Ed) := by
  obtain ⟨f, fd, h1, h2, h3, h4⟩ := C.ex
  exact de_call0 h1 hr h2 h3 h4 hx le hg hdb
theorem de_fnK (C : CalK X.prog X.w X.K X.mg X.base CX F.W k x ps ks g S) (hr : Rm k X.A) (hx : Passes CX X E) (le : Lets F X.K Ed E) (hk : DKw F X kws t) (hg : Gl X x := by rfl)
    (hall : (backToKw pos (keywordEach kws X.env)).all (·.1.isSome) = true := by rfl) (hks : (backToKw pos (keywordEach kws X.env)).filterMap (·.1) = ks := by rfl) (hdb : (x == ("__debug__" : Str)) = false := by decide)
    (hpl : ((backTo pos (starEach [] X.env)).any (·.1) || (backToKw pos (keywordEach kws X.env)).any (·.1.isNone)) = false := by rfl) :
    DE F X (.Call (.Name x p) [] kws pos) (fun ρ Q => t ρ fun ds => ds.length = ks.length ∧ S.f (g ds) Q Ed) := by
  obtain ⟨f, fd, h1, h2, h3, h4⟩ := C.ex
  refine ⟨fun ρ Q Q' k h => hk.mono _ _ _ (fun d h => ⟨h.1, S.mono _ _ _ _ _ k (fun _ h => h) h.2⟩) h, (gn_callK0 h1 hr hg h2 h3 h4 hx hk.run hall hks hdb hpl).imp fun σ H Q ⟨I, ρ, A, h⟩ => ?_⟩
  refine rdA_next hk.mono A h fun ds vs I' H' p s rs => ⟨rs.length.trans p.1, I', g ds, s.st, C.rel rs, S.mono _ _ _ _ _ (fun d q v I2 H2 s2 rv => q v I2 H2 (s.trans s2) rv) (le I' H' (A.stp.trans s)) p.2⟩
end

/-! ### any frame -/
theorem pss_any {X : Cx} {sts : List Stmt} {ι : Type} {F : ι → Fx} {t : ι → DTS} (h : ∀ i, DSts (F i) X sts (t i)) : PSs X sts (fun Z σ H => ∃ i, rdS (F i) X.K (t i) Z σ H) := ⟨fun pins s σ H Z J ⟨i, q⟩ => (h i).run.run pins s σ H Z J q⟩
/-! ### how a def of the text is called -/
section
variable {P : Program} {w : World} {K : PySem.W.Frag} {mg : Str → Option Value} {base : Heap} {CX : CXT} {W : Wd} {k : Nat} {x qual : Str} {st : Stmt} {f : Addr} {fd : FuncData} {ps ks : List Str} {S : DSp} {g : {α : Type} → List α → List α}
theorem Cal.of (Fn : Fun K x qual st f fd) (G : GnOk P w K mg base CX k f fd ps (spD W K S)) (m : mg x = some (.ref f))
    (h : ∀ (kV doc pm : Value) (an : Option Addr) (cdv ct : Value) (us : List Value), us.length = ps.length → bindArgs (PySem.W.fnOf x qual (defArgs st) (defBody st) (defScope st) .none kV doc pm an cdv ct) ⟨us, []⟩ = pure (ps.zip us)) : Cal P w K mg base CX W k x ps S :=
  ⟨f, fd, G, m, Fn.kp, Fn.binds h⟩
theorem CalK.of (Fn : Fun K x qual st f fd) (G : GnOk P w K mg base CX k f fd ps (spD W K S)) (m : mg x = some (.ref f)) (rV : ∀ {vs : List V} {us : List Value}, Vals vs us → Vals (g vs) (g us)) (rD : ∀ {K : PySem.W.Frag} {I : Hp} {vs : List V} {ds : List D}, Reps K I vs ds → Reps K I (g vs) (g ds))
    (h : ∀ (kV doc pm : Value) (an : Option Addr) (cdv ct : Value) (ws : List Value), ws.length = ks.length → bindArgs (PySem.W.fnOf x qual (defArgs st) (defBody st) (defScope st) .none kV doc pm an cdv ct) ⟨[], ks.zip ws⟩ = pure (ps.zip (g ws))) : CalK P w K mg base CX W k x ps ks g S := by
  refine ⟨⟨f, fd, G, m, Fn.kp, ⟨fun s us ws _ l1 l2 => ?_, fun _ r => rV r⟩⟩, rD⟩
  obtain ⟨oc, od, kV, doc, pm, an, cdv, ct, osl, rfl, lk, hcd⟩ := Fn.ex
  obtain rfl : us = [] := List.length_eq_zero_iff.mp l1
  exact .of_eq (h kV doc pm an cdv ct ws l2)
end

/-! ### the deck: a list of cells, a number, a number -/
def deckAt (a l : Addr) (H : Hp) : Prop := ∃ (ns : List Int) (s t : Int), H a = some (.lst [.ref l, .int s, .int t]) ∧ H l = some (.lst (ns.map V.int)) ∧ ns.length ≤ 63 ∧ a ≠ l
def DeckW (a l : Addr) : Wd where
  mv := fun b => b = a ∨ b = l
  inv := deckAt a l
  frame := fun {H H'} h ⟨ns, s, t, h1, h2, h3⟩ => ⟨ns, s, t, by rw [h a (.inl rfl)]; exact h1, by rw [h l (.inr rfl)]; exact h2, h3⟩
  live := fun {H b} ⟨ns, s, t, h1, h2, h3⟩ m => by
    rcases m with rfl | rfl
    · rw [h1]; exact fun z => nomatch z
    · rw [h2]; exact fun z => nomatch z
/-- what a draw tells: any number below the most -/
def spDraw (a : Addr) : DSp where
  n := 2
  f := fun ds Q _ => ∃ m : Int, ds = [.opq a, .int m] ∧ 0 < m ∧ m.natAbs.log2 < 9000 ∧ ∀ v : Int, 0 ≤ v → v < m → Q (.int v)
  len := fun ds Q E ⟨m, e, _⟩ => by rw [e]; rfl
  mono := fun ds Q Q' E E' k _ ⟨m, e, h, h', q⟩ => ⟨m, e, h, h', fun v a b => k _ (q v a b)⟩
theorem shaped_ints (ns : List Int) : SeqAt.shaped (.list (ns.map .int)) = true := by
  have h1 : ∀ ns : List Int, PyData.canLayAll0 (ns.map .int) = true := fun ns => by
    induction ns with
    | nil => simp [PyData.canLayAll0]
    | cons n ns ih => simp [PyData.canLayAll0, PyData.canLay0, ih]
  have h2 : ∀ ns : List Int, PyData.depthAll (ns.map .int) = 0 := PySem.W.depth_ints
  unfold SeqAt.shaped
  simp [PyData.canLay0, PyData.depth, h1, h2]
theorem dp_ints {K : PySem.W.Frag} {H : Hp} : ∀ ns : List Int, DpAll K H (ns.map V.int) (ns.map PyData.int)
  | [] => .nil
  | n :: ns => .cons (.int n) (dp_ints ns)
theorem eqv_nil (ns : List Int) : PyData.eqv (.list (ns.map .int)) (.list []) = ns.isEmpty := by
  cases ns <;> simp [PyData.eqv, PyData.eqvAll]
theorem stp_deck {a l : Addr} {I H H' : Hp} (s : StI (DeckW a l) I H) (h : ∀ b o, H b = some o → b ≠ a → b ≠ l → H' b = some o) (d : deckAt a l H') : Stp (DeckW a l) I H I H' := by
  refine ⟨Same.refl I, ⟨fun b o e => ?_, s.imm, d⟩, fun b o e m => h b o e (fun z => m (.inl z)) (fun z => m (.inr z)), fun b o e n => n⟩
  have m := s.imm b o e
  exact h b o (s.sub b o e) (fun z => m (.inl z)) (fun z => m (.inr z))
end Dk

namespace Dk
open PySem L2

/-! ### repr of plain data -/
/-- how it is written -/
def shw (d : D) : Str := (toPy d).shown
def reprD : List D → (D → Prop) → Prop
  | [d], Q => plainD d = true ∧ (toPy d).showable = true ∧ (toPy d).depth ≤ 50 ∧ (shw d).length ≤ sizeLine ∧ Q (.str (shw d))
  | _, _ => False
theorem mono_reprD : MonoN reprD := by
  intro ds Q Q' k h
  unfold reprD at h ⊢
  split at h
  · exact ⟨h.1, h.2.1, h.2.2.1, h.2.2.2.1, k _ h.2.2.2.2⟩
  · exact h.elim
mutual
theorem noDict : ∀ {d : D}, plainD d = true → (toPy d).hasDict = false
  | .non, _ => by simp only [toPy, PyData.hasDict]
  | .bl _, _ => by simp only [toPy, PyData.hasDict]
  | .int _, _ => by simp only [toPy, PyData.hasDict]
  | .str _, _ => by simp only [toPy, PyData.hasDict]
  | .tup xs, h => by
    simp only [toPy, PyData.hasDict]
    exact noDicts (by unfold plainD at h; exact h)
  | .lst xs, h => by
    simp only [toPy, PyData.hasDict]
    exact noDicts (by unfold plainD at h; exact h)
  | .dic _, h => by simp [plainD] at h
  | .obj _ _, h => by simp [plainD] at h
  | .opq _, h => by simp [plainD] at h
  | .dfz _, h => by simp [plainD] at h
theorem noDicts : ∀ {ds : List D}, plainDs ds = true → PyData.hasDictAll (toPys ds) = false
  | [], _ => by simp only [toPys, PyData.hasDictAll]
  | d :: ds, h => by
    unfold plainDs at h
    rw [Bool.and_eq_true] at h
    simp only [toPys, PyData.hasDictAll, noDict h.1, noDicts h.2, Bool.or_self]
end
section
variable {F : Fx} {X : Cx} {e : Expr} {t : DAT} {p pos : Pos}
theorem call_reprP (hg : X.A.guards = some []) (hu : X.A.units + 64 < cLine) : CallR X (.builtin "repr") (fun xs H Q => ∃ v d, xs = [v] ∧ Dp X.K H v d ∧ d.showable = true ∧ d.hasDict = false ∧ d.depth ≤ 50 ∧ d.shown.length ≤ sizeLine ∧ Q (.str d.shown) H) := by
  intro pins s σ H xs us Q J r h
  obtain ⟨v, d, rfl, hd, h1, h2, h3, h4, q⟩ := h
  obtain ⟨u, rfl, ru⟩ := vals1 r
  have fin : ∀ (tk : Nat) (u' : Tok), EP X pins σ Q (.str d.shown u') { s with toks := tk } := fun tk u' => ⟨.str d.shown, H, J.tok tk, ⟨u', rfl⟩, q⟩
  obtain ⟨as, rd⟩ := Dp.reads J _ _ _ hd ru
  cases hd with
  | non => cases ru; exact PySem.P.repr_of_none (by unfold PyData.shown at fin; exact fin _ _)
  | bl b => cases ru; exact PySem.P.repr_of_bool (by unfold PyData.shown at fin; exact fin _ _)
  | int i =>
    obtain ⟨t, rfl⟩ := ru
    have hz : i.natAbs.log2 < 1920 := by simpa [PyData.showable] using h1
    exact PySem.P.repr_of_int hz (by unfold PyData.shown at fin; exact fin _ _)
  | str x =>
    obtain ⟨t, rfl⟩ := ru
    unfold PyData.shown at fin h4
    exact PySem.P.repr_of_str (fin _ _) h4
  | lst a r' =>
    cases ru
    exact repr_of_reads' rd h1 (PyData.noDict_hsm h2) hg (by omega) (fun b o e => e) (fun h' u tk hk => ⟨.str _, H, J.kept hk, ⟨u, rfl⟩, q⟩) h4
  | tup a r' =>
    cases ru
    exact repr_of_reads' rd h1 (PyData.noDict_hsm h2) hg (by omega) (fun b o e => e) (fun h' u tk hk => ⟨.str _, H, J.kept hk, ⟨u, rfl⟩, q⟩) h4
theorem de_repr (hm : X.mg "repr" = none) (hg : X.A.guards = some []) (hu : X.A.units + 64 < cLine) (ha : DA F X [e] t) (hgl : Gl X "repr" := by rfl) (he : starEach [e] X.env = (false, eval e X.env) :: starEach [] X.env := by rfl) : DE F X (.Call (.Name "repr" p) [e] [] pos) (fun ρ Q => t ρ fun ds => reprD ds Q) := by
  refine de_callB (id := "repr") mono_reprD (fun vs ds I H Q st rs h => ?_) (call_reprP hg hu) hm (by decide +kernel) ha hgl (by decide) (by decide) he rfl
  unfold reprD at h
  split at h
  · obtain ⟨pl, sh, dp, l, q⟩ := h
    obtain ⟨v, rfl, rv⟩ := rs.one
    exact ⟨v, _, rfl, rv.dp st.sub pl, sh, noDict pl, dp, l, q _ _ _ st.stp (.str _)⟩
  · exact h.elim
/-- a constant of the module -/
theorem de_gs {x y : Str} {pos : Pos} (h : ∃ t, X.mg x = some (.str y t)) (hg : Gl X x := by rfl) (hd : (x == ("__debug__" : Str)) = false := by decide) : DE F X (.Name x pos) (fun _ Q => Q (.str y)) := by
  obtain ⟨t, e⟩ := h
  exact de_gstr hg e ⟨t, rfl⟩ hd
theorem de_gi {x : Str} {y : Int} {pos : Pos} (h : ∃ t, X.mg x = some (.int y t)) (hg : Gl X x := by rfl) (hd : (x == ("__debug__" : Str)) = false := by decide) : DE F X (.Name x pos) (fun _ Q => Q (.int y)) := by
  obtain ⟨t, e⟩ := h
  exact de_gint hg e ⟨t, rfl⟩ hd
end
/-- the world of a deck, at the def that has made it -/
theorem at_deck {K : PySem.W.Frag} {a l : Addr} {H : Hp} {σ : St} (i : Nat) (d : deckAt a l H) (hi : σ[i]? = some (some (.ref a))) : At ⟨DeckW a l, H, fun _ => none⟩ K (fun _ => none) ((List.replicate σ.length none).set i (some (.dat (.opq a)))) σ H := by
  refine ⟨⟨fun b o e => (nomatch (show (none : Option HO) = some o from e)), ⟨fun b o e => (nomatch (show (none : Option HO) = some o from e)), fun b o e => (nomatch (show (none : Option HO) = some o from e)), d⟩, fun b o e _ => e, fun b o e n => n⟩, by simp, fun j e h => ?_, fun j j' e e' v hj h1 h2 o1 => ?_⟩
  · rcases set_at h with ⟨rfl, q⟩ | ⟨_, q⟩
    · cases q
      exact ⟨_, hi, .inl ⟨_, rfl, .opq a⟩⟩
    · rw [List.getElem?_replicate] at q
      split at q <;> cases q
  · rcases set_at h1 with ⟨rfl, q⟩ | ⟨_, q⟩
    · cases q
      exact o1.elim
    · rw [List.getElem?_replicate] at q
      split at q <;> cases q
/-! ### reading a derivation's outcome -/
theorem getD_0 {d : D} {ρ : DEnv} {Q : D → Prop} : getD (some (.dat d) :: ρ) 0 Q = Q d := by simp [getD]
theorem getD_s {x : Option Ent} {ρ : DEnv} {n : Nat} {Q : D → Prop} : getD (x :: ρ) (n + 1) Q = getD ρ n Q := by simp [getD]
theorem set_0 {x y : Option Ent} {ρ : DEnv} : (x :: ρ).set 0 y = y :: ρ := rfl
theorem set_s {x y : Option Ent} {ρ : DEnv} {n : Nat} : (x :: ρ).set (n + 1) y = x :: ρ.set n y := rfl
theorem forD_ind {g : DGT} {tb : DTS} {Z : DEnds} (P : List D → DEnv → Prop) (h0 : ∀ ρ, P [] ρ → Z.nx ρ) (h1 : ∀ d ds ρ (R : DEnv → Prop), P (d :: ds) ρ → (∀ ρ', P ds ρ' → R ρ') → g d ρ fun ρ2 => tb { Z with nx := R, ct := R, bk := Z.nx } ρ2) : ∀ (ds : List D) (ρ : DEnv), P ds ρ → forD g tb Z ds ρ
  | [], ρ, h => h0 ρ h
  | d :: ds, ρ, h => h1 d ds ρ (forD g tb Z ds) h fun ρ' h' => forD_ind P h0 h1 ds ρ' h'
theorem eqD_int {x y : Int} {Q : D → Prop} : eqD (.int x) (.int y) Q = Q (.bl (decide (x = y))) := by
  have e : deq (.int x) (.int y) = decide (x = y) := by simp [deq, toPy, PyData.eqv]; rfl
  simp [eqD, canEq, scalD, mixD, e]
theorem neD_int {x y : Int} {Q : D → Prop} : neD (.int x) (.int y) Q = Q (.bl (!decide (x = y))) := by
  have e : deq (.int x) (.int y) = decide (x = y) := by simp [deq, toPy, PyData.eqv]; rfl
  simp [neD, canEq, scalD, mixD, e]
theorem eqD_str {x y : Str} {Q : D → Prop} : eqD (.str x) (.str y) Q = Q (.bl (decide (x = y))) := by
  have e : deq (.str x) (.str y) = decide (x = y) := by simp [deq, toPy, PyData.eqv]; rfl
  simp [eqD, canEq, scalD, mixD, e]
theorem neD_str {x y : Str} {Q : D → Prop} : neD (.str x) (.str y) Q = Q (.bl (!decide (x = y))) := by
  have e : deq (.str x) (.str y) = decide (x = y) := by simp [deq, toPy, PyData.eqv]; rfl
  simp [neD, canEq, scalD, mixD, e]
theorem boolD_bl {b : Bool} {Q : Bool → Prop} : boolD (.bl b) Q = Q b := by simp [boolD]
theorem intD_int {i : Int} {Q : Int → Prop} : intD (.int i) Q = Q i := by simp [intD]
/-! ### data that may be compared -/
structure OkN (k : Nat) (d : D) : Prop where
  pl : plainD d = true
  cl : (toPy d).canLay0 = true
  dp : (toPy d).depth ≤ k
theorem OkN.mono {j k : Nat} {d : D} (h : OkN j d) (l : j ≤ k) : OkN k d := ⟨h.pl, h.cl, Nat.le_trans h.dp l⟩
theorem okN_int (i : Int) : OkN 0 (.int i) := ⟨rfl, by simp [toPy, PyData.canLay0], by simp [toPy, PyData.depth]⟩
theorem okN_bl (i : Bool) : OkN 0 (.bl i) := ⟨rfl, by simp [toPy, PyData.canLay0], by simp [toPy, PyData.depth]⟩
theorem okN_non : OkN 0 .non := ⟨rfl, by simp [toPy, PyData.canLay0], by simp [toPy, PyData.depth]⟩
theorem okN_str {x : Str} (h : PyData.strOk x = true) : OkN 0 (.str x) := ⟨rfl, by simp [toPy, PyData.canLay0, h], by simp [toPy, PyData.depth]⟩
theorem okNs {k : Nat} : ∀ {xs : List D}, (∀ x ∈ xs, OkN k x) → plainDs xs = true ∧ PyData.canLayAll0 (toPys xs) = true ∧ PyData.depthAll (toPys xs) ≤ k
  | [], _ => by simp [plainDs, toPys, PyData.canLayAll0, PyData.depthAll]
  | x :: xs, h => by
    have h1 := h x (by simp)
    obtain ⟨a, b, c⟩ := okNs fun y hy => h y (List.mem_cons_of_mem _ hy)
    simp only [plainDs, toPys, PyData.canLayAll0, PyData.depthAll, h1.pl, h1.cl, a, b, Bool.and_self, true_and]
    exact Nat.max_le.mpr ⟨h1.dp, c⟩
theorem okN_tup {k : Nat} {xs : List D} (h : ∀ x ∈ xs, OkN k x) : OkN (k + 1) (.tup xs) := by
  obtain ⟨a, b, c⟩ := okNs h
  exact ⟨by simp [plainD, a], by simp [toPy, PyData.canLay0, b], by simp [toPy, PyData.depth]; exact c⟩
theorem okN_lst {k : Nat} {xs : List D} (h : ∀ x ∈ xs, OkN k x) : OkN (k + 1) (.lst xs) := by
  obtain ⟨a, b, c⟩ := okNs h
  exact ⟨by simp [plainD, a], by simp [toPy, PyData.canLay0, b], by simp [toPy, PyData.depth]; exact c⟩
theorem OkN.okE {k : Nat} {d : D} (h : OkN k d) (l : k ≤ 64) : Dk.okE d = true := by
  unfold Dk.okE SeqAt.shaped
  simp only [h.pl, h.cl, Bool.and_self, Bool.true_and, decide_eq_true_eq]
  exact Nat.le_trans h.dp l
theorem OkN.eqD {k : Nat} {d : D} {Q : D → Prop} (h : OkN k d) (l : k ≤ 64) (q : Q (.bl true)) : Dk.eqD d d Q := by
  have e : deq d d = true := SeqAt.eqv_refl _ h.cl
  refine ⟨by simp [canEq, h.okE l], ?_⟩
  rw [e]
  exact q
/-- a comprehension over a list of things, each taken or left -/
theorem lcD_map {α : Type} {g : DGT} {tc : DB} {te : DT} {ρ : DEnv} (f h : α → D) (p : α → Bool) {Q : List D → Prop} : ∀ {l : List α}, (∀ a ∈ l, ∀ (R : D → Prop) (S : Prop), (p a = true → R (h a)) → (p a = false → S) → g (f a) ρ fun ρ2 => tc ρ2 fun b => if b = true then te ρ2 R else S) → Q ((l.filter p).map h) → lcD g tc te ρ (l.map f) Q := by
  intro l
  induction l generalizing Q with
  | nil => intro _ q; exact q
  | cons a l ih =>
    intro hs q
    refine hs a (by simp) _ _ (fun e => ?_) fun e => ?_
    · refine ih (fun b hb => hs b (List.mem_cons_of_mem _ hb)) ?_
      rw [List.filter_cons_of_pos e] at q
      exact q
    · refine ih (fun b hb => hs b (List.mem_cons_of_mem _ hb)) ?_
      rw [List.filter_cons_of_neg (by simp [e])] at q
      exact q
theorem lcD_all {α : Type} {g : DGT} {tc : DB} {te : DT} {ρ : DEnv} (f h : α → D) {Q : List D → Prop} {l : List α} (hs : ∀ a ∈ l, ∀ (R : D → Prop) (S : Prop), R (h a) → g (f a) ρ fun ρ2 => tc ρ2 fun b => if b = true then te ρ2 R else S) (q : Q (l.map h)) : lcD g tc te ρ (l.map f) Q :=
  lcD_map f h (fun _ => true) (fun a ha R S r _ => hs a ha R S (r rfl)) (by rw [List.filter_eq_self.mpr (by simp)]; exact q)
end Dk

namespace Dk
open PySem L2 PySem.Spec PyProof.Rows
/-! ### a law's end, its promise under known guards -/
theorem law_gn {P : Program} {w : World} {K : PySem.W.Frag} {mg mb : Str → Option Value} {CX : CXT} {k : Nat} {fa a : Addr} {fd : FuncData} {x : Str} {sp : Sp} {s1 : Shared} {us : List Value} {ns : List Int}
    (inK : K.In s1.heap) (inM : s1.heap.Ns mainGlobals mg) (inB : s1.heap.Ns builtinsNs mb) (boots : ∀ x : Str, x ≠ "__name__" → mb x = bootBuiltins x) (noLim : s1.heap.NoLimit) (noGen : s1.gens = #[])
    (isL : s1.heap.get? a = some { cls := .type "list", data := .seq us.toArray }) (its0 : IntsAre us ns) (small : ns.length ≤ sizeLine) (room : Room k callerA)
    (F : ∀ base : Heap, K.In base → base.Ns mainGlobals mg → GnOk P w K mg base CX k fa fd [x] sp) (binds : ∀ (s : Shared) (u : Value), BindsTo s fd ⟨[u], []⟩ [(x, u)])
    (says : ∀ H : Hp, L2.Only H → SqL K H a (ns.map V.int) → sp [.ref a] H (fun v _ => v = .bl true) fun _ _ _ => False) (lets : ∀ H e s', CX [] H s1 (fun _ _ _ => False) e s' → False) :
    codeAny (model P w) callerA (.call (.ref fa) ⟨[.ref a], []⟩) (fun r s' => r = .ok (.ret (.bool true)) ∧ OldK s1.heap s'.heap ∧ s'.os = s1.os ∧ AllBare s'.gens) s1 := by
  have vals := vals_ints its0
  -- a heap that tells of the script, or of nothing
  have main : ∀ H : Hp, L2.Only H → SqL K H a (ns.map V.int) → HOk P w H s1.heap → (∀ b, H b ≠ none → b = a ∧ K.lookup b = none) →
      codeAny (model P w) callerA (.call (.ref fa) ⟨[.ref a], []⟩) (fun r s' => r = .ok (.ret (.bool true)) ∧ OldK s1.heap s'.heap ∧ s'.os = s1.os ∧ AllBare s'.gens) s1 := by
    intro H only sq ok few
    have dict_out : ∀ {b : Addr} {m : Str → Option Value}, s1.heap.Ns b m → (hidT s1.heap H).Ns b m := by
      rintro b m ⟨o, es, ep, e1, e2, e3⟩
      refine ⟨o, es, ep, hidT_get e1 ?_, e2, e3⟩
      rcases hb : H b with _ | u
      · rfl
      · obtain ⟨rfl, _⟩ := few b (by rw [hb]; simp)
        rw [isL] at e1
        cases e1
        exact Data.noConfusion e2
    have inK' : K.In (hidT s1.heap H) := fun b o e => hidT_get (inK b o e) (by
      rcases hb : H b with _ | u
      · rfl
      · have := (few b (by rw [hb]; simp)).2
        rw [this] at e
        cases e)
    obtain ⟨mc, lim1, lim2⟩ := noLim
    have env : Env0 P w K mg (hidT s1.heap H) callerA [] s1 H := { frames := rfl, mod := ⟨inK', dict_out inM, ⟨mb, dict_out inB, boots⟩, ⟨mc, dict_out lim1, lim2⟩⟩, bs := fun b o e => of_hidT e, bsz := Nat.le_of_eq (hidT_size _ _), funs := trivial, frf := (by simp [frs]), hok := ok, bare := .of_eq noGen }
    refine codeAny_mono ((F _ inK' (dict_out inM)).go callerA [] s1 H ⟨[.ref a], []⟩ [.ref a] [.ref a] _ _ ⟨room, rfl⟩ env (binds s1 (.ref a)) (.cons rfl .nil) (says H only sq)) fun r s' q => ?_
    match r, q with
    | .error e, q => exact (lets H e s' q).elim
    | .ok .next, q => exact q.elim
    | .ok .brk, q => exact q.elim
    | .ok .cont, q => exact q.elim
    | .ok (.ret u), ⟨v, H2, os, bare, un, ok2, rel, q⟩ =>
      have q : v = .bl true := q
      subst q
      obtain rfl : u = Value.bool true := rel
      refine ⟨rfl, OldK.of_keep fun b o e => ?_, os, bare⟩
      rcases only b with z | ⟨ob, xs, z⟩
      · exact un.keep b o e z (by simp [frs]) (by simp)
      · obtain ⟨e1, _⟩ := ok b _ z
        obtain ⟨e2, _⟩ := ok2 b _ (un.frzs b ob _ z)
        rw [e1] at e
        cases e
        exact e2
  rcases hk : K.lookup a with _ | o
  · -- the script stands beside the module's objects
    have told : ∀ b u, (if b = a then some (HO.frz { cls := .type "list", data := .seq us.toArray } (.lst (ns.map V.int))) else none) = some u → b = a ∧ u = HO.frz { cls := .type "list", data := .seq us.toArray } (.lst (ns.map V.int)) := fun b u z => by
      split at z
      · exact ⟨by assumption, (Option.some.inj z).symm⟩
      · cases z
    refine main (fun b => if b = a then some (.frz { cls := .type "list", data := .seq us.toArray } (.lst (ns.map V.int))) else none) (fun b => ?_) (.inl (.inr ⟨_, if_pos rfl⟩)) (fun b u z => ?_) fun b z => ?_
    · by_cases hb : b = a
      · right; exact ⟨_, _, if_pos hb⟩
      · left; exact if_neg hb
    · obtain ⟨rfl, rfl⟩ := told b u z
      exact ⟨isL, by rw [List.length_map]; exact small, us, _, vals, isL⟩
    · rcases hb : (if b = a then some (HO.frz { cls := .type "list", data := .seq us.toArray } (.lst (ns.map V.int))) else none) with _ | u
      · exact absurd hb z
      · obtain ⟨rfl, _⟩ := told b u hb
        exact ⟨rfl, hk⟩
  · -- it is one of them
    have e := inK a o hk
    rw [isL] at e
    cases e
    exact main (fun _ => none) (fun _ => .inl rfl) (.inr ⟨_, us.toArray, _, hk, rfl, rfl, rfl, by rw [List.size_toArray, its0.length]; exact small, by simpa using vals⟩) (fun b u z => (nomatch (show (none : Option HO) = some u from z))) fun b z => absurd rfl z
theorem walk_gn {l : PySem.W.OpenLaw} {n k : Nat} {q : Program} {loose : List Str} {XP : (Str → Option Value) → Heap → Prop} {YP : World → Heap → Prop} {d : DefRec} {K : Params → PySem.W.Frag} {x : Str} {sp : PySem.W.Frag → Sp}
    (hn : l.most = some n) (hn2 : n ≤ sizeLine) (hdf : d.params.defaults = []) (room : Room k callerA) (inY : ∀ (w : World) (h : Heap), YP w h → (K w.params).In h)
    (F : ∀ (w : World) (mg : Str → Option Value) (fa : Addr) (h : Heap), (K w.params).In h → h.Ns mainGlobals mg → mg d.name = some (.ref fa) →
      ∃ fd : FuncData, (∀ (s : Shared) (u : Value), BindsTo s fd ⟨[u], []⟩ [(x, u)]) ∧ ∀ base : Heap, (K w.params).In base → base.Ns mainGlobals mg → GnOk l.prog w (K w.params) mg base CX0 k fa fd [x] (sp (K w.params)))
    (says : ∀ (K : PySem.W.Frag) (H : Hp) (a : Addr) (ns : List Int), ns.length ≤ n → SqL K H a (ns.map V.int) → sp K [.ref a] H (fun v _ => v = .bl true) fun _ _ _ => False) :
    PySem.W.WalkO q loose XP YP l.row.toRowW d [] (fun f vs => PySem.call f vs) := by
  refine Att.attach_call hn hdf fun w s0 s1 mg mb fa o pm cd doc a us ns G Y ho hd hcd hmg hobj hints hlen hg => ?_
  obtain ⟨fd, hb, hF⟩ := F w mg fa _ (inY w _ Y) G.T.g hmg
  exact law_gn (inY w _ Y) G.T.g G.T.b G.T.builtins G.T.nolimit hg hobj hints (Nat.le_trans hlen hn2) room hF hb (fun H _ hS => says _ H a ns hlen hS) fun H e s' z => z
end Dk

/-! Comprehensions of any number of clauses, of any kind: a list's, a set's, a dict's. -/
namespace Dk
open PySem L2 PySem.Spec PyProof.Rows
/-- all tests of a clause -/
def tests (ifs : List Expr) (env : Env) : Sem Bool := forIn ifs true fun c r => if r = true then do let ok ← isTrue c env (eval c env); pure (ForInStep.yield ok) else pure (ForInStep.yield r)
/-- what follows the k-th clause's tests -/
def behind (e : Expr) (gens : List Comprehension) (emit : Sem Unit) (k : Nat) (acc : Value) (env : Env) (next : Sem Fin) : Sem Fin :=
  match gens[k + 1]? with
  | none => do
    emit
    next
  | some g => do
    let x ← eval g.iter env
    standAt g.iter.pos
    let y ← foldedSetIterable g.iter env x
    let it ← holding [y] (pyIter y)
    let _ ← runOwn (.compStart e (k + 1) it acc env) env
    next
/-- a comprehension: its clauses, what it does with an element -/
structure IsCp (e : Expr) (gens : List Comprehension) (emit : Value → Env → Sem Unit) : Prop where
  cl : clausesOf e = gens
  fl : ∀ (k : Nat) (it acc : Value) (env : Env), (Code.compLoop e k it acc env).isFrame = false ∧ (Code.compStart e k it acc env).isFrame = false
  un : ∀ (A : Around) (k : Nat) (it acc : Value) (env : Env), A.under (.compLoop e k it acc env) = A ∧ A.under (.compStart e k it acc env) = A
  turn : ∀ (k : Nat) (tg iter : Expr) (ifs : List Expr) (it acc : Value) (env : Env), gens[k]? = some ⟨tg, iter, ifs, 0⟩ → (∀ g, gens[k + 1]? = some g → g.is_async = 0) → compTurn e k it acc env = (do
    standAt iter.pos
    match ← pyNext it with
    | none => pure (.done .next)
    | some v => do
      letOwnedTupleGo tg it v
      assign tg env v
      let ok ← tests ifs env
      if ok then behind e gens (emit acc env) k acc env (again (.compLoop e k it acc env))
      else again (.compLoop e k it acc env))
theorem cp_list (elt : Expr) (gens : List Comprehension) (scope : Scope) (pos : Pos) : IsCp (.ListComp elt gens scope pos) gens (fun acc env => do let _ ← call (.builtin "list.append") [acc, ← eval elt env]) := by
  refine ⟨rfl, fun _ _ _ _ => ⟨rfl, rfl⟩, fun _ _ _ _ _ => ⟨rfl, rfl⟩, fun k tg iter ifs it acc env hg hn => ?_⟩
  unfold compTurn behind tests
  simp only [hg]
  cases h : gens[k + 1]? with
  | none => rfl
  | some g => 
    have := hn g h
    simp only [this]
    rfl
theorem cp_set (elt : Expr) (gens : List Comprehension) (scope : Scope) (pos : Pos) : IsCp (.SetComp elt gens scope pos) gens (fun acc env => do let v ← eval elt env; standAt elt.pos; let _ ← call (.builtin "set.add") [acc, v]) := by
  refine ⟨rfl, fun _ _ _ _ => ⟨rfl, rfl⟩, fun _ _ _ _ _ => ⟨rfl, rfl⟩, fun k tg iter ifs it acc env hg hn => ?_⟩
  unfold compTurn behind tests
  simp only [hg]
  cases h : gens[k + 1]? with
  | none => rfl
  | some g => 
    have := hn g h
    simp only [this]
    rfl
theorem cp_dict (kx vx : Expr) (gens : List Comprehension) (scope : Scope) (pos : Pos) : IsCp (.DictComp kx vx gens scope pos) gens (fun acc env => do
    let kv ← eval kx env
    let vv ← holding [kv] (eval vx env)
    match acc with
    | .ref d => do
      standAt { kx.pos with endLine := vx.pos.endLine, endCol := vx.pos.endCol }
      holding [kv, vv] (dictSet d kv vv)
    | _ => unsupported "internal:dictcomp") := by
  refine ⟨rfl, fun _ _ _ _ => ⟨rfl, rfl⟩, fun _ _ _ _ _ => ⟨rfl, rfl⟩, fun k tg iter ifs it acc env hg hn => ?_⟩
  unfold compTurn behind tests
  simp only [hg]
  cases h : gens[k + 1]? with
  | none => rfl
  | some g => 
    have := hn g h
    simp only [this]
    rfl
/-- it runs on to what comes next, in a state that the post tells -/
def Onward (M : Model) (A : Around) (bh : Sem Fin → Sem Fin) (post : Shared → Prop) (s : Shared) : Prop :=
  ∀ (next : Sem Fin) (Q : Fin → Shared → Prop) (E : Value → Shared → Prop), (∀ s', post s' → wpAny M A next Q E s') → wpAny M A (bh next) Q E s
section
variable {prog : Program} {w : World} {A : Around} {R : Result → Shared → Prop} {s : Shared} {e tg iter : Expr} {ifs : List Expr} {gens : List Comprehension} {emit : Value → Env → Sem Unit} {k : Nat} {it acc : Value} {env : Env}
theorem cp_loop (c : IsCp e gens emit) (hg : gens[k]? = some ⟨tg, iter, ifs, 0⟩) (hn : ∀ g, gens[k + 1]? = some g → g.is_async = 0) (I : Nat → Shared → Prop)
    (turn : ∀ n s, I n s → wpAny (model prog w) A (pyNext it) (fun r s1 => match r with
      | none => R (.ok .next) s1
      | some v => wpAny (model prog w) A (letOwnedTupleGo tg it v) (fun _ s2 => wpAny (model prog w) A (assign tg env v) (fun _ s3 => wpAny (model prog w) A (tests ifs env) (fun b s4 =>
          if b = true then Onward (model prog w) A (behind e gens (emit acc env) k acc env) (fun s5 => ∃ m, m < n ∧ I m s5) s4 else ∃ m, m < n ∧ I m s4) (fun _ _ => False) s3) (fun _ _ => False) s2) (fun _ _ => False) s1) (fun _ _ => False) s)
    (n : Nat) (h : I n s) : codeAny (model prog w) A (.compLoop e k it acc env) R s := by
  refine codeAny_loop rfl I (fun n s hI => ?_) n h
  have ed : (model prog w).den (.compLoop e k it acc env) = (compTurn e k it acc env).onRaise (fun x => do noteFrame x env; theTreesLotGoes x) := by
    show (if (Code.compLoop e k it acc env).isFrame = true then _ else _) = _
    rw [if_neg (by rw [(c.fl k it acc env).1]; exact Bool.false_ne_true)]
  rw [ed, (c.un A k it acc env).1]
  refine wpAny_noted ?_
  rw [c.turn k tg iter ifs it acc env hg hn]
  refine wpAny_bind (wpAny_standAt (wpAny_bind (thnF (turn n s hI) fun r s1 h1 => ?_)))
  cases r with
  | none => exact wpAny_pure h1
  | some v =>
    refine wpAny_bind (thnF h1 fun _ s2 h2 => wpAny_bind (thnF h2 fun _ s3 h3 => wpAny_bind (thnF h3 fun b s4 h4 => ?_)))
    cases b with
    | false => exact wpAny_pure ⟨rfl, h4⟩
    | true => exact h4 _ _ _ fun s5 h5 => wpAny_pure ⟨rfl, h5⟩
theorem cp_start (c : IsCp e gens emit) (hg : gens[k]? = some ⟨tg, iter, ifs, 0⟩) (h0 : codeAny (model prog w) A (.compLoop e k it acc env) R s)
    (h : wpAny (model prog w) A (pyIter it) (fun it' s' => codeAny (model prog w) A (.compLoop e k it' acc env) R s') (fun _ _ => False) s) : codeAny (model prog w) A (.compStart e k it acc env) R s := by
  refine codeAny_of_tree ?_
  have ed : (model prog w).den (.compStart e k it acc env) = (compStart e k it acc env).onRaise (fun x => do noteFrame x env; standAt theWindowsPlace) := by
    show (if (Code.compStart e k it acc env).isFrame = true then _ else _) = _
    rw [if_neg (by rw [(c.fl k it acc env).2]; exact Bool.false_ne_true)]
  rw [ed, (c.un A k it acc env).2]
  refine wpAny_notedAt ?_
  unfold compStart
  rw [c.cl, hg]
  show wpAny _ _ (ask >>= _) _ _ s
  refine wpAny_bind (wpAny_askSetting (wpAny_ite ?_))
  split
  · first
      | exact wpAny_bind (wpAny_pure (wpAny_pure (And.intro rfl h0)))
      | exact wpAny_pure (And.intro rfl h0)
  · first
      | exact wpAny_bind (wpAny_rule (wpAny_bind (wpAny_standAt (wpAny_bind (thnF h fun it' s' h' => wpAny_pure (And.intro rfl h'))))))
      | (refine wpAny_bind (wpAny_rule ?_); show wpAny _ _ (standAt iter.pos >>= _) _ _ s; exact wpAny_bind (wpAny_standAt (wpAny_bind (thnF h fun it' s' h' => wpAny_pure (And.intro rfl h')))))
end
abbrev TN := L2.St → Hp → (Hp → Prop) → Prop
/-- what is done with an element, to the object at D -/
structure Emit (Y : Cx) (em : Sem Unit) (T : TN) : Prop where
  run : ∀ (pins : List (Addr × Obj)) (s : Shared) (σ : L2.St) (H : Hp) (Nx : Hp → Prop), Inv Y pins σ H s → T σ H Nx → wpAny (model Y.prog Y.w) Y.A em (fun _ s' => ∃ H', Inv Y pins σ H' s' ∧ Nx H') (fun _ _ => False) s
/-- the clauses behind the k-th; vs: the slots that they store in -/
structure Nest (Y : Cx) (e : Expr) (gens : List Comprehension) (em : Sem Unit) (k : Nat) (D : Addr) (vs : List Nat) (T : TN) : Prop where
  run : ∀ (pins : List (Addr × Obj)) (s : Shared) (σ : L2.St) (H : Hp) (Nx : Hp → Prop), Inv Y pins σ H s → T σ H Nx → Onward (model Y.prog Y.w) Y.A (behind e gens em k (.ref D) Y.env) (fun s' => ∃ H', Inv Y pins (wipe σ vs) H' s' ∧ Nx H') s
section
variable {Y : Cx} {e tg iter : Expr} {ifs : List Expr} {gens : List Comprehension} {em : Sem Unit} {emit : Value → Env → Sem Unit} {k : Nat} {D : Addr} {vs vs' : List Nat} {T T' : TN} {wi : TI} {g : TG} {tt : TT}
theorem nest_nil (hk : gens[k + 1]? = none) (h : Emit Y em T) : Nest Y e gens em k D [] T := by
  refine ⟨fun pins s σ H Nx J q next Q E hn => ?_⟩
  unfold behind
  rw [hk]
  exact wpAny_bind (thnF (h.run pins s σ H Nx J q) fun _ s' h' => hn s' h')
/-- one loop of a clause, over an iterator that has come -/
def tLoop (vs : List Nat) (g : TG) (tt : TT) (T' : TN) (J : It) (σ : L2.St) (H4 : Hp) (Nx : Hp → Prop) : Prop :=
  ∃ W : Nat → Nat → Hp → Prop, (∃ m, W 0 m H4) ∧ ∀ i m H, W i m H → (J.stop i H ∧ Nx H) ∨ (J.go i H ∧ ∃ N1 : Hp → Prop, (∀ H', N1 H' → ∃ m', m' < m ∧ W (i + 1) m' H') ∧
    ∀ x H', J.yld i H x H' → g x (wipe σ vs) H' fun σ2 H2 => wipe σ2 vs = wipe σ vs ∧ tt σ2 H2 fun b H3 => if b = true then T' σ2 H3 N1 else N1 H3)
theorem nest_loop {R : Result → Shared → Prop} {s : Shared} {pins : List (Addr × Obj)} {σ : L2.St} {H : Hp} {Nx : Hp → Prop} {J : It} {fp : List Addr} {it : Addr} {tn : Nat → Heap → Prop} (hx : ∀ e s, ¬ Y.xe e s) (hc : Y.calm = true) (c : IsCp e gens emit) (hk : gens[k]? = some ⟨tg, iter, ifs, 0⟩) (hn : ∀ g, gens[k + 1]? = some g → g.is_async = 0)
    (hg : PG Y tg g) (ht : PTs Y ifs tt) (h : Nest Y e gens (emit (.ref D) Y.env) k D vs' T') (hv : ∀ i ∈ vs', i ∈ vs) (I : Inv Y pins σ H s) (Tu : Turn Y.prog Y.w Y.K tg J fp it tn) (st : tn 0 s.heap) (f : ∀ b ∈ fp, FpOk Y pins H b) (q : tLoop vs g tt T' J σ H Nx)
    (hR : ∀ s' H', Inv Y pins (wipe σ vs) H' s' → Nx H' → R (.ok .next) s') : codeAny (model Y.prog Y.w) Y.A (.compLoop e k (.ref it) (.ref D) Y.env) R s := by
  obtain ⟨W, ⟨m0, w0⟩, turn⟩ := q
  have stat : ∀ {H' : Hp}, (∀ b ∈ fp, H' b = none) → ∀ b ∈ fp, FpOk Y pins H' b := fun hn b hb => ⟨hn b hb, (f b hb).2⟩
  refine cp_loop c hk hn (fun n s' => ∃ i H', Inv Y pins (wipe σ vs) H' s' ∧ tn i s'.heap ∧ (∀ b ∈ fp, H' b = none) ∧ W i n H') ?_ m0 ⟨0, H, I.weak (wipe_length _ _) (fun j v e => (wipe_some e).1), st, fun b hb => (f b hb).1, w0⟩
  rintro n s1 ⟨i, H1, I1, st1, n1, w1⟩
  rcases turn i n H1 w1 with ⟨stop, nx⟩ | ⟨go, N1, hN, step⟩
  · refine thnF (Tu.done Y rfl rfl rfl hc i _ s1 (wipe σ vs) H1 (fun _ _ => False) I1 (stat n1) st1 stop) fun r s2 ⟨hr, I2⟩ => ?_
    subst hr
    exact hR s2 H1 I2 nx
  · refine thnF (Tu.item Y rfl rfl rfl hc i _ s1 (wipe σ vs) H1 (fun _ _ => False) I1 (stat n1) st1 go) fun r s2 ⟨u, hr, h2⟩ => ?_
    subst hr
    refine thnF h2 fun _ s3 ⟨x, H3, I3, r3, y3, st3, n3⟩ => ?_
    have I3' := I3.pinned (stat n3) (Tu.obj _ _ st3)
    refine wpAny_mono (hg.run _ s3 (wipe σ vs) H3 x u _ I3' r3 (step x H3 y3)) (fun _ s4 ⟨σ4, H4, I4, hw4, q4⟩ => ?_) fun e s' z => hx e s' z
    refine wpAny_mono (ht.run _ s4 σ4 H4 _ I4 q4) (fun b s5 ⟨H5, I5, q5⟩ => ?_) fun e s' z => hx e s' z
    have fin : ∀ {σ' : L2.St} {s' : Shared} {H' : Hp}, Inv Y (pins ++ pinsAt fp s3.heap) σ' H' s' → wipe σ' vs = wipe σ vs → N1 H' → ∃ m, m < n ∧ ∃ i H', Inv Y pins (wipe σ vs) H' s' ∧ tn i s'.heap ∧ (∀ b ∈ fp, H' b = none) ∧ W i m H' := fun {σ' s' H'} I' hw nx => by
      obtain ⟨m', hm, w'⟩ := hN H' nx
      have pin' : ∀ b ∈ fp, ∀ o, s3.heap.get? b = some o → s'.heap.get? b = some o ∧ H' b = none := fun b hb o e =>
        let z := I'.pin (b, o) (List.mem_append_right _ (List.mem_append_right _ (mem_pinsAt hb e)))
        ⟨z.1, z.2.1⟩
      refine ⟨m', hm, i + 1, H', I'.unpinned.weak (by rw [← hw, wipe_length]) (fun j v e => by rw [← hw] at e; exact (wipe_some e).1), Tu.keep _ _ _ st3 fun b hb o e => (pin' b hb o e).1, fun b hb => ?_, w'⟩
      obtain ⟨o, e, _⟩ := Tu.obj _ _ st3 b hb
      exact (pin' b hb o e).2
    cases b with
    | false =>
      simp only [Bool.false_eq_true, if_false] at q5 ⊢
      exact fin I5 hw4 q5
    | true =>
      simp only [if_true] at q5 ⊢
      intro next Q E hnext
      refine h.run _ s5 σ4 H5 N1 I5 q5 next Q E fun s6 ⟨H6, I6, nx⟩ => hnext s6 (fin I6 ?_ nx)
      rw [← hw4]
      apply List.ext_getElem?
      intro j
      by_cases hj : j ∈ vs
      · by_cases hlt : j < σ4.length
        · rw [Classical.byContradiction fun z => absurd (wipe_at hj z) (by rw [wipe_length]; omega), Classical.byContradiction fun z => absurd (wipe_at hj z) (by omega)]
        · rw [List.getElem?_eq_none (by rw [wipe_length, wipe_length]; omega), List.getElem?_eq_none (by rw [wipe_length]; omega)]
      · rw [wipe_out hj, wipe_out hj, wipe_out fun z => hj (hv j z)]
theorem nest_cons (hx : ∀ e s, ¬ Y.xe e s) (hc : Y.calm = true) (c : IsCp e gens emit) (hk : gens[k + 1]? = some ⟨tg, iter, ifs, 0⟩) (hn : ∀ g, gens[k + 1 + 1]? = some g → g.is_async = 0) (hi : PI Y tg iter wi) (hg : PG Y tg g) (ht : PTs Y ifs tt)
    (h : Nest Y e gens (emit (.ref D) Y.env) (k + 1) D vs' T') (hv : ∀ i ∈ vs', i ∈ vs) (hs : ∀ x, foldedSetIterable iter Y.env x = pure x) :
    Nest Y e gens (emit (.ref D) Y.env) k D vs (fun σ H Nx => wi σ H fun J H4 => tLoop vs g tt T' J σ H4 Nx) := by
  refine ⟨fun pins s σ H Nx I q next Q E hnext => ?_⟩
  unfold behind
  rw [hk]
  refine wpAny_bind (wpAny_mono (hi.run pins s σ H _ I q) (fun x s1 h1 => ?_) fun e s' z => (hx e s' z).elim)
  refine wpAny_bind (wpAny_standAt (wpAny_bind (wpAny_of_eq (hs x) (wpAny_bind (wpAny_holding (wpAny_mono h1 (fun itv s2 h2 => ?_) fun e s' z => (hx e s' z).elim))))))
  obtain ⟨it, fp, tn, J, H2, rfl, I2, Tu, st2, f2, q2⟩ := h2
  refine wpAny_bind (wpAny_runOwn ?_)
  rw [Around.mark_none]
  have loop := nest_loop (R := fun r s' => match r with
    | .ok _ => ∃ H', Inv Y pins (wipe σ vs) H' s' ∧ Nx H'
    | .error _ => False) hx hc c hk hn hg ht h hv I2 Tu st2 f2 q2 fun s' H' I' nx => ⟨H', I', nx⟩
  refine codeAny_mono (cp_start c hk loop (Tu.self Y.A 0 _ _ _ st2 loop)) fun r s' hr => ?_
  cases r with
  | ok f => exact hnext s' hr
  | error e => exact hr.elim
end
/-- a comprehension as a value: o0 the new object, T what follows the first clause's tests -/
def tCp (o0 : Addr → HO) (wi : TI) (vs : List Nat) (g : TG) (tt : TT) (T : Addr → TN) : TE := fun σ H Q => wi σ H fun J H1 => ∀ D, H1 D = none → tLoop vs g tt (T D) J σ (upd H1 D (o0 D)) fun H' => Q (.ref D) H'
section
variable {X : Cx} {e tg iter : Expr} {ifs : List Expr} {rest : List Comprehension} {emit : Value → Env → Sem Unit} {vs' : List Nat} {T : Addr → TN} {wi : TI} {g : TG} {tt : TT} {scope : Scope} {own : List (Str × Nat)} {ob0 : Obj} {o0 : Addr → HO} {newAcc : Sem Value}
theorem cp_core {pins : List (Addr × Obj)} {s : Shared} {σ : L2.St} {H : Hp} {Q : VK} {pos' : Pos} {use : Option (Value → Sem Unit)} {Qf : Value → Shared → Prop}
    (c : IsCp e (⟨tg, iter, ifs, 0⟩ :: rest) emit) (hnw : ∀ {A : Around} {E : Value → Shared → Prop} {Q : Value → Shared → Prop} {s : Shared}, Q (.ref s.heap.objs.size) { s with heap := s.heap.push ob0 } → wpAny (model X.prog X.w) A newAcc Q E s)
    (hob : ∀ (pins : List (Addr × Obj)) (σ : L2.St) (H : Hp) (s : Shared), Inv X pins σ H s → ObjOk X.prog X.w (upd H s.heap.objs.size (o0 s.heap.objs.size)) (s.heap.push ob0) s.heap.objs.size (o0 s.heap.objs.size))
    (hc : X.calm = true) (hN : X.N.Nodup) (I : Inv X pins σ H s) (hi : PI X tg iter wi) (ok : BlkOk X.N X.env.scope scope own) (hrest : ∀ g ∈ rest, g.is_async = 0) (hv : ∀ i ∈ vs', i ∈ own.map (·.2))
    (hg : ∀ (s : Shared) (H : Hp) (C : Addr) (cl : List (Str × Addr)) (fp : List Addr), PG (X.blk s H scope (compEnvC scope cl C X.env) fp) tg g) (ht : ∀ (s : Shared) (H : Hp) (C : Addr) (cl : List (Str × Addr)) (fp : List Addr), PTs (X.blk s H scope (compEnvC scope cl C X.env) fp) ifs tt)
    (hb : ∀ (s : Shared) (H : Hp) (C : Addr) (cl : List (Str × Addr)) (fp : List Addr) (D : Addr), Nest (X.blk s H scope (compEnvC scope cl C X.env) fp) e (⟨tg, iter, ifs, 0⟩ :: rest) (emit (.ref D) (compEnvC scope cl C X.env)) 0 D vs' (T D))
    (hs : ∀ x, foldedSetIterable iter X.env x = pure x) (h : tCp o0 wi (own.map (·.2)) g tt T σ H Q)
    (hRR : ∀ D C s' m H', Inv X pins σ H' s' → Q (.ref D) H' → s'.heap.Ns C m → FpOk X pins H' C → compPost (model X.prog X.w) X.A X.xe use Qf (.ref D) C (.ok .next) s') :
    wpAny (model X.prog X.w) X.A (comprehension e scope X.env pos' newAcc false (eval iter X.env) use) Qf X.xe s := by
  have hfree : ∀ y ∈ scope.names, y.2 = .free → ∃ c, X.env.cells.lookup y.1 = some c := fun y hy e => (ok.free y hy e).elim (fun k => I.ok.has _ (.inl k)) fun k => I.ok.has _ (.inr k)
  refine wpAny_comprehension_free (use := use) c.cl hs (closure_ok hfree) ok.kind (fun y hy e => by rw [ok.uniq y hy, e]) (thn (hi.run pins s σ H _ I h) fun xv s1 hx => thn hx fun itv s2 h2 => ?_)
  obtain ⟨it, fp, tn, J, H2, rfl, I2, Tu, st2, f2, q⟩ := h2
  refine hnw (newEnv_comp ?_)
  generalize hD : s2.heap.objs.size = D
  have hDn : H2 D = none := I2.hok.fresh (Nat.le_of_eq hD)
  have q := q D hDn
  generalize hs3 : ({ s2 with heap := s2.heap.push ob0 } : Shared) = s3
  have I3 : Inv X pins σ (upd H2 D (o0 D)) s3 := by
    subst hs3 hD
    exact I2.laid (t' := s2.toks) (fun b o e => Heap.get?_push_of_some _ e) (Nat.le_refl _) (hob _ _ _ _ I2)
  have h3 : s3.heap = s2.heap.push ob0 := by rw [← hs3]
  have f3 : ∀ b ∈ fp, FpOk X pins (upd H2 D (o0 D)) b ∧ b < s3.heap.objs.size := fun b hb => by
    obtain ⟨o, e, _⟩ := Tu.obj _ _ st2 b hb
    have hlt := Heap.lt_size e
    refine ⟨⟨?_, (f2 b hb).2⟩, by rw [h3, Heap.size_push]; exact Nat.lt_succ_of_lt hlt⟩
    rw [upd_ne (by rw [← hD]; exact Nat.ne_of_lt hlt)]
    exact (f2 b hb).1
  have st3 : tn 0 s3.heap := Tu.keep _ _ _ st2 fun b _ o e => by rw [h3]; exact Heap.get?_push_of_some _ e
  have I4 := block_start I3 ok hN f3
  have pg := hg s3 (upd H2 D (o0 D)) s3.heap.objs.size (cellsFrom (s3.heap.objs.size + 1) scope.names (cloFrom X.env.cells scope.names [])) fp
  have pt := ht s3 (upd H2 D (o0 D)) s3.heap.objs.size (cellsFrom (s3.heap.objs.size + 1) scope.names (cloFrom X.env.cells scope.names [])) fp
  have pb := hb s3 (upd H2 D (o0 D)) s3.heap.objs.size (cellsFrom (s3.heap.objs.size + 1) scope.names (cloFrom X.env.cells scope.names [])) fp D
  show codeAny _ _ (.compStart e 0 (.ref it) (.ref D) (compEnvC scope (cellsFrom (s3.heap.objs.size + 1) scope.names (cloFrom X.env.cells scope.names [])) s3.heap.objs.size X.env)) (compPost (model X.prog X.w) X.A X.xe use Qf (.ref D) s3.heap.objs.size) { s3 with heap := pushCells (s3.heap.push { cls := .type "dict", data := .dict #[] }) scope.names }
  have nfp : ∀ b ∈ fp, (upd H2 D (o0 D)) b = none := fun b hb => (f3 b hb).1.1
  generalize hce : compEnvC scope (cellsFrom (s3.heap.objs.size + 1) scope.names (cloFrom X.env.cells scope.names [])) s3.heap.objs.size X.env = ce at I4 pg pt pb ⊢
  have cL : ce.locals = s3.heap.objs.size := by subst hce; rfl
  generalize hH3 : upd H2 D (o0 D) = H3 at I3 I4 pg pt pb q nfp f3
  generalize hs4 : ({ s3 with heap := pushCells (s3.heap.push { cls := .type "dict", data := .dict #[] }) scope.names } : Shared) = s4 at I4 ⊢
  have st4 : tn 0 s4.heap := Tu.keep _ _ _ st3 fun b _ o e => by rw [← hs4]; exact pushCells_keeps _ _ _ _ (Heap.get?_push_of_some _ e)
  have stat : ∀ b ∈ fp, FpOk (X.blk s3 H3 scope ce fp) [] H3 b := fun b hb =>
    ⟨nfp b hb, (I4.ok.exf b hb).1, I4.ok.exfs b hb, .inl hb, fun x c e => (I4.ok.exf b hb).2 x c e, fun p hp => absurd (show p ∈ ([] : List (Addr × Obj)) ++ [] from hp) (by simp)⟩
  have loop := nest_loop (Y := X.blk s3 H3 scope ce fp) (k := 0) (D := D) (pins := []) (vs := own.map (·.2)) (σ := wipe σ (own.map (·.2))) (H := H3) (Nx := fun H' => Q (.ref D) H') (J := J) (fp := fp) (it := it) (tn := tn) (s := s4) (R := compPost (model X.prog X.w) X.A X.xe use Qf (.ref D) s3.heap.objs.size) (fun _ _ z => z) hc c rfl (fun g hg => hrest g (List.mem_of_getElem? (by simpa using hg))) pg pt pb hv I4 Tu st4 stat
    (by
      obtain ⟨W, w0, turn⟩ := q
      exact ⟨W, w0, fun i m H w => by rw [wipe_wipe]; exact turn i m H w⟩)
    fun s' H' I6 qq => by
      have I7 : Inv X pins σ H' s' := I3.call' (ch := fp) I6.os I6.base I6.hok I6.bare fun b hb => ⟨(f3 b hb).1.2.2.2.1, (f3 b hb).1.2.1, (f3 b hb).1.2.2.2.2.1, (f3 b hb).1.2.2.2.2.2⟩
      have nC : H' s3.heap.objs.size = none := by
        have z : H' ce.locals = none := I6.free
        rw [cL] at z
        exact z
      obtain ⟨m, hn, _⟩ := I6.loc
      have hn : s'.heap.Ns ce.locals m := hn
      rw [cL] at hn
      exact hRR D s3.heap.objs.size s' m H' I7 qq hn (I3.fpOk (Nat.le_refl _) nC)
  exact cp_start c rfl loop (Tu.self X.A 0 _ _ _ st4 loop)
end
end Dk

/-! Comprehensions of any depth and kind over data. -/
namespace Dk
open PySem L2
/-- all but the object at D -/
def dropA (H : Hp) (D : Addr) : Hp := fun b => if b = D then none else H b
theorem dropA_ne {H : Hp} {D b : Addr} (h : b ≠ D) : dropA H D b = H b := if_neg h
theorem dropA_at {H : Hp} {D b : Addr} {o : HO} (h : dropA H D b = some o) : b ≠ D ∧ H b = some o := by
  unfold dropA at h
  split at h
  · cases h
  · exact ⟨by assumption, h⟩
section
variable {W : Wd} {I H I' H' : Hp} {D : Addr} {F : Fx} {K : PySem.W.Frag} {ρ : DEnv} {σ : L2.St}
theorem StI.drop (s : StI W I H) (n : I D = none) (m : ¬ W.mv D) : StI W I (dropA H D) :=
  ⟨fun b o e => by rw [dropA_ne (ne_of_none e n)]; exact s.sub b o e, s.imm, W.frame (fun b hb => dropA_ne fun z => m (z ▸ hb)) s.inv⟩
theorem Stp.dropR (s : Stp W I (dropA H D) I' H') (n : I' D = none) (m : ¬ W.mv D) : Stp W I (dropA H D) I' (dropA H' D) :=
  ⟨s.i, s.st.drop n m, fun b o e k => by rw [dropA_ne (dropA_at e).1]; exact s.h b o e k, fun b o e k => s.new b o e k⟩
theorem Stp.dropL (s : Stp W I H I' H') (n : I' D = none) (m : ¬ W.mv D) : Stp W I (dropA H D) I' (dropA H' D) :=
  ⟨s.i, s.st.drop n m, fun b o e k => by rw [dropA_ne (dropA_at e).1]; exact s.h b o (dropA_at e).2 k, fun b o e k => s.new b o (dropA_at e).2 k⟩
theorem Stp.intro (s : Stp W I (dropA H D) I' (dropA H' D)) : Stp W I (dropA H D) I' H' := by
  refine ⟨s.i, ⟨fun b o e => (dropA_at (s.st.sub b o e)).2, s.st.imm, ?_⟩, fun b o e k => (dropA_at (s.h b o e k)).2, s.new⟩
  refine W.frame (fun b hb => ?_) s.st.inv
  by_cases hd : b = D
  · exact absurd (show dropA H' D b = none from if_pos hd) (W.live s.st.inv hb)
  · exact (dropA_ne hd).symm
/-- the object at D is written, still no one's -/
structure InD (F : Fx) (I H : Hp) (ρ : DEnv) (σ : L2.St) (D : Addr) : Prop where
  ni : I D = none
  nm : ¬ F.W.mv D
  nb : F.B D = none
  ap : Apart ρ σ D
theorem At.drop (a : At F K I ρ σ H) (d : InD F I H ρ σ D) : At F K I ρ σ (dropA H D) := by
  refine ⟨⟨a.stp.i, a.st.drop d.ni d.nm, fun b o e k => by rw [dropA_ne (ne_of_none e d.nb)]; exact a.stp.h b o e k, a.stp.new⟩, a.len, fun i e h => ?_, a.dis⟩
  obtain ⟨v, h1, h2⟩ := a.env i e h
  refine ⟨v, h1, ?_⟩
  rcases h2 with ⟨x, rfl, r⟩ | ⟨p, o, rfl, w⟩
  · exact .inl ⟨x, rfl, r⟩
  · exact .inr ⟨p, o, rfl, by rw [dropA_ne fun z => by subst z; exact d.ap i _ h w.rep.isOwn h1]; exact w.hp, w.rep, w.ni, w.nm, w.nb, w.ad⟩
theorem InD.step (d : InD F I H ρ σ D) (s : I' D = none) : InD F I' H' ρ σ D := ⟨s, d.nm, d.nb, d.ap⟩
theorem Apart.wipe (h : Apart ρ σ D) (vs : List Nat) : Apart (wipeD ρ vs) (wipe σ vs) D := fun i e he o hv => by
  obtain ⟨h1, h2⟩ := wipeD_some he
  exact h i e h1 o (wipe_some hv).1
theorem Apart.kept {ρ' : DEnv} {σ' : L2.St} {js : List Nat} (h : Apart ρ σ D) (k : Kept js ρ ρ') (o : Only js σ σ') : Apart ρ' σ' D := fun i e he ow hv => by
  obtain ⟨h1, h2⟩ := k i e he ow
  exact h i e h2 ow ((o.2 i h1).symm.trans hv)
end
/-- what is told of the object at D: β its state -/
abbrev HoldsD (β : Type) := Addr → PySem.W.Frag → Hp → HO → β → Prop
abbrev DNT (β : Type) := DEnv → β → (β → Prop) → Prop
def finN {β : Type} (F : Fx) (K : PySem.W.Frag) (Hd : HoldsD β) (D : Addr) (I H : Hp) (Nx : Hp → Prop) : β → Prop :=
  fun b => ∀ I' H' o, Stp F.W I (dropA H D) I' H' → H' D = some o → I' D = none → Hd D K I' o b → Nx H'
/-- the reading t stands for the raw reading T -/
def NSays {β : Type} (F : Fx) (K : PySem.W.Frag) (Hd : HoldsD β) (D : Addr) (t : DNT β) (T : TN) : Prop :=
  ∀ (I H : Hp) (ρ : DEnv) (σ : L2.St) (o : HO) (b : β) (Nx : Hp → Prop), At F K I ρ σ H → InD F I H ρ σ D → H D = some o → Hd D K I o b → t ρ b (finN F K Hd D I H Nx) → T σ H Nx
structure DNest (F : Fx) (Y : Cx) (e : Expr) (gens : List Comprehension) (emit : Value → Env → Sem Unit) (k : Nat) (vs : List Nat) {β : Type} (Hd : HoldsD β) (t : DNT β) : Prop where
  mono : ∀ ρ b (Q Q' : β → Prop), (∀ b, Q b → Q' b) → t ρ b Q → t ρ b Q'
  run : ∀ D, ∃ T, Nest Y e gens (emit (.ref D) Y.env) k D vs T ∧ NSays F Y.K Hd D t T
structure DEmit (F : Fx) (Y : Cx) (emit : Value → Env → Sem Unit) {β : Type} (Hd : HoldsD β) (t : DNT β) : Prop where
  mono : ∀ ρ b (Q Q' : β → Prop), (∀ b, Q b → Q' b) → t ρ b Q → t ρ b Q'
  run : ∀ D, ∃ T, Emit Y (emit (.ref D) Y.env) T ∧ NSays F Y.K Hd D t T
def loopD {β : Type} (g : DGT) (tc : DB) (t : DNT β) (ρ : DEnv) : List D → β → (β → Prop) → Prop
  | [], b, Q => Q b
  | d :: ds, b, Q => g d ρ fun ρ2 => tc ρ2 fun c => if c = true then t ρ2 b fun b' => loopD g tc t ρ ds b' Q else loopD g tc t ρ ds b Q
section
variable {F : Fx} {X Y : Cx} {K : PySem.W.Frag} {e tg iter : Expr} {ifs : List Expr} {gens rest : List Comprehension} {emit : Value → Env → Sem Unit} {k : Nat} {vs vs' js : List Nat} {β : Type} {Hd : HoldsD β} {t : DNT β} {ti : DAT} {g : DGT} {tc : DB}
theorem loopD.mono (hgm : ∀ d ρ (Q Q' : DEnv → Prop), (∀ ρ, Q ρ → Q' ρ) → g d ρ Q → g d ρ Q') (htm : ∀ ρ (Q Q' : Bool → Prop), (∀ d, Q d → Q' d) → tc ρ Q → tc ρ Q') (hm : ∀ ρ b (Q Q' : β → Prop), (∀ b, Q b → Q' b) → t ρ b Q → t ρ b Q') (ρ : DEnv) :
    ∀ (ds : List D) (b : β) (Q Q' : β → Prop), (∀ b, Q b → Q' b) → loopD g tc t ρ ds b Q → loopD g tc t ρ ds b Q'
  | [], b, Q, Q', k, h => k _ h
  | d :: ds, b, Q, Q', k, h => hgm _ _ _ _ (fun ρ2 q => htm _ _ _ (fun c q => by
      cases c
      · exact loopD.mono hgm htm hm ρ ds b _ _ k q
      · exact hm _ _ _ _ (fun b' => loopD.mono hgm htm hm ρ ds b' _ _ k) q) q) h
theorem dn_nil (hk : gens[k + 1]? = none) (h : DEmit F Y emit Hd t) : DNest F Y e gens emit k [] Hd t :=
  ⟨h.mono, fun D => let ⟨T, h1, h2⟩ := h.run D; ⟨T, nest_nil hk h1, h2⟩⟩
theorem loop_run {J : It} {I H : Hp} {ρ : DEnv} {σ : L2.St} {o : HO} {b : β} {D : Addr} {Nx : Hp → Prop} {T : TN} {ds : List Dk.D} (Hmono : ∀ D K I I' o b, Same I I' → Hd D K I o b → Hd D K I' o b)
    (hgm : DG F Y tg js g) (htm : ∀ ρ (Q Q' : Bool → Prop), (∀ d, Q d → Q' d) → tc ρ Q → tc ρ Q') (tm : ∀ ρ b (Q Q' : β → Prop), (∀ b, Q b → Q' b) → t ρ b Q → t ρ b Q') (says : NSays F K Hd D t T) (hjs : ∀ j ∈ js, j ∈ vs)
    (jr : JRep F.W K J I ds) (A : At F K I ρ σ H) (d : InD F I H ρ σ D) (hD : H D = some o) (hb : Hd D K I o b) (q : loopD g tc t (wipeD ρ vs) ds b (finN F K Hd D I H Nx)) :
    tLoop vs (rdG F K js g) (rdT F K tc) T J σ H Nx := by
  have s0 : Stp F.W I (dropA H D) I H := Stp.intro (A.st.drop d.ni d.nm).stp
  refine ⟨fun i m H2 => m = ds.length - i ∧ i ≤ ds.length ∧ ∃ I2 o2 b2, Stp F.W I (dropA H D) I2 H2 ∧ H2 D = some o2 ∧ I2 D = none ∧ Hd D K I2 o2 b2 ∧ loopD g tc t (wipeD ρ vs) (ds.drop i) b2 (finN F K Hd D I H Nx), ⟨ds.length, by simp, Nat.zero_le _, I, o, b, s0, hD, d.ni, hb, by simpa using q⟩, ?_⟩
  rintro i m H2 ⟨rfl, hi, I2, o2, b2, s2, hD2, n2, hb2, q2⟩
  have A0 := (A.drop d).wipe vs
  by_cases hlt : i < ds.length
  · refine .inr ⟨jr.go i I2 H2 s2.i s2.st hlt, fun H3 => ∃ I3 o3 b3, Stp F.W I (dropA H D) I3 H3 ∧ H3 D = some o3 ∧ I3 D = none ∧ Hd D K I3 o3 b3 ∧ loopD g tc t (wipeD ρ vs) (ds.drop (i + 1)) b3 (finN F K Hd D I H Nx), fun H3 h => ⟨ds.length - (i + 1), by omega, rfl, hlt, h⟩, fun x H3 y => ?_⟩
    obtain ⟨dx, I3, hd, s3, rx⟩ := jr.yld i I2 H2 x H3 hlt s2.i s2.st y
    rw [List.drop_eq_getElem_cons hlt] at q2
    have hdx : ds[i] = dx := by
      rw [List.getElem?_eq_getElem hlt] at hd
      exact Option.some.inj hd
    rw [hdx] at q2
    -- step over the turn's start
    have n3 : I3 D = none := s3.new D o2 hD2 n2
    have s23 : Stp F.W I (dropA H D) I3 H3 := Stp.intro ((s2.dropR n2 d.nm).trans (s3.dropL n3 d.nm))
    have A3 : At F K I3 (wipeD ρ vs) (wipe σ vs) H3 := A0.step s23
    have q2 : g dx (wipeD ρ vs) fun ρ2 => tc ρ2 fun c => if c = true then t ρ2 b2 fun b' => loopD g tc t (wipeD ρ vs) (ds.drop (i + 1)) b' (finN F K Hd D I H Nx) else loopD g tc t (wipeD ρ vs) (ds.drop (i + 1)) b2 (finN F K Hd D I H Nx) := q2
    refine ⟨I3, wipeD ρ vs, dx, A3, rx, hgm.mono _ _ _ _ (fun ρ4 ⟨q4, kp⟩ I4 σ4 H4 A4 s4 o4 => ⟨?_, ?_⟩) (hgm.keeps _ _ _ q2)⟩
    · rw [wipe_only o4 hjs, wipe_wipe]
    have d4 : H4 D = some o2 := s4.h _ _ (s3.h _ _ hD2 d.nm) d.nm
    have n4 : I4 D = none := s4.new _ _ (s3.h _ _ hD2 d.nm) n3
    have s24 : Stp F.W I (dropA H D) I4 H4 := Stp.intro ((s23.dropR n3 d.nm).trans (s4.dropL n4 d.nm))
    refine ⟨I4, ρ4, A4, htm _ _ _ (fun c q5 I5 H5 s5 => ?_) q4⟩
    have d5 : H5 D = some o2 := s5.h _ _ d4 d.nm
    have n5 : I5 D = none := s5.new _ _ d4 n4
    have s25 : Stp F.W I (dropA H D) I5 H5 := Stp.intro ((s24.dropR n4 d.nm).trans (s5.dropL n5 d.nm))
    have hb5 : Hd D K I5 o2 b2 := Hmono _ _ _ _ _ _ (Same.trans s3.i (Same.trans s4.i s5.i)) hb2
    cases c with
    | false => exact ⟨I5, o2, b2, s25, d5, n5, hb5, q5⟩
    | true =>
      refine says I5 H5 ρ4 σ4 o2 b2 _ (A4.step s5) ⟨n5, d.nm, d.nb, (d.ap.wipe vs).kept kp o4⟩ d5 hb5 (tm _ _ _ _ (fun b6 q6 I6 H6 o6 s6 d6 n6 hb6 => ?_) q5)
      exact ⟨I6, o6, b6, Stp.intro ((s25.dropR n5 d.nm).trans (s6.dropR n6 d.nm)), d6, n6, hb6, q6⟩
  · have e : i = ds.length := by omega
    subst e
    rw [List.drop_length] at q2
    have q2 : finN F K Hd D I H Nx b2 := q2
    exact .inl ⟨jr.stop I2 H2 s2.i s2.st, q2 I2 H2 o2 s2 hD2 n2 hb2⟩
theorem DI.raw (hi : DI F Y tg iter ti) : PI Y tg iter (rdI F Y.K ti) := hi.run
theorem dn_cons (hx : ∀ e s, ¬ Y.xe e s) (hc : Y.calm = true) (c : IsCp e gens emit) (hk : gens[k + 1]? = some ⟨tg, iter, ifs, 0⟩) (hn : ∀ g, gens[k + 1 + 1]? = some g → g.is_async = 0) (Hmono : ∀ D K I I' o b, Same I I' → Hd D K I o b → Hd D K I' o b)
    (hi : DI F Y tg iter ti) (hg : DG F Y tg js g) (ht : DIfs F Y ifs tc) (h : DNest F Y e gens emit (k + 1) vs' Hd t) (hs : ∀ x, foldedSetIterable iter Y.env x = pure x) :
    DNest F Y e gens emit k (js ++ vs') Hd (fun ρ b Q => ti ρ fun ds => loopD g tc t (wipeD ρ (js ++ vs')) ds b Q) := by
  refine ⟨fun ρ b Q Q' k q => hi.mono _ _ _ (fun ds => loopD.mono hg.mono ht.mono h.mono _ ds b _ _ k) q, fun D => ?_⟩
  obtain ⟨T, h1, h2⟩ := h.run D
  refine ⟨_, nest_cons hx hc c hk hn hi.run hg.run ht.run h1 (vs := js ++ vs') (fun i hi => List.mem_append_right _ hi) hs, fun I H ρ σ o b Nx A d hD hb q => ?_⟩
  refine ⟨I, ρ, A, hi.mono _ _ _ (fun ds q J I' H' s jr => ?_) q⟩
  have hD' := s.h _ _ hD d.nm
  have n' := s.new _ _ hD d.ni
  refine loop_run Hmono hg ht.mono h.mono h2 (fun j hj => List.mem_append_left _ hj) jr (A.step s) ⟨n', d.nm, d.nb, d.ap⟩ hD' (Hmono _ _ _ _ _ _ s.i hb) (loopD.mono hg.mono ht.mono h.mono _ _ _ _ _ (fun b2 q2 I2 H2 o2 s2 d2 n2 hb2 => q2 I2 H2 o2 (Stp.intro ((s.dropL n' d.nm).trans (s2.dropR n2 d.nm))) d2 n2 hb2) q)
end
/-! ### kinds of results -/
def HdL : HoldsD (List D) := fun _ K I o ds => ∃ vs, o = .lst vs ∧ Reps K I vs ds
def HdK : HoldsD (List (Key × D)) := fun _ K I o ds => ∃ kvs, o = .dK kvs ∧ kvs.map (·.1) = ds.map (·.1) ∧ Reps K I (kvs.map (·.2)) (ds.map (·.2))
theorem HdL.mono : ∀ (D : Addr) (K : PySem.W.Frag) (I I' : Hp) (o : HO) (b : List Dk.D), Same I I' → HdL D K I o b → HdL D K I' o b := fun D K I I' o b s ⟨vs, e, r⟩ => ⟨vs, e, r.mono s⟩
theorem HdK.mono : ∀ (D : Addr) (K : PySem.W.Frag) (I I' : Hp) (o : HO) (b : List (Key × Dk.D)), Same I I' → HdK D K I o b → HdK D K I' o b := fun D K I I' o b s ⟨vs, e, k, r⟩ => ⟨vs, e, k, r.mono s⟩
def putD (kvs : List (Key × D)) (k : Key) (d : D) : List (Key × D) :=
  if (kvs.any fun kv => decide (kv.1 = k)) = true then kvs.map fun kv => if kv.1 = k then (kv.1, d) else kv else kvs ++ [(k, d)]
theorem any_keys {α : Type} (k : Key) (kvs : List (Key × α)) : (kvs.any fun kv => decide (kv.1 = k)) = (kvs.map (·.1)).any fun j => decide (j = k) := by
  rw [List.any_map]
  rfl
theorem putD_rep {K : PySem.W.Frag} {I : Hp} {v : V} {d : D} {k : Key} (rv : Rep K I v d) {kvs : List (Key × V)} {ds : List (Key × D)} (h : kvs.map (·.1) = ds.map (·.1)) (r : Reps K I (kvs.map (·.2)) (ds.map (·.2))) :
    (putK kvs k v).map (·.1) = (putD ds k d).map (·.1) ∧ Reps K I ((putK kvs k v).map (·.2)) ((putD ds k d).map (·.2)) := by
  have e : (kvs.any fun kv => decide (kv.1 = k)) = ds.any fun kv => decide (kv.1 = k) := by rw [any_keys, any_keys, h]
  unfold putK putD
  rw [e]
  split
  · have m : ∀ {kvs : List (Key × V)} {ds : List (Key × D)}, kvs.map (·.1) = ds.map (·.1) → Reps K I (kvs.map (·.2)) (ds.map (·.2)) →
        ((kvs.map fun kv => if kv.1 = k then (kv.1, v) else kv).map (·.1) = (ds.map fun kv => if kv.1 = k then (kv.1, d) else kv).map (·.1) ∧ Reps K I ((kvs.map fun kv => if kv.1 = k then (kv.1, v) else kv).map (·.2)) ((ds.map fun kv => if kv.1 = k then (kv.1, d) else kv).map (·.2))) := by
      intro kvs
      induction kvs with
      | nil => intro ds h _; cases ds with | nil => exact ⟨rfl, .nil⟩ | cons _ _ => simp at h
      | cons p kvs ih =>
        intro ds h r
        cases ds with
        | nil => simp at h
        | cons q ds =>
          obtain ⟨i, x⟩ := p
          obtain ⟨j, y⟩ := q
          simp only [List.map_cons, List.cons.injEq] at h
          obtain ⟨rfl, h⟩ := h
          cases r with
          | cons r1 r2 =>
            obtain ⟨a, b⟩ := ih h r2
            by_cases e : i = k
            · simp only [List.map_cons, e, if_true]
              exact ⟨by rw [a], .cons rv b⟩
            · simp only [List.map_cons, e, if_false]
              exact ⟨by rw [a], .cons r1 b⟩
    exact m h r
  · simp only [List.map_append, h]
    exact ⟨rfl, r.append (.cons rv .nil)⟩
section
variable {F : Fx} {Y : Cx} {elt kx vx : Expr} {te tk tv : DT}
theorem dm_list (hx : ∀ e s, ¬ Y.xe e s) (h : DE F Y elt te) : DEmit F Y (fun acc env => do let _ ← call (.builtin "list.append") [acc, ← eval elt env]) HdL (fun ρ b Q => te ρ fun y => b.length < sizeLine ∧ Q (b ++ [y])) := by
  refine ⟨fun ρ b Q Q' k q => h.mono _ _ _ (fun d q => ⟨q.1, k _ q.2⟩) q, fun D => ⟨fun σ H Nx => rdE F Y.K te σ H fun y H2 => ∃ acc, H2 D = some (.lst acc) ∧ acc.length < sizeLine ∧ Nx (upd H2 D (.lst (acc ++ [y]))), ⟨fun pins s σ H Nx J q => ?_⟩, ?_⟩⟩
  · refine wpAny_bind (wpAny_mono (h.run.run pins s σ H _ J q) (fun u s2 ⟨y, H2, J2, ry, acc, hD, hz, nx⟩ => ?_) fun e s' z => (hx e s' z).elim)
    exact wpAny_bind (app_ok J2 hD hz ry fun s3 J3 => wpAny_pure ⟨_, J3, nx⟩)
  · rintro I H ρ σ o b Nx A d hD ⟨vs, rfl, r⟩ q
    refine rdE_next h.mono A q fun y v I2 H2 q2 s rv => ?_
    refine ⟨vs, s.h _ _ hD d.nm, by rw [r.length]; exact q2.1, q2.2 I2 _ _ ?_ upd_same (s.new _ _ hD d.ni) ⟨_, rfl, (r.mono s.i).append (.cons rv .nil)⟩⟩
    have n2 := s.new _ _ hD d.ni
    refine Stp.intro ?_
    have e : dropA (upd H2 D (.lst (vs ++ [v]))) D = dropA H2 D := by
      funext b
      unfold dropA
      split
      · rfl
      · rw [upd_ne (by assumption)]
    rw [e]
    exact s.dropL n2 d.nm
theorem drop_upd {H : Hp} {D : Addr} {o : HO} : dropA (upd H D o) D = dropA H D := by
  funext b
  unfold dropA
  split
  · rfl
  · rw [upd_ne (by assumption)]
theorem dm_dict (hx : ∀ e s, ¬ Y.xe e s) (hk : DE F Y kx tk) (hv : DE F Y vx tv) : DEmit F Y (fun acc env => do
    let kv ← eval kx env
    let vv ← holding [kv] (eval vx env)
    match acc with
    | .ref d => do
      standAt { kx.pos with endLine := vx.pos.endLine, endCol := vx.pos.endCol }
      holding [kv, vv] (dictSet d kv vv)
    | _ => unsupported "internal:dictcomp") HdK (fun ρ b Q => tk ρ fun y => tv ρ fun z => ∃ k, y = keyD k ∧ b.length < sizeLine ∧ Q (putD b k z)) := by
  refine ⟨fun ρ b Q Q' k q => hk.mono _ _ _ (fun d q => hv.mono _ _ _ (fun z ⟨k0, e, l, q⟩ => ⟨k0, e, l, k _ q⟩) q) q,
    fun D => ⟨fun σ H Nx => rdE F Y.K tk σ H fun y H2 => ∃ I2 ρ2, At F Y.K I2 ρ2 σ H2 ∧ tv ρ2 (fin F Y.K I2 H2 fun z H3 => ∃ kvs k, y = kV k ∧ H3 D = some (.dK kvs) ∧ kvs.length < sizeLine ∧ Nx (upd H3 D (.dK (putK kvs k z)))), ⟨fun pins s σ H Nx J q => ?_⟩, ?_⟩⟩
  · refine wpAny_bind (wpAny_mono (hk.run.run pins s σ H _ J q) (fun u s2 ⟨y, H2, J2, ry, q2⟩ => ?_) fun e s' z => (hx e s' z).elim)
    refine wpAny_bind (wpAny_holding (wpAny_mono (hv.run.run pins s2 σ H2 _ J2 q2) (fun u2 s3 ⟨z, H3, J3, rz, kvs, k, e, hD, hz, nx⟩ => ?_) fun e s' z => (hx e s' z).elim))
    subst e
    exact wpAny_bind (wpAny_standAt (wpAny_holding (d_dictSet J3 hD hz ry rz fun s4 J4 => ⟨_, J4, nx⟩)))
  · rintro I H ρ σ o b Nx A d hD ⟨kvs, rfl, kk, r⟩ q
    refine rdE_next hk.mono A q fun y v I2 H2 q2 s rv => ⟨I2, ρ, A.step s, hv.mono _ _ _ (fun z q3 v3 I3 H3 s3 rz => ?_) q2⟩
    obtain ⟨k0, rfl, l, q3⟩ := q3
    have st := s.trans s3
    have n3 := st.new _ _ hD d.ni
    have ll : kvs.length = b.length := by simpa using congrArg List.length kk
    obtain ⟨a1, a2⟩ := putD_rep (k := k0) rz kk (r.mono st.i)
    refine ⟨kvs, k0, keyD_rep rv, st.h _ _ hD d.nm, by omega, q3 I3 _ _ (Stp.intro ?_) upd_same n3 ⟨_, rfl, a1, a2⟩⟩
    rw [drop_upd]
    exact st.dropL n3 d.nm
end
/-! ### comprehensions as values -/
def rdN {β : Type} (F : Fx) (K : PySem.W.Frag) (Hd : HoldsD β) (D : Addr) (t : DNT β) : TN := fun σ H Nx => ∃ I ρ o b, At F K I ρ σ H ∧ InD F I H ρ σ D ∧ H D = some o ∧ Hd D K I o b ∧ t ρ b (finN F K Hd D I H Nx)
theorem DNest.nest {F : Fx} {Y : Cx} {e : Expr} {gens : List Comprehension} {emit : Value → Env → Sem Unit} {k : Nat} {vs : List Nat} {β : Type} {Hd : HoldsD β} {t : DNT β} (h : DNest F Y e gens emit k vs Hd t) (D : Addr) : Nest Y e gens (emit (.ref D) Y.env) k D vs (rdN F Y.K Hd D t) := by
  obtain ⟨T, h1, h2⟩ := h.run D
  exact ⟨fun pins s σ H Nx J ⟨I, ρ, o, b, A, d, hD, hb, q⟩ => h1.run pins s σ H Nx J (h2 I H ρ σ o b Nx A d hD hb q)⟩
theorem rdN_says {F : Fx} {K : PySem.W.Frag} {β : Type} {Hd : HoldsD β} {D : Addr} {t : DNT β} : NSays F K Hd D t (rdN F K Hd D t) := fun I H ρ σ o b Nx A d hD hb q => ⟨I, ρ, o, b, A, d, hD, hb, q⟩
section
variable {F : Fx} {X : Cx} {K : PySem.W.Frag} {e elt kx vx tg iter : Expr} {ifs : List Expr} {rest : List Comprehension} {emit : Value → Env → Sem Unit} {vs' js : List Nat} {β : Type} {Hd : HoldsD β} {t : DNT β} {ti : DAT} {g : DGT} {tc : DB} {scope : Scope} {own : List (Str × Nat)} {ob0 : Obj} {o0 : Addr → HO} {newAcc : Sem Value} {pos pos' spos : Pos}
/-- the reading of the whole -/
theorem cp_read {σ : L2.St} {H : Hp} {Q Q1 : VK} {b0 : β} {vs : List Nat} {fd : β → (D → Prop) → Prop} (Hmono : ∀ D K I I' o b, Same I I' → Hd D K I o b → Hd D K I' o b) (him : ∀ ρ (Q Q' : List D → Prop), (∀ d, Q d → Q' d) → ti ρ Q → ti ρ Q') (hgm : DG F X tg js g) (htm : ∀ ρ (Q Q' : Bool → Prop), (∀ d, Q d → Q' d) → tc ρ Q → tc ρ Q')
    (tm : ∀ ρ b (Q Q' : β → Prop), (∀ b, Q b → Q' b) → t ρ b Q → t ρ b Q') (hjs : ∀ j ∈ js, j ∈ vs) (h0 : ∀ D I, Hd D K I (o0 D) b0) (q : rdE F K (fun ρ Q => ti ρ fun ds => loopD g tc t (wipeD ρ vs) ds b0 fun b => fd b Q) σ H Q)
    (hfin : ∀ (D : Addr) (I H : Hp) (o : HO) (b : β), I D = none → ¬ F.W.mv D → H D = some o → Hd D K I o b → StI F.W I H → fd b (fun d => ∀ v I' H', Stp F.W I H I' H' ∨ (I' = upd I D o ∧ H' = H) → Rep K I' v d → Q v H') → Q1 (.ref D) H)
    (hfm : ∀ b (Q Q' : D → Prop), (∀ d, Q d → Q' d) → fd b Q → fd b Q') :
    tCp o0 (rdI F K ti) vs (rdG F K js g) (rdT F K tc) (fun D => rdN F K Hd D t) σ H Q1 := by
  obtain ⟨I, ρ, A, q⟩ := q
  refine ⟨I, ρ, A, him _ _ _ (fun ds q J I1 H1 s1 jr D hD => ?_) q⟩
  have A1 := A.step s1
  have m1 : ¬ F.W.mv D := fun m => F.W.live s1.st.inv m hD
  have n1 := s1.st.free hD
  have b1 : F.B D = none := by
    cases z : F.B D with
    | none => rfl
    | some u => have := A1.stp.h _ _ z m1; rw [hD] at this; cases this
  have ap := A1.apart hD
  have A2 := A1.write (o0 D) n1 m1 b1 ap
  have hn : H D = none := by
    cases z : H D with
    | none => rfl
    | some u => have := s1.h _ _ z m1; rw [hD] at this; cases this
  refine loop_run Hmono hgm htm tm rdN_says hjs ?_ A2 ⟨n1, m1, b1, ap⟩ upd_same (h0 D I1) (loopD.mono hgm.mono htm tm _ _ _ _ _ (fun b qb I2 H2 o2 s2 d2 n2 hb2 => ?_) q)
  · exact jr
  · have sd : dropA (upd H1 D (o0 D)) D = H1 := by
      rw [drop_upd]
      funext c
      unfold dropA
      split
      · rw [(by assumption : c = D), hD]
      · rfl
    rw [sd] at s2
    refine hfin D I2 H2 o2 b n2 m1 d2 hb2 s2.st (hfm _ _ _ (fun d qd v I' H' st rv => ?_) qb)
    rcases st with st | ⟨rfl, rfl⟩
    · exact qd v I' H' ((s1.trans s2).trans st) rv
    · exact qd v _ _ ((s1.trans s2).freeze n2 m1 hn d2) rv
theorem pe_cp {wi : TI} {gg : TG} {tt : TT} {T : Addr → TN} (hev : eval e X.env = comprehension e scope X.env pos' newAcc false (eval iter X.env)) (c : IsCp e (⟨tg, iter, ifs, 0⟩ :: rest) emit)
    (hnw : ∀ {A : Around} {E : Value → Shared → Prop} {Q : Value → Shared → Prop} {s : Shared}, Q (.ref s.heap.objs.size) { s with heap := s.heap.push ob0 } → wpAny (model X.prog X.w) A newAcc Q E s)
    (hob : ∀ (pins : List (Addr × Obj)) (σ : L2.St) (H : Hp) (s : Shared), Inv X pins σ H s → ObjOk X.prog X.w (upd H s.heap.objs.size (o0 s.heap.objs.size)) (s.heap.push ob0) s.heap.objs.size (o0 s.heap.objs.size))
    (hc : X.calm = true) (hN : X.N.Nodup) (hi : PI X tg iter wi) (ok : BlkOk X.N X.env.scope scope own) (hrest : ∀ g ∈ rest, g.is_async = 0) (hv : ∀ i ∈ vs', i ∈ own.map (·.2))
    (hg : ∀ (s : Shared) (H : Hp) (C : Addr) (cl : List (Str × Addr)) (fp : List Addr), PG (X.blk s H scope (compEnvC scope cl C X.env) fp) tg gg) (ht : ∀ (s : Shared) (H : Hp) (C : Addr) (cl : List (Str × Addr)) (fp : List Addr), PTs (X.blk s H scope (compEnvC scope cl C X.env) fp) ifs tt)
    (hb : ∀ (s : Shared) (H : Hp) (C : Addr) (cl : List (Str × Addr)) (fp : List Addr) (D : Addr), Nest (X.blk s H scope (compEnvC scope cl C X.env) fp) e (⟨tg, iter, ifs, 0⟩ :: rest) (emit (.ref D) (compEnvC scope cl C X.env)) 0 D vs' (T D))
    (hs : ∀ x, foldedSetIterable iter X.env x = pure x) : PE X e (tCp o0 wi (own.map (·.2)) gg tt T) := by
  refine ⟨fun pins s σ H Q I h => ?_⟩
  rw [hev]
  refine cp_core c hnw hob hc hN I hi ok hrest hv hg ht hb hs h fun D C s' m H' I' q hn f => ⟨m, hn, fun h'' sb => ?_⟩
  obtain ⟨f0, f1, f2, f3, f4, f5⟩ := f
  exact ⟨.ref D, H', I'.turned (t' := s'.toks) (fun b o hb e => (sb.2 b hb).trans e) f0 f1 f3 f4 f5, rfl, q⟩
theorem ps_setCp {wi : TI} {gg : TG} {tt : TT} {T : Addr → TN} {i : Nat} {y : Str} {py : Pos} (hev : evalThenUse e X.env (assign (.Name y py) X.env) = (do let _ ← comprehension e scope X.env pos' newAcc false (eval iter X.env) (some (assign (.Name y py) X.env)))) (c : IsCp e (⟨tg, iter, ifs, 0⟩ :: rest) emit)
    (hnw : ∀ {A : Around} {E : Value → Shared → Prop} {Q : Value → Shared → Prop} {s : Shared}, Q (.ref s.heap.objs.size) { s with heap := s.heap.push ob0 } → wpAny (model X.prog X.w) A newAcc Q E s)
    (hob : ∀ (pins : List (Addr × Obj)) (σ : L2.St) (H : Hp) (s : Shared), Inv X pins σ H s → ObjOk X.prog X.w (upd H s.heap.objs.size (o0 s.heap.objs.size)) (s.heap.push ob0) s.heap.objs.size (o0 s.heap.objs.size))
    (hc : X.calm = true) (hN : X.N.Nodup) (hy : X.N[i]? = some y) (hyl : X.env.scope.names.lookup y = some .local) (hsw : swapsWith e (some (.Name y py)) spos.line X.env = pure true)
    (hi : PI X tg iter wi) (ok : BlkOk X.N X.env.scope scope own) (hrest : ∀ g ∈ rest, g.is_async = 0) (hv : ∀ i ∈ vs', i ∈ own.map (·.2))
    (hg : ∀ (s : Shared) (H : Hp) (C : Addr) (cl : List (Str × Addr)) (fp : List Addr), PG (X.blk s H scope (compEnvC scope cl C X.env) fp) tg gg) (ht : ∀ (s : Shared) (H : Hp) (C : Addr) (cl : List (Str × Addr)) (fp : List Addr), PTs (X.blk s H scope (compEnvC scope cl C X.env) fp) ifs tt)
    (hb : ∀ (s : Shared) (H : Hp) (C : Addr) (cl : List (Str × Addr)) (fp : List Addr) (D : Addr), Nest (X.blk s H scope (compEnvC scope cl C X.env) fp) e (⟨tg, iter, ifs, 0⟩ :: rest) (emit (.ref D) (compEnvC scope cl C X.env)) 0 D vs' (T D))
    (hs : ∀ x, foldedSetIterable iter X.env x = pure x) : PS X (.Assign [.Name y py] e spos) (tAsg (tCp o0 wi (own.map (·.2)) gg tt T) (gName i)) := by
  refine ⟨fun pins s σ H Z I h => ?_⟩
  rw [exec_Assign_Name_used _ _ _ _ hsw, hev]
  refine wpAny_bind (wpAny_standAt (wpAny_bind ?_))
  have h : tCp o0 wi (own.map (·.2)) gg tt T σ H (fun x H1 => gName i x σ H1 Z.nx) := h
  refine wpAny_bind (thn (cp_core (Qf := fun _ s' => SP X pins Z .next s') c hnw hob hc hN I hi ok hrest hv hg ht hb hs h fun L C s' m H' I' q hn f => ?_) fun _ s' hq => wpAny_pure (wpAny_pure hq))
  show wpAny _ _ (assign (.Name y py) X.env (.ref L)) _ _ _
  refine wpAny_assign_Name (store_ok2 (v := V.ref L) I' hN hy (.inl hyl) rfl (fun s2 I2 ⟨a, sb, ha⟩ => ?_) (.inr hyl))
  obtain ⟨f0, f1, f2, f3, f4, f5⟩ := f
  have ne : C ≠ a := by
    rcases ha with z | z
    · rw [z]; exact f1
    · intro e; exact f4 y a z e.symm
  exact ⟨m, hn.sameBut sb ne, fun h3 sb3 => ⟨_, H', I2.turned (t' := s2.toks) (fun b o hb e => (sb3.2 b hb).trans e) f0 f1 f3 f4 f5, q⟩⟩
theorem nw_list {M : Model} {A : Around} {E : Value → Shared → Prop} {Q : Value → Shared → Prop} {s : Shared} (h : Q (.ref s.heap.objs.size) { s with heap := s.heap.push { cls := .type "list", data := .seq ([] : List Value).toArray } }) : wpAny M A (newList []) Q E s :=
  wpAny_newObj_type h (by show 0 ≤ sizeLine; decide)
theorem ob_list (pins : List (Addr × Obj)) (σ : L2.St) (H : Hp) (s : Shared) (I : Inv X pins σ H s) : ObjOk X.prog X.w (upd H s.heap.objs.size (.lst [])) (s.heap.push { cls := .type "list", data := .seq ([] : List Value).toArray }) s.heap.objs.size (.lst []) := ⟨Nat.zero_le _, [], 0, .nil, Heap.get?_push_size _ rfl⟩
theorem nw_dict {M : Model} {A : Around} {E : Value → Shared → Prop} {Q : Value → Shared → Prop} {s : Shared} (h : Q (.ref s.heap.objs.size) { s with heap := s.heap.push { cls := .type "dict", data := .dict #[] } }) : wpAny M A newDict Q E s :=
  wpAny_newObj_type h
theorem ob_dict (pins : List (Addr × Obj)) (σ : L2.St) (H : Hp) (s : Shared) (I : Inv X pins σ H s) : ObjOk X.prog X.w (upd H s.heap.objs.size (.dK [])) (s.heap.push { cls := .type "dict", data := .dict #[] }) s.heap.objs.size (.dK []) := dk_empty s.heap I.big
theorem rd_cpL {σ : L2.St} {H : Hp} {Q : VK} {vs : List Nat} {t : DNT (List D)} (him : ∀ ρ (Q Q' : List D → Prop), (∀ d, Q d → Q' d) → ti ρ Q → ti ρ Q') (hgm : DG F X tg js g) (htm : ∀ ρ (Q Q' : Bool → Prop), (∀ d, Q d → Q' d) → tc ρ Q → tc ρ Q') (tm : ∀ ρ b (Q Q' : List D → Prop), (∀ b, Q b → Q' b) → t ρ b Q → t ρ b Q')
    (hjs : ∀ j ∈ js, j ∈ vs) (q : rdE F K (fun ρ Q => ti ρ fun ds => loopD g tc t (wipeD ρ vs) ds [] fun ys => Q (.lst ys)) σ H Q) : tCp (fun _ => .lst []) (rdI F K ti) vs (rdG F K js g) (rdT F K tc) (fun D => rdN F K HdL D t) σ H Q :=
  cp_read (fd := fun ys Q => Q (.lst ys)) HdL.mono him hgm htm tm hjs (fun D I => ⟨[], rfl, .nil⟩) q (fun D I H o b n m hD hb st h => by
    obtain ⟨ws, rfl, r⟩ := hb
    exact h _ _ _ (.inr ⟨rfl, rfl⟩) (.lst upd_same (r.mono (Same.laid n)))) fun b Q Q' k h => k _ h
theorem rd_cpD {σ : L2.St} {H : Hp} {Q : VK} {vs : List Nat} {t : DNT (List (Key × D))} (him : ∀ ρ (Q Q' : List D → Prop), (∀ d, Q d → Q' d) → ti ρ Q → ti ρ Q') (hgm : DG F X tg js g) (htm : ∀ ρ (Q Q' : Bool → Prop), (∀ d, Q d → Q' d) → tc ρ Q → tc ρ Q') (tm : ∀ ρ b (Q Q' : List (Key × D) → Prop), (∀ b, Q b → Q' b) → t ρ b Q → t ρ b Q')
    (hjs : ∀ j ∈ js, j ∈ vs) (q : rdE F K (fun ρ Q => ti ρ fun ds => loopD g tc t (wipeD ρ vs) ds [] fun ys => Q (.dic ys)) σ H Q) : tCp (fun _ => .dK []) (rdI F K ti) vs (rdG F K js g) (rdT F K tc) (fun D => rdN F K HdK D t) σ H Q :=
  cp_read (fd := fun ys Q => Q (.dic ys)) HdK.mono him hgm htm tm hjs (fun D I => ⟨[], rfl, rfl, .nil⟩) q (fun D I H o b n m hD hb st h => by
    obtain ⟨ws, rfl, k, r⟩ := hb
    exact h _ _ _ (.inr ⟨rfl, rfl⟩) (.dic upd_same k (r.mono (Same.laid n)))) fun b Q Q' k h => k _ h
abbrev AllBlk (X : Cx) (scope : Scope) (p : Cx → Prop) : Prop := ∀ (s : Shared) (H : Hp) (C : Addr) (cl : List (Str × Addr)) (fp : List Addr), p (X.blk s H scope (compEnvC scope cl C X.env) fp)
theorem AllBlk.one {scope : Scope} {p : Cx → Prop} (h : AllBlk X scope p) : p (X.blk X.s_0 X.H_0 scope (compEnvC scope [] 0 X.env) []) := h _ _ _ _ _
/-- [.. for .. in .. ..] -/
theorem de_cpL {t : DNT (List D)} (hc : X.calm = true) (hN : X.N.Nodup) (hi : DI F X tg iter ti) (ok : BlkOk X.N X.env.scope scope own) (hg : AllBlk X scope fun Y => DG F Y tg js g) (ht : AllBlk X scope fun Y => DIfs F Y ifs tc)
    (hb : AllBlk X scope fun Y => DNest F Y (.ListComp elt (⟨tg, iter, ifs, 0⟩ :: rest) scope pos) (⟨tg, iter, ifs, 0⟩ :: rest) (fun acc env => do let _ ← call (.builtin "list.append") [acc, ← eval elt env]) 0 vs' HdL t)
    (hjs : ∀ j ∈ js ++ vs', j ∈ own.map (·.2) := by decide) (hrest : (rest.all fun g => g.is_async == 0) = true := by rfl) (hs : ∀ x, foldedSetIterable iter X.env x = pure x := by intro _; rfl) :
    DE F X (.ListComp elt (⟨tg, iter, ifs, 0⟩ :: rest) scope pos) (fun ρ Q => ti ρ fun ds => loopD g tc t (wipeD ρ (own.map (·.2))) ds [] fun ys => Q (.lst ys)) := by
  have hr : ∀ g ∈ rest, g.is_async = 0 := fun g h => by simpa using List.all_eq_true.mp hrest g h
  have g1 := hg.one
  have t1 := ht.one
  have b1 := hb.one
  refine ⟨fun ρ Q Q' k q => hi.mono _ _ _ (fun ds => loopD.mono g1.mono t1.mono b1.mono _ ds _ _ _ fun ys => k _) q, (pe_cp (o0 := fun _ => .lst []) (gg := rdG F X.K js g) (tt := rdT F X.K tc) (T := fun D => rdN F X.K HdL D t) rfl (cp_list _ _ _ _) nw_list ob_list hc hN hi.run ok hr (fun j hj => hjs j (List.mem_append_right _ hj)) (fun s H C cl fp => (hg s H C cl fp).run) (fun s H C cl fp => (ht s H C cl fp).run) (fun s H C cl fp D => (hb s H C cl fp).nest D) hs).imp fun σ H Q q => ?_⟩
  exact rd_cpL hi.mono g1 t1.mono b1.mono (fun j hj => hjs j (List.mem_append_left _ hj)) q
theorem ds_setCpL {t : DNT (List D)} {i : Nat} {y : Str} {py : Pos} (hc : X.calm = true) (hN : X.N.Nodup) (hy : X.N[i]? = some y) (hyl : X.env.scope.names.lookup y = some .local) (hsw : swapsWith (.ListComp elt (⟨tg, iter, ifs, 0⟩ :: rest) scope pos) (some (.Name y py)) spos.line X.env = pure true)
    (hi : DI F X tg iter ti) (ok : BlkOk X.N X.env.scope scope own) (hg : AllBlk X scope fun Y => DG F Y tg js g) (ht : AllBlk X scope fun Y => DIfs F Y ifs tc)
    (hb : AllBlk X scope fun Y => DNest F Y (.ListComp elt (⟨tg, iter, ifs, 0⟩ :: rest) scope pos) (⟨tg, iter, ifs, 0⟩ :: rest) (fun acc env => do let _ ← call (.builtin "list.append") [acc, ← eval elt env]) 0 vs' HdL t)
    (hjs : ∀ j ∈ js ++ vs', j ∈ own.map (·.2) := by decide) (hrest : (rest.all fun g => g.is_async == 0) = true := by rfl) (hs : ∀ x, foldedSetIterable iter X.env x = pure x := by intro _; rfl) :
    DSt F X (.Assign [.Name y py] (.ListComp elt (⟨tg, iter, ifs, 0⟩ :: rest) scope pos) spos) (fun Z ρ => ti ρ fun ds => loopD g tc t (wipeD ρ (own.map (·.2))) ds [] fun ys => Z.nx (ρ.set i (some (.dat (.lst ys))))) := by
  have hr : ∀ g ∈ rest, g.is_async = 0 := fun g h => by simpa using List.all_eq_true.mp hrest g h
  have g1 := hg.one
  have t1 := ht.one
  have b1 := hb.one
  refine ⟨fun Z Z' ρ l q => hi.mono _ _ _ (fun ds => loopD.mono g1.mono t1.mono b1.mono _ ds _ _ _ fun ys => l.nx _) q, (ps_setCp (o0 := fun _ => .lst []) (gg := rdG F X.K js g) (tt := rdT F X.K tc) (T := fun D => rdN F X.K HdL D t) rfl (cp_list _ _ _ _) nw_list ob_list hc hN hy hyl hsw hi.run ok hr (fun j hj => hjs j (List.mem_append_right _ hj)) (fun s H C cl fp => (hg s H C cl fp).run) (fun s H C cl fp => (ht s H C cl fp).run) (fun s H C cl fp D => (hb s H C cl fp).nest D) hs).imp fun Z σ H ⟨I, ρ, A, q⟩ => ?_⟩
  refine rd_cpL (Q := fun x H1 => gName i x σ H1 Z.nx) hi.mono g1 t1.mono b1.mono (fun j hj => hjs j (List.mem_append_left _ hj)) ⟨I, ρ, A, hi.mono _ _ _ (fun ds => loopD.mono g1.mono t1.mono b1.mono _ ds _ _ _ fun ys q v I' H' s rv => ?_) q⟩
  exact q I' _ H' s.i ((A.step s).set rv)
/-- {k: v for .. in .. ..} -/
theorem de_cpD {t : DNT (List (Key × D))} (hc : X.calm = true) (hN : X.N.Nodup) (hi : DI F X tg iter ti) (ok : BlkOk X.N X.env.scope scope own) (hg : AllBlk X scope fun Y => DG F Y tg js g) (ht : AllBlk X scope fun Y => DIfs F Y ifs tc)
    (hb : AllBlk X scope fun Y => DNest F Y (.DictComp kx vx (⟨tg, iter, ifs, 0⟩ :: rest) scope pos) (⟨tg, iter, ifs, 0⟩ :: rest) (fun acc env => do
      let kv ← eval kx env
      let vv ← holding [kv] (eval vx env)
      match acc with
      | .ref d => do
        standAt { kx.pos with endLine := vx.pos.endLine, endCol := vx.pos.endCol }
        holding [kv, vv] (dictSet d kv vv)
      | _ => unsupported "internal:dictcomp") 0 vs' HdK t)
    (hjs : ∀ j ∈ js ++ vs', j ∈ own.map (·.2) := by decide) (hrest : (rest.all fun g => g.is_async == 0) = true := by rfl) (hs : ∀ x, foldedSetIterable iter X.env x = pure x := by intro _; rfl) :
    DE F X (.DictComp kx vx (⟨tg, iter, ifs, 0⟩ :: rest) scope pos) (fun ρ Q => ti ρ fun ds => loopD g tc t (wipeD ρ (own.map (·.2))) ds [] fun ys => Q (.dic ys)) := by
  have hr : ∀ g ∈ rest, g.is_async = 0 := fun g h => by simpa using List.all_eq_true.mp hrest g h
  have g1 := hg.one
  have t1 := ht.one
  have b1 := hb.one
  refine ⟨fun ρ Q Q' k q => hi.mono _ _ _ (fun ds => loopD.mono g1.mono t1.mono b1.mono _ ds _ _ _ fun ys => k _) q, (pe_cp (o0 := fun _ => .dK []) (gg := rdG F X.K js g) (tt := rdT F X.K tc) (T := fun D => rdN F X.K HdK D t) rfl (cp_dict _ _ _ _ _) nw_dict ob_dict hc hN hi.run ok hr (fun j hj => hjs j (List.mem_append_right _ hj)) (fun s H C cl fp => (hg s H C cl fp).run) (fun s H C cl fp => (ht s H C cl fp).run) (fun s H C cl fp D => (hb s H C cl fp).nest D) hs).imp fun σ H Q q => ?_⟩
  exact rd_cpD hi.mono g1 t1.mono b1.mono (fun j hj => hjs j (List.mem_append_left _ hj)) q
end
end Dk

/-! len({x for ..}): how many unlike texts, numbers. -/
namespace Dk
open PySem L2
def hasK (ks : List Key) (j : Key) : Bool := ks.any fun x => decide (x = j)
def HdS (P : Program) (w : World) : HoldsD (List Key) := fun D _ _ o ks => o = SetK P w D (hasK ks) ks.length
theorem HdS.mono {P : Program} {w : World} : ∀ (D : Addr) (K : PySem.W.Frag) (I I' : Hp) (o : HO) (b : List Key), Same I I' → HdS P w D K I o b → HdS P w D K I' o b := fun D K I I' o b s h => h
def addK (ks : List Key) (k : Key) : List Key := if hasK ks k = true then ks else ks ++ [k]
theorem addK_mem {ks : List Key} {k : Key} : hasK (addK ks k) = fun j => hasK ks j || decide (j = k) := by
  funext j
  unfold addK
  split
  · by_cases h : j = k
    · subst h; simp; assumption
    · simp [h]
  · have e : decide (k = j) = decide (j = k) := decide_eq_decide.mpr ⟨Eq.symm, Eq.symm⟩
    simp [hasK, List.any_append, e]
theorem addK_len {ks : List Key} {k : Key} : (addK ks k).length = if hasK ks k = true then ks.length else ks.length + 1 := by
  unfold addK
  split <;> simp
section
variable {F : Fx} {X Y : Cx} {K : PySem.W.Frag} {elt tg iter : Expr} {ifs : List Expr} {rest : List Comprehension} {te : DT} {vs' js : List Nat} {t : DNT (List Key)} {ti : DAT} {g : DGT} {tc : DB} {scope : Scope} {own : List (Str × Nat)} {p pos pos2 : Pos}
theorem dm_set (hx : ∀ e s, ¬ Y.xe e s) (h : DE F Y elt te) : DEmit F Y (fun acc env => do let v ← eval elt env; standAt elt.pos; let _ ← call (.builtin "set.add") [acc, v]) (HdS Y.prog Y.w) (fun ρ b Q => te ρ fun y => ∃ k, y = keyD k ∧ b.length < 4000 ∧ Q (addK b k)) := by
  refine ⟨fun ρ b Q Q' k q => h.mono _ _ _ (fun d ⟨k0, e, l, q⟩ => ⟨k0, e, l, k _ q⟩) q, fun D => ⟨fun σ H Nx => rdE F Y.K te σ H fun y H2 => ∃ k S n, y = kV k ∧ H2 D = some (SetK Y.prog Y.w D S n) ∧ n + 1 < scanBound ∧ Nx (upd H2 D (SetK Y.prog Y.w D (fun j => S j || decide (j = k)) (if S k = true then n else n + 1))), ⟨fun pins s σ H Nx J q => ?_⟩, ?_⟩⟩
  · refine wpAny_bind (wpAny_mono (h.run.run pins s σ H _ J q) (fun u s2 ⟨y, H2, J2, ry, k, S, n, e, hD, room, nx⟩ => ?_) fun e s' z => (hx e s' z).elim)
    subst e
    refine wpAny_bind (wpAny_standAt (wpAny_bind (wpAny_mono (mt_saddK pins s2 σ H2 (.ref D) [kV k] (.ref D) [u] (fun _ H3 => Nx H3) J2 rfl (.cons ry .nil) ⟨D, k, S, n, rfl, rfl, hD, room, nx⟩) (fun _ s3 ⟨_, H3, J3, _, nx3⟩ => wpAny_pure ⟨H3, J3, nx3⟩) fun e s' z => (hx e s' z).elim)))
  · rintro I H ρ σ o b Nx A d hD rfl q
    refine rdE_next h.mono A q fun y v I2 H2 q2 s rv => ?_
    obtain ⟨k, rfl, l, q2⟩ := q2
    have n2 := s.new _ _ hD d.ni
    refine ⟨k, _, _, keyD_rep rv, s.h _ _ hD d.nm, by unfold scanBound; omega, q2 I2 _ _ (Stp.intro ?_) upd_same n2 ?_⟩
    · rw [drop_upd]; exact s.dropL n2 d.nm
    · show SetK _ _ _ _ _ = SetK _ _ _ _ _
      rw [addK_mem, addK_len]
theorem call_lenK : CallR X (.builtin "len") (fun xs H Q => ∃ a S n, xs = [.ref a] ∧ H a = some (SetK X.prog X.w a S n) ∧ Q (.int (n : Nat)) H) := by
  intro pins s σ H xs us Q J r h
  obtain ⟨a, S, n, rfl, ha, q⟩ := h
  obtain ⟨u, rfl, ru⟩ := vals1 r
  cases ru
  obtain ⟨o, es, ep, t, ho, hex, hd, _, _, hb, hf, rfl⟩ := setK_get J ha
  refine call_len_set ho hex hd hf ?_ ⟨.int _, H, J.tok _, ⟨_, rfl⟩, q⟩
  have : scanBound = 4096 := rfl
  omega
theorem ob_set (pins : List (Addr × Obj)) (σ : L2.St) (H : Hp) (s : Shared) (I : Inv X pins σ H s) : ObjOk X.prog X.w (upd H s.heap.objs.size (SetK X.prog X.w s.heap.objs.size (fun _ => false) 0)) (s.heap.push { cls := .type "set", dict := none, data := .set #[] 0 (.fresh 0 0 (!X.w.params.followText "set-order")) }) s.heap.objs.size (SetK X.prog X.w s.heap.objs.size (fun _ => false) 0) :=
  setK_new ⟨_, #[], 0, _, Heap.get?_push_size _ rfl, ⟨rfl, rfl, rfl⟩, rfl, (fun e he => by simp at he), (fun k => by simp), (by decide), (by rfl), rfl⟩
theorem nw_set {P : Program} {w : World} {A : Around} {E : Value → Shared → Prop} {Q : Value → Shared → Prop} {s : Shared} (h : Q (.ref s.heap.objs.size) { s with heap := s.heap.push { cls := .type "set", dict := none, data := .set #[] 0 (.fresh 0 0 (!w.params.followText "set-order")) } }) : wpAny (model P w) A (newSet (.type "set")) Q E s := PpSet.newSet_ok h
/-- len({.. for .. in ..}) -/
theorem de_lenSc (hm : X.mg "len" = none) (hc : X.calm = true) (hN : X.N.Nodup) (hi : DI F X tg iter ti) (ok : BlkOk X.N X.env.scope scope own) (hg : AllBlk X scope fun Y => DG F Y tg js g) (ht : AllBlk X scope fun Y => DIfs F Y ifs tc)
    (hb : AllBlk X scope fun Y => DNest F Y (.SetComp elt (⟨tg, iter, ifs, 0⟩ :: rest) scope pos) (⟨tg, iter, ifs, 0⟩ :: rest) (fun acc env => do let v ← eval elt env; standAt elt.pos; let _ ← call (.builtin "set.add") [acc, v]) 0 vs' (HdS Y.prog Y.w) t)
    (hgl : Gl X "len" := by rfl) (hjs : ∀ j ∈ js ++ vs', j ∈ own.map (·.2) := by decide) (hrest : (rest.all fun g => g.is_async == 0) = true := by rfl) (hs : ∀ x, foldedSetIterable iter X.env x = pure x := by intro _; rfl)
    (hst : starEach [Expr.SetComp elt (⟨tg, iter, ifs, 0⟩ :: rest) scope pos] X.env = (false, eval (.SetComp elt (⟨tg, iter, ifs, 0⟩ :: rest) scope pos) X.env) :: starEach [] X.env := by rfl) :
    DE F X (.Call (.Name "len" p) [.SetComp elt (⟨tg, iter, ifs, 0⟩ :: rest) scope pos] [] pos2) (fun ρ Q => ti ρ fun ds => loopD g tc t (wipeD ρ (own.map (·.2))) ds [] fun ks => Q (.int ks.length)) := by
  have hr : ∀ g ∈ rest, g.is_async = 0 := fun g h => by simpa using List.all_eq_true.mp hrest g h
  have g1 := hg.one
  have t1 := ht.one
  have b1 := hb.one
  refine ⟨fun ρ Q Q' k q => hi.mono _ _ _ (fun ds => loopD.mono g1.mono t1.mono b1.mono _ ds _ _ _ fun ys => k _) q, (pe_callB call_lenK hgl hm (by decide +kernel) (pa_cons (pe_cp (o0 := fun D => SetK X.prog X.w D (fun _ => false) 0) (gg := rdG F X.K js g) (tt := rdT F X.K tc) (T := fun D => rdN F X.K (HdS X.prog X.w) D t) rfl (cp_set _ _ _ _) nw_set ob_set hc hN hi.run ok hr (fun j hj => hjs j (List.mem_append_right _ hj)) (fun s H C cl fp => (hg s H C cl fp).run) (fun s H C cl fp => (ht s H C cl fp).run) (fun s H C cl fp D => (hb s H C cl fp).nest D) hs) pa_nil hst) (by decide) (by decide) hst rfl).imp fun σ H Q q => ?_⟩
  refine cp_read (b0 := ([] : List Key)) (Hd := HdS X.prog X.w) (o0 := fun D => SetK X.prog X.w D (fun _ => false) 0) (Q1 := fun v H1 => ∃ a S n, [v] = [V.ref a] ∧ H1 a = some (SetK X.prog X.w a S n) ∧ Q (.int (n : Nat)) H1) (fd := fun ks Q => Q (.int (ks.length : Nat))) HdS.mono hi.mono g1 t1.mono b1.mono (fun j hj => hjs j (List.mem_append_left _ hj)) (fun D I => rfl) q (fun D I H o b n m hD hb st h => ?_) fun b Q Q' k h => k _ h
  obtain rfl := hb
  exact ⟨D, _, _, rfl, hD, h _ _ _ (.inl st.stp) (.int _)⟩
end
end Dk

namespace Dk
open PySem L2
/-! ### -x, x in y, a < b < c, x is None -/
def negD : D → (D → Prop) → Prop
  | .int i, Q => Q (.int (-i))
  | _, _ => False
/-- is the text a a part of z -/
def subS (a z : Str) : Bool := !(Builtin.Str.occurrences z a 0 z.length 1).isEmpty
theorem subS_one (c : Nat) (z : Str) : subS ⟨#[c]⟩ z = decide (c ∈ z.cps.toList) := PySem.StrLaws.found_one z c
def flip (n b : Bool) : Bool := if n = true then !b else b
def inD (n : Bool) (x : D) (y : D) (Q : D → Prop) : Prop := match y with
  | .str z => ∃ a, x = .str a ∧ Q (.bl (flip n (subS a z)))
  | .lst ys => okE x = true ∧ okE (.lst ys) = true ∧ Q (.bl (flip n (ys.any fun z => deq z x)))
  | .tup ys => ∃ a, ∃ ss : List Str, x = .str a ∧ ys = ss.map D.str ∧ Q (.bl (flip n (ss.any fun s => s == a)))
  | .dic kvs => ∃ k, x = keyD k ∧ Q (.bl (flip n (lookD kvs k).isSome))
  | .dfz kvs => ∃ k, x = keyD k ∧ Q (.bl (flip n (lookD kvs k).isSome))
  | _ => False
theorem mono_in (n : Bool) : Mono2 (inD n) := by
  intro x y Q Q' k h
  cases y <;> first | exact h.elim | (obtain ⟨a, e, q⟩ := h; exact ⟨a, e, k _ q⟩) | (obtain ⟨a, e, e2, e3, q⟩ := h; exact ⟨a, e, e2, e3, k _ q⟩)
def RIn (K : PySem.W.Frag) (n : Bool) : R2 := fun x y H Q => (∃ i j, x = .str i ∧ y = .str j ∧ Q (.bl (flip n (subS i j))) H) ∨ (∃ d ds, Dp K H x d ∧ Dp K H y (.list ds) ∧ SeqAt.shaped d = true ∧ SeqAt.shaped (.list ds) = true ∧ Q (.bl (flip n (ds.any fun z => PyData.eqv z d))) H) ∨ rIn K n x y H Q ∨ ∃ a o, y = .ref a ∧ DGet H a x o ∧ Q (.bl (flip n o.isSome)) H
section
variable {F : Fx} {X : Cx} {K : PySem.W.Frag} {a b c : Expr} {ta tb tc : DT} {pos : Pos}
theorem or_in (hu : X.A.units + 66 < cLine) : OpR X (compareOp .In) (RIn X.K false) := by
  refine op_in_str.or ((op_inD (by omega)).or (op_in_seq.or ?_))
  intro pins s σ H x y v u Q J rx ry h
  obtain ⟨a, o, rfl, g, q⟩ := h
  cases ry
  exact d_in (by omega) J g rx fun s3 J3 => ⟨.bl o.isSome, H, J3, rfl, q⟩
theorem or_notin (hu : X.A.units + 66 < cLine) : OpR X (compareOp .NotIn) (RIn X.K true) := by
  refine op_notin_str.or ((op_notInD (by omega)).or (op_notIn_seq.or ?_))
  intro pins s σ H x y v u Q J rx ry h
  obtain ⟨a, o, rfl, g, q⟩ := h
  cases ry
  exact d_notIn (by omega) J g rx fun s3 J3 => ⟨.bl (!o.isSome), H, J3, rfl, q⟩
theorem toPys_map : ∀ ds : List D, toPys ds = ds.map toPy
  | [] => rfl
  | d :: ds => by simp only [toPys, List.map_cons, toPys_map ds]
theorem lf_in (n : Bool) : LiftR F K (RIn K n) (inD n) := by
  intro x y dx dy I H Q st rx ry h
  cases ry with
  | str z =>
    obtain ⟨a, rfl, q⟩ := h
    cases rx
    exact .inl ⟨_, _, rfl, rfl, q _ I H st.stp (.bl _)⟩
  | @lst p vs ys a r =>
    obtain ⟨ox, oy, q⟩ := h
    have q := q _ I H st.stp (.bl _)
    refine .inr (.inl ⟨toPy dx, ys.map toPy, rx.dp st.sub (okE_split ox).1, ?_, (okE_split ox).2, ?_, ?_⟩)
    · have := (Rep.lst a r).dp st.sub (okE_split oy).1
      unfold toPy at this
      rwa [toPys_map] at this
    · have := (okE_split oy).2
      unfold toPy at this
      rwa [toPys_map] at this
    · rw [List.any_map]
      exact q
  | @tup p vs ys a r =>
    obtain ⟨z, ss, rfl, rfl, q⟩ := h
    cases rx
    have q := q _ I H st.stp (.bl _)
    rw [r.strsV] at a
    refine .inr (.inr (.inl ⟨p, ss.map V.str, rfl, .inr (Same.seqT st.sub a), rfl, flat_strs ss, ?_⟩))
    have e : inV (.str z) (ss.map V.str) = ss.any fun s => s == z := by
      unfold inV
      rw [List.any_map]
      rfl
    rw [e]
    exact q
  | @dic p ws kvs a kk r =>
    obtain ⟨k, rfl, q⟩ := h
    have q := q _ I H st.stp (.bl _)
    refine .inr (.inr (.inr ⟨p, valV ws k, rfl, .inl ⟨ws, k, .of (st.sub _ _ a), keyD_rep rx, rfl⟩, ?_⟩))
    rcases lookD_rep (k := k) kk r with ⟨h1, h2⟩ | ⟨v, d, h1, h2, _⟩
    · rw [h1]; rw [h2] at q; exact q
    · rw [h1]; rw [h2] at q; exact q
  | @dfz p f ws kvs a kk r =>
    obtain ⟨k, rfl, q⟩ := h
    have q := q _ I H st.stp (.bl _)
    refine .inr (.inr (.inr ⟨p, valV ws k, rfl, .inl ⟨ws, k, .inr ⟨_, st.sub _ _ a⟩, keyD_rep rx, rfl⟩, ?_⟩))
    rcases lookD_rep (k := k) kk r with ⟨h1, h2⟩ | ⟨v, d, h1, h2, _⟩
    · rw [h1]; rw [h2] at q; exact q
    · rw [h1]; rw [h2] at q; exact q
  | _ => exact h.elim
theorem de_in (hu : X.A.units + 66 < cLine) (ha : DE F X a ta) (hb : DE F X b tb) (hm : behindInMarks .In b = false := by first | exact nomark _ | rfl) : DE F X (.Compare a [.In] [b] pos) (fun ρ Q => ta ρ fun x => tb ρ fun y => inD false x y Q) := de_cmp (mono_in _) (or_in hu) (lf_in _) ha hb hm
theorem de_notin (hu : X.A.units + 66 < cLine) (ha : DE F X a ta) (hb : DE F X b tb) (hm : behindInMarks .NotIn b = false := by first | exact nomark _ | rfl) : DE F X (.Compare a [.NotIn] [b] pos) (fun ρ Q => ta ρ fun x => tb ρ fun y => inD true x y Q) := de_cmp (mono_in _) (or_notin hu) (lf_in _) ha hb hm
theorem dt_in (hu : X.A.units + 66 < cLine) (ha : DE F X a ta) (hb : DE F X b tb) (hm : behindInMarks .In b = false := by first | exact nomark _ | rfl) : DTest F X (.Compare a [.In] [b] pos) (fun ρ Q => ta ρ fun x => tb ρ fun y => inD false x y fun z => boolD z Q) := dt_cmp (mono_in _) (or_in hu) (lf_in _) ha hb hm
theorem dt_notin (hu : X.A.units + 66 < cLine) (ha : DE F X a ta) (hb : DE F X b tb) (hm : behindInMarks .NotIn b = false := by first | exact nomark _ | rfl) : DTest F X (.Compare a [.NotIn] [b] pos) (fun ρ Q => ta ρ fun x => tb ρ fun y => inD true x y fun z => boolD z Q) := dt_cmp (mono_in _) (or_notin hu) (lf_in _) ha hb hm
theorem de_neg (ha : DE F X a ta) : DE F X (.UnaryOp .USub a pos) (fun ρ Q => ta ρ fun x => negD x Q) := by
  refine ⟨fun ρ Q Q' k q => ha.mono _ _ _ (fun d q => by cases d <;> first | exact q.elim | exact k _ q) q, (pe_un un_neg ha.run).imp fun σ H Q ⟨I, ρ, A, q⟩ => rdE_next ha.mono A q fun d v I1 H1 q1 s rv => ?_⟩
  cases rv with
  | int i => exact ⟨i, rfl, q1 _ _ _ s (.int _)⟩
  | _ => exact q1.elim
def isNon : D → Bool | .non => true | _ => false
theorem isNon_rep {K : PySem.W.Frag} {I : Hp} {v : V} {d : D} (r : Rep K I v d) : decide (v = .non) = isNon d := by cases r <;> rfl
theorem de_isN (ha : DE F X a ta) {k : Nat} {p : Pos} : DE F X (.Compare a [.Is] [.Constant .none k p] pos) (fun ρ Q => ta ρ fun x => Q (.bl (isNon x))) := by
  refine ⟨fun ρ Q Q' k q => ha.mono _ _ _ (fun d => k _) q, (pe_cmpR op_isN ha.run pe_non (by first | exact nomark _ | rfl)).imp fun σ H Q ⟨I, ρ, A, q⟩ => rdE_next ha.mono A q fun d v I1 H1 q1 s rv => ⟨rfl, ?_⟩⟩
  rw [isNon_rep rv]
  exact q1 _ _ _ s (.bl _)
theorem de_notN (ha : DE F X a ta) {k : Nat} {p : Pos} : DE F X (.Compare a [.IsNot] [.Constant .none k p] pos) (fun ρ Q => ta ρ fun x => Q (.bl (!isNon x))) := by
  refine ⟨fun ρ Q Q' k q => ha.mono _ _ _ (fun d => k _) q, (pe_cmpR op_notN ha.run pe_non (by first | exact nomark _ | rfl)).imp fun σ H Q ⟨I, ρ, A, q⟩ => rdE_next ha.mono A q fun d v I1 H1 q1 s rv => ⟨rfl, ?_⟩⟩
  rw [isNon_rep rv]
  exact q1 _ _ _ s (.bl _)
theorem dt_isN (ha : DE F X a ta) {k : Nat} {p : Pos} : DTest F X (.Compare a [.Is] [.Constant .none k p] pos) (fun ρ Q => ta ρ fun x => Q (isNon x)) := by
  refine ⟨fun ρ Q Q' k q => ha.mono _ _ _ (fun d => k _) q, (pt_cmpR op_isN ha.run pe_non (by first | exact nomark _ | rfl)).imp fun σ H Q ⟨I, ρ, A, q⟩ => rdE_next ha.mono A q fun d v I1 H1 q1 s rv => ⟨rfl, ?_⟩⟩
  rw [isNon_rep rv]
  exact ⟨_, rfl, q1 _ _ s⟩
theorem dt_notN (ha : DE F X a ta) {k : Nat} {p : Pos} : DTest F X (.Compare a [.IsNot] [.Constant .none k p] pos) (fun ρ Q => ta ρ fun x => Q (!isNon x)) := by
  refine ⟨fun ρ Q Q' k q => ha.mono _ _ _ (fun d => k _) q, (pt_cmpR op_notN ha.run pe_non (by first | exact nomark _ | rfl)).imp fun σ H Q ⟨I, ρ, A, q⟩ => rdE_next ha.mono A q fun d v I1 H1 q1 s rv => ⟨rfl, ?_⟩⟩
  rw [isNon_rep rv]
  exact ⟨_, rfl, q1 _ _ s⟩
theorem de_chain {op op' : CmpOp} {R R' : R2} {r r'} (h : Cmp X op R r) (h' : Cmp X op' R' r') (ha : DE F X a ta) (hb : DE F X b tb) (hc : DE F X c tc) (hm : lastMarks [op, op'] [b, c] = false := by with_unfolding_all rfl) :
    DE F X (.Compare a [op, op'] [b, c] pos) (fun ρ Q => ta ρ fun x => tb ρ fun y => r x y fun z => boolD z fun k => if k = true then tc ρ fun w => r' y w Q else Q (.bl false)) := by
  refine ⟨fun ρ Q Q' k q => ha.mono _ _ _ (fun x q => hb.mono _ _ _ (fun y q => h.mono _ _ _ _ (fun z q => q.mono fun b q => by
      cases b
      · exact k _ q
      · exact hc.mono _ _ _ (fun w => h'.mono _ _ _ _ k) q) q) q) q, (pe_chain h.op h'.op ha.run hb.run hc.run hm).imp fun σ H Q ⟨I, ρ, A, q⟩ => ?_⟩
  · refine rdE_next ha.mono A q fun x v I1 H1 q1 s1 rx => rdE_next hb.mono (A.step s1) q1 fun y u I2 H2 q2 s2 ry => ?_
    refine h.lf v u x y I2 H2 _ s2.st (rx.mono s2.i) ry (h.mono _ _ _ _ (fun z qz => ?_) q2)
    obtain ⟨k, rfl, qz⟩ := qz
    intro w I3 H3 s3 rw'
    cases rw'
    refine ⟨k, rfl, ?_⟩
    cases k
    · exact qz _ I3 H3 ((s1.trans s2).trans s3) (.bl false)
    · refine rdE_next hc.mono (((A.step s1).step s2).step s3) qz fun w u' I4 H4 q4 s4 rw' => ?_
      exact h'.lf u u' y w I4 H4 Q s4.st ((ry.mono s3.i).mono s4.i) rw' (h'.mono _ _ _ _ (fun z hz => hz.of (((s1.trans s2).trans s3).trans s4)) q4)
theorem dt_chain {op op' : CmpOp} {R R' : R2} {r r'} (h : Cmp X op R r) (h' : Cmp X op' R' r') (ha : DE F X a ta) (hb : DE F X b tb) (hc : DE F X c tc) (hm : lastMarks [op, op'] [b, c] = false := by with_unfolding_all rfl) :
    DTest F X (.Compare a [op, op'] [b, c] pos) (fun ρ Q => ta ρ fun x => tb ρ fun y => r x y fun z => boolD z fun k => if k = true then tc ρ fun w => r' y w fun z => boolD z Q else Q false) := by
  refine ⟨fun ρ Q Q' k q => ha.mono _ _ _ (fun x q => hb.mono _ _ _ (fun y q => h.mono _ _ _ _ (fun z q => q.mono fun b q => by
      cases b
      · exact k _ q
      · exact hc.mono _ _ _ (fun w => h'.mono _ _ _ _ fun z => boolD.mono k) q) q) q) q, (pt_chain h.op h'.op ha.run hb.run hc.run hm).imp fun σ H Q ⟨I, ρ, A, q⟩ => ?_⟩
  · refine rdE_next ha.mono A q fun x v I1 H1 q1 s1 rx => rdE_next hb.mono (A.step s1) q1 fun y u I2 H2 q2 s2 ry => ?_
    refine h.lf v u x y I2 H2 _ s2.st (rx.mono s2.i) ry (h.mono _ _ _ _ (fun z qz => ?_) q2)
    obtain ⟨k, rfl, qz⟩ := qz
    intro w I3 H3 s3 rw'
    cases rw'
    refine ⟨k, rfl, ?_⟩
    cases k
    · exact ⟨false, rfl, qz I3 H3 ((s1.trans s2).trans s3)⟩
    · refine rdE_next hc.mono (((A.step s1).step s2).step s3) qz fun w u' I4 H4 q4 s4 rw' => ?_
      refine h'.lf u u' y w I4 H4 _ s4.st ((ry.mono s3.i).mono s4.i) rw' (h'.mono _ _ _ _ (fun z hz => ?_) q4)
      obtain ⟨b, rfl, qb⟩ := hz
      intro w2 I5 H5 s5 r5
      cases r5
      exact ⟨b, rfl, qb I5 H5 ((((s1.trans s2).trans s3).trans s4).trans s5)⟩
end
end Dk

namespace Dk
open PySem L2
/-! ### expressions that turn what is own: x.pop() -/
abbrev DTS2 := DEnv → (D → DEnv → Prop) → Prop
abbrev DATS := DEnv → (List D → DEnv → Prop) → Prop
def rdES (F : Fx) (K : PySem.W.Frag) (t : DTS2) : TE := fun σ H Q => ∃ I ρ, At F K I ρ σ H ∧ t ρ fun d ρ' => ∀ v I' H', Same I I' → At F K I' ρ' σ H' → Rep K I' v d → Q v H'
def rdAS (F : Fx) (K : PySem.W.Frag) (t : DATS) : TA := fun σ H Q => ∃ I ρ, At F K I ρ σ H ∧ t ρ fun ds ρ' => ∀ vs I' H', Same I I' → At F K I' ρ' σ H' → Reps K I' vs ds → Q vs H'
structure DES (F : Fx) (X : Cx) (e : Expr) (t : DTS2) : Prop where
  mono : ∀ ρ (Q Q' : D → DEnv → Prop), (∀ d ρ, Q d ρ → Q' d ρ) → t ρ Q → t ρ Q'
  run : PE X e (rdES F X.K t)
structure DAS (F : Fx) (X : Cx) (es : List Expr) (t : DATS) : Prop where
  mono : ∀ ρ (Q Q' : List D → DEnv → Prop), (∀ d ρ, Q d ρ → Q' d ρ) → t ρ Q → t ρ Q'
  run : PA X es (rdAS F X.K t)
section
variable {F : Fx} {X : Cx} {K : PySem.W.Frag} {I H I' H' : Hp} {ρ : DEnv} {σ : St} {e : Expr} {es : List Expr} {te : DT} {ts : DTS2} {ta : DATS} {x : Str} {p1 p2 p3 pos pos' : Pos}
theorem des_of (h : DE F X e te) : DES F X e (fun ρ Q => te ρ fun d => Q d ρ) :=
  ⟨fun ρ Q Q' k q => h.mono _ _ _ (fun d => k d ρ) q, h.run.imp fun σ H Q ⟨I, ρ, A, q⟩ => rdE_next h.mono A q fun d v I' H' p s rv => p v I' H' s.i (A.step s) rv⟩
theorem des_pop (i : Nat) (hN : X.N[i]? = some x := by rfl) (hv : Vis X.env.scope x := by first | exact Or.inl rfl | exact Or.inr (Or.inl rfl) | exact Or.inr (Or.inr rfl)) (hd : (x == ("__debug__" : Str)) = false := by decide) (hcd : (x == ("__classdict__" : Str)) = false := by decide)
    (hbase : attributeBase (.Name x p1) "pop" X.env (eval (.Name x p1) X.env) = eval (.Name x p1) X.env := by rfl) (hline : (p2.endLine == p3.line) = true := by rfl) :
    DES F X (.Call (.Attribute (.Name x p1) "pop" p2) [] [] p3) (fun ρ Q => ∃ xs d, ρ[i]? = some (some (.own (xs ++ [d]))) ∧ Q d (ρ.set i (some (.own xs)))) := by
  refine ⟨fun ρ Q Q' k ⟨xs, d, e, q⟩ => ⟨xs, d, e, k _ _ q⟩, (pe_bm0 PySem.F.plainAttrs_list PySem.F.slot_list_pop PySem.F.type_list_pop mt_pop (pv i hN hv hd hcd) hbase hline).imp fun σ H Q ⟨I, ρ, A, xs, d, hx, q⟩ => ?_⟩
  obtain ⟨p, o, h1, w, turn⟩ := A.turnOwn hx trivial
  obtain ⟨vs, rfl, r⟩ := w.rep
  have hl := r.length
  have hn : vs ≠ [] := by rintro rfl; simp at hl
  obtain ⟨us, u, rfl⟩ : ∃ us u, vs = us ++ [u] := ⟨_, _, (List.dropLast_concat_getLast hn).symm⟩
  have hl2 : us.length = xs.length := by simpa using hl
  have r1 : Reps X.K I us xs := by
    have := r.take us.length
    rwa [List.take_left' rfl, List.take_left' hl2.symm] at this
  have r2 : Rep X.K I u d := by
    have := r.drop us.length
    rw [List.drop_left' rfl, List.drop_left' hl2.symm] at this
    cases this with
    | cons a b => exact a
  refine ⟨_, h1, .inl ⟨rfl, _, .of w.hp⟩, p, _, u, rfl, rfl, w.hp, by simp, ?_⟩
  rw [List.dropLast_concat]
  exact q u I _ (Same.refl I) (turn _ _ ⟨us, rfl, r1⟩ (by intro _ h; cases h)) r2
theorem das_nil : DAS F X [] (fun ρ Q => Q [] ρ) := ⟨fun ρ Q Q' k q => k _ _ q, pa_nil.imp fun σ H Q ⟨I, ρ, A, q⟩ => q [] I H (Same.refl I) A .nil⟩
theorem das_cons (h : DES F X e ts) (h' : DAS F X es ta) (hs : starEach (e :: es) X.env = (false, eval e X.env) :: starEach es X.env := by rfl) : DAS F X (e :: es) (fun ρ Q => ts ρ fun d ρ1 => ta ρ1 fun ds ρ2 => Q (d :: ds) ρ2) := by
  refine ⟨fun ρ Q Q' k q => h.mono _ _ _ (fun d ρ1 q => h'.mono _ _ _ (fun ds ρ2 => k _ _) q) q, (pa_cons h.run h'.run hs).imp fun σ H Q ⟨I, ρ, A, q⟩ => ?_⟩
  refine ⟨I, ρ, A, h.mono _ _ _ (fun d ρ1 q v I1 H1 s1 A1 rv => ?_) q⟩
  exact ⟨I1, ρ1, A1, h'.mono _ _ _ (fun ds ρ2 q vs I2 H2 s2 A2 rs => q (v :: vs) I2 H2 (Same.trans s1 s2) A2 (.cons (rv.mono s2) rs)) q⟩
theorem des_tup {k : Nat} (h : DAS F X es ta) : DES F X (.Tuple es k pos) (fun ρ Q => ta ρ fun ds ρ' => ds.length ≤ sizeLine ∧ Q (.tup ds) ρ') := by
  refine ⟨fun ρ Q Q' k q => h.mono _ _ _ (fun d ρ q => ⟨q.1, k _ _ q.2⟩) q, (pe_tup h.run).imp fun σ H Q ⟨I, ρ, A, q⟩ => ⟨I, ρ, A, h.mono _ _ _ (fun ds ρ' q vs I' H' s A' rs => ⟨rs.length ▸ q.1, fun a ha => ?_⟩) q⟩⟩
  have l := A'.st.laid ha (.tup vs)
  exact q.2 _ _ _ (Same.trans s l.i) (A'.step l) (.tup (.of upd_same) (rs.mono l.i))
theorem des_lst (h : DAS F X es ta) : DES F X (.List es pos) (fun ρ Q => ta ρ fun ds ρ' => ds.length ≤ sizeLine ∧ Q (.lst ds) ρ') := by
  refine ⟨fun ρ Q Q' k q => h.mono _ _ _ (fun d ρ q => ⟨q.1, k _ _ q.2⟩) q, (pe_lst h.run).imp fun σ H Q ⟨I, ρ, A, q⟩ => ⟨I, ρ, A, h.mono _ _ _ (fun ds ρ' q vs I' H' s A' rs => ⟨rs.length ▸ q.1, fun a ha => ?_⟩) q⟩⟩
  have l := A'.st.laid ha (.lst vs)
  exact q.2 _ _ _ (Same.trans s l.i) (A'.step l) (.lst upd_same (rs.mono l.i))
/-- x = e -/
theorem ds_setS (i : Nat) (he : DES F X e ts) (hN : X.N.Nodup) (hi : X.N[i]? = some x := by rfl) (hx : Loc X.env.scope x := by first | exact Or.inl rfl | exact Or.inr rfl) (hs : swapsWith e (some (.Name x pos')) pos.line X.env = pure false := by rfl)
    (hf : X.fn x = true ∨ X.env.scope.names.lookup x = some .local := by first | exact .inl rfl | exact .inr rfl | assumption) : DSt F X (.Assign [.Name x pos'] e pos) (fun Z ρ => ts ρ fun d ρ' => Z.nx (ρ'.set i (some (.dat d)))) := by
  refine ⟨fun Z Z' ρ l q => he.mono _ _ _ (fun d ρ q => l.nx _ q) q, (ps_set hN hi hx he.run hs hf).imp fun Z σ H ⟨I, ρ, A, q⟩ => ⟨I, ρ, A, he.mono _ _ _ (fun d ρ' q v I' H' s A' rv => ?_) q⟩⟩
  exact q I' _ H' s (A'.set rv)
/-- x = [..] of our own -/
theorem ds_ownS {p2 : Pos} (i : Nat) (ha : DAS F X es ta) (hN : X.N.Nodup) (hi : X.N[i]? = some x := by rfl) (hx : Loc X.env.scope x := by first | exact Or.inl rfl | exact Or.inr rfl) (hs : swapsWith (.List es p2) (some (.Name x pos')) pos.line X.env = pure false := by rfl)
    (hf : X.fn x = true ∨ X.env.scope.names.lookup x = some .local := by first | exact .inl rfl | exact .inr rfl | assumption) : DSt F X (.Assign [.Name x pos'] (.List es p2) pos) (fun Z ρ => ta ρ fun ds ρ' => ds.length ≤ sizeLine ∧ Z.nx (ρ'.set i (some (.own ds)))) := by
  refine ⟨fun Z Z' ρ l q => ha.mono _ _ _ (fun d ρ q => ⟨q.1, l.nx _ q.2⟩) q, (ps_set hN hi hx (pe_lst ha.run) hs hf).imp fun Z σ H ⟨I, ρ, A, q⟩ => ⟨I, ρ, A, ha.mono _ _ _ (fun ds ρ' q vs I' H' s A' rs => ⟨rs.length ▸ q.1, fun a hz => ?_⟩) q⟩⟩
  exact q.2 I' _ _ s (A'.newOwn hz ⟨_, rfl, rs⟩)
/-- x.append(e) -/
theorem ds_appendS (i : Nat) (he : DES F X e ts) (hN : X.N[i]? = some x := by rfl) (hv : Vis X.env.scope x := by first | exact Or.inl rfl | exact Or.inr (Or.inl rfl) | exact Or.inr (Or.inr rfl)) (hd : (x == ("__debug__" : Str)) = false := by decide)
    (hcd : (x == ("__classdict__" : Str)) = false := by decide) (hsw : swapsWith (.Call (.Attribute (.Name x p1) "append" p2) [e] [] p3) none pos.line X.env = pure false := by rfl) (hbase : attributeBase (.Name x p1) "append" X.env (eval (.Name x p1) X.env) = eval (.Name x p1) X.env := by rfl)
    (hfew : ((backTo p3 (starEach [e] X.env)).all (fun x => !x.1) && (backToKw p3 (keywordEach [] X.env)).all (fun x => x.1.isSome) && decide ([e].length + ([] : List Keyword).length + (if ([] : List Keyword).isEmpty then 0 else 1) < 30)) = true := by rfl)
    (hline : (p2.endLine == p3.line) = true := by rfl) (hst : starEach [e] X.env = (false, eval e X.env) :: starEach [] X.env := by rfl) (hpl : (backTo p3 (starEach [] X.env)).any (·.1) = false := by rfl) :
    DSt F X (.Expr (.Call (.Attribute (.Name x p1) "append" p2) [e] [] p3) pos) (fun Z ρ => ∃ xs, ρ[i]? = some (some (.own xs)) ∧ ts ρ fun d ρ' => ∃ ys, ρ'[i]? = some (some (.own ys)) ∧ ys.length < sizeLine ∧ Z.nx (ρ'.set i (some (.own (ys ++ [d]))))) := by
  refine ⟨fun Z Z' ρ l ⟨xs, h, q⟩ => ⟨xs, h, he.mono _ _ _ (fun d ρ ⟨ys, h, q⟩ => ⟨ys, h, q.1, l.nx _ q.2⟩) q⟩,
    (ps_expr (pe_bm PySem.F.plainAttrs_list PySem.F.slot_list_append PySem.F.type_list_append mt_append (pv i hN hv hd hcd) (pa_cons he.run pa_nil hst) hbase hfew hline hst hpl) hsw).imp fun Z σ H ⟨I, ρ, A, q⟩ => ?_⟩
  obtain ⟨xs, hx, q⟩ := q
  obtain ⟨p, o, h1, w, _⟩ := A.turnOwn hx trivial
  obtain ⟨vs, rfl, _⟩ := w.rep
  refine ⟨_, h1, .inl ⟨rfl, vs, .of w.hp⟩, I, ρ, A, he.mono _ _ _ (fun d ρ' q' v I' H' s A' rv => ?_) q⟩
  obtain ⟨ys, hy, hl, q'⟩ := q'
  obtain ⟨p', o', h1', w', turn⟩ := A'.turnOwn hy trivial
  obtain ⟨ws, rfl, r⟩ := w'.rep
  rw [h1] at h1'
  cases h1'
  exact ⟨p, ws, v, rfl, rfl, w'.hp, by rw [r.length]; exact hl, q' I' σ _ s (turn _ _ ⟨_, rfl, r.append (.cons rv .nil)⟩ (by intro _ h; cases h))⟩
end
end Dk

namespace Dk
open PySem L2
/-! ### dicts of our own -/
section
variable {F : Fx} {X : Cx} {K : PySem.W.Frag} {I H I' H' : Hp} {ρ : DEnv} {σ : St} {e i : Expr} {te ti : DT} {x : Str} {p1 p2 pos pos' : Pos}
/-- x = {} -/
theorem ds_ownD (i : Nat) (hN : X.N.Nodup) (hi : X.N[i]? = some x := by rfl) (hx : Loc X.env.scope x := by first | exact Or.inl rfl | exact Or.inr rfl) (hs : swapsWith (.Dict [] [] p2) (some (.Name x pos')) pos.line X.env = pure false := by rfl)
    (hf : X.fn x = true ∨ X.env.scope.names.lookup x = some .local := by first | exact .inl rfl | exact .inr rfl | assumption) : DSt F X (.Assign [.Name x pos'] (.Dict [] [] p2) pos) (fun Z ρ => Z.nx (ρ.set i (some (.ownD [])))) := by
  refine ⟨fun Z Z' ρ l q => l.nx _ q, (ps_set hN hi hx pe_dnewK hs hf).imp fun Z σ H ⟨I, ρ, A, q⟩ a hz => ?_⟩
  exact q I _ _ (Same.refl I) (A.newOwn hz ⟨[], rfl, rfl, .nil⟩)
/-- x[k] = e -/
theorem ds_dput (j : Nat) (hu : X.A.units + 64 < cLine) (hk : DE F X i ti) (he : DE F X e te) (hN : X.N[j]? = some x := by rfl) (hv : Vis X.env.scope x := by first | exact Or.inl rfl | exact Or.inr (Or.inl rfl) | exact Or.inr (Or.inr rfl)) (hd : (x == ("__debug__" : Str)) = false := by decide)
    (hcd : (x == ("__classdict__" : Str)) = false := by decide) (hs : swapsWith e (some (.Subscript (.Name x p1) i pos')) pos.line X.env = pure false := by rfl) :
    DSt F X (.Assign [.Subscript (.Name x p1) i pos'] e pos) (fun Z ρ => te ρ fun d => ∃ kvs, ρ[j]? = some (some (.ownD kvs)) ∧ ti ρ fun y => ∃ k, y = keyD k ∧ kvs.length < sizeLine ∧ Z.nx (ρ.set j (some (.ownD (putD kvs k d))))) := by
  refine ⟨fun Z Z' ρ l q => he.mono _ _ _ (fun d ⟨kvs, h, q⟩ => ⟨kvs, h, hk.mono _ _ _ (fun y ⟨k, e, l', q⟩ => ⟨k, e, l', l.nx _ q⟩) q⟩) q, (ps_dput (by omega) (pv j hN hv hd hcd) hk.run he.run hs).imp fun Z σ H ⟨I, ρ, A, q⟩ => ?_⟩
  refine rdE_next he.mono A q fun d v I1 H1 q1 s1 rv => ?_
  obtain ⟨kvs, hx, q1⟩ := q1
  have A1 := A.step s1
  obtain ⟨p, o, h1, w, _⟩ := A1.turnOwn hx trivial
  obtain ⟨ws, rfl, _, _⟩ := w.rep
  refine ⟨_, h1, rdE_next hk.mono A1 q1 fun y u I2 H2 q2 s2 ry => ?_⟩
  obtain ⟨k, rfl, hl, q2⟩ := q2
  have A2 := A1.step s2
  obtain ⟨p', o', h1', w', turn⟩ := A2.turnOwn hx trivial
  obtain ⟨us, rfl, kk, r⟩ := w'.rep
  rw [h1] at h1'
  cases h1'
  obtain ⟨a1, a2⟩ := putD_rep (k := k) (rv.mono s2.i) kk r
  have ll : us.length = kvs.length := by simpa using congrArg List.length kk
  refine ⟨p, _, rfl, .inl ⟨us, k, w'.hp, keyD_rep ry, by omega, rfl⟩, q2 I2 σ _ (Same.trans s1.i s2.i) (turn _ _ ⟨_, rfl, a1, a2⟩ (by intro _ h; cases h))⟩
end

/-! ### a, *b = e -/
section
variable {prog : Program} {w : World} {A : Around} {E : Value → Shared → Prop} {s : Shared}
theorem star_L {l : Addr} {items : Array Value} {i : Nat} {Q : List Value → Shared → Prop} (hl : s.heap.IsList l items) (hh : A.handled = none) (hi : i ≤ items.size) (hz : items.size ≤ 16384)
    (h : ∀ (h2 : Heap) (tk : Nat), (∀ b o, s.heap.get? b = some o → h2.get? b = some o) → Q (items.toList.take i ++ [.ref h2.objs.size]) { s with heap := h2.push { cls := .type "list", data := .seq (items.toList.drop i).toArray }, toks := tk }) :
    wpAny (model prog w) A (unpackItems (.ref l) (i + 1) (some i)) Q E s := by
  have hlt : l ≠ s.heap.objs.size := by obtain ⟨o, ho, _⟩ := hl; exact Nat.ne_of_lt (Heap.lt_size ho)
  unfold unpackItems
  refine wpAny_bind ?_
  unfold notIterableAtAll
  refine wpAny_bind (wpAny_specialOf hl.typeIs PySem.F.slot_list_iter.lookup (wpAny_pure ?_))
  simp only [Bool.false_eq_true, if_false]
  refine wpAny_bind (wpAny_holding (wpAny_pyIter_list hl ?_))
  refine wpAny_bind (wpAny_holding (PySem.W.kun_draw hlt i 0 _ _ ⟨_, Heap.get?_push_size _ rfl, rfl, rfl⟩ (hl.push _) (by omega) fun h1 it1 sb => ?_))
  have hl1 : h1.IsList l items := (hl.push _).extBut sb.extBut hlt
  rw [Nat.zero_add] at it1
  obtain ⟨oi, hoi, _⟩ := id it1
  obtain ⟨ol, hol, _⟩ := id hl1
  rw [List.drop_zero]
  have hf : (items.toList.take i).length = i := by rw [List.length_take, Array.length_toList]; omega
  rw [if_neg (show ¬ ((items.toList.take i).length < i) by rw [hf]; omega)]
  refine wpAny_bind (wpAny_holding (PySem.W.kun_collect (s := { s with heap := h1 }) (T := "list_iterator") (.inr (.inr (.inl rfl))) (Walks.list (A := A.in1) hh s.heap.objs.size l hlt items) (fun j u st => st.1.typeIs) (k := i) hi ⟨it1, hl1⟩ (Heap.lt_size hoi) (Heap.lt_size hol) (fun h2 tk hk => ?_) (by rw [sizeLine_eq]; omega)))
  have e0 : i + 1 - 1 - i = 0 := by omega
  show wpAny _ _ (if (items.toList.drop i).length < i + 1 - 1 - i then _ else _) _ _ _
  rw [e0, if_neg (Nat.not_lt_zero _)]
  show wpAny _ _ (newList ((items.toList.drop i).take ((items.toList.drop i).length - 0)) >>= fun d => pure (items.toList.take i ++ [d] ++ (items.toList.drop i).drop ((items.toList.drop i).length - 0))) _ _ _
  rw [Nat.sub_zero, List.take_length, List.drop_length, ]
  have keep : ∀ b o, s.heap.get? b = some o → h2.get? b = some o := fun b o e => by
    have hb : b ≠ s.heap.objs.size := Nat.ne_of_lt (Heap.lt_size e)
    exact hk b o hb (sb.extBut b o hb (Heap.get?_push_of_some _ e))
  refine wpAny_bind (wpAny_newObj_type (wpAny_pure ?_) (by show (items.toList.drop i).length ≤ sizeLine; rw [List.length_drop, Array.length_toList, sizeLine_eq]; omega))
  rw [List.append_nil]
  exact h h2 tk keep
theorem star_T {l : Addr} {items : Array Value} {i : Nat} {Q : List Value → Shared → Prop} (hl : PyProof.Rows.IsTup s.heap l items) (hh : A.handled = none) (hi : i ≤ items.size) (hz : items.size ≤ 16384)
    (h : ∀ (h2 : Heap) (tk : Nat), (∀ b o, s.heap.get? b = some o → h2.get? b = some o) → Q (items.toList.take i ++ [.ref h2.objs.size]) { s with heap := h2.push { cls := .type "list", data := .seq (items.toList.drop i).toArray }, toks := tk }) :
    wpAny (model prog w) A (unpackItems (.ref l) (i + 1) (some i)) Q E s := by
  have hlt : l ≠ s.heap.objs.size := by obtain ⟨o, ho, _⟩ := hl; exact Nat.ne_of_lt (Heap.lt_size ho)
  unfold unpackItems
  refine wpAny_bind ?_
  unfold notIterableAtAll
  refine wpAny_bind (wpAny_specialOf hl.typeIs PySem.F.slot_tuple_iter.lookup (wpAny_pure ?_))
  simp only [Bool.false_eq_true, if_false]
  refine wpAny_bind (wpAny_holding (PyProof.Rows.iter_tuple hl ?_))
  refine wpAny_bind (wpAny_holding (PyProof.Rows.draw_tuple hlt i 0 _ _ ⟨_, Heap.get?_push_size _ rfl, rfl, rfl⟩ (hl.push _) (by omega) fun h1 it1 sb => ?_))
  have hl1 : PyProof.Rows.IsTup h1 l items := (hl.push _).extBut sb.extBut hlt
  rw [Nat.zero_add] at it1
  obtain ⟨oi, hoi, _⟩ := id it1
  obtain ⟨ol, hol, _⟩ := id hl1
  rw [List.drop_zero]
  have hf : (items.toList.take i).length = i := by rw [List.length_take, Array.length_toList]; omega
  rw [if_neg (show ¬ ((items.toList.take i).length < i) by rw [hf]; omega)]
  refine wpAny_bind (wpAny_holding (PySem.W.kun_collect (s := { s with heap := h1 }) (T := "tuple_iterator") (.inr (.inr (.inr rfl))) (Walks.tuple (A := A.in1) hh s.heap.objs.size l hlt items) (fun j u st => st.1.typeIs) (k := i) hi ⟨it1, hl1⟩ (Heap.lt_size hoi) (Heap.lt_size hol) (fun h2 tk hk => ?_) (by rw [sizeLine_eq]; omega)))
  have e0 : i + 1 - 1 - i = 0 := by omega
  show wpAny _ _ (if (items.toList.drop i).length < i + 1 - 1 - i then _ else _) _ _ _
  rw [e0, if_neg (Nat.not_lt_zero _)]
  show wpAny _ _ (newList ((items.toList.drop i).take ((items.toList.drop i).length - 0)) >>= fun d => pure (items.toList.take i ++ [d] ++ (items.toList.drop i).drop ((items.toList.drop i).length - 0))) _ _ _
  rw [Nat.sub_zero, List.take_length, List.drop_length]
  have keep : ∀ b o, s.heap.get? b = some o → h2.get? b = some o := fun b o e => by
    have hb : b ≠ s.heap.objs.size := Nat.ne_of_lt (Heap.lt_size e)
    exact hk b o hb (sb.extBut b o hb (Heap.get?_push_of_some _ e))
  refine wpAny_bind (wpAny_newObj_type (wpAny_pure ?_) (by show (items.toList.drop i).length ≤ sizeLine; rw [List.length_drop, Array.length_toList, sizeLine_eq]; omega))
  rw [List.append_nil]
  exact h h2 tk keep
end
def gStar (K : PySem.W.Frag) (i : Nat) (t : TGs) : TG := fun v σ H Q => ∃ a xs, v = .ref a ∧ (SqL K H a xs ∨ SqT K H a xs) ∧ i ≤ xs.length ∧ xs.length ≤ 16384 ∧ ∀ D, H D = none → t (xs.take i ++ [.ref D]) σ (upd H D (.lst (xs.drop i))) Q
section
variable {F : Fx} {X : Cx} {es es' : List Expr} {k i : Nat} {t : TGs} {pos : Pos} {js : List Nat} {gs : DGTs}
theorem vals_take {xs : List V} {us : List Value} (r : Vals xs us) (n : Nat) : Vals (xs.take n) (us.take n) := Vals.take n r
theorem pg_star (hc : X.calm = true) (h : PGs X es' t) (hm : (assignEach es X.env).map (·.2) = (assignEach es' X.env).map (·.2)) (hn : (assignEach es X.env).length = i + 1) (hst : (assignEach es X.env).findIdx? (·.1) = some i) : PG X (.Tuple es k pos) (gStar X.K i t) := by
  refine ⟨fun pins s σ H v u Q J r hw => ?_⟩
  obtain ⟨a, xs, rfl, hq, hi, hz, hw⟩ := hw
  cases r
  rw [PyProof.Rows.assign_Tuple]
  refine wpAny_bind (wpAny_standAt ?_)
  unfold unpack
  rw [hn, hst, hm]
  have fin : ∀ (its : List Value), Vals xs its → ∀ (h2 : Heap) (tk : Nat), (∀ b o, s.heap.get? b = some o → h2.get? b = some o) →
      wpAny (model X.prog X.w) X.A (assignInOrder ((assignEach es' X.env).map (·.2)) (its.toArray.toList.take i ++ [.ref h2.objs.size])) (fun _ s' => ∃ σ' H', Inv X pins σ' H' s' ∧ Q σ' H') X.xe { s with heap := h2.push { cls := .type "list", data := .seq (its.toArray.toList.drop i).toArray }, toks := tk } := fun its rv h2 tk hk => by
    have J1 : Inv X pins σ H { s with heap := h2, toks := tk } := J.kept hk
    have hD : H h2.objs.size = none := J1.hok.fresh (Nat.le_refl _)
    have J2 : Inv X pins σ (upd H h2.objs.size (.lst (xs.drop i))) { s with heap := h2.push { cls := .type "list", data := .seq (its.toArray.toList.drop i).toArray }, toks := tk } :=
      J1.laid (t' := tk) (fun b o e => Heap.get?_push_of_some _ e) (Nat.le_refl _) ⟨Nat.le_trans (by rw [List.length_drop]; omega) (show 16384 ≤ sizeLine by decide), its.drop i, 0, Vals.drop i rv, by simpa using Heap.get?_push_size h2 rfl⟩
    refine h.run pins _ σ _ _ _ Q J2 ?_ (hw _ hD)
    exact (by simpa using Vals.take i rv : Vals (xs.take i) (its.toArray.toList.take i)).append (.cons rfl .nil)
  rcases hq with hq | hq
  · obtain ⟨its, rv, pl, _⟩ := J.list hq
    refine wpAny_bind (wpAny_holding (star_L pl.isList (J.ok.hd hc) (by simpa [← rv.length] using hi) (by simpa [← rv.length] using hz) fun h2 tk hk => fin its rv h2 tk hk))
  · obtain ⟨its, rv, pl, _⟩ := J.tuple hq
    refine wpAny_bind (wpAny_holding (star_T pl (J.ok.hd hc) (by simpa [← rv.length] using hi) (by simpa [← rv.length] using hz) fun h2 tk hk => fin its rv h2 tk hk))
def starD (i : Nat) (d : D) (Q : List D → Prop) : Prop := ∃ ds, (d = .lst ds ∨ d = .tup ds) ∧ i ≤ ds.length ∧ ds.length ≤ 16384 ∧ Q (ds.take i ++ [.lst (ds.drop i)])
theorem dg_star (es' : List Expr) (hc : X.calm = true) (h : DGs F X es' js gs) (hm : (assignEach es X.env).map (·.2) = (assignEach es' X.env).map (·.2) := by rfl) (hn : (assignEach es X.env).length = i + 1 := by rfl) (hst : (assignEach es X.env).findIdx? (·.1) = some i := by rfl) :
    DG F X (.Tuple es k pos) js (fun d ρ Q => starD i d fun ds => gs ds ρ Q) := by
  refine ⟨fun d ρ Q Q' k ⟨ds, e, l, l', q⟩ => ⟨ds, e, l, l', h.mono _ _ _ _ k q⟩, fun d ρ Q ⟨ds, e, l, l', q⟩ => ⟨ds, e, l, l', h.keeps _ _ _ q⟩, (pg_star hc h.run hm hn hst).imp fun v σ H Q ⟨I, ρ, d, A, r, ds, e, l, l', q⟩ => ?_⟩
  have go : ∀ (a : Addr) (vs : List V), v = .ref a → (SqL X.K H a vs ∨ SqT X.K H a vs) → Reps X.K I vs ds → gStar X.K i (rdGs F X.K js gs) v σ H Q := by
    rintro a vs rfl hq r
    refine ⟨a, vs, rfl, hq, by rw [r.length]; exact l, by rw [r.length]; exact l', fun D hD => ?_⟩
    have st := A.st.laid hD (.lst (vs.drop i))
    refine ⟨_, ρ, _, A.step st, ((r.take i).mono st.i).append (.cons (.lst upd_same ((r.drop i).mono st.i)) .nil), h.mono _ _ _ _ (fun ρ' q I' σ' H' A' s o => q I' σ' H' A' (st.trans s) o) q⟩
  rcases e with rfl | rfl
  · cases r with
    | lst a r => exact go _ _ rfl (.inl (.of (A.st.sub _ _ a))) r
  · cases r with
    | tup a r => exact go _ _ rfl (.inr (Same.seqT A.st.sub a)) r
end
end Dk

/-! Objects of own classes. -/
namespace Dk
open PySem L2
open PyProof.Rows (envOfC)
/-! ### attributes -/
def fldD (C : Addr) (f : Str) (d : D) (Q : D → Prop) : Prop := ∃ fs x, d = .obj C fs ∧ fs.lookup f = some x ∧ Q x
theorem lookup_rep {K : PySem.W.Frag} {I : Hp} {f : Str} {d : D} : ∀ {ws : List (Str × V)} {fs : List (Str × D)}, ws.map (·.1) = fs.map (·.1) → Reps K I (ws.map (·.2)) (fs.map (·.2)) → fs.lookup f = some d → ∃ v, ws.lookup f = some v ∧ Rep K I v d
  | [], [], _, _, h => by simp at h
  | [], _ :: _, h, _, _ => by simp at h
  | _ :: _, [], h, _, _ => by simp at h
  | (i, x) :: ws, (j, y) :: fs, h, r, e => by
    simp only [List.map_cons, List.cons.injEq] at h
    obtain ⟨rfl, h⟩ := h
    cases r with
    | cons r1 r2 =>
      rw [List.lookup_cons] at e ⊢
      cases hb : f == i with
      | true => rw [hb] at e; cases e; exact ⟨_, rfl, r1⟩
      | false => rw [hb] at e; exact lookup_rep h r2 e
theorem lookup_none {K : PySem.W.Frag} {I : Hp} {f : Str} : ∀ {ws : List (Str × V)} {fs : List (Str × D)}, ws.map (·.1) = fs.map (·.1) → fs.lookup f = none → ws.lookup f = none
  | [], [], _, h => rfl
  | [], _ :: _, h, _ => by simp at h
  | _ :: _, [], h, _ => by simp at h
  | (i, x) :: ws, (j, y) :: fs, h, e => by
    simp only [List.map_cons, List.cons.injEq] at h
    obtain ⟨rfl, h⟩ := h
    rw [List.lookup_cons] at e ⊢
    cases hb : f == i with
    | true => rw [hb] at e; cases e
    | false => rw [hb] at e; exact lookup_none (K := K) (I := I) h e
/-- a field put -/
def putFD (f : Str) (v : D) : List (Str × D) → List (Str × D)
  | [] => [(f, v)]
  | (g, x) :: r => if g = f then (g, v) :: r else (g, x) :: putFD f v r
theorem putF_rep {K : PySem.W.Frag} {I : Hp} {f : Str} {v : V} {d : D} (rv : Rep K I v d) : ∀ {ws : List (Str × V)} {fs : List (Str × D)}, ws.map (·.1) = fs.map (·.1) → Reps K I (ws.map (·.2)) (fs.map (·.2)) → (putF f v ws).map (·.1) = (putFD f d fs).map (·.1) ∧ Reps K I ((putF f v ws).map (·.2)) ((putFD f d fs).map (·.2))
  | [], [], _, _ => ⟨rfl, .cons rv .nil⟩
  | [], _ :: _, h, _ => by simp at h
  | _ :: _, [], h, _ => by simp at h
  | (i, x) :: ws, (j, y) :: fs, h, r => by
    simp only [List.map_cons, List.cons.injEq] at h
    obtain ⟨rfl, h⟩ := h
    cases r with
    | cons r1 r2 =>
      obtain ⟨a, b⟩ := putF_rep rv h r2
      unfold putF putFD
      by_cases e : i = f
      · rw [if_pos e, if_pos e]
        exact ⟨by simp [h], .cons rv r2⟩
      · rw [if_neg e, if_neg e]
        exact ⟨by simp [a], .cons r1 b⟩
section
variable {F : Fx} {X : Cx} {K : PySem.W.Frag} {I H I' H' : Hp} {ρ : DEnv} {σ : St} {e o : Expr} {te to : DT} {C : Addr} {f m x : Str} {p p1 pos pos' apos : Pos}
theorem de_fld (c : Cls X.K C) (n : NoAttr X.K C f) (he : DE F X e te) (hb : attributeBase e f X.env (eval e X.env) = eval e X.env := by rfl) : DE F X (.Attribute e f pos) (fun ρ Q => te ρ fun d => fldD C f d Q) := by
  refine ⟨fun ρ Q Q' k q => he.mono _ _ _ (fun d ⟨fs, x, e, l, q⟩ => ⟨fs, x, e, l, k _ q⟩) q, (pe_fld he.run hb).imp fun σ H Q ⟨I, ρ, A, q⟩ => rdE_next he.mono A q fun d v I1 H1 q1 s rv => ?_⟩
  obtain ⟨fs, x, rfl, l, q1⟩ := q1
  cases rv with
  | @obj a _ dx ws _ ha kk r =>
    obtain ⟨w, h1, h2⟩ := lookup_rep kk r l
    exact ⟨a, C, dx, ws, w, rfl, s.st.sub _ _ ha, c, n, h1, q1 _ _ _ s h2⟩
/-- self.f = e -/
theorem ds_setA (j : Nat) (he : DE F X e te) (hN : X.N[j]? = some x := by rfl) (hv : Vis X.env.scope x := by first | exact Or.inl rfl | exact Or.inr (Or.inl rfl) | exact Or.inr (Or.inr rfl)) (hd : (x == ("__debug__" : Str)) = false := by decide)
    (hcd : (x == ("__classdict__" : Str)) = false := by decide) (hs : swapsWith e (some (.Attribute (.Name x p1) f pos')) pos.line X.env = pure false := by rfl) (cl : Cls X.K C) (n : NoAttr X.K C f) :
    DSt F X (.Assign [.Attribute (.Name x p1) f pos'] e pos) (fun Z ρ => te ρ fun d => ∃ q fs, ρ[j]? = some (some (.ownO q C fs)) ∧ fs.length < 1000 ∧ Z.nx (ρ.set j (some (.ownO q C (putFD f d fs))))) := by
  refine ⟨fun Z Z' ρ l q => he.mono _ _ _ (fun d ⟨q0, fs, h, hl, q⟩ => ⟨q0, fs, h, hl, l.nx _ q⟩) q, (ps_fld (pv j hN hv hd hcd) he.run hs).imp fun Z σ H ⟨I, ρ, A, q⟩ => rdE_next he.mono A q fun d v I1 H1 q1 s rv => ?_⟩
  obtain ⟨q0, fs, hx, hl, q1⟩ := q1
  have A1 := A.step s
  obtain ⟨p, o, h1, w, turn⟩ := A1.turnOwn hx trivial
  have hpq : p = q0 := w.ad _ rfl
  obtain ⟨dx, ws, rfl, kk, r⟩ := w.rep
  obtain ⟨a1, a2⟩ := putF_rep (f := f) rv kk r
  have ll : ws.length = fs.length := by simpa using congrArg List.length kk
  refine ⟨_, h1, p, C, dx, ws, rfl, w.hp, cl, n, by omega, q1 I1 σ _ s.i (turn (.ownO q0 C (putFD f d fs)) _ ⟨dx, _, rfl, a1, a2⟩ fun q h => ?_)⟩
  cases h
  exact hpq
end

/-! ### a new object -/
theorem Rm.make {k : Nat} {A : Around} (r : Rm (k + 1) A) (C : Addr) (us : List Value) (kw : List (Str × Value)) : Rm k (A.under (.builtin "type.__call__" ⟨.ref C :: us, kw⟩)) := by
  refine ⟨r.room.make C us kw, ?_⟩
  show pushGuards (Code.guards (.builtin "type.__call__" ⟨.ref C :: us, kw⟩)) A.guards = some []
  have e : Code.guards (.builtin "type.__call__" ⟨.ref C :: us, kw⟩) = [] := by
    have g : Code.isGuard (.builtin "type.__call__" ⟨.ref C :: us, kw⟩) = false := show guardIds.contains "type.__call__" = false by decide +kernel
    unfold Code.guards
    rw [g]
    rfl
  rw [e]
  exact r.gd
section
variable {X : Cx} {CX : CXT} {k : Nat} {f C : Addr} {fd : FuncData} {ps ks : List Str} {sp : Sp} {E : XK}
theorem gn_make {pins : List (Addr × Obj)} {σ : St} {H : Hp} {s : Shared} {Q : VK} {us as : List Value} {kw : List (Str × Value)} {vs : List V} (M : Mk X.K C f) (F : GnOk X.prog X.w X.K X.mg X.base CX k f fd ps sp) (hr : Rm (k + 1) X.A) (hx : Passes CX X E)
    (hb : ∀ (s' : Shared) (x : Value), X.K.In s'.heap → BindsTo s' fd ⟨x :: as, kw⟩ (ps.zip (x :: us))) (J : Inv X pins σ H s) (r : Vals vs us)
    (h : ∀ x dx, H x = none → H dx = none → dx ≠ x → sp (.ref x :: vs) (upd (upd H dx (.own x)) x (.ins C dx [])) (fun v H2 => v = .non ∧ Q (.ref x) H2) E) : wpAny (model X.prog X.w) X.A (call (.ref C) as kw) (EP X pins σ Q) X.xe s := by
  have q := h (s.heap.objs.size + 1) s.heap.objs.size (J.hok.fresh (Nat.le_succ _)) (J.hok.fresh (Nat.le_refl _)) (Nat.ne_of_lt (Nat.lt_succ_self _))
  have J2 := Inv.made (C := C) J
  refine wpAny_call (make_map (f := f) J.kIn M.makes M.init (beq_iff_eq.mp M.fn) (codeAny_mono (F.go _ X.stack _ _ ⟨Value.ref (s.heap.objs.size + 1) :: as, kw⟩ (Value.ref (s.heap.objs.size + 1) :: us) _ _ E (hr.make C as kw) (J2.env0.make C as kw) (hb _ _ J2.kIn) (.cons (show RelV (.ref (s.heap.objs.size + 1)) (.ref (s.heap.objs.size + 1)) from rfl) r) q) fun r s' z => ?_))
  cases r with
  | error e => exact hx pins σ _ _ e s' J2 z
  | ok fl => cases fl with
    | ret u =>
      obtain ⟨v, H', J3, rv, ev, q3⟩ := J2.after z
      subst ev
      exact ⟨rv, V.ref (s.heap.objs.size + 1), H', J3, rfl, q3⟩
    | next => exact z.elim
    | brk => exact z.elim
    | cont => exact z.elim
end
/-- what __init__ promises: the object that comes of it -/
def spInit (W : Wd) (K : PySem.W.Frag) (C : Addr) (S : DSp) : Sp := fun vs H Q E => ∃ x dx us I ds, vs = .ref x :: us ∧ H x = some (.ins C dx []) ∧ I x = none ∧ ¬ W.mv x ∧ StI W I H ∧ Reps K I us ds ∧
  S.f ds (fun d => ∀ I' H', Stp W I (dropA H x) I' H' → Rep K I' (.ref x) d → Q .non H') fun e => ∀ cls d I' H', Stp W I (dropA H x) I' H' → ExRep K I' H' cls d e → E cls d H'
def initEnds (x C : Addr) (Q : D → Prop) : DEnds := ⟨fun ρ => ∃ fs, ρ[0]? = some (some (.ownO x C fs)) ∧ Q (.obj C fs), fun _ => False, fun _ => False, fun _ => False, fun _ => False⟩
def startI (N : List Str) (x C : Addr) (ds : List D) : DEnv := some (.ownO x C []) :: (ds.map (fun d => some (Ent.dat d)) ++ List.replicate (N.length - (ds.length + 1)) none)
theorem at_startI {W : Wd} {K : PySem.W.Frag} {I H : Hp} {N : List Str} {us : List V} {ds : List D} {x dx C : Addr} (s : StI W I H) (hx : H x = some (.ins C dx [])) (ni : I x = none) (nm : ¬ W.mv x) (r : Reps K I us ds) :
    At ⟨W, dropA H x, I⟩ K I (startI N x C ds) (L2.start N (.ref x :: us)) H := by
  refine ⟨⟨Same.refl I, s, fun b o e _ => (dropA_at e).2, fun b o e n => n⟩, by simp [startI, L2.start, r.length], fun i e h => ?_, fun i j e e' v hij h1 h2 o1 o2 hv => ?_⟩
  · unfold startI at h
    cases i with
    | zero =>
      simp only [List.getElem?_cons_zero, Option.some.injEq] at h
      subst h
      exact ⟨.ref x, by simp [L2.start], .inr ⟨x, _, rfl, hx, ⟨dx, [], rfl, rfl, .nil⟩, ni, nm, if_pos rfl, fun q h => by cases h; rfl⟩⟩
    | succ i =>
      rw [List.getElem?_cons_succ] at h
      by_cases hi : i < ds.length
      · rw [List.getElem?_append_left (by simpa using hi), List.getElem?_map] at h
        cases q : ds[i]? with
        | none => rw [q] at h; cases h
        | some d =>
          rw [q] at h
          cases h
          obtain ⟨v, h1, h2⟩ := r.get q
          refine ⟨v, ?_, .inl ⟨_, rfl, h2⟩⟩
          unfold L2.start
          rw [List.map_cons, List.cons_append, List.getElem?_cons_succ, List.getElem?_append_left (by simpa [r.length] using hi), List.getElem?_map, h1]
          rfl
      · rw [List.getElem?_append_right (by simpa using hi), List.getElem?_replicate] at h
        split at h <;> cases h
  · have only : ∀ (i : Nat) (e : Ent), (startI N x C ds)[i]? = some (some e) → e.isOwn → i = 0 := fun i e h o => by
      cases i with
      | zero => rfl
      | succ i =>
        unfold startI at h
        rw [List.getElem?_cons_succ] at h
        by_cases hi : i < ds.length
        · rw [List.getElem?_append_left (by simpa using hi), List.getElem?_map] at h
          cases q : ds[i]? with
          | none => rw [q] at h; cases h
          | some d => rw [q] at h; cases h; exact o.elim
        · rw [List.getElem?_append_right (by simpa using hi), List.getElem?_replicate] at h
          split at h <;> cases h
    exact absurd ((only i e h1 o1).trans (only j e' h2 o2).symm) hij
section
variable {P : Program} {w : World} {K : PySem.W.Frag} {mg : Str → Option Value} {base : Heap}
/-- __init__ by its body -/
theorem _root_.L2.Fun.okI {W : Wd} {S : DSp} {C : Addr} {x qual : Str} {st : Stmt} {f : Addr} {fd : FuncData} {N ps : List Str} {k : Nat} (Fn : Fun K x qual st f fd) (Sc : FnScope N ps (defScope st)) (hn : S.n + 1 = ps.length)
    (hbody : ∀ (cdv : Value) (A : Around) (outer : List Env) (s : Shared) (H I B : Hp) (a : Addr) (ds : List D) (Q : D → Prop) (Ed : Ex → Prop) (E : XK), Rm k (A.deeper (envOfC qual (defScope st) s.heap.objs.size f cdv)) → S.f ds Q Ed →
      ∃ t, DSts ⟨W, B, I⟩ (cxOf CX0 P w K mg base N qual (defScope st) f cdv A outer s H E).nox (defBody st) t ∧ t (initEnds a C Q) (startI N a C ds)) : GnOk P w K mg base CX0 (k + 1) f fd ps (spInit W K C S) := by
  refine Fn.gn Sc (fun vs H Q E ⟨a, dx, us, I, ds, e, _, _, _, _, r, h⟩ => ?_) fun cdv A outer s H vs Q E hr ⟨a, dx, us, I, ds, e, hx, ni, nm, si, r, h⟩ => ?_
  · subst e
    rw [List.length_cons, r.length, S.len _ _ _ h, hn]
  subst e
  obtain ⟨t, h1, h2⟩ := hbody cdv A outer s H I (dropA H a) a ds _ _ E hr h
  refine ⟨_, h1.run.nox, I, _, at_startI si hx ni nm r, h1.mono (initEnds a C _) _ _ ⟨fun ρ ⟨fs, e0, q⟩ I' σ' H' sm A' => ?_, fun _ q => q.elim, fun _ q => q.elim, fun _ q => q.elim, fun _ q => q.elim⟩ h2⟩
  obtain ⟨p, o, _, w, s2, A2⟩ := A'.freeze e0 trivial
  have hp : p = a := w.ad _ rfl
  subst hp
  exact q _ _ A2.stp ((w.rep.mono s2).rep upd_same)
end
/-- a class that may be called -/
structure CalC (P : Program) (w : World) (K : PySem.W.Frag) (mg : Str → Option Value) (base : Heap) (CX : CXT) (W : Wd) (k : Nat) (x : Str) (C : Addr) (ps : List Str) (S : DSp) : Prop where
  ex : ∃ f fd, Mk K C f ∧ GnOk P w K mg base CX k f fd ps (spInit W K C S) ∧ mg x = some (.ref C) ∧ Binds K fd ps [] ∧ ps.length = S.n + 1
section
variable {F : Fx} {X : Cx} {CX : CXT} {k : Nat} {x : Str} {C : Addr} {ps : List Str} {S : DSp} {E : XK} {p pos : Pos} {e : Expr} {es : List Expr} {t : DAT} {Ed : Ex → Prop}
theorem new_run {W : Wd} {K : PySem.W.Frag} {I H : Hp} {x dx : Addr} {o : HO} (s : StI W I H) (hx : H x = none) (hd : H dx = none) (ne : dx ≠ x) : I x = none ∧ ¬ W.mv x ∧ StI W I (upd (upd H dx (.own x)) x o) ∧ ∀ I' H', Stp W I (dropA (upd (upd H dx (.own x)) x o) x) I' H' → Stp W I H I' H' := by
  have s1 := s.laidM hd (.own x)
  have hx1 : upd H dx (.own x) x = none := by rw [upd_ne (Ne.symm ne)]; exact hx
  have s2 := s1.st.laidM hx1 o
  refine ⟨s.free hx, fun m => W.live s.inv m hx, s2.st, fun I' H' st => ⟨st.i, st.st, fun b u e m => ?_, fun b u e n => ?_⟩⟩
  · have hb : b ≠ x := ne_of_none e hx
    exact st.h b u (by rw [dropA_ne hb]; exact s2.h _ _ (s1.h _ _ e m) m) m
  · have hb : b ≠ x := ne_of_none e hx
    exact st.new b u (by rw [dropA_ne hb, upd_ne hb, upd_ne (ne_of_none e hd)]; exact e) n
theorem de_make (c : CalC X.prog X.w X.K X.mg X.base CX F.W k x C ps S) (hr : Rm (k + 1) X.A) (hx : Passes CX X E) (le : Lets F X.K Ed E) (ha : DA F X (e :: es) t)
    (hg : Gl X x := by rfl) (hdb : (x == ("__debug__" : Str)) = false := by decide) (he : starEach (e :: es) X.env = (false, eval e X.env) :: starEach es X.env := by rfl) (hpl : (backTo pos (starEach es X.env)).any (·.1) = false := by rfl) :
    DE F X (.Call (.Name x p) (e :: es) [] pos) (fun ρ Q => t ρ fun ds => S.f ds Q Ed) := by
  obtain ⟨f, fd, M, G, hm, hb, hl⟩ := c.ex
  refine ⟨fun ρ Q Q' k h => ha.mono _ _ _ (fun d h => S.mono _ _ _ _ _ k (fun _ h => h) h) h, ⟨fun pins s σ H Q J ⟨I, ρ, A, h⟩ => ?_⟩⟩
  refine wpAny_Call_Name_kw (ld_glob J hg hm ?_ hdb)
  have run : rdA F X.K t σ H fun vs H1 => vs.length + 1 = ps.length ∧ ∀ x dx, H1 x = none → H1 dx = none → dx ≠ x → spInit F.W X.K C S (.ref x :: vs) (upd (upd H1 dx (.own x)) x (.ins C dx [])) (fun v H2 => v = .non ∧ Q (.ref x) H2) E := by
    refine rdA_next ha.mono A h fun ds vs I1 H1 q s1 rs => ⟨by rw [rs.length, S.len _ _ _ q, hl], fun x dx hx hd ne => ?_⟩
    obtain ⟨ni, nm, st, back⟩ := new_run (K := X.K) (o := .ins C dx []) s1.st hx hd ne
    refine ⟨x, dx, vs, I1, ds, rfl, upd_same, ni, nm, st, rs, S.mono _ _ _ _ _ (fun d q I' H' s' rv => ⟨rfl, q _ I' H' (s1.trans (back I' H' s')) rv⟩) (fun ex q cls d I' H' s' rv => ?_) q⟩
    exact le I1 H1 (A.stp.trans s1) ex q cls d I' H' (back I' H' s') rv
  refine PySem.W.callWith_K (h₀ := X.base) J.ok.mod.kin M.kp (thn (ha.run.run pos pins s σ H _ J run) fun us s1 ⟨vs, H1, J1, r, l, q⟩ => ⟨J1.kIn, ?_⟩) he hpl
  exact gn_make M G hr hx (fun s' x hk => by have := hb s' (x :: us) hk (by rw [List.append_nil, List.length_cons, ← r.length]; exact l); simpa using this) J1 r q
end
end Dk

/-! Methods; texts split; the least of a list. -/
namespace Dk
open PySem L2
structure CalM (P : Program) (w : World) (K : PySem.W.Frag) (mg : Str → Option Value) (base : Heap) (CX : CXT) (W : Wd) (k : Nat) (C : Addr) (m : Str) (ps : List Str) (S : DSp) : Prop where
  ex : ∃ f fd, Cls K C ∧ Meth K C m f ∧ GnOk P w K mg base CX k f fd ps (spD W K S) ∧ Binds K fd ps [] ∧ ps.length = S.n
section
variable {F : Fx} {X : Cx} {K : PySem.W.Frag} {CX : CXT} {k : Nat} {x m : Str} {C : Addr} {ps : List Str} {S : DSp} {E : XK} {p pos apos : Pos} {o e : Expr} {es : List Expr} {to : DT} {t : DAT} {Ed : Ex → Prop} {pl : Sem Bool}
def methD (C : Addr) (m : Str) (x : D) (Q : Prop) : Prop := ∃ fs, x = .obj C fs ∧ fs.lookup m = none ∧ Q
theorem de_meth (c : CalM X.prog X.w X.K X.mg X.base CX F.W k C m ps S) (hr : Rm k X.A) (hx : Passes CX X E) (le : Lets F X.K Ed E) (ho : DE F X o to) (ha : DA F X (e :: es) t)
    (hst : starEach (e :: es) X.env = (false, eval e X.env) :: starEach es X.env := by rfl) (hpl : (backTo pos (starEach es X.env)).any (·.1) = false := by rfl)
    (ht : eval (.Call (.Attribute o m apos) (e :: es) [] pos) X.env = (do
      let ov ← eval o X.env
      standAt apos.atName
      let (f, first) ← holding [ov] (getMethod ov m pl)
      callWith pos f first (backTo pos (starEach (e :: es) X.env)) (backToKw pos (keywordEach [] X.env))) := by rfl) :
    DE F X (.Call (.Attribute o m apos) (e :: es) [] pos) (fun ρ Q => to ρ fun x => methD C m x (t ρ fun ds => S.f (x :: ds) Q Ed)) := by
  obtain ⟨f, fd, cl, hm, G, hb, hl⟩ := c.ex
  refine ⟨fun ρ Q Q' k h => ho.mono _ _ _ (fun d ⟨fs, e, l, h⟩ => ⟨fs, e, l, ha.mono _ _ _ (fun ds h => S.mono _ _ _ _ _ k (fun _ h => h) h) h⟩) h, ⟨fun pins s σ H Q J ⟨I, ρ, A, h⟩ => ?_⟩⟩
  refine PySem.W.methodCall_KW (pl := pl) (thn (ho.run.run pins s σ H (fun x H1 => ∃ a dx fs, x = .ref a ∧ H1 a = some (.ins C dx fs) ∧ fs.lookup m = none ∧ rdA F X.K t σ H1 fun vs H2 => spD F.W X.K S (.ref a :: vs) H2 Q E) J ?_) fun u s1 ⟨x, H1, J1, rx, a, dx, fs, ex, ea, l, q⟩ => ?_) ht
  · refine rdE_next ho.mono A h fun d v I1 H1 q1 s1 rv => ?_
    obtain ⟨fs, rfl, l, q1⟩ := q1
    cases rv with
    | @obj a _ dx ws _ hi kk r =>
      refine ⟨a, dx, ws, rfl, s1.st.sub _ _ hi, lookup_none (K := X.K) (I := I1) kk l, rdA_next ha.mono (A.step s1) q1 fun ds vs I2 H2 q2 s2 rs => ?_⟩
      have st := s1.trans s2
      exact ⟨I2, _, s2.st, .cons ((Rep.obj hi kk r).mono s2.i) rs, S.mono _ _ _ _ _ (fun d q v I' H' s' rv => q v I' H' (st.trans s') rv) (le I2 H2 (A.stp.trans st)) q2⟩
  · subst ex
    obtain rfl : u = Value.ref a := rx
    refine getmeth_ok J1 ea cl hm l ?_
    refine PySem.W.callWith_K (first := [.ref a]) (h₀ := X.base) J.ok.mod.kin hm.kp (thn (ha.run.run pos pins s1 σ H1 _ J1 q) fun us s2 ⟨vs, H2, J2, r, q2⟩ => ⟨J2.kIn, ?_⟩) hst hpl
    exact gn_pos (us := .ref a :: us) (vs := .ref a :: vs) G hr hb .nil hx J2 (.cons rfl r) (by simpa using q2)
theorem de_meth0 (c : CalM X.prog X.w X.K X.mg X.base CX F.W k C m ps S) (hr : Rm k X.A) (hx : Passes CX X E) (le : Lets F X.K Ed E) (ho : DE F X o to)
    (ht : eval (.Call (.Attribute o m apos) [] [] pos) X.env = (do
      let ov ← eval o X.env
      standAt apos.atName
      let (f, first) ← holding [ov] (getMethod ov m pl)
      callWith pos f first (backTo pos (starEach [] X.env)) (backToKw pos (keywordEach [] X.env))) := by rfl) :
    DE F X (.Call (.Attribute o m apos) [] [] pos) (fun ρ Q => to ρ fun x => methD C m x (S.f [x] Q Ed)) := by
  obtain ⟨f, fd, cl, hm, G, hb, hl⟩ := c.ex
  refine ⟨fun ρ Q Q' k h => ho.mono _ _ _ (fun d ⟨fs, e, l, h⟩ => ⟨fs, e, l, S.mono _ _ _ _ _ k (fun _ h => h) h⟩) h, ⟨fun pins s σ H Q J ⟨I, ρ, A, h⟩ => ?_⟩⟩
  refine PySem.W.methodCall_KW (pl := pl) (thn (ho.run.run pins s σ H (fun x H1 => ∃ a dx fs, x = .ref a ∧ H1 a = some (.ins C dx fs) ∧ fs.lookup m = none ∧ spD F.W X.K S [.ref a] H1 Q E) J ?_) fun u s1 ⟨x, H1, J1, rx, a, dx, fs, ex, ea, l, q⟩ => ?_) ht
  · refine rdE_next ho.mono A h fun d v I1 H1 q1 s1 rv => ?_
    obtain ⟨fs, rfl, l, q1⟩ := q1
    cases rv with
    | @obj a _ dx ws _ hi kk r =>
      exact ⟨a, dx, ws, rfl, s1.st.sub _ _ hi, lookup_none (K := X.K) (I := I1) kk l, I1, _, s1.st, .cons (Rep.obj hi kk r) .nil, S.mono _ _ _ _ _ (fun d q v I' H' s' rv => q v I' H' (s1.trans s') rv) (le I1 H1 (A.stp.trans s1)) q1⟩
  · subst ex
    obtain rfl : u = Value.ref a := rx
    refine getmeth_ok J1 ea cl hm l ?_
    exact PySem.W.callWith_K0 (first := [.ref a]) J1.kIn hm.kp (gn_pos (us := [.ref a]) (vs := [.ref a]) G hr hb .nil hx J1 (.cons rfl .nil) (by simpa using q))
/-- s.split(y), y no empty text -/
def splitD (a : Str) (y : D) (Q : D → Prop) : Prop := ∃ b, y = .str b ∧ (b.length == 0) = false ∧ a.length + 2 ≤ sizeLine ∧ Q (.lst ((Txt.split a b).map D.str))
theorem de_split {te : DT} (ho : DE F X o to) (he : DE F X e te) (hs : starEach [e] X.env = [(false, eval e X.env)] := by rfl) (hbase : attributeBase o "split" X.env (eval o X.env) = eval o X.env := by rfl) (hline : (apos.endLine == pos.line) = true := by rfl) :
    DE F X (.Call (.Attribute o "split" apos) [e] [] pos) (fun ρ Q => to ρ fun x => strD x fun a => te ρ fun y => splitD a y Q) := by
  have mr : ∀ a y (Q Q' : D → Prop), (∀ d, Q d → Q' d) → splitD a y Q → splitD a y Q' := fun a y Q Q' k ⟨b, h1, h2, h3, q⟩ => ⟨b, h1, h2, h3, k _ q⟩
  refine ⟨m1_mono mr ho he, (pe_split ho.run he.run hs hbase hline).imp fun σ H Q q => m1_run mr (fun a y dy I H Q st ry h => ?_) ho he q⟩
  obtain ⟨b, rfl, h2, h3, q⟩ := h
  cases ry
  refine ⟨a, b, rfl, rfl, h2, h3, fun p hp => ?_⟩
  have l := st.laid hp (.lst ((Txt.split a b).map V.str))
  exact q _ _ _ l (.lst upd_same Reps.strs)
/-- min(xs), max(xs) of numbers -/
def minLD : List D → (D → Prop) → Prop
  | [.lst xs], Q => ∃ ns : List Int, xs = ns.map D.int ∧ ns ≠ [] ∧ ∀ m, m ∈ ns → (∀ y ∈ ns, m ≤ y) → Q (.int m)
  | _, _ => False
def maxLD : List D → (D → Prop) → Prop
  | [.lst xs], Q => ∃ ns : List Int, xs = ns.map D.int ∧ ns ≠ [] ∧ ∀ m, m ∈ ns → (∀ y ∈ ns, y ≤ m) → Q (.int m)
  | _, _ => False
theorem mono_minL : MonoN minLD := by
  intro ds Q Q' k h
  unfold minLD at h ⊢
  split at h
  · obtain ⟨ns, a, b, c⟩ := h; exact ⟨ns, a, b, fun m h1 h2 => k _ (c m h1 h2)⟩
  · exact h.elim
theorem mono_maxL : MonoN maxLD := by
  intro ds Q Q' k h
  unfold maxLD at h ⊢
  split at h
  · obtain ⟨ns, a, b, c⟩ := h; exact ⟨ns, a, b, fun m h1 h2 => k _ (c m h1 h2)⟩
  · exact h.elim
theorem de_minL (hc : X.calm = true) (hm : X.mg "min" = none) (ha : DA F X [e] t) (hg : Gl X "min" := by rfl) (he : starEach [e] X.env = (false, eval e X.env) :: starEach [] X.env := by rfl) : DE F X (.Call (.Name "min" p) [e] [] pos) (fun ρ Q => t ρ fun ds => minLD ds Q) := by
  refine de_callB (id := "min") mono_minL (fun vs ds I H Q st rs h => ?_) (cr_min hc) hm (by decide +kernel) ha hg (by decide) (by decide) he rfl
  unfold minLD at h
  split at h
  · obtain ⟨ns, rfl, hn, q⟩ := h
    obtain ⟨v, rfl, rv⟩ := rs.one
    cases rv with
    | @lst a ws _ ha' r =>
      rw [r.intsV] at ha'
      exact ⟨a, ns, rfl, .of (st.sub _ _ ha'), List.length_pos_iff.mpr hn, fun m h1 h2 => q m h1 h2 _ I H st.stp (.int _)⟩
  · exact h.elim
theorem de_maxL (hc : X.calm = true) (hm : X.mg "max" = none) (ha : DA F X [e] t) (hg : Gl X "max" := by rfl) (he : starEach [e] X.env = (false, eval e X.env) :: starEach [] X.env := by rfl) : DE F X (.Call (.Name "max" p) [e] [] pos) (fun ρ Q => t ρ fun ds => maxLD ds Q) := by
  refine de_callB (id := "max") mono_maxL (fun vs ds I H Q st rs h => ?_) (cr_max hc) hm (by decide +kernel) ha hg (by decide) (by decide) he rfl
  unfold maxLD at h
  split at h
  · obtain ⟨ns, rfl, hn, q⟩ := h
    obtain ⟨v, rfl, rv⟩ := rs.one
    cases rv with
    | @lst a ws _ ha' r =>
      rw [r.intsV] at ha'
      exact ⟨a, ns, rfl, .of (st.sub _ _ ha'), List.length_pos_iff.mpr hn, fun m h1 h2 => q m h1 h2 _ I H st.stp (.int _)⟩
  · exact h.elim
end
end Dk

/-! Lists that an expression makes: they may be our own. -/
namespace Dk
open PySem L2
open PyProof.Rows (envOfC)
abbrev DTO := DEnv → (List D → Prop) → Prop
def finO (F : Fx) (K : PySem.W.Frag) (I H : Hp) (Q : VK) : List D → Prop := fun ds => ∀ p vs I' H', Stp F.W I H I' H' → H' p = none → Reps K I' vs ds → Q (.ref p) (upd H' p (.lst vs))
def rdO' (F : Fx) (K : PySem.W.Frag) (t : DTO) : TE := fun σ H Q => ∃ I ρ, At F K I ρ σ H ∧ t ρ (finO F K I H Q)
structure DEO (F : Fx) (X : Cx) (e : Expr) (t : DTO) : Prop where
  mono : ∀ ρ (Q Q' : List D → Prop), (∀ d, Q d → Q' d) → t ρ Q → t ρ Q'
  run : PE X e (rdO' F X.K t)
section
variable {F : Fx} {X : Cx} {K : PySem.W.Frag} {I H I' H' : Hp} {ρ : DEnv} {σ : St} {a b e : Expr} {es : List Expr} {ta tb te : DT} {t : DTO} {x : Str} {p p2 pos pos' : Pos}
/-- x = a list of our own -/
theorem ds_setO (i : Nat) (he : DEO F X e t) (hN : X.N.Nodup) (hi : X.N[i]? = some x := by rfl) (hx : Loc X.env.scope x := by first | exact Or.inl rfl | exact Or.inr rfl) (hs : swapsWith e (some (.Name x pos')) pos.line X.env = pure false := by rfl)
    (hf : X.fn x = true ∨ X.env.scope.names.lookup x = some .local := by first | exact .inl rfl | exact .inr rfl | assumption) : DSt F X (.Assign [.Name x pos'] e pos) (fun Z ρ => t ρ fun ds => Z.nx (ρ.set i (some (.own ds)))) := by
  refine ⟨fun Z Z' ρ l q => he.mono _ _ _ (fun d q => l.nx _ q) q, (ps_set hN hi hx he.run hs hf).imp fun Z σ H ⟨I, ρ, A, q⟩ => ⟨I, ρ, A, he.mono _ _ _ (fun ds q p vs I' H' s hp rs => ?_) q⟩⟩
  exact q I' _ _ s.i ((A.step s).newOwn hp ⟨_, rfl, rs⟩)
theorem ds_retO (he : DEO F X e t) : DSt F X (.Return (some e) pos) (fun Z ρ => t ρ Z.ro) :=
  ⟨fun Z Z' ρ l q => he.mono _ _ _ l.ro q, (ps_ret he.run).imp fun Z σ H ⟨I, ρ, A, q⟩ => ⟨I, ρ, A, he.mono _ _ _ (fun ds q p vs I' H' s hp rs => q p vs I' H' (A.stp.trans s) hp rs) q⟩⟩
def catD (x y : D) (Q : List D → Prop) : Prop := ∃ xs ys, x = .lst xs ∧ y = .lst ys ∧ xs.length + ys.length ≤ sizeLine ∧ Q (xs ++ ys)
theorem deo_add (ha : DE F X a ta) (hb : DE F X b tb) : DEO F X (.BinOp a .Add b pos) (fun ρ Q => ta ρ fun x => tb ρ fun y => catD x y Q) := by
  refine ⟨fun ρ Q Q' k h => ha.mono _ _ _ (fun d h => hb.mono _ _ _ (fun e ⟨xs, ys, e1, e2, l, q⟩ => ⟨xs, ys, e1, e2, l, k _ q⟩) h) h, (pe_op op_cat ha.run hb.run).imp fun σ H Q ⟨I, ρ, A, q⟩ => rdE_next ha.mono A q fun x v I1 H1 q1 s1 rx => rdE_next hb.mono (A.step s1) q1 fun y u I2 H2 q2 s2 ry => ?_⟩
  obtain ⟨xs, ys, rfl, rfl, l, q2⟩ := q2
  have rx := rx.mono s2.i
  cases rx with
  | @lst p vs _ a r =>
    cases ry with
    | @lst q ws _ a' r' => exact ⟨p, q, vs, ws, rfl, rfl, s2.st.sub _ _ a, s2.st.sub _ _ a', by rw [r.length, r'.length]; exact l, fun z hz => q2 z _ I2 H2 (s1.trans s2) hz (r.append r')⟩
def cutLD (d : D) (lo hi : Option Int) (Q : List D → Prop) : Prop := ∃ xs, d = .lst xs ∧ Q (cutD xs lo hi)
theorem deo_slice {lo hi : Option Expr} {tl th : DOT} (he : DE F X e te) (hl : DO F X lo tl) (hh : DO F X hi th) : DEO F X (.Subscript e (.Slice lo hi none p2) pos) (fun ρ Q => te ρ fun d => tl ρ fun l => th ρ fun u => cutLD d l u Q) := by
  refine ⟨fun ρ Q Q' k q => he.mono _ _ _ (fun d q => hl.mono _ _ _ (fun l q => hh.mono _ _ _ (fun u ⟨xs, e, q⟩ => ⟨xs, e, k _ q⟩) q) q) q, (pe_slice sl_list he.run hl.run hh.run).imp fun σ H Q ⟨I, ρ, A, q⟩ => rdE_next he.mono A q fun d v I1 H1 q1 s1 rv => ?_⟩
  refine ⟨I1, ρ, A.step s1, hl.mono _ _ _ (fun l q2 I2 H2 s2 => ?_) q1⟩
  refine ⟨I2, ρ, (A.step s1).step s2, hh.mono _ _ _ (fun u q3 I3 H3 s3 => ?_) q2⟩
  obtain ⟨xs, rfl, q3⟩ := q3
  have s := (s1.trans s2).trans s3
  have rv := rv.mono (Same.trans s2.i s3.i)
  cases rv with
  | @lst q zs _ a r => exact ⟨q, zs, rfl, .of (s3.st.sub _ _ a), fun p hp => q3 p _ I3 H3 s hp (r.cut l u)⟩
theorem deo_lst {ta : DAT} (h : DA F X es ta) : DEO F X (.List es pos) (fun ρ Q => ta ρ fun ds => ds.length ≤ sizeLine ∧ Q ds) :=
  ⟨fun ρ Q Q' k q => h.mono _ _ _ (fun d q => ⟨q.1, k _ q.2⟩) q, (pe_lst h.run).imp fun σ H Q ⟨I, ρ, A, q⟩ => rdA_next h.mono A q fun ds vs I' H' p s rs => ⟨rs.length ▸ p.1, fun a ha => p.2 a vs I' H' s ha rs⟩⟩
end
/-! ### a def that hands back a list of its own -/
structure DSpO where
  n : Nat
  f : List D → (List D → Prop) → Prop
  len : ∀ ds Q, f ds Q → ds.length = n
  mono : ∀ ds (Q Q' : List D → Prop), (∀ d, Q d → Q' d) → f ds Q → f ds Q'
def spO (W : Wd) (K : PySem.W.Frag) (S : DSpO) : Sp := fun vs H Q _ => ∃ I ds, StI W I H ∧ Reps K I vs ds ∧ S.f ds (finO ⟨W, H, I⟩ K I H Q)
def ownEnds (Q : List D → Prop) : DEnds := ⟨fun _ => False, fun _ => False, fun _ => False, fun _ => False, Q⟩
section
variable {P : Program} {w : World} {K : PySem.W.Frag} {mg : Str → Option Value} {base : Heap}
theorem _root_.L2.Fun.okO {W : Wd} {S : DSpO} {x qual : Str} {st : Stmt} {f : Addr} {fd : FuncData} {N ps : List Str} {k : Nat} (Fn : Fun K x qual st f fd) (Sc : FnScope N ps (defScope st)) (hn : S.n = ps.length)
    (hbody : ∀ (cdv : Value) (A : Around) (outer : List Env) (s : Shared) (H I : Hp) (ds : List D) (Q : List D → Prop) (E : XK), Rm k (A.deeper (envOfC qual (defScope st) s.heap.objs.size f cdv)) → S.f ds Q →
      ∃ t, DSts ⟨W, H, I⟩ (cxOf CX0 P w K mg base N qual (defScope st) f cdv A outer s H E).nox (defBody st) t ∧ t (ownEnds Q) (startD N ds)) : GnOk P w K mg base CX0 (k + 1) f fd ps (spO W K S) := by
  refine Fn.gn Sc (fun vs H Q E ⟨I, ds, _, r, h⟩ => r.length.trans ((S.len _ _ h).trans hn)) fun cdv A outer s H vs Q E hr ⟨I, ds, si, r, h⟩ => ?_
  obtain ⟨t, h1, h2⟩ := hbody cdv A outer s H I ds _ E hr h
  exact ⟨_, h1.run.nox, I, _, at_start si r, h1.mono (ownEnds (finO ⟨W, H, I⟩ K I H Q)) _ _ ⟨fun _ q => q.elim, fun _ q => q.elim, fun _ q => q.elim, fun _ q => q.elim, fun ds q => q⟩ h2⟩
end
structure CalO (P : Program) (w : World) (K : PySem.W.Frag) (mg : Str → Option Value) (base : Heap) (W : Wd) (k : Nat) (x : Str) (ps : List Str) (S : DSpO) : Prop where
  ex : ∃ f fd, GnOk P w K mg base CX0 k f fd ps (spO W K S) ∧ mg x = some (.ref f) ∧ PySem.W.keepIn K (.ref f) = true ∧ Binds K fd ps []
theorem CalO.of {P : Program} {w : World} {K : PySem.W.Frag} {mg : Str → Option Value} {base : Heap} {W : Wd} {k : Nat} {x qual : Str} {st : Stmt} {f : Addr} {fd : FuncData} {ps : List Str} {S : DSpO} (Fn : Fun K x qual st f fd) (G : GnOk P w K mg base CX0 k f fd ps (spO W K S)) (m : mg x = some (.ref f))
    (h : ∀ (kV doc pm : Value) (an : Option Addr) (cdv ct : Value) (us : List Value), us.length = ps.length → bindArgs (PySem.W.fnOf x qual (defArgs st) (defBody st) (defScope st) .none kV doc pm an cdv ct) ⟨us, []⟩ = pure (ps.zip us)) : CalO P w K mg base W k x ps S :=
  ⟨f, fd, G, m, Fn.kp, Fn.binds h⟩
/-- .. as plain data -/
def DSpO.dat (S : DSpO) : DSp := ⟨S.n, fun ds Q _ => S.f ds fun es => Q (.lst es), fun ds Q _ h => S.len _ _ h, fun ds Q Q' _ _ k _ h => S.mono _ _ _ (fun d => k _) h⟩
theorem CalO.cal {P : Program} {w : World} {K : PySem.W.Frag} {mg : Str → Option Value} {base : Heap} {W : Wd} {k : Nat} {x : Str} {ps : List Str} {S : DSpO} (c : CalO P w K mg base W k x ps S) : Cal P w K mg base CX0 W k x ps S.dat := by
  obtain ⟨f, fd, G, h2, h3, h4⟩ := c.ex
  refine ⟨f, fd, G.weak fun vs H Q E ⟨I, ds, st, r, h⟩ => ⟨I, ds, st, r, S.mono _ _ _ (fun es q p us I' H' s hp rs => ?_) h⟩, h2, h3, h4⟩
  have l := s.st.laid hp (.lst us)
  exact q _ _ _ (s.trans l) (.lst upd_same (rs.mono l.i))
section
variable {F : Fx} {X : Cx} {k : Nat} {x : Str} {ps : List Str} {S : DSpO} {p pos : Pos} {e : Expr} {es : List Expr} {t : DAT}
theorem deo_fn (C : CalO X.prog X.w X.K X.mg X.base F.W k x ps S) (hr : Rm k X.A) (ha : DA F X (e :: es) t)
    (hg : Gl X x := by rfl) (hdb : (x == ("__debug__" : Str)) = false := by decide) (he : starEach (e :: es) X.env = (false, eval e X.env) :: starEach es X.env := by rfl) (hpl : (backTo pos (starEach es X.env)).any (·.1) = false := by rfl) :
    DEO F X (.Call (.Name x p) (e :: es) [] pos) (fun ρ Q => t ρ fun ds => S.f ds Q) := by
  obtain ⟨f, fd, h1, h2, h3, h4⟩ := C.ex
  refine ⟨fun ρ Q Q' k h => ha.mono _ _ _ (fun d h => S.mono _ _ _ k h) h, (gn_call h1 hr hg h2 h3 h4 .nil (pass0 (X := X)) ha.run hdb he hpl).imp fun σ H Q ⟨I, ρ, A, h⟩ => ?_⟩
  show rdA F X.K t σ H fun vs H1 => spO F.W X.K S (vs ++ []) H1 Q E0
  refine rdA_next ha.mono A h fun ds vs I' H' q s rs => ?_
  rw [List.append_nil]
  exact ⟨I', ds, s.st, rs, S.mono _ _ _ (fun es q p us I2 H2 s2 hp r2 => q p us I2 H2 (s.trans s2) hp r2) q⟩
end
section
variable {F : Fx} {X : Cx} {a b : Expr} {ta : DT} {tb : DTO} {px py pt pos : Pos} {x y : Str}
/-- a, b = x, y: the second one a list of our own -/
theorem ds_parO {i j : Nat} {kt k2 pt2} (hc : X.calm = true) (hN : X.N.Nodup) (hi : X.N[i]? = some x) (hj : X.N[j]? = some y) (hij : i ≠ j) (hkx : X.env.scope.names.lookup x = some .local) (hky : X.env.scope.names.lookup y = some .local)
    (ha : DE F X a ta) (hb : DEO F X b tb) (hs1 : starEach [a, b] X.env = (false, eval a X.env) :: starEach [b] X.env := by rfl) (hs2 : starEach [b] X.env = (false, eval b X.env) :: starEach [] X.env := by rfl)
    (hsw : swappedStores [.Tuple [.Name x px, .Name y py] kt pt] (.Tuple [a, b] k2 pt2) X.env = pure (some [x, y]) := by rfl) (hs : swapsWithSole [.Tuple [.Name x px, .Name y py] kt pt] (.Tuple [a, b] k2 pt2) pos.line X.env = pure false := by rfl) : DSt F X (.Assign [.Tuple [.Name x px, .Name y py] kt pt] (.Tuple [a, b] k2 pt2) pos) (fun Z ρ => ta ρ fun d => tb ρ fun es => Z.nx ((ρ.set i (some (.dat d))).set j (some (.own es)))) := by
  refine ⟨fun Z Z' ρ l q => ha.mono _ _ _ (fun d q => hb.mono _ _ _ (fun es q => l.nx _ q) q) q, (ps_par hc hN hi hj hij hkx hky (pa_cons ha.run (pa_cons hb.run pa_nil hs2) hs1) hsw hs).imp fun Z σ H ⟨I, ρ, A, q⟩ => ?_⟩
  refine rdE_next ha.mono A q fun d v I1 H1 q1 s1 rv => ⟨I1, ρ, A.step s1, hb.mono _ _ _ (fun es q p vs I2 H2 s2 hp rs => ?_) q1⟩
  have A2 := ((A.step s1).step s2).set (i := i) (rv.mono s2.i)
  exact ⟨_, _, rfl, q I2 _ _ (Same.trans s1.i s2.i) (A2.newOwn hp ⟨_, rfl, rs⟩)⟩
end
/-- a loop that adds some to a list at each turn -/
theorem loopD_app {α : Type} {g : DGT} {tc : DB} {t : DNT (List D)} {ρ : DEnv} (f : α → D) (out : α → List D) (N : Nat) : ∀ {l : List α} {b : List D} {Q : List D → Prop}, (∀ a ∈ l, ∀ (b : List D) (R : List D → Prop) (S : Prop), b.length + (out a).length ≤ N → R (b ++ out a) → g (f a) ρ fun ρ2 => tc ρ2 fun c => if c = true then t ρ2 b R else S) →
    b.length + (l.flatMap out).length ≤ N → Q (b ++ l.flatMap out) → loopD g tc t ρ (l.map f) b Q := by
  intro l
  induction l with
  | nil => intro b Q _ _ q; simpa [loopD] using q
  | cons a l ih =>
    intro b Q hs hl q
    rw [List.flatMap_cons, List.length_append] at hl
    rw [List.flatMap_cons, ← List.append_assoc] at q
    exact hs a (by simp) b _ _ (by omega) (ih (fun x hx => hs x (List.mem_cons_of_mem _ hx)) (by rw [List.length_append]; omega) q)
/-- .. that puts some in a dict at each turn -/
theorem loopD_fold {α β : Type} {g : DGT} {tc : DB} {t : DNT β} {ρ : DEnv} (f : α → D) (put : β → α → β) (ok : β → List α → Prop) : ∀ {l : List α} {b : β} {Q : β → Prop}, (∀ a ∈ l, ∀ (r : List α) (b : β) (R : β → Prop) (S : Prop), ok b (a :: r) → (ok (put b a) r → R (put b a)) → g (f a) ρ fun ρ2 => tc ρ2 fun c => if c = true then t ρ2 b R else S) →
    ok b l → (ok (l.foldl put b) [] → Q (l.foldl put b)) → loopD g tc t ρ (l.map f) b Q := by
  intro l
  induction l with
  | nil => intro b Q _ h q; exact q h
  | cons a l ih =>
    intro b Q hs h q
    exact hs a (by simp) l b _ _ h fun h' => ih (fun x hx => hs x (List.mem_cons_of_mem _ hx)) h' q
/-- a comprehension within another one -/
def nestSc (sc0 csc : Scope) : Scope := relabel csc (PyProof.Rows.envOfC "" sc0 0 0 .none)
theorem blkOk_nest {X : Cx} {s : Shared} {H : Hp} {csc c2 : Scope} {cl : List (Str × Addr)} {C : Addr} {fp : List Addr} {N : List Str} {own : List (Str × Nat)} (sc0 : Scope) (h0 : X.env.scope = sc0) (h : blkC N (nestSc sc0 csc) c2 own = true) : BlkOk N (X.blk s H csc (compEnvC csc cl C X.env) fp).env.scope c2 own := by
  subst h0
  exact blkOk_by h
/-- .. that puts new ones in a dict at each turn -/
theorem loopD_put {α : Type} {g : DGT} {tc : DB} {t : DNT (List (Key × D))} {ρ : DEnv} (f : α → D) (out : α → List (Key × D)) (N : Nat) : ∀ {l : List α} {b : List (Key × D)} {Q : List (Key × D) → Prop}, (∀ a ∈ l, ∀ (b : List (Key × D)) (R : List (Key × D) → Prop) (S : Prop), b.length + (out a).length ≤ N → ((b ++ out a).map (·.1)).Nodup → R (b ++ out a) → g (f a) ρ fun ρ2 => tc ρ2 fun c => if c = true then t ρ2 b R else S) →
    b.length + (l.flatMap out).length ≤ N → ((b ++ l.flatMap out).map (·.1)).Nodup → Q (b ++ l.flatMap out) → loopD g tc t ρ (l.map f) b Q := by
  intro l
  induction l with
  | nil => intro b Q _ _ _ q; simpa [loopD] using q
  | cons a l ih =>
    intro b Q hs hl hn q
    rw [List.flatMap_cons, List.length_append] at hl
    rw [List.flatMap_cons, ← List.append_assoc] at q hn
    refine hs a (by simp) b _ _ (by omega) ?_ (ih (fun x hx => hs x (List.mem_cons_of_mem _ hx)) (by rw [List.length_append]; omega) hn q)
    rw [List.map_append] at hn
    exact (List.nodup_append.mp hn).1
theorem putD_new {b : List (Key × D)} {k : Key} {d : D} (h : ((b ++ [(k, d)]).map (·.1)).Nodup) : putD b k d = b ++ [(k, d)] := by
  unfold putD
  rw [if_neg]
  rw [Bool.not_eq_true, List.any_eq_false]
  intro x hx
  rw [decide_eq_true_eq]
  intro e
  rw [List.map_append, List.nodup_append] at h
  exact h.2.2 x.1 (List.mem_map_of_mem hx) k (by simp) e
theorem lookD_mem {l : List (Key × D)} {k : Key} {d : D} (h : (l.map (·.1)).Nodup) (hm : (k, d) ∈ l) : lookD l k = some d := by
  induction l with
  | nil => cases hm
  | cons x l ih =>
    rw [List.map_cons, List.nodup_cons] at h
    unfold lookD
    rw [List.find?_cons]
    rcases List.mem_cons.mp hm with e | hm
    · subst e
      simp
    · have : x.1 ≠ k := fun e => h.1 (e ▸ List.mem_map_of_mem (f := (·.1)) hm)
      simp only [this, decide_false]
      exact ih h.2 hm
end Dk

/-! Kinds of trees, in plain words. -/
namespace KB
open PySem L2 Dk
abbrev Bough := Str × List Str
abbrev Kind := Str × List Bough
def boughD (b : Bough) : D := .tup [.str b.1, .tup (b.2.map D.str)]
def kindD (k : Kind) : D := .tup [.str k.1, .tup (k.2.map boughD)]
def kindsD (ks : List Kind) : D := .tup (ks.map kindD)
def numS : Str := "num"
def signOk (c : Nat) : Bool := decide (97 ≤ c) && decide (c ≤ 122)
def nameOk (x : Str) : Bool := decide (1 ≤ x.length) && (decide (x.length ≤ 8) && (!decide (x = numS) && x.cps.toList.all signOk))
theorem nameOk_split {x : Str} (h : nameOk x = true) : 1 ≤ x.length ∧ x.length ≤ 8 ∧ x ≠ numS ∧ ∀ c ∈ x.cps.toList, 97 ≤ c ∧ c ≤ 122 := by
  unfold nameOk at h
  simp only [Bool.and_eq_true, decide_eq_true_eq, Bool.not_eq_true', decide_eq_false_iff_not, List.all_eq_true] at h
  obtain ⟨a, b, c, d⟩ := h
  refine ⟨a, b, c, fun x hx => ?_⟩
  have := d x hx
  unfold signOk at this
  simpa using this
def kNames (ks : List Kind) : List Str := ks.map (·.1)
def bNames (ks : List Kind) : List Str := ks.flatMap fun k => k.2.map (·.1)
def fNames (ks : List Kind) : List Str := ks.flatMap fun k => k.2.flatMap fun b => b.2
/-- what the fields of a bough weigh -/
def wsum (s : Str → Nat) (fs : List Str) : Nat := ((fs.filter fun f => !decide (f = numS)).map s).sum
structure Good (ks : List Kind) : Prop where
  ne : ks ≠ []
  kn : ∀ k ∈ ks, nameOk k.1 = true
  kb : ∀ k ∈ ks, k.2 ≠ []
  bn : ∀ k ∈ ks, ∀ b ∈ k.2, nameOk b.1 = true
  nd : (kNames ks).Nodup
  bd : (bNames ks).Nodup
  fl : ∀ k ∈ ks, ∀ b ∈ k.2, ∀ f ∈ b.2, f = numS ∨ f ∈ kNames ks
  wf : ∃ r s : Str → Nat, ∀ k ∈ ks, r k.1 < ks.length ∧ s k.1 ≤ 29 ∧ ∃ b ∈ k.2, (∀ f ∈ b.2, f = numS ∨ (f ∈ kNames ks ∧ r f < r k.1)) ∧ 1 + wsum s b.2 ≤ s k.1
  s1 : ks.length ≤ 6
  s2 : ∀ k ∈ ks, k.2.length ≤ 8
  s3 : ∀ k ∈ ks, ∀ b ∈ k.2, b.2.length ≤ 8
theorem Good.wf0 {ks : List Kind} (g : Good ks) : ∃ r : Str → Nat, ∀ k ∈ ks, r k.1 < ks.length ∧ ∃ b ∈ k.2, ∀ f ∈ b.2, f = numS ∨ (f ∈ kNames ks ∧ r f < r k.1) :=
  let ⟨r, s, h⟩ := g.wf
  ⟨r, fun k hk => let ⟨h1, h2, b, hb, h3, h4⟩ := h k hk; ⟨h1, b, hb, h3⟩⟩
theorem strOk_name {x : Str} (h : nameOk x = true) : PyData.strOk x = true := by
  unfold PyData.strOk
  rw [← Array.all_toList, List.all_eq_true]
  intro c hc
  have := (nameOk_split h).2.2.2 c hc
  simp
  omega
theorem okN_name {x : Str} (h : nameOk x = true) : OkN 0 (.str x) := okN_str (strOk_name h)
theorem okN_num : OkN 0 (.str numS) := okN_str (by decide +kernel)
theorem Good.field {ks : List Kind} (g : Good ks) {k : Kind} (hk : k ∈ ks) {b : Bough} (hb : b ∈ k.2) {f : Str} (hf : f ∈ b.2) : OkN 0 (.str f) := by
  rcases g.fl k hk b hb f hf with rfl | h
  · exact okN_num
  · obtain ⟨k', h1, rfl⟩ := List.mem_map.mp h
    exact okN_name (g.kn k' h1)
theorem Good.okBough {ks : List Kind} (g : Good ks) {k : Kind} (hk : k ∈ ks) {b : Bough} (hb : b ∈ k.2) : OkN 2 (boughD b) := okN_tup (k := 1) fun x hx => by
  simp only [List.mem_cons, List.not_mem_nil, or_false] at hx
  rcases hx with rfl | rfl
  · exact (okN_name (g.bn k hk b hb)).mono (by decide)
  · refine okN_tup (k := 0) fun y hy => ?_
    obtain ⟨f, hf, rfl⟩ := List.mem_map.mp hy
    exact g.field hk hb hf
theorem Good.okKind {ks : List Kind} (g : Good ks) {k : Kind} (hk : k ∈ ks) : OkN 4 (kindD k) := okN_tup (k := 3) fun x hx => by
  simp only [List.mem_cons, List.not_mem_nil, or_false] at hx
  rcases hx with rfl | rfl
  · exact (okN_name (g.kn k hk)).mono (by decide)
  · refine okN_tup (k := 2) fun y hy => ?_
    obtain ⟨b, hb, rfl⟩ := List.mem_map.mp hy
    exact g.okBough hk hb
theorem Good.ok {ks : List Kind} (g : Good ks) : OkN 5 (kindsD ks) := okN_tup (k := 4) fun x hx => by
  obtain ⟨k, hk, rfl⟩ := List.mem_map.mp hx
  exact g.okKind hk
/-! ### what Python asks of it -/
theorem deq_strs (x y : Str) : deq (.str x) (.str y) = decide (x = y) := by simp [deq, toPy, PyData.eqv]; rfl
theorem in_abc {c : Nat} : subS ⟨#[c]⟩ "abcdefghijklmnopqrstuvwxyz" = signOk c := by
  rw [subS_one]
  have e : ("abcdefghijklmnopqrstuvwxyz" : Str).cps.toList = (List.range 26).map (97 + ·) := by decide +kernel
  rw [e]
  unfold signOk
  by_cases h : 97 ≤ c ∧ c ≤ 122
  · have : c ∈ (List.range 26).map (97 + ·) := List.mem_map.mpr ⟨c - 97, List.mem_range.mpr (by omega), by omega⟩
    simp [this, h.1, h.2]
  · have : c ∉ (List.range 26).map (97 + ·) := by
      intro hc
      obtain ⟨d, h1, h2⟩ := List.mem_map.mp hc
      have := List.mem_range.mp h1
      omega
    simp only [this, decide_false]
    symm
    rw [Bool.and_eq_false_iff]
    by_cases h1 : 97 ≤ c
    · right; simp; omega
    · left; simp; omega
theorem in_names {xs : List Str} {f : Str} (ok : ∀ x ∈ xs, OkN 0 (.str x)) (hf : OkN 0 (.str f)) {Q : D → Prop} (q : Q (.bl (decide (f ∈ xs)))) : inD false (.str f) (.lst (xs.map D.str)) Q := by
  refine ⟨hf.okE (by decide), (okN_lst (k := 0) fun x hx => ?_).okE (by decide), ?_⟩
  · obtain ⟨y, hy, rfl⟩ := List.mem_map.mp hx
    exact ok y hy
  · have e : ((xs.map D.str).any fun z => deq z (.str f)) = decide (f ∈ xs) := by
      rw [List.any_map, List.any_eq]
      congr 1
      simp only [Function.comp_apply, deq_strs, decide_eq_true_eq, eq_iff_iff]
      exact ⟨fun ⟨x, h1, h2⟩ => h2 ▸ h1, fun h => ⟨f, h, rfl⟩⟩
    rw [e]
    exact q
/-- the names of a dict -/
def hasN (kvs : List (Key × D)) (f : Str) : Bool := (lookD kvs (.inr f)).isSome
theorem hasN_put (kvs : List (Key × D)) (n : Str) (d : D) (f : Str) : hasN (putD kvs (.inr n) d) f = (hasN kvs f || decide (f = n)) := by
  have main : ∀ kvs : List (Key × D), (lookD (putD kvs (.inr n) d) (.inr f)).isSome = ((lookD kvs (.inr f)).isSome || decide (f = n)) := by
    intro kvs
    have any_iff : ∀ (l : List (Key × D)) (k : Key), (lookD l k).isSome = l.any fun kv => decide (kv.1 = k) := by
      intro l k
      unfold lookD
      rw [Option.isSome_map, Bool.eq_iff_iff, List.find?_isSome, List.any_eq_true]
    rw [any_iff, any_iff]
    unfold putD
    split
    · rename_i hc
      have e : ((kvs.map fun kv => if kv.1 = .inr n then (kv.1, d) else kv).any fun kv => decide (kv.1 = (.inr f : Key))) = kvs.any fun kv => decide (kv.1 = (.inr f : Key)) := by
        rw [List.any_map]
        congr 1
        funext kv
        simp only [Function.comp_apply]
        split <;> rfl
      rw [e]
      by_cases hf : f = n
      · subst hf; rw [hc]; simp
      · simp [hf]
    · rw [List.any_append]
      congr 1
      simp only [List.any_cons, List.any_nil, Bool.or_false]
      rw [decide_eq_decide]
      exact ⟨fun h => (Sum.inr.inj h).symm, fun h => by rw [h]⟩
  exact main kvs
end KB

namespace KB
open PySem L2 Dk
open PyProof.Rows (envOfC)
def top (i : Nat) : Stmt := PySem.Challenge.pw_dressedkinds_k08_worths_of_anything.main.body.getD i (.Pass ⟨0, 0, 0, 0⟩)
abbrev s_is_name : Stmt := top 6
theorem sc_is_name : FnScope ["thing", "sign"] ["thing"] (defScope s_is_name) := ⟨rfl, rfl, rfl, by decide +kernel, rfl, by decide +kernel, by decide +kernel⟩
theorem bd_is_name (kV doc pm : Value) (an : Option Addr) (cdv ct : Value) (us : List Value) (hl : us.length = 1) : bindArgs (PySem.W.fnOf "is_name" "is_name" (defArgs s_is_name) (defBody s_is_name) (defScope s_is_name) .none kV doc pm an cdv ct) ⟨us, []⟩ = pure ((["thing"] : List Str).zip us) := by
  match us, hl with
  | [v0], _ => rfl
abbrev s_is_bough : Stmt := top 17
theorem sc_is_bough : FnScope ["thing", "field"] ["thing"] (defScope s_is_bough) := ⟨rfl, rfl, rfl, by decide +kernel, rfl, by decide +kernel, by decide +kernel⟩
theorem bd_is_bough (kV doc pm : Value) (an : Option Addr) (cdv ct : Value) (us : List Value) (hl : us.length = 1) : bindArgs (PySem.W.fnOf "is_bough" "is_bough" (defArgs s_is_bough) (defBody s_is_bough) (defScope s_is_bough) .none kV doc pm an cdv ct) ⟨us, []⟩ = pure ((["thing"] : List Str).zip us) := by
  match us, hl with
  | [v0], _ => rfl
abbrev s_is_kind : Stmt := top 18
theorem sc_is_kind : FnScope ["thing", "bough"] ["thing"] (defScope s_is_kind) := ⟨rfl, rfl, rfl, by decide +kernel, rfl, by decide +kernel, by decide +kernel⟩
theorem bd_is_kind (kV doc pm : Value) (an : Option Addr) (cdv ct : Value) (us : List Value) (hl : us.length = 1) : bindArgs (PySem.W.fnOf "is_kind" "is_kind" (defArgs s_is_kind) (defBody s_is_kind) (defScope s_is_kind) .none kV doc pm an cdv ct) ⟨us, []⟩ = pure ((["thing"] : List Str).zip us) := by
  match us, hl with
  | [v0], _ => rfl
abbrev s_are_unlike : Stmt := top 19
theorem sc_are_unlike : FnScope ["names", "name"] ["names"] (defScope s_are_unlike) := ⟨rfl, rfl, rfl, by decide +kernel, rfl, by decide +kernel, by decide +kernel⟩
theorem bd_are_unlike (kV doc pm : Value) (an : Option Addr) (cdv ct : Value) (us : List Value) (hl : us.length = 1) : bindArgs (PySem.W.fnOf "are_unlike" "are_unlike" (defArgs s_are_unlike) (defBody s_are_unlike) (defScope s_are_unlike) .none kV doc pm an cdv ct) ⟨us, []⟩ = pure ((["names"] : List Str).zip us) := by
  match us, hl with
  | [v0], _ => rfl
abbrev s_is_kinds : Stmt := top 20
theorem sc_is_kinds : FnScope ["thing", "kind", "names", "name", "boughs", "bough", "fields", "some", "field"] ["thing"] (defScope s_is_kinds) := ⟨rfl, rfl, rfl, by decide +kernel, rfl, by decide +kernel, by decide +kernel⟩
theorem bd_is_kinds (kV doc pm : Value) (an : Option Addr) (cdv ct : Value) (us : List Value) (hl : us.length = 1) : bindArgs (PySem.W.fnOf "is_kinds" "is_kinds" (defArgs s_is_kinds) (defBody s_is_kinds) (defScope s_is_kinds) .none kV doc pm an cdv ct) ⟨us, []⟩ = pure ((["thing"] : List Str).zip us) := by
  match us, hl with
  | [v0], _ => rfl
abbrev s_with_worths : Stmt := top 21
theorem sc_with_worths : FnScope ["kinds", "found", "turn", "name", "boughs", "field", "bough", "fields"] ["kinds"] (defScope s_with_worths) := ⟨rfl, rfl, rfl, by decide +kernel, rfl, by decide +kernel, by decide +kernel⟩
theorem bd_with_worths (kV doc pm : Value) (an : Option Addr) (cdv ct : Value) (us : List Value) (hl : us.length = 1) : bindArgs (PySem.W.fnOf "with_worths" "with_worths" (defArgs s_with_worths) (defBody s_with_worths) (defScope s_with_worths) .none kV doc pm an cdv ct) ⟨us, []⟩ = pure ((["kinds"] : List Str).zip us) := by
  match us, hl with
  | [v0], _ => rfl
structure TxtB (K : PySem.W.Frag) (C : Addr) (mg : Str → Option Value) : Prop where
  g_LETTERS : ∃ t, mg "LETTERS" = some (.str "abcdefghijklmnopqrstuvwxyz" t)
  g_LONGEST : ∃ t, mg "LONGEST" = some (.int 8 t)
  g_NUM : ∃ t, mg "NUM" = some (.str "num" t)
  b_isinstance : mg "isinstance" = none
  b_str : mg "str" = none
  b_tuple : mg "tuple" = none
  b_len : mg "len" = none
  b_all : mg "all" = none
  b_any : mg "any" = none
  b_range : mg "range" = none
  b_sum : mg "sum" = none
  b_min : mg "min" = none
  b_max : mg "max" = none
  b_int : mg "int" = none
  b_repr : mg "repr" = none
  b_list : mg "list" = none
  b_sorted : mg "sorted" = none
  b_zip : mg "zip" = none
  cl_Book : Cls K C
  na_Book_kinds : NoAttr K C "kinds"
  na_Book_names_by : NoAttr K C "names_by"
  na_Book_kinds_by : NoAttr K C "kinds_by"
  na_Book_fields_by : NoAttr K C "fields_by"
def spOne (R : D → Prop) : DSp where
  n := 1
  f := fun ds Q _ => ∃ x, ds = [x] ∧ R x ∧ Q (.bl true)
  len := fun ds Q E ⟨m, e, _⟩ => by rw [e]; rfl
  mono := fun ds Q Q' E E' k _ ⟨m, e, h, q⟩ => ⟨m, e, h, k _ q⟩
def spIsName : DSp := spOne fun d => ∃ x, d = .str x ∧ nameOk x = true
def spIsBough : DSp := spOne fun d => ∃ b : Bough, d = boughD b ∧ nameOk b.1 = true ∧ b.2.length ≤ 8
def spIsKind : DSp := spOne fun d => ∃ k : Kind, d = kindD k ∧ nameOk k.1 = true ∧ k.2 ≠ [] ∧ k.2.length ≤ 8 ∧ (∀ b ∈ k.2, nameOk b.1 = true ∧ b.2.length ≤ 8) ∧ OkN 4 (kindD k)
def spUnlike : DSp := spOne fun d => ∃ xs : List Str, d = .lst (xs.map D.str) ∧ xs.Nodup ∧ xs.length ≤ 1000
def spIsKinds : DSp := spOne fun d => ∃ ks, d = kindsD ks ∧ Good ks
section
variable {P : Program} {w : World} {K : PySem.W.Frag} {C : Addr} {mg : Str → Option Value} {base : Heap} {W : Wd} {k : Nat} {f : Addr} {fd : FuncData}
theorem all_true {α : Type} (l : List α) : ∃ ns : List Bool, (l.map fun _ => D.bl true) = ns.map D.bl ∧ ns.all id = true := ⟨l.map fun _ => true, by rw [List.map_map]; rfl, by simp⟩
theorem ok_is_name (T : TxtB K C mg) (Fn : Fun K "is_name" "is_name" s_is_name f fd) : GnOk P w K mg base CX0 (k + 1) f fd ["thing"] (spD W K spIsName) := by
  refine Fn.okD sc_is_name rfl fun cdv A outer s H I ds Q Ed E hr h => ?_
  have hu := hr.units
  have hu2 : (A.deeper (envOfC "is_name" (defScope s_is_name) s.heap.objs.size f cdv)).units + 66 < cLine := by have := hr.room.un; omega
  obtain ⟨_, rfl, ⟨x, rfl, hx⟩, q⟩ := h
  refine ⟨_, (dss_cons (ds_if (dt_wh (dw_or (dt_not (dt_val (de_isi is_str T.b_isinstance T.b_str (by decide +kernel) (de_name 0)))) (dw_or (dt_not (dt_chain .le .le de_int (de_len T.b_len (da_cons (de_name 0) da_nil)) (de_gi T.g_LONGEST))) (dw_or1 (dt_c (.eq hu) (de_name 0) (de_gs T.g_NUM))))))
  (dss_one (ds_ret de_bl))
  dss_nil)
  (dss_one (ds_ret (de_all rfl T.b_all (da_cons (de_lc (own := [("sign", 1)]) rfl sc_is_name.nd (di_seq (de_name 0)) (blkOk_by (own := [("sign", 1)]) (N := ["thing", "sign"]) (sc := defScope s_is_name) (by decide +kernel)) (fun _ _ _ _ _ => (dg_name 1 sc_is_name.nd)) (fun _ _ _ _ _ => dif_nil) (fun _ _ _ _ _ => (de_in hu2 (de_name 1) (de_gs T.g_LETTERS)))) da_nil))))), ?_⟩
  obtain ⟨h1, h2, h3, h4⟩ := nameOk_split hx
  have hl : x.length ≤ sizeLine := Nat.le_trans h2 (by decide)
  simp only [getD_0, getD_s, set_0, set_s, boolD_bl, intD_int, startD, List.map, List.length_cons, List.length_nil, List.replicate, List.cons_append, List.nil_append, defEnds]
  refine ⟨rfl, ?_⟩
  simp only [isStr, Bool.not_true, Bool.false_eq_true, if_false, lenD, leD]
  refine ⟨hl, ?_⟩
  simp only [getD_0, getD_s, set_0, set_s, boolD_bl, intD_int, startD, List.map, List.length_cons, List.length_nil, List.replicate, List.cons_append, List.nil_append, defEnds]
  rw [if_pos (by simp; omega), if_neg (by simp; omega)]
  simp only [eqD_str, getD_0, getD_s, set_0, set_s, boolD_bl, intD_int, startD, List.map, List.length_cons, List.length_nil, List.replicate, List.cons_append, List.nil_append, defEnds]
  rw [if_neg (by rw [decide_eq_true_eq]; exact h3)]
  simp only [itemsD]
  have e : sgnD x = x.cps.toList.map fun c => D.str ⟨#[c]⟩ := rfl
  rw [e]
  refine ⟨by rw [List.length_map]; exact hl, lcD_all (fun c => D.str ⟨#[c]⟩) (fun _ => .bl true) (fun c hc R S r => ?_) ?_⟩
  · simp only [wipeD, getD_0, getD_s, set_0, set_s, boolD_bl, intD_int, startD, List.map, List.length_cons, List.length_nil, List.replicate, List.cons_append, List.nil_append, defEnds, if_true]
    refine ⟨_, rfl, ?_⟩
    rw [in_abc]
    have : signOk c = true := by have := h4 c hc; unfold signOk; simp [this]
    rw [this]
    exact r
  · obtain ⟨ns, e1, e2⟩ := all_true x.cps.toList
    exact ⟨ns, e1, by rw [e2]; exact q⟩
theorem ok_is_bough (T : TxtB K C mg) (Fn : Fun K "is_bough" "is_bough" s_is_bough f fd) (C_is_name : Cal P w K mg base CX0 W k "is_name" ["thing"] spIsName) : GnOk P w K mg base CX0 (k + 1) f fd ["thing"] (spD W K spIsBough) := by
  refine Fn.okD sc_is_bough rfl fun cdv A outer s H I ds Q Ed E hr h => ?_
  have hu := hr.units
  obtain ⟨_, rfl, ⟨b, rfl, hb, h8⟩, q⟩ := h
  refine ⟨_, (dss_cons (ds_if (dt_wh (dw_or (dt_not (dt_val (de_isi is_tup T.b_isinstance T.b_tuple (by decide +kernel) (de_name 0)))) (dw_or (dt_c (.ne hu) (de_len T.b_len (da_cons (de_name 0) da_nil)) de_int) (dw_or (dt_not (dt_val (de_fn C_is_name (hr.mono (by omega)) pass0 lets0 (da_cons (de_at hu (de_name 0) de_int) da_nil)))) (dw_or1 (dt_not (dt_val (de_isi is_tup T.b_isinstance T.b_tuple (by decide +kernel) (de_at hu (de_name 0) de_int)))))))))
  (dss_one (ds_ret de_bl))
  dss_nil)
  (dss_one (ds_ret (de_all rfl T.b_all (da_cons (de_lc (own := [("field", 1)]) rfl sc_is_bough.nd (di_seq (de_at hu (de_name 0) de_int)) (blkOk_by (own := [("field", 1)]) (N := ["thing", "field"]) (sc := defScope s_is_bough) (by decide +kernel)) (fun _ _ _ _ _ => (dg_name 1 sc_is_bough.nd)) (fun _ _ _ _ _ => dif_nil) (fun _ _ _ _ _ => (de_isi is_str T.b_isinstance T.b_str (by decide +kernel) (de_name 1)))) da_nil))))), ?_⟩
  simp only [getD_0, getD_s, set_0, set_s, boolD_bl, intD_int, startD, List.map, List.length_cons, List.length_nil, List.replicate, List.cons_append, List.nil_append, defEnds, boughD]
  refine ⟨rfl, ?_⟩
  simp only [isTup, Bool.not_true, Bool.false_eq_true, if_false, lenD]
  simp only [neD_int, getD_0, getD_s, set_0, set_s, boolD_bl, intD_int, startD, List.map, List.length_cons, List.length_nil, List.replicate, List.cons_append, List.nil_append, defEnds, Bool.not_true, Bool.false_eq_true, if_false]
  rw [if_neg (by decide)]
  refine ⟨_, rfl, _, rfl, ⟨_, rfl, hb⟩, ?_⟩
  simp only [getD_0, getD_s, set_0, set_s, boolD_bl, intD_int, startD, List.map, List.length_cons, List.length_nil, List.replicate, List.cons_append, List.nil_append, defEnds, Bool.not_true, Bool.false_eq_true, if_false]
  refine ⟨_, rfl, rfl, ?_⟩
  simp only [isTup, Bool.not_true, Bool.false_eq_true, if_false]
  refine ⟨_, rfl, ?_⟩
  simp only [itemsD]
  refine ⟨Nat.le_trans (by rw [List.length_map]; exact h8) (by decide), lcD_all D.str (fun _ => .bl true) (fun c hc R S r => ?_) ?_⟩
  · simp only [wipeD, getD_0, getD_s, set_0, set_s, boolD_bl, intD_int, startD, List.map, List.length_cons, List.length_nil, List.replicate, List.cons_append, List.nil_append, defEnds, if_true]
    exact ⟨rfl, r⟩
  · obtain ⟨ns, e1, e2⟩ := all_true b.2
    exact ⟨ns, e1, by rw [e2]; exact q⟩
theorem ok_is_kind (T : TxtB K C mg) (Fn : Fun K "is_kind" "is_kind" s_is_kind f fd) (C_is_name : Cal P w K mg base CX0 W k "is_name" ["thing"] spIsName) (C_is_bough : Cal P w K mg base CX0 W k "is_bough" ["thing"] spIsBough) : GnOk P w K mg base CX0 (k + 1) f fd ["thing"] (spD W K spIsKind) := by
  refine Fn.okD sc_is_kind rfl fun cdv A outer s H I ds Q Ed E hr h => ?_
  have hu := hr.units
  obtain ⟨_, rfl, ⟨a, rfl, ha, hne, h8, hb, okk⟩, q⟩ := h
  refine ⟨_, (dss_cons (ds_if (dt_wh (dw_or (dt_not (dt_val (de_isi is_tup T.b_isinstance T.b_tuple (by decide +kernel) (de_name 0)))) (dw_or (dt_c (.ne hu) (de_len T.b_len (da_cons (de_name 0) da_nil)) de_int) (dw_or (dt_not (dt_val (de_fn C_is_name (hr.mono (by omega)) pass0 lets0 (da_cons (de_at hu (de_name 0) de_int) da_nil)))) (dw_or1 (dt_not (dt_val (de_isi is_tup T.b_isinstance T.b_tuple (by decide +kernel) (de_at hu (de_name 0) de_int)))))))))
  (dss_one (ds_ret de_bl))
  dss_nil)
  (dss_one (ds_ret (de_and (de_c (.ne hu) (de_at hu (de_name 0) de_int) (de_tup da_nil)) (de_one (de_all rfl T.b_all (da_cons (de_lc (own := [("bough", 1)]) rfl sc_is_kind.nd (di_seq (de_at hu (de_name 0) de_int)) (blkOk_by (own := [("bough", 1)]) (N := ["thing", "bough"]) (sc := defScope s_is_kind) (by decide +kernel)) (fun _ _ _ _ _ => (dg_name 1 sc_is_kind.nd)) (fun _ _ _ _ _ => dif_nil) (fun _ _ _ _ _ => (de_fn C_is_bough (hr.mono (by omega)) pass0 lets0 (da_cons (de_name 1) da_nil)))) da_nil))))))), ?_⟩
  simp only [getD_0, getD_s, set_0, set_s, boolD_bl, intD_int, startD, List.map, List.length_cons, List.length_nil, List.replicate, List.cons_append, List.nil_append, defEnds, kindD]
  refine ⟨rfl, ?_⟩
  simp only [isTup, Bool.not_true, Bool.false_eq_true, if_false, lenD]
  simp only [neD_int, getD_0, getD_s, set_0, set_s, boolD_bl, intD_int, startD, List.map, List.length_cons, List.length_nil, List.replicate, List.cons_append, List.nil_append, defEnds, Bool.not_true, Bool.false_eq_true, if_false]
  rw [if_neg (by decide)]
  refine ⟨_, rfl, _, rfl, ⟨_, rfl, ha⟩, ?_⟩
  simp only [getD_0, getD_s, set_0, set_s, boolD_bl, intD_int, startD, List.map, List.length_cons, List.length_nil, List.replicate, List.cons_append, List.nil_append, defEnds, Bool.not_true, Bool.false_eq_true, if_false]
  refine ⟨_, rfl, rfl, ?_⟩
  simp only [isTup, Bool.not_true, Bool.false_eq_true, if_false]
  refine ⟨_, rfl, by decide, ?_⟩
  have okt : OkN 3 (.tup (a.2.map boughD)) := by
    have p := okk.pl
    have c := okk.cl
    have d := okk.dp
    simp only [kindD, toPy, toPys, plainD, plainDs, PyData.canLay0, PyData.canLayAll0, PyData.depth, PyData.depthAll, Bool.and_eq_true] at p c d
    exact ⟨p.2.1, by simpa [toPy, PyData.canLay0] using c.2.1, by simp only [toPy, PyData.depth]; omega⟩
  have e0 : deq (.tup (a.2.map boughD)) (.tup []) = false := by
    cases hq : a.2 with
    | nil => exact absurd hq hne
    | cons x xs => simp [deq, toPy, toPys, PyData.eqv, PyData.eqvAll]
  refine ⟨?_, ?_⟩
  · unfold canEq
    rw [okt.okE (by decide), (okN_tup (k := 0) (xs := []) (by simp)).okE (by decide)]
    simp
  rw [e0]
  simp only [getD_0, getD_s, set_0, set_s, boolD_bl, intD_int, startD, List.map, List.length_cons, List.length_nil, List.replicate, List.cons_append, List.nil_append, defEnds, Bool.not_false, if_true]
  refine ⟨_, rfl, ?_⟩
  simp only [itemsD]
  refine ⟨Nat.le_trans (by rw [List.length_map]; exact h8) (by decide), lcD_all boughD (fun _ => .bl true) (fun b hbm R S r => ?_) ?_⟩
  · simp only [wipeD, getD_0, getD_s, set_0, set_s, boolD_bl, intD_int, startD, List.map, List.length_cons, List.length_nil, List.replicate, List.cons_append, List.nil_append, defEnds, if_true]
    exact ⟨_, rfl, ⟨b, rfl, (hb b hbm).1, (hb b hbm).2⟩, r⟩
  · obtain ⟨ns, e1, e2⟩ := all_true a.2
    exact ⟨ns, e1, by rw [e2]; exact q⟩
theorem addK_nodup (xs : List Str) : ∀ (pre : List Str), (pre ++ xs).Nodup → (xs.map Sum.inr).foldl addK (pre.map (Sum.inr : Str → Key)) = (pre ++ xs).map Sum.inr := by
  induction xs with
  | nil => intro pre _; simp
  | cons x xs ih =>
    intro pre h
    have hx : x ∉ pre := by
      rw [List.nodup_append] at h
      exact fun hm => h.2.2 x hm x (by simp) rfl
    have e : addK (pre.map Sum.inr) (Sum.inr x : Key) = (pre ++ [x]).map Sum.inr := by
      unfold addK
      rw [if_neg]
      · simp
      · unfold hasK
        rw [List.any_map, Bool.not_eq_true, List.any_eq_false]
        intro y hy
        simp only [Function.comp_apply, decide_eq_true_eq]
        exact fun z => hx (Sum.inr.inj z ▸ hy)
    rw [List.map_cons, List.foldl_cons, e, ih (pre ++ [x]) (by simpa using h)]
    simp
theorem ok_are_unlike (T : TxtB K C mg) (Fn : Fun K "are_unlike" "are_unlike" s_are_unlike f fd) : GnOk P w K mg base CX0 (k + 1) f fd ["names"] (spD W K spUnlike) := by
  refine Fn.okD sc_are_unlike rfl fun cdv A outer s H I ds Q Ed E hr h => ?_
  have hu := hr.units
  obtain ⟨_, rfl, ⟨xs, rfl, hn, hl⟩, q⟩ := h
  refine ⟨_, (dss_one (ds_ret (de_c (.eq hu) (de_lenSc (own := [("name", 1)]) T.b_len rfl sc_are_unlike.nd (di_seq (de_name 0)) (blkOk_by (own := [("name", 1)]) (N := ["names", "name"]) (sc := defScope s_are_unlike) (by decide +kernel)) (fun _ _ _ _ _ => (dg_name 1 sc_are_unlike.nd)) (fun _ _ _ _ _ => dif_nil) (fun _ _ _ _ _ => (dn_nil rfl (dm_set (fun _ _ z => z) (de_name 1))))) (de_len T.b_len (da_cons (de_name 0) da_nil))))), ?_⟩
  simp only [getD_0, getD_s, set_0, set_s, boolD_bl, intD_int, startD, List.map, List.length_cons, List.length_nil, List.replicate, List.cons_append, List.nil_append, defEnds, itemsD, wipeD]
  have run : ∀ (ys pre : List Str) (R : List Key → Prop), (pre ++ ys).Nodup → (pre ++ ys).length ≤ 1000 → R ((pre ++ ys).map Sum.inr) → loopD (fun d ρ Q => Q (List.set ρ 1 (some (Ent.dat d)))) (fun x Q => Q true) (fun ρ b Q => getD ρ 1 fun y => ∃ k, y = keyD k ∧ b.length < 4000 ∧ Q (addK b k)) [some (Ent.dat (D.lst (xs.map D.str))), none] (ys.map D.str) (pre.map (Sum.inr : Str → Key)) R := by
    intro ys
    induction ys with
    | nil => intro pre R _ _ q; simpa [loopD] using q
    | cons y ys ih =>
      intro pre R hn hl q
      have e : addK (pre.map Sum.inr) (Sum.inr y : Key) = (pre ++ [y]).map Sum.inr := addK_nodup [y] pre (by
        have : (pre ++ [y] ++ ys).Nodup := by simpa using hn
        exact (List.nodup_append.mp this).1)
      simp only [List.map_cons, loopD, getD_0, getD_s, set_0, set_s, boolD_bl, intD_int, startD, List.map, List.length_cons, List.length_nil, List.replicate, List.cons_append, List.nil_append, defEnds, if_true]
      refine ⟨.inr y, rfl, by rw [List.length_map]; simp at hl; omega, ?_⟩
      rw [e]
      exact ih (pre ++ [y]) R (by simpa using hn) (by simpa using hl) (by simpa using q)
  refine run xs [] _ (by simpa using hn) (by simpa using hl) ?_
  simp only [lenD, List.length_map, List.nil_append, eqD_int, decide_true]
  exact q
end
end KB

namespace KB
open PySem L2 Dk
open PyProof.Rows (envOfC)
section
variable {P : Program} {w : World} {K : PySem.W.Frag} {C : Addr} {mg : Str → Option Value} {base : Heap} {W : Wd} {k : Nat} {f : Addr} {fd : FuncData}
theorem ok_is_kinds (T : TxtB K C mg) (Fn : Fun K "is_kinds" "is_kinds" s_is_kinds f fd) (C_is_kind : Cal P w K mg base CX0 W k "is_kind" ["thing"] spIsKind) (C_are_unlike : Cal P w K mg base CX0 W k "are_unlike" ["names"] spUnlike) : GnOk P w K mg base CX0 (k + 1) f fd ["thing"] (spD W K spIsKinds) := by
  refine Fn.okD sc_is_kinds rfl fun cdv A outer s H I ds Q Ed E hr h => ?_
  have hu := hr.units
  have hu2 : (A.deeper (envOfC "is_kinds" (defScope s_is_kinds) s.heap.objs.size f cdv)).units + 66 < cLine := by have := hr.room.un; omega
  obtain ⟨_, rfl, ⟨ks, rfl, g⟩, q⟩ := h
  refine ⟨_, (dss_cons (ds_if (dt_wh (dw_or (dt_not (dt_val (de_isi is_tup T.b_isinstance T.b_tuple (by decide +kernel) (de_name 0)))) (dw_or (dt_c (.eq hu) (de_name 0) (de_tup da_nil)) (dw_or1 (dt_not (dt_val (de_all rfl T.b_all (da_cons (de_lc (own := [("kind", 1)]) rfl sc_is_kinds.nd (di_seq (de_name 0)) (blkOk_by (own := [("kind", 1)]) (N := ["thing", "kind", "names", "name", "boughs", "bough", "fields", "some", "field"]) (sc := defScope s_is_kinds) (by decide +kernel)) (fun _ _ _ _ _ => (dg_name 1 sc_is_kinds.nd)) (fun _ _ _ _ _ => dif_nil) (fun _ _ _ _ _ => (de_fn C_is_kind (hr.mono (by omega)) pass0 lets0 (da_cons (de_name 1) da_nil)))) da_nil))))))))
  (dss_one (ds_ret de_bl))
  dss_nil)
  (dss_cons (by first | exact (ds_setLc (i := 2) (own := [("name", 3), ("boughs", 4)]) rfl sc_is_kinds.nd rfl rfl (sw_true rfl rfl rfl (by decide +kernel)) (di_seq (de_name 0)) (blkOk_by (own := [("name", 3), ("boughs", 4)]) (N := ["thing", "kind", "names", "name", "boughs", "bough", "fields", "some", "field"]) (sc := defScope s_is_kinds) (by decide +kernel)) (fun _ _ _ _ _ => (dg_tup (n := 2) rfl (dgs_cons (dg_name 3 sc_is_kinds.nd) (dgs_cons (dg_name 4 sc_is_kinds.nd) dgs_nil)))) (fun _ _ _ _ _ => dif_nil) (fun _ _ _ _ _ => (de_name 3))) | exact (ds_set 2 (de_lc (own := [("name", 3), ("boughs", 4)]) rfl sc_is_kinds.nd (di_seq (de_name 0)) (blkOk_by (own := [("name", 3), ("boughs", 4)]) (N := ["thing", "kind", "names", "name", "boughs", "bough", "fields", "some", "field"]) (sc := defScope s_is_kinds) (by decide +kernel)) (fun _ _ _ _ _ => (dg_tup (n := 2) rfl (dgs_cons (dg_name 3 sc_is_kinds.nd) (dgs_cons (dg_name 4 sc_is_kinds.nd) dgs_nil)))) (fun _ _ _ _ _ => dif_nil) (fun _ _ _ _ _ => (de_name 3))) sc_is_kinds.nd))
  (dss_cons (ds_if (dt_wh (dw_or (dt_not (dt_val (de_fn C_are_unlike (hr.mono (by omega)) pass0 lets0 (da_cons (de_name 2) da_nil)))) (dw_or1 (dt_not (dt_val (de_fn C_are_unlike (hr.mono (by omega)) pass0 lets0 (da_cons (de_cpL (own := [("name", 3), ("boughs", 4), ("bough", 5), ("fields", 6)]) rfl sc_is_kinds.nd (di_seq (de_name 0)) (blkOk_by (own := [("name", 3), ("boughs", 4), ("bough", 5), ("fields", 6)]) (N := ["thing", "kind", "names", "name", "boughs", "bough", "fields", "some", "field"]) (sc := defScope s_is_kinds) (by decide +kernel)) (fun _ _ _ _ _ => (dg_tup (n := 2) rfl (dgs_cons (dg_name 3 sc_is_kinds.nd) (dgs_cons (dg_name 4 sc_is_kinds.nd) dgs_nil)))) (fun _ _ _ _ _ => dif_nil) (fun _ _ _ _ _ => (dn_cons (fun _ _ z => z) rfl (cp_list _ _ _ _) rfl (fun g h => by first | (cases h; rfl) | cases h) HdL.mono (di_seq (de_name 4)) (dg_tup (n := 2) rfl (dgs_cons (dg_name 5 sc_is_kinds.nd) (dgs_cons (dg_name 6 sc_is_kinds.nd) dgs_nil))) dif_nil (dn_nil rfl (dm_list (fun _ _ z => z) (de_name 5))) (by intro _; rfl)))) da_nil)))))))
  (dss_one (ds_ret de_bl))
  dss_nil)
  (dss_cons (by first | exact (ds_setCpL (i := 7) (own := [("name", 3), ("boughs", 4), ("bough", 5), ("fields", 6), ("field", 8)]) rfl sc_is_kinds.nd rfl rfl (sw_true rfl rfl rfl (by decide +kernel)) (di_seq (de_name 0)) (blkOk_by (own := [("name", 3), ("boughs", 4), ("bough", 5), ("fields", 6), ("field", 8)]) (N := ["thing", "kind", "names", "name", "boughs", "bough", "fields", "some", "field"]) (sc := defScope s_is_kinds) (by decide +kernel)) (fun _ _ _ _ _ => (dg_tup (n := 2) rfl (dgs_cons (dg_name 3 sc_is_kinds.nd) (dgs_cons (dg_name 4 sc_is_kinds.nd) dgs_nil)))) (fun _ _ _ _ _ => dif_nil) (fun _ _ _ _ _ => (dn_cons (fun _ _ z => z) rfl (cp_list _ _ _ _) rfl (fun g h => by first | (cases h; rfl) | cases h) HdL.mono (di_seq (de_name 4)) (dg_tup (n := 2) rfl (dgs_cons (dg_name 5 sc_is_kinds.nd) (dgs_cons (dg_name 6 sc_is_kinds.nd) dgs_nil))) dif_nil (dn_cons (fun _ _ z => z) rfl (cp_list _ _ _ _) rfl (fun g h => by first | (cases h; rfl) | cases h) HdL.mono (di_seq (de_name 6)) (dg_name 8 sc_is_kinds.nd) dif_nil (dn_nil rfl (dm_list (fun _ _ z => z) (de_name 8))) (by intro _; rfl)) (by intro _; rfl)))) | exact (ds_set 7 (de_cpL (own := [("name", 3), ("boughs", 4), ("bough", 5), ("fields", 6), ("field", 8)]) rfl sc_is_kinds.nd (di_seq (de_name 0)) (blkOk_by (own := [("name", 3), ("boughs", 4), ("bough", 5), ("fields", 6), ("field", 8)]) (N := ["thing", "kind", "names", "name", "boughs", "bough", "fields", "some", "field"]) (sc := defScope s_is_kinds) (by decide +kernel)) (fun _ _ _ _ _ => (dg_tup (n := 2) rfl (dgs_cons (dg_name 3 sc_is_kinds.nd) (dgs_cons (dg_name 4 sc_is_kinds.nd) dgs_nil)))) (fun _ _ _ _ _ => dif_nil) (fun _ _ _ _ _ => (dn_cons (fun _ _ z => z) rfl (cp_list _ _ _ _) rfl (fun g h => by first | (cases h; rfl) | cases h) HdL.mono (di_seq (de_name 4)) (dg_tup (n := 2) rfl (dgs_cons (dg_name 5 sc_is_kinds.nd) (dgs_cons (dg_name 6 sc_is_kinds.nd) dgs_nil))) dif_nil (dn_cons (fun _ _ z => z) rfl (cp_list _ _ _ _) rfl (fun g h => by first | (cases h; rfl) | cases h) HdL.mono (di_seq (de_name 6)) (dg_name 8 sc_is_kinds.nd) dif_nil (dn_nil rfl (dm_list (fun _ _ z => z) (de_name 8))) (by intro _; rfl)) (by intro _; rfl)))) sc_is_kinds.nd))
  (dss_one (ds_ret (de_all rfl T.b_all (da_cons (de_lc (own := [("field", 8)]) rfl sc_is_kinds.nd (di_seq (de_name 7)) (blkOk_by (own := [("field", 8)]) (N := ["thing", "kind", "names", "name", "boughs", "bough", "fields", "some", "field"]) (sc := defScope s_is_kinds) (by decide +kernel)) (fun _ _ _ _ _ => (dg_name 8 sc_is_kinds.nd)) (fun _ _ _ _ _ => dif_nil) (fun _ _ _ _ _ => (de_or (de_c (.eq hu) (de_name 8) (de_gs T.g_NUM)) (de_one (de_in hu2 (de_name 8) (de_name 2)))))) da_nil)))))))), ?_⟩
  simp only [getD_0, getD_s, set_0, set_s, boolD_bl, intD_int, startD, List.map, List.length_cons, List.length_nil, List.replicate, List.cons_append, List.nil_append, defEnds, wipeD, if_true, if_false, Bool.not_true, Bool.not_false, Bool.false_eq_true]
  simp only [kindsD]
  refine ⟨rfl, ?_⟩
  simp only [isTup, Bool.not_true, Bool.false_eq_true, if_false]
  have okk := g.ok
  have e0 : deq (.tup (ks.map kindD)) (.tup []) = false := by
    cases hq : ks with
    | nil => exact absurd hq g.ne
    | cons x xs => simp [deq, toPy, toPys, PyData.eqv, PyData.eqvAll]
  refine ⟨Nat.zero_le _, ?_, ?_⟩
  · unfold canEq
    rw [show okE (.tup (ks.map kindD)) = true from okk.okE (by decide), (okN_tup (k := 0) (xs := []) (by simp)).okE (by decide)]
    simp
  rw [e0]
  simp only [getD_0, getD_s, set_0, set_s, boolD_bl, intD_int, startD, List.map, List.length_cons, List.length_nil, List.replicate, List.cons_append, List.nil_append, defEnds, wipeD, if_true, if_false, Bool.not_true, Bool.not_false, Bool.false_eq_true]
  have lk : (ks.map kindD).length ≤ sizeLine := by rw [List.length_map]; exact Nat.le_trans g.s1 (by decide)
  simp only [itemsD]
  refine ⟨lk, lcD_all kindD (fun _ => .bl true) (fun a ha R S r => ?_) ?_⟩
  · simp only [getD_0, getD_s, set_0, set_s, boolD_bl, intD_int, startD, List.map, List.length_cons, List.length_nil, List.replicate, List.cons_append, List.nil_append, defEnds, wipeD, if_true, if_false, Bool.not_true, Bool.not_false, Bool.false_eq_true]
    exact ⟨_, rfl, ⟨a, rfl, g.kn a ha, g.kb a ha, g.s2 a ha, fun b hb => ⟨g.bn a ha b hb, g.s3 a ha b hb⟩, g.okKind ha⟩, r⟩
  obtain ⟨ns, en, an⟩ := all_true ks
  refine ⟨ns, en, ?_⟩
  rw [an]
  simp only [getD_0, getD_s, set_0, set_s, boolD_bl, intD_int, startD, List.map, List.length_cons, List.length_nil, List.replicate, List.cons_append, List.nil_append, defEnds, wipeD, if_true, if_false, Bool.not_true, Bool.not_false, Bool.false_eq_true]
  refine ⟨lk, lcD_all kindD (fun a => .str a.1) (fun a ha R S r => ?_) ?_⟩
  · refine ⟨_, rfl, rfl, _, _, rfl, _, _, rfl, rfl, ?_⟩
    simp only [getD_0, getD_s, set_0, set_s, boolD_bl, intD_int, startD, List.map, List.length_cons, List.length_nil, List.replicate, List.cons_append, List.nil_append, defEnds, wipeD, if_true, if_false, Bool.not_true, Bool.not_false, Bool.false_eq_true]
    exact r
  have enm : (ks.map fun a : Kind => D.str a.1) = (kNames ks).map D.str := by rw [kNames, List.map_map]; rfl
  rw [enm]
  refine ⟨_, rfl, ⟨_, rfl, g.nd, by rw [kNames, List.length_map]; exact Nat.le_trans g.s1 (by decide)⟩, ?_⟩
  simp only [getD_0, getD_s, set_0, set_s, boolD_bl, intD_int, startD, List.map, List.length_cons, List.length_nil, List.replicate, List.cons_append, List.nil_append, defEnds, wipeD, if_true, if_false, Bool.not_true, Bool.not_false, Bool.false_eq_true]
  have blen : ∀ ks' : List Kind, (∀ k ∈ ks', k.2.length ≤ 8) → (ks'.flatMap fun a => a.2.map fun b : Bough => D.str b.1).length ≤ 8 * ks'.length := fun ks' => by
    induction ks' with
    | nil => simp
    | cons a l ih =>
      intro h
      have h1 := h a (by simp)
      have h2 := ih fun k hk => h k (List.mem_cons_of_mem _ hk)
      simp only [List.flatMap_cons, List.length_append, List.length_map, List.length_cons] at h2 ⊢
      omega
  refine loopD_app kindD (fun a => a.2.map fun b => .str b.1) 1000 (fun a ha b R S hl r => ?_) (by have := blen ks g.s2; have := g.s1; simp only [List.length_nil]; omega) ?_
  · refine ⟨_, rfl, rfl, _, _, rfl, _, _, rfl, rfl, ?_⟩
    simp only [getD_0, getD_s, set_0, set_s, boolD_bl, intD_int, startD, List.map, List.length_cons, List.length_nil, List.replicate, List.cons_append, List.nil_append, defEnds, wipeD, if_true, if_false, Bool.not_true, Bool.not_false, Bool.false_eq_true]
    refine loopD_app boughD (fun b => [.str b.1]) 1000 (fun b' hb b R S hl r => ?_) (by simpa [← List.map_eq_flatMap] using hl) (by simpa [← List.map_eq_flatMap] using r)
    refine ⟨_, rfl, rfl, _, _, rfl, _, _, rfl, rfl, ?_⟩
    simp only [getD_0, getD_s, set_0, set_s, boolD_bl, intD_int, startD, List.map, List.length_cons, List.length_nil, List.replicate, List.cons_append, List.nil_append, defEnds, wipeD, if_true, if_false, Bool.not_true, Bool.not_false, Bool.false_eq_true]
    exact ⟨Nat.lt_of_lt_of_le (show b.length < 1001 by simp at hl; omega) (by decide), r⟩
  have ebm : (ks.flatMap fun a : Kind => a.2.map fun b : Bough => D.str b.1) = (bNames ks).map D.str := by rw [bNames, List.map_flatMap]; simp only [List.map_map]; rfl
  rw [List.nil_append, ebm]
  refine ⟨_, rfl, ⟨_, rfl, g.bd, by have := blen ks g.s2; rw [ebm, List.length_map] at this; have := g.s1; omega⟩, ?_⟩
  simp only [getD_0, getD_s, set_0, set_s, boolD_bl, intD_int, startD, List.map, List.length_cons, List.length_nil, List.replicate, List.cons_append, List.nil_append, defEnds, wipeD, if_true, if_false, Bool.not_true, Bool.not_false, Bool.false_eq_true]
  have flen1 : ∀ bs : List Bough, (∀ b ∈ bs, b.2.length ≤ 8) → (bs.flatMap fun b => b.2.map D.str).length ≤ 8 * bs.length := fun bs => by
    induction bs with
    | nil => simp
    | cons a l ih =>
      intro h
      have h1 := h a (by simp)
      have h2 := ih fun k hk => h k (List.mem_cons_of_mem _ hk)
      simp only [List.flatMap_cons, List.length_append, List.length_map, List.length_cons] at h2 ⊢
      omega
  have flen : ∀ ks' : List Kind, (∀ k ∈ ks', k.2.length ≤ 8 ∧ ∀ b ∈ k.2, b.2.length ≤ 8) → (ks'.flatMap fun a => a.2.flatMap fun b => b.2.map D.str).length ≤ 64 * ks'.length := fun ks' => by
    induction ks' with
    | nil => simp
    | cons a l ih =>
      intro h
      have h1 := h a (by simp)
      have h2 := ih fun k hk => h k (List.mem_cons_of_mem _ hk)
      have h3 := flen1 a.2 h1.2
      simp only [List.flatMap_cons, List.length_append, List.length_cons] at h2 ⊢
      omega
  have fl0 := flen ks fun k hk => ⟨g.s2 k hk, g.s3 k hk⟩
  have gs1 := g.s1
  refine loopD_app kindD (fun a => a.2.flatMap fun b => b.2.map D.str) 1000 (fun a ha b R S hl r => ?_) (by simp only [List.length_nil]; omega) ?_
  · refine ⟨_, rfl, rfl, _, _, rfl, _, _, rfl, rfl, ?_⟩
    simp only [getD_0, getD_s, set_0, set_s, boolD_bl, intD_int, startD, List.map, List.length_cons, List.length_nil, List.replicate, List.cons_append, List.nil_append, defEnds, wipeD, if_true, if_false, Bool.not_true, Bool.not_false, Bool.false_eq_true]
    refine loopD_app boughD (fun b => b.2.map D.str) 1000 (fun b' hb b R S hl r => ?_) hl r
    refine ⟨_, rfl, rfl, _, _, rfl, _, _, rfl, rfl, ?_⟩
    simp only [getD_0, getD_s, set_0, set_s, boolD_bl, intD_int, startD, List.map, List.length_cons, List.length_nil, List.replicate, List.cons_append, List.nil_append, defEnds, wipeD, if_true, if_false, Bool.not_true, Bool.not_false, Bool.false_eq_true]
    refine loopD_app D.str (fun f => [.str f]) 1000 (fun f hf b R S hl r => ?_) (by simpa [← List.map_eq_flatMap] using hl) (by simpa [← List.map_eq_flatMap] using r)
    simp only [getD_0, getD_s, set_0, set_s, boolD_bl, intD_int, startD, List.map, List.length_cons, List.length_nil, List.replicate, List.cons_append, List.nil_append, defEnds, wipeD, if_true, if_false, Bool.not_true, Bool.not_false, Bool.false_eq_true]
    exact ⟨Nat.lt_of_lt_of_le (show b.length < 1001 by simp at hl; omega) (by decide), r⟩
  have efm : (ks.flatMap fun a : Kind => a.2.flatMap fun b : Bough => b.2.map D.str) = (fNames ks).map D.str := by rw [fNames, List.map_flatMap]; simp only [List.map_flatMap]
  rw [List.nil_append, efm]
  rw [efm, List.length_map] at fl0
  refine ⟨by rw [List.length_map]; exact Nat.le_trans (show _ ≤ 1000 by omega) (by decide), lcD_all D.str (fun _ => .bl true) (fun f hf R S r => ?_) ?_⟩
  · simp only [getD_0, getD_s, set_0, set_s, boolD_bl, intD_int, startD, List.map, List.length_cons, List.length_nil, List.replicate, List.cons_append, List.nil_append, defEnds, wipeD, if_true, if_false, Bool.not_true, Bool.not_false, Bool.false_eq_true]
    have hff : f = numS ∨ f ∈ kNames ks := by
      obtain ⟨a, ha, hf⟩ := List.mem_flatMap.mp hf
      obtain ⟨b, hb, hf⟩ := List.mem_flatMap.mp hf
      exact g.fl a ha b hb f hf
    simp only [eqD_str, boolD_bl]
    by_cases hn : f = numS
    · rw [if_pos (by rw [decide_eq_true_eq]; exact hn)]
      exact r
    · rw [if_neg (by rw [decide_eq_true_eq]; exact hn)]
      have hfk : f ∈ kNames ks := hff.resolve_left hn
      obtain ⟨k', hk', rfl⟩ := List.mem_map.mp hfk
      refine in_names (xs := kNames ks) (fun x hx => ?_) (okN_name (g.kn k' hk')) ?_
      · obtain ⟨k'', hk'', rfl⟩ := List.mem_map.mp hx
        exact okN_name (g.kn k'' hk'')
      · rw [decide_eq_true hfk]
        exact r
  obtain ⟨ns, en, an⟩ := all_true (fNames ks)
  refine ⟨ns, en, ?_⟩
  rw [an]
  exact q
end
end KB

namespace KB
open PySem L2 Dk
open PyProof.Rows (envOfC)
def spWith : DSp where
  n := 1
  f := fun ds Q _ => ∃ ks, ds = [kindsD ks] ∧ Good ks ∧ ∀ kvs, (∀ k ∈ ks, hasN kvs k.1 = true) → Q (.dic kvs)
  len := fun ds Q E ⟨m, e, _⟩ => by rw [e]; rfl
  mono := fun ds Q Q' E E' k _ ⟨m, e, h, q⟩ => ⟨m, e, h, fun kvs h => k _ (q kvs h)⟩
def fieldsOk (kvs : List (Key × D)) (b : Bough) : Bool := b.2.all fun f => decide (f = numS) || hasN kvs f
theorem hasN_in {kvs : List (Key × D)} {f : Str} {Q : D → Prop} : inD false (.str f) (.dic kvs) Q ↔ Q (.bl (hasN kvs f)) := by
  refine ⟨fun ⟨k, e, q⟩ => ?_, fun q => ⟨.inr f, rfl, q⟩⟩
  cases k with
  | inl _ => cases e
  | inr g => cases e; exact q
theorem len_put {kvs : List (Key × D)} {k : Key} {d : D} : (putD kvs k d).length ≤ kvs.length + 1 := by
  unfold putD
  split
  · rw [List.length_map]; omega
  · simp
section
variable {P : Program} {w : World} {K : PySem.W.Frag} {C : Addr} {mg : Str → Option Value} {base : Heap} {W : Wd} {k : Nat} {f : Addr} {fd : FuncData}
theorem ok_with_worths (T : TxtB K C mg) (Fn : Fun K "with_worths" "with_worths" s_with_worths f fd) : GnOk P w K mg base CX0 (k + 1) f fd ["kinds"] (spD W K spWith) := by
  refine Fn.okD sc_with_worths rfl fun cdv A outer s H I ds Q Ed E hr h => ?_
  have hu := hr.units
  have hu2 : (A.deeper (envOfC "with_worths" (defScope s_with_worths) s.heap.objs.size f cdv)).units + 66 < cLine := by have := hr.room.un; omega
  obtain ⟨ks, rfl, g, q⟩ := h
  refine ⟨_, (dss_cons (ds_ownD 1 sc_with_worths.nd)
  (dss_cons (ds_for PassesOwn.never rfl (di_seq (de_name 0)) (dg_name 2 sc_with_worths.nd)
  (dss_one (ds_for PassesOwn.never rfl (di_seq (de_name 0)) (dg_tup (n := 2) rfl (dgs_cons (dg_name 3 sc_with_worths.nd) (dgs_cons (dg_name 4 sc_with_worths.nd) dgs_nil)))
  (dss_one (ds_if (dt_lend 1 (dt_val (de_any rfl T.b_any (da_cons (de_lc (own := [("bough", 6), ("fields", 7)]) rfl sc_with_worths.nd (di_seq (de_name 4)) (blkOk_by (own := [("bough", 6), ("fields", 7)]) (N := ["kinds", "found", "turn", "name", "boughs", "field", "bough", "fields"]) (sc := defScope s_with_worths) (by decide +kernel)) (fun _ _ _ _ _ => (dg_tup (n := 2) rfl (dgs_cons (dg_name 6 sc_with_worths.nd) (dgs_cons (dg_name 7 sc_with_worths.nd) dgs_nil)))) (fun _ _ _ _ _ => dif_nil) (fun _ _ _ _ _ => (de_all rfl T.b_all (da_cons (de_lc (own := [("field", 5)]) rfl sc_with_worths.nd (di_seq (de_name 7)) (blkOk_nest (own := [("field", 5)]) (N := ["kinds", "found", "turn", "name", "boughs", "field", "bough", "fields"]) (defScope s_with_worths) rfl (by decide +kernel)) (fun _ _ _ _ _ => (dg_name 5 sc_with_worths.nd)) (fun _ _ _ _ _ => dif_nil) (fun _ _ _ _ _ => (de_or (de_c (.eq hu) (de_name 5) (de_gs T.g_NUM)) (de_one (de_in hu2 (de_name 5) (de_name 1)))))) da_nil)))) da_nil))))
  (dss_one (ds_dput 1 hu (de_name 3) de_bl))
  dss_nil)))))
  (dss_freeze 1
  (dss_one (ds_ret (de_name 1)))))), ?_⟩
  simp only [getD_0, getD_s, set_0, set_s, boolD_bl, intD_int, startD, List.map, List.length_cons, List.length_nil, List.replicate, List.cons_append, List.nil_append, defEnds, wipeD, if_true, if_false, Bool.not_true, Bool.not_false, Bool.false_eq_true]
  simp only [kindsD]
  obtain ⟨r, hr'⟩ := g.wf0
  have gs1 := g.s1
  refine forD_ind (fun (l : List D) ρ => ∃ kvs a b c, ρ = [some (.dat (.tup (ks.map kindD))), some (.ownD kvs), a, b, c, none, none, none] ∧ l.length ≤ ks.length ∧ kvs.length + 8 * l.length ≤ 100 ∧ ∀ k ∈ ks, r k.1 < ks.length - l.length → hasN kvs k.1 = true) (fun ρ ⟨kvs, a, b, c, e, _, _, h⟩ => ?_) (fun d l ρ R ⟨kvs, a, b, c, e, hl, hb, h⟩ hR => ?_) _ _ ⟨[], none, none, none, rfl, by simp, by simp; omega, fun k _ h => by simp at h⟩
  · subst e
    refine ⟨_, rfl, trivial, ?_⟩
    simp only [getD_0, getD_s, set_0, set_s, boolD_bl, intD_int, startD, List.map, List.length_cons, List.length_nil, List.replicate, List.cons_append, List.nil_append, defEnds, wipeD, if_true, if_false, Bool.not_true, Bool.not_false, Bool.false_eq_true]
    exact q kvs fun k hk => h k hk (by have := (hr' k hk).1; simpa using this)
  · subst e
    simp only [getD_0, getD_s, set_0, set_s, boolD_bl, intD_int, startD, List.map, List.length_cons, List.length_nil, List.replicate, List.cons_append, List.nil_append, defEnds, wipeD, if_true, if_false, Bool.not_true, Bool.not_false, Bool.false_eq_true]
    simp only [List.length_cons] at hl hb h
    refine forD_ind (fun (m : List D) ρ => ∃ (rest : List Kind) (kvs : List (Key × D)) (a b c : Option Ent), m = rest.map kindD ∧ ρ = [some (.dat (.tup (ks.map kindD))), some (.ownD kvs), a, b, c, none, none, none] ∧ (∀ k ∈ rest, k ∈ ks) ∧ kvs.length + rest.length + 8 * l.length ≤ 100 ∧ ∀ k ∈ ks, (r k.1 < ks.length - (l.length + 1) ∨ (k ∉ rest ∧ r k.1 < ks.length - l.length)) → hasN kvs k.1 = true) (fun ρ ⟨rest, kvs, a, b, c, em, e, _, hb, h⟩ => ?_) (fun d m ρ R2 ⟨rest, kvs, a, b, c, em, e, hk, hb, h⟩ hR2 => ?_) _ _ ⟨ks, kvs, _, b, c, rfl, rfl, fun _ h => h, by omega, fun k hk h' => h'.elim (h k hk) fun ⟨h1, _⟩ => absurd hk h1⟩
    · subst e
      have : rest = [] := by simpa using em.symm
      subst this
      exact hR _ ⟨kvs, a, b, c, rfl, by omega, by simpa using hb, fun k hk hr => h k hk (.inr ⟨by simp, hr⟩)⟩
    · subst e
      cases rest with
      | nil => cases em
      | cons x rest =>
        rw [List.map_cons] at em
        obtain ⟨rfl, rfl⟩ := List.cons.inj em
        have hx := hk x (by simp)
        refine ⟨_, rfl, rfl, _, _, rfl, _, _, rfl, rfl, ?_⟩
        simp only [getD_0, getD_s, set_0, set_s, boolD_bl, intD_int, startD, List.map, List.length_cons, List.length_nil, List.replicate, List.cons_append, List.nil_append, defEnds, wipeD, if_true, if_false, Bool.not_true, Bool.not_false, Bool.false_eq_true]
        refine ⟨_, rfl, trivial, ?_⟩
        simp only [Ent.toD, itemsD]
        refine ⟨Nat.le_trans (by rw [List.length_map]; exact g.s2 x hx) (by decide), lcD_all boughD (fun b => .bl (fieldsOk kvs b)) (fun b hbm R S hr => ?_) ?_⟩
        · refine ⟨_, rfl, rfl, _, _, rfl, _, _, rfl, rfl, ?_⟩
          simp only [getD_0, getD_s, set_0, set_s, boolD_bl, intD_int, startD, List.map, List.length_cons, List.length_nil, List.replicate, List.cons_append, List.nil_append, defEnds, wipeD, if_true, if_false, Bool.not_true, Bool.not_false, Bool.false_eq_true]
          refine ⟨Nat.le_trans (by rw [List.length_map]; exact g.s3 x hx b hbm) (by decide), lcD_all D.str (fun f => .bl (decide (f = numS) || hasN kvs f)) (fun f hf R S hr => ?_) ?_⟩
          · simp only [getD_0, getD_s, set_0, set_s, boolD_bl, intD_int, startD, List.map, List.length_cons, List.length_nil, List.replicate, List.cons_append, List.nil_append, defEnds, wipeD, if_true, if_false, Bool.not_true, Bool.not_false, Bool.false_eq_true]
            simp only [eqD_str, boolD_bl]
            by_cases hn : f = numS
            · rw [if_pos (by rw [decide_eq_true_eq]; exact hn)]
              simpa [hn] using hr
            · rw [if_neg (by rw [decide_eq_true_eq]; exact hn)]
              rw [hasN_in]
              simpa [hn] using hr
          · refine ⟨b.2.map fun f => decide (f = numS) || hasN kvs f, by rw [List.map_map]; rfl, ?_⟩
            rw [List.all_map]
            exact hr
        · refine ⟨x.2.map (fieldsOk kvs), by rw [List.map_map]; rfl, ?_⟩
          simp only [boolD_bl]
          have many : ∀ kvs', (∀ f, hasN kvs f = true → hasN kvs' f = true) → (r x.1 < ks.length - l.length → hasN kvs' x.1 = true) → ∀ k ∈ ks, (r k.1 < ks.length - (l.length + 1) ∨ (k ∉ rest ∧ r k.1 < ks.length - l.length)) → hasN kvs' k.1 = true := by
            intro kvs' mono hx' k hk hor
            rcases hor with h1 | ⟨h1, h2⟩
            · exact mono _ (h k hk (.inl h1))
            · by_cases hkx : k = x
              · subst hkx; exact hx' h2
              · exact mono _ (h k hk (.inr ⟨by simp [hkx, h1], h2⟩))
          by_cases ha : (x.2.map (fieldsOk kvs)).any id = true
          · rw [if_pos ha]
            refine ⟨_, rfl, .inr x.1, rfl, Nat.lt_of_lt_of_le (show kvs.length < 1000 by omega) (by decide), ?_⟩
            refine hR2 _ ⟨rest, _, _, _, _, rfl, rfl, fun k hk' => hk k (List.mem_cons_of_mem _ hk'), ?_, many _ (fun f hf => by rw [hasN_put, hf]; rfl) (fun _ => by rw [hasN_put]; simp)⟩
            have := len_put (kvs := kvs) (k := .inr x.1) (d := .bl true)
            simp only [List.length_cons] at hb
            omega
          · rw [if_neg ha]
            refine hR2 _ ⟨rest, _, _, _, _, rfl, rfl, fun k hk' => hk k (List.mem_cons_of_mem _ hk'), by simp only [List.length_cons] at hb; omega, many kvs (fun f hf => hf) fun hlt => ?_⟩
            exfalso
            refine ha ?_
            obtain ⟨_, b, hb1, hb2⟩ := hr' x hx
            rw [List.any_map, List.any_eq_true]
            refine ⟨b, hb1, ?_⟩
            simp only [Function.comp_apply, id]
            unfold fieldsOk
            rw [List.all_eq_true]
            intro f hf
            rcases hb2 f hf with h1 | ⟨h1, h2⟩
            · simp [h1]
            · obtain ⟨k', hk', rfl⟩ := List.mem_map.mp h1
              rw [h k' hk' (.inl (by omega)), Bool.or_true]
end
end KB

namespace KB
open PySem L2 Dk
open PyProof.Rows (envOfC)
abbrev s_Book___init__ : Stmt := inClass (top 23) 0
theorem sc_Book___init__ : FnScope ["self", "kinds", "founded", "name", "boughs", "bough", "fields"] ["self", "kinds"] (defScope s_Book___init__) := ⟨rfl, rfl, rfl, by decide +kernel, rfl, by decide +kernel, by decide +kernel⟩
theorem bd_Book___init__ (kV doc pm : Value) (an : Option Addr) (cdv ct : Value) (us : List Value) (hl : us.length = 2) : bindArgs (PySem.W.fnOf "__init__" "Book.__init__" (defArgs s_Book___init__) (defBody s_Book___init__) (defScope s_Book___init__) .none kV doc pm an cdv ct) ⟨us, []⟩ = pure ((["self", "kinds"] : List Str).zip us) := by
  match us, hl with
  | [v0, v1], _ => rfl
def namesBy (ks : List Kind) : List (Key × D) := ks.map fun k => (.inr k.1, .tup (k.2.map fun b => .str b.1))
def kindsBy (ks : List Kind) : List (Key × D) := ks.flatMap fun k => k.2.map fun b => (.inr b.1, .str k.1)
def fieldsBy (ks : List Kind) : List (Key × D) := ks.flatMap fun k => k.2.map fun b => (.inr b.1, .tup (b.2.map D.str))
theorem namesBy_keys {ks : List Kind} : (namesBy ks).map (·.1) = (kNames ks).map Sum.inr := by unfold namesBy kNames; rw [List.map_map, List.map_map]; rfl
theorem kindsBy_keys {ks : List Kind} : (kindsBy ks).map (·.1) = (bNames ks).map Sum.inr := by
  unfold kindsBy bNames; rw [List.map_flatMap, List.map_flatMap]; simp only [List.map_map]; rfl
theorem fieldsBy_keys {ks : List Kind} : (fieldsBy ks).map (·.1) = (bNames ks).map Sum.inr := by
  unfold fieldsBy bNames; rw [List.map_flatMap, List.map_flatMap]; simp only [List.map_map]; rfl
theorem nodup_inr {l : List Str} (h : l.Nodup) : (l.map (Sum.inr : Str → Key)).Nodup := (List.pairwise_map).mpr (h.imp fun h e => h (Sum.inr.inj e))
theorem Good.nk {ks : List Kind} (g : Good ks) : ((namesBy ks).map (·.1)).Nodup := by rw [namesBy_keys]; exact nodup_inr g.nd
theorem Good.kk {ks : List Kind} (g : Good ks) : ((kindsBy ks).map (·.1)).Nodup := by rw [kindsBy_keys]; exact nodup_inr g.bd
theorem Good.fk {ks : List Kind} (g : Good ks) : ((fieldsBy ks).map (·.1)).Nodup := by rw [fieldsBy_keys]; exact nodup_inr g.bd
theorem Good.blen {ks : List Kind} (g : Good ks) : (bNames ks).length ≤ 48 := by
  have : ∀ ks' : List Kind, (∀ k ∈ ks', k.2.length ≤ 8) → (bNames ks').length ≤ 8 * ks'.length := fun ks' => by
    induction ks' with
    | nil => simp [bNames]
    | cons a l ih =>
      intro h
      have h1 := h a (by simp)
      have h2 := ih fun k hk => h k (List.mem_cons_of_mem _ hk)
      simp only [bNames, List.flatMap_cons, List.length_append, List.length_map, List.length_cons] at h2 ⊢
      omega
  have h1 := this ks g.s2
  have h2 := g.s1
  omega
theorem Good.klen {ks : List Kind} (g : Good ks) : (kindsBy ks).length ≤ 48 := by
  have := congrArg List.length (kindsBy_keys (ks := ks))
  rw [List.length_map, List.length_map] at this
  rw [this]; exact g.blen
theorem Good.flen {ks : List Kind} (g : Good ks) : (fieldsBy ks).length ≤ 48 := by
  have := congrArg List.length (fieldsBy_keys (ks := ks))
  rw [List.length_map, List.length_map] at this
  rw [this]; exact g.blen
def bookD (C : Addr) (ks : List Kind) : D := .obj C [("kinds", kindsD ks), ("names_by", .dic (namesBy ks)), ("kinds_by", .dic (kindsBy ks)), ("fields_by", .dic (fieldsBy ks))]
def spBook (C : Addr) : DSp where
  n := 1
  f := fun ds Q _ => ∃ ks, ds = [kindsD ks] ∧ Good ks ∧ Q (bookD C ks)
  len := fun ds Q E ⟨m, e, _⟩ => by rw [e]; rfl
  mono := fun ds Q Q' E E' k _ ⟨m, e, h, q⟩ => ⟨m, e, h, k _ q⟩
def spBoughs (C : Addr) : DSp where
  n := 2
  f := fun ds Q _ => ∃ ks k, ds = [bookD C ks, .str k.1] ∧ Good ks ∧ k ∈ ks ∧ Q (.tup (k.2.map fun b => .str b.1))
  len := fun ds Q E ⟨m, _, e, _⟩ => by rw [e]; rfl
  mono := fun ds Q Q' E E' k _ ⟨m, x, e, h, h2, q⟩ => ⟨m, x, e, h, h2, k _ q⟩
def spMust (C : Addr) : DSp where
  n := 2
  f := fun ds Q _ => ∃ ks k b, ds = [bookD C ks, .str b.1] ∧ Good ks ∧ k ∈ ks ∧ b ∈ k.2 ∧ Q .non
  len := fun ds Q E ⟨m, _, _, e, _⟩ => by rw [e]; rfl
  mono := fun ds Q Q' E E' k _ ⟨m, x, b, e, h, h2, h3, q⟩ => ⟨m, x, b, e, h, h2, h3, k _ q⟩
def spFields (C : Addr) : DSp where
  n := 2
  f := fun ds Q _ => ∃ ks k b, ds = [bookD C ks, .str b.1] ∧ Good ks ∧ k ∈ ks ∧ b ∈ k.2 ∧ Q (.tup (b.2.map D.str))
  len := fun ds Q E ⟨m, _, _, e, _⟩ => by rw [e]; rfl
  mono := fun ds Q Q' E E' k _ ⟨m, x, b, e, h, h2, h3, q⟩ => ⟨m, x, b, e, h, h2, h3, k _ q⟩
theorem len_putFD {f : Str} {v : D} {n : Nat} : ∀ {l : List (Str × D)}, l.length < n → (putFD f v l).length < n + 1
  | [], h => by simp [putFD]; omega
  | (g, x) :: r, h => by
    unfold putFD
    split
    · simp only [List.length_cons] at h ⊢; omega
    · cases n with
      | zero => omega
      | succ n =>
        have := len_putFD (f := f) (v := v) (n := n) (l := r) (by simp only [List.length_cons] at h; omega)
        simp only [List.length_cons]
        omega
section
variable {P : Program} {w : World} {K : PySem.W.Frag} {C : Addr} {mg : Str → Option Value} {base : Heap} {W : Wd} {k : Nat} {f : Addr} {fd : FuncData}
theorem ok_init (T : TxtB K C mg) (Fn : Fun K "__init__" "Book.__init__" s_Book___init__ f fd) (C_is_kinds : Cal P w K mg base CX0 W k "is_kinds" ["thing"] spIsKinds) (C_with_worths : Cal P w K mg base CX0 W k "with_worths" ["kinds"] spWith) : GnOk P w K mg base CX0 (k + 1) f fd ["self", "kinds"] (spInit W K C (spBook C)) := by
  refine Fn.okI sc_Book___init__ rfl fun cdv A outer s H I B a ds Q Ed E hr h => ?_
  have hu := hr.units
  have hu2 : (A.deeper (envOfC "Book.__init__" (defScope s_Book___init__) s.heap.objs.size f cdv)).units + 66 < cLine := by have := hr.room.un; omega
  obtain ⟨ks, rfl, g, q⟩ := h
  refine ⟨_, (dss_cons (ds_if (dt_not (dt_val (de_fn C_is_kinds (hr.mono (by omega)) pass0 lets0 (da_cons (de_name 1) da_nil))))
  (dss_one ds_never)
  dss_nil)
  (dss_cons (ds_set 2 (de_fn C_with_worths (hr.mono (by omega)) pass0 lets0 (da_cons (de_name 1) da_nil)) sc_Book___init__.nd)
  (dss_cons (ds_for PassesOwn.never rfl (di_seq (de_name 1)) (dg_tup (n := 2) rfl (dgs_cons (dg_name 3 sc_Book___init__.nd) (dgs_cons (dg_name 4 sc_Book___init__.nd) dgs_nil)))
  (dss_one (ds_if (dt_notin hu2 (de_name 3) (de_name 2))
  (dss_one ds_never)
  dss_nil)))
  (dss_cons (ds_setA 0 (de_name 1) (cl := T.cl_Book) (n := T.na_Book_kinds))
  (dss_cons (ds_setA 0 (de_cpD (own := [("name", 3), ("boughs", 4)]) rfl sc_Book___init__.nd (di_seq (de_name 1)) (blkOk_by (own := [("name", 3), ("boughs", 4)]) (N := ["self", "kinds", "founded", "name", "boughs", "bough", "fields"]) (sc := defScope s_Book___init__) (by decide +kernel)) (fun _ _ _ _ _ => (dg_tup (n := 2) rfl (dgs_cons (dg_name 3 sc_Book___init__.nd) (dgs_cons (dg_name 4 sc_Book___init__.nd) dgs_nil)))) (fun _ _ _ _ _ => dif_nil) (fun _ _ _ _ _ => (dn_nil rfl (dm_dict (fun _ _ z => z) (de_name 3) (de_tuple T.b_tuple (da_cons (de_lc (own := [("bough", 5), ("fields", 6)]) rfl sc_Book___init__.nd (di_seq (de_name 4)) (blkOk_nest (own := [("bough", 5), ("fields", 6)]) (N := ["self", "kinds", "founded", "name", "boughs", "bough", "fields"]) (defScope s_Book___init__) rfl (by decide +kernel)) (fun _ _ _ _ _ => (dg_tup (n := 2) rfl (dgs_cons (dg_name 5 sc_Book___init__.nd) (dgs_cons (dg_name 6 sc_Book___init__.nd) dgs_nil)))) (fun _ _ _ _ _ => dif_nil) (fun _ _ _ _ _ => (de_name 5))) da_nil)))))) (cl := T.cl_Book) (n := T.na_Book_names_by))
  (dss_cons (ds_setA 0 (de_cpD (own := [("name", 3), ("boughs", 4), ("bough", 5), ("fields", 6)]) rfl sc_Book___init__.nd (di_seq (de_name 1)) (blkOk_by (own := [("name", 3), ("boughs", 4), ("bough", 5), ("fields", 6)]) (N := ["self", "kinds", "founded", "name", "boughs", "bough", "fields"]) (sc := defScope s_Book___init__) (by decide +kernel)) (fun _ _ _ _ _ => (dg_tup (n := 2) rfl (dgs_cons (dg_name 3 sc_Book___init__.nd) (dgs_cons (dg_name 4 sc_Book___init__.nd) dgs_nil)))) (fun _ _ _ _ _ => dif_nil) (fun _ _ _ _ _ => (dn_cons (fun _ _ z => z) rfl (cp_dict _ _ _ _ _) rfl (fun g h => by first | (cases h; rfl) | cases h) HdK.mono (di_seq (de_name 4)) (dg_tup (n := 2) rfl (dgs_cons (dg_name 5 sc_Book___init__.nd) (dgs_cons (dg_name 6 sc_Book___init__.nd) dgs_nil))) dif_nil (dn_nil rfl (dm_dict (fun _ _ z => z) (de_name 5) (de_name 3))) (by intro _; rfl)))) (cl := T.cl_Book) (n := T.na_Book_kinds_by))
  (dss_one (ds_setA 0 (de_cpD (own := [("name", 3), ("boughs", 4), ("bough", 5), ("fields", 6)]) rfl sc_Book___init__.nd (di_seq (de_name 1)) (blkOk_by (own := [("name", 3), ("boughs", 4), ("bough", 5), ("fields", 6)]) (N := ["self", "kinds", "founded", "name", "boughs", "bough", "fields"]) (sc := defScope s_Book___init__) (by decide +kernel)) (fun _ _ _ _ _ => (dg_tup (n := 2) rfl (dgs_cons (dg_name 3 sc_Book___init__.nd) (dgs_cons (dg_name 4 sc_Book___init__.nd) dgs_nil)))) (fun _ _ _ _ _ => dif_nil) (fun _ _ _ _ _ => (dn_cons (fun _ _ z => z) rfl (cp_dict _ _ _ _ _) rfl (fun g h => by first | (cases h; rfl) | cases h) HdK.mono (di_seq (de_name 4)) (dg_tup (n := 2) rfl (dgs_cons (dg_name 5 sc_Book___init__.nd) (dgs_cons (dg_name 6 sc_Book___init__.nd) dgs_nil))) dif_nil (dn_nil rfl (dm_dict (fun _ _ z => z) (de_name 5) (de_name 6))) (by intro _; rfl)))) (cl := T.cl_Book) (n := T.na_Book_fields_by))))))))), ?_⟩
  simp only [startI]
  simp only [getD_0, getD_s, set_0, set_s, boolD_bl, intD_int, startD, List.map, List.length_cons, List.length_nil, List.replicate, List.cons_append, List.nil_append, defEnds, wipeD, if_true, if_false, Bool.not_true, Bool.not_false, Bool.false_eq_true]
  refine ⟨_, rfl, ⟨ks, rfl, g⟩, ?_⟩
  simp only [getD_0, getD_s, set_0, set_s, boolD_bl, intD_int, startD, List.map, List.length_cons, List.length_nil, List.replicate, List.cons_append, List.nil_append, defEnds, wipeD, if_true, if_false, Bool.not_true, Bool.not_false, Bool.false_eq_true]
  refine ⟨ks, rfl, g, fun kvs hkvs => ?_⟩
  simp only [getD_0, getD_s, set_0, set_s, boolD_bl, intD_int, startD, List.map, List.length_cons, List.length_nil, List.replicate, List.cons_append, List.nil_append, defEnds, wipeD, if_true, if_false, Bool.not_true, Bool.not_false, Bool.false_eq_true]
  simp only [kindsD, itemsD]
  refine forD_ind (fun (l : List D) ρ => ∃ (rest : List Kind) (b c : Option Ent), l = rest.map kindD ∧ (∀ k ∈ rest, k ∈ ks) ∧ ρ = [some (.ownO a C []), some (.dat (kindsD ks)), some (.dat (.dic kvs)), b, c, none, none]) (fun ρ ⟨_, b, c, _, _, e⟩ => ?_) (fun d l ρ R ⟨rest, b, c, el, hl, e⟩ hR => ?_) _ _ ⟨ks, none, none, rfl, fun _ h => h, rfl⟩
  rotate_left
  · subst e
    cases rest with
    | nil => cases el
    | cons x rest =>
      rw [List.map_cons] at el
      obtain ⟨rfl, rfl⟩ := List.cons.inj el
      have hx := hl x (by simp)
      refine ⟨_, rfl, rfl, _, _, rfl, _, _, rfl, rfl, ?_⟩
      simp only [getD_0, getD_s, set_0, set_s, boolD_bl, intD_int, startD, List.map, List.length_cons, List.length_nil, List.replicate, List.cons_append, List.nil_append, defEnds, wipeD, if_true, if_false, Bool.not_true, Bool.not_false, Bool.false_eq_true]
      refine ⟨.inr x.1, rfl, ?_⟩
      have e1 : flip true (lookD kvs (.inr x.1)).isSome = false := by
        have := hkvs x hx
        unfold hasN at this
        rw [this]
        rfl
      rw [e1]
      simp only [boolD_bl, Bool.false_eq_true, if_false]
      exact hR _ ⟨rest, _, _, rfl, fun k hk => hl k (List.mem_cons_of_mem _ hk), rfl⟩
  subst e
  simp only [getD_0, getD_s, set_0, set_s, boolD_bl, intD_int, startD, List.map, List.length_cons, List.length_nil, List.replicate, List.cons_append, List.nil_append, defEnds, wipeD, if_true, if_false, Bool.not_true, Bool.not_false, Bool.false_eq_true]
  refine ⟨a, [], rfl, by decide, ?_⟩
  simp only [kindsD, itemsD]
  have gs1 := g.s1
  have gs2 := g.s2
  have lk : (ks.map kindD).length ≤ sizeLine := by rw [List.length_map]; exact Nat.le_trans gs1 (by decide)
  have en : ∀ l : List Kind, (l.flatMap fun k => [((.inr k.1 : Key), D.tup (k.2.map fun b => .str b.1))]) = namesBy l := fun l => by unfold namesBy; rw [List.map_eq_flatMap]
  refine loopD_put kindD (fun k => [(.inr k.1, .tup (k.2.map fun b => .str b.1))]) 100 (fun x hx b R S hl hn r => ?_) (by rw [en]; simp [namesBy]; omega) (by rw [en]; exact g.nk) ?_
  · refine ⟨_, rfl, rfl, _, _, rfl, _, _, rfl, rfl, ?_⟩
    simp only [getD_0, getD_s, set_0, set_s, boolD_bl, intD_int, startD, List.map, List.length_cons, List.length_nil, List.replicate, List.cons_append, List.nil_append, defEnds, wipeD, if_true, if_false, Bool.not_true, Bool.not_false, Bool.false_eq_true]
    refine ⟨Nat.le_trans (by rw [List.length_map]; exact gs2 x hx) (by decide), lcD_all boughD (fun b => .str b.1) (fun b hb R S hr => ?_) ?_⟩
    · refine ⟨_, rfl, rfl, _, _, rfl, _, _, rfl, rfl, ?_⟩
      simp only [getD_0, getD_s, set_0, set_s, boolD_bl, intD_int, startD, List.map, List.length_cons, List.length_nil, List.replicate, List.cons_append, List.nil_append, defEnds, wipeD, if_true, if_false, Bool.not_true, Bool.not_false, Bool.false_eq_true]
      exact hr
    · refine ⟨.inr x.1, rfl, Nat.lt_of_lt_of_le (show b.length < 1000 by simp at hl; omega) (by decide), ?_⟩
      rw [putD_new hn]
      exact r
  rw [en, List.nil_append]
  refine ⟨a, _, rfl, Nat.lt_of_lt_of_le (len_putFD (n := 1) (by decide)) (by decide), ?_⟩
  have flk : ∀ (out : Kind → Bough → D), (∀ k b, k ∈ ks → b ∈ k.2 → True) → ((ks.flatMap fun k => k.2.map fun b => ((.inr b.1 : Key), out k b)).map (·.1)) = (bNames ks).map Sum.inr := fun out _ => by
    unfold bNames; rw [List.map_flatMap, List.map_flatMap]; simp only [List.map_map]; rfl
  have sub : ∀ x ∈ ks, ∀ (out : Bough → D) (b : List (Key × D)), b.length + (x.2.flatMap fun y => [((.inr y.1 : Key), out y)]).length ≤ 1000 ↔ b.length + (x.2.map fun y => ((.inr y.1 : Key), out y)).length ≤ 1000 := fun x _ out b => by rw [← List.map_eq_flatMap]
  refine loopD_put kindD (fun k => k.2.map fun b => (.inr b.1, .str k.1)) 1000 (fun x hx b R S hl hn r => ?_) (by have := g.klen; unfold kindsBy at this; simp only [List.length_nil]; omega) (by rw [List.nil_append]; exact g.kk) ?_
  · refine ⟨_, rfl, rfl, _, _, rfl, _, _, rfl, rfl, ?_⟩
    simp only [getD_0, getD_s, set_0, set_s, boolD_bl, intD_int, startD, List.map, List.length_cons, List.length_nil, List.replicate, List.cons_append, List.nil_append, defEnds, wipeD, if_true, if_false, Bool.not_true, Bool.not_false, Bool.false_eq_true]
    refine loopD_put boughD (fun y => [(.inr y.1, .str x.1)]) 1000 (fun y hy b R S hl hn r => ?_) (by rw [← List.map_eq_flatMap]; exact hl) (by rw [← List.map_eq_flatMap]; exact hn) (by rw [← List.map_eq_flatMap]; exact r)
    refine ⟨_, rfl, rfl, _, _, rfl, _, _, rfl, rfl, ?_⟩
    simp only [getD_0, getD_s, set_0, set_s, boolD_bl, intD_int, startD, List.map, List.length_cons, List.length_nil, List.replicate, List.cons_append, List.nil_append, defEnds, wipeD, if_true, if_false, Bool.not_true, Bool.not_false, Bool.false_eq_true]
    refine ⟨.inr y.1, rfl, Nat.lt_of_lt_of_le (show b.length < 1001 by simp at hl; omega) (by decide), ?_⟩
    rw [putD_new hn]
    exact r
  rw [List.nil_append]
  refine ⟨a, _, rfl, Nat.lt_of_lt_of_le (len_putFD (len_putFD (n := 1) (by decide))) (by decide), ?_⟩
  refine loopD_put kindD (fun k => k.2.map fun b => (.inr b.1, .tup (b.2.map D.str))) 1000 (fun x hx b R S hl hn r => ?_) (by have := g.flen; unfold fieldsBy at this; simp only [List.length_nil]; omega) (by rw [List.nil_append]; exact g.fk) ?_
  · refine ⟨_, rfl, rfl, _, _, rfl, _, _, rfl, rfl, ?_⟩
    simp only [getD_0, getD_s, set_0, set_s, boolD_bl, intD_int, startD, List.map, List.length_cons, List.length_nil, List.replicate, List.cons_append, List.nil_append, defEnds, wipeD, if_true, if_false, Bool.not_true, Bool.not_false, Bool.false_eq_true]
    refine loopD_put boughD (fun y => [(.inr y.1, .tup (y.2.map D.str))]) 1000 (fun y hy b R S hl hn r => ?_) (by rw [← List.map_eq_flatMap]; exact hl) (by rw [← List.map_eq_flatMap]; exact hn) (by rw [← List.map_eq_flatMap]; exact r)
    refine ⟨_, rfl, rfl, _, _, rfl, _, _, rfl, rfl, ?_⟩
    simp only [getD_0, getD_s, set_0, set_s, boolD_bl, intD_int, startD, List.map, List.length_cons, List.length_nil, List.replicate, List.cons_append, List.nil_append, defEnds, wipeD, if_true, if_false, Bool.not_true, Bool.not_false, Bool.false_eq_true]
    refine ⟨.inr y.1, rfl, Nat.lt_of_lt_of_le (show b.length < 1001 by simp at hl; omega) (by decide), ?_⟩
    rw [putD_new hn]
    exact r
  rw [List.nil_append]
  refine ⟨a, _, rfl, Nat.lt_of_lt_of_le (len_putFD (len_putFD (len_putFD (n := 1) (by decide)))) (by decide), ?_⟩
  exact ⟨_, rfl, q⟩
theorem mem_namesBy {ks : List Kind} {x : Kind} (h : x ∈ ks) : ((.inr x.1 : Key), D.tup (x.2.map fun b => .str b.1)) ∈ namesBy ks := List.mem_map.mpr ⟨x, h, rfl⟩
theorem mem_kindsBy {ks : List Kind} {x : Kind} {b : Bough} (h : x ∈ ks) (hb : b ∈ x.2) : ((.inr b.1 : Key), D.str x.1) ∈ kindsBy ks := List.mem_flatMap.mpr ⟨x, h, List.mem_map.mpr ⟨b, hb, rfl⟩⟩
theorem mem_fieldsBy {ks : List Kind} {x : Kind} {b : Bough} (h : x ∈ ks) (hb : b ∈ x.2) : ((.inr b.1 : Key), D.tup (b.2.map D.str)) ∈ fieldsBy ks := List.mem_flatMap.mpr ⟨x, h, List.mem_map.mpr ⟨b, hb, rfl⟩⟩
end
end KB

/-! The deck and a draw (as K07a has them). -/
namespace KB
open PySem L2 Dk
open PyProof.Rows (envOfC)
abbrev s__law_deck : Stmt := top 25
theorem sc__law_deck : FnScope ["_law_script", "_law_cell"] ["_law_script"] (defScope s__law_deck) := ⟨rfl, rfl, rfl, by decide +kernel, rfl, by decide +kernel, by decide +kernel⟩
theorem bd__law_deck (kV doc pm : Value) (an : Option Addr) (cdv ct : Value) (us : List Value) (hl : us.length = 1) : bindArgs (PySem.W.fnOf "_law_deck" "_law_deck" (defArgs s__law_deck) (defBody s__law_deck) (defScope s__law_deck) .none kV doc pm an cdv ct) ⟨us, []⟩ = pure ((["_law_script"] : List Str).zip us) := by
  match us, hl with
  | [v0], _ => rfl
abbrev s__law_draw : Stmt := top 26
theorem sc__law_draw : FnScope ["_law_deck_here", "_law_most", "_law_cell", "_law_number"] ["_law_deck_here", "_law_most"] (defScope s__law_draw) := ⟨rfl, rfl, rfl, by decide +kernel, rfl, by decide +kernel, by decide +kernel⟩
theorem bd__law_draw (kV doc pm : Value) (an : Option Addr) (cdv ct : Value) (us : List Value) (hl : us.length = 2) : bindArgs (PySem.W.fnOf "_law_draw" "_law_draw" (defArgs s__law_draw) (defBody s__law_draw) (defScope s__law_draw) .none kV doc pm an cdv ct) ⟨us, []⟩ = pure ((["_law_deck_here", "_law_most"] : List Str).zip us) := by
  match us, hl with
  | [v0, v1], _ => rfl
section
variable {P : Program} {w : World} {K : PySem.W.Frag} {mg : Str → Option Value} {base : Heap}
/-- a deck made of the script -/
def spDeck (K : PySem.W.Frag) : Sp := fun vs H Q _ => ∃ (a : Addr) (ns : List Int), vs = [.ref a] ∧ SqL K H a (ns.map V.int) ∧ ns.length ≤ 63 ∧ ∀ p l H', Same H H' → H p = none → H l = none → deckAt p l H' → Q (.ref p) H'
theorem ok_deck {f : Addr} {fd : FuncData} {k : Nat} (Fn : Fun K "_law_deck" "_law_deck" s__law_deck f fd) (mList : mg "list" = none) (mSum : mg "sum" = none) (mLen : mg "len" = none) : FnOk P w K mg base CX0 (k + 1) f fd ["_law_script"] (spDeck K) := by
  refine Fn.ok sc__law_deck (fun vs H Q E h => ?_) (fun cdv A outer s H vs Q E hr h => ?_)
  · obtain ⟨a, ns, rfl, _⟩ := h
    rfl
  obtain ⟨a, ns, rfl, hS, h63, q⟩ := h
  refine ⟨_, pss_one (ps_ret (pe_lst (pa_cons (pe_revL (pe_callTy call_list_of rfl mList (by decide +kernel) (pa_cons (pe_slice sl_list (pv 0) po_none (po_some pe_int)) pa_nil)))
    (pa_cons (pe_op op_add (pe_callB (cr_sum rfl) rfl mSum (by decide +kernel) (pa_cons (pe_lc (own := [("_law_cell", 1)]) (g := gName 1) (tt := tYes) rfl sc__law_deck.nd (pi_list (pe_slice sl_list (pv 0) po_none (po_some pe_int))) (blkOk_by (own := [("_law_cell", 1)]) (N := ["_law_script", "_law_cell"]) (sc := defScope s__law_deck) (by decide +kernel))
        (fun _ _ _ _ _ => pg_name (i := 1) sc__law_deck.nd rfl (Or.inl rfl)) (fun _ _ _ _ _ => pts_nil) (fun _ _ _ _ _ => pe_op op_modN (pv 1) pe_int)) pa_nil))
      (pe_op op_mul pe_int (pe_callB call_len_seq rfl mLen PySem.boot_len (pa_cons (pe_slice sl_list (pv 0) po_none (po_some pe_int)) pa_nil))))
    (pa_cons pe_int pa_nil))))), ?_⟩
  have cut63 : cutV (ns.map V.int) none (some 63) = ns.map V.int := by
    unfold cutV
    rw [HT.sIx_none, List.drop_zero, show HT.sIx (ns.map V.int).length (ns.map V.int).length (some 63) = min 63 (ns.map V.int).length from HT.sIx_nat _ _ 63]
    rw [List.length_map, Nat.min_eq_right h63, Nat.sub_zero, ← List.length_map (f := V.int), List.take_length]
  -- list(script[:63])[::-1]
  refine ⟨_, rfl, 63, rfl, a, _, rfl, hS, fun c nc => ?_⟩
  rw [cut63]
  have s1 : Same H (upd H c (.lst (ns.map V.int))) := Same.laid nc
  refine ⟨c, _, rfl, .inl (.of upd_same), fun d nd => ?_⟩
  have s2 := Same.trans s1 (Same.laid (o := .lst (ns.map V.int)) nd)
  refine ⟨d, _, rfl, .of upd_same, fun l nl => ?_⟩
  have s3 := Same.trans s2 (Same.laid (o := .lst (ns.map V.int).reverse) nl)
  -- sum([cell % 1000003 for cell in script[:63]]) + 7919 * len(script[:63])
  refine ⟨_, rfl, 63, rfl, a, _, rfl, s3.seq hS, fun e ne => ?_⟩
  rw [cut63]
  have s4 := Same.trans s3 (Same.laid (o := .lst (ns.map V.int)) ne)
  refine ⟨e, rfl, ⟨_, .of upd_same⟩, fun D nD => ?_⟩
  generalize hH4 : upd (upd (upd (upd H c (HO.lst (List.map V.int ns))) d (HO.lst (List.map V.int ns))) l (HO.lst (List.map V.int ns).reverse)) e (HO.lst (List.map V.int ns)) = H4 at *
  have e4 : H4 e = some (.lst (ns.map V.int)) := by rw [← hH4]; exact upd_same
  have l4 : H4 l = some (.lst (ns.map V.int).reverse) := by rw [← hH4, upd_ne (ne_of_none upd_same ne)]; exact upd_same
  refine lc_list (K := K) (a := e) (xs := ns.map V.int) (fun i H' => Same H4 H' ∧ H' D = some (.lst ((ns.take i).map fun c => V.int (c.fmod 1000003)))) ⟨Same.laid nD, upd_same⟩ (fun i H' _ h => .of (h.1 _ _ e4)) ?_ ?_
  · intro i x H' hx ⟨sm, hD⟩
    have hi : i < ns.length := by
      have := (List.getElem?_eq_some_iff.mp hx).1
      simpa using this
    have hx' : x = .int ns[i] := by
      rw [List.getElem?_map, List.getElem?_eq_getElem hi] at hx
      exact (Option.some.inj hx).symm
    subst hx'
    refine ⟨rfl, _, rfl, _, _, rfl, rfl, (show (1000003 : Int) ≠ 0 by decide), _, hD, ?_, fun b u eb => ?_, ?_⟩
    · rw [List.length_map, List.length_take]
      exact Nat.lt_of_le_of_lt (Nat.min_le_left _ _) (small1000 (by omega))
    · rw [upd_ne (ne_of_none eb nD)]; exact sm _ _ eb
    · rw [upd_same, List.take_add_one, List.getElem?_eq_getElem hi, List.map_append]
      rfl
  · intro H' ⟨sm, hD⟩
    rw [List.length_map, List.take_length] at hD
    refine ⟨D, ns.map fun c => c.fmod 1000003, rfl, .of (by rw [hD, List.map_map]; rfl), _, rfl, 63, rfl, a, _, rfl, sm.seq (s4.seq hS), fun g ng => ?_⟩
    rw [cut63]
    refine ⟨g, _, rfl, .inl (.of upd_same), _, _, rfl, rfl, (.inl ⟨by decide, by decide⟩), _, _, rfl, rfl, (show 3 ≤ sizeLine by decide), fun p np => ?_⟩
    have s5 : Same H4 (upd (upd H' g (.lst (ns.map V.int))) p (.lst [.ref l, .int ((ns.map fun c => c.fmod 1000003).sum + 7919 * ((ns.map V.int).length : Int)), .int 0])) := Same.trans sm (Same.trans (Same.laid ng) (Same.laid np))
    have np4 : H4 p = none := by
      cases z : H4 p with
      | none => rfl
      | some u => have := Same.trans sm (Same.laid (o := .lst (ns.map V.int)) ng) _ _ z; rw [np] at this; cases this
    refine q p l _ (Same.trans s4 s5) (Same.free s4 np4) (Same.free s2 nl) ⟨ns.reverse, _, 0, upd_same, ?_, by simpa using h63, ?_⟩
    · rw [s5 _ _ l4, List.map_reverse]
    · intro z
      rw [z, l4] at np4
      cases np4
/-- a draw: any number below the most -/
theorem ok_draw {a l : Addr} {f : Addr} {fd : FuncData} {k : Nat} (Fn : Fun K "_law_draw" "_law_draw" s__law_draw f fd) : FnOk P w K mg base CX0 (k + 1) f fd ["_law_deck_here", "_law_most"] (spD (DeckW a l) K (spDraw a)) := by
  refine Fn.ok sc__law_draw (fun vs H Q E h => spD_len _ _ _ _ h) (fun cdv A outer s H vs Q E hr h => ?_)
  obtain ⟨I, ds, st, rs, m, rfl, m0, m1, q⟩ := h
  obtain ⟨v1, v2, rfl, r1, r2⟩ := rs.two
  cases r1
  cases r2
  have hu := hr.units
  obtain ⟨ns, sm, t, ha, hl, h63, nal⟩ := st.inv
  have done : ∀ (v : Int) (ns' : List Int) (sm' t' : Int) (H' : Hp), 0 ≤ v → v < m → ns'.length ≤ 63 → H' a = some (.lst [.ref l, .int sm', .int t']) → H' l = some (.lst (ns'.map V.int)) → (∀ b o, H b = some o → b ≠ a → b ≠ l → H' b = some o) → Q (.int v) H' :=
    fun v ns' sm' t' H' h0 h1 h2 h3 h4 h5 => q v h0 h1 (.int v) I H' (stp_deck st h5 ⟨ns', sm', t', h3, h4, h2, nal⟩) (.int v)
  -- the last three rows
  obtain ⟨t2, d2, r2⟩ : ∃ t2, PSs (cxOf CX0 P w K mg base ["_law_deck_here", "_law_most", "_law_cell", "_law_number"] "_law_draw" (defScope s__law_draw) f cdv A outer s H E).nox ((defBody s__law_draw).drop 3) t2 ∧
      ∀ (c : Int) (ns' : List Int) (t' : Int) (H' : Hp), ns'.length ≤ 63 → H' a = some (.lst [.ref l, .int sm, .int t']) → H' l = some (.lst (ns'.map V.int)) → (∀ b o, H b = some o → b ≠ a → b ≠ l → H' b = some o) →
        t2 { nx := fun _ H' => Q .non H', rt := Q } [some (.ref a), some (.int m), some (.int c), none] H' := by
    refine ⟨_, pss_cons (ps_set (i := 3) sc__law_draw.nd rfl (.inl rfl) (pe_op op_mod (pe_op op_mul (pe_op op_add (pe_op op_add (pe_op op_mod (pv 2) pe_int) (pe_op op_mul pe_int (pe_ix ix_list (pv 0) pe_int (fun _ _ => rfl)))) pe_int) pe_int) pe_int))
      (pss_cons (ps_set (i := 3) sc__law_draw.nd rfl (.inl rfl) (pe_op op_mod (pe_op op_add (pe_op op_add (pe_op op_mul (pv 3) (pv 3)) (pe_op op_mul pe_int (pe_ix ix_list (pv 0) pe_int (fun _ _ => rfl)))) pe_int) pe_int))
      (pss_one (ps_ret (pe_op op_mod (pe_op op_fdivW (pe_op op_mod (pe_op op_add (pe_op op_mul (pv 3) (pv 3)) pe_int) pe_int) pe_int) (pv 1))))), fun c ns' t' H' h2 h3 h4 h5 => ?_⟩
    have pos1 : (0 : Int) < 2147483629 := by decide
    refine ⟨_, rfl, _, _, rfl, rfl, pos1, _, rfl, a, _, 2, .int t', rfl, rfl, .of h3, atI_nat (j := 2) rfl, _, _, rfl, rfl, .inl ⟨by decide, by decide⟩, _, _, rfl, rfl, _, _, rfl, rfl, _, _, rfl, rfl, .inr ⟨by decide, by decide⟩, _, _, rfl, rfl, (show (0 : Int) < 2147483647 by decide), ?_⟩
    generalize hx : (c % 2147483629 + 65537 * t' + 11) * 48271 % 2147483647 = x
    have x0 : 0 ≤ x := by rw [← hx]; exact Int.emod_nonneg _ (by decide)
    have x1 : x < 2147483647 := by rw [← hx]; exact Int.emod_lt_of_pos _ (by decide)
    refine ⟨_, rfl, _, rfl, _, _, rfl, rfl, .inl ⟨by omega, by omega⟩, _, rfl, a, _, 2, .int t', rfl, rfl, .of h3, atI_nat (j := 2) rfl, _, _, rfl, rfl, .inl ⟨by decide, by decide⟩, _, _, rfl, rfl, _, _, rfl, rfl, _, _, rfl, rfl, (show (0 : Int) < 2147483587 by decide), ?_⟩
    generalize hy : (x * x + 69621 * t' + 23) % 2147483587 = y
    have y0 : 0 ≤ y := by rw [← hy]; exact Int.emod_nonneg _ (by decide)
    have y1 : y < 2147483587 := by rw [← hy]; exact Int.emod_lt_of_pos _ (by decide)
    refine ⟨_, rfl, _, rfl, _, _, rfl, rfl, .inl ⟨by omega, by omega⟩, _, _, rfl, rfl, _, _, rfl, rfl, (show (0 : Int) < 2147483563 by decide), _, _, rfl, rfl, ⟨by decide, by decide⟩, _, rfl, _, _, rfl, rfl, m0, ?_⟩
    exact done _ ns' sm t' H' (Int.emod_nonneg _ (by omega)) (Int.emod_lt_of_pos _ m0) h2 h3 h4 h5
  refine ⟨_, pss_cons (ps_asg (pe_op op_add (pe_ix ix_list (pv 0) pe_int (fun _ _ => rfl)) pe_int) (pg_sub (pv 0) pe_int set_list))
    (pss_cons (ps_set (i := 2) sc__law_draw.nd rfl (.inl rfl) (pe_ix ix_list (pv 0) pe_int (fun _ _ => rfl)))
    (pss_cons (ps_if (pt_cmpR (op_neD hu) (pe_ix ix_list (pv 0) pe_int (fun _ _ => rfl)) (pe_lst pa_nil) (nomark _))
      (pss_cons (ps_set (i := 2) sc__law_draw.nd rfl (.inl rfl) (pe_bm0 PySem.F.plainAttrs_list PySem.F.slot_list_pop PySem.F.type_list_pop mt_pop (pe_ix ix_list (pv 0) pe_int (fun _ _ => rfl))))
      (pss_one (ps_if (pt_cmpR op_ge (pv 2) (pe_op op_pow pe_int pe_int) (nomark _))
        (pss_cons (ps_expr (pe_bm PySem.F.plainAttrs_list PySem.F.slot_list_append PySem.F.type_list_append mt_append (pe_ix ix_list (pv 0) pe_int (fun _ _ => rfl)) (pa_cons (pe_op op_fdivW (pv 2) (pv 1)) pa_nil)))
        (pss_one (ps_ret (pe_op op_mod (pv 2) (pv 1))))) pss_nil))) pss_nil) d2)), ?_⟩
  -- deck[2] = deck[2] + 1; cell = deck[1]
  refine ⟨_, rfl, a, _, 2, .int t, rfl, rfl, .of ha, atI_nat (j := 2) rfl, _, _, rfl, rfl, _, rfl, a, _, 2, 2, rfl, rfl, ha, rfl, ?_⟩
  refine ⟨_, rfl, a, _, 1, .int sm, rfl, rfl, .of upd_same, atI_nat (j := 1) rfl, ?_⟩
  -- if deck[0] != []
  have hl1 : ∀ o, upd H a o l = some (.lst (ns.map V.int)) := fun o => by rw [upd_ne nal.symm]; exact hl
  refine ⟨_, rfl, a, _, 0, .ref l, rfl, rfl, .of upd_same, atI_nat (j := 0) rfl, Nat.zero_le _, fun p np => ?_⟩
  have npa : a ≠ p := ne_of_none upd_same np
  have npl : l ≠ p := ne_of_none (hl1 _) np
  have ha2 : upd (upd H a (.lst [.ref l, .int sm, .int (t + 1)])) p (.lst []) a = some (.lst [.ref l, .int sm, .int (t + 1)]) := by rw [upd_ne npa, upd_same]
  have hl2 : upd (upd H a (.lst [.ref l, .int sm, .int (t + 1)])) p (.lst []) l = some (.lst (ns.map V.int)) := by rw [upd_ne npl]; exact hl1 _
  have kp2 : ∀ b o, H b = some o → b ≠ a → upd (upd H a (.lst [.ref l, .int sm, .int (t + 1)])) p (.lst []) b = some o := fun b o e nb => by
    have e' : upd H a (.lst [.ref l, .int sm, .int (t + 1)]) b = some o := by rw [upd_ne nb]; exact e
    rw [upd_ne (ne_of_none e' np)]; exact e'
  refine ⟨.list (ns.map .int), .list [], .lst (.of hl2) (dp_ints ns), .lst (.of upd_same) .nil, shaped_ints ns, shaped_ints [], _, rfl, ?_⟩
  rw [eqv_nil]
  refine ite2 (fun hc => ?_) (fun hc => ?_)
  · -- a cell is there
    have hne : ns ≠ [] := by
      rintro rfl
      simp at hc
    obtain ⟨pre, c, rfl⟩ : ∃ pre c, ns = pre ++ [c] := ⟨_, _, (List.dropLast_concat_getLast hne).symm⟩
    have hlen : ((pre ++ [c]).map V.int).length - 1 = pre.length := by simp
    refine ⟨_, rfl, a, _, 0, .ref l, rfl, rfl, .of ha2, atI_nat (j := 0) rfl, .inl ⟨rfl, _, .of hl2⟩, l, _, .int c, rfl, rfl, hl2, ?_, ?_⟩
    · rw [hlen]; simp
    have hd : ((pre ++ [c]).map V.int).dropLast = pre.map V.int := by simp
    rw [hd]
    have ha3 : upd (upd (upd H a (.lst [.ref l, .int sm, .int (t + 1)])) p (.lst [])) l (.lst (pre.map V.int)) a = some (.lst [.ref l, .int sm, .int (t + 1)]) := by rw [upd_ne nal]; exact ha2
    have hpre : pre.length ≤ 62 := by
      have := h63
      simp at this
      omega
    refine ⟨_, rfl, _, _, rfl, rfl, ⟨by decide, by decide, by decide⟩, _, _, rfl, rfl, _, rfl, ?_⟩
    refine ite2 (fun hb => ?_) (fun hb => ?_)
    · -- the rest of it is put back
      refine ⟨_, rfl, a, _, 0, .ref l, rfl, rfl, .of ha3, atI_nat (j := 0) rfl, .inl ⟨rfl, _, .of upd_same⟩, _, rfl, _, rfl, _, _, rfl, rfl, ⟨m0, m1⟩, l, _, _, rfl, rfl, upd_same, ?_, ?_⟩
      · rw [List.length_map]; exact small1000 (by omega)
      · refine ⟨_, rfl, _, rfl, _, _, rfl, rfl, m0, ?_⟩
        refine done _ (pre ++ [c / m]) sm (t + 1) _ (Int.emod_nonneg _ (by omega)) (Int.emod_lt_of_pos _ m0) (by simp; omega) ?_ ?_ fun b o e na nl => ?_
        · rw [upd_ne nal, upd_ne nal]; exact ha2
        · rw [upd_same]; simp
        · rw [upd_ne nl, upd_ne nl]; exact kp2 b o e na
    · exact r2 c pre (t + 1) _ (by omega) ha3 upd_same fun b o e na nl => by rw [upd_ne nl]; exact kp2 b o e na
  · exact r2 sm ns (t + 1) _ h63 ha2 hl2 fun b o e na _ => kp2 b o e na
end
end KB

/-! Lists drawn; texts by their signs. -/
namespace Dk
open PySem L2
theorem exists_all {α : Type} {g : α → D} {p : α → Prop} : ∀ {ds : List D}, (∀ d ∈ ds, ∃ x, d = g x ∧ p x) → ∃ xs : List α, ds = xs.map g ∧ xs.length = ds.length ∧ ∀ x ∈ xs, p x
  | [], _ => ⟨[], rfl, rfl, by simp⟩
  | d :: ds, h => by
    obtain ⟨x, e, hx⟩ := h d (by simp)
    obtain ⟨xs, e1, e2, e3⟩ := exists_all (ds := ds) fun d hd => h d (List.mem_cons_of_mem _ hd)
    exact ⟨x :: xs, by rw [e, e1]; rfl, by simp [e2], fun y hy => by
      rcases List.mem_cons.mp hy with rfl | hy
      · exact hx
      · exact e3 y hy⟩
/-- a list of drawn things -/
theorem lcD_any {β : Type} {g : DGT} {tc : DB} {te : DT} {ρ : DEnv} (g' : β → D) (p : β → Prop) : ∀ {l : List D} {Q : List D → Prop}, (∀ a ∈ l, ∀ (R : D → Prop) (S : Prop), (∀ b, p b → R (g' b)) → g a ρ fun ρ2 => tc ρ2 fun b => if b = true then te ρ2 R else S) →
    (∀ bs : List β, bs.length = l.length → (∀ b ∈ bs, p b) → Q (bs.map g')) → lcD g tc te ρ l Q := by
  intro l
  induction l with
  | nil => intro Q _ q; exact q [] rfl (by simp)
  | cons a l ih =>
    intro Q hs q
    refine hs a (by simp) _ _ fun b hb => ih (fun x hx => hs x (List.mem_cons_of_mem _ hx)) fun bs hl hp => q (b :: bs) (by simp [hl]) fun y hy => ?_
    rcases List.mem_cons.mp hy with rfl | hy
    · exact hb
    · exact hp y hy
def txt (l : List Nat) : Str := ⟨l.toArray⟩
theorem txt_app (a b : List Nat) : txt a ++ txt b = txt (a ++ b) := by
  show Str.mk (a.toArray ++ b.toArray) = Str.mk (a ++ b).toArray
  rw [List.append_toArray]
theorem txt_len (l : List Nat) : (txt l).length = l.length := by
  show l.toArray.size = _
  simp
theorem txt_list (l : List Nat) : (txt l).cps.toList = l := by simp [txt]
theorem txt_of (z : Str) : txt z.cps.toList = z := by simp [txt]
theorem txt_inj {a b : List Nat} (h : txt a = txt b) : a = b := by
  have := congrArg (fun z => z.cps.toList) h
  simpa [txt] using this
theorem join_txt (l : List Nat) : Txt.join "" (l.map fun c => txt [c]) = txt l := by
  show Builtin.Str.glued "" _ = _
  rw [StrLaws.glued_eq_join]
  induction l with
  | nil => rfl
  | cons c r ih =>
    cases r with
    | nil => rfl
    | cons d r =>
      rw [List.map_cons, List.map_cons]
      show txt [c] ++ "" ++ Str.join "" (txt [d] :: r.map fun c => txt [c]) = _
      rw [List.map_cons] at ih
      rw [ih]
      have : (txt [c] ++ "" : Str) = txt [c] := by
        show txt [c] ++ txt [] = _
        rw [txt_app]; rfl
      rw [this, txt_app]
      rfl
theorem cut_txt_to (l : List Nat) (k : Nat) : cutS (txt l) none (some (k : Int)) = txt (l.take k) := by
  unfold cutS txt
  congr 2
  rw [HT.sIx_none, HT.sIx_nat, List.drop_zero, Nat.sub_zero]
  show List.take (min k l.toArray.size) l.toArray.toList = _
  simp
theorem cut_txt (l : List Nat) (a b : Nat) : cutS (txt l) (some (a : Int)) (some (b : Int)) = txt ((l.drop a).take (b - a)) := by
  unfold cutS txt
  congr 2
  rw [HT.sIx_nat, HT.sIx_nat]
  show List.take (min b l.toArray.size - min a l.toArray.size) (List.drop (min a l.toArray.size) l.toArray.toList) = _
  simp only [List.size_toArray]
  by_cases h : a ≤ l.length
  · rw [Nat.min_eq_left h]
    by_cases h2 : b ≤ l.length
    · rw [Nat.min_eq_left h2]
    · rw [Nat.min_eq_right (by omega), List.take_of_length_le (by simp), List.take_of_length_le (by simp; omega)]
  · rw [Nat.min_eq_right (by omega : l.length ≤ a), List.drop_of_length_le (by simp), List.drop_of_length_le (by omega : l.length ≤ a)]
    simp
section
variable {F : Fx} {X : Cx} {a b : Expr} {ta : DT} {tb : DTO} {px py pt pos : Pos} {x y : Str}
/-- a, b = x, y: the second one a list of our own; one of the names is held by a comprehension -/
theorem ds_parOc {i j : Nat} {kt k2 pt2} (hc : X.calm = true) (hN : X.N.Nodup) (hi : X.N[i]? = some x) (hj : X.N[j]? = some y) (hij : i ≠ j) (hkx : Loc X.env.scope x) (hky : Loc X.env.scope y)
    (hfx : X.fn x = true ∨ X.env.scope.names.lookup x = some .local) (hfy : X.fn y = true ∨ X.env.scope.names.lookup y = some .local)
    (ha : DE F X a ta) (hb : DEO F X b tb) (hs1 : starEach [a, b] X.env = (false, eval a X.env) :: starEach [b] X.env := by rfl) (hs2 : starEach [b] X.env = (false, eval b X.env) :: starEach [] X.env := by rfl)
    (hsw : swappedStores [.Tuple [.Name x px, .Name y py] kt pt] (.Tuple [a, b] k2 pt2) X.env = pure none := by rfl) (hs : swapsWithSole [.Tuple [.Name x px, .Name y py] kt pt] (.Tuple [a, b] k2 pt2) pos.line X.env = pure false := by rfl)
    (h1 : (assignEach [.Tuple [.Name x px, .Name y py] kt pt] X.env).map (·.2) = [assign (.Tuple [.Name x px, .Name y py] kt pt) X.env] := by rfl)
    (hn : (assignEach [.Name x px, .Name y py] X.env).length = 2 := by rfl) (hst : (assignEach [.Name x px, .Name y py] X.env).findIdx? (·.1) = none := by rfl)
    (hg1 : (assignEach [.Name x px, .Name y py] X.env).map (·.2) = assign (.Name x px) X.env :: (assignEach [.Name y py] X.env).map (·.2) := by rfl) (hg2 : (assignEach [.Name y py] X.env).map (·.2) = assign (.Name y py) X.env :: (assignEach [] X.env).map (·.2) := by rfl) :
    DSt F X (.Assign [.Tuple [.Name x px, .Name y py] kt pt] (.Tuple [a, b] k2 pt2) pos) (fun Z ρ => ta ρ fun d => tb ρ fun es => Z.nx ((ρ.set i (some (.dat d))).set j (some (.own es)))) := by
  refine ⟨fun Z Z' ρ l q => ha.mono _ _ _ (fun d q => hb.mono _ _ _ (fun es q => l.nx _ q) q) q, (ps_asg (pe_tup (pa_cons ha.run (pa_cons hb.run pa_nil hs2) hs1)) (pg_tup (n := 2) hc (pgs_cons (pg_name hN hi hkx hfx) (pgs_cons (pg_name hN hj hky hfy) pgs_nil hg2) hg1) hn hst) hs hsw h1).imp fun Z σ H ⟨I, ρ, A, q⟩ => ?_⟩
  refine rdE_next ha.mono A q fun d v I1 H1 q1 s1 rv => ⟨I1, ρ, A.step s1, hb.mono _ _ _ (fun es q p vs I2 H2 s2 hp rs => ?_) q1⟩
  have A2 := ((A.step s1).step s2).set (i := i) (rv.mono s2.i)
  have A3 := A2.newOwn (i := j) (en := .own es) hp ⟨_, rfl, rs⟩
  refine ⟨show 2 ≤ sizeLine by decide, fun t ht => ?_⟩
  have st := A3.st.laidM ht (.tup [v, .ref p])
  exact ⟨t, _, rfl, .of upd_same, rfl, _, _, rfl, _, _, rfl, rfl, q I2 _ _ (Same.trans s1.i s2.i) (A3.step st)⟩
end
/-! ### a list that a comprehension makes, our own -/
theorem Stp.dropNew {W : Wd} {I H I' H' : Hp} {p : Addr} (s : Stp W I H I' H') (hp : H p = none) (n : I' p = none) (m : ¬ W.mv p) : Stp W I H I' (dropA H' p) :=
  ⟨s.i, s.st.drop n m, fun b o e k => by rw [dropA_ne (ne_of_none e hp)]; exact s.h b o e k, s.new⟩
theorem upd_dropA {H : Hp} {p : Addr} {o : HO} (h : H p = some o) : upd (dropA H p) p o = H := by
  funext b
  by_cases e : b = p
  · subst e; rw [upd_same, h]
  · rw [upd_ne e, dropA_ne e]
section
variable {F : Fx} {X Y : Cx} {elt tg iter : Expr} {ifs : List Expr} {scope : Scope} {own : List (Str × Nat)} {pos : Pos} {ti : DAT} {js : List Nat} {g : DGT} {tc : DB} {te : DT}
theorem deo_lc (hc : X.calm = true) (hN : X.N.Nodup) (hi : DI F X tg iter ti) (ok : BlkOk X.N X.env.scope scope own)
    (hg : ∀ (s : Shared) (H : Hp) (C : Addr) (cl : List (Str × Addr)) (fp : List Addr), DG F (X.blk s H scope (compEnvC scope cl C X.env) fp) tg js g)
    (ht : ∀ (s : Shared) (H : Hp) (C : Addr) (cl : List (Str × Addr)) (fp : List Addr), DIfs F (X.blk s H scope (compEnvC scope cl C X.env) fp) ifs tc)
    (he : ∀ (s : Shared) (H : Hp) (C : Addr) (cl : List (Str × Addr)) (fp : List Addr), DE F (X.blk s H scope (compEnvC scope cl C X.env) fp) elt te)
    (hjs : ∀ j ∈ js, j ∈ own.map (·.2) := by decide) (hs : ∀ x, foldedSetIterable iter X.env x = pure x := by intro _; rfl) :
    DEO F X (.ListComp elt [⟨tg, iter, ifs, 0⟩] scope pos) (fun ρ Q => ti ρ fun ds => ds.length ≤ sizeLine ∧ lcD g tc te (wipeD ρ (own.map (·.2))) ds fun ys => Q ys) := by
  have g0 := hg X.s_0 X.H_0 0 [] []
  have t0 := ht X.s_0 X.H_0 0 [] []
  have e0 := he X.s_0 X.H_0 0 [] []
  refine ⟨fun ρ Q Q' k q => hi.mono _ _ _ (fun ds q => ⟨q.1, lcD.mono g0 t0 e0 _ _ _ _ (fun ys => k _) q.2⟩) q, (pe_lc (g := rdG F X.K js g) (tt := rdT F X.K tc) (te := rdE F X.K te) hc hN hi.run ok (fun s H C cl fp => (hg s H C cl fp).run) (fun s H C cl fp => (ht s H C cl fp).run) (fun s H C cl fp => (he s H C cl fp).run) hs).imp fun σ H Q ⟨I, ρ, A, q⟩ => ?_⟩
  refine lc_run g0.mono t0.mono e0.mono hi.mono hjs A q fun ys q p I' H' s hp ip bp mp ⟨ws, h, r⟩ => ?_
  have := q p ws I' (dropA H' p) (Stp.dropNew s hp ip mp) (if_pos rfl) r
  rwa [upd_dropA h] at this
theorem ds_setLcO {i : Nat} {y : Str} {py spos : Pos} (hc : X.calm = true) (hN : X.N.Nodup) (hy : X.N[i]? = some y) (hyl : X.env.scope.names.lookup y = some .local)
    (hsw : swapsWith (.ListComp elt [⟨tg, iter, ifs, 0⟩] scope pos) (some (.Name y py)) spos.line X.env = pure true) (hi : DI F X tg iter ti) (ok : BlkOk X.N X.env.scope scope own)
    (hg : ∀ (s : Shared) (H : Hp) (C : Addr) (cl : List (Str × Addr)) (fp : List Addr), DG F (X.blk s H scope (compEnvC scope cl C X.env) fp) tg js g)
    (ht : ∀ (s : Shared) (H : Hp) (C : Addr) (cl : List (Str × Addr)) (fp : List Addr), DIfs F (X.blk s H scope (compEnvC scope cl C X.env) fp) ifs tc)
    (he : ∀ (s : Shared) (H : Hp) (C : Addr) (cl : List (Str × Addr)) (fp : List Addr), DE F (X.blk s H scope (compEnvC scope cl C X.env) fp) elt te)
    (hjs : ∀ j ∈ js, j ∈ own.map (·.2) := by decide) (hs : ∀ x, foldedSetIterable iter X.env x = pure x := by intro _; rfl) :
    DSt F X (.Assign [.Name y py] (.ListComp elt [⟨tg, iter, ifs, 0⟩] scope pos) spos) (fun Z ρ => ti ρ fun ds => ds.length ≤ sizeLine ∧ lcD g tc te (wipeD ρ (own.map (·.2))) ds fun ys => Z.nx (ρ.set i (some (.own ys)))) := by
  have g0 := hg X.s_0 X.H_0 0 [] []
  have t0 := ht X.s_0 X.H_0 0 [] []
  have e0 := he X.s_0 X.H_0 0 [] []
  refine ⟨fun Z Z' ρ l q => hi.mono _ _ _ (fun ds q => ⟨q.1, lcD.mono g0 t0 e0 _ _ _ _ (fun ys => l.nx _) q.2⟩) q, (ps_setLc (g := rdG F X.K js g) (tt := rdT F X.K tc) (te := rdE F X.K te) hc hN hy hyl hsw hi.run ok (fun s H C cl fp => (hg s H C cl fp).run) (fun s H C cl fp => (ht s H C cl fp).run) (fun s H C cl fp => (he s H C cl fp).run) hs).imp fun Z σ H ⟨I, ρ, A, q⟩ => ?_⟩
  refine lc_run g0.mono t0.mono e0.mono hi.mono hjs A q fun ys q p I' H' s hp ip bp mp ⟨ws, h, r⟩ => ?_
  have s' := Stp.dropNew s hp ip mp
  have A' := (A.step s').newOwn (i := i) (en := .own ys) (p := p) (if_pos rfl) ⟨_, rfl, r⟩
  rw [upd_dropA h] at A'
  exact q _ _ _ s.i A'
end
end Dk

/-! Names drawn, in plain words. -/
namespace KB
open PySem L2 Dk
def letter (c : Nat) : Prop := 97 ≤ c ∧ c ≤ 122
def sgAt (w : List Nat) (at' k : Nat) : Nat := 97 + ((w.getD at' 97 - 97) + k) % 26
def nm (way : Int) (w : List Nat) (at' sz k : Nat) : List Nat :=
  if way = 1 then sgAt w at' k :: w.take (k % 8) else w.take at' ++ (sgAt w at' k :: (w.drop (at' + 1)).take (sz - (at' + 1)))
theorem sgAt_letter {w : List Nat} {a k : Nat} : letter (sgAt w a k) := by
  unfold letter sgAt
  have := Nat.mod_lt ((w.getD a 97 - 97) + k) (show 26 > 0 by decide)
  omega
theorem sgAt_inj {w : List Nat} {a i j : Nat} (hi : i < 26) (hj : j < 26) (h : sgAt w a i = sgAt w a j) : i = j := by
  unfold sgAt at h
  omega
theorem nm_letters {way : Int} {w : List Nat} {a sz k : Nat} (hw : ∀ c ∈ w, letter c) : ∀ c ∈ nm way w a sz k, letter c := by
  intro c hc
  unfold nm at hc
  split at hc
  · rcases List.mem_cons.mp hc with rfl | h
    · exact sgAt_letter
    · exact hw c (List.mem_of_mem_take h)
  · rcases List.mem_append.mp hc with h | h
    · exact hw c (List.mem_of_mem_take h)
    · rcases List.mem_cons.mp h with rfl | h
      · exact sgAt_letter
      · exact hw c (List.mem_of_mem_drop (List.mem_of_mem_take h))
theorem nm_len {way : Int} {w : List Nat} {a sz k : Nat} (h8 : w.length = 8) (ha : a < 8) (h1 : a + 1 ≤ sz) (h2 : sz ≤ 8) : 1 ≤ (nm way w a sz k).length ∧ (nm way w a sz k).length ≤ 8 := by
  unfold nm
  split
  · simp only [List.length_cons, List.length_take, h8]
    have := Nat.mod_lt k (show 8 > 0 by decide)
    omega
  · simp only [List.length_append, List.length_cons, List.length_take, List.length_drop, h8]
    omega
theorem nm_inj {way : Int} {w : List Nat} {a sz i j : Nat} (h8 : w.length = 8) (ha : a < 8) (hi : i < 26) (hj : j < 26) (h : nm way w a sz i = nm way w a sz j) : i = j := by
  unfold nm at h
  split at h
  · exact sgAt_inj hi hj (List.cons.inj h).1
  · have := List.append_cancel_left h
    exact sgAt_inj hi hj (List.cons.inj this).1
theorem nodup_map_of {α β : Type} {f : α → β} {l : List α} (h : l.Nodup) (hf : ∀ a ∈ l, ∀ b ∈ l, f a = f b → a = b) : (l.map f).Nodup := by
  induction l with
  | nil => simp
  | cons a l ih =>
    rw [List.nodup_cons] at h
    rw [List.map_cons, List.nodup_cons]
    refine ⟨fun hm => ?_, ih h.2 fun x hx y hy => hf x (List.mem_cons_of_mem _ hx) y (List.mem_cons_of_mem _ hy)⟩
    obtain ⟨b, hb, e⟩ := List.mem_map.mp hm
    have := hf a (by simp) b (List.mem_cons_of_mem _ hb) e.symm
    exact h.1 (this ▸ hb)
def found26 (way : Int) (w : List Nat) (a sz : Nat) : List Str := (List.range 26).map fun k => txt (nm way w a sz k)
def prefixes (w : List Nat) : List Str := (List.range 8).map fun k => txt (w.take (k + 1))
structure Fresh (l : List Str) : Prop where
  nd : l.Nodup
  ok : ∀ x ∈ l, 1 ≤ x.length ∧ x.length ≤ 8 ∧ ∀ c ∈ x.cps.toList, letter c
theorem fresh26 {way : Int} {w : List Nat} {a sz : Nat} (h8 : w.length = 8) (hw : ∀ c ∈ w, letter c) (ha : a < 8) (h1 : a + 1 ≤ sz) (h2 : sz ≤ 8) : Fresh (found26 way w a sz) where
  nd := nodup_map_of List.nodup_range fun i hi j hj e => nm_inj h8 ha (List.mem_range.mp hi) (List.mem_range.mp hj) (txt_inj e)
  ok := fun x hx => by
    obtain ⟨k, _, rfl⟩ := List.mem_map.mp hx
    rw [txt_len, txt_list]
    exact ⟨(nm_len h8 ha h1 h2).1, (nm_len h8 ha h1 h2).2, nm_letters hw⟩
theorem freshP {w : List Nat} (h8 : w.length = 8) (hw : ∀ c ∈ w, letter c) : Fresh (prefixes w) where
  nd := nodup_map_of List.nodup_range fun i hi j hj e => by
    have := congrArg List.length (txt_inj e)
    have h1 := List.mem_range.mp hi
    have h2 := List.mem_range.mp hj
    simp only [List.length_take, h8] at this
    omega
  ok := fun x hx => by
    obtain ⟨k, hk, rfl⟩ := List.mem_map.mp hx
    have := List.mem_range.mp hk
    rw [txt_len, txt_list, List.length_take, h8]
    exact ⟨by omega, by omega, fun c hc => hw c (List.mem_of_mem_take hc)⟩
theorem fresh_names {l : List Str} (h : Fresh l) {m : Nat} (hm : m + 1 ≤ l.length) : ((l.filter fun x => !decide (x = numS)).take m).length = m ∧ ((l.filter fun x => !decide (x = numS)).take m).Nodup ∧ ∀ x ∈ (l.filter fun x => !decide (x = numS)).take m, nameOk x = true := by
  have e : (l.filter fun x => !decide (x = numS)) = l.erase numS := by
    rw [h.nd.erase_eq_filter]
    refine List.filter_congr fun x _ => ?_
    by_cases hx : x = numS <;> simp [hx]
  refine ⟨?_, ?_, fun x hx => ?_⟩
  · rw [List.length_take, e, List.length_erase]
    split <;> omega
  · exact (h.nd.filter _).sublist (List.take_sublist _ _)
  · have hf := List.mem_of_mem_take hx
    obtain ⟨h1, h2⟩ := List.mem_filter.mp hf
    obtain ⟨a, b, c⟩ := h.ok x h1
    unfold nameOk
    simp only [a, b, decide_true, Bool.true_and, Bool.and_eq_true]
    refine ⟨h2, ?_⟩
    rw [List.all_eq_true]
    intro z hz
    have := c z hz
    unfold letter at this
    unfold signOk
    simp [this.1, this.2]
end KB

namespace KB
open PySem L2 Dk
open PyProof.Rows (envOfC)
abbrev s__law_pick : Stmt := top 27
theorem sc__law_pick : FnScope ["_law_deck_here", "_law_some"] ["_law_deck_here", "_law_some"] (defScope s__law_pick) := ⟨rfl, rfl, rfl, by decide +kernel, rfl, by decide +kernel, by decide +kernel⟩
theorem bd__law_pick (kV doc pm : Value) (an : Option Addr) (cdv ct : Value) (us : List Value) (hl : us.length = 2) : bindArgs (PySem.W.fnOf "_law_pick" "_law_pick" (defArgs s__law_pick) (defBody s__law_pick) (defScope s__law_pick) .none kV doc pm an cdv ct) ⟨us, []⟩ = pure ((["_law_deck_here", "_law_some"] : List Str).zip us) := by
  match us, hl with
  | [v0, v1], _ => rfl
abbrev s__law_names : Stmt := top 28
theorem sc__law_names : FnScope ["_law_deck_here", "_law_many", "_law_letters", "_law_way", "_law_word", "_law_k", "_law_at", "_law_size", "_law_found", "_law_sign", "_law_name"] ["_law_deck_here", "_law_many"] (defScope s__law_names) := ⟨rfl, rfl, rfl, by decide +kernel, rfl, by decide +kernel, by decide +kernel⟩
theorem bd__law_names (kV doc pm : Value) (an : Option Addr) (cdv ct : Value) (us : List Value) (hl : us.length = 2) : bindArgs (PySem.W.fnOf "_law_names" "_law_names" (defArgs s__law_names) (defBody s__law_names) (defScope s__law_names) .none kV doc pm an cdv ct) ⟨us, []⟩ = pure ((["_law_deck_here", "_law_many"] : List Str).zip us) := by
  match us, hl with
  | [v0, v1], _ => rfl
def spPick (a : Addr) : DSp where
  n := 2
  f := fun ds Q _ => ∃ xs : List D, ds = [.opq a, .lst xs] ∧ xs ≠ [] ∧ xs.length ≤ 1000000 ∧ ∀ x ∈ xs, Q x
  len := fun ds Q E ⟨m, e, _⟩ => by rw [e]; rfl
  mono := fun ds Q Q' E E' k _ ⟨m, e, h, h2, q⟩ => ⟨m, e, h, h2, fun x hx => k _ (q x hx)⟩
def spNames (a : Addr) : DSpO where
  n := 2
  f := fun ds Q => ∃ m : Nat, ds = [.opq a, .int m] ∧ 1 ≤ m ∧ m ≤ 25 ∧ ∀ xs : List Str, xs.length = m → xs.Nodup → (∀ x ∈ xs, nameOk x = true) → Q (xs.map D.str)
  len := fun ds Q ⟨m, e, _⟩ => by rw [e]; rfl
  mono := fun ds Q Q' k ⟨m, e, h, h2, q⟩ => ⟨m, e, h, h2, fun xs h1 h2 h3 => k _ (q xs h1 h2 h3)⟩
theorem ix_abc {i : Int} {Q : D → Prop} (h0 : 0 ≤ i) (h1 : i < 26) (q : Q (.str (txt [97 + i.toNat]))) : ixD (.str "abcdefghijklmnopqrstuvwxyz") (.int i) Q := by
  refine ⟨by decide, 97 + i.toNat, ?_, q⟩
  obtain ⟨n, rfl⟩ := Int.eq_ofNat_of_zero_le h0
  have h : n < 26 := by omega
  have all : ∀ n, n < 26 → atI ("abcdefghijklmnopqrstuvwxyz" : Str).cps.toList ((n : Nat) : Int) = some (97 + n) := by decide +kernel
  simpa using all n h
theorem idx_abc {c : Nat} {Q : D → Prop} (h : letter c) (q : Q (.int ((c - 97 : Nat) : Int))) : sidxD "abcdefghijklmnopqrstuvwxyz" (.str ⟨#[c]⟩) Q := by
  refine ⟨_, c - 97, rfl, ?_, q⟩
  have all : ∀ n, n < 26 → Txt.index0 "abcdefghijklmnopqrstuvwxyz" ⟨#[97 + n]⟩ = some n := by decide +kernel
  have h1 := all (c - 97) (by have := h.2; omega)
  have e : 97 + (c - 97) = c := by have := h.1; omega
  rwa [e] at h1
theorem rng_drop {lo : Int} {n i : Nat} {d : D} {ds : List D} (h : d :: ds = (rngD lo n).drop i) : i < n ∧ d = .int (lo + (i : Nat)) ∧ ds = (rngD lo n).drop (i + 1) := by
  have hi : i < (rngD lo n).length := by
    by_cases hc : i < (rngD lo n).length
    · exact hc
    · rw [List.drop_of_length_le (by omega)] at h; cases h
  rw [List.drop_eq_getElem_cons hi] at h
  obtain ⟨e1, e2⟩ := List.cons.inj h
  rw [rngD_length] at hi
  refine ⟨hi, ?_, e2⟩
  rw [e1]
  simp [rngD]
section
variable {P : Program} {w : World} {K : PySem.W.Frag} {C a l : Addr} {mg : Str → Option Value} {base : Heap} {k : Nat} {f : Addr} {fd : FuncData}
theorem ok_pick (T : TxtB K C mg) (Fn : Fun K "_law_pick" "_law_pick" s__law_pick f fd) (C__law_draw : Cal P w K mg base CX0 (DeckW a l) k "_law_draw" ["_law_deck_here", "_law_most"] (spDraw a)) : GnOk P w K mg base CX0 (k + 1) f fd ["_law_deck_here", "_law_some"] (spD (DeckW a l) K (spPick a)) := by
  refine Fn.okD sc__law_pick rfl fun cdv A outer s H I ds Q Ed E hr h => ?_
  have hu := hr.units
  obtain ⟨xs, rfl, hne, hl, q⟩ := h
  refine ⟨_, (dss_one (ds_ret (de_at hu (de_name 1) (de_fn C__law_draw (hr.mono (by omega)) pass0 lets0 (da_cons (de_name 0) (da_cons (de_len T.b_len (da_cons (de_name 1) da_nil)) da_nil)))))), ?_⟩
  simp only [getD_0, getD_s, set_0, set_s, boolD_bl, intD_int, startD, List.map, List.length_cons, List.length_nil, List.replicate, List.cons_append, List.nil_append, defEnds, wipeD, if_true, if_false, Bool.not_true, Bool.not_false, Bool.false_eq_true]
  have lp : 0 < xs.length := List.length_pos_iff.mpr hne
  have hlog : (xs.length : Int).natAbs.log2 < 9000 := by
    rw [Int.natAbs_natCast]
    have : xs.length.log2 ≤ xs.length.log2 := Nat.le_refl _
    exact Nat.lt_of_lt_of_le ((Nat.log2_lt (by omega)).mpr (show xs.length < 2 ^ 20 by omega)) (by decide)
  refine ⟨(xs.length : Int), rfl, by omega, hlog, fun v h0 h1 => ?_⟩
  obtain ⟨n, rfl⟩ := Int.eq_ofNat_of_zero_le h0
  have hn : n < xs.length := by omega
  exact ⟨_, atI_nat (List.getElem?_eq_getElem hn), q _ (List.getElem_mem hn)⟩
theorem ok_names (T : TxtB K C mg) (Fn : Fun K "_law_names" "_law_names" s__law_names f fd) (C__law_draw : Cal P w K mg base CX0 (DeckW a l) k "_law_draw" ["_law_deck_here", "_law_most"] (spDraw a)) : GnOk P w K mg base CX0 (k + 1) f fd ["_law_deck_here", "_law_many"] (spO (DeckW a l) K (spNames a)) := by
  refine Fn.okO sc__law_names rfl fun cdv A outer s H I ds Q E hr h => ?_
  have hu := hr.units
  obtain ⟨m, rfl, hm1, hm2, q⟩ := h
  refine ⟨_, (dss_cons (ds_set 2 de_str sc__law_names.nd)
  (dss_cons (ds_set 3 (de_fn C__law_draw (hr.mono (by omega)) pass0 lets0 (da_cons (de_name 0) (da_cons de_int da_nil))) sc__law_names.nd)
  (dss_cons (ds_set 4 (de_join de_str (de_lc (own := [("_law_k", 5)]) rfl sc__law_names.nd (di_range1 T.b_range (da_cons de_int da_nil)) (blkOk_by (own := [("_law_k", 5)]) (N := ["_law_deck_here", "_law_many", "_law_letters", "_law_way", "_law_word", "_law_k", "_law_at", "_law_size", "_law_found", "_law_sign", "_law_name"]) (sc := defScope s__law_names) (by decide +kernel)) (fun _ _ _ _ _ => (dg_name 5 sc__law_names.nd)) (fun _ _ _ _ _ => dif_nil) (fun _ _ _ _ _ => (de_at hu (de_name 2) (de_fn C__law_draw (hr.mono (by omega)) pass0 lets0 (da_cons (de_name 0) (da_cons de_int da_nil))))))) sc__law_names.nd)
  (dss_cons (ds_set 6 (de_fn C__law_draw (hr.mono (by omega)) pass0 lets0 (da_cons (de_name 0) (da_cons de_int da_nil))) sc__law_names.nd)
  (dss_cons (ds_set 7 (de_add (de_add (de_name 6) de_int) (de_fn C__law_draw (hr.mono (by omega)) pass0 lets0 (da_cons (de_name 0) (da_cons (de_sub de_int (de_name 6)) da_nil)))) sc__law_names.nd)
  (dss_cons (ds_own 8 da_nil sc__law_names.nd)
  (dss_cons (ds_for PassesOwn.never rfl (di_range1 T.b_range (da_cons de_int da_nil)) (dg_name 5 sc__law_names.nd)
  (dss_cons (ds_set 9 (de_at hu (de_name 2) (de_mod (de_add (de_sindex rfl takes0 (de_name 2) (de_at hu (de_name 4) (de_name 6))) (de_name 5)) de_int)) sc__law_names.nd)
  (dss_cons (ds_set 10 (de_add (de_add (de_slice (de_name 4) do_none (do_some (de_name 6))) (de_name 9)) (de_slice (de_name 4) (do_some (de_add (de_name 6) de_int)) (do_some (de_name 7)))) sc__law_names.nd)
  (dss_cons (ds_if (dt_c (.eq hu) (de_name 3) de_int)
  (dss_one (ds_set 10 (de_add (de_name 9) (de_slice (de_name 4) do_none (do_some (de_mod (de_name 5) de_int)))) sc__law_names.nd))
  dss_nil)
  (dss_one (ds_append 8 (de_name 10)))))))
  (dss_freeze 8
  (dss_cons (ds_if (dt_wh (dw_and (dt_c (.eq hu) (de_name 3) de_int) (dw_and1 (dt_c .lt (de_name 1) de_int))))
  (dss_one (by first | exact (ds_setLc (i := 8) (own := [("_law_k", 5)]) rfl sc__law_names.nd rfl rfl (sw_true rfl rfl rfl (by decide +kernel)) (di_range1 T.b_range (da_cons de_int da_nil)) (blkOk_by (own := [("_law_k", 5)]) (N := ["_law_deck_here", "_law_many", "_law_letters", "_law_way", "_law_word", "_law_k", "_law_at", "_law_size", "_law_found", "_law_sign", "_law_name"]) (sc := defScope s__law_names) (by decide +kernel)) (fun _ _ _ _ _ => (dg_name 5 sc__law_names.nd)) (fun _ _ _ _ _ => dif_nil) (fun _ _ _ _ _ => (de_slice (de_name 4) do_none (do_some (de_add (de_name 5) de_int))))) | exact (ds_set 8 (de_lc (own := [("_law_k", 5)]) rfl sc__law_names.nd (di_range1 T.b_range (da_cons de_int da_nil)) (blkOk_by (own := [("_law_k", 5)]) (N := ["_law_deck_here", "_law_many", "_law_letters", "_law_way", "_law_word", "_law_k", "_law_at", "_law_size", "_law_found", "_law_sign", "_law_name"]) (sc := defScope s__law_names) (by decide +kernel)) (fun _ _ _ _ _ => (dg_name 5 sc__law_names.nd)) (fun _ _ _ _ _ => dif_nil) (fun _ _ _ _ _ => (de_slice (de_name 4) do_none (do_some (de_add (de_name 5) de_int))))) sc__law_names.nd)))
  dss_nil)
  (dss_one (ds_retO (deo_slice (de_lc (own := [("_law_name", 10)]) rfl sc__law_names.nd (di_seq (de_name 8)) (blkOk_by (own := [("_law_name", 10)]) (N := ["_law_deck_here", "_law_many", "_law_letters", "_law_way", "_law_word", "_law_k", "_law_at", "_law_size", "_law_found", "_law_sign", "_law_name"]) (sc := defScope s__law_names) (by decide +kernel)) (fun _ _ _ _ _ => (dg_name 10 sc__law_names.nd)) (fun _ _ _ _ _ => (dif_one (dt_c (.ne hu) (de_name 10) de_str))) (fun _ _ _ _ _ => (de_name 10))) do_none (do_some (de_name 1)))))))))))))), ?_⟩
  simp only [getD_0, getD_s, set_0, set_s, boolD_bl, intD_int, startD, List.map, List.length_cons, List.length_nil, List.replicate, List.cons_append, List.nil_append, defEnds, wipeD, if_true, if_false, Bool.not_true, Bool.not_false, Bool.false_eq_true]
  refine ⟨3, rfl, by decide, by decide, fun way _ _ => ?_⟩
  simp only [getD_0, getD_s, set_0, set_s, boolD_bl, intD_int, startD, List.map, List.length_cons, List.length_nil, List.replicate, List.cons_append, List.nil_append, defEnds, wipeD, if_true, if_false, Bool.not_true, Bool.not_false, Bool.false_eq_true]
  refine ⟨_, rfl, 8, rfl, by decide, by decide, by decide, lcD_any (fun c => D.str (txt [c])) letter (fun d hd R S hR => ?_) fun w0 hw0 hl0 => ?_⟩
  · simp only [getD_0, getD_s, set_0, set_s, boolD_bl, intD_int, startD, List.map, List.length_cons, List.length_nil, List.replicate, List.cons_append, List.nil_append, defEnds, wipeD, if_true, if_false, Bool.not_true, Bool.not_false, Bool.false_eq_true]
    refine ⟨26, rfl, by decide, by decide, fun v h0 h1 => ix_abc h0 h1 (hR _ ?_)⟩
    unfold letter
    omega
  have h8 : w0.length = 8 := by rw [hw0]; rfl
  refine ⟨w0.map fun c => txt [c], .inl (by rw [List.map_map]; rfl), ?_, ?_⟩
  · have e0 : ("" : Str).length = 0 := rfl
    rw [e0, Nat.mul_zero, Nat.add_zero, List.map_map]
    have : (w0.map ((fun x : Str => x.length) ∘ fun c => txt [c])) = w0.map fun _ => 1 := rfl
    rw [this, List.map_const', List.sum_replicate_nat, h8]
    decide
  rw [join_txt]
  refine ⟨8, rfl, by decide, by decide, fun at' a0 a1 => ?_⟩
  obtain ⟨at', rfl⟩ := Int.eq_ofNat_of_zero_le a0
  have ha : at' < 8 := by omega
  refine ⟨8 - (at' : Int), rfl, by omega, ?_, fun mo m0 m1 => ?_⟩
  · have : (8 - (at' : Int)).natAbs < 2 ^ 10 := by omega
    by_cases z : (8 - (at' : Int)).natAbs = 0
    · rw [z]; decide
    · exact Nat.lt_of_lt_of_le ((Nat.log2_lt z).mpr this) (by decide)
  obtain ⟨mo, rfl⟩ := Int.eq_ofNat_of_zero_le m0
  have esz : ((at' : Int) + 1 + (mo : Int)) = ((at' + 1 + mo : Nat) : Int) := by omega
  have hsz : at' + 1 + mo ≤ 8 := by omega
  refine ⟨Nat.zero_le _, 26, rfl, by decide, by decide, ?_⟩
  simp only [addD]
  generalize hS : at' + 1 + mo = sz at *
  rw [esz]
  refine forD_ind (fun (l : List D) ρ => ∃ (i : Nat) (x s n : Option Ent), i ≤ 26 ∧ l = (rngD 0 26).drop i ∧ ρ = [some (.dat (.opq a)), some (.dat (.int m)), some (.dat (.str "abcdefghijklmnopqrstuvwxyz")), some (.dat (.int way)), some (.dat (.str (txt w0))), x, some (.dat (.int at')), some (.dat (.int sz)), some (.own (((List.range i).map fun k => txt (nm way w0 at' sz k)).map D.str)), s, n]) (fun ρ ⟨i, x, s, n, hi, el, e⟩ => ?_) (fun d l ρ R ⟨i, x, s, n, hi, el, e⟩ hR => ?_) _ _ ⟨0, none, none, none, by decide, rfl, rfl⟩
  rotate_left
  · obtain ⟨hi', rfl, el'⟩ := rng_drop el
    subst e
    simp only [getD_0, getD_s, set_0, set_s, boolD_bl, intD_int, startD, List.map, List.length_cons, List.length_nil, List.replicate, List.cons_append, List.nil_append, defEnds, wipeD, if_true, if_false, Bool.not_true, Bool.not_false, Bool.false_eq_true]
    have la : (txt w0).length ≤ sizeLine := by rw [txt_len, h8]; decide
    have hget : w0[at']? = some (w0.getD at' 97) := by
      rw [List.getD_eq_getElem?_getD, List.getElem?_eq_getElem (by omega)]
      rfl
    have hat : atI (txt w0).cps.toList (at' : Int) = some (w0.getD at' 97) := by
      rw [txt_list]; exact atI_nat hget
    have hlet : letter (w0.getD at' 97) := hl0 _ (List.mem_of_getElem? hget)
    have hsg : (97 + (((((w0.getD at' 97 - 97 : Nat) : Int) + (0 + (i : Int))) % 26).toNat)) = sgAt w0 at' i := by
      unfold sgAt
      omega
    have fin : ∀ (nl : List Nat) (sg : Option Ent), nl = nm way w0 at' sz i → R [some (.dat (.opq a)), some (.dat (.int m)), some (.dat (.str "abcdefghijklmnopqrstuvwxyz")), some (.dat (.int way)), some (.dat (.str (txt w0))), some (.dat (.int (0 + (i : Int)))), some (.dat (.int at')), some (.dat (.int sz)), some (.own ((((List.range i).map fun k => txt (nm way w0 at' sz k)).map D.str) ++ [.str (txt nl)])), sg, some (.dat (.str (txt nl)))] := fun nl sg e => by
      subst e
      refine hR _ ⟨i + 1, some (.dat (.int (0 + (i : Int)))), sg, some (.dat (.str (txt (nm way w0 at' sz i)))), hi', el', ?_⟩
      rw [List.range_succ, List.map_append, List.map_append]
      rfl
    have own_len : (((List.range i).map fun k => txt (nm way w0 at' sz k)).map D.str).length < sizeLine := by
      rw [List.length_map, List.length_map, List.length_range]
      exact Nat.lt_of_lt_of_le (show i < 26 by omega) (by decide)
    refine ⟨_, rfl, la, _, hat, idx_abc hlet ?_⟩
    refine ⟨by decide, ix_abc (Int.emod_nonneg _ (by decide)) (Int.emod_lt_of_pos _ (by decide)) ?_⟩
    rw [hsg]
    refine ⟨la, ?_⟩
    rw [cut_txt_to]
    refine ⟨?_, la, ?_⟩
    · rw [txt_len, txt_len, List.length_take, h8]
      exact Nat.le_trans (show _ ≤ 100 by simp; omega) (by decide)
    rw [txt_app]
    have e1 : ((at' : Int) + 1) = ((at' + 1 : Nat) : Int) := by omega
    rw [e1, cut_txt]
    refine ⟨?_, ?_⟩
    · rw [txt_len, txt_len]
      simp only [List.length_append, List.length_take, List.length_drop, List.length_cons, List.length_nil, h8]
      exact Nat.le_trans (show _ ≤ 100 by omega) (by decide)
    rw [txt_app]
    show eqD (.int way) (.int 1) _
    rw [eqD_int]
    simp only [boolD_bl]
    by_cases hw1 : way = 1
    · rw [if_pos (by rw [decide_eq_true_eq]; exact hw1)]
      refine ⟨by decide, ?_⟩
      simp only [intD_int]
      have e2 : ((0 + (i : Int)) % 8) = ((i % 8 : Nat) : Int) := by omega
      rw [e2]
      refine ⟨la, ?_⟩
      rw [cut_txt_to]
      refine ⟨?_, _, rfl, own_len, ?_⟩
      · rw [txt_len, txt_len]
        simp only [List.length_take, List.length_cons, List.length_nil, h8]
        exact Nat.le_trans (show _ ≤ 100 by omega) (by decide)
      rw [txt_app]
      refine fin _ _ ?_
      unfold nm
      rw [if_pos hw1]
      rfl
    · rw [if_neg (by rw [decide_eq_true_eq]; exact hw1)]
      refine ⟨_, rfl, own_len, fin _ _ ?_⟩
      unfold nm
      rw [if_neg hw1]
      simp
  have hi26 : i = 26 := by
    by_cases z : i = 26
    · exact z
    · exfalso
      have := congrArg List.length el
      rw [List.length_drop, rngD_length] at this
      simp at this
      omega
  subst hi26 e
  refine ⟨_, rfl, trivial, ?_⟩
  simp only [getD_0, getD_s, set_0, set_s, boolD_bl, intD_int, startD, List.map, List.length_cons, List.length_nil, List.replicate, List.cons_append, List.nil_append, defEnds, wipeD, if_true, if_false, Bool.not_true, Bool.not_false, Bool.false_eq_true]
  simp only [eqD_int, boolD_bl]
  have fin : ∀ (L : List Str), Fresh L → m + 1 ≤ L.length → Q (cutD ((L.filter fun x => !decide (x = numS)).map D.str) none (some (m : Int))) := fun L hL hm => by
    obtain ⟨n1, n2, n3⟩ := fresh_names hL hm
    have e : cutD ((L.filter fun x => !decide (x = numS)).map D.str) none (some (m : Int)) = ((L.filter fun x => !decide (x = numS)).take m).map D.str := by
      unfold cutD
      rw [HT.sIx_none, HT.sIx_nat, List.drop_zero, Nat.sub_zero, List.map_take]
      by_cases z : m ≤ ((L.filter fun x => !decide (x = numS)).map D.str).length
      · rw [Nat.min_eq_left z]
      · rw [Nat.min_eq_right (by omega), List.take_of_length_le (Nat.le_refl _), List.take_of_length_le (by omega)]
    rw [e]
    exact q _ n1 n2 n3
  have f26 : Fresh (found26 way w0 at' sz) := fresh26 h8 hl0 ha (by omega) hsz
  by_cases hw2 : way = 2
  · rw [if_pos (by rw [decide_eq_true_eq]; exact hw2)]
    simp only [ltD, boolD_bl]
    by_cases hm4 : m < 4
    · rw [if_pos (by rw [decide_eq_true_eq]; omega)]
      refine ⟨8, rfl, by decide, by decide, by decide, ?_⟩
      rw [show rngD 0 (Int.toNat 8) = (List.range 8).map (fun i => D.int (0 + (i : Nat))) from rfl]
      refine lcD_all (fun i : Nat => D.int (0 + (i : Nat))) (fun i => .str (txt (w0.take (i + 1)))) (fun i hi R S hR => ?_) ?_
      · simp only [getD_0, getD_s, set_0, set_s, boolD_bl, intD_int, startD, List.map, List.length_cons, List.length_nil, List.replicate, List.cons_append, List.nil_append, defEnds, if_true]
        have e2 : ((0 + (i : Int)) + 1) = ((i + 1 : Nat) : Int) := by omega
        show sliceD (.str (txt w0)) none (some ((0 + (i : Int)) + 1)) R
        rw [e2]
        refine ⟨by rw [txt_len, h8]; decide, ?_⟩
        rw [cut_txt_to]
        exact hR
      · have ep : ((List.range 8).map fun i => D.str (txt (w0.take (i + 1)))) = (prefixes w0).map D.str := by unfold prefixes; rw [List.map_map]; rfl
        rw [ep]
        simp only [itemsD]
        refine ⟨by rw [List.length_map]; exact (by decide : 8 ≤ sizeLine), lcD_map D.str D.str (fun x => !decide (x = numS)) (fun x hx R S h1 h2 => ?_) ⟨_, rfl, fin _ (freshP h8 hl0) (by show m + 1 ≤ 8; omega)⟩⟩
        simp only [getD_0, getD_s, set_0, set_s, boolD_bl, intD_int, startD, List.map, List.length_cons, List.length_nil, List.replicate, List.cons_append, List.nil_append, defEnds]
        rw [neD_str]
        simp only [boolD_bl]
        cases e : !decide (x = numS)
        · have e' : (!decide (x = ("num" : Str))) = false := e
          rw [e']
          exact h2 e
        · have e' : (!decide (x = ("num" : Str))) = true := e
          rw [e']
          exact h1 e
    · rw [if_neg (by rw [decide_eq_true_eq]; omega)]
      have ep : (((List.range 26).map fun k => txt (nm way w0 at' sz k)).map D.str) = (found26 way w0 at' sz).map D.str := rfl
      rw [ep]
      simp only [itemsD, Ent.toD]
      refine ⟨by rw [List.length_map]; exact (by decide : 26 ≤ sizeLine), lcD_map D.str D.str (fun x => !decide (x = numS)) (fun x hx R S h1 h2 => ?_) ⟨_, rfl, fin _ f26 (by show m + 1 ≤ 26; omega)⟩⟩
      simp only [getD_0, getD_s, set_0, set_s, boolD_bl, intD_int, startD, List.map, List.length_cons, List.length_nil, List.replicate, List.cons_append, List.nil_append, defEnds]
      rw [neD_str]
      simp only [boolD_bl]
      cases e : !decide (x = numS)
      · have e' : (!decide (x = ("num" : Str))) = false := e
        rw [e']
        exact h2 e
      · have e' : (!decide (x = ("num" : Str))) = true := e
        rw [e']
        exact h1 e
  · rw [if_neg (by rw [decide_eq_true_eq]; exact hw2)]
    have ep : (((List.range 26).map fun k => txt (nm way w0 at' sz k)).map D.str) = (found26 way w0 at' sz).map D.str := rfl
    rw [ep]
    simp only [itemsD, Ent.toD]
    refine ⟨by rw [List.length_map]; exact (by decide : 26 ≤ sizeLine), lcD_map D.str D.str (fun x => !decide (x = numS)) (fun x hx R S h1 h2 => ?_) ⟨_, rfl, fin _ f26 (by show m + 1 ≤ 26; omega)⟩⟩
    simp only [getD_0, getD_s, set_0, set_s, boolD_bl, intD_int, startD, List.map, List.length_cons, List.length_nil, List.replicate, List.cons_append, List.nil_append, defEnds]
    rw [neD_str]
    simp only [boolD_bl]
    cases e : !decide (x = numS)
    · have e' : (!decide (x = ("num" : Str))) = false := e
      rw [e']
      exact h2 e
    · have e' : (!decide (x = ("num" : Str))) = true := e
      rw [e']
      exact h1 e
end
end KB

/-! Kinds made of fresh names, in plain words. -/
namespace KB
open PySem L2 Dk
def cw (i : Nat) : Nat := [8, 3, 3, 2, 1, 1].getD i 0
def sw (i : Nat) : Nat := [1, 4, 13, 27, 28, 29].getD i 29
/-- fields of a bough by which the i-th kind has worths -/
def wit (names : List Str) (i : Nat) (fs : List Str) : Prop := (∀ f ∈ fs, f = numS ∨ f ∈ names.take i) ∧ (fs.filter fun f => !decide (f = numS)).length ≤ cw i
theorem cw3 : ∀ i, i < 3 → 3 ≤ cw i := by decide
theorem cw2 : ∀ i, i < 6 → 2 - i / 4 ≤ cw i := by decide
theorem sw_le : ∀ i, i < 6 → ∀ j, j < i → sw j ≤ sw (i - 1) := by decide
theorem sw_ok : ∀ i, i < 6 → 0 < i → 1 + cw i * sw (i - 1) ≤ sw i := by decide
theorem sw_29 : ∀ i, i < 6 → sw i ≤ 29 := by decide
theorem sum_le_mul {α : Type} {l : List α} {s : α → Nat} {M : Nat} (h : ∀ a ∈ l, s a ≤ M) : (l.map s).sum ≤ l.length * M := by
  induction l with
  | nil => simp
  | cons a l ih =>
    have h1 := h a (by simp)
    have h2 := ih fun b hb => h b (List.mem_cons_of_mem _ hb)
    rw [List.map_cons, List.sum_cons, List.length_cons, Nat.succ_mul]
    omega
/-- kinds made so far: by the first of `names`, boughs by some of n12, the others left -/
structure Made (names n12 : List Str) (found : List Kind) (left : List Str) : Prop where
  nm : kNames found = names.take found.length
  le : found.length ≤ names.length
  pm : (bNames found ++ left).Perm n12
  ln : ∀ k ∈ found, k.2.length ≤ 8
  fld : ∀ k ∈ found, ∀ b ∈ k.2, b.2.length ≤ 8 ∧ ∀ f ∈ b.2, f = numS ∨ f ∈ names
  wf : ∀ i k, found[i]? = some k → ∃ b ∈ k.2, wit names i b.2
/-- .. and the rows of the next one -/
structure Rows (names n12 : List Str) (found : List Kind) (rows : List Bough) (left : List Str) : Prop where
  pm : (bNames found ++ (rows.map (·.1) ++ left)).Perm n12
  fld : ∀ b ∈ rows, b.2.length ≤ 8 ∧ ∀ f ∈ b.2, f = numS ∨ f ∈ names
theorem bNames_app (a b : List Kind) : bNames (a ++ b) = bNames a ++ bNames b := by unfold bNames; rw [List.flatMap_append]
theorem Made.nil {names n12 : List Str} : Made names n12 [] n12 where
  nm := rfl
  le := Nat.zero_le _
  pm := List.Perm.refl _
  ln := by simp
  fld := by simp
  wf := by simp
theorem Made.rows {names n12 : List Str} {found : List Kind} {left : List Str} (m : Made names n12 found left) : Rows names n12 found [] left := ⟨m.pm, by simp⟩
theorem Rows.add {names n12 : List Str} {found : List Kind} {rows : List Bough} {left : List Str} {x : Str} {fs : List Str} (r : Rows names n12 found rows (left ++ [x])) (h8 : fs.length ≤ 8) (hf : ∀ f ∈ fs, f = numS ∨ f ∈ names) : Rows names n12 found (rows ++ [(x, fs)]) left where
  pm := by
    refine List.Perm.trans (List.Perm.append_left _ ?_) r.pm
    rw [List.map_append, List.append_assoc]
    exact List.Perm.append_left _ List.perm_append_comm
  fld := fun b hb => by
    rcases List.mem_append.mp hb with h | h
    · exact r.fld b h
    · obtain rfl := List.mem_singleton.mp h
      exact ⟨h8, hf⟩
theorem Made.add {names n12 : List Str} {found : List Kind} {rows rows' : List Bough} {left left0 : List Str} {n : Str} (m : Made names n12 found left0) (r : Rows names n12 found rows left) (hn : names[found.length]? = some n) (hp : rows'.Perm rows) (h8 : rows.length ≤ 8)
    (hw : ∃ b ∈ rows, wit names found.length b.2) : Made names n12 (found ++ [(n, rows')]) left where
  nm := by
    have hlt := (List.getElem?_eq_some_iff.mp hn).1
    have e := (List.getElem?_eq_some_iff.mp hn).2
    rw [List.length_append, List.length_singleton, List.take_add_one, hn]
    unfold kNames
    rw [List.map_append]
    have := m.nm
    unfold kNames at this
    rw [this]
    rfl
  le := by
    have hlt := (List.getElem?_eq_some_iff.mp hn).1
    simp; omega
  pm := by
    refine List.Perm.trans ?_ r.pm
    rw [bNames_app, List.append_assoc]
    refine List.Perm.append_left _ (List.Perm.append_right _ ?_)
    unfold bNames
    simp only [List.flatMap_cons, List.flatMap_nil, List.append_nil]
    exact hp.map _
  ln := fun k hk => by
    rcases List.mem_append.mp hk with h | h
    · exact m.ln k h
    · obtain rfl := List.mem_singleton.mp h
      rw [hp.length_eq]; exact h8
  fld := fun k hk b hb => by
    rcases List.mem_append.mp hk with h | h
    · exact m.fld k h b hb
    · obtain rfl := List.mem_singleton.mp h
      exact r.fld b (hp.mem_iff.mp hb)
  wf := fun i k hi => by
    by_cases hlt : i < found.length
    · rw [List.getElem?_append_left hlt] at hi
      exact m.wf i k hi
    · rw [List.getElem?_append_right (by omega)] at hi
      have h0 : i - found.length = 0 := by
        have := (List.getElem?_eq_some_iff.mp hi).1
        simp at this; omega
      rw [h0] at hi
      cases hi
      have : i = found.length := by omega
      subst this
      obtain ⟨b, hb, h⟩ := hw
      exact ⟨b, hp.mem_iff.mpr hb, h⟩
theorem Made.good {names n12 : List Str} {found : List Kind} {left : List Str} (m : Made names n12 found left) (nd : names.Nodup) (ok : ∀ x ∈ names, nameOk x = true) (nd2 : n12.Nodup) (ok2 : ∀ x ∈ n12, nameOk x = true)
    (hl : found.length = names.length) (h1 : 1 ≤ names.length) (h6 : names.length ≤ 6) : Good found := by
  have enm : kNames found = names := by rw [m.nm, hl, List.take_length]
  have bmem : ∀ k ∈ found, ∀ b ∈ k.2, b.1 ∈ n12 := fun k hk b hb => m.pm.mem_iff.mp (List.mem_append_left _ (List.mem_flatMap.mpr ⟨k, hk, List.mem_map_of_mem hb⟩))
  refine ⟨fun e => ?_, fun k hk => ok _ (enm ▸ List.mem_map_of_mem hk), fun k hk e => ?_, fun k hk b hb => ok2 _ (bmem k hk b hb), enm ▸ nd, ?_, fun k hk b hb f hf => enm ▸ (m.fld k hk b hb).2 f hf, ?_, by omega, m.ln, fun k hk b hb => (m.fld k hk b hb).1⟩
  · subst e; simp at hl; omega
  · obtain ⟨i, hi⟩ := List.getElem?_of_mem hk
    obtain ⟨b, hb, _⟩ := m.wf i k hi
    rw [e] at hb
    cases hb
  · have := m.pm.nodup_iff.mpr nd2
    exact (List.nodup_append.mp this).1
  · refine ⟨fun f => names.idxOf f, fun f => sw (names.idxOf f), fun k hk => ?_⟩
    obtain ⟨i, hi⟩ := List.getElem?_of_mem hk
    have hin : names[i]? = some k.1 := by
      rw [← enm]; unfold kNames; rw [List.getElem?_map, hi]; rfl
    have hlt := (List.getElem?_eq_some_iff.mp hin).1
    have hidx : names.idxOf k.1 = i := by
      have e := (List.getElem?_eq_some_iff.mp hin).2
      rw [← e]
      exact nd.idxOf_getElem i hlt
    have lower : ∀ f ∈ names.take i, names.idxOf f < i := fun f ht => by
      obtain ⟨j, hj⟩ := List.getElem?_of_mem ht
      have hj2 := (List.getElem?_eq_some_iff.mp hj).1
      rw [List.length_take] at hj2
      have hjn : names[j]? = some f := by
        rw [List.getElem?_take] at hj
        split at hj
        · exact hj
        · cases hj
      have e := (List.getElem?_eq_some_iff.mp hjn).2
      have hl2 := (List.getElem?_eq_some_iff.mp hjn).1
      rw [← e, nd.idxOf_getElem j hl2]
      omega
    obtain ⟨b, hb, h, hc⟩ := m.wf i k hi
    refine ⟨by show names.idxOf k.1 < _; rw [hidx]; omega, by show sw (names.idxOf k.1) ≤ 29; rw [hidx]; exact sw_29 i (by omega), b, hb, fun f hf => (h f hf).imp id fun ht => ⟨enm ▸ List.mem_of_mem_take ht, ?_⟩, ?_⟩
    · show names.idxOf f < names.idxOf k.1
      rw [hidx]
      exact lower f ht
    · show 1 + wsum (fun f => sw (names.idxOf f)) b.2 ≤ sw (names.idxOf k.1)
      rw [hidx]
      have hin2 : ∀ f ∈ b.2.filter (fun f => !decide (f = numS)), names.idxOf f < i := fun f hf => by
        obtain ⟨h1, h2⟩ := List.mem_filter.mp hf
        rcases h f h1 with e | ht
        · simp [e] at h2
        · exact lower f ht
      by_cases hz : i = 0
      · have e : b.2.filter (fun f => !decide (f = numS)) = [] := by
          rw [List.eq_nil_iff_forall_not_mem]
          intro f hf
          have := hin2 f hf
          omega
        unfold wsum
        rw [e, hz]
        exact Nat.le_refl 1
      · have h1 := sum_le_mul (s := fun f => sw (names.idxOf f)) (M := sw (i - 1)) fun f hf => sw_le i (by omega) _ (hin2 f hf)
        have h2 := sw_ok i (by omega) (by omega)
        have h3 := Nat.mul_le_mul_right (sw (i - 1)) hc
        unfold wsum
        omega
theorem rot_perm {α : Type} (l : List α) (n : Nat) : (l.drop n ++ l.take n).Perm l := by
  have := List.perm_append_comm (l₁ := l.drop n) (l₂ := l.take n)
  rwa [List.take_append_drop] at this
theorem cutD_to (xs : List D) (k : Nat) : cutD xs none (some (k : Int)) = xs.take k := by
  unfold cutD
  rw [HT.sIx_none, HT.sIx_nat, List.drop_zero, Nat.sub_zero]
  by_cases z : k ≤ xs.length
  · rw [Nat.min_eq_left z]
  · rw [Nat.min_eq_right (by omega), List.take_of_length_le (Nat.le_refl _), List.take_of_length_le (by omega)]
theorem cutD_from (xs : List D) (k : Nat) : cutD xs (some (k : Int)) none = xs.drop k := by
  unfold cutD
  rw [HT.sIx_none, HT.sIx_nat]
  by_cases z : k ≤ xs.length
  · rw [Nat.min_eq_left z, List.take_of_length_le (by simp)]
  · rw [Nat.min_eq_right (by omega), List.drop_of_length_le (Nat.le_refl _), List.drop_of_length_le (by omega)]
    simp
theorem cutD_mem {xs : List D} {a b : Option Int} {d : D} (h : d ∈ cutD xs a b) : d ∈ xs := by
  unfold cutD at h
  exact List.mem_of_mem_drop (List.mem_of_mem_take h)
theorem cutD_len (xs : List D) (a b : Option Int) : (cutD xs a b).length ≤ xs.length := by
  unfold cutD
  rw [List.length_take, List.length_drop]
  omega
theorem last_of {α : Type} {l : List α} (h : 1 ≤ l.length) : ∃ l' x, l = l' ++ [x] := by
  have hne : l ≠ [] := by rintro rfl; simp at h
  exact ⟨_, _, (List.dropLast_concat_getLast hne).symm⟩
theorem log_small {v : Int} (h : v.natAbs < 2 ^ 20) : v.natAbs.log2 < 9000 := by
  by_cases z : v.natAbs = 0
  · rw [z]; decide
  · exact Nat.lt_of_lt_of_le ((Nat.log2_lt z).mpr h) (by decide)
theorem small_len {n : Nat} (h : n ≤ 1000) : n ≤ sizeLine := Nat.le_trans h (by decide)
theorem small_lt {n : Nat} (h : n ≤ 1000) : n < sizeLine := Nat.lt_of_le_of_lt h (by decide)
end KB

namespace KB
open PySem L2 Dk
open PyProof.Rows (envOfC)
abbrev s__law_kinds : Stmt := top 29
theorem sc__law_kinds : FnScope ["_law_deck_here", "_law_many", "_law_names_here", "_law_left", "_law_found", "_law_k", "_law_rows", "_law_j", "_law_turn", "_law_fields", "_law_at"] ["_law_deck_here"] (defScope s__law_kinds) := ⟨rfl, rfl, rfl, by decide +kernel, rfl, by decide +kernel, by decide +kernel⟩
theorem bd__law_kinds (kV doc pm : Value) (an : Option Addr) (cdv ct : Value) (us : List Value) (hl : us.length = 1) : bindArgs (PySem.W.fnOf "_law_kinds" "_law_kinds" (defArgs s__law_kinds) (defBody s__law_kinds) (defScope s__law_kinds) .none kV doc pm an cdv ct) ⟨us, []⟩ = pure ((["_law_deck_here"] : List Str).zip us) := by
  match us, hl with
  | [v0], _ => rfl
def spKinds (a : Addr) : DSp where
  n := 1
  f := fun ds Q _ => ds = [.opq a] ∧ ∀ ks, Good ks → Q (kindsD ks)
  len := fun ds Q E ⟨e, _⟩ => by rw [e]; rfl
  mono := fun ds Q Q' E E' k _ ⟨e, q⟩ => ⟨e, fun x hx => k _ (q x hx)⟩
section
variable {P : Program} {w : World} {K : PySem.W.Frag} {C a l : Addr} {mg : Str → Option Value} {base : Heap} {k : Nat} {f : Addr} {fd : FuncData}
theorem ok_kinds (T : TxtB K C mg) (Fn : Fun K "_law_kinds" "_law_kinds" s__law_kinds f fd) (C__law_draw : Cal P w K mg base CX0 (DeckW a l) k "_law_draw" ["_law_deck_here", "_law_most"] (spDraw a))
    (C__law_pick : Cal P w K mg base CX0 (DeckW a l) k "_law_pick" ["_law_deck_here", "_law_some"] (spPick a)) (CO__law_names : CalO P w K mg base (DeckW a l) k "_law_names" ["_law_deck_here", "_law_many"] (spNames a)) : GnOk P w K mg base CX0 (k + 1) f fd ["_law_deck_here"] (spD (DeckW a l) K (spKinds a)) := by
  have C__law_names := CO__law_names.cal
  refine Fn.okD sc__law_kinds rfl fun cdv A outer s H I ds Q Ed E hr h => ?_
  have hu := hr.units
  obtain ⟨rfl, q⟩ := h
  refine ⟨_, (dss_cons (ds_set 1 (de_add de_int (de_fn C__law_draw (hr.mono (by omega)) pass0 lets0 (da_cons (de_name 0) (da_cons de_int da_nil)))) sc__law_kinds.nd)
  (dss_cons (by first | exact (ds_parO (i := 2) (j := 3) rfl sc__law_kinds.nd rfl rfl (by decide) rfl rfl (de_fn C__law_names (hr.mono (by omega)) pass0 lets0 (da_cons (de_name 0) (da_cons (de_name 1) da_nil))) (deo_fn CO__law_names (hr.mono (by omega)) (da_cons (de_name 0) (da_cons de_int da_nil)))) | exact (ds_parOc (i := 2) (j := 3) rfl sc__law_kinds.nd rfl rfl (by decide) (by first | exact Or.inl rfl | exact Or.inr rfl) (by first | exact Or.inl rfl | exact Or.inr rfl) (by first | exact .inl rfl | exact .inr rfl) (by first | exact .inl rfl | exact .inr rfl) (de_fn C__law_names (hr.mono (by omega)) pass0 lets0 (da_cons (de_name 0) (da_cons (de_name 1) da_nil))) (deo_fn CO__law_names (hr.mono (by omega)) (da_cons (de_name 0) (da_cons de_int da_nil)))))
  (dss_cons (ds_own 4 da_nil sc__law_kinds.nd)
  (dss_cons (ds_for PassesOwn.never rfl (di_range1 T.b_range (da_cons (de_name 1) da_nil)) (dg_name 5 sc__law_kinds.nd)
  (dss_cons (ds_ownS 6 (das_cons (des_tup (das_cons (des_pop 3) (das_cons (des_of (de_tuple T.b_tuple (da_cons (de_lc (own := [("_law_j", 7)]) rfl sc__law_kinds.nd (di_range1 T.b_range (da_cons (de_fn C__law_draw (hr.mono (by omega)) pass0 lets0 (da_cons (de_name 0) (da_cons de_int da_nil))) da_nil)) (blkOk_by (own := [("_law_j", 7)]) (N := ["_law_deck_here", "_law_many", "_law_names_here", "_law_left", "_law_found", "_law_k", "_law_rows", "_law_j", "_law_turn", "_law_fields", "_law_at"]) (sc := defScope s__law_kinds) (by decide +kernel)) (fun _ _ _ _ _ => (dg_name 7 sc__law_kinds.nd)) (fun _ _ _ _ _ => dif_nil) (fun _ _ _ _ _ => (de_fn C__law_pick (hr.mono (by omega)) pass0 lets0 (da_cons (de_name 0) (da_cons (de_add (de_lst (da_cons de_str da_nil)) (de_slice (de_name 2) do_none (do_some (de_name 5)))) da_nil))))) da_nil))) das_nil))) das_nil) sc__law_kinds.nd)
  (dss_cons (ds_for PassesOwn.never rfl (di_range1 T.b_range (da_cons (de_fn C__law_draw (hr.mono (by omega)) pass0 lets0 (da_cons (de_name 0) (da_cons de_int da_nil))) da_nil)) (dg_name 8 sc__law_kinds.nd)
  (dss_cons (by first | exact (ds_setLc (i := 9) (own := [("_law_j", 7)]) rfl sc__law_kinds.nd rfl rfl (sw_true rfl rfl rfl (by decide +kernel)) (di_range1 T.b_range (da_cons (de_add de_int (de_fn C__law_draw (hr.mono (by omega)) pass0 lets0 (da_cons (de_name 0) (da_cons de_int da_nil)))) da_nil)) (blkOk_by (own := [("_law_j", 7)]) (N := ["_law_deck_here", "_law_many", "_law_names_here", "_law_left", "_law_found", "_law_k", "_law_rows", "_law_j", "_law_turn", "_law_fields", "_law_at"]) (sc := defScope s__law_kinds) (by decide +kernel)) (fun _ _ _ _ _ => (dg_name 7 sc__law_kinds.nd)) (fun _ _ _ _ _ => dif_nil) (fun _ _ _ _ _ => (de_fn C__law_pick (hr.mono (by omega)) pass0 lets0 (da_cons (de_name 0) (da_cons (de_add (de_add (de_lst (da_cons de_str da_nil)) (de_name 2)) (de_mul (de_slice (de_name 2) (do_some (de_name 5)) (do_some (de_add (de_name 5) de_int))) de_int)) da_nil))))) | exact (ds_set 9 (de_lc (own := [("_law_j", 7)]) rfl sc__law_kinds.nd (di_range1 T.b_range (da_cons (de_add de_int (de_fn C__law_draw (hr.mono (by omega)) pass0 lets0 (da_cons (de_name 0) (da_cons de_int da_nil)))) da_nil)) (blkOk_by (own := [("_law_j", 7)]) (N := ["_law_deck_here", "_law_many", "_law_names_here", "_law_left", "_law_found", "_law_k", "_law_rows", "_law_j", "_law_turn", "_law_fields", "_law_at"]) (sc := defScope s__law_kinds) (by decide +kernel)) (fun _ _ _ _ _ => (dg_name 7 sc__law_kinds.nd)) (fun _ _ _ _ _ => dif_nil) (fun _ _ _ _ _ => (de_fn C__law_pick (hr.mono (by omega)) pass0 lets0 (da_cons (de_name 0) (da_cons (de_add (de_add (de_lst (da_cons de_str da_nil)) (de_name 2)) (de_mul (de_slice (de_name 2) (do_some (de_name 5)) (do_some (de_add (de_name 5) de_int))) de_int)) da_nil))))) sc__law_kinds.nd))
  (dss_one (ds_appendS 6 (des_tup (das_cons (des_pop 3) (das_cons (des_of (de_tuple T.b_tuple (da_cons (de_name 9) da_nil))) das_nil)))))))
  (dss_freeze 6
  (dss_cons (ds_set 10 (de_fn C__law_draw (hr.mono (by omega)) pass0 lets0 (da_cons (de_name 0) (da_cons (de_len T.b_len (da_cons (de_name 6) da_nil)) da_nil))) sc__law_kinds.nd)
  (dss_one (ds_append 4 (de_tup (da_cons (de_at hu (de_name 2) (de_name 5)) (da_cons (de_tuple T.b_tuple (da_cons (de_add (de_slice (de_name 6) (do_some (de_name 10)) do_none) (de_slice (de_name 6) do_none (do_some (de_name 10)))) da_nil)) da_nil))))))))))
  (dss_freeze 4
  (dss_one (ds_ret (de_tuple T.b_tuple (da_cons (de_name 4) da_nil))))))))), ?_⟩
  simp only [getD_0, getD_s, set_0, set_s, boolD_bl, intD_int, startD, List.map, List.length_cons, List.length_nil, List.replicate, List.cons_append, List.nil_append, defEnds, wipeD, if_true, if_false, Bool.not_true, Bool.not_false, Bool.false_eq_true]
  refine ⟨3, rfl, by decide, by decide, fun mm m0 m1 => ?_⟩
  obtain ⟨m', rfl⟩ := Int.eq_ofNat_of_zero_le m0
  have em : (1 : Int) + (m' : Int) = ((m' + 1 : Nat) : Int) := by omega
  have hm : 1 ≤ m' + 1 ∧ m' + 1 ≤ 3 := by omega
  generalize hM : m' + 1 = m at *
  simp only [addD]
  rw [em]
  refine ⟨m, rfl, hm.1, by omega, fun names hnl hnd hnok => ⟨12, rfl, by decide, by decide, fun n12 h12 hnd2 hok2 => ⟨Nat.zero_le _, (m : Int), rfl, by omega, by omega, ?_⟩⟩⟩
  rw [Int.toNat_natCast]
  refine forD_ind (fun (l : List D) ρ => ∃ (i : Nat) (found : List Kind) (left : List Str) (s5 s6 s7 s8 s9 s10 : Option Ent), i ≤ m ∧ l = (rngD 0 m).drop i ∧ found.length = i ∧ Made names n12 found left ∧ 12 ≤ left.length + 3 * i ∧ ρ = [some (.dat (.opq a)), some (.dat (.int m)), some (.dat (.lst (names.map D.str))), some (.own (left.map D.str)), some (.own (found.map kindD)), s5, s6, s7, s8, s9, s10]) (fun ρ ⟨i, found, left, s5, s6, s7, s8, s9, s10, hi, el, fl, md, hl, e⟩ => ?_) (fun d l ρ R ⟨i, found, left, s5, s6, s7, s8, s9, s10, hi, el, fl, md, hl, e⟩ hR => ?_) _ _ ⟨0, [], n12, none, none, none, none, none, none, Nat.zero_le _, rfl, rfl, .nil, by omega, rfl⟩
  · subst e
    have him : i = m := by
      by_cases z : i = m
      · exact z
      · exfalso
        have := congrArg List.length el
        rw [List.length_drop, rngD_length] at this
        simp at this
        omega
    refine ⟨_, rfl, trivial, ?_⟩
    simp only [getD_0, getD_s, set_0, set_s, boolD_bl, intD_int, startD, List.map, List.length_cons, List.length_nil, List.replicate, List.cons_append, List.nil_append, defEnds, wipeD, if_true, if_false, Bool.not_true, Bool.not_false, Bool.false_eq_true]
    exact q found (md.good hnd hnok hnd2 hok2 (by omega) (by omega) (by omega))
  · obtain ⟨hi', rfl, el'⟩ := rng_drop el
    subst e
    obtain ⟨left1, x, rfl⟩ := last_of (l := left) (by omega)
    refine ⟨left1.map D.str, .str x, by show some (some (Ent.own ((left1 ++ [x]).map D.str))) = _; rw [List.map_append]; rfl, ?_⟩
    simp only [getD_0, getD_s, set_0, set_s, boolD_bl, intD_int, startD, List.map, List.length_cons, List.length_nil, List.replicate, List.cons_append, List.nil_append, defEnds, wipeD, if_true, if_false, Bool.not_true, Bool.not_false, Bool.false_eq_true]
    refine ⟨3, rfl, by decide, by decide, fun cn c0 c1 => ?_⟩
    refine ⟨cn, rfl, by omega, by omega, by rw [rngD_length]; exact Nat.le_trans (show cn.toNat ≤ 3 by omega) (by decide), lcD_any D.str (fun f => f = numS ∨ f ∈ names.take i) (fun d hd R S hR => ?_) fun fs hfl hfs => ?_⟩
    · simp only [getD_0, getD_s, set_0, set_s, boolD_bl, intD_int, startD, List.map, List.length_cons, List.length_nil, List.replicate, List.cons_append, List.nil_append, defEnds, wipeD, if_true, if_false, Bool.not_true, Bool.not_false, Bool.false_eq_true]
      have hc := cutD_len (names.map D.str) none (some ((i : Nat) : Int))
      rw [List.length_map, hnl] at hc
      refine ⟨by decide, ?_⟩
      rw [show (0 + (i : Int)) = ((i : Nat) : Int) from by omega]
      refine ⟨Nat.le_trans (show _ ≤ 100 by simp only [List.length_cons, List.length_nil]; omega) (by decide), _, rfl, by simp, ?_, fun z hz => ?_⟩
      · simp only [List.length_append, List.length_cons, List.length_nil]; omega
      · rcases List.mem_append.mp hz with h | h
        · obtain rfl := List.mem_singleton.mp h
          exact hR numS (.inl rfl)
        · rw [cutD_to, ← List.map_take] at h
          obtain ⟨f, hf, rfl⟩ := List.mem_map.mp h
          exact hR f (.inr hf)
    rw [rngD_length] at hfl
    refine ⟨by decide, by decide, 3, rfl, by decide, by decide, fun tn t0 t1 => ⟨tn, rfl, by omega, by omega, ?_⟩⟩
    have r1 : Rows names n12 found [(x, fs)] left1 := md.rows.add (fs := fs) (by omega) fun f hf => (hfs f hf).imp id fun h => List.mem_of_mem_take h
    refine forD_ind (fun (l2 : List D) ρ => ∃ (j : Nat) (rows : List Bough) (left : List Str) (s7 s8 s9 : Option Ent), j ≤ tn.toNat ∧ l2 = (rngD 0 tn.toNat).drop j ∧ Rows names n12 found rows left ∧ (∃ b ∈ rows, wit names i b.2) ∧ rows.length = j + 1 ∧ 11 ≤ left.length + 3 * i + j ∧ ρ = [some (.dat (.opq a)), some (.dat (.int m)), some (.dat (.lst (names.map D.str))), some (.own (left.map D.str)), some (.own (found.map kindD)), some (.dat (.int (0 + (i : Int)))), some (.own (rows.map boughD)), s7, s8, s9, s10]) (fun ρ ⟨j, rows, left, s7, s8, s9, hj, el2, hr2, hw, hlen, hleft, e⟩ => ?_) (fun d l2 ρ R2 ⟨j, rows, left, s7, s8, s9, hj, el2, hr2, hw, hlen, hleft, e⟩ hR2 => ?_) _ _ ⟨0, [(x, fs)], left1, _, _, _, Nat.zero_le _, rfl, r1, ⟨(x, fs), by simp, hfs, Nat.le_trans (List.length_filter_le _ _) (Nat.le_trans (show fs.length ≤ 3 by omega) (cw3 i (by omega)))⟩, rfl, by simp at hl; omega, rfl⟩
    · subst e
      refine ⟨_, rfl, trivial, ?_⟩
      simp only [getD_0, getD_s, set_0, set_s, boolD_bl, intD_int, startD, List.map, List.length_cons, List.length_nil, List.replicate, List.cons_append, List.nil_append, defEnds, wipeD, if_true, if_false, Bool.not_true, Bool.not_false, Bool.false_eq_true]
      have ln : (rows.map boughD).length = j + 1 := by rw [List.length_map, hlen]
      refine ⟨((rows.map boughD).length : Int), rfl, by omega, log_small (by omega), fun at' a0 a1 => ?_⟩
      obtain ⟨n, rfl⟩ := Int.eq_ofNat_of_zero_le a0
      obtain ⟨nm', hnm⟩ : ∃ x, names[i]? = some x := ⟨names[i]'(by omega), List.getElem?_eq_getElem (by omega)⟩
      refine ⟨_, rfl, .str nm', ?_, ?_⟩
      · rw [show (0 + (i : Int)) = ((i : Nat) : Int) from by omega]
        exact atI_nat (by rw [List.getElem?_map, hnm]; rfl)
      have h1 := cutD_len (rows.map boughD) (some (n : Int)) none
      have h2 := cutD_len (rows.map boughD) none (some (n : Int))
      have er : cutD (rows.map boughD) (some (n : Int)) none ++ cutD (rows.map boughD) none (some (n : Int)) = (rows.drop n ++ rows.take n).map boughD := by rw [cutD_from, cutD_to, List.map_append, List.map_drop, List.map_take]
      simp only [intD_int]
      refine ⟨small_len (by omega), by decide, small_lt (by rw [List.length_map]; omega), ?_⟩
      have ef : found.map kindD ++ [D.tup [.str nm', .tup (cutD (rows.map boughD) (some (n : Int)) none ++ cutD (rows.map boughD) none (some (n : Int)))]] = (found ++ [(nm', rows.drop n ++ rows.take n)]).map kindD := by
        rw [er, List.map_append (f := kindD)]
        rfl
      rw [ef]
      exact hR _ ⟨i + 1, found ++ [(nm', rows.drop n ++ rows.take n)], left, _, _, _, _, _, _, hi', el', by simp [fl], md.add hr2 (by rw [fl]; exact hnm) (rot_perm rows n) (by omega) (by rw [fl]; exact hw), by omega, rfl⟩
    · obtain ⟨hj', rfl, el2'⟩ := rng_drop el2
      subst e
      simp only [getD_0, getD_s, set_0, set_s, boolD_bl, intD_int, startD, List.map, List.length_cons, List.length_nil, List.replicate, List.cons_append, List.nil_append, defEnds, wipeD, if_true, if_false, Bool.not_true, Bool.not_false, Bool.false_eq_true]
      refine ⟨3, rfl, by decide, by decide, fun un u0 u1 => ?_⟩
      refine ⟨1 + un, rfl, by omega, by omega, by rw [rngD_length]; exact Nat.le_trans (show (1 + un).toNat ≤ 3 by omega) (by decide), lcD_any D.str (fun f => f = numS ∨ f ∈ names) (fun d hd R S hR => ?_) fun gs hgl hgs => ?_⟩
      · simp only [getD_0, getD_s, set_0, set_s, boolD_bl, intD_int, startD, List.map, List.length_cons, List.length_nil, List.replicate, List.cons_append, List.nil_append, defEnds, wipeD, if_true, if_false, Bool.not_true, Bool.not_false, Bool.false_eq_true]
        have h1 := cutD_len (names.map D.str) (some (0 + (i : Int))) (some (0 + (i : Int) + 1))
        rw [List.length_map, hnl] at h1
        have hcm : ∀ d ∈ cutD (names.map D.str) (some (0 + (i : Int))) (some (0 + (i : Int) + 1)), d ∈ names.map D.str := fun d h => cutD_mem h
        refine ⟨by decide, small_len (by rw [List.length_map]; omega), ?_⟩
        simp only [sliceD]
        generalize cutD (names.map D.str) (some (0 + (i : Int))) (some (0 + (i : Int) + 1)) = c at h1 hcm
        have e2 : (List.replicate (2 : Int).toNat c).flatten = c ++ (c ++ []) := rfl
        refine ⟨by decide, by decide, small_len (by show c.length * 2 ≤ _; omega), ?_⟩
        rw [e2]
        refine ⟨small_len ?_, _, rfl, by simp, ?_, fun z hz => ?_⟩
        · simp only [List.length_cons, List.length_append, List.length_map, List.length_nil]; omega
        · simp only [List.length_cons, List.length_append, List.length_map, List.length_nil]; omega
        · have hz' : z = .str numS ∨ z ∈ names.map D.str := by
            rcases List.mem_append.mp hz with h | h
            · rcases List.mem_cons.mp h with h | h
              · exact .inl h
              · exact .inr h
            · rw [List.append_nil] at h
              rcases List.mem_append.mp h with h | h <;> exact .inr (hcm _ h)
          rcases hz' with rfl | h
          · exact hR numS (.inl rfl)
          · obtain ⟨f, hf, rfl⟩ := List.mem_map.mp h
            exact hR f (.inr hf)
      rw [rngD_length] at hgl
      obtain ⟨left2, y, rfl⟩ := last_of (l := left) (by omega)
      refine ⟨_, rfl, left2.map D.str, .str y, by show some (some (Ent.own ((left2 ++ [y]).map D.str))) = _; rw [List.map_append]; rfl, by decide, _, rfl, small_lt (by rw [List.length_map]; omega), ?_⟩
      have ef : rows.map boughD ++ [D.tup [.str y, .tup (gs.map D.str)]] = (rows ++ [(y, gs)]).map boughD := by
        rw [List.map_append (f := boughD)]
        rfl
      rw [ef]
      obtain ⟨b, hb, h⟩ := hw
      simp only [List.length_append, List.length_cons, List.length_nil] at hleft
      exact hR2 _ ⟨j + 1, rows ++ [(y, gs)], left2, _, _, _, hj', el2', hr2.add (by omega) hgs, ⟨b, List.mem_append_left _ hb, h⟩, by simp [hlen], by omega, rfl⟩
end
end KB

/-! Dicts that hold dicts of our own: the inner ones lie in slots that no scope sees. -/
namespace Dk
open PySem L2
section
variable {X : Cx} {pins : List (Addr × Obj)} {σ : St} {H : Hp} {s : Shared} {st : Stmt} {t : TS}
/-- no scope sees them -/
def Unseen (X : Cx) (gs : List Nat) : Prop := ∀ g ∈ gs, ∀ x, X.N[g]? = some x → ¬ Vis X.env.scope x
def unseenB (N : List Str) (sc : Scope) (gs : List Nat) : Bool := gs.all fun g => match N[g]? with | none => true | some x => (sc.names.lookup x).isNone
theorem unseen_by {N : List Str} {sc : Scope} {gs : List Nat} (hN : X.N = N) (hs : X.env.scope = sc) (h : unseenB N sc gs = true) : Unseen X gs := by
  intro g hg x hx hv
  have := List.all_eq_true.mp h g hg
  rw [hN] at hx
  rw [hx] at this
  simp only [Option.isNone_iff_eq_none] at this
  rw [hs] at hv
  unfold Vis at hv
  rw [this] at hv
  rcases hv with h | h | h <;> cases h
theorem _root_.L2.Inv.ghost (J : Inv X pins σ H s) {g : Nat} {v : V} (h : ∀ x, X.N[g]? = some x → ¬ Vis X.env.scope x) : Inv X pins (σ.set g (some v)) H s :=
  ⟨J.ok, J.os, J.bare, J.base, let ⟨m, hn, hl⟩ := J.loc; ⟨m, hn, fun i x w e1 e2 e3 => by
      by_cases hg : g = i
      · subst hg; exact absurd e3 (h x e1)
      · exact hl i x w e1 (by rwa [List.getElem?_set_ne hg] at e2) e3⟩, J.cell, J.free, J.freeC, J.pin, J.hok, by simp [J.len]⟩
def setV : List Nat → List Addr → St → St
  | g :: gs, b :: bs, σ => setV gs bs (σ.set g (some (.ref b)))
  | _, _, σ => σ
def setQ : List Nat → List Addr → DEnv → DEnv
  | g :: gs, b :: bs, ρ => setQ gs bs (ρ.set g (some (.ownQ b [])))
  | _, _, ρ => ρ
theorem _root_.L2.Inv.ghosts (J : Inv X pins σ H s) : ∀ {gs : List Nat} {bs : List Addr}, Unseen X gs → Inv X pins (setV gs bs σ) H s := by
  intro gs
  induction gs generalizing σ with
  | nil => intro bs h; cases bs <;> exact J
  | cons g gs ih =>
    intro bs h
    cases bs with
    | nil => exact J
    | cons b bs => exact ih (J.ghost (h g (by simp))) fun g' hg => h g' (List.mem_cons_of_mem _ hg)
theorem _root_.L2.PS.ghosts (h : PS X st t) (gs : List Nat) (hg : Unseen X gs) : PS X st (fun D σ H => t { D with nx := fun σ' H' => ∃ bs, D.nx (setV gs bs σ') H' } σ H) := by
  refine ⟨fun pins s σ H D J q => thn (h.run pins s σ H _ J q) fun f s' z => ?_⟩
  cases f with
  | next =>
    obtain ⟨σ', H', J', bs, n⟩ := z
    exact ⟨_, H', J'.ghosts hg, n⟩
  | brk => exact z
  | cont => exact z
  | ret u => exact z
end

/-! ### displays -/
def fill : List (Key × Option D) → List Addr → List (Key × D)
  | [], _ => []
  | (k, some d) :: r, bs => (k, d) :: fill r bs
  | (k, none) :: r, b :: bs => (k, .opq b) :: fill r bs
  | (k, none) :: r, [] => (k, .non) :: fill r []
abbrev DPT := DEnv → (List (Key × Option D) → Prop) → Prop
/-- what the pairs of a display leave: ws the values, bs the empty dicts among them -/
structure Made (F : Fx) (K : PySem.W.Frag) (I H I' H' : Hp) (its : List (Key × Option D)) (kvs : List (Key × V)) (bs : List Addr) : Prop where
  stp : Stp F.W I H I' H'
  keys : kvs.map (·.1) = its.map (·.1)
  reps : Reps K I' (kvs.map (·.2)) ((fill its bs).map (·.2))
  len : bs.length = (its.filter (·.2.isNone)).length
  nd : bs.Nodup
  fresh : ∀ b ∈ bs, H b = none ∧ H' b = some (.dK []) ∧ I' b = none
structure DPs (F : Fx) (X : Cx) (pos : Pos) (keys : List (Option Expr)) (values : List Expr) (trs : List (TE × TE)) (t : DPT) : Prop where
  mono : ∀ ρ (Q Q' : List (Key × Option D) → Prop), (∀ d, Q d → Q' d) → t ρ Q → t ρ Q'
  pps : PPs X pos keys values trs
  run : ∀ (I : Hp) (ρ : DEnv) (σ : St) (H : Hp) (P : List (Key × Option D) → Prop) (R : List (V × V) → Hp → Prop), At F X.K I ρ σ H → t ρ P → (∀ I' H' its kvs bs, P its → Made F X.K I H I' H' its kvs bs → R (kvs.map fun kv => (kV kv.1, kv.2)) H') → tPairs trs σ H R
section
variable {F : Fx} {X : Cx} {K : PySem.W.Frag} {I H I' H' I'' H'' : Hp} {ρ : DEnv} {σ : St} {pos : Pos} {keys : List (Option Expr)} {values : List Expr} {trs : List (TE × TE)} {t : DPT} {v e : Expr} {te : DT} {p : Pos} {j : Nat} {key : Str}
theorem dps_nil : DPs F X pos [] [] [] (fun _ Q => Q []) :=
  ⟨fun _ _ _ k q => k _ q, pps_nil, fun I ρ σ H P R A q k => k I H [] [] [] q ⟨A.st.stp, rfl, .nil, rfl, List.nodup_nil, by simp⟩⟩
theorem dps_val (he : DE F X v te) (h : DPs F X pos keys values trs t) : DPs F X pos (some (.Constant (.str key) j p) :: keys) (v :: values) ((tC (.str key), rdE F X.K te) :: trs) (fun ρ Q => te ρ fun d => t ρ fun its => Q ((.inr key, some d) :: its)) := by
  refine ⟨fun ρ Q Q' k q => he.mono _ _ _ (fun d q => h.mono _ _ _ (fun its => k _) q) q, pps_cons pe_str he.run h.pps, fun I ρ σ H P R A q k => ?_⟩
  show rdE F X.K te σ H _
  refine rdE_next he.mono A q fun d v I1 H1 q1 s1 rv => ?_
  refine h.run I1 ρ σ H1 _ _ (A.step s1) q1 fun I2 H2 its kvs bs q2 m => ?_
  refine k I2 H2 _ ((.inr key, v) :: kvs) bs q2 ⟨s1.trans m.stp, by simp [m.keys], .cons (rv.mono m.stp.i) m.reps, by simpa using m.len, m.nd, fun b hb => ?_⟩
  obtain ⟨a1, a2, a3⟩ := m.fresh b hb
  refine ⟨?_, a2, a3⟩
  cases z : H b with
  | none => rfl
  | some o =>
    have nm : F.W.mv b → False := fun mv => F.W.live s1.st.inv mv a1
    rw [s1.h b o z nm] at a1
    cases a1
theorem dps_new (h : DPs F X pos keys values trs t) : DPs F X pos (some (.Constant (.str key) j p) :: keys) (.Dict [] [] pos' :: values) ((tC (.str key), tDNewK) :: trs) (fun ρ Q => t ρ fun its => Q ((.inr key, none) :: its)) := by
  refine ⟨fun ρ Q Q' k q => h.mono _ _ _ (fun its => k _) q, pps_cons pe_str pe_dnewK h.pps, fun I ρ σ H P R A q k => ?_⟩
  show ∀ b, H b = none → _
  intro b hb
  have s1 := A.st.laidM hb (.dK [])
  refine h.run I ρ σ _ _ _ (A.step s1) q fun I2 H2 its kvs bs q2 m => ?_
  have nm : ¬ F.W.mv b := fun mv => F.W.live A.st.inv mv hb
  have nb : b ∉ bs := fun hm => by have := (m.fresh b hm).1; rw [upd_same] at this; cases this
  refine k I2 H2 _ ((.inr key, .ref b) :: kvs) (b :: bs) q2 ⟨s1.trans m.stp, by simp [m.keys], .cons (.opq b) m.reps, by simpa using m.len, List.nodup_cons.mpr ⟨nb, m.nd⟩, fun c hc => ?_⟩
  rcases List.mem_cons.mp hc with rfl | hc
  · exact ⟨hb, m.stp.h _ _ upd_same nm, m.stp.new _ _ upd_same (A.st.free hb)⟩
  · obtain ⟨a1, a2, a3⟩ := m.fresh c hc
    have cb : c ≠ b := fun e => nb (e ▸ hc)
    rw [upd_ne cb] at a1
    exact ⟨a1, a2, a3⟩
theorem fill_keys : ∀ (its : List (Key × Option D)) (bs : List Addr), (fill its bs).map (·.1) = its.map (·.1)
  | [], _ => rfl
  | (k, some d) :: r, bs => by show k :: _ = k :: _; rw [fill_keys r bs]
  | (k, none) :: r, b :: bs => by show k :: _ = k :: _; rw [fill_keys r bs]
  | (k, none) :: r, [] => by show k :: _ = k :: _; rw [fill_keys r []]
theorem mergeK_nodup : ∀ {more acc : List (Key × V)}, ((acc ++ more).map (·.1)).Nodup → more.foldl (fun acc kv => putK acc kv.1 kv.2) acc = acc ++ more
  | [], acc, _ => by simp
  | x :: r, acc, h => by
    have e : putK acc x.1 x.2 = acc ++ [x] := by
      unfold putK
      rw [if_neg]
      rw [Bool.not_eq_true, List.any_eq_false]
      intro y hy
      rw [decide_eq_true_eq]
      intro z
      rw [List.map_append, List.nodup_append] at h
      exact h.2.2 y.1 (List.mem_map_of_mem hy) x.1 (by simp) z
    rw [List.foldl_cons, e, mergeK_nodup (by rwa [List.append_assoc]), List.append_assoc]
    rfl
/-- a slot that no scope sees holds a new dict -/
theorem At.newGhosts : ∀ {gs : List Nat} {bs : List Addr} {ρ : DEnv} {σ : St}, At F K I ρ σ H → bs.Nodup → (∀ b ∈ bs, H b = some (.dK []) ∧ I b = none ∧ ¬ F.W.mv b ∧ F.B b = none ∧ ∀ (i : Nat) e, ρ[i]? = some (some e) → e.isOwn → σ[i]? ≠ some (some (.ref b))) → At F K I (setQ gs bs ρ) (setV gs bs σ) H
  | [], bs, ρ, σ, A, _, _ => by cases bs <;> exact A
  | g :: gs, [], ρ, σ, A, _, _ => A
  | g :: gs, b :: bs, ρ, σ, A, hn, h => by
    obtain ⟨h1, h2, h3, h4, h5⟩ := h b (by simp)
    have A1 : At F K I (ρ.set g (some (.ownQ b []))) (σ.set g (some (.ref b))) H := by
      refine ⟨A.stp, by simp [A.len], fun i e hi => ?_, fun i l e e' v hil hi hl o1 o2 hv => ?_⟩
      · rcases set_at hi with ⟨rfl, q⟩ | ⟨hgi, q⟩
        · cases q
          have hg : g < ρ.length := by simpa using (List.getElem?_eq_some_iff.mp hi).1
          exact ⟨.ref b, by rw [List.getElem?_set]; simp [← A.len, hg], .inr ⟨b, _, rfl, h1, ⟨[], rfl, rfl, .nil⟩, h2, h3, h4, fun q z => by cases z; rfl⟩⟩
        · obtain ⟨v, e1, e2⟩ := A.env i e q
          exact ⟨v, by rw [List.getElem?_set_ne hgi]; exact e1, e2⟩
      · rcases set_at hi with ⟨rfl, q⟩ | ⟨hgi, q⟩
        · have hg : g < ρ.length := by simpa using (List.getElem?_eq_some_iff.mp hi).1
          have hv' : v = .ref b := by
            rw [List.getElem?_set] at hv
            simp [← A.len, hg] at hv
            exact hv.symm
          subst hv'
          rcases set_at hl with ⟨rfl, _⟩ | ⟨hgl, q'⟩
          · exact absurd rfl hil
          · rw [List.getElem?_set_ne hgl]
            exact h5 l e' q' o2
        · rcases set_at hl with ⟨rfl, _⟩ | ⟨hgl, q'⟩
          · rw [List.getElem?_set_ne hgi] at hv
            intro z
            have hg : g < ρ.length := by simpa using (List.getElem?_eq_some_iff.mp hl).1
            rw [List.getElem?_set] at z
            simp [← A.len, hg] at z
            subst z
            exact h5 i e q o1 hv
          · rw [List.getElem?_set_ne hgi] at hv
            rw [List.getElem?_set_ne hgl]
            exact A.dis i l e e' v hil q q' o1 o2 hv
    refine A1.newGhosts (List.nodup_cons.mp hn).2 fun c hc => ?_
    obtain ⟨c1, c2, c3, c4, c5⟩ := h c (List.mem_cons_of_mem _ hc)
    refine ⟨c1, c2, c3, c4, fun i e hi ho z => ?_⟩
    have ncb : c ≠ b := fun e => (List.nodup_cons.mp hn).1 (e ▸ hc)
    rcases set_at hi with ⟨rfl, q⟩ | ⟨hgi, q⟩
    · have hg : g < ρ.length := by simpa using (List.getElem?_eq_some_iff.mp hi).1
      rw [List.getElem?_set] at z
      simp [← A.len, hg] at z
      exact ncb z.symm
    · rw [List.getElem?_set_ne hgi] at z
      exact c5 i e q ho z
/-- x = {'a': e, 'b': {}, ..} -/
theorem ds_disp {x : Str} {p2 pos' : Pos} (i : Nat) (gs : List Nat) (hg : Unseen X gs) (hN : X.N.Nodup) (h : DPs F X p2 keys values trs t) (hi : X.N[i]? = some x := by rfl) (hx : Loc X.env.scope x := by first | exact Or.inl rfl | exact Or.inr rfl)
    (hs : swapsWith (.Dict keys values p2) (some (.Name x pos')) pos.line X.env = pure false := by rfl)
    (hf : X.fn x = true ∨ X.env.scope.names.lookup x = some .local := by first | exact .inl rfl | exact .inr rfl | assumption) (hall : keys.all (·.isSome) = true := by rfl) (hl : keys.length = values.length := by rfl) (h0 : keys ≠ [] := by simp) (h15 : keys.length ≤ 15 := by decide) :
    DSt F X (.Assign [.Name x pos'] (.Dict keys values p2) pos) (fun Z ρ => t ρ fun its => (its.map (·.1)).Nodup ∧ its.length ≤ 15 ∧ ∀ bs, bs.length = (its.filter (·.2.isNone)).length → Z.nx (setQ gs bs (ρ.set i (some (.ownD (fill its bs)))))) := by
  refine ⟨fun Z Z' ρ l q => h.mono _ _ _ (fun its q => ⟨q.1, q.2.1, fun bs hb => l.nx _ (q.2.2 bs hb)⟩) q, ((ps_set hN hi hx (pe_disp h.pps hall hl h0 h15) hs hf).ghosts gs hg).imp fun Z σ H ⟨I, ρ, A, q⟩ p hp => ?_⟩
  have s1 := A.st.laidM hp (.dK [])
  have nm : ¬ F.W.mv p := fun mv => F.W.live A.st.inv mv hp
  refine h.run I ρ σ _ _ _ (A.step s1) q fun I2 H2 its kvs bs ⟨q1, q2, q3⟩ m => ?_
  have hp2 := m.stp.h _ _ upd_same nm
  have ip2 := m.stp.new _ _ upd_same (A.st.free hp)
  have lk : kvs.length = its.length := by simpa using congrArg List.length m.keys
  refine ⟨hp2, kvs, rfl, by omega, bs, ?_⟩
  have em : mergeK [] kvs = kvs := by
    have := mergeK_nodup (more := kvs) (acc := []) (by rw [List.nil_append, m.keys]; exact q1)
    simpa [mergeK] using this
  rw [em]
  have npb : p ∉ bs := fun hm => by have := (m.fresh p hm).1; rw [upd_same] at this; cases this
  have hfr : ∀ b ∈ bs, H b = none := fun b hb => by
    have := (m.fresh b hb).1
    have bp : b ≠ p := fun e => npb (e ▸ hb)
    rwa [upd_ne bp] at this
  have sd : Stp F.W I H I2 (dropA H2 p) := Stp.dropNew (H := H) (H' := H2) ⟨m.stp.i, m.stp.st, fun b o e k => m.stp.h b o (by rw [upd_ne (ne_of_none e hp)]; exact e) k, fun b o e n => m.stp.new b o (by rw [upd_ne (ne_of_none e hp)]; exact e) n⟩ hp ip2 nm
  have A3 := (A.step sd).newOwn (i := i) (en := .ownD (fill its bs)) (o := .dK kvs) (p := p) (if_pos rfl) ⟨kvs, rfl, by rw [m.keys, fill_keys], m.reps⟩
  have eh : upd (dropA H2 p) p (.dK kvs) = upd H2 p (.dK kvs) := by
    funext b
    by_cases e : b = p
    · subst e; rw [upd_same, upd_same]
    · rw [upd_ne e, upd_ne e, dropA_ne e]
  rw [eh] at A3
  have A4 := A3.newGhosts (gs := gs) (bs := bs) m.nd fun b hb => by
    obtain ⟨b1, b2, b3⟩ := m.fresh b hb
    have hb0 := hfr b hb
    have bp : b ≠ p := fun z => npb (z ▸ hb)
    have nmb : ¬ F.W.mv b := fun mv => F.W.live A.st.inv mv hb0
    refine ⟨by rw [upd_ne bp]; exact b2, b3, nmb, ?_, fun j e h1 h2 z => ?_⟩
    · cases z : F.B b with
      | none => rfl
      | some u => have := A.stp.h _ _ z nmb; rw [hb0] at this; cases this
    · rcases set_at h1 with ⟨rfl, q⟩ | ⟨hij, q⟩
      · have hg : i < ρ.length := by simpa using (List.getElem?_eq_some_iff.mp h1).1
        rw [List.getElem?_set] at z
        simp [← A.len, hg] at z
        exact bp z.symm
      · rw [List.getElem?_set_ne hij] at z
        exact A.apart hb0 j e q h2 z
  exact q3 bs m.len I2 _ _ sd.i A4
theorem set_same_eq {α : Type} {l : List α} {n : Nat} {x : α} (h : l[n]? = some x) : l.set n x = l := by
  apply List.ext_getElem?
  intro i
  by_cases e : n = i
  · subst e
    rw [List.getElem?_set]
    simp [(List.getElem?_eq_some_iff.mp h).1, (List.getElem?_eq_some_iff.mp h).2.symm]
  · rw [List.getElem?_set_ne e]
theorem upd_id {H : Hp} {p : Addr} {o : HO} (h : H p = some o) : upd H p o = H := by
  funext b
  by_cases e : b = p
  · subst e; rw [upd_same, h]
  · rw [upd_ne e]
/-- x['b'][k] = e -/
theorem ds_gput {x : Str} {idx : Expr} {ti : DT} {j0 : Nat} {p1 p2 p3 pos' : Pos} (j g : Nat) (hu : X.A.units + 64 < cLine) (hk : DE F X idx ti) (he : DE F X e te) (hN : X.N[j]? = some x := by rfl) (hv : Vis X.env.scope x := by first | exact Or.inl rfl | exact Or.inr (Or.inl rfl) | exact Or.inr (Or.inr rfl)) (hd : (x == ("__debug__" : Str)) = false := by decide)
    (hcd : (x == ("__classdict__" : Str)) = false := by decide) (hs : swapsWith e (some (.Subscript (.Subscript (.Name x p1) (.Constant (.str key) j0 p2) p3) idx pos')) pos.line X.env = pure false := by rfl) :
    DSt F X (.Assign [.Subscript (.Subscript (.Name x p1) (.Constant (.str key) j0 p2) p3) idx pos'] e pos) (fun Z ρ => te ρ fun d => ∃ kvs q ks, ρ[j]? = some (some (.ownD kvs)) ∧ lookD kvs (.inr key) = some (.opq q) ∧ ρ[g]? = some (some (.ownQ q ks)) ∧ ti ρ fun y => ∃ k, y = keyD k ∧ ks.length < sizeLine ∧ Z.nx (ρ.set g (some (.ownQ q (putD ks k d))))) := by
  refine ⟨fun Z Z' ρ l q => he.mono _ _ _ (fun d ⟨kvs, a, ks, h1, h2, h3, q⟩ => ⟨kvs, a, ks, h1, h2, h3, hk.mono _ _ _ (fun y ⟨k, e, l', q⟩ => ⟨k, e, l', l.nx _ q⟩) q⟩) q, (ps_dput (by omega) (pe_dget (by omega) (pv j hN hv hd hcd) pe_str (fun _ _ => rfl)) hk.run he.run hs).imp fun Z σ H ⟨I, ρ, A, q⟩ => ?_⟩
  refine rdE_next he.mono A q fun d v I1 H1 q1 s1 rv => ?_
  obtain ⟨kvs, q0, ks, hx, hl0, hg, q1⟩ := q1
  have A1 := A.step s1
  obtain ⟨p, o, h1, w, _⟩ := A1.turnOwn hx trivial
  obtain ⟨ws, rfl, kk0, r0⟩ := w.rep
  rcases lookD_rep (k := .inr key) kk0 r0 with ⟨_, z⟩ | ⟨u, d', e1, e2, e3⟩
  · rw [hl0] at z; cases z
  rw [hl0] at e2
  cases e2
  cases e3
  refine ⟨_, h1, p, _, rfl, .inl ⟨ws, .inr key, .inl w.hp, rfl, e1.symm⟩, rdE_next hk.mono A1 q1 fun y u I2 H2 q2 s2 ry => ?_⟩
  obtain ⟨k, rfl, hl, q2⟩ := q2
  have A2 := A1.step s2
  obtain ⟨p', o', h1', w', turn⟩ := A2.turnOwn hg trivial
  have hp : p' = q0 := w'.ad _ rfl
  subst hp
  obtain ⟨us, rfl, kk, r⟩ := w'.rep
  obtain ⟨a1, a2⟩ := putD_rep (k := k) (rv.mono s2.i) kk r
  have ll : us.length = ks.length := by simpa using congrArg List.length kk
  exact ⟨p', _, rfl, .inl ⟨us, k, w'.hp, keyD_rep ry, by omega, rfl⟩, q2 I2 σ _ (Same.trans s1.i s2.i) (turn (.ownQ p' (putD ks k d)) _ ⟨_, rfl, a1, a2⟩ (by intro _ h; cases h; rfl))⟩
/-- the inner dict stands still from now on -/
theorem dss_sink {sts : List Stmt} {t : DTS} (i g n : Nat) (hgi : g ≠ i) (h : DSts F X sts t) : DSts F X sts (fun Z ρ => ∃ kvs k q ks, ρ[i]? = some (some (.ownD kvs)) ∧ ρ[g]? = some (some (.ownQ q ks)) ∧ kvs[n]? = some (k, .opq q) ∧ t Z ((ρ.set g (some (.dat (.dic ks)))).set i (some (.ownD (kvs.set n (k, .dic ks)))))) := by
  refine ⟨fun Z Z' ρ l ⟨kvs, k, q, ks, a, b, c, hq⟩ => ⟨kvs, k, q, ks, a, b, c, h.mono _ _ _ l hq⟩, h.run.imp fun Z σ H ⟨I, ρ, A, kvs, k, q, ks, a, b, c, hq⟩ => ?_⟩
  obtain ⟨p, o, h1, w, s, A'⟩ := A.freeze b trivial
  have hp : p = q := w.ad _ rfl
  subst hp
  obtain ⟨p2, o2, h2, w2, turn⟩ := A'.turnOwn (i := i) (en := .ownD kvs) (by rw [List.getElem?_set_ne hgi]; exact a) trivial
  obtain ⟨ws, rfl, kk, r⟩ := w2.rep
  have rp : Rep X.K (upd I p o) (.ref p) (.dic ks) := (w.rep.mono s).rep upd_same
  have hc2 : (kvs.map (·.2))[n]? = some (.opq p) := by rw [List.getElem?_map, c]; rfl
  obtain ⟨v, e1, e2⟩ := r.get hc2
  cases e2
  have ek : (kvs.set n (k, .dic ks)).map (·.1) = kvs.map (·.1) := by
    rw [List.map_set]
    have : (kvs.map (·.1))[n]? = some k := by rw [List.getElem?_map, c]; rfl
    exact set_same_eq this
  have ew : (ws.map (·.2)).set n (.ref p) = ws.map (·.2) := set_same_eq e1
  have A2 := turn (.ownD (kvs.set n (k, .dic ks))) (.dK ws) ⟨ws, rfl, by rw [ek]; exact kk, by rw [List.map_set, ← ew]; exact r.set n rp⟩ (by intro _ h; cases h)
  rw [upd_id w2.hp] at A2
  exact ⟨_, _, A2, h.mono _ _ _ (ends.le s) hq⟩
/-- .. and is locked: it may be walked -/
theorem dss_sinkL {sts : List Stmt} {t : DTS} (i g n : Nat) (hgi : g ≠ i) (h : DSts F X sts t) : DSts F X sts (fun Z ρ => ∃ kvs k q ks, ρ[i]? = some (some (.ownD kvs)) ∧ ρ[g]? = some (some (.ownQ q ks)) ∧ kvs[n]? = some (k, .opq q) ∧ t Z ((ρ.set g (some (.dat (.dfz ks)))).set i (some (.ownD (kvs.set n (k, .dfz ks)))))) := by
  refine ⟨fun Z Z' ρ l ⟨kvs, k, q, ks, a, b, c, hq⟩ => ⟨kvs, k, q, ks, a, b, c, h.mono _ _ _ l hq⟩, ⟨fun pins s0 σ H Z J ⟨I, ρ, A, kvs, k, q, ks, a, b, c, hq⟩ => ?_⟩⟩
  obtain ⟨p, o, h1, w, turn0⟩ := A.turnOwn b trivial
  obtain ⟨us, rfl, k0, r0⟩ := w.rep
  have hp : p = q := w.ad _ rfl
  subst hp
  obtain ⟨od, JL⟩ := J.lock w.hp trivial
  have AL := turn0 (.ownF p ks) (.frz od (.dK us)) ⟨od, us, rfl, k0, r0⟩ (by intro _ h; cases h; rfl)
  have gl : g < ρ.length := (List.getElem?_eq_some_iff.mp b).1
  obtain ⟨p', o', h1', w', s, A'⟩ := AL.freeze (i := g) (en := .ownF p ks) (by rw [List.getElem?_set]; simp [gl]) trivial
  have hp' : p' = p := w'.ad _ rfl
  subst hp'
  rw [List.set_set] at A'
  obtain ⟨p2, o2, h2, w2, turn⟩ := A'.turnOwn (i := i) (en := .ownD kvs) (by rw [List.getElem?_set_ne hgi]; exact a) trivial
  obtain ⟨ws, rfl, kk, r⟩ := w2.rep
  have rp : Rep X.K (upd I p' o') (.ref p') (.dfz ks) := (w'.rep.mono s).rep upd_same
  have hc2 : (kvs.map (·.2))[n]? = some (.opq p') := by rw [List.getElem?_map, c]; rfl
  obtain ⟨v, e1, e2⟩ := r.get hc2
  cases e2
  have ek : (kvs.set n (k, .dfz ks)).map (·.1) = kvs.map (·.1) := by
    rw [List.map_set]
    have : (kvs.map (·.1))[n]? = some k := by rw [List.getElem?_map, c]; rfl
    exact set_same_eq this
  have ew : (ws.map (·.2)).set n (.ref p') = ws.map (·.2) := set_same_eq e1
  have A2 := turn (.ownD (kvs.set n (k, .dfz ks))) (.dK ws) ⟨ws, rfl, by rw [ek]; exact kk, by rw [List.map_set, ← ew]; exact r.set n rp⟩ (by intro _ h; cases h)
  rw [upd_id w2.hp] at A2
  exact h.run.run pins s0 σ _ Z JL ⟨_, _, A2, h.mono _ _ _ (ends.le s) hq⟩
end
end Dk

/-! Objects of own classes by their words: len, str, f'{..}', repr, ==, isinstance. -/
namespace Dk
open PySem L2
open PyProof.Rows (envOfC)
theorem Rm.in1 {k : Nat} {A : Around} (r : Rm (k + 1) A) : Rm k A.in1 := ⟨r.room.in1, r.gd⟩
section
variable {X : Cx} {CX : CXT} {k : Nat} {f C : Addr} {fd : FuncData} {ps : List Str} {sp : Sp} {E : XK} {pins : List (Addr × Obj)} {σ : St} {H : Hp} {s : Shared} {A : Around}
/-- a def called at a place below -/
theorem gn_at {Q : VK} {us : List Value} {vs : List V} (F : GnOk X.prog X.w X.K X.mg X.base CX k f fd ps sp) (hr : Rm k A) (hfr : A.frames = X.A.frames) (hb : Binds X.K fd ps []) (hx : Passes CX X E) (J : Inv X pins σ H s) (r : Vals vs us) (h : sp vs H Q E) :
    wpAny (model X.prog X.w) A (call (.ref f) us) (EP X pins σ Q) X.xe s := by
  have e0 : Env0 X.prog X.w X.K X.mg X.base A X.stack s H := by
    have e := J.env0
    exact ⟨by rw [hfr]; exact e.frames, e.mod, e.bs, e.bsz, e.funs, e.frf, e.hok, e.bare⟩
  have hl := F.lens _ _ _ _ h
  refine wpAny_call (codeAny_mono (F.go A X.stack s H ⟨us, []⟩ us vs Q E hr e0 (by
    have := hb s us J.kIn (by rw [List.append_nil, ← r.length]; exact hl)
    simpa using this) r h) fun r s' hq => ?_)
  cases r with
  | error e => exact hx pins σ H s e s' J hq
  | ok fl =>
    cases fl with
    | ret w =>
      obtain ⟨z, H', I', rz, q⟩ := J.after hq
      exact ⟨z, H', I', rz, q⟩
    | next => exact False.elim hq
    | brk => exact False.elim hq
    | cont => exact False.elim hq
theorem special_own {M : Model} {Q : Option Value → Shared → Prop} {E : Value → Shared → Prop} {K : PySem.W.Frag} {a : Addr} {ox : Obj} {od : Option Obj} {name : Str} {args : List Value} (Z : K.In s.heap) (I : PySem.W.InstAt s.heap a ox C od) (hm : PySem.W.findIn K (.ref C) name = some (some (.ref f))) (hf : PySem.W.isFn K (.ref f) = true)
    (q : wpAny M A (call (.ref f) (.ref a :: args)) (fun v s' => Q (some v) s') E s) : wpAny M A (callSpecial? (.ref a) name args) Q E s := by
  unfold callSpecial? specialOf
  refine wpAny_bind (wpAny_bind (I.type.here ((PySem.W.looks_findIn Z hm).here ?_)))
  refine wpAny_holding ?_
  refine wpAny_bind ((PySem.W.bind_fn Z _ (beq_iff_eq.mp hf)).here ?_)
  exact wpAny_bind (wpAny_mono q (fun v s' z => wpAny_pure z) fun _ _ z => z)
theorem _root_.L2.Inv.inst {a dx : Addr} {fs : List (Str × V)} (J : Inv X pins σ H s) (h : H a = some (.ins C dx fs)) : ∃ ox od, PySem.W.InstAt s.heap a ox C od := by
  obtain ⟨mA, O, _⟩ := ins_get J.hok h
  obtain ⟨od, I, _⟩ := O.look
  exact ⟨_, od, I⟩
/-- len(o) -/
theorem len_ins {Q : Value → Shared → Prop} {P : Program} {w : World} {E : Value → Shared → Prop} {K : PySem.W.Frag} {a : Addr} {ox : Obj} {od : Option Obj} (Z : K.In s.heap) (I : PySem.W.InstAt s.heap a ox C od) (hm : PySem.W.findIn K (.ref C) "__len__" = some (some (.ref f))) (hf : PySem.W.isFn K (.ref f) = true)
    (hcall : wpAny (model P w) A.in1 (call (.ref f) [.ref a]) (fun r s' => ∃ n u, r = .int n u ∧ 0 ≤ n ∧ n < 2 ^ 63 ∧ Q (.int n s'.toks) { s' with toks := s'.toks + 1 }) E s) : wpAny (model P w) A (call (.builtin "len") [.ref a]) Q E s := by
  refine Calls.call_function_entry kind_len plain_len entry_len (args_len1 _) ?_
  unfold Builtin.«len»
  refine wpAny_bind (m := oneArg "len" _) (wpAny_pure ?_)
  refine wpAny_bind (m := callSpecial? (.ref a) (Str.ofString "__len__")) (special_own Z I hm hf (wpAny_mono hcall (fun r s' hr => ?_) fun _ _ y => y))
  obtain ⟨n, u, rfl, h0, h1, hq⟩ := hr
  refine wpAny_bind (wpAny_holding (wpAny_pure ?_))
  refine wpAny_bind (wpAny_letGo ?_)
  show wpAny _ _ (if n < 0 then _ else _) _ _ _
  rw [if_neg (by omega)]
  show wpAny _ _ (if n ≥ 2 ^ 63 then _ else _) _ _ _
  rw [if_neg (by omega)]
  exact wpAny_bind (wpAny_mkInt (wpAny_pure ⟨_, rfl, hq⟩))
/-- str(o) within the model -/
theorem pyStr_ins {Q : Value → Shared → Prop} {P : Program} {w : World} {E : Value → Shared → Prop} {K : PySem.W.Frag} {a : Addr} {ox : Obj} {od : Option Obj} (hu : A.units + 1 < cLine) (Z : K.In s.heap) (I : PySem.W.InstAt s.heap a ox C od) (hm : PySem.W.findIn K (.ref C) "__str__" = some (some (.ref f))) (hf : PySem.W.isFn K (.ref f) = true)
    (hcall : wpAny (model P w) A (call (.ref f) [.ref a]) (fun r s' => ∃ x t, r = .str x t ∧ Q r s') E s) : wpAny (model P w) A (pyStrObj (.ref a)) Q E s := by
  unfold pyStrObj
  refine wpAny_bind (m := cRoomFor _ _) (wpAny_cRoomFor (by omega) ?_)
  refine wpAny_bind (m := callSpecial? _ (Str.ofString "__str__")) (special_own Z I hm hf (wpAny_mono hcall (fun r s' hr => ?_) fun _ _ y => y))
  obtain ⟨x, t, rfl, hq⟩ := hr
  exact wpAny_bind (wpAny_isInstance (T := "str") (b := true) rfl isSubtype_str_str (wpAny_pure hq))
theorem strOf_ins {Q : Value → Shared → Prop} {P : Program} {w : World} {E : Value → Shared → Prop} {K : PySem.W.Frag} {a : Addr} {ox : Obj} {od : Option Obj} (hu : A.units + 1 < cLine) (Z : K.In s.heap) (I : PySem.W.InstAt s.heap a ox C od) (hm : PySem.W.findIn K (.ref C) "__str__" = some (some (.ref f))) (hf : PySem.W.isFn K (.ref f) = true)
    (hcall : wpAny (model P w) A (call (.ref f) [.ref a]) (fun r s' => ∃ x t, r = .str x t ∧ Q r s') E s) : wpAny (model P w) A (Builtin.Str.strOf (.ref a)) Q E s := by
  unfold Builtin.Str.strOf
  rw [show Builtin.Str.isExactStr (.ref a) = false from rfl]
  refine wpAny_bind (m := cRoomFor _ _) (wpAny_cRoomFor (by omega) ?_)
  refine wpAny_bind (m := callSpecial? _ (Str.ofString "__str__")) (special_own Z I hm hf (wpAny_mono hcall (fun r s' hr => ?_) fun _ _ y => y))
  obtain ⟨x, t, rfl, hq⟩ := hr
  exact wpAny_pure hq
/-- str(o) -/
theorem str_ins {Q : Value → Shared → Prop} {P : Program} {w : World} {E : Value → Shared → Prop} {K : PySem.W.Frag} {a : Addr} {ox : Obj} {od : Option Obj} (hu : A.units + 4 < cLine) (Z : K.In s.heap) (I : PySem.W.InstAt s.heap a ox C od) (hm : PySem.W.findIn K (.ref C) "__str__" = some (some (.ref f))) (hf : PySem.W.isFn K (.ref f) = true)
    (hcall : wpAny (model P w) A.in1.in1 (call (.ref f) [.ref a]) (fun r s' => ∃ x t, r = .str x t ∧ Q r s') E s) : wpAny (model P w) A (call (.type "str") [.ref a]) Q E s := by
  refine callType_newIn (S := fun A' R s' => A' = A.in1 ∧ s' = s ∧ wpAny (model P w) A'.in1 (Builtin.Str.strOf (.ref a)) (fun r s' => R (.ok (.ret r)) s') (fun e s' => R (.error e) s') s') F.called_str (by decide) (F.typeCall_str_1 _) (F.newCall_str_1 _) (fun obj => F.args_object_init_2 obj _) F.entry_str_new ?_ ?_
  · refine MeetsIn.of_wp fun A' R s' ⟨_, _, h⟩ => ?_
    rw [str_new_tree (.ref a)]
    refine wpAny_bind (wpAny_pure ?_)
    refine wpAny_bind (wpAny_of_eq isSubtype_str_str ?_)
    exact wpAny_bind (wpAny_mono h (fun r s' h' => wpAny_pure ⟨_, rfl, h'⟩) fun _ _ e => e)
  · refine ⟨rfl, rfl, strOf_ins (by show A.units + 1 + 1 + 1 < cLine; omega) Z I hm hf (wpAny_mono hcall (fun r s' hr => ?_) fun _ _ e => e)⟩
    obtain ⟨x, t, rfl, hq⟩ := hr
    exact ⟨x, t, rfl, typeIs_str _ _ _, hq⟩
theorem check_meth {M : Model} {E : Value → Shared → Prop} {i owner n : String} {self : Value} {rest : List Value} {Q : Unit → Shared → Prop} (hk : builtinKind i = some .method) (hs : splitId i = some (owner, n)) (hi : PySem.W.Looks M s.heap (isInstance self (.type owner)) true) (ha : argsOk i ⟨self :: rest, []⟩) (q : Q () s) :
    wpAny M A (checkBuiltinCall i ⟨self :: rest, []⟩) Q E s := by
  simp only [checkBuiltinCall, hk, hs]
  refine wpAny_bind (hi.here ?_)
  simp only [Bool.not_true, Bool.false_eq_true, if_false]
  cases hsig : Manifest.signature? i with
  | none => exact wpAny_pure q
  | some sig =>
    simp only [argsOk, hsig] at ha
    have h2 : Bind.checkArgs i sig ⟨self :: rest, []⟩ = pure () := ha
    show wpAny _ _ (Bind.checkArgs i sig ⟨self :: rest, []⟩) _ _ s
    rw [h2]
    exact wpAny_pure q
theorem kind_ofmt : builtinKind "object.__format__" = some .method := by decide +kernel
theorem split_ofmt : splitId "object.__format__" = some ("object", "__format__") := by decide +kernel
/-- f'{o}' -/
theorem fmt_ins {Q : Value → Shared → Prop} {P : Program} {w : World} {E : Value → Shared → Prop} {K : PySem.W.Frag} {a : Addr} {ox : Obj} {od : Option Obj} (hu : A.units + 4 < cLine) (Z : K.In s.heap) (I : PySem.W.InstAt s.heap a ox C od) (hm : PySem.W.findIn K (.ref C) "__str__" = some (some (.ref f))) (hf : PySem.W.isFn K (.ref f) = true)
    (hfm : PySem.W.findIn K (.ref C) "__format__" = some (some (.builtin "object.__format__"))) (hob : PySem.W.subIn K (.ref C) (.type "object") = some true)
    (hcall : ∀ tk, wpAny (model P w) A.in1 (call (.ref f) [.ref a]) (fun r s' => ∃ x t, r = .str x t ∧ Q r s') E { s with toks := tk }) : wpAny (model P w) A (formatField (.ref a) Str.empty) Q E s := by
  have e : formatField (.ref a) Str.empty = holding [.ref a] (pyFormat (.ref a) Str.empty) := rfl
  rw [e]
  refine wpAny_holding ?_
  unfold pyFormat
  refine wpAny_bind (wpAny_mkStr ?_)
  have Z' : K.In ({ s with toks := s.toks + 1 } : Shared).heap := Z
  have I' : PySem.W.InstAt ({ s with toks := s.toks + 1 } : Shared).heap a ox C od := I
  have io : PySem.W.Looks (model P w) ({ s with toks := s.toks + 1 } : Shared).heap (isInstance (.ref a) (.type "object")) true := I'.type.andThen (PySem.W.looks_subIn Z' hob)
  have go : wpAny (model P w) A (call (.builtin "object.__format__") [.ref a, .str Str.empty s.toks]) (fun v s' => ∃ x t, v = .str x t ∧ Q v s') E { s with toks := s.toks + 1 } := by
    refine wpAny_call (codeAny_call_builtin F.slot_tuple_format.plain F.entry_object_format ?_)
    have hok := F.args_object_format_2 (.ref a) (.str Str.empty s.toks)
    refine check_meth (i := "object.__format__") (self := .ref a) (rest := [.str Str.empty s.toks]) kind_ofmt split_ofmt io hok ?_
    show wpAny _ _ (do let _shown ← typeNameOf (.str Str.empty s.toks); (do ret (← pyStrObj (.ref a)))) _ _ _
    refine wpAny_bind (wpAny_typeNameOf (T := "str") (typeIs_str _ _ _) (by decide) fun _ => ?_)
    refine wpAny_bind (pyStr_ins (by show A.units + 1 + 1 < cLine; omega) Z' I' hm hf (wpAny_mono (hcall _) (fun r s₁ h₁ => ?_) fun _ _ e => e))
    obtain ⟨x, t, rfl, hq⟩ := h₁
    exact ⟨x, t, rfl, wpAny_pure ⟨x, t, rfl, hq⟩⟩
  refine wpAny_bind (m := callSpecial? (.ref a) (Str.ofString "__format__") [.str Str.empty s.toks]) ?_
  unfold callSpecial? specialOf
  refine wpAny_bind (wpAny_bind (I'.type.here ((PySem.W.looks_findIn Z' hfm).here ?_)))
  refine wpAny_holding ?_
  rw [F.slot_tuple_format.bind]
  refine wpAny_bind (wpAny_pure ?_)
  refine wpAny_bind (wpAny_mono go (fun v s' h => wpAny_pure ?_) fun _ _ z => z)
  obtain ⟨x, t, rfl, hq⟩ := h
  exact wpAny_bind (wpAny_isInstance (T := "str") (b := true) rfl isSubtype_str_str (wpAny_pure hq))
end
end Dk

/-! Rules over data: len, str, f'..', ==, isinstance of objects of own classes. -/
namespace Dk
open PySem L2
def objD (C : Addr) (d : D) (P : Prop) : Prop := ∃ fs, d = .obj C fs ∧ P
theorem objD.mono {C : Addr} {d : D} {P P' : Prop} (k : P → P') : objD C d P → objD C d P' := fun ⟨fs, e, p⟩ => ⟨fs, e, k p⟩
/-- what a method of one's own class tells of o -/
def ROwn (W : Wd) (K : PySem.W.Frag) (C : Addr) (S : DSp) (T : V → Hp → VK → Prop) : List V → Hp → VK → Prop := fun vs H Q => ∃ a dx fs, vs = [.ref a] ∧ H a = some (.ins C dx fs) ∧ spD W K S [.ref a] H (fun v H' => T v H' Q) (fun _ _ _ => False)
/-- .. over data -/
def rOwn (C : Addr) (S : DSp) (t : D → (D → Prop) → Prop) : List D → (D → Prop) → Prop := fun ds Q => ∃ d, ds = [d] ∧ objD C d (S.f [d] (fun r => t r Q) fun _ => False)
theorem mono_rOwn {C : Addr} {S : DSp} {t : D → (D → Prop) → Prop} (m : ∀ r (Q Q' : D → Prop), (∀ d, Q d → Q' d) → t r Q → t r Q') : MonoN (rOwn C S t) := by
  rintro ds Q Q' k ⟨d, e, h⟩
  exact ⟨d, e, h.mono (S.mono _ _ _ _ _ (fun r => m r _ _ k) (fun _ h => h))⟩
theorem Rep.ins {K : PySem.W.Frag} {I : Hp} {v : V} {C : Addr} {fs : List (Str × D)} (r : Rep K I v (.obj C fs)) : ∃ a dx ws, v = .ref a ∧ I a = some (.ins C dx ws) := by
  cases r with
  | @obj a C dx ws ds h _ _ => exact ⟨a, dx, ws, rfl, h⟩
theorem lift_rOwn {F : Fx} {K : PySem.W.Frag} {C : Addr} {S : DSp} {T : V → Hp → VK → Prop} {t : D → (D → Prop) → Prop} (l : ∀ v d I H (Q : VK), StI F.W I H → Rep K I v d → t d (fin F K I H Q) → T v H Q) (m : ∀ r (Q Q' : D → Prop), (∀ d, Q d → Q' d) → t r Q → t r Q') : LiftC F K (ROwn F.W K C S T) (rOwn C S t) := by
  rintro vs ds I H Q st rs ⟨d, rfl, fs, rfl, h⟩
  obtain ⟨v, rfl, rv⟩ := rs.one
  obtain ⟨a, dx, ws, rfl, hi⟩ := rv.ins
  refine ⟨a, dx, ws, rfl, st.sub _ _ hi, I, _, st, .cons rv .nil, S.mono _ _ _ _ _ (fun r h v' I' H' s r' => ?_) (fun _ h => h.elim) h⟩
  exact l v' r I' H' Q s.st r' (m _ _ _ (fun d q => fin.of q s) h)
section
variable {F : Fx} {X : Cx} {K : PySem.W.Frag} {k : Nat} {C : Addr} {S : DSp} {ps : List Str} {e a b : Expr} {te ta tb : DT} {t : DAT} {p pos q1 q2 : Pos} {T : V → Hp → VK → Prop} {m x : Str}
theorem own_run {A : Around} {pins : List (Addr × Obj)} {σ : St} {H : Hp} {s : Shared} {Q : VK} (c : CalM X.prog X.w X.K X.mg X.base CX0 F.W k C m ps S) {ad : Addr} (hr : Rm k A) (hfr : A.frames = X.A.frames) (J : Inv X pins σ H s) (h : spD F.W X.K S [.ref ad] H Q (fun _ _ _ => False)) :
    ∃ f, PySem.W.findIn X.K (.ref C) m = some (some (.ref f)) ∧ PySem.W.isFn X.K (.ref f) = true ∧ wpAny (model X.prog X.w) A (call (.ref f) [.ref ad]) (EP X pins σ Q) X.xe s := by
  obtain ⟨f, fd, cl, me, G, B, _⟩ := c.ex
  exact ⟨f, me.at_, me.fn, gn_at G hr hfr B pass0 J (.cons (show RelV (.ref ad) (.ref ad) from rfl) .nil) h⟩
def tLen (v : V) (H : Hp) (Q : VK) : Prop := ∃ n : Nat, v = .int n ∧ n ≤ 1000000 ∧ Q (.int n) H
def tLenD (r : D) (Q : D → Prop) : Prop := ∃ n : Nat, r = .int n ∧ n ≤ 1000000 ∧ Q (.int n)
theorem cr_lenO (c : CalM X.prog X.w X.K X.mg X.base CX0 F.W k C "__len__" ps S) (hr : Rm (k + 1) X.A) : CallR X (.builtin "len") (ROwn F.W X.K C S tLen) := by
  intro pins s σ H xs us Q J r h
  obtain ⟨ad, dx, fs, rfl, hi, h⟩ := h
  obtain ⟨u, rfl, ru⟩ := vals1 r
  cases ru
  obtain ⟨ox, od, I⟩ := J.inst hi
  obtain ⟨f, h1, h2, h3⟩ := own_run c hr.in1 rfl J h
  refine len_ins J.kIn I h1 h2 (wpAny_mono h3 (fun u s' z => ?_) fun _ _ e => e)
  obtain ⟨v, H', J', rv, n, rfl, hn, q⟩ := z
  obtain ⟨tk, rfl⟩ := rv
  exact ⟨n, tk, rfl, by omega, by omega, .int n, H', J'.tok _, ⟨_, rfl⟩, q⟩
theorem de_lenO (c : CalM X.prog X.w X.K X.mg X.base CX0 F.W k C "__len__" ps S) (hr : Rm (k + 1) X.A) (hm : X.mg "len" = none) (ha : DA F X [e] t) (hg : Gl X "len" := by rfl) (he : starEach [e] X.env = (false, eval e X.env) :: starEach [] X.env := by rfl) : DE F X (.Call (.Name "len" p) [e] [] pos) (fun ρ Q => t ρ fun ds => rOwn C S tLenD ds Q) := by
  have m : ∀ r (Q Q' : D → Prop), (∀ d, Q d → Q' d) → tLenD r Q → tLenD r Q' := fun r Q Q' k ⟨n, e, hn, q⟩ => ⟨n, e, hn, k _ q⟩
  refine de_callB (id := "len") (mono_rOwn m) (lift_rOwn (T := tLen) (fun v d I H Q st r ⟨n, e, hn, q⟩ => ?_) m) (cr_lenO c hr) hm (by decide +kernel) ha hg (by decide) (by decide) he rfl
  subst e
  cases r
  exact ⟨n, rfl, hn, q _ _ _ st.stp (.int _)⟩
def tStr (v : V) (H : Hp) (Q : VK) : Prop := ∃ x, v = .str x ∧ Q (.str x) H
def tStrD (r : D) (Q : D → Prop) : Prop := ∃ x, r = .str x ∧ Q (.str x)
theorem tStrD.mono : ∀ r (Q Q' : D → Prop), (∀ d, Q d → Q' d) → tStrD r Q → tStrD r Q' := fun r Q Q' k ⟨n, e, q⟩ => ⟨n, e, k _ q⟩
theorem tStr.lift {v : V} {d : D} {I H : Hp} {Q : VK} (st : StI F.W I H) (r : Rep K I v d) (h : tStrD d (fin F K I H Q)) : tStr v H Q := by
  obtain ⟨x, rfl, q⟩ := h
  cases r
  exact ⟨x, rfl, q _ _ _ st.stp (.str _)⟩
theorem cr_strO (c : CalM X.prog X.w X.K X.mg X.base CX0 F.W k C "__str__" ps S) (hr : Rm (k + 2) X.A) (hu : X.A.units + 64 < cLine) : CallR X (.type "str") (ROwn F.W X.K C S tStr) := by
  intro pins s σ H xs us Q J r h
  obtain ⟨ad, dx, fs, rfl, hi, h⟩ := h
  obtain ⟨u, rfl, ru⟩ := vals1 r
  cases ru
  obtain ⟨ox, od, I⟩ := J.inst hi
  obtain ⟨f, h1, h2, h3⟩ := own_run c hr.in1.in1 rfl J h
  refine str_ins (by omega) J.kIn I h1 h2 (wpAny_mono h3 (fun u s' z => ?_) fun _ _ e => e)
  obtain ⟨v, H', J', rv, x, rfl, q⟩ := z
  obtain ⟨tk, rfl⟩ := rv
  exact ⟨x, tk, rfl, .str x, H', J', ⟨_, rfl⟩, q⟩
theorem de_strO (c : CalM X.prog X.w X.K X.mg X.base CX0 F.W k C "__str__" ps S) (hr : Rm (k + 2) X.A) (hu : X.A.units + 64 < cLine) (hm : X.mg "str" = none) (ha : DA F X [e] t) (hg : Gl X "str" := by rfl) (he : starEach [e] X.env = (false, eval e X.env) :: starEach [] X.env := by rfl) : DE F X (.Call (.Name "str" p) [e] [] pos) (fun ρ Q => t ρ fun ds => rOwn C S tStrD ds Q) :=
  de_callT (T := "str") (mono_rOwn tStrD.mono) (lift_rOwn (T := tStr) (fun v d I H Q st r h => tStr.lift st r h) tStrD.mono) (cr_strO c hr hu) hm (by decide +kernel) ha hg (by decide) (by decide) he rfl
/-- the class's way to be shown in an f-string -/
structure Fmt (K : PySem.W.Frag) (C : Addr) : Prop where
  fm : PySem.W.findIn K (.ref C) "__format__" = some (some (.builtin "object.__format__"))
  ob : PySem.W.subIn K (.ref C) (.type "object") = some true
/-- f'{o}' -/
theorem de_fmtO (c : CalM X.prog X.w X.K X.mg X.base CX0 F.W k C "__str__" ps S) (fm : Fmt X.K C) (hr : Rm (k + 1) X.A) (hu : X.A.units + 64 < cLine) (he : DE F X e te) : DE F X (.FormattedValue e (-1) none pos) (fun ρ Q => te ρ fun d => rOwn C S tStrD [d] Q) := by
  refine ⟨fun ρ Q Q' k h => he.mono _ _ _ (fun d => mono_rOwn tStrD.mono _ _ _ k) h, (show PE X (.FormattedValue e (-1) none pos) (fun σ H Q => rdE F X.K te σ H fun x H1 => ROwn F.W X.K C S tStr [x] H1 Q) from ⟨fun pins s σ H Q J q => ?_⟩).imp fun σ H Q ⟨I, ρ, A, h⟩ => ?_⟩
  · refine wpAny_FormattedValue_plain (thn (he.run.run pins s σ H _ J q) fun v s1 ⟨x, H1, J1, r1, q1⟩ => ?_)
    obtain ⟨ad, dx, fs, ex, hi, h⟩ := q1
    obtain rfl : x = .ref ad := by simpa using ex
    cases r1
    obtain ⟨ox, od, I⟩ := J1.inst hi
    obtain ⟨f, h1, h2, _⟩ := own_run c hr.in1 rfl J1 h
    refine fmt_ins (by omega) J1.kIn I h1 h2 fm.fm fm.ob fun tk => ?_
    obtain ⟨f', h1', h2', h3⟩ := own_run c hr.in1 rfl (J1.tok tk) h
    rw [h1] at h1'
    cases h1'
    refine wpAny_mono h3 (fun u s' z => ?_) fun _ _ e => e
    obtain ⟨v, H', J', rv, x, rfl, q⟩ := z
    obtain ⟨tk, rfl⟩ := rv
    exact ⟨x, tk, rfl, .str x, H', J', ⟨_, rfl⟩, q⟩
  · refine rdE_next he.mono A h fun d v I' H' q s rv => ?_
    exact lift_rOwn (F := F) (T := tStr) (fun v d I H Q st r h => tStr.lift st r h) tStrD.mono [v] [d] I' H' Q s.st (.cons rv .nil) (mono_rOwn tStrD.mono _ _ _ (fun d q => fin.of q s) q)
/-! ### f-strings -/
theorem de_f1 (he : DE F X e te) : DE F X (.JoinedStr [e] pos) te := ⟨he.mono, pe_joined1 he.run⟩
/-- {x}, {x!r} of a text -/
def fmtD (d : D) (Q : D → Prop) : Prop := (∃ y, d = .str y ∧ y.length ≤ sizeLine ∧ Q (.str y)) ∨ ∃ i : Int, d = .int i ∧ i.natAbs.log2 < 1920 ∧ Q (.str (toString i))
theorem de_fmt (he : DE F X e te) : DE F X (.FormattedValue e (-1) none pos) (fun ρ Q => te ρ fun d => fmtD d Q) := by
  have m : ∀ d (Q Q' : D → Prop), (∀ d, Q d → Q' d) → fmtD d Q → fmtD d Q' := by
    rintro d Q Q' k (⟨y, e, l, q⟩ | ⟨i, e, l, q⟩)
    · exact .inl ⟨y, e, l, k _ q⟩
    · exact .inr ⟨i, e, l, k _ q⟩
  refine ⟨fun ρ Q Q' k h => he.mono _ _ _ (fun d => m _ _ _ k) h, (pe_fmt he.run).imp fun σ H Q ⟨I, ρ, A, h⟩ => rdE_next he.mono A h fun d v I' H' q s rv => ?_⟩
  rcases q with ⟨y, rfl, l, q⟩ | ⟨i, rfl, l, q⟩
  · cases rv
    exact .inl ⟨y, rfl, l, q _ _ _ s (.str _)⟩
  · cases rv
    exact .inr ⟨i, rfl, l, q _ _ _ s (.str _)⟩
abbrev DJT := DEnv → (Str → Prop) → Prop
/-- the parts of an f-string, one behind the other -/
structure DJ (F : Fx) (X : Cx) (es : List Expr) (ts : List TE) (t : Str → DJT) : Prop where
  mono : ∀ acc ρ (Q Q' : Str → Prop), (∀ x, Q x → Q' x) → t acc ρ Q → t acc ρ Q'
  pj : PJ X es ts
  run : ∀ (I : Hp) (ρ : DEnv) (σ : St) (H : Hp) (acc : Str) (P : Str → Prop) (R : Str → Hp → Prop), At F X.K I ρ σ H → t acc ρ P → (∀ x I' H', P x → Stp F.W I H I' H' → R x H') → tJs ts acc σ H R
theorem dj_nil : DJ F X [] [] (fun acc _ Q => Q acc) := ⟨fun acc ρ Q Q' k q => k _ q, .nil, fun I ρ σ H acc P R A q k => k acc I H q A.st.stp⟩
theorem dj_cons {es : List Expr} {ts : List TE} {t : Str → DJT} (he : DE F X e te) (h : DJ F X es ts t) : DJ F X (e :: es) (rdE F X.K te :: ts) (fun acc ρ Q => te ρ fun d => ∃ y, d = .str y ∧ (acc ++ y).length ≤ sizeLine ∧ t (acc ++ y) ρ Q) := by
  refine ⟨fun acc ρ Q Q' k q => he.mono _ _ _ (fun d ⟨y, e, l, q⟩ => ⟨y, e, l, h.mono _ _ _ _ k q⟩) q, .cons he.run h.pj, fun I ρ σ H acc P R A q k => ?_⟩
  show rdE F X.K te σ H _
  refine rdE_next he.mono A q fun d v I1 H1 ⟨y, e, l, q1⟩ s1 rv => ?_
  subst e
  cases rv
  exact ⟨y, rfl, l, h.run I1 ρ σ H1 _ P _ (A.step s1) q1 fun x I' H' p s2 => k x I' H' p (s1.trans s2)⟩
theorem de_joined {es : List Expr} {ts : List TE} {t : Str → DJT} (h : DJ F X (a :: b :: es) ts t) : DE F X (.JoinedStr (a :: b :: es) pos) (fun ρ Q => t Str.empty ρ fun x => Q (.str x)) :=
  ⟨fun ρ Q Q' k q => h.mono _ _ _ _ (fun x => k _) q, (pe_joined h.pj).imp fun σ H Q ⟨I, ρ, A, q⟩ => h.run I ρ σ H _ _ _ A q fun x I' H' q s => q _ _ _ s (.str _)⟩
/-! ### == by an own __eq__ -/
def REqO (W : Wd) (K : PySem.W.Frag) (C : Addr) (S : DSp) : R2 := fun x y H Q => ∃ a b dx dy fs gs, x = .ref a ∧ y = .ref b ∧ H a = some (.ins C dx fs) ∧ H b = some (.ins C dy gs) ∧ spD W K S [.ref a, .ref b] H (fun v H' => ∃ r, v = .bl r ∧ Q (.bl r) H') (fun _ _ _ => False)
def eqO (C : Addr) (S : DSp) (d e : D) (Q : D → Prop) : Prop := objD C d (objD C e (S.f [d, e] (fun r => ∃ b, r = .bl b ∧ Q (.bl b)) fun _ => False))
theorem mono_eqO : Mono2 (eqO C S) := fun x y Q Q' k ⟨fs, e1, gs, e2, h⟩ => ⟨fs, e1, gs, e2, S.mono _ _ _ _ _ (fun r ⟨b, e, q⟩ => ⟨b, e, k _ q⟩) (fun _ h => h) h⟩
theorem lf_eqO : LiftR F K (REqO F.W K C S) (eqO C S) := by
  rintro x y dx dy I H Q st rx ry ⟨fs, rfl, gs, rfl, h⟩
  obtain ⟨a, dx, ws, rfl, hi⟩ := rx.ins
  obtain ⟨b, dy, us, rfl, hj⟩ := ry.ins
  refine ⟨a, b, dx, dy, ws, us, rfl, rfl, st.sub _ _ hi, st.sub _ _ hj, I, _, st, .cons rx (.cons ry .nil), S.mono _ _ _ _ _ (fun r ⟨b, e, q⟩ v I' H' s rv => ?_) (fun _ h => h.elim) h⟩
  subst e
  cases rv
  exact ⟨_, rfl, q _ _ _ s (.bl _)⟩
theorem or_eqO (c : CalM X.prog X.w X.K X.mg X.base CX0 F.W k C "__eq__" ps S) (hr : Rm k X.A) (hu : X.A.units + 64 < cLine) : OpR X (compareOp .Eq) (REqO F.W X.K C S) := by
  intro pins s σ H x y v u Q J rx ry h
  obtain ⟨a, b, dx, dy, fs, gs, rfl, rfl, ha, hb, h⟩ := h
  cases rx
  cases ry
  obtain ⟨f, fd, cl, me, G, B, _⟩ := c.ex
  obtain ⟨ox, od, I⟩ := J.inst ha
  obtain ⟨oy, od', I'⟩ := J.inst hb
  obtain ⟨m, hF⟩ := J.fr
  show wpAny (model X.prog X.w) X.A (richCompare .Eq (.ref a) (.ref b)) (EP X pins σ Q) X.xe s
  refine PySem.W.cmp_K (op := .Eq) (tb := .ref C) (by omega) hF J.ok.mod.kin I I'.type (by simp [PySem.W.notFirst]) me.at_ me.fn (wpAny_mono (gn_at G hr rfl B pass0 J (.cons (show RelV (.ref a) (.ref a) from rfl) (.cons (show RelV (.ref b) (.ref b) from rfl) .nil)) h) (fun u s' z => ?_) fun _ _ e => e)
  obtain ⟨v, H', J', rv, r, rfl, q⟩ := z
  cases rv
  exact ⟨.bl r, H', J', rfl, q⟩
theorem de_eqO (c : CalM X.prog X.w X.K X.mg X.base CX0 F.W k C "__eq__" ps S) (hr : Rm k X.A) (hu : X.A.units + 64 < cLine) (ha : DE F X a ta) (hb : DE F X b tb) (hm : behindInMarks .Eq b = false := by rfl) : DE F X (.Compare a [.Eq] [b] pos) (fun ρ Q => ta ρ fun x => tb ρ fun y => eqO C S x y Q) :=
  de_cmp mono_eqO (or_eqO c hr hu) lf_eqO ha hb hm
theorem dt_eqO (c : CalM X.prog X.w X.K X.mg X.base CX0 F.W k C "__eq__" ps S) (hr : Rm k X.A) (hu : X.A.units + 64 < cLine) (ha : DE F X a ta) (hb : DE F X b tb) (hm : behindInMarks .Eq b = false := by rfl) : DTest F X (.Compare a [.Eq] [b] pos) (fun ρ Q => ta ρ fun x => tb ρ fun y => eqO C S x y fun z => boolD z Q) :=
  dt_cmp mono_eqO (or_eqO c hr hu) lf_eqO ha hb hm
/-! ### isinstance of an own class -/
structure Isi (K : PySem.W.Frag) (C : Addr) : Prop where
  cl : Cls K C
  ha : PySem.W.findIn K (.ref C) "__class__" = some (some (.builtin "object.__class__"))
  hn : PySem.W.specialIn K (.builtin "object.__class__") "__get__" = some (some (.builtin "getset_descriptor.__get__"))
  ht : PySem.W.takesIn K (.builtin "object.__class__") = some true
  hm : PySem.W.mroIn K C (.type "object") = some true
theorem de_isiO (i : Isi X.K C) (hm : X.mg "isinstance" = none) (hx : X.mg x = some (.ref C)) (he : DE F X e te) (hg : Gl X "isinstance" := by rfl) (hgx : Gl X x := by rfl) (hdb : (x == ("__debug__" : Str)) = false := by decide)
    (h1 : starEach [e, .Name x q2] X.env = (false, eval e X.env) :: starEach [.Name x q2] X.env := by rfl) (h2 : starEach [Expr.Name x q2] X.env = (false, eval (.Name x q2) X.env) :: starEach [] X.env := by rfl) (hpl : (backTo pos (starEach [Expr.Name x q2] X.env)).any (·.1) = false := by rfl) :
    DE F X (.Call (.Name "isinstance" q1) [e, .Name x q2] [] pos) (fun ρ Q => te ρ fun d => objD C d (Q (.bl true))) := by
  refine ⟨fun ρ Q Q' k q => he.mono _ _ _ (fun d q => q.mono (k _)) q, (pe_callB call_isi hg hm (by decide +kernel) (pa_cons he.run (pa_cons (pe_glob (v := .ref C) hgx hx rfl hdb) pa_nil h2) h1) (by decide) (by decide) h1 hpl).imp fun σ H Q ⟨I, ρ, A, q⟩ => ?_⟩
  refine rdE_next he.mono A q fun d v I' H' q' s rv => ?_
  obtain ⟨fs, rfl, q'⟩ := q'
  obtain ⟨a, dx, ws, rfl, hi⟩ := rv.ins
  exact ⟨_, .ref C, .ref C, .ref C, true, rfl, .own C, .base (.ins (s.st.sub _ _ hi) i.cl i.ha i.hn i.ht i.hm), by simp [PySem.W.kitOne], q' _ _ _ s (.bl _)⟩
end
end Dk
namespace Dk
open PySem L2
/-- a try whose body lets nothing out -/
theorem ds_thru {F : Fx} {X : Cx} {t : DTS} {body : List Stmt} {h₀ : ExceptHandler} {hs : List ExceptHandler} {pos : Pos} (hb : DSts F X.nox body t) : DSt F X (.Try body (h₀ :: hs) [] [] pos) t := ⟨hb.mono, ps_try_thru0 hb.run⟩
end Dk

/-! tuple * number. -/
namespace Dk
open PySem PySem.Spec PyProof.Rows L2
theorem tuple_mul1 (l : Addr) (items : Array Value) (n : Nat) (u : Tok) :
    Meets (Builtin.«tuple.__mul__» ⟨[.ref l, .int 1 u], []⟩) (fun _ R s => (∃ dd sl, s.heap.get? l = some { cls := .type "tuple", dict := dd, data := .seq items n, slots := sl }) ∧ ∀ tk, R (.ok (.ret (Value.ref l))) { s with toks := tk }) :=
  .of_wp fun prog w A R s h => by
    obtain ⟨hp, g, d, tk, os⟩ := s
    obtain ⟨⟨dd, sl, hl⟩, h⟩ := h
    have f1 := AutoSeq1.idx_int
    have c1 : (items.isEmpty || (1 : Int) == 1) = true := by simp
    wp_walk using wpAny_loadPart' hl
    repeat (first
      | (refine wpAny_ite_true (decide_eq_true (by rw [c1])) ?_; wp_walk using wpAny_loadPart' hl)
      | (rw [if_pos c1]; wp_walk using wpAny_loadPart' hl))
    exact ⟨_, rfl, h _⟩
theorem tuple_mul0 (l : Addr) (items : Array Value) (n : Nat) (u : Tok) (hne : items.isEmpty = false) :
    Meets (Builtin.«tuple.__mul__» ⟨[.ref l, .int 0 u], []⟩) (fun _ R s => (∃ dd sl, s.heap.get? l = some { cls := .type "tuple", dict := dd, data := .seq items n, slots := sl }) ∧ R (.ok (.ret (Value.ref s.heap.objs.size))) { s with heap := s.heap.push { cls := Value.type "tuple", data := Data.seq #[] }, toks := s.toks }) :=
  .of_wp fun prog w A R s h => by
    obtain ⟨hp, g, d, tk, os⟩ := s
    obtain ⟨⟨dd, sl, hl⟩, h⟩ := h
    have f1 := AutoSeq1.idx_int
    have c1 : (items.isEmpty || (0 : Int) == 1) = false := by rw [hne]; rfl
    have c2 : (decide ((0 : Int) ≤ 0) || items.isEmpty) = true := by simp
    wp_walk using wpAny_loadPart' hl
    repeat (first
      | (refine wpAny_ite_false (decide_eq_false (by rw [c1]; exact Bool.false_ne_true)) ?_; wp_walk using wpAny_loadPart' hl)
      | (rw [if_neg (by rw [c1]; exact Bool.false_ne_true)]; wp_walk using wpAny_loadPart' hl)
      | (refine wpAny_ite_true (decide_eq_true (by rw [c2])) ?_; wp_walk using wpAny_loadPart' hl)
      | (rw [if_pos c2]; wp_walk using wpAny_loadPart' hl))
    exact ⟨_, rfl, h⟩
/-- xs * k, k a small number -/
def rRepA (K : PySem.W.Frag) : R2 := fun x y H Q => ∃ (l : Addr) (k : Nat) (xs : List V), x = .ref l ∧ y = .int k ∧ SqT K H l xs ∧ xs ≠ [] ∧ k ≤ 1000 ∧ xs.length ≤ 1000 ∧ ((k = 1 ∧ Q (.ref l) H) ∨ (k ≠ 1 ∧ ∀ p, H p = none → Q (.ref p) (upd H p (.tup (List.replicate k xs).flatten))))
section
variable {X : Cx}
theorem op_repA : OpR X (binaryOp .Mult) (rRepA X.K) := by
  intro pins s σ H x y v u Q I rx ry h
  obtain ⟨l, k, xs, rfl, rfl, hT, hne, h2, hz, q⟩ := h
  by_cases hk : 2 ≤ k
  · refine op_repT pins s σ H _ _ v u Q I rx ry ⟨l, (k : Int), xs, rfl, rfl, hT, hne, by omega, by omega, hz, ?_⟩
    rcases q with ⟨e, _⟩ | ⟨_, q⟩
    · omega
    · exact q
  cases rx
  obtain ⟨t, rfl⟩ := ry
  obtain ⟨its, r, ⟨⟨cls, dd, data, sl⟩, ho, hc, n, hd⟩, hs⟩ := I.tuple hT
  simp only at hc hd
  subst hc hd
  have hle : its.length = xs.length := r.length.symm
  have hn : its ≠ [] := fun e => hne (by
    rw [e] at hle
    exact List.eq_nil_of_length_eq_zero hle.symm)
  have hi : its.toArray.isEmpty = false := by
    cases its with
    | nil => exact absurd rfl hn
    | cons a b => rfl
  rcases q with ⟨rfl, q⟩ | ⟨h1, q⟩
  · refine wpAny_binaryOp_repeat_ref (T := "tuple") (U := "int") (by decide) ⟨_, ho, rfl⟩ (fun s' => typeIs_int s' _ t) noFill_tuple_mul F.fills_int_mul F.slot_int_rmul repeat_tuple F.slot_int_index.lookup
      (call_meets F.slot_int_rmul (typeIs_int s _ t) F.entry_int_rmul (F.args_int_rmul_2 _ _) (int_rmul_tuple _ t l its.toArray n dd sl)
        ⟨ho, rfl, ⟨_, ho, rfl⟩, call_meets F.slot_tuple_mul ⟨_, ho, rfl⟩ F.entry_tuple_mul (F.args_tuple_mul_2 _ _) (tuple_mul1 l its.toArray n t) ⟨⟨dd, sl, ho⟩, fun tk => ?_⟩⟩)
    exact ⟨.ref l, H, I.tok tk, rfl, q⟩
  · obtain rfl : k = 0 := by omega
    refine wpAny_binaryOp_repeat_ref (T := "tuple") (U := "int") (by decide) ⟨_, ho, rfl⟩ (fun s' => typeIs_int s' _ t) noFill_tuple_mul F.fills_int_mul F.slot_int_rmul repeat_tuple F.slot_int_index.lookup
      (call_meets F.slot_int_rmul (typeIs_int s _ t) F.entry_int_rmul (F.args_int_rmul_2 _ _) (int_rmul_tuple _ t l its.toArray n dd sl)
        ⟨ho, rfl, ⟨_, ho, rfl⟩, call_meets F.slot_tuple_mul ⟨_, ho, rfl⟩ F.entry_tuple_mul (F.args_tuple_mul_2 _ _) (tuple_mul0 l its.toArray n t hi) ⟨⟨dd, sl, ho⟩, ?_⟩⟩)
    refine ⟨.ref s.heap.objs.size, _, I.laid (t' := s.toks) (o := .tup []) (fun b ob q => Heap.get?_push_of_some _ q) (Nat.le_refl _) ?_, rfl, by simpa using q _ (I.hok.fresh (Nat.le_refl _))⟩
    exact ⟨Nat.zero_le _, [], .nil, IsTup.new _ _⟩
end
def mulTD (x y : D) (Q : D → Prop) : Prop := ∃ (xs : List D) (k : Nat), x = .tup xs ∧ y = .int k ∧ xs ≠ [] ∧ k ≤ 1000 ∧ xs.length ≤ 1000 ∧ Q (.tup (List.replicate k xs).flatten)
section
variable {F : Fx} {X : Cx} {K : PySem.W.Frag} {a b : Expr} {ta tb : DT} {pos : Pos}
theorem mono_mulT : Mono2 mulTD := fun x y Q Q' k ⟨xs, n, h1, h2, h3, h4, h5, q⟩ => ⟨xs, n, h1, h2, h3, h4, h5, k _ q⟩
theorem lf_mulT : LiftR F K (rRepA K) mulTD := by
  rintro x y dx dy I H Q st rx ry ⟨xs, n, rfl, rfl, h3, h4, h5, q⟩
  cases ry
  cases rx with
  | @tup l vs ds hT r =>
    refine ⟨l, n, vs, rfl, rfl, Same.seqT st.sub hT, fun e => h3 ?_, h4, by rw [r.length]; exact h5, ?_⟩
    · have := r.length
      rw [e] at this
      exact List.eq_nil_of_length_eq_zero this.symm
    · by_cases h1 : n = 1
      · subst h1
        refine .inl ⟨rfl, q _ _ _ st.stp ?_⟩
        have e : (List.replicate 1 xs).flatten = xs := by simp
        rw [e]
        exact .tup hT r
      · refine .inr ⟨h1, fun p hp => ?_⟩
        have l' := st.laid hp (.tup (List.replicate n vs).flatten)
        exact q _ _ _ l' (.tup (.of upd_same) ((r.rep n).mono l'.i))
theorem de_mulT (ha : DE F X a ta) (hb : DE F X b tb) : DE F X (.BinOp a .Mult b pos) (fun ρ Q => ta ρ fun x => tb ρ fun y => mulTD x y Q) := de_op mono_mulT op_repA lf_mulT ha hb
end
end Dk

/-! Own exception classes over any built-in one (the class that has __new__ and the one that has __init__ told apart: KeyError's __new__ is LookupError's): how one is made, its fields stored, its parents' __init__ called. -/
namespace Dk
open PySem PySem.W L2
open Builtin Builtin.ObjectAttr

structure XB (nB newId iB initId : String) (tl : List Value) : Prop where
  nw : ∃ jd tl0, ExcBaseFacts nB newId jd tl0
  slot : Slot iB "__init__" initId
  entry : entryFor table initId = some Builtin.«BaseException.__init__»
  kind : builtinKind initId = some .slot
  split : splitId initId = some (iB, "__init__")
  sig : Manifest.signature? initId = some ⟨.positional, "*", iB, .self, [⟨"args", .varPos, false⟩]⟩
  star : (iB != "*") = true
  hn : tl.contains (.type nB) = true
  hi : tl.contains (.type iB) = true
  hA : tl.contains (.type "AttributeError") = false
  hN : tl.contains (.type "NameError") = false
  hO : tl.contains (.type "object") = true
  SF : StoreFacts iB tl "object.__setattr__" "object"
abbrev veTl : List Value := [.type "ValueError", .type "Exception", .type "BaseException", .type "object"]
abbrev keTl : List Value := [.type "KeyError", .type "LookupError", .type "Exception", .type "BaseException", .type "object"]
theorem xb_ve : XB "ValueError" "ValueError.__new__" "ValueError" "ValueError.__init__" veTl where
  nw := ⟨_, _, PySem.F.excBase_ValueError⟩
  slot := PySem.F.excBase_ValueError.init
  entry := PySem.F.excBase_ValueError.initEntry
  kind := PySem.F.excBase_ValueError.initKind
  split := PySem.F.excBase_ValueError.initSplit
  sig := PySem.F.excBase_ValueError.initRow
  star := PySem.F.excBase_ValueError.noStar
  hn := by decide +kernel
  hi := by decide +kernel
  hA := by decide +kernel
  hN := by decide +kernel
  hO := by decide +kernel
  SF := PySem.F.store_ValueError
theorem slot_ke : Slot "KeyError" "__setattr__" "object.__setattr__" := by
  refine .of (owner := "object") (n := "__setattr__") ?_ (by decide +kernel) (by decide +kernel) (by decide +kernel) ?_ ?_
  · rw [typeLookup_type, builtinLookup_eq_fast]
    kernel_rfl
  · first
      | exact .inl (by decide +kernel)
      | exact .inr (by decide +kernel)
  · rw [isSubtype_type]
    kernel_rfl
theorem sf_ke : StoreFacts "KeyError" keTl "object.__setattr__" "object" :=
  ⟨by kernel_rfl, slot_ke, PySem.F.store_ValueError.entry, PySem.F.store_ValueError.kind, PySem.F.store_ValueError.split, by decide +kernel, PySem.F.store_ValueError.args, fun self => by kernel_rfl⟩
theorem xb_ke : XB "LookupError" "LookupError.__new__" "KeyError" "KeyError.__init__" keTl where
  nw := ⟨_, _, PySem.F.excBase_LookupError⟩
  slot := PyProof.Rows.excClass_KeyError.init
  entry := PyProof.Rows.excClass_KeyError.initEntry
  kind := PyProof.Rows.excClass_KeyError.initKind
  split := PyProof.Rows.excClass_KeyError.initSplit
  sig := PyProof.Rows.excClass_KeyError.initSig
  star := PyProof.Rows.excClass_KeyError.notStar
  hn := by decide +kernel
  hi := by decide +kernel
  hA := by decide +kernel
  hN := by decide +kernel
  hO := by decide +kernel
  SF := sf_ke

section
variable {M : Model} {A : Around} {E : Value → Shared → Prop} {h : Heap} {g : Array GenState} {d : Drawn} {t : Nat} {os : OsState}
variable {nm q : Str} {C N : Addr} {bs bm tl : List Value} {hdct : Bool} {sn : List Str} {sub : List Value} {ab : Bool} {col : Option Bool} {dd : Option Addr} {k0 k1 k2 k3 k5 : Option Value} {nB newId iB initId : String}
theorem x_has (hT : ∀ X : String, bm.contains (.type X) = tl.contains (.type X)) {X : String} {b : Bool} (h : tl.contains (.type X) = b) : (Value.ref C :: bm).contains (.type X) = b := by
  rw [List.contains_cons, hT, h]
  rfl
theorem x_check_new (B : XB nB newId iB initId tl) (hT : ∀ X : String, bm.contains (.type X) = tl.contains (.type X)) {rest : List Value} {Q : Unit → Shared → Prop}
    (hC : h.get? C = some (excClassObj nm q C N bs bm hdct sn sub ab col dd k0 k1 k2 k3 k5 newId)) (hq : Q () ⟨h, g, d, t, os⟩) : wpAny M A (checkBuiltinCall newId ⟨.ref C :: rest, []⟩) Q E ⟨h, g, d, t, os⟩ := by
  obtain ⟨jd, tl0, F⟩ := B.nw
  have has := x_has (C := C) hT B.hn
  have nostar := F.noStar
  simp only [checkBuiltinCall, F.newKind, F.newSplit, F.newRow]
  repeat (first
    | refine wpAny_loadPart_at hC ?_
    | (refine wpAny_isSubtype_exc hC ?_; rw [has])
    | refine wpAny_staticBase_exc hC ?_
    | refine wpAny_madeBy_exc hC ?_
    | simp only [bne_self_eq_false, Bool.false_eq_true, if_false]
    | wp_step)
  exact hq
theorem x_check_init (B : XB nB newId iB initId tl) (hT : ∀ X : String, bm.contains (.type X) = tl.contains (.type X)) {e : Addr} {oe : Obj} {rest : List Value} {Q : Unit → Shared → Prop}
    (hC : h.get? C = some (excClassObj nm q C N bs bm hdct sn sub ab col dd k0 k1 k2 k3 k5 newId)) (he : h.get? e = some oe) (hcls : oe.cls = .ref C) (hq : Q () ⟨h, g, d, t, os⟩) : wpAny M A (checkBuiltinCall initId ⟨.ref e :: rest, []⟩) Q E ⟨h, g, d, t, os⟩ := by
  have has := x_has (C := C) hT B.hi
  have nostar := B.star
  simp only [checkBuiltinCall, B.kind, B.split, B.sig]
  repeat (first
    | (with_reducible refine wpAny_loadPart_at he ?_; rw [hcls])
    | with_reducible refine wpAny_loadPart_at hC ?_
    | (with_reducible refine wpAny_isSubtype_exc hC ?_; rw [has])
    | wp_step)
  refine wpAny_onRaise ?_
  have cs := fun a b n => check_star_args "*" iB a b .self n
  show wpAny _ _ (Bind.check _ _ _ _ []) _ _ _
  rw [cs]
  exact wpAny_pure hq
end
section
variable {prog : Program} {w : World} {A : Around} {E : Value → Shared → Prop} {R : Result → Shared → Prop} {h : Heap} {g : Array GenState} {d : Drawn} {t : Nat} {os : OsState}
variable {nm q : Str} {C N : Addr} {bs bm tl : List Value} {hdct : Bool} {sn : List Str} {sub : List Value} {ab : Bool} {col : Option Bool} {dd : Option Addr} {k0 k1 k2 k3 k5 : Option Value} {nB newId iB initId : String}
/-- the new record and its args -/
abbrev xNew (h : Heap) (C : Addr) (rest : List Value) : Heap := (h.push (PySem.W.kdv_tup rest)).push (PySem.HandSPX.excO C h.objs.size)
theorem x_new (B : XB nB newId iB initId tl) (hT : ∀ X : String, bm.contains (.type X) = tl.contains (.type X)) {rest : List Value}
    (hC : h.get? C = some (excClassObj nm q C N bs bm hdct sn sub ab col dd k0 k1 k2 k3 k5 newId)) (hq : R (.ok (.ret (.ref (h.objs.size + 1)))) ⟨xNew h C rest, g, d, t, os⟩) (hrest : rest.length ≤ sizeLine) :
    codeAny (model prog w) A (.builtin newId ⟨.ref C :: rest, []⟩) R ⟨h, g, d, t, os⟩ := by
  obtain ⟨jd, tl0, F⟩ := B.nw
  have ends := F.ends
  have c1 := x_has (C := C) hT B.hn
  have c2 := x_has (C := C) hT B.hA
  have c3 := x_has (C := C) hT B.hN
  refine codeAny_builtinAt F.entry ?_
  unfold Builtin.«BaseException.__new__»
  refine wpAt_bind ?_
  show wpAt _ _ _ (stack >>= _) _ _ _
  refine wpAt_bind (wpAt_stack fun p below => wpAt_of_wpAny ?_)
  wp_walk
  refine wpAt_of_wpAny ?_
  rw [F.owner]
  repeat (first
    | with_reducible refine wpAny_madeHere_exc F.canon hC ?_
    | with_reducible refine wpAny_loadPart_at hC ?_
    | (with_reducible refine wpAny_isSubtype_exc hC ?_; first | rw [c1] | rw [c2] | rw [c3])
    | wp_step)
  show R _ _
  rw [Heap.size_push]
  exact hq
theorem x_type_call (B : XB nB newId iB initId tl) (hT : ∀ X : String, bm.contains (.type X) = tl.contains (.type X)) {rest : List Value} {fI : Addr} {Q : Fin → Shared → Prop}
    (hC : h.get? C = some (excClassObj nm q C N bs bm hdct sn sub ab col dd k0 k1 k2 k3 k5 newId)) (hi : Looks (model prog w) h (typeLookup (.ref C) "__init__") (some (.ref fI)))
    (hb : ∀ self, Looks (model prog w) h (bindSpecial (.ref fI) self) (.ref fI, [self])) (hrest : rest.length ≤ sizeLine)
    (hq : codeAny (model prog w) A (.call (.ref fI) ⟨.ref (h.objs.size + 1) :: rest, []⟩)
      (fun r s' => match r with | .ok (.ret v) => v = .none ∧ Q (.done (.ret (.ref (h.objs.size + 1)))) s' | .ok _ => False | .error e => E e s') ⟨xNew h C rest, g, d, t, os⟩) :
    wpAny (model prog w) A (Builtin.«type.__call__» ⟨.ref C :: rest, []⟩) Q E ⟨h, g, d, t, os⟩ := by
  obtain ⟨jd, tl0, F⟩ := B.nw
  repeat (first | with_reducible refine wpAny_loadPart_at hC ?_ | with_reducible refine wpAny_madeBy_exc hC ?_ | wp_step)
  refine codeAny_call_builtin_code (Code.quiet_builtin _ F.quiet) (x_check_new B hT hC (x_new B hT hC ?_ hrest))
  show wpAny _ _ _ _ _ _
  have k : ∀ b o, h.get? b = some o → (xNew h C rest).get? b = some o := fun b o e => Heap.get?_push_of_some _ (Heap.get?_push_of_some _ e)
  have at1 : (xNew h C rest).get? (h.objs.size + 1) = some (PySem.HandSPX.excO C h.objs.size) := by heap_get
  have self1 : (Value.ref C :: bm).contains (.ref C) = true := by simp
  have hC1 := k _ _ hC
  have i1 := hi.keeps k
  have b1 := (hb (.ref (h.objs.size + 1))).keeps k
  unfold isInstance
  repeat (first | with_reducible refine wpAny_loadPart_at at1 ?_ | (with_reducible refine wpAny_isSubtype_exc hC1 ?_; rw [self1]) | wp_step)
  show wpAny _ _ (typeLookup (.ref C) _) _ _ _
  refine i1.at (wpAny_holding (wpAny_bind (b1.at (wpAny_bind (wpAny_call (codeAny_mono hq fun r s' z => ?_))))))
  rcases r with e | (v | _ | _ | _) <;> first | exact z | exact z.elim | skip
  obtain ⟨rfl, z⟩ := z
  first
    | exact wpAny_pure (wpAny_pure z)
    | (wp_walk; exact z)
/-- C(..), C's own __init__ at fI -/
theorem x_call (B : XB nB newId iB initId tl) (hT : ∀ X : String, bm.contains (.type X) = tl.contains (.type X)) {rest : List Value} {fI : Addr}
    (hC : h.get? C = some (excClassObj nm q C N bs bm hdct sn sub ab col dd k0 k1 k2 k3 k5 newId)) (hi : Looks (model prog w) h (typeLookup (.ref C) "__init__") (some (.ref fI)))
    (hb : ∀ self, Looks (model prog w) h (bindSpecial (.ref fI) self) (.ref fI, [self])) (hrest : rest.length ≤ sizeLine)
    (hq : codeAny (model prog w) (A.under (.builtin "type.__call__" ⟨.ref C :: rest, []⟩)) (.call (.ref fI) ⟨.ref (h.objs.size + 1) :: rest, []⟩) (W.InitBack (h.objs.size + 1) R) ⟨xNew h C rest, g, d, t, os⟩) :
    codeAny (model prog w) A (.call (.ref C) ⟨rest, []⟩) R ⟨h, g, d, t, os⟩ := by
  have f1 := tc_lookup
  have f2 := tc_bind (.ref C)
  have ty : (⟨h, g, d, t, os⟩ : Shared).TypeIs (.ref C) "type" := ⟨_, hC, rfl⟩
  refine codeAny_of_tree ?_
  show wpAny _ _ (callAny (.ref C) _) _ _ _
  repeat (any_goals (first | assumption | with_reducible refine wpAny_loadPart_at hC ?_ | wp_step))
  refine ⟨rfl, codeAny_call_builtin_at (Code.quiet_builtin _ (by decide +kernel)) entry_typeCall (wpAny_check_type_call_sub hC (x_type_call B hT hC hi hb hrest (codeAny_mono hq fun r s' z => ?_)))⟩
  rcases r with e | (v | _ | _ | _) <;> exact z
/-- iB.__init__(e, ..) -/
theorem x_init (B : XB nB newId iB initId tl) (hT : ∀ X : String, bm.contains (.type X) = tl.contains (.type X)) {e t0 : Addr} {rest : List Value}
    (hC : h.get? C = some (excClassObj nm q C N bs bm hdct sn sub ab col dd k0 k1 k2 k3 k5 newId)) (he : h.get? e = some (PySem.HandSPX.excO C t0)) (hrest : rest.length ≤ sizeLine)
    (hq : ∀ h' t1, (∀ b o, b ≠ e → h.get? b = some o → h'.get? b = some o) → h'.get? e = some (PySem.HandSPX.excO C t1) → R (.ok (.ret .none)) ⟨h', g, d, t, os⟩) :
    codeAny (model prog w) A (.call (.builtin initId) ⟨.ref e :: rest, []⟩) R ⟨h, g, d, t, os⟩ := by
  refine codeAny_call_builtin B.slot.plain B.entry (x_check_init B hT hC he rfl ?_)
  wp_walk
  have he2 := Heap.get?_push_of_some (PySem.W.kdv_tup rest) he
  refine hq _ h.objs.size (fun b o hb ho => (Heap.get?_update_other _ _ (Ne.symm hb)).trans (Heap.get?_push_of_some _ ho)) ?_
  exact (Heap.get?_update_self _ he2 rfl).trans rfl
end
end Dk

/-! An own exception of any base under HandS: a field stored, the base's __init__ called, one made to be raised. -/
namespace Dk
open PySem PySem.W L2 PySem.Spec
open Builtin Builtin.ObjectAttr
/-- what the written part says of such a class -/
structure OxC (K : PySem.W.Frag) (newId : String) (tl : List Value) (C : Addr) : Prop where
  ob : excInitIn K C tl newId = true
  ov : excOver K C tl = true
  hd : hasDictIn K C = true
  sa : findIn K (.ref C) "__setattr__" = some (some (.builtin "object.__setattr__"))
  exC : subIn K (.ref C) (.type "BaseException") = some true
  tyC : typeIn K (.ref C) = some (.type "type")
  kC : keepIn K (.ref C) = true
section
variable {prog : Program} {w : World} {A : Around} {R : Result → Shared → Prop} {hp : Heap} {g : Array GenState} {d : Drawn} {t : Nat} {os : OsState} {K : Frag} {name : Str} {tk : Tok} {v : Value} {x C : Addr} {fv : Array Value} {iB : String} {tl : List Value}
theorem taker_none (ha : findIn K (.ref C) name = some none) : takerIn K C name = some none := by
  unfold takerIn
  rw [ha]
  rfl
theorem x_set_new (SF : StoreFacts iB tl "object.__setattr__" "object") (X : K.In hp) (hx : hp.get? x = some { cls := .ref C, data := .fields fv }) (ov : excOver K C tl = true) (hdc : hasDictIn K C = true) (ha : findIn K (.ref C) name = some none)
    (hq : ∀ h' tk' dx, (∀ b o, b ≠ x → hp.get? b = some o → h'.get? b = some o) → hp.objs.size ≤ dx → dx ≠ x → h'.get? x = some { cls := .ref C, dict := some dx, data := .fields fv } → h'.Ns1 dx (fun y => if y = name then some v else none) →
      R (.ok (.ret .none)) ⟨h', g, d, tk', os⟩) : codeAny (model prog w) A (.call (.builtin "object.__setattr__") ⟨[.ref x, .str name tk, v], []⟩) R ⟨hp, g, d, t, os⟩ := by
  have I : W.InstAt hp x { cls := .ref C, data := .fields fv } C none := ⟨hx, rfl, rfl, trivial⟩
  have ne : x ≠ hp.objs.size := Nat.ne_of_lt (Heap.lt_size hx)
  obtain ⟨cd, hcd, hh⟩ := any_some hdc
  have Lc : W.Looks (model prog w) hp (classData C) cd := W.looks_clsIn X hcd
  refine osa_openX (s := ⟨hp, g, d, t, os⟩) SF X I ov (taker_none ha) fun b => ?_
  show wpAny _ _ (storeInOwnDict (.ref x) (.ref C) (.str name tk) name v b) _ _ _
  obtain ⟨nm, bs, mro, ns, qn, hd, sn, sb, ab, col, del⟩ := cd
  dsimp only at hh
  subst hh
  unfold storeInOwnDict ownDictForStores
  repeat (first
    | with_reducible refine PySem.HandSPX.store_in_new ?_ ?_
    | with_reducible refine wpAny_loadPart_at hx ?_
    | with_reducible refine Lc.at ?_
    | wp_step)
  · have gd : ((hp.push { cls := .type "dict", data := .dict #[] }).update x fun o => { o with dict := some hp.objs.size }).get? hp.objs.size = some { cls := .type "dict", data := .dict #[] } :=
      (Heap.get?_update_ne _ _ _ _ ne.symm).trans (Heap.get?_push_at rfl rfl)
    exact ⟨_, #[], _, gd, rfl, fun e he => absurd he (by simp), fun _ => rfl⟩
  · intro h' tk' hn' hs
    have hx1 : (hp.push { cls := .type "dict", data := .dict #[] }).get? x = some { cls := .ref C, data := .fields fv } := Heap.get?_push_of_some _ hx
    refine hq h' tk' hp.objs.size (fun b o hb ho => ?_) (Nat.le_refl _) ne.symm ?_ hn'
    · have bn := Nat.ne_of_lt (Heap.lt_size ho)
      exact (hs.2 b bn).trans ((Heap.get?_update_ne _ _ _ _ hb).trans (Heap.get?_push_of_some _ ho))
    · exact (hs.2 x ne).trans (Heap.get?_update_self _ hx1 rfl)
end
section
variable {X : Cx} {pins : List (Addr × Obj)} {σ : St} {H : Hp} {s : Shared} {a C dx : Addr} {f : Str} {y : V} {u : Value} {fs : List (Str × V)} {Q : Unit → Shared → Prop} {E : Value → Shared → Prop} {A : Around} {nB newId iB initId : String} {tl : List Value}
/-- self.f = y, the first one -/
theorem x_ost (B : XB nB newId iB initId tl) (T : OxC X.K newId tl C) (J : Inv X pins σ H s) (e : H a = some (exo a C none)) (hno : findIn X.K (.ref C) f = some none) (ry : RelV y u)
    (h : ∀ dx s', H dx = none → dx ≠ a → Inv X pins σ (upd (upd H dx (exd dx [(f, y)])) a (exo a C (some dx))) s' → Q () s') : wpAny (model X.prog X.w) A (setAttr (.ref a) f u) Q E s := by
  obtain ⟨t1, ho⟩ := exo_at J.hok e
  obtain ⟨hp, g, d, t, os⟩ := s
  refine PySem.W.set_plain J.kIn (od := none) ⟨ho, rfl, rfl, trivial⟩ T.sa ?_
  refine x_set_new B.SF J.kIn ho T.ov T.hd hno fun h' tk' dx k dn dne hx hn => ?_
  have hnd : H dx = none := J.hok.fresh dn
  have nd : ∀ {b : Addr} {o : Obj}, hp.get? b = some o → b ≠ dx := fun {b o} q => Nat.ne_of_lt (Nat.lt_of_lt_of_le (Heap.lt_size q) dn)
  have na : ∀ {b : Addr}, H b = none → b ≠ a := fun {b} n z => by subst z; rw [e] at n; cases n
  have U : Un X.fs [] H (upd (upd H dx (exd dx [(f, y)])) a (exo a C (some dx))) hp h' := by
    refine ⟨fun b o q n _ _ => k b o (na n) q, fun b o q n _ _ => ⟨o.slots, k b o (na n) q⟩, fun b o q n _ => ?_, fun b o q _ => ?_, fun b xs q => ?_, fun b o v q => ?_, fun b ps q => ⟨#[], ?_⟩⟩
    · rw [upd_ne (na n), upd_ne (nd q)]
      exact n
    · by_cases hb : b = a
      · subst hb; exact ⟨_, hx⟩
      · exact ⟨o, k b o hb q⟩
    · rw [upd_ne (at_ne e q exo_tup), upd_ne (ne_of_none q hnd)]
      exact q
    · rw [upd_ne (at_ne e q exo_frz), upd_ne (ne_of_none q hnd)]
      exact q
    · rw [upd_ne (at_ne e q exo_tbl), upd_ne (ne_of_none q hnd), q]
      simp
  refine h dx _ hnd dne (J.un (t' := tk') U fun b o q => ?_)
  by_cases hb : b = a
  · subst hb
    rw [upd_same] at q
    cases q
    exact exo_ok hx
  rw [upd_ne hb] at q
  by_cases hd : b = dx
  · subst hd
    rw [upd_same] at q
    cases q
    exact exd_ok hn (relO_put (fs := []) ry fun g => True.intro)
  rw [upd_ne hd] at q
  refine (J.hok b o q).stay (fun c v hc z => k c v ?_ z) (fun c hc => ?_) fun c xs hc => ?_
  · rcases hc with rfl | hc
    · exact hb
    · exact at_ne e hc exo_own
  · rw [upd_ne (at_ne e hc exo_own), upd_ne (ne_of_none hc hnd)]
    exact hc
  · rw [upd_ne (at_ne e hc exo_tup), upd_ne (ne_of_none hc hnd)]
    exact hc
/-- the base's __init__ -/
theorem x_oinit {us : List Value} {Q : Value → Shared → Prop} (B : XB nB newId iB initId tl) (T : OxC X.K newId tl C) (J : Inv X pins σ H s) (e : H a = some (exo a C none)) (hl : us.length ≤ sizeLine) (h : ∀ s', Inv X pins σ H s' → Q .none s') :
    wpAny (model X.prog X.w) A (call (.builtin initId) (.ref a :: us)) Q E s := by
  obtain ⟨nm, N, qn, bs, bm, hd, sn, sub, ab, col, dd, k0, k1, k2, k3, k5, hC, hT⟩ := excInit_of J.kIn T.ob
  obtain ⟨t1, ho⟩ := exo_at J.hok e
  obtain ⟨hp, g, d, t, os⟩ := s
  refine wpAny_call (x_init B hT hC ho hl fun h' t2 k hx => h _ ?_)
  have J2 := J.write (t' := t) (x := a) (e := a) (o := exo a C none) (by rw [e]; exact True.intro) (.inl rfl) k ⟨_, hx⟩ (exo_ok hx)
  have same : upd H a (exo a C none) = H := funext fun b => by
    by_cases hb : b = a
    · subst hb; rw [upd_same, e]
    · exact upd_ne hb
  rwa [same] at J2
end
/-- B.__init__(self, ..) -/
def tXi (K : PySem.W.Frag) (newId : String) (tl : List Value) (ta : TA) : TE := fun σ H Q => ta σ H fun vs H1 => ∃ (a C : Addr) (ws : List V), vs = .ref a :: ws ∧ ws.length ≤ 1000 ∧ OxC K newId tl C ∧ H1 a = some (exo a C none) ∧ Q .non H1
/-- self.f = e -/
def tXs (K : PySem.W.Frag) (newId : String) (tl : List Value) (f : Str) (to te : TE) : TS := fun D σ H => te σ H fun y H1 => to σ H1 fun x H2 => ∃ a C : Addr, x = .ref a ∧ OxC K newId tl C ∧ findIn K (.ref C) f = some none ∧
  H2 a = some (exo a C none) ∧ ∀ dx, H2 dx = none → dx ≠ a → D.nx σ (upd (upd H2 dx (exd dx [(f, y)])) a (exo a C (some dx)))
section
variable {X : Cx} {o e : Expr} {es : List Expr} {to te : TE} {ta : TA} {f x : Str} {p p' p1 p2 pos : Pos} {nB newId iB initId : String} {tl : List Value} {pl : Sem Bool}
/-- a built-in class's __init__ -/
theorem pe_xinitB (B : XB nB newId iB initId tl) (hg : Gl X x) (hm : X.mg x = none) (hv : bootBuiltins x = some (.type iB)) (ty : typeOf (.type iB) = pure (.type "type")) (stub : Manifest.isStub iB = false) (vV : findCls X.K (.type iB) (.type "type") "__init__" = some (.val (.builtin initId))) (hh : handedIn (.builtin initId) = true) (ha : PA X (e :: es) ta)
    (hn : x ≠ "__name__" := by decide) (hdb : (x == ("__debug__" : Str)) = false := by decide)
    (hc : eval (.Call (.Attribute (.Name x p1) "__init__" p2) (e :: es) [] pos) X.env = (do
      let ov ← eval (.Name x p1) X.env
      standAt p2.atName
      let (f, first) ← holding [ov] (getMethod ov "__init__" pl)
      callWith pos f first (backTo pos (starEach (e :: es) X.env)) (backToKw pos (keywordEach [] X.env))) := by rfl)
    (he : starEach (e :: es) X.env = (false, eval e X.env) :: starEach es X.env := by rfl) (hpl : (backTo pos (starEach es X.env)).any (·.1) = false := by rfl) : PE X (.Call (.Attribute (.Name x p1) "__init__" p2) (e :: es) [] pos) (tXi X.K newId tl ta) := by
  refine ⟨fun pins s σ H Q J h => PySem.W.methodCall_KW (ld_blt J hg hm hv ?_ hn hdb) hc⟩
  obtain ⟨m, fr⟩ := J.fr
  refine PySem.W.method_type fr J.ok.mod.kin ty stub vV hh ?_
  show wpAny _ _ (callWith pos (Value.builtin initId) [] (backTo pos (starEach (e :: es) X.env)) []) _ _ _
  refine PyProof.Rows.callWith_method1 (thn (ha.run pos pins _ σ H _ (J.tok _) h) fun us s1 ⟨vs, H1, J1, r1, a, C, ws, ev, hl, T, ea, q⟩ => ?_) he hpl
  subst ev
  cases r1 with
  | @cons _ u0 _ ur ra rw' =>
    cases (show u0 = Value.ref a from ra)
    have few : ur.length ≤ sizeLine := by rw [← Paired.length rw', sizeLine_eq]; omega
    exact x_oinit B T J1 ea few fun s' J2 => ⟨.non, H1, J2, rfl, q⟩
/-- .. by an own class without an __init__ of its own -/
theorem pe_xinitO {D : Addr} {mc : Value} (B : XB nB newId iB initId tl) (hg : Gl X x) (hm : X.mg x = some (.ref D)) (ga : specialIn X.K (.ref D) "__getattribute__" = some (some (.builtin "type.__getattribute__"))) (rd : readsIn X.K D mc = true) (vV : findCls X.K (.ref D) mc "__init__" = some (.val (.builtin initId))) (hh : handedIn (.builtin initId) = true) (ha : PA X (e :: es) ta)
    (hdb : (x == ("__debug__" : Str)) = false := by decide)
    (hc : eval (.Call (.Attribute (.Name x p1) "__init__" p2) (e :: es) [] pos) X.env = (do
      let ov ← eval (.Name x p1) X.env
      standAt p2.atName
      let (f, first) ← holding [ov] (getMethod ov "__init__" pl)
      callWith pos f first (backTo pos (starEach (e :: es) X.env)) (backToKw pos (keywordEach [] X.env))) := by rfl)
    (he : starEach (e :: es) X.env = (false, eval e X.env) :: starEach es X.env := by rfl) (hpl : (backTo pos (starEach es X.env)).any (·.1) = false := by rfl) : PE X (.Call (.Attribute (.Name x p1) "__init__" p2) (e :: es) [] pos) (tXi X.K newId tl ta) := by
  refine ⟨fun pins s σ H Q J h => PySem.W.methodCall_KW (ld_glob J hg hm ?_ hdb) hc⟩
  refine PySem.W.method_cls J.kIn ga (PySem.W.cls_value J.kIn rd vV hh ?_)
  show wpAny _ _ (callWith pos (Value.builtin initId) [] (backTo pos (starEach (e :: es) X.env)) []) _ _ _
  refine PyProof.Rows.callWith_method1 (thn (ha.run pos pins _ σ H _ (J.tok _) h) fun us s1 ⟨vs, H1, J1, r1, a, C, ws, ev, hl, T, ea, q⟩ => ?_) he hpl
  subst ev
  cases r1 with
  | @cons _ u0 _ ur ra rw' =>
    cases (show u0 = Value.ref a from ra)
    have few : ur.length ≤ sizeLine := by rw [← Paired.length rw', sizeLine_eq]; omega
    exact x_oinit B T J1 ea few fun s' J2 => ⟨.non, H1, J2, rfl, q⟩
theorem ps_xs (B : XB nB newId iB initId tl) (ho : PE X o to) (he : PE X e te) (hs : swapsWith e (some (.Attribute o f p')) pos.line X.env = pure false := by rfl) : PS X (.Assign [.Attribute o f p'] e pos) (tXs X.K newId tl f to te) := by
  refine ⟨fun pins s σ H D J h => plainObj_wpAny_Assign_Attribute (thn (he.run pins s σ H _ J h) fun v s1 ⟨y, H1, J1, r1, q1⟩ => ?_) hs⟩
  refine thn (ho.run pins s1 σ H1 _ J1 q1) fun u s2 ⟨x, H2, J2, r2, a, C, ex, T, hno, ea, q⟩ => ?_
  subst ex
  cases (show u = Value.ref a from r2)
  exact x_ost B T J2 ea hno r1 fun dx s' n ne J3 => ⟨σ, _, J3, q dx n ne⟩
/-- what such an __init__ keeps: one field -/
def spX (C : Addr) (f : Str) : Sp := fun vs H Q _ => ∃ a y, vs = [.ref a, y] ∧ H a = some (exo a C none) ∧ ∀ d, H d = none → d ≠ a → Q .non (upd (upd H d (exd d [(f, y)])) a (exo a C (some d)))
/-- C(e): the exception that comes -/
def tXm (C : Addr) (f : Str) (te : TE) : St → Hp → XK → Prop := fun σ H Q => te σ H fun y H1 => ∀ d, H1 d = none → Q (.ref C) (some d) (upd H1 d (.xd [(f, y)]))
theorem pmk_x {CX : CXT} {C fI : Addr} {k : Nat} {fd : FuncData} {ps : List Str} (B : XB nB newId iB initId tl) (T : OxC X.K newId tl C) (iC : findIn X.K (.ref C) "__init__" = some (some (.ref fI))) (tI : typeIn X.K (.ref fI) = some (.type "function"))
    (G : GnOk X.prog X.w X.K X.mg X.base CX k fI fd ps (spX C f)) (hr : Rm (k + 1) X.A) (hb : Binds X.K fd ps []) (hx : Passes CX X (fun _ _ _ => False)) (hg : Gl X x) (hm : X.mg x = some (.ref C)) (he : PE X e te)
    (hdb : (x == ("__debug__" : Str)) = false := by decide) (hs : starEach [e] X.env = (false, eval e X.env) :: starEach [] X.env := by rfl) : PMk X (.Call (.Name x p) [e] [] pos) (tXm C f te) := by
  intro pins s σ H Q J h
  refine wpAny_Call_Name_kw (ld_glob J hg hm ?_ hdb)
  refine PySem.W.callWith_K (h₀ := X.base) J.ok.mod.kin T.kC ?_ hs (by rfl)
  rw [hs]
  show wpAny _ _ (spliced ((false, eval e X.env) :: backTo pos (starEach [] X.env))) _ _ s
  refine Calls.spliced_cons (thn (he.run pins s σ H _ J h) fun u s1 ⟨y, H1, J1, r1, q1⟩ => ?_)
  refine Calls.spliced_nil ⟨J1.kIn, ?_⟩
  show wpAny _ _ (call (.ref C) [u]) _ _ _
  obtain ⟨nm, N, qn, bs, bm, hd, sn, sub, ab, col, dd, k0, k1, k2, k3, k5, hC, hT⟩ := excInit_of J1.kIn T.ob
  obtain ⟨hp, g, dr, tk, os⟩ := s1
  have hsz : hp.objs.size ≤ hp.objs.size + 1 := Nat.le_succ _
  have hn : H1 (hp.objs.size + 1) = none := J1.hok.fresh hsz
  have kk : ∀ b o, hp.get? b = some o → (xNew hp C [u]).get? b = some o := fun b o z => Heap.get?_push_of_some _ (Heap.get?_push_of_some _ z)
  have hget : (xNew hp C [u]).get? (hp.objs.size + 1) = some (PySem.HandSPX.excO C hp.objs.size) := by heap_get
  have J2 := J1.laid (t' := tk) (a := hp.objs.size + 1) (o := exo (hp.objs.size + 1) C none) (h' := xNew hp C [u]) kk hsz (exo_ok hget)
  have r2 : Vals [V.ref (hp.objs.size + 1), y] [Value.ref (hp.objs.size + 1), u] := .cons rfl (.cons r1 .nil)
  have q3 : spX C f [V.ref (hp.objs.size + 1), y] (upd H1 (hp.objs.size + 1) (exo (hp.objs.size + 1) C none)) (fun v H2 => v = .non ∧ ∃ d fs, H2 (hp.objs.size + 1) = some (exo (hp.objs.size + 1) C (some d)) ∧ H2 d = some (exd d fs) ∧ H1 d = none ∧
      Q (.ref C) (some d) (upd (del H2 (hp.objs.size + 1)) d (.xd fs))) (fun _ _ _ => False) := by
    refine ⟨_, y, rfl, upd_same, fun d hd ne => ⟨rfl, d, _, upd_same, by rw [upd_ne ne, upd_same], by rwa [upd_ne ne] at hd, ?_⟩⟩
    have hd1 : H1 d = none := by rwa [upd_ne ne] at hd
    refine cast (congrArg (Q (.ref C) (some d)) (funext fun b => ?_)) (q1 d hd1)
    by_cases hb : b = d
    · subst hb; rw [upd_same, upd_same]
    rw [upd_ne hb, upd_ne hb]
    by_cases ha : b = hp.objs.size + 1
    · subst ha; rw [del_same, hn]
    rw [del_ne ha, upd_ne ha, upd_ne hb, upd_ne ha]
  have b2 := hb _ [Value.ref (hp.objs.size + 1), u] J2.kIn (by rw [List.append_nil, ← r2.length]; exact G.lens _ _ _ _ q3)
  rw [List.append_nil] at b2
  refine wpAny_call (x_call B hT hC (PySem.W.looks_findIn J1.kIn iC) (fun self => PySem.W.bind_fn J1.kIn self tI) (by show 1 ≤ sizeLine; rw [sizeLine_eq]; omega)
    (codeAny_mono (G.go _ X.stack _ _ ⟨[Value.ref (hp.objs.size + 1), u], []⟩ _ _ _ (fun _ _ _ => False) (hr.make C [u] []) (J2.env0.make C [u] []) b2 r2 q3) fun r s' z => ?_))
  cases r with
  | error er => exact hx pins σ _ _ er s' J2 z
  | ok fl => cases fl with
    | ret u' =>
      obtain ⟨v, H2, os2, bare2, un2, hok2, rv, ev, d, fs, ea, ed, hd1, q2⟩ := z
      subst ev
      obtain ⟨h2, g2, d2, t2, os'⟩ := s'
      exact ⟨rv, mk_end (raises_own T.exC T.tyC) J1 hsz kk un2 hok2 os2 bare2 ea ed hd1 q2⟩
    | next => exact z.elim
    | brk => exact z.elim
    | cont => exact z.elim
end
end Dk

/-! Exceptions over data: raise, calls that may let one out (what is wished of it may lean on the names then), try with several clauses, what a clause's suite may ask of it. -/
namespace Dk
open PySem L2

/-! ### making one, raising it -/
structure DMk (F : Fx) (X : Cx) (e : Expr) (t : DEnv → (Ex → Prop) → Prop) : Prop where
  mono : ∀ ρ (Q Q' : Ex → Prop), (∀ x, Q x → Q' x) → t ρ Q → t ρ Q'
  run : PMk X e (fun σ H Q => ∃ I ρ, At F X.K I ρ σ H ∧ t ρ (finX F.W X.K I H Q))
/-- what is wished of an exception, by the names where it comes -/
abbrev WD := DEnv → Ex → Prop
def LetsS (F : Fx) (K : PySem.W.Frag) (w : WD) (W : WX) : Prop := ∀ I ρ σ H, At F K I ρ σ H → ∀ x, w ρ x → finX F.W K I H (fun cls d H' => W cls d σ H') x
theorem letsS_def {F : Fx} {K : PySem.W.Frag} {E : XK} : LetsS F K (fun _ => finX F.W K F.I0 F.B E) (fun cls d _ H => E cls d H) := fun I ρ σ H A x h cls d I' H' s r => h cls d I' H' (A.stp.trans s) r
theorem _root_.L2.PMk.imp {X : Cx} {e : Expr} {t u : St → Hp → XK → Prop} (h : PMk X e t) (i : ∀ σ H Q, u σ H Q → t σ H Q) : PMk X e u := fun pins s σ H Q J q => h pins s σ H Q J (i _ _ _ q)
section
variable {F : Fx} {X : Cx} {K : PySem.W.Frag} {I H I' H' : Hp} {ρ : DEnv} {σ : St} {W : WX} {w : WD} {e o : Expr} {es : List Expr} {te to : DT} {t : DEnv → (Ex → Prop) → Prop} {p pos apos : Pos} {x f m : Str} {nB newId iB initId : String} {tl : List Value}
theorem dmk_x {CX : CXT} {C fI : Addr} {k : Nat} {fd : FuncData} {ps : List Str} (B : XB nB newId iB initId tl) (T : OxC X.K newId tl C) (iC : PySem.W.findIn X.K (.ref C) "__init__" = some (some (.ref fI))) (tI : PySem.W.typeIn X.K (.ref fI) = some (.type "function"))
    (G : GnOk X.prog X.w X.K X.mg X.base CX k fI fd ps (spX C f)) (hr : Rm (k + 1) X.A) (hb : Binds X.K fd ps []) (hx : Passes CX X (fun _ _ _ => False)) (hm : X.mg x = some (.ref C)) (he : DE F X e te) (hg : Gl X x := by rfl)
    (hdb : (x == ("__debug__" : Str)) = false := by decide) (hs : starEach [e] X.env = (false, eval e X.env) :: starEach [] X.env := by rfl) : DMk F X (.Call (.Name x p) [e] [] pos) (fun ρ Q => te ρ fun d => Q ⟨.ref C, [(f, d)]⟩) := by
  refine ⟨fun ρ Q Q' k h => he.mono _ _ _ (fun d h => k _ h) h, (pmk_x B T iC tI G hr hb hx hg hm he.run hdb hs).imp fun σ H Q ⟨I, ρ, A, h⟩ => ?_⟩
  refine rdE_next he.mono A h fun d v I1 H1 q s rv dd hd => ?_
  have l := s.st.laid hd (.xd [(f, v)])
  exact q _ _ _ _ (s.trans l) ⟨rfl, .inr ⟨dd, _, rfl, upd_same, rfl, .cons (rv.mono l.i) .nil⟩⟩
theorem dmk_own {C : Addr} {bmB : List Value} {B newId initId : String} {y : Str} {j : Nat} {p2 : Pos} (G : ExcBaseFacts B newId initId bmB) (q : PySem.W.excIn X.K C bmB newId = true) (gC : X.mg x = some (.ref C)) (kC : PySem.W.keepIn X.K (.ref C) = true) (r : Raises X (.ref C)) (hg : Gl X x := by rfl)
    (hdb : (x == ("__debug__" : Str)) = false := by decide) : DMk F X (.Call (.Name x p) [.Constant (.str y) j p2] [] pos) (fun _ Q => Q ⟨.ref C, []⟩) :=
  ⟨fun ρ Q Q' k h => k _ h, (pmk_own G q gC kC r hg hdb).imp fun σ H Q ⟨I, ρ, A, h⟩ => h _ _ _ _ A.st.stp ⟨rfl, .inl ⟨rfl, rfl⟩⟩⟩
theorem ds_raise (hc : X.calm = true) (tk : Takes X W) (le : LetsS F X.K w W) (h : DMk F X e t) : DSt F X (.Raise (some e) none pos) (fun _ ρ => t ρ (w ρ)) :=
  ⟨fun Z Z' ρ l q => q, (ps_raise hc tk h.run).imp fun Z σ H ⟨I, ρ, A, q⟩ => ⟨I, ρ, A, h.mono _ _ _ (fun x q => le I ρ σ H A x q) q⟩⟩
end

/-! ### calls -/
section
variable {X : Cx} {CX : CXT} {k : Nat} {f C : Addr} {fd : FuncData} {ps ks : List Str} {sp : Sp} {E : XK}
theorem gn_goS {pins : List (Addr × Obj)} {σ : St} {H : Hp} {s : Shared} {Q : VK} {us as : List Value} {kw : List (Str × Value)} {vs : List V} (G : GnOk X.prog X.w X.K X.mg X.base CX k f fd ps sp) (hr : Rm k X.A) (hx : PassesAt CX X σ E) (J : Inv X pins σ H s)
    (hb : BindsTo s fd ⟨as, kw⟩ (ps.zip us)) (r : Vals vs us) (h : sp vs H Q E) : wpAny (model X.prog X.w) X.A (call (.ref f) as kw) (EP X pins σ Q) X.xe s := by
  refine wpAny_call (codeAny_mono (G.go X.A X.stack s H _ us vs Q E hr J.env0 hb r h) fun r s' q => ?_)
  cases r with
  | error e => exact hx pins H s e s' J q
  | ok fl =>
    cases fl
    all_goals first
      | exact J.after q
      | exact False.elim q
theorem gn_posS {pins : List (Addr × Obj)} {σ : St} {H : Hp} {s : Shared} {Q : VK} {us : List Value} {vs : List V} (G : GnOk X.prog X.w X.K X.mg X.base CX k f fd ps sp) (hr : Rm k X.A) (hb : Binds X.K fd ps []) (hx : PassesAt CX X σ E)
    (J : Inv X pins σ H s) (r : Vals vs us) (h : sp vs H Q E) : wpAny (model X.prog X.w) X.A (call (.ref f) us) (EP X pins σ Q) X.xe s := by
  have b := hb s us J.kIn (by rw [List.append_nil, ← r.length]; exact G.lens _ _ _ _ h)
  rw [List.append_nil] at b
  exact gn_goS G hr hx J b r h
variable {F : Fx} {W : WX} {w : WD} {x m : Str} {S : DSp} {e o : Expr} {es : List Expr} {kws : List Keyword} {t : DAT} {to : DT} {p pos apos : Pos} {pl : Sem Bool} {g : {α : Type} → List α → List α}
theorem sp_run {K : PySem.W.Frag} {I H I1 H1 : Hp} {ρ : DEnv} {σ : St} {Q : VK} {vs : List V} {ds : List D} (le : LetsS F K w W) (A : At F K I ρ σ H) (s : Stp F.W I H I1 H1) (rs : Reps K I1 vs ds) (q : S.f ds (fin F K I H Q) (w ρ)) : spD F.W K S vs H1 Q (WE W σ) :=
  ⟨I1, ds, s.st, rs, S.mono _ _ _ _ _ (fun d q v I2 H2 s2 rv => q v I2 H2 (s.trans s2) rv) (fun x q => le I1 ρ σ H1 (A.step s) x q) q⟩
theorem de_fnS (C : Cal X.prog X.w X.K X.mg X.base (L2.CX X.prog X.w) F.W k x ps S) (hr : Rm k X.A) (tk : Takes X W) (le : LetsS F X.K w W) (ha : DA F X (e :: es) t)
    (hg : Gl X x := by rfl) (hdb : (x == ("__debug__" : Str)) = false := by decide) (he : starEach (e :: es) X.env = (false, eval e X.env) :: starEach es X.env := by rfl) (hpl : (backTo pos (starEach es X.env)).any (·.1) = false := by rfl) :
    DE F X (.Call (.Name x p) (e :: es) [] pos) (fun ρ Q => t ρ fun ds => S.f ds Q (w ρ)) := by
  obtain ⟨f, fd, G, hm, hk, hb⟩ := C.ex
  refine ⟨fun ρ Q Q' k h => ha.mono _ _ _ (fun d h => S.mono _ _ _ _ _ k (fun _ h => h) h) h, ⟨fun pins s σ H Q J ⟨I, ρ, A, h⟩ => wpAny_Call_Name_kw (ld_glob J hg hm ?_ hdb)⟩⟩
  have run : rdA F X.K t σ H fun vs H1 => spD F.W X.K S vs H1 Q (WE W σ) := rdA_next ha.mono A h fun ds vs I1 H1 q s rs => sp_run le A s rs q
  exact PySem.W.callWith_K (h₀ := X.base) J.ok.mod.kin hk (thn (ha.run.run pos pins s σ H _ J run) fun us s1 ⟨vs, H1, J1, r, q⟩ => ⟨J1.kIn, gn_posS G hr hb (passAt tk σ) J1 r q⟩) he hpl
theorem de_methS {C : Addr} (c : CalM X.prog X.w X.K X.mg X.base (L2.CX X.prog X.w) F.W k C m ps S) (hr : Rm k X.A) (tk : Takes X W) (le : LetsS F X.K w W) (ho : DE F X o to) (ha : DA F X (e :: es) t)
    (hst : starEach (e :: es) X.env = (false, eval e X.env) :: starEach es X.env := by rfl) (hpl : (backTo pos (starEach es X.env)).any (·.1) = false := by rfl)
    (ht : eval (.Call (.Attribute o m apos) (e :: es) [] pos) X.env = (do
      let ov ← eval o X.env
      standAt apos.atName
      let (f, first) ← holding [ov] (getMethod ov m pl)
      callWith pos f first (backTo pos (starEach (e :: es) X.env)) (backToKw pos (keywordEach [] X.env))) := by rfl) :
    DE F X (.Call (.Attribute o m apos) (e :: es) [] pos) (fun ρ Q => to ρ fun x => methD C m x (t ρ fun ds => S.f (x :: ds) Q (w ρ))) := by
  obtain ⟨f, fd, cl, hm, G, hb, hl⟩ := c.ex
  refine ⟨fun ρ Q Q' k h => ho.mono _ _ _ (fun d ⟨fs, e, l, h⟩ => ⟨fs, e, l, ha.mono _ _ _ (fun ds h => S.mono _ _ _ _ _ k (fun _ h => h) h) h⟩) h, ⟨fun pins s σ H Q J ⟨I, ρ, A, h⟩ => ?_⟩⟩
  refine PySem.W.methodCall_KW (pl := pl) (thn (ho.run.run pins s σ H (fun x H1 => ∃ a dx fs, x = .ref a ∧ H1 a = some (.ins C dx fs) ∧ fs.lookup m = none ∧ rdA F X.K t σ H1 fun vs H2 => spD F.W X.K S (.ref a :: vs) H2 Q (WE W σ)) J ?_) fun u s1 ⟨x, H1, J1, rx, a, dx, fs, ex, ea, l, q⟩ => ?_) ht
  · refine rdE_next ho.mono A h fun d v I1 H1 q1 s1 rv => ?_
    obtain ⟨fs, rfl, l, q1⟩ := q1
    cases rv with
    | @obj a _ dx ws _ hi kk r =>
      refine ⟨a, dx, ws, rfl, s1.st.sub _ _ hi, lookup_none (K := X.K) (I := I1) kk l, rdA_next ha.mono (A.step s1) q1 fun ds vs I2 H2 q2 s2 rs => ?_⟩
      exact sp_run le A (s1.trans s2) (.cons ((Rep.obj hi kk r).mono s2.i) rs) q2
  · subst ex
    cases (show u = Value.ref a from rx)
    refine getmeth_ok J1 ea cl hm l ?_
    refine PySem.W.callWith_K (first := [.ref a]) (h₀ := X.base) J.ok.mod.kin hm.kp (thn (ha.run.run pos pins s1 σ H1 _ J1 q) fun us s2 ⟨vs, H2, J2, r, q2⟩ => ⟨J2.kIn, ?_⟩) hst hpl
    exact gn_posS (us := .ref a :: us) (vs := .ref a :: vs) G hr hb (passAt tk σ) J2 (.cons rfl r) (by simpa using q2)
end

/-! ### a frame set anew -/
section
variable {F : Fx} {K : PySem.W.Frag} {I H : Hp} {ρ : DEnv} {σ : St}
/-- what the frame's own things hide -/
def baseOf (F : Fx) (H : Hp) : Hp := fun b => if F.B b = none then none else H b
theorem At.rebase (A : At F K I ρ σ H) : At ⟨F.W, baseOf F H, I⟩ K I ρ σ H := by
  refine ⟨⟨Same.refl I, A.st, fun b o e _ => ?_, fun b o e n => n⟩, A.len, fun i e h => ?_, A.dis⟩
  · have e2 : (if F.B b = none then none else H b) = some o := e
    split at e2
    · cases e2
    · exact e2
  · obtain ⟨v, h1, h2⟩ := A.env i e h
    refine ⟨v, h1, ?_⟩
    rcases h2 with h2 | ⟨p, o, e1, w⟩
    · exact .inl h2
    · exact .inr ⟨p, o, e1, w.hp, w.rep, w.ni, w.nm, if_pos w.nb, w.ad⟩
theorem Stp.back {I' H' : Hp} (s0 : Stp F.W F.I0 F.B I H) (s : Stp F.W I (baseOf F H) I' H') : Stp F.W F.I0 F.B I' H' := by
  have see : ∀ b o, F.B b = some o → H b = some o → baseOf F H b = some o := fun b o e h => by
    unfold baseOf
    rw [if_neg (by rw [e]; exact fun z => nomatch z)]
    exact h
  refine ⟨Same.trans s0.i s.i, s.st, fun b o e m => s.h b o (see b o e (s0.h b o e m)) m, fun b o e n => ?_⟩
  by_cases m : F.W.mv b
  · cases q : I' b with
    | none => rfl
    | some u => exact absurd m (s.st.imm b u q)
  · exact s.new b o (see b o e (s0.h b o e m)) (s0.new b o e n)
theorem At.back {I' H' : Hp} {ρ' : DEnv} {σ' : St} (A : At F K I ρ σ H) (A' : At ⟨F.W, baseOf F H, I⟩ K I' ρ' σ' H') : At F K I' ρ' σ' H' := by
  refine ⟨Stp.back A.stp A'.stp, A'.len, fun i e h => ?_, A'.dis⟩
  obtain ⟨v, h1, h2⟩ := A'.env i e h
  refine ⟨v, h1, ?_⟩
  rcases h2 with h2 | ⟨p, o, e1, w⟩
  · exact .inl h2
  refine .inr ⟨p, o, e1, w.hp, w.rep, w.ni, w.nm, ?_, w.ad⟩
  cases q : F.B p with
  | none => rfl
  | some u =>
    have hp := A.stp.h p u q w.nm
    have z : (if F.B p = none then none else H p) = none := w.nb
    rw [if_neg (by rw [q]; exact fun z => nomatch z), hp] at z
    cases z
theorem ends.rebase (A : At F K I ρ σ H) {Z : Ends} : DEnds.le (ends F K I Z) (ends ⟨F.W, baseOf F H, I⟩ K I Z) :=
  ⟨fun ρ' h I' σ' H' s A' => h I' σ' H' s (A.back A'), fun d h v I' H' s r => h v I' H' (Stp.back A.stp s) r, fun ρ' h I' σ' H' s A' => h I' σ' H' s (A.back A'), fun ρ' h I' σ' H' s A' => h I' σ' H' s (A.back A'), fun ds h p vs I' H' s hp r => h p vs I' H' (Stp.back A.stp s) hp r⟩
end
end Dk

/-! try with several clauses, each with a name for what it takes or without one. -/
namespace Dk
open PySem L2 PySem.Spec
/-- a clause: its class, the slot of its name, what its suite does -/
abbrev Cls1 := Value × Option Nat × (Addr → Value → Option Addr → TS)
def endsAs (D : Ends) : Option Nat → Ends
  | none => D
  | some i => { nx := fun σ H => D.nx (σ.set i none) H, rt := D.rt, bk := fun σ H => D.bk (σ.set i none) H, ct := fun σ H => D.ct (σ.set i none) H }
def nameAs (a : Addr) (σ : St) : Option Nat → St
  | none => σ
  | some i => σ.set i (some (.ref a))
def wTry (K : PySem.W.Frag) (Wout : WX) (D : Ends) : List Cls1 → WX
  | [] => Wout
  | (c, i, ts) :: r => fun cls d σ H => ∃ b, PySem.W.exmOne K cls c = some b ∧ (b = true → ∀ a, H a = none → ts a cls d (endsAs D i) (nameAs a σ i) H) ∧ (b = false → wTry K Wout D r cls d σ H)
abbrev SuiteOk (X : Cx) (sts : List Stmt) (ts : Addr → Value → Option Addr → TS) : Prop :=
  ∀ (a : Addr) (oe : Obj) (cls : Value) (d : Option Addr) (pn : List (Addr × Obj)), Zc cls d oe → (∃ vs, oe.data = .fields vs) → PSs (X.suite a ((a, oe) :: pn)) sts (ts a cls d)
inductive HdsS (X : Cx) : List ExceptHandler → List Cls1 → Prop
  | nil : HdsS X [] []
  | one {x : Str} {c : Value} {ts : Addr → Value → Option Addr → TS} {b₀ : Stmt} {suite : List Stmt} {np pos' : Pos} {hds : List ExceptHandler} {l : List Cls1} (hc : Names X x c) (hsu : SuiteOk X (b₀ :: suite) ts) (r : HdsS X hds l) :
      HdsS X (.ExceptHandler (some (.Name x np)) none (b₀ :: suite) pos' :: hds) ((c, none, ts) :: l)
  | as {x n : Str} {i : Nat} {c : Value} {ts : Addr → Value → Option Addr → TS} {b₀ : Stmt} {suite : List Stmt} {np pos' : Pos} {hds : List ExceptHandler} {l : List Cls1} (hc : Names X x c) (hi : X.N[i]? = some n) (hln : X.env.kindOf n = some .local) (hsu : SuiteOk X (b₀ :: suite) ts) (r : HdsS X hds l) :
      HdsS X (.ExceptHandler (some (.Name x np)) (some n) (b₀ :: suite) pos' :: hds) ((c, some i, ts) :: l)
section
variable {X : Cx} {body : List Stmt} {h₀ : ExceptHandler} {hds : List ExceptHandler} {l : List Cls1} {pos : Pos} {tb : WX → TS} {Wout : WX}
theorem ps_tryS (hs : X.stack = X.env :: X.outer) (hf : X.env.frame = some X.env.locals) (hN : X.N.Nodup) (tk : Takes X Wout)
    (hb : ∀ (W : WX) (pn : List (Addr × Obj)) (xe : Value → Shared → Prop), Takes (X.tr pn xe) W → PSs (X.tr pn xe) body (tb W))
    (hh : HdsS X (h₀ :: hds) l) : PS X (.Try body (h₀ :: hds) [] [] pos) (fun D σ H => tb (wTry X.K Wout D l) D σ H) := by
  refine ⟨fun pins s σ H D J h => wpAny_Try_except ?_⟩
  have ok := J.ok
  have frs1 : X.A.frames = some (X.env :: X.outer) := by rw [ok.frames, hs]
  have caught := hb (wTry X.K Wout D l) (X.pn ++ pins) (fun e s1 => wpAny (model X.prog X.w) X.A (noteFrame e X.env) (fun _ s2 => wpAny (model X.prog X.w) X.A (setFlight e none) (fun _ s3 => wpAny (model X.prog X.w) X.A (handleBy e X.env (h₀ :: hds)) (SP X pins D) X.xe s3) X.xe s2) X.xe s1)
  refine wpAny_mono ((caught fun u s' xx => ?_).run [] s σ H D (J.toTry _) h) (fun f s1 hsp => ?_) fun e s1 he => he
  · obtain ⟨a, B, sI, pins', σ', H', cls, d, rfl, J', nb, up, sky, na, os, ag, w⟩ := xx
    have J1 : Inv X pins σ' H' sI := J'.ofTry ok
    rw [hs] at sky
    show wpAny (model X.prog X.w) X.A (noteFrame (.ref a) X.env) _ _ _
    refine Sky.land Zc.steady frs1 hf sky fun h3 fl3 up3 => ?_
    have J3 : Inv X pins σ' H' { s' with heap := h3 } := J1.landed nb fl3.1 (up.trans up3) os ag
    obtain ⟨oe3, vs3, he3, hz3, hd3⟩ := fl3.there
    have off : a ∉ frs (X.env :: X.outer) := fun hm => by
      obtain ⟨_, o', e', hnf⟩ := fl3.2.2.1.mem hm
      rw [he3] at e'
      cases e'
      exact hnf _ hd3
    have nL : a ≠ X.env.locals := fun z => off (List.mem_filterMap.mpr ⟨X.env, List.mem_cons_self, by rw [hf, z]⟩)
    have nF : a ∉ X.fs := fun hm => by
      obtain ⟨e, he, q⟩ := List.mem_filterMap.mp hm
      exact off (List.mem_filterMap.mpr ⟨e, List.mem_cons_of_mem _ he, q⟩)
    have S3 := J3.suite he3 hd3 na nL nF
    have LT : PySem.W.Looks (model X.prog X.w) h3 (typeOf (.ref a)) cls := fun A Q E s k q => wpAny_typeOf_ref (k _ _ he3) (by rw [hz3.1]; exact q)
    have test : ∀ {x : Str} {c : Value} {np : Pos}, Names X x c → ∀ {Q E : Value → Shared → Prop}, Q c { s' with heap := h3 } → wpAny (model X.prog X.w) (X.A.mark (some (.ref a))) (eval (.Name x np) X.env) Q E { s' with heap := h3 } := by
      rintro x c np ⟨hg, hdbg, hm | ⟨hm, hv, hnn⟩⟩ Q E q
      · exact ld_glob (X := X.suite a ((a, oe3) :: (X.pn ++ pins))) S3 hg hm q hdbg
      · exact ld_blt (X := X.suite a ((a, oe3) :: (X.pn ++ pins))) S3 hg hm hv q hnn hdbg
    have go : ∀ {hs2 : List ExceptHandler} {l2 : List Cls1}, HdsS X hs2 l2 → wTry X.K Wout D l2 cls d σ' H' → wpAny (model X.prog X.w) X.A (handleBy (.ref a) X.env hs2) (SP X pins D) X.xe { s' with heap := h3 } := by
      intro hs2 l2 hk
      induction hk with
      | nil =>
        intro w
        refine wpAny_handleBy_nil ?_
        obtain ⟨k1, k2, k3, oe, vs, T, oT, ts', he, hz, hd, h1, hr⟩ := id fl3
        have some1 : ¬ ((Value.ref T == Value.none) = true) := by simp
        unfold PySem.passOn
        refine wpAny_bind (wpAny_field he hd h1 ?_)
        rw [if_neg some1]
        have out : wpAny (model X.prog X.w) X.A (setFlight (.ref a) X.env.frame) (fun _ s4 => wpAny (model X.prog X.w) X.A (throw (.ref a) : Sem Flow) (SP X pins D) X.xe s4) X.xe { s' with heap := h3 } := by
          rw [hf]
          refine HandSPX.setFlight_upZ fl3 fun h4 hh4 up4 => wpAny_throw (tk _ _ ⟨a, B, sI, pins, σ', H', cls, d, rfl, J1, nb, (up.trans up3).trans up4, ?_, na, os, ag, w⟩)
          rw [hs]
          exact .inr (.inr hh4)
        first
          | exact wpAny_bind (wpAny_pure (wpAny_bind out))
          | exact wpAny_bind out
      | @one x c ts b₀ suite np pos' hds3 l3 hc hsu r ih =>
        rintro ⟨b, hb1, yes, no⟩
        refine wpAny_handleBy_cons (codeAny_handlers_test ?_) (by intro q; cases q)
        refine test hc ((PySem.W.exm_one (M := model X.prog X.w) J3.kIn LT hb1).here ?_)
        cases b with
        | false => exact ih (no rfl)
        | true =>
          refine codeAny_handlers_suite (HandSPX.lands_againZ fl3 fun h4 fl4 up4 => ?_)
          have J4 : Inv X pins σ' H' { s' with heap := h4 } := J1.landed nb fl4.1 ((up.trans up3).trans up4) os ag
          obtain ⟨oe4, vs4, he4, hz4, hd4⟩ := fl4.there
          refine wpAny_mono ((hsu a oe4 cls d (X.pn ++ pins) hz4 ⟨_, hd4⟩).run [] _ _ H' _ (J4.suite he4 hd4 na nL nF) (yes rfl a na)) (fun f s6 hsp => ?_) fun _ _ z => False.elim z
          cases f with
          | ret u => obtain ⟨v6, σ6, H6, S6, r6, q6⟩ := hsp; exact ⟨_, _, _, S6.unsuite ok, r6, q6⟩
          | next => obtain ⟨σ6, H6, S6, q6⟩ := hsp; exact ⟨_, _, S6.unsuite ok, q6⟩
          | brk => obtain ⟨σ6, H6, S6, q6⟩ := hsp; exact ⟨_, _, S6.unsuite ok, q6⟩
          | cont => obtain ⟨σ6, H6, S6, q6⟩ := hsp; exact ⟨_, _, S6.unsuite ok, q6⟩
      | @as x n i c ts b₀ suite np pos' hds3 l3 hc hi hln hsu r ih =>
        rintro ⟨b, hb1, yes, no⟩
        refine wpAny_handleBy_cons (codeAny_handlers_test ?_) (by intro q; cases q)
        refine test hc ((PySem.W.exm_one (M := model X.prog X.w) J3.kIn LT hb1).here ?_)
        cases b with
        | false => exact ih (no rfl)
        | true =>
          refine codeAny_handlers_suite_as (HandSPX.lands_againZ fl3 fun h4 fl4 up4 => ?_)
          have J4 : Inv X pins σ' H' { s' with heap := h4 } := J1.landed nb fl4.1 ((up.trans up3).trans up4) os ag
          obtain ⟨oe4, vs4, he4, hz4, hd4⟩ := fl4.there
          refine store_ok (X := X.suite a ((a, oe4) :: (X.pn ++ pins))) (v := .ref a) (J4.suite he4 hd4 na nL nF) hN hi (.inl hln) rfl (fun s5 S5 => ?_) (.inr hln)
          refine wpAny_mono ((hsu a oe4 cls d (X.pn ++ pins) hz4 ⟨_, hd4⟩).run [] s5 _ H' _ S5 (yes rfl a na)) (fun f s6 hsp => ?_) fun _ _ z => False.elim z
          have gone : ∀ {σ6 : St} {H6 : Hp} {Q : Shared → Prop}, Inv (X.suite a ((a, oe4) :: (X.pn ++ pins))) [] σ6 H6 s6 → (∀ s7, Inv X pins (σ6.set i none) H6 s7 → Q s7) →
              wpAny (model X.prog X.w) X.A (do bindName X.env n .none; unbindBehindTheSuite X.env n pos') (fun _ s7 => Q s7) X.xe s6 := fun S6 hq => gone_ok (S6.unsuite ok) hN hi hln hq
          cases f with
          | ret u => obtain ⟨v6, σ6, H6, S6, r6, q6⟩ := hsp; exact gone S6 fun s7 J7 => ⟨_, _, _, J7, r6, q6⟩
          | next => obtain ⟨σ6, H6, S6, q6⟩ := hsp; exact gone S6 fun s7 J7 => ⟨_, _, J7, q6⟩
          | brk => obtain ⟨σ6, H6, S6, q6⟩ := hsp; exact gone S6 fun s7 J7 => ⟨_, _, J7, q6⟩
          | cont => obtain ⟨σ6, H6, S6, q6⟩ := hsp; exact gone S6 fun s7 J7 => ⟨_, _, J7, q6⟩
    exact go hh w
  · cases f with
    | ret u => obtain ⟨v, σ', H', J', r, q⟩ := hsp; exact ⟨v, σ', H', J'.ofTry ok, r, q⟩
    | next => obtain ⟨σ', H', J', q⟩ := hsp; exact wpAny_execs_nil ⟨σ', H', J'.ofTry ok, q⟩
    | brk => obtain ⟨σ', H', J', q⟩ := hsp; exact ⟨σ', H', J'.ofTry ok, q⟩
    | cont => obtain ⟨σ', H', J', q⟩ := hsp; exact ⟨σ', H', J'.ofTry ok, q⟩
end

/-! ### over data -/
/-- a clause over data -/
abbrev Cls2 := Value × Option Nat × (Addr → Ex → DTS)
def wipeZ (Z : DEnds) : Option Nat → DEnds
  | none => Z
  | some i => ⟨fun ρ => Z.nx (ρ.set i none), Z.rt, fun ρ => Z.bk (ρ.set i none), fun ρ => Z.ct (ρ.set i none), Z.ro⟩
def nameD (a : Addr) (ρ : DEnv) : Option Nat → DEnv
  | none => ρ
  | some i => ρ.set i (some (.dat (.opq a)))
/-- what the clauses wish of an exception -/
def handD (K : PySem.W.Frag) (w : WD) (Z : DEnds) : List Cls2 → WD
  | [], ρ, x => w ρ x
  | (c, i, ts) :: r, ρ, x => ∃ b, PySem.W.exmOne K x.cls c = some b ∧ (b = true → ∀ a, ts a x (wipeZ Z i) (nameD a ρ i)) ∧ (b = false → handD K w Z r ρ x)
def tSuite (F : Fx) (K : PySem.W.Frag) (ts : Addr → Ex → DTS) (a : Addr) (cls : Value) (d : Option Addr) : TS := fun D σ H => ∃ I ρ x, At F K I ρ σ H ∧ ExRep K I H cls d x ∧ ts a x (ends F K I D) ρ
abbrev SuiteD (F : Fx) (X : Cx) (sts : List Stmt) (ts : Addr → Ex → DTS) : Prop :=
  ∀ (B' I' : Hp) (a : Addr) (oe : Obj) (cls : Value) (d : Option Addr) (pn : List (Addr × Obj)) (x : Ex), Zc cls d oe → (∃ vs, oe.data = .fields vs) → ExRep X.K I' B' cls d x → DSts ⟨F.W, B', I'⟩ (X.suite a ((a, oe) :: pn)) sts (ts a x)
inductive HdsD (F : Fx) (X : Cx) : List ExceptHandler → List Cls2 → Prop
  | nil : HdsD F X [] []
  | one {x : Str} {c : Value} {ts : Addr → Ex → DTS} {b₀ : Stmt} {suite : List Stmt} {np pos' : Pos} {hds : List ExceptHandler} {l : List Cls2} (hc : Names X x c) (hsu : SuiteD F X (b₀ :: suite) ts) (r : HdsD F X hds l) :
      HdsD F X (.ExceptHandler (some (.Name x np)) none (b₀ :: suite) pos' :: hds) ((c, none, ts) :: l)
  | as {x n : Str} {c : Value} {ts : Addr → Ex → DTS} {b₀ : Stmt} {suite : List Stmt} {np pos' : Pos} {hds : List ExceptHandler} {l : List Cls2} (i : Nat) (hc : Names X x c) (hi : X.N[i]? = some n) (hln : X.env.kindOf n = some .local) (hsu : SuiteD F X (b₀ :: suite) ts) (r : HdsD F X hds l) :
      HdsD F X (.ExceptHandler (some (.Name x np)) (some n) (b₀ :: suite) pos' :: hds) ((c, some i, ts) :: l)
section
variable {F : Fx} {X : Cx} {K : PySem.W.Frag} {I H : Hp} {ρ : DEnv} {σ : St}
theorem ends.as {D : Ends} {i : Option Nat} : DEnds.le (wipeZ (ends F K I D) i) (ends F K I (endsAs D i)) := by
  cases i with
  | none => exact DEnds.le.rfl'
  | some i => exact ⟨fun ρ h I' σ H s A => h I' _ H s (A.wipe [i]), fun d h => h, fun ρ h I' σ H s A => h I' _ H s (A.wipe [i]), fun ρ h I' σ H s A => h I' _ H s (A.wipe [i]), fun d h => h⟩
theorem wipeZ.le {Z Z' : DEnds} {i : Option Nat} (l : DEnds.le Z Z') : DEnds.le (wipeZ Z i) (wipeZ Z' i) := by
  cases i with
  | none => exact l
  | some i => exact ⟨fun ρ h => l.nx _ h, l.rt, fun ρ h => l.bk _ h, fun ρ h => l.ct _ h, l.ro⟩
theorem DEnds.le.trans {a b c : DEnds} (l : DEnds.le a b) (m : DEnds.le b c) : DEnds.le a c :=
  ⟨fun _ h => m.nx _ (l.nx _ h), fun _ h => m.rt _ (l.rt _ h), fun _ h => m.bk _ (l.bk _ h), fun _ h => m.ct _ (l.ct _ h), fun _ h => m.ro _ (l.ro _ h)⟩
theorem at_name (A : At F K I ρ σ H) (a : Addr) (i : Option Nat) : At F K I (nameD a ρ i) (nameAs a σ i) H := by
  cases i with
  | none => exact A
  | some i => exact A.set (.opq a)
theorem suite_ok {sts : List Stmt} {ts : Addr → Ex → DTS} (h : SuiteD F X sts ts) : SuiteOk X sts (tSuite F X.K ts) := by
  refine fun a oe cls d pn hz hf => ⟨fun pins s σ H D J ⟨I, ρ, x, A, e, q⟩ => ?_⟩
  have S := h (baseOf F H) I a oe cls d pn x hz hf e
  exact S.run.run pins s σ H D J ⟨I, ρ, A.rebase, S.mono _ _ _ (ends.rebase A) q⟩
def clsR (F : Fx) (K : PySem.W.Frag) (l : List Cls2) : List Cls1 := l.map fun (c, i, ts) => (c, i, tSuite F K ts)
theorem hds_ok {hs : List ExceptHandler} {l : List Cls2} (h : HdsD F X hs l) : HdsS X hs (clsR F X.K l) := by
  induction h with
  | nil => exact .nil
  | one hc hsu r ih => exact .one hc (suite_ok hsu) ih
  | as i hc hi hln hsu r ih => exact .as hc hi hln (suite_ok hsu) ih
theorem hand_run {Wout : WX} {w : WD} {D : Ends} {Z : DEnds} {hs : List ExceptHandler} {l : List Cls2} (h : HdsD F X hs l) (le : LetsS F X.K w Wout) (A : At F X.K I ρ σ H) (lz : DEnds.le Z (ends F X.K I D)) {x : Ex} {cls : Value} {d : Option Addr} (er : ExRep X.K I H cls d x)
    (q : handD X.K w Z l ρ x) : wTry X.K Wout D (clsR F X.K l) cls d σ H := by
  have one : ∀ {c : Value} {i : Option Nat} {ts : Addr → Ex → DTS} {sts : List Stmt} {r : List Cls2}, SuiteD F X sts ts → (handD X.K w Z r ρ x → wTry X.K Wout D (clsR F X.K r) cls d σ H) → handD X.K w Z ((c, i, ts) :: r) ρ x → wTry X.K Wout D (clsR F X.K ((c, i, ts) :: r)) cls d σ H := by
    rintro c i ts sts r hsu ih ⟨b, hb, yes, no⟩
    refine ⟨b, er.1 ▸ hb, fun e a na => ⟨I, _, x, at_name A a i, er, ?_⟩, fun e => ih (no e)⟩
    have S := hsu I I a ⟨cls, d, .fields #[], #[]⟩ cls d [] x ⟨rfl, rfl⟩ ⟨_, rfl⟩ er
    exact S.mono _ _ _ (DEnds.le.trans (wipeZ.le lz) ends.as) (yes e a)
  induction h with
  | nil => exact le I ρ σ H A x q cls d I H A.st.stp er
  | one hc hsu r ih => exact one hsu ih q
  | as i hc hi hln hsu r ih => exact one hsu ih q
variable {Wout : WX} {w : WD} {body : List Stmt} {h₀ : ExceptHandler} {hs : List ExceptHandler} {l : List Cls2} {pos : Pos} {tb : WD → DTS}
/-- try: body / except C as n: .. / except ..; u: what the body's exceptions are wished -/
theorem ds_try (h1 : X.stack = X.env :: X.outer) (h2 : X.env.frame = some X.env.locals) (hN : X.N.Nodup) (tk : Takes X Wout) (le : LetsS F X.K w Wout)
    (hb : ∀ (B' I' : Hp) (W' : WX) (pn : List (Addr × Obj)) (xe : Value → Shared → Prop) (u : WD), Takes (X.tr pn xe) W' → LetsS ⟨F.W, B', I'⟩ X.K u W' → DSts ⟨F.W, B', I'⟩ (X.tr pn xe) body (tb u)) (hh : HdsD F X (h₀ :: hs) l) :
    DSt F X (.Try body (h₀ :: hs) [] [] pos) (fun Z ρ => ∃ (u : WD) (Z' : DEnds), DEnds.le Z' Z ∧ (∀ ρ' x, u ρ' x → handD X.K w Z' l ρ' x) ∧ tb u Z' ρ) := by
  refine ⟨fun Z Z' ρ lz ⟨u, Z1, l1, h, q⟩ => ⟨u, Z1, l1.trans lz, h, q⟩, ⟨fun pins s σ H D J ⟨I, ρ, A, u, Z, lz, h, q⟩ => ?_⟩⟩
  refine (ps_tryS (tb := fun W' D' σ' H' => W' = wTry X.K Wout D (clsR F X.K l) ∧ D' = D ∧ σ' = σ ∧ H' = H) h1 h2 hN tk (fun W' pn xe tk' => ⟨fun pins' s' σ' H' D' J' ⟨eW, eD, es, eH⟩ => ?_⟩) (hds_ok hh)).run pins s σ H D J ⟨rfl, rfl, rfl, rfl⟩
  subst eW eD es eH
  have S := hb (baseOf F H') I _ pn xe u tk' fun I2 ρ2 σ2 H2 A2 x hx cls d I3 H3 s3 er => ?_
  · refine S.run.run pins' s' σ' H' D' J' ⟨I, ρ, A.rebase, S.mono _ _ _ (lz.trans (ends.rebase A)) q⟩
  · have A3 := A.back (A2.step s3)
    have same : Same I I3 := Same.trans A2.stp.i s3.i
    exact hand_run hh le A3 (lz.trans (ends.le same)) er (h _ _ hx)
end
end Dk

/-! In a clause's suite: e.f, isinstance(e, C), isinstance(e, (C1, ..)), e the exception taken. -/
namespace Dk
open PySem L2 PySem.Spec
section
variable {X : Cx} {a C D : Addr} {oe : Obj} {cls : Value} {d : Option Addr} {pn : List (Addr × Obj)} {F : Fx} {B' : Hp} {e : Expr} {te : DT} {x : Ex} {f : Str} {pos p q1 q2 : Pos}
theorem ex_at {K : PySem.W.Frag} {I0 I H : Hp} {W : Wd} (er : ExRep K I0 B' cls d x) (s : Same I0 I) (st : StI W I H) : ∀ y, d = some y → ∃ fs, H y = some (.xd fs) := fun y e => by
  rcases er.2 with ⟨_, h⟩ | ⟨dd, fs, h, hi, _⟩
  · rw [h] at e
    cases e
  · rw [h] at e
    cases e
    exact ⟨fs, st.sub _ _ (s _ _ hi)⟩
/-- e.f -/
theorem de_xf (hz : Zc cls d oe) (hf : ∃ vs, oe.data = .fields vs) (er : ExRep X.K F.I0 B' cls d x) (he : DE F (X.suite a ((a, oe) :: pn)) e te) (hb : attributeBase e f X.env (eval e X.env) = eval e X.env := by rfl) :
    DE F (X.suite a ((a, oe) :: pn)) (.Attribute e f pos) (fun ρ Q => ∃ C, x.cls = .ref C ∧ XfC X.K C ∧ PySem.W.findIn X.K (.ref C) f = some none ∧ te ρ fun z => z = .opq a ∧ ∃ y, x.flds.lookup f = some y ∧ Q y) := by
  refine ⟨fun ρ Q Q' k ⟨C, e1, t, n, h⟩ => ⟨C, e1, t, n, he.mono _ _ _ (fun z ⟨ez, y, l, q⟩ => ⟨ez, y, l, k _ q⟩) h⟩, ⟨fun pins s σ H Q J ⟨I, ρ, A, C, e1, t, n, h⟩ => ?_⟩⟩
  refine (pe_xf t n hz hf he.run hb).run pins s σ H Q J (rdE_next he.mono A h fun z v I1 H1 q1 s1 rv => ?_)
  obtain ⟨rfl, y, l, q1⟩ := q1
  cases rv
  rcases er.2 with ⟨h0, _⟩ | ⟨dd, fs, h0, hi, kk, r⟩
  · rw [h0] at l
    cases l
  have same := Same.trans A.stp.i s1.i
  obtain ⟨w, l1, rw1⟩ := lookup_rep kk (r.mono same) l
  exact ⟨rfl, er.1.trans e1, dd, fs, w, h0, s1.st.sub _ _ (same _ _ hi), l1, q1 _ _ _ s1 rw1⟩
/-- what its class says, so that isinstance is answered -/
structure XiC (K : PySem.W.Frag) (D : Addr) : Prop where
  hd : PySem.W.hasDictIn K D = true
  hg : PySem.W.findIn K (.ref D) "__getattribute__" = some (some (.builtin "BaseException.__getattribute__"))
  hk : PySem.W.findIn K (.ref D) "__getattr__" = some none
  hs : PySem.W.subIn K (.ref D) (.type "BaseException") = some true
  ha : PySem.W.findIn K (.ref D) "__class__" = some (some (.builtin "object.__class__"))
  hn : PySem.W.specialIn K (.builtin "object.__class__") "__get__" = some (some (.builtin "getset_descriptor.__get__"))
  ht : PySem.W.takesIn K (.builtin "object.__class__") = some true
  hm : PySem.W.mroIn K D (.type "object") = some true
theorem XiC.xf {K : PySem.W.Frag} {D : Addr} (T : XiC K D) : XfC K D := ⟨T.hg, T.hk, T.hs, T.hd⟩
/-- isinstance of it -/
def rIsX (K : PySem.W.Frag) (D a : Addr) (d : Option Addr) : List V → Hp → VK → Prop := fun xs H Q => ∃ (c : V) (cv : Value) (b : Bool), xs = [.ref a, c] ∧ ClsV c cv ∧ PySem.W.kitOne K (.ref D) cv = some b ∧ (∀ y, d = some y → ∃ fs, H y = some (.xd fs)) ∧ Q (.bl b) H
def rIsXT (K : PySem.W.Frag) (D a : Addr) (d : Option Addr) : List V → Hp → VK → Prop := fun xs H Q => ∃ (tp : Addr) (cs : List V) (us : List Value) (b : Bool), xs = [.ref a, .ref tp] ∧ H tp = some (.tup cs) ∧ Paired ClsV cs us ∧ PySem.W.kitAny K (.ref D) us = some b ∧ (∀ y, d = some y → ∃ fs, H y = some (.xd fs)) ∧ Q (.bl b) H
theorem x_inst {pins : List (Addr × Obj)} {σ : St} {H : Hp} {s : Shared} (hz : Zc (.ref D) d oe) (hf : ∃ vs, oe.data = .fields vs) (J : Inv (X.suite a ((a, oe) :: pn)) pins σ H s) (hd : ∀ y, d = some y → ∃ fs, H y = some (.xd fs)) : ∃ od, PySem.W.InstAt s.heap a oe D od := by
  obtain ⟨ha, _⟩ := J.pin (a, oe) (List.mem_append.mpr (.inl List.mem_cons_self))
  obtain ⟨vs, hv⟩ := hf
  have nc : PySem.W.notCls oe = true := by unfold PySem.W.notCls; rw [hv] <;> rfl
  cases hdd : d with
  | none => exact ⟨none, ha, hz.1, nc, by rw [hz.2, hdd]; trivial⟩
  | some y =>
    obtain ⟨fs, hy⟩ := hd y hdd
    obtain ⟨mA, hns, _⟩ := (show ObjOk X.prog X.w H s.heap y (.xd fs) from J.hok y _ hy)
    obtain ⟨od, ho, _⟩ := lookIn_ns hns
    exact ⟨some od, ha, hz.1, nc, by rw [hz.2, hdd]; exact ho⟩
theorem x_kit {K : PySem.W.Frag} (T : XiC K D) (od : Option Obj) : PySem.W.KitX K (.ref a) (.ref D) (fun h => PySem.W.InstAt h a oe D od) := by
  obtain ⟨cd, hc, _⟩ := PySem.W.any_some T.hd
  exact PySem.W.kitx_exc (by rw [hc]; rfl) T.hg T.hk T.hs T.ha T.hn T.ht T.hm
theorem call_isX (T : XiC X.K D) (hz : Zc (.ref D) d oe) (hf : ∃ vs, oe.data = .fields vs) : CallR (X.suite a ((a, oe) :: pn)) (.builtin "isinstance") (rIsX X.K D a d) := by
  rintro pins s σ H xs us Q J r ⟨c, cv, b, rfl, k, e, hd, q⟩
  obtain ⟨u1, u2, rfl, r1, r2⟩ := vals2 r
  cases (show u1 = Value.ref a from r1)
  cases k.eq r2
  obtain ⟨od, i⟩ := x_inst hz hf J hd
  exact PySem.W.kia_one (x_kit T od) J.kIn i e (fun z => nomatch z) fun tk => ⟨.bl b, H, J.tok tk, rfl, q⟩
theorem call_isXT (T : XiC X.K D) (hz : Zc (.ref D) d oe) (hf : ∃ vs, oe.data = .fields vs) : CallR (X.suite a ((a, oe) :: pn)) (.builtin "isinstance") (rIsXT X.K D a d) := by
  rintro pins s σ H xs us Q J r ⟨tp, cs, ws, b, rfl, hT, k, e, hd, q⟩
  obtain ⟨u1, u2, rfl, r1, r2⟩ := vals2 r
  cases (show u1 = Value.ref a from r1)
  cases (show u2 = Value.ref tp from r2)
  obtain ⟨od, i⟩ := x_inst hz hf J hd
  obtain ⟨_, its, rv, o, h1, h2, n, h3⟩ := (show ObjOk X.prog X.w H s.heap tp (.tup cs) from J.hok tp _ hT)
  cases ClsV.all k rv
  obtain ⟨oc, od', dt, sl⟩ := o
  simp only at h2 h3
  subst h2 h3
  exact PySem.W.kia_tup (x_kit T od) J.kIn i h1 e (fun z => nomatch z) fun tk => ⟨.bl b, H, J.tok tk, rfl, q⟩
/-- names of classes -/
theorem cn_b {X : Cx} {y : Str} {n : String} {pos : Pos} (hm : X.mg y = none) (hv : bootBuiltins y = some (.type n) := by decide +kernel) (hg : Gl X y := by rfl) (hn : y ≠ "__name__" := by decide) (hd : (y == ("__debug__" : Str)) = false := by decide) : PE X (.Name y pos) (tC (.ty n)) := pe_bltn hg hm hv rfl hn hd
theorem cn_o {X : Cx} {y : Str} {C : Addr} {pos : Pos} (hm : X.mg y = some (.ref C)) (hg : Gl X y := by rfl) (hd : (y == ("__debug__" : Str)) = false := by decide) : PE X (.Name y pos) (tC (.ref C)) := pe_glob hg hm rfl hd
structure PCl (X : Cx) (es : List Expr) (us : List Value) : Prop where
  ex : ∃ cs, Paired ClsV cs us ∧ cs.length = us.length ∧ PA X es (fun _ H Q => Q cs H)
theorem pcl_nil {X : Cx} : PCl X [] [] := ⟨[], .nil, rfl, pa_nil.imp fun σ H Q q => q⟩
theorem pcl_cons {X : Cx} {c : V} {u : Value} {us : List Value} {e : Expr} {es : List Expr} (he : PE X e (tC c)) (k : ClsV c u) (h : PCl X es us) (hs : starEach (e :: es) X.env = (false, eval e X.env) :: starEach es X.env := by rfl) : PCl X (e :: es) (u :: us) := by
  obtain ⟨cs, h1, h2, h3⟩ := h.ex
  exact ⟨c :: cs, .cons k h1, by simp [h2], (pa_cons he h3 hs).imp fun σ H Q q => q⟩
/-- isinstance(e, C) -/
theorem de_isX {c : V} {u : Value} {ce : Expr} (hz : Zc cls d oe) (hf : ∃ vs, oe.data = .fields vs) (er : ExRep X.K F.I0 B' cls d x) (hm : X.mg "isinstance" = none) (he : DE F (X.suite a ((a, oe) :: pn)) e te) (hc : PE (X.suite a ((a, oe) :: pn)) ce (tC c)) (k : ClsV c u) (hg : Gl X "isinstance" := by rfl)
    (h1 : starEach [e, ce] X.env = (false, eval e X.env) :: starEach [ce] X.env := by rfl) (h2 : starEach [ce] X.env = (false, eval ce X.env) :: starEach [] X.env := by rfl) (hpl : (backTo pos (starEach [ce] X.env)).any (·.1) = false := by rfl) :
    DE F (X.suite a ((a, oe) :: pn)) (.Call (.Name "isinstance" q1) [e, ce] [] pos) (fun ρ Q => ∃ D b, x.cls = .ref D ∧ XiC X.K D ∧ PySem.W.kitOne X.K (.ref D) u = some b ∧ te ρ fun z => z = .opq a ∧ Q (.bl b)) := by
  refine ⟨fun ρ Q Q' k ⟨D, b, e1, t, ki, h⟩ => ⟨D, b, e1, t, ki, he.mono _ _ _ (fun z ⟨ez, q⟩ => ⟨ez, k _ q⟩) h⟩, ⟨fun pins s σ H Q J ⟨I, ρ, A, D, b, e1, t, ki, h⟩ => ?_⟩⟩
  have hz' : Zc (.ref D) d oe := by rw [← e1, ← er.1]; exact hz
  refine (pe_callB (X := X.suite a ((a, oe) :: pn)) (call_isX t hz' hf) hg hm (by decide +kernel) (pa_cons he.run (pa_cons hc pa_nil h2) h1) (by decide) (by decide) h1 hpl).run pins s σ H Q J ?_
  refine rdE_next he.mono A h fun z v I1 H1 q1 s1 rv => ?_
  obtain ⟨rfl, q1⟩ := q1
  cases rv
  exact ⟨c, u, b, rfl, k, ki, ex_at er (Same.trans A.stp.i s1.i) s1.st, q1 _ _ _ s1 (.bl b)⟩
theorem de_isXT {us : List Value} {ces : List Expr} {kt : Nat} {pt : Pos} (hz : Zc cls d oe) (hf : ∃ vs, oe.data = .fields vs) (er : ExRep X.K F.I0 B' cls d x) (hm : X.mg "isinstance" = none) (he : DE F (X.suite a ((a, oe) :: pn)) e te) (hc : PCl (X.suite a ((a, oe) :: pn)) ces us) (hl : us.length ≤ 100 := by simp) (hg : Gl X "isinstance" := by rfl)
    (h1 : starEach [e, .Tuple ces kt pt] X.env = (false, eval e X.env) :: starEach [.Tuple ces kt pt] X.env := by rfl) (h2 : starEach [Expr.Tuple ces kt pt] X.env = (false, eval (.Tuple ces kt pt) X.env) :: starEach [] X.env := by rfl) (hpl : (backTo pos (starEach [Expr.Tuple ces kt pt] X.env)).any (·.1) = false := by rfl) :
    DE F (X.suite a ((a, oe) :: pn)) (.Call (.Name "isinstance" q1) [e, .Tuple ces kt pt] [] pos) (fun ρ Q => ∃ D b, x.cls = .ref D ∧ XiC X.K D ∧ PySem.W.kitAny X.K (.ref D) us = some b ∧ te ρ fun z => z = .opq a ∧ Q (.bl b)) := by
  obtain ⟨cs, c1, c2, c3⟩ := hc.ex
  refine ⟨fun ρ Q Q' k ⟨D, b, e1, t, ki, h⟩ => ⟨D, b, e1, t, ki, he.mono _ _ _ (fun z ⟨ez, q⟩ => ⟨ez, k _ q⟩) h⟩, ⟨fun pins s σ H Q J ⟨I, ρ, A, D, b, e1, t, ki, h⟩ => ?_⟩⟩
  have hz' : Zc (.ref D) d oe := by rw [← e1, ← er.1]; exact hz
  refine (pe_callB (X := X.suite a ((a, oe) :: pn)) (call_isXT t hz' hf) hg hm (by decide +kernel) (pa_cons he.run (pa_cons (pe_tup c3) pa_nil h2) h1) (by decide) (by decide) h1 hpl).run pins s σ H Q J ?_
  refine rdE_next he.mono A h fun z v I1 H1 q1 s1 rv => ?_
  obtain ⟨rfl, q1⟩ := q1
  cases rv
  refine ⟨by rw [c2, sizeLine_eq]; omega, fun tp hp => ?_⟩
  have l := s1.st.laid hp (.tup cs)
  exact ⟨tp, cs, us, b, rfl, upd_same, c1, ki, ex_at er (Same.trans (Same.trans A.stp.i s1.i) l.i) l.st, q1 _ _ _ (s1.trans l) (.bl b)⟩
end
end Dk

/-! Own exceptions in one fact each; their __init__ (one field) by its body; what a def or a place that takes nothing wishes. -/
namespace Dk
open PySem L2 PySem.Spec
open PyProof.Rows (envOfC)
theorem takes_def {P : Program} {w : World} {K : PySem.W.Frag} {mg : Str → Option Value} {base : Heap} {N : List Str} {qual : Str} {scope : Scope} {f : Addr} {cd : Value} {A : Around} {outer : List Env} {s : Shared} {H : Hp} {E : XK} :
    Takes (cxOf (L2.CX P w) P w K mg base N qual scope f cd A outer s H E) (fun cls d _ H' => E cls d H') := takes_of rfl rfl rfl rfl
theorem letsS_none {F : Fx} {K : PySem.W.Frag} {W : WX} : LetsS F K (fun _ _ => False) W := fun _ _ _ _ _ _ h => h.elim
/-- an own class of exceptions whose __init__ stores one field -/
structure CalE (P : Program) (w : World) (K : PySem.W.Frag) (mg : Str → Option Value) (base : Heap) (k : Nat) (x : Str) (C : Addr) (f : Str) : Prop where
  ex : ∃ nB newId iB initId tl fI fd ps, XB nB newId iB initId tl ∧ OxC K newId tl C ∧ PySem.W.findIn K (.ref C) "__init__" = some (some (.ref fI)) ∧ PySem.W.typeIn K (.ref fI) = some (.type "function") ∧ GnOk P w K mg base CX0 k fI fd ps (spX C f) ∧ Binds K fd ps [] ∧ mg x = some (.ref C)
/-- .. without an __init__ of its own, made with a text -/
structure CalN (K : PySem.W.Frag) (mg : Str → Option Value) (x : Str) (C : Addr) : Prop where
  ex : ∃ B newId initId bmB, ExcBaseFacts B newId initId bmB ∧ PySem.W.excIn K C bmB newId = true ∧ mg x = some (.ref C) ∧ PySem.W.keepIn K (.ref C) = true ∧ PySem.W.subIn K (.ref C) (.type "BaseException") = some true ∧ PySem.W.typeIn K (.ref C) = some (.type "type")
section
variable {F : Fx} {X : Cx} {e : Expr} {te : DT} {k : Nat} {x f y : Str} {C : Addr} {p p2 pos : Pos} {j : Nat}
theorem dmk_e (c : CalE X.prog X.w X.K X.mg X.base k x C f) (hr : Rm (k + 1) X.A) (he : DE F X e te) (hg : Gl X x := by rfl) (hdb : (x == ("__debug__" : Str)) = false := by decide) (hs : starEach [e] X.env = (false, eval e X.env) :: starEach [] X.env := by rfl) :
    DMk F X (.Call (.Name x p) [e] [] pos) (fun ρ Q => te ρ fun d => Q ⟨.ref C, [(f, d)]⟩) := by
  obtain ⟨nB, newId, iB, initId, tl, fI, fd, ps, B, T, iC, tI, G, hb, hm⟩ := c.ex
  exact dmk_x B T iC tI G hr hb pass0 hm he hg hdb hs
theorem dmk_n (c : CalN X.K X.mg x C) (hg : Gl X x := by rfl) (hdb : (x == ("__debug__" : Str)) = false := by decide) : DMk F X (.Call (.Name x p) [.Constant (.str y) j p2] [] pos) (fun _ Q => Q ⟨.ref C, []⟩) := by
  obtain ⟨B, newId, initId, bmB, G, q, hm, kC, sb, ty⟩ := c.ex
  exact dmk_own G q hm kC (raises_own sb ty) hg hdb
end
theorem ty_KE : typeOf (.type "KeyError") = pure (.type "type") := by kernel_rfl
theorem hh_KE : PySem.W.handedIn (.builtin "KeyError.__init__") = true := by decide +kernel
theorem hh_VE : PySem.W.handedIn (.builtin "ValueError.__init__") = true := by decide +kernel
theorem vv_ke (K : PySem.W.Frag) : PySem.W.findCls K (.type "KeyError") (.type "type") "__init__" = some (.val (.builtin "KeyError.__init__")) := by kernel_rfl
section
variable {P : Program} {w : World} {K : PySem.W.Frag} {mg : Str → Option Value} {base : Heap} {k : Nat}
/-- __init__(self, p): B.__init__(self, 'm'); self.f = p -/
theorem run_xinit {X : Cx} {a C : Addr} {f b p y : Str} {v : V} {H : Hp} {Q : VK} {nB newId iB initId : String} {tl : List Value} {p1 p2 p3 p4 p5 p6 p7 p8 p9 p0 : Pos} {j : Nat} (B : XB nB newId iB initId tl) (T : OxC X.K newId tl C) (hno : PySem.W.findIn X.K (.ref C) f = some none)
    (hcall : ∀ ta, PA X [.Name "self" p3, .Constant (.str y) j p4] ta → PE X (.Call (.Attribute (.Name b p1) "__init__" p2) [.Name "self" p3, .Constant (.str y) j p4] [] p5) (tXi X.K newId tl ta)) (hN : X.N = [Str.ofString "self", p])
    (hv0 : Vis X.env.scope "self") (hv1 : Vis X.env.scope p) (h1 : (p == ("__debug__" : Str)) = false) (h2 : (p == ("__classdict__" : Str)) = false)
    (sw1 : swapsWith (.Call (.Attribute (.Name b p1) "__init__" p2) [.Name "self" p3, .Constant (.str y) j p4] [] p5) none p6.line X.env = pure false)
    (sw2 : swapsWith (.Name p p9) (some (.Attribute (.Name "self" p7) f p8)) p0.line X.env = pure false)
    (hs : starEach [.Name "self" p3, .Constant (.str y) j p4] X.env = (false, eval (.Name "self" p3) X.env) :: starEach [.Constant (.str y) j p4] X.env)
    (hs2 : starEach [.Constant (.str y) j p4] X.env = (false, eval (.Constant (.str y) j p4) X.env) :: starEach [] X.env)
    (ha : H a = some (exo a C none)) (q : ∀ d, H d = none → d ≠ a → Q .non (upd (upd H d (exd d [(f, v)])) a (exo a C (some d)))) :
    ∃ t, PSs X [.Expr (.Call (.Attribute (.Name b p1) "__init__" p2) [.Name "self" p3, .Constant (.str y) j p4] [] p5) p6, .Assign [.Attribute (.Name "self" p7) f p8] (.Name p p9) p0] t ∧
      t { nx := fun _ H' => Q .non H', rt := Q } (L2.start [Str.ofString "self", p] [.ref a, v]) H := by
  have s0 : X.N[0]? = some (Str.ofString "self") := by rw [hN]; rfl
  have s1 : X.N[1]? = some p := by rw [hN]; rfl
  refine ⟨_, pss_cons (ps_expr (hcall _ (pa_cons (pv 0 s0 hv0 (by decide) (by decide)) (pa_cons pe_str pa_nil hs2) hs)) sw1) (pss_one (ps_xs B (pv 0 s0 hv0 (by decide) (by decide)) (pv 1 s1 hv1 h1 h2) sw2)), ?_⟩
  refine ⟨_, rfl, ⟨a, C, _, rfl, by simp, T, ha, ?_⟩⟩
  exact ⟨_, rfl, _, rfl, a, C, rfl, T, hno, ha, q⟩
end
end Dk

/-! More rules over data: x[i] = e of an own list, {} and {k: v} as values, o.upper(), methods called by names, repr of own objects and of dicts. -/
namespace Dk
open PySem L2 PySem.Spec
section
variable {F : Fx} {X : Cx} {K : PySem.W.Frag} {I H I' H' I2 H2 : Hp} {ρ : DEnv} {σ : St} {e i k v o : Expr} {te ti tk tv to : DT} {x : Str} {p1 pos pos' : Pos} {W : Wd}
theorem ixN_nat {n m : Nat} (h : m < n) : L2.ixN n (m : Int) = some m := by
  unfold L2.ixN
  rw [if_pos (by omega), if_pos (by omega)]
  rfl
/-- x[i] = e, x a list of our own -/
theorem ds_lset (j : Nat) (hk : DE F X i ti) (he : DE F X e te) (hN : X.N[j]? = some x := by rfl) (hv : Vis X.env.scope x := by first | exact Or.inl rfl | exact Or.inr (Or.inl rfl) | exact Or.inr (Or.inr rfl)) (hd : (x == ("__debug__" : Str)) = false := by decide)
    (hcd : (x == ("__classdict__" : Str)) = false := by decide) (hs : swapsWithSole [.Subscript (.Name x p1) i pos'] e pos.line X.env = pure false := by rfl) (hw : swappedStores [.Subscript (.Name x p1) i pos'] e X.env = pure none := by rfl)
    (h1 : (assignEach [.Subscript (.Name x p1) i pos'] X.env).map (·.2) = [assign (.Subscript (.Name x p1) i pos') X.env] := by rfl)
    (ha : ∀ v, assign (.Subscript (.Name x p1) i pos') X.env v = (do
      let ov ← holding [v] (eval (.Name x p1) X.env)
      let iv ← holding [v, ov] (eval i X.env)
      standAt pos'
      holding [v, ov, iv] (setItem ov iv v)
      release [v, ov, iv] []) := by intro _; rfl) :
    DSt F X (.Assign [.Subscript (.Name x p1) i pos'] e pos) (fun Z ρ => te ρ fun d => ∃ xs, ρ[j]? = some (some (.own xs)) ∧ ti ρ fun y => ∃ n : Nat, y = .int n ∧ n < xs.length ∧ Z.nx (ρ.set j (some (.own (xs.set n d))))) := by
  refine ⟨fun Z Z' ρ l q => he.mono _ _ _ (fun d ⟨xs, h, q⟩ => ⟨xs, h, hk.mono _ _ _ (fun y ⟨n, e, l', q⟩ => ⟨n, e, l', l.nx _ q⟩) q⟩) q, (ps_asg he.run (pg_sub (pv j hN hv hd hcd) hk.run set_list ha) hs hw h1).imp fun Z σ H ⟨I, ρ, A, q⟩ => ?_⟩
  refine rdE_next he.mono A q fun d v I1 H1 q1 s1 rv => ?_
  obtain ⟨xs, hx, q1⟩ := q1
  have A1 := A.step s1
  obtain ⟨p, o, h1, w, _⟩ := A1.turnOwn hx trivial
  refine ⟨_, h1, rdE_next hk.mono A1 q1 fun y u I2 H2 q2 s2 ry => ?_⟩
  obtain ⟨n, rfl, hl, q2⟩ := q2
  have A2 := A1.step s2
  obtain ⟨p', o', h1', w', turn⟩ := A2.turnOwn hx trivial
  obtain ⟨ws, rfl, r⟩ := w'.rep
  rw [h1] at h1'
  cases h1'
  cases ry
  exact ⟨p, ws, (n : Int), n, rfl, rfl, w'.hp, ixN_nat (by rw [r.length]; exact hl), q2 I2 σ _ (Same.trans s1.i s2.i) (turn _ _ ⟨_, rfl, r.set n (rv.mono s2.i)⟩ (by intro _ h; cases h))⟩

/-! ### dicts as values -/
theorem de_dict0 : DE F X (.Dict [] [] pos) (fun _ Q => Q (.dic [])) :=
  ⟨fun ρ Q Q' k q => k _ q, pe_dnewK.imp fun σ H Q ⟨I, ρ, A, q⟩ p hp => q _ _ _ (A.st.laid hp _) (.dic upd_same rfl .nil)⟩
/-- an object that was laid for itself gets what it holds -/
theorem stp_fill {p : Addr} {o u : HO} (hp : H p = none) (st : StI W I H) (s : Stp W I (upd H p o) I2 H2) : Stp W I H (upd I2 p u) (upd H2 p u) ∧ H2 p = some o := by
  have np : ¬ W.mv p := fun m => W.live st.inv m hp
  have ni := st.free hp
  have at2 : H2 p = some o := s.h p o upd_same np
  have i2 : I2 p = none := s.new p o upd_same ni
  refine ⟨⟨fun b w e => ?_, ⟨fun b w e => ?_, fun b w e => ?_, W.frame (fun b m => upd_ne fun z => np (z ▸ m)) s.st.inv⟩, fun b w e m => ?_, fun b w e n => ?_⟩, at2⟩
  · rw [upd_ne (ne_of_none e ni)]
    exact s.i _ _ e
  · by_cases hb : b = p
    · subst hb; rw [upd_same] at e ⊢; exact e
    · rw [upd_ne hb] at e ⊢; exact s.st.sub _ _ e
  · by_cases hb : b = p
    · subst hb; exact np
    · rw [upd_ne hb] at e; exact s.st.imm _ _ e
  · have hb := ne_of_none e hp
    rw [upd_ne hb]
    exact s.h b w (by rw [upd_ne hb]; exact e) m
  · have hb := ne_of_none e hp
    rw [upd_ne hb]
    exact s.new b w (by rw [upd_ne hb]; exact e) n
theorem de_dict1 (hk : DE F X k tk) (hv : DE F X v tv) : DE F X (.Dict [some k] [v] pos) (fun ρ Q => tk ρ fun y => tv ρ fun d => ∃ key, y = keyD key ∧ Q (.dic [(key, d)])) := by
  refine ⟨fun ρ Q Q' m q => hk.mono _ _ _ (fun y q => hv.mono _ _ _ (fun d ⟨key, e, q⟩ => ⟨key, e, m _ q⟩) q) q, (pe_disp (pps_cons hk.run hv.run pps_nil) rfl rfl (by simp) (by simp)).imp fun σ H Q ⟨I, ρ, A, q⟩ p hp => ?_⟩
  have s0 := A.st.laidM hp (.dK [])
  show rdE F X.K tk σ (upd H p (.dK [])) _
  refine rdE_next hk.mono (A.step s0) q fun y u I1 H1 q1 s1 ru => ?_
  show rdE F X.K tv σ H1 _
  refine rdE_next hv.mono ((A.step s0).step s1) q1 fun d w I2 H2 q2 s2 rw' => ?_
  obtain ⟨key, rfl, q2⟩ := q2
  obtain ⟨fs, at2⟩ := stp_fill (u := .dK [(key, w)]) hp A.st (s1.trans s2)
  have hn : I2 p = none := (s1.trans s2).new p _ upd_same (A.st.free hp)
  refine ⟨at2, [(key, w)], by rw [keyD_rep ru]; rfl, by simp, ?_⟩
  exact q2 _ _ _ fs (.dic upd_same rfl (.cons (rw'.mono (Same.laid hn)) .nil))
/-- o.upper() -/
theorem de_upper (ho : DE F X o to) (hb : attributeBase o "upper" X.env (eval o X.env) = eval o X.env := by rfl) (hl : (p1.endLine == pos.line) = true := by rfl) : DE F X (.Call (.Attribute o "upper" p1) [] [] pos) (fun ρ Q => to ρ fun d => ∃ z, d = .str z ∧ z.length ≤ 5592405 ∧ Q (.str (Txt.upper z))) := by
  refine ⟨fun ρ Q Q' k q => ho.mono _ _ _ (fun d ⟨z, e, l, q⟩ => ⟨z, e, l, k _ q⟩) q, (show PE X _ (fun σ H Q => rdE F X.K to σ H fun x H1 => ∃ z, x = .str z ∧ z.length ≤ 5592405 ∧ Q (.str (Txt.upper z)) H1) from ⟨fun pins s σ H Q J h => ?_⟩).imp fun σ H Q ⟨I, ρ, A, q⟩ => rdE_next ho.mono A q fun d v I1 H1 q1 s rv => ?_⟩
  · refine J1.ev_upper hb hl (thn (ho.run.run pins s σ H _ J h) fun u s1 ⟨x, H1, J1, r1, z, ex, hz, q⟩ => ?_)
    subst ex
    obtain ⟨t, rfl⟩ := r1
    exact ⟨z, t, rfl, hz, fun t' k => ⟨.str (Txt.upper z), H1, J1.tok k, ⟨t', rfl⟩, q⟩⟩
  · obtain ⟨z, rfl, hz, q⟩ := q1
    cases rv
    exact ⟨z, rfl, hz, q _ _ _ s (.str _)⟩
end

/-! ### methods by names -/
structure CalMK (P : Program) (w : World) (K : PySem.W.Frag) (mg : Str → Option Value) (base : Heap) (CX : CXT) (W : Wd) (k : Nat) (C : Addr) (m : Str) (ps ks : List Str) (g : {α : Type} → List α → List α → List α) (S : DSp) : Prop where
  ex : ∃ f fd, Cls K C ∧ Meth K C m f ∧ GnOk P w K mg base CX k f fd ps (spD W K S) ∧ KBn K fd ps 1 ks (fun us ws => g us ws) (fun vs zs => g vs zs)
  rel : ∀ {K : PySem.W.Frag} {I : Hp} {us vs : List V} {ds es : List D}, Reps K I us ds → Reps K I vs es → Reps K I (g us vs) (g ds es)
section
variable {F : Fx} {X : Cx} {k : Nat} {m : Str} {C : Addr} {ps ks : List Str} {S : DSp} {W : WX} {w : WD} {pos apos : Pos} {o : Expr} {kws : List Keyword} {to : DT} {t : DAT} {pl : Sem Bool} {g : {α : Type} → List α → List α → List α}
theorem de_methK (c : CalMK X.prog X.w X.K X.mg X.base (L2.CX X.prog X.w) F.W k C m ps ks g S) (hr : Rm k X.A) (tk : Takes X W) (le : LetsS F X.K w W) (ho : DE F X o to) (hk : DKw F X kws t)
    (hall : (backToKw pos (keywordEach kws X.env)).all (·.1.isSome) = true := by rfl) (hks : (backToKw pos (keywordEach kws X.env)).filterMap (·.1) = ks := by rfl)
    (hpl : ((backTo pos (starEach [] X.env)).any (·.1) || (backToKw pos (keywordEach kws X.env)).any (·.1.isNone)) = false := by rfl)
    (ht : eval (.Call (.Attribute o m apos) [] kws pos) X.env = (do
      let ov ← eval o X.env
      standAt apos.atName
      let (f, first) ← holding [ov] (getMethod ov m pl)
      callWith pos f first (backTo pos (starEach [] X.env)) (backToKw pos (keywordEach kws X.env))) := by rfl) :
    DE F X (.Call (.Attribute o m apos) [] kws pos) (fun ρ Q => to ρ fun x => methD C m x (t ρ fun ds => ds.length = ks.length ∧ S.f (g [x] ds) Q (w ρ))) := by
  obtain ⟨f, fd, cl, hm, G, hb⟩ := c.ex
  refine ⟨fun ρ Q Q' k h => ho.mono _ _ _ (fun d ⟨fs, e, l, h⟩ => ⟨fs, e, l, hk.mono _ _ _ (fun ds ⟨l2, h⟩ => ⟨l2, S.mono _ _ _ _ _ k (fun _ h => h) h⟩) h⟩) h, ⟨fun pins s σ H Q J ⟨I, ρ, A, h⟩ => ?_⟩⟩
  refine PySem.W.methodCall_KW (pl := pl) (thn (ho.run.run pins s σ H (fun x H1 => ∃ a dx fs, x = .ref a ∧ H1 a = some (.ins C dx fs) ∧ fs.lookup m = none ∧ rdA F X.K t σ H1 fun vs H2 => vs.length = ks.length ∧ spD F.W X.K S (g [.ref a] vs) H2 Q (WE W σ)) J ?_) fun u s1 ⟨x, H1, J1, rx, a, dx, fs, ex, ea, l, q⟩ => ?_) ht
  · refine rdE_next ho.mono A h fun d v I1 H1 q1 s1 rv => ?_
    obtain ⟨fs, rfl, l, q1⟩ := q1
    cases rv with
    | @obj a _ dx ws _ hi kk r =>
      refine ⟨a, dx, ws, rfl, s1.st.sub _ _ hi, lookup_none (K := X.K) (I := I1) kk l, rdA_next hk.mono (A.step s1) q1 fun ds vs I2 H2 q2 s2 rs => ⟨by rw [rs.length]; exact q2.1, ?_⟩⟩
      exact sp_run le A (s1.trans s2) (c.rel (.cons ((Rep.obj hi kk r).mono s2.i) .nil) rs) q2.2
  · subst ex
    cases (show u = Value.ref a from rx)
    refine getmeth_ok J1 ea cl hm l ?_
    refine PySem.W.callWith_KW0 (first := [.ref a]) (h₀ := X.base) J1.ok.mod.kin hm.kp hall (thn (hk.run.run pos pins s1 σ H1 _ J1 q) fun ws s2 ⟨zs, H2, J2, rz, l2, q2⟩ => ⟨J2.kIn, ?_⟩) hpl
    rw [hks]
    have ra : Vals [V.ref a] [Value.ref a] := .cons rfl .nil
    refine gn_goS G hr (passAt tk σ) J2 ?_ (hb.rel ra rz) q2
    exact hb.to s2 [.ref a] ws J2.kIn rfl (rz.length.symm.trans l2)
end

/-! ### repr -/
section
variable {F : Fx} {X : Cx} {k : Nat} {C : Addr} {S : DSp} {ps : List Str} {e : Expr} {te : DT} {t : DAT} {p pos : Pos}
theorem cr_reprO (c : CalM X.prog X.w X.K X.mg X.base CX0 F.W k C "__repr__" ps S) (hr : Rm (k + 1) X.A) (hu : X.A.units + 64 < cLine) : CallR X (.builtin "repr") (ROwn F.W X.K C S tStr) := by
  intro pins s σ H xs us Q J r h
  obtain ⟨ad, dx, fs, rfl, hi, h⟩ := h
  obtain ⟨u, rfl, ru⟩ := vals1 r
  cases ru
  obtain ⟨ox, od, I⟩ := J.inst hi
  obtain ⟨m, fr⟩ := J.fr
  obtain ⟨f, h1, h2, h3⟩ := own_run c hr.in1 rfl J h
  refine PySem.W.repr_K (by show X.A.units + 1 < cLine; omega) fr J.ok.mod.kin I h1 h2 (wpAny_mono h3 (fun u s' z => ?_) fun _ _ e => e)
  obtain ⟨v, H', J', rv, x, rfl, q⟩ := z
  obtain ⟨tk, rfl⟩ := rv
  exact ⟨.str x, H', J', ⟨_, rfl⟩, q⟩
theorem de_reprO (c : CalM X.prog X.w X.K X.mg X.base CX0 F.W k C "__repr__" ps S) (hr : Rm (k + 1) X.A) (hu : X.A.units + 64 < cLine) (hm : X.mg "repr" = none) (ha : DA F X [e] t) (hg : Gl X "repr" := by rfl) (he : starEach [e] X.env = (false, eval e X.env) :: starEach [] X.env := by rfl) : DE F X (.Call (.Name "repr" p) [e] [] pos) (fun ρ Q => t ρ fun ds => rOwn C S tStrD ds Q) :=
  de_callB (id := "repr") (mono_rOwn tStrD.mono) (lift_rOwn (T := tStr) (fun v d I H Q st r h => tStr.lift st r h) tStrD.mono) (cr_reprO c hr hu) hm (by decide +kernel) ha hg (by decide) (by decide) he rfl
/-- {x!r} of a tuple or a list -/
def fmtRD (d : D) (Q : D → Prop) : Prop := plainD d = true ∧ scalD d = false ∧ (toPy d).showable = true ∧ (toPy d).depth ≤ 50 ∧ (shw d).length ≤ sizeLine ∧ Q (.str (shw d))
theorem de_fmtR (hg : X.A.guards = some []) (hu : X.A.units + 64 < cLine) (he : DE F X e te) : DE F X (.FormattedValue e 114 none pos) (fun ρ Q => te ρ fun d => fmtRD d Q) := by
  have m : ∀ d (Q Q' : D → Prop), (∀ d, Q d → Q' d) → fmtRD d Q → fmtRD d Q' := fun d Q Q' k ⟨a, b, c, d', e, q⟩ => ⟨a, b, c, d', e, k _ q⟩
  refine ⟨fun ρ Q Q' k h => he.mono _ _ _ (fun d => m _ _ _ k) h, (show PE X _ (fun σ H Q => rdE F X.K te σ H fun x H1 => ∃ a d, x = .ref a ∧ Dp X.K H1 x d ∧ d.showable = true ∧ d.hasDict = false ∧ d.depth ≤ 50 ∧ d.shown.length ≤ sizeLine ∧ Q (.str d.shown) H1) from ⟨fun pins s σ H Q J h => ?_⟩).imp fun σ H Q ⟨I, ρ, A, q⟩ => rdE_next he.mono A q fun d v I1 H1 q1 s rv => ?_⟩
  · refine wpAny_FormattedValue_repr (thn (he.run.run pins s σ H _ J h) fun u s1 ⟨x, H1, J1, r1, a, d, ex, dp, hs, hd, hde, hl, q⟩ => ?_)
    subst ex
    cases (show u = Value.ref a from r1)
    obtain ⟨as, rd⟩ := Dp.reads J1 _ _ _ dp rfl
    refine PySem.pyReprObj_of_reads rd hs (PyData.noDict_hsm hd) hg (by omega) (fun b o e => e) (fun h' u tk hk => ?_) hl
    have J2 : Inv X pins σ H1 { s1 with heap := h', toks := tk } := J1.kept hk
    exact wpAny_formatField_str ⟨.str _, H1, J2, ⟨_, rfl⟩, q⟩ ⟨.str _, H1, J2.tok _, ⟨_, rfl⟩, q⟩ hl
  · obtain ⟨pl, sc, sh, dp, l, q⟩ := q1
    cases rv with
    | tup a r => exact ⟨_, _, rfl, (Rep.tup a r).dp s.st.sub pl, sh, noDict pl, dp, l, q _ _ _ s (.str _)⟩
    | lst a r => exact ⟨_, _, rfl, (Rep.lst a r).dp s.st.sub pl, sh, noDict pl, dp, l, q _ _ _ s (.str _)⟩
    | non => cases sc
    | bl b => cases sc
    | int b => cases sc
    | str b => cases sc
    | dic _ _ _ => cases pl
    | obj _ _ _ => cases pl
    | opq _ => cases pl
    | dfz _ _ _ => cases pl
end
end Dk

namespace KB
open PySem L2 Dk
open PyProof.Rows (envOfC)
abbrev s__law_info : Stmt := top 30
theorem sc__law_info : FnScope ["_law_kinds_here", "_law_found", "_law_kind", "_law_rows", "_law_bough", "_law_fields", "?_law_found?boughs", "?_law_found?fields", "?_law_found?kind"] ["_law_kinds_here"] (defScope s__law_info) := ⟨rfl, rfl, rfl, by decide +kernel, rfl, by decide +kernel, by decide +kernel⟩
theorem bd__law_info (kV doc pm : Value) (an : Option Addr) (cdv ct : Value) (us : List Value) (hl : us.length = 1) : bindArgs (PySem.W.fnOf "_law_info" "_law_info" (defArgs s__law_info) (defBody s__law_info) (defScope s__law_info) .none kV doc pm an cdv ct) ⟨us, []⟩ = pure ((["_law_kinds_here"] : List Str).zip us) := by
  match us, hl with
  | [v0], _ => rfl
def listsBy (ks : List Kind) : List (Key × D) := ks.map fun k => (.inr k.1, .lst (k.2.map fun b => .str b.1))
def infoD (ks : List Kind) : D := .dic [(.inr "kinds", .lst (ks.map fun k => .str k.1)), (.inr "boughs", .dic (listsBy ks)), (.inr "fields", .dic (fieldsBy ks)), (.inr "kind", .dfz (kindsBy ks))]
def spInfo : DSp where
  n := 1
  f := fun ds Q _ => ∃ ks, ds = [kindsD ks] ∧ Good ks ∧ Q (infoD ks)
  len := fun ds Q E ⟨m, e, _⟩ => by rw [e]; rfl
  mono := fun ds Q Q' E E' k _ ⟨m, e, h, q⟩ => ⟨m, e, h, k _ q⟩
theorem nodup_pref {b r : List (Key × D)} {x : Key × D} (h : ((b ++ x :: r).map (·.1)).Nodup) : ((b ++ [x]).map (·.1)).Nodup := by
  refine h.sublist (List.Sublist.map _ ?_)
  rw [show b ++ x :: r = (b ++ [x]) ++ r from by simp]
  exact List.sublist_append_left _ _
section
variable {P : Program} {w : World} {K : PySem.W.Frag} {C a l : Addr} {mg : Str → Option Value} {base : Heap} {W : Wd} {k : Nat} {f : Addr} {fd : FuncData}
theorem ok_info (T : TxtB K C mg) (Fn : Fun K "_law_info" "_law_info" s__law_info f fd) : GnOk P w K mg base CX0 (k + 1) f fd ["_law_kinds_here"] (spD W K spInfo) := by
  refine Fn.okD sc__law_info rfl fun cdv A outer s H I ds Q Ed E hr h => ?_
  have hu := hr.units
  obtain ⟨ks, rfl, g, q⟩ := h
  refine ⟨_, (dss_cons (ds_disp 1 [6, 7, 8] (unseen_by (N := ["_law_kinds_here", "_law_found", "_law_kind", "_law_rows", "_law_bough", "_law_fields", "?_law_found?boughs", "?_law_found?fields", "?_law_found?kind"]) (sc := defScope s__law_info) rfl rfl (by decide +kernel)) sc__law_info.nd (dps_val (de_lc (own := [("_law_kind", 2), ("_law_rows", 3)]) rfl sc__law_info.nd (di_seq (de_name 0)) (blkOk_by (own := [("_law_kind", 2), ("_law_rows", 3)]) (N := ["_law_kinds_here", "_law_found", "_law_kind", "_law_rows", "_law_bough", "_law_fields", "?_law_found?boughs", "?_law_found?fields", "?_law_found?kind"]) (sc := defScope s__law_info) (by decide +kernel)) (fun _ _ _ _ _ => (dg_tup (n := 2) rfl (dgs_cons (dg_name 2 sc__law_info.nd) (dgs_cons (dg_name 3 sc__law_info.nd) dgs_nil)))) (fun _ _ _ _ _ => dif_nil) (fun _ _ _ _ _ => (de_name 2))) (dps_new (dps_new (dps_new dps_nil)))))
  (dss_cons (ds_for PassesOwn.never rfl (di_seq (de_name 0)) (dg_tup (n := 2) rfl (dgs_cons (dg_name 2 sc__law_info.nd) (dgs_cons (dg_name 3 sc__law_info.nd) dgs_nil)))
  (dss_cons (ds_gput 1 6 hu (de_name 2) (de_lc (own := [("_law_bough", 4), ("_law_fields", 5)]) rfl sc__law_info.nd (di_seq (de_name 3)) (blkOk_by (own := [("_law_bough", 4), ("_law_fields", 5)]) (N := ["_law_kinds_here", "_law_found", "_law_kind", "_law_rows", "_law_bough", "_law_fields", "?_law_found?boughs", "?_law_found?fields", "?_law_found?kind"]) (sc := defScope s__law_info) (by decide +kernel)) (fun _ _ _ _ _ => (dg_tup (n := 2) rfl (dgs_cons (dg_name 4 sc__law_info.nd) (dgs_cons (dg_name 5 sc__law_info.nd) dgs_nil)))) (fun _ _ _ _ _ => dif_nil) (fun _ _ _ _ _ => (de_name 4))))
  (dss_one (ds_for PassesOwn.never rfl (di_seq (de_name 3)) (dg_tup (n := 2) rfl (dgs_cons (dg_name 4 sc__law_info.nd) (dgs_cons (dg_name 5 sc__law_info.nd) dgs_nil)))
  (dss_cons (ds_gput 1 7 hu (de_name 4) (de_name 5))
  (dss_one (ds_gput 1 8 hu (de_name 4) (de_name 2))))))))
  (dss_sink 1 6 1 (by decide)
  (dss_sink 1 7 2 (by decide)
  (dss_sinkL 1 8 3 (by decide)
  (dss_freeze 1
  (dss_one (ds_ret (de_name 1))))))))), ?_⟩
  simp only [getD_0, getD_s, set_0, set_s, boolD_bl, intD_int, startD, List.map, List.length_cons, List.length_nil, List.replicate, List.cons_append, List.nil_append, defEnds, wipeD, if_true, if_false, Bool.not_true, Bool.not_false, Bool.false_eq_true]
  simp only [kindsD, itemsD]
  have gs1 := g.s1
  refine ⟨small_len (by rw [List.length_map]; omega), lcD_all kindD (fun k => .str k.1) (fun k hk R S hr => ?_) ?_⟩
  · refine ⟨_, rfl, rfl, _, _, rfl, _, _, rfl, rfl, ?_⟩
    simp only [getD_0, getD_s, set_0, set_s, boolD_bl, intD_int, startD, List.map, List.length_cons, List.length_nil, List.replicate, List.cons_append, List.nil_append, defEnds, wipeD, if_true, if_false, Bool.not_true, Bool.not_false, Bool.false_eq_true]
    exact hr
  refine ⟨by decide, by decide, fun bs hbs => ?_⟩
  obtain ⟨b1, b2, b3, rfl⟩ : ∃ b1 b2 b3, bs = [b1, b2, b3] := by
    match bs, hbs with
    | [x, y, z], _ => exact ⟨x, y, z, rfl⟩
  show getD [_, some (.ownD [(.inr "kinds", .lst (ks.map fun k => .str k.1)), (.inr "boughs", .opq b1), (.inr "fields", .opq b2), (.inr "kind", .opq b3)]), _, _, _, _, some (.ownQ b1 []), some (.ownQ b2 []), some (.ownQ b3 [])] 0 _
  have ln : (listsBy ks).length = ks.length := by unfold listsBy; rw [List.length_map]
  have gk := g.klen
  have gf := g.flen
  have gb := g.blen
  simp only [getD_0, getD_s, set_0, set_s, boolD_bl, intD_int, startD, List.map, List.length_cons, List.length_nil, List.replicate, List.cons_append, List.nil_append, defEnds, wipeD, if_true, if_false, Bool.not_true, Bool.not_false, Bool.false_eq_true]
  refine forD_ind (fun (l : List D) ρ => ∃ (pre rest : List Kind) (u2 u3 u4 u5 : Option Ent), ks = pre ++ rest ∧ l = rest.map kindD ∧ ρ = [some (.dat (kindsD ks)), some (.ownD [(.inr "kinds", .lst (ks.map fun k => .str k.1)), (.inr "boughs", .opq b1), (.inr "fields", .opq b2), (.inr "kind", .opq b3)]), u2, u3, u4, u5, some (.ownQ b1 (listsBy pre)), some (.ownQ b2 (fieldsBy pre)), some (.ownQ b3 (kindsBy pre))]) (fun ρ ⟨pre, rest, u2, u3, u4, u5, e1, e2, e⟩ => ?_) (fun d l ρ R ⟨pre, rest, u2, u3, u4, u5, e1, e2, e⟩ hR => ?_) _ _ ⟨[], ks, none, none, none, none, rfl, rfl, rfl⟩
  · subst e
    obtain rfl : rest = [] := by simpa using e2.symm
    rw [List.append_nil] at e1
    subst e1
    refine ⟨_, _, _, _, rfl, rfl, rfl, _, _, _, _, rfl, rfl, rfl, _, _, _, _, rfl, rfl, rfl, _, rfl, trivial, ?_⟩
    simp only [getD_0, getD_s, set_0, set_s, boolD_bl, intD_int, startD, List.map, List.length_cons, List.length_nil, List.replicate, List.cons_append, List.nil_append, defEnds, wipeD, if_true, if_false, Bool.not_true, Bool.not_false, Bool.false_eq_true]
    exact q
  · subst e
    cases rest with
    | nil => cases e2
    | cons x rest =>
      rw [List.map_cons] at e2
      obtain ⟨rfl, rfl⟩ := List.cons.inj e2
      have hx : x ∈ ks := by rw [e1]; simp
      refine ⟨_, rfl, rfl, _, _, rfl, _, _, rfl, rfl, ?_⟩
      refine ⟨_, rfl, ?_⟩
      simp only [itemsD]
      have hs2 := g.s2 x hx
      refine ⟨small_len (by rw [List.length_map]; omega), lcD_all boughD (fun b => .str b.1) (fun b hb R S hr => ?_) ?_⟩
      · refine ⟨_, rfl, rfl, _, _, rfl, _, _, rfl, rfl, ?_⟩
        simp only [getD_0, getD_s, set_0, set_s, boolD_bl, intD_int, startD, List.map, List.length_cons, List.length_nil, List.replicate, List.cons_append, List.nil_append, defEnds, wipeD, if_true, if_false, Bool.not_true, Bool.not_false, Bool.false_eq_true]
        exact hr
      have lb : listsBy ks = listsBy pre ++ (.inr x.1, .lst (x.2.map fun b => .str b.1)) :: listsBy rest := by rw [e1]; simp [listsBy]
      have nl : ((listsBy ks).map (·.1)).Nodup := by rw [show (listsBy ks).map (·.1) = (kNames ks).map Sum.inr from by unfold listsBy kNames; rw [List.map_map, List.map_map]; rfl]; exact nodup_inr g.nd
      rw [lb] at nl
      have e3 := congrArg List.length e1
      rw [List.length_append, List.length_cons] at e3
      refine ⟨_, _, _, rfl, rfl, rfl, _, rfl, .inr x.1, rfl, small_lt (by unfold listsBy; rw [List.length_map]; omega), ?_⟩
      rw [putD_new (nodup_pref nl)]
      have ep : listsBy pre ++ [((.inr x.1 : Key), D.lst (x.2.map fun b => .str b.1))] = listsBy (pre ++ [x]) := by simp [listsBy]
      rw [ep]
      refine ⟨_, rfl, ?_⟩
      refine forD_ind (fun (m : List D) ρ => ∃ (bp br : List Bough) (v4 v5 : Option Ent), x.2 = bp ++ br ∧ m = br.map boughD ∧ ρ = [some (.dat (kindsD ks)), some (.ownD [(.inr "kinds", .lst (ks.map fun k => .str k.1)), (.inr "boughs", .opq b1), (.inr "fields", .opq b2), (.inr "kind", .opq b3)]), some (.dat (.str x.1)), some (.dat (.tup (x.2.map boughD))), v4, v5, some (.ownQ b1 (listsBy (pre ++ [x]))), some (.ownQ b2 (fieldsBy pre ++ bp.map fun b => (.inr b.1, .tup (b.2.map D.str)))), some (.ownQ b3 (kindsBy pre ++ bp.map fun b => (.inr b.1, .str x.1)))]) (fun ρ ⟨bp, br, v4, v5, f1, f2, e⟩ => ?_) (fun d m ρ R2 ⟨bp, br, v4, v5, f1, f2, e⟩ hR2 => ?_) _ _ ⟨[], x.2, u4, u5, rfl, rfl, by simp⟩
      · subst e
        obtain rfl : br = [] := by simpa using f2.symm
        rw [List.append_nil] at f1
        have ef : (fieldsBy pre ++ bp.map fun b => ((.inr b.1 : Key), D.tup (b.2.map D.str))) = fieldsBy (pre ++ [x]) := by rw [← f1]; simp [fieldsBy]
        have ek : (kindsBy pre ++ bp.map fun b => ((.inr b.1 : Key), D.str x.1)) = kindsBy (pre ++ [x]) := by rw [← f1]; simp [kindsBy]
        rw [ef, ek]
        exact hR _ ⟨pre ++ [x], rest, _, _, _, _, by rw [e1]; simp, rfl, rfl⟩
      · subst e
        cases br with
        | nil => cases f2
        | cons b br =>
          rw [List.map_cons] at f2
          obtain ⟨rfl, rfl⟩ := List.cons.inj f2
          refine ⟨_, rfl, rfl, _, _, rfl, _, _, rfl, rfl, ?_⟩
          simp only [getD_0, getD_s, set_0, set_s, boolD_bl, intD_int, startD, List.map, List.length_cons, List.length_nil, List.replicate, List.cons_append, List.nil_append, defEnds, wipeD, if_true, if_false, Bool.not_true, Bool.not_false, Bool.false_eq_true]
          have lf : fieldsBy ks = (fieldsBy pre ++ bp.map fun b => (.inr b.1, .tup (b.2.map D.str))) ++ (.inr b.1, .tup (b.2.map D.str)) :: ((br.map fun b => (.inr b.1, .tup (b.2.map D.str))) ++ fieldsBy rest) := by rw [e1]; simp [fieldsBy, f1]
          have lk : kindsBy ks = (kindsBy pre ++ bp.map fun b => (.inr b.1, .str x.1)) ++ (.inr b.1, .str x.1) :: ((br.map fun b => (.inr b.1, .str x.1)) ++ kindsBy rest) := by rw [e1]; simp [kindsBy, f1]
          have nf := g.fk
          have nk := g.kk
          rw [lf] at nf gf
          rw [lk] at nk gk
          rw [List.length_append] at gf gk
          refine ⟨_, _, _, rfl, rfl, rfl, .inr b.1, rfl, small_lt (by omega), ?_⟩
          rw [putD_new (nodup_pref nf)]
          refine ⟨_, _, _, rfl, rfl, rfl, .inr b.1, rfl, small_lt (by omega), ?_⟩
          rw [putD_new (nodup_pref nk)]
          have ef : (fieldsBy pre ++ bp.map fun b => ((.inr b.1 : Key), D.tup (b.2.map D.str))) ++ [(.inr b.1, .tup (b.2.map D.str))] = fieldsBy pre ++ (bp ++ [b]).map fun b => (.inr b.1, .tup (b.2.map D.str)) := by simp
          have ek : (kindsBy pre ++ bp.map fun b => ((.inr b.1 : Key), D.str x.1)) ++ [(.inr b.1, .str x.1)] = kindsBy pre ++ (bp ++ [b]).map fun b => (.inr b.1, .str x.1) := by simp
          rw [ef, ek]
          exact hR2 _ ⟨bp ++ [b], br, _, _, by rw [f1]; simp, rfl, rfl⟩
end
end KB

/-! Least sizes, in plain words. -/
namespace KB
open PySem L2 Dk
theorem lookD_put (kvs : List (Key × D)) (k j : Key) (d : D) : lookD (putD kvs k d) j = if j = k then some d else lookD kvs j := by
  have hmap : ∀ l : List (Key × D), (l.any fun kv => decide (kv.1 = k)) = true → lookD (l.map fun kv => if kv.1 = k then (kv.1, d) else kv) j = if j = k then some d else lookD l j := by
    intro l
    induction l with
    | nil => intro h; simp at h
    | cons x l ih =>
      intro h
      by_cases hx : x.1 = k
      · by_cases hj : j = k
        · subst hj
          rw [if_pos rfl]
          simp [lookD, List.find?_cons, hx]
        · rw [if_neg hj]
          have e1 : ¬ x.1 = j := fun e => hj (e.symm.trans hx)
          have e2 : ∀ l : List (Key × D), lookD (l.map fun kv => if kv.1 = k then (kv.1, d) else kv) j = lookD l j := by
            intro l
            induction l with
            | nil => rfl
            | cons y l ih2 =>
              by_cases hy : y.1 = k
              · have e3 : ¬ y.1 = j := fun e => hj (e.symm.trans hy)
                have e4 : ¬ k = j := fun e => hj e.symm
                simp only [lookD, List.map_cons, List.find?_cons, hy, if_true, e4, decide_false] at ih2 ⊢
                exact ih2
              · by_cases hz : y.1 = j
                · simp [lookD, List.find?_cons, hz, hj]
                · simp only [lookD, List.map_cons, List.find?_cons, hy, if_false, hz, decide_false] at ih2 ⊢
                  exact ih2
          exact e2 (x :: l)
      · have h2 : (l.any fun kv => decide (kv.1 = k)) = true := by simpa [hx] using h
        have := ih h2
        by_cases hz : x.1 = j
        · have : ¬ j = k := fun e => hx (hz.trans e)
          rw [if_neg this]
          simp [lookD, List.find?_cons, hz, this]
        · simp only [lookD, List.map_cons, List.find?_cons, hx, if_false, hz, decide_false] at this ⊢
          exact this
  unfold putD
  split
  · rename_i h; exact hmap kvs h
  · rename_i h
    have hn : ∀ kv ∈ kvs, ¬ kv.1 = k := fun kv hk e => h (List.any_eq_true.mpr ⟨kv, hk, by simpa using e⟩)
    by_cases hj : j = k
    · subst hj
      rw [if_pos rfl]
      have e : kvs.find? (fun kv => decide (kv.1 = j)) = none := List.find?_eq_none.mpr fun kv hk => by simpa using hn kv hk
      simp [lookD, List.find?_append, e]
    · rw [if_neg hj]
      have e : ¬ k = j := fun e => hj e.symm
      simp [lookD, List.find?_append, e]
/-- the size told of a kind -/
def zv (kvs : List (Key × D)) (f : Str) : Nat := match lookD kvs (.inr f) with
  | some (.int n) => n.toNat
  | _ => 0
theorem zv_put (kvs : List (Key × D)) (x f : Str) (m : Nat) : zv (putD kvs (.inr x) (.int m)) f = if f = x then m else zv kvs f := by
  unfold zv
  rw [lookD_put]
  by_cases h : f = x
  · subst h; simp
  · have : ¬ (Sum.inr f : Key) = .inr x := fun e => h (Sum.inr.inj e)
    rw [if_neg this, if_neg h]
def okFs (kvs : List (Key × D)) (fs : List Str) : Prop := ∀ f ∈ fs, f = numS ∨ hasN kvs f = true
structure Szs (ks : List Kind) (kvs : List (Key × D)) : Prop where
  val : ∀ f, hasN kvs f = true → f ∈ kNames ks ∧ lookD kvs (.inr f) = some (.int (zv kvs f)) ∧ 1 ≤ zv kvs f
  wit : ∀ k ∈ ks, hasN kvs k.1 = true → ∃ b ∈ k.2, okFs kvs b.2 ∧ 1 + wsum (zv kvs) b.2 ≤ zv kvs k.1
theorem Szs.nil {ks : List Kind} : Szs ks [] := ⟨fun f h => by simp [hasN, lookD] at h, fun k _ h => by simp [hasN, lookD] at h⟩
theorem wsum_le {s t : Str → Nat} {fs : List Str} (h : ∀ f ∈ fs, f = numS ∨ s f ≤ t f) : wsum s fs ≤ wsum t fs := by
  unfold wsum
  induction fs with
  | nil => simp
  | cons f fs ih =>
    have h2 := ih fun g hg => h g (List.mem_cons_of_mem _ hg)
    by_cases hf : f = numS
    · simp only [List.filter_cons, hf, decide_true, Bool.not_true, Bool.false_eq_true, if_false]
      exact h2
    · have h1 := (h f (by simp)).resolve_left hf
      simp only [List.filter_cons, hf, decide_false, Bool.not_false, if_true, List.map_cons, List.sum_cons]
      omega
theorem Good.uniq {ks : List Kind} (g : Good ks) {k k' : Kind} (h : k ∈ ks) (h' : k' ∈ ks) (e : k.1 = k'.1) : k = k' := by
  have nd := g.nd
  unfold kNames at nd
  obtain ⟨i, hi⟩ := List.getElem?_of_mem h
  obtain ⟨j, hj⟩ := List.getElem?_of_mem h'
  have e1 : (ks.map (·.1))[i]? = some k.1 := by rw [List.getElem?_map, hi]; rfl
  have e2 : (ks.map (·.1))[j]? = some k.1 := by rw [List.getElem?_map, hj]; simp [e]
  have := nodup_ix nd e1 e2
  subst this
  rw [hi] at hj
  exact Option.some.inj hj
theorem Good.notNum {ks : List Kind} (g : Good ks) : numS ∉ kNames ks := fun h => by
  obtain ⟨k, hk, e⟩ := List.mem_map.mp h
  exact (nameOk_split (g.kn k hk)).2.2.1 e
theorem okFs_put {kvs : List (Key × D)} {fs : List Str} {x : Str} {d : D} (h : okFs kvs fs) : okFs (putD kvs (.inr x) d) fs := fun f hf => (h f hf).imp id fun e => by rw [hasN_put, e]; rfl
/-- the size of a kind told anew -/
theorem Szs.put {ks : List Kind} {kvs : List (Key × D)} {x : Kind} {m : Nat} (g : Good ks) (z : Szs ks kvs) (hx : x ∈ ks) (hm : ∃ b ∈ x.2, okFs kvs b.2 ∧ m = 1 + wsum (zv kvs) b.2) (hle : ∀ b ∈ x.2, okFs kvs b.2 → m ≤ 1 + wsum (zv kvs) b.2) :
    Szs ks (putD kvs (.inr x.1) (.int m)) ∧ ∀ f, hasN kvs f = true → zv (putD kvs (.inr x.1) (.int m)) f ≤ zv kvs f := by
  have down : ∀ f, hasN kvs f = true → zv (putD kvs (.inr x.1) (.int m)) f ≤ zv kvs f := fun f hf => by
    rw [zv_put]
    split
    · rename_i e
      subst e
      obtain ⟨b, hb, h1, h2⟩ := z.wit x hx hf
      exact Nat.le_trans (hle b hb h1) h2
    · exact Nat.le_refl _
  have dsum : ∀ fs, okFs kvs fs → wsum (zv (putD kvs (.inr x.1) (.int m))) fs ≤ wsum (zv kvs) fs := fun fs h => wsum_le fun f hf => (h f hf).imp id (down f)
  refine ⟨⟨fun f hf => ?_, fun k hk hf => ?_⟩, down⟩
  · rw [zv_put, lookD_put]
    by_cases e : f = x.1
    · subst e
      rw [if_pos rfl, if_pos rfl]
      obtain ⟨b, _, _, e⟩ := hm
      exact ⟨List.mem_map_of_mem hx, rfl, by omega⟩
    · have : ¬ (Sum.inr f : Key) = .inr x.1 := fun h => e (Sum.inr.inj h)
      rw [if_neg this, if_neg e]
      rw [hasN_put] at hf
      exact z.val f (by simpa [e] using hf)
  · by_cases e : k.1 = x.1
    · have := g.uniq hk hx e
      subst this
      obtain ⟨b, hb, h1, h2⟩ := hm
      refine ⟨b, hb, okFs_put h1, ?_⟩
      rw [zv_put, if_pos rfl]
      have := dsum b.2 h1
      omega
    · rw [hasN_put] at hf
      obtain ⟨b, hb, h1, h2⟩ := z.wit k hk (by simpa [e] using hf)
      refine ⟨b, hb, okFs_put h1, ?_⟩
      rw [zv_put, if_neg e]
      have := dsum b.2 h1
      omega
/-- all sizes told -/
structure Sized (ks : List Kind) (kvs : List (Key × D)) : Prop where
  z : Szs ks kvs
  all : ∀ k ∈ ks, hasN kvs k.1 = true ∧ zv kvs k.1 ≤ 29
theorem Sized.look {ks : List Kind} {kvs : List (Key × D)} (z : Sized ks kvs) {f : Str} (h : f ∈ kNames ks) : lookD kvs (.inr f) = some (.int (zv kvs f)) ∧ 1 ≤ zv kvs f ∧ zv kvs f ≤ 29 := by
  obtain ⟨k, hk, rfl⟩ := List.mem_map.mp h
  obtain ⟨h1, h2⟩ := z.all k hk
  exact ⟨(z.z.val _ h1).2.1, (z.z.val _ h1).2.2, h2⟩
end KB

/-! What is asked of the info; lists beside []. -/
namespace KB
open PySem L2 Dk
theorem info_k {ks : List Kind} {Q : D → Prop} (q : Q (.lst (ks.map fun k => .str k.1))) : ixD (infoD ks) (.str "kinds") Q := ⟨.inr "kinds", _, rfl, rfl, q⟩
theorem info_b {ks : List Kind} {Q : D → Prop} (q : Q (.dic (listsBy ks))) : ixD (infoD ks) (.str "boughs") Q := ⟨.inr "boughs", _, rfl, rfl, q⟩
theorem info_f {ks : List Kind} {Q : D → Prop} (q : Q (.dic (fieldsBy ks))) : ixD (infoD ks) (.str "fields") Q := ⟨.inr "fields", _, rfl, rfl, q⟩
theorem info_kd {ks : List Kind} {Q : D → Prop} (q : Q (.dfz (kindsBy ks))) : ixD (infoD ks) (.str "kind") Q := ⟨.inr "kind", _, rfl, rfl, q⟩
theorem Good.lk {ks : List Kind} (g : Good ks) : ((listsBy ks).map (·.1)).Nodup := by
  rw [show (listsBy ks).map (·.1) = (kNames ks).map Sum.inr from by unfold listsBy kNames; rw [List.map_map, List.map_map]; rfl]
  exact nodup_inr g.nd
theorem lists_ix {ks : List Kind} (g : Good ks) {k : Kind} (hk : k ∈ ks) {Q : D → Prop} (q : Q (.lst (k.2.map fun b => .str b.1))) : ixD (.dic (listsBy ks)) (.str k.1) Q :=
  ⟨.inr k.1, _, rfl, lookD_mem g.lk (List.mem_map.mpr ⟨k, hk, rfl⟩), q⟩
theorem fields_ix {ks : List Kind} (g : Good ks) {k : Kind} (hk : k ∈ ks) {b : Bough} (hb : b ∈ k.2) {Q : D → Prop} (q : Q (.tup (b.2.map D.str))) : ixD (.dic (fieldsBy ks)) (.str b.1) Q :=
  ⟨.inr b.1, _, rfl, lookD_mem g.fk (mem_fieldsBy hk hb), q⟩
theorem kind_ix {ks : List Kind} (g : Good ks) {k : Kind} (hk : k ∈ ks) {b : Bough} (hb : b ∈ k.2) {Q : D → Prop} (q : Q (.str k.1)) : ixD (.dfz (kindsBy ks)) (.str b.1) Q :=
  ⟨.inr b.1, _, rfl, lookD_mem g.kk (mem_kindsBy hk hb), q⟩
theorem deq_nil (xs : List D) : deq (.lst xs) (.lst []) = xs.isEmpty := by
  cases xs <;> simp [deq, toPy, toPys, PyData.eqv, PyData.eqvAll]
theorem eqD_lnil {xs : List D} {k : Nat} {Q : D → Prop} (h : ∀ x ∈ xs, OkN k x) (l : k + 1 ≤ 64) (q : Q (.bl xs.isEmpty)) : eqD (.lst xs) (.lst []) Q :=
  ⟨by rw [canEq, (okN_lst h).okE l, (okN_lst (k := 0) (xs := []) (by simp)).okE (by decide)]; simp, by rw [deq_nil]; exact q⟩
theorem neD_lnil {xs : List D} {k : Nat} {Q : D → Prop} (h : ∀ x ∈ xs, OkN k x) (l : k + 1 ≤ 64) (q : Q (.bl (!xs.isEmpty))) : neD (.lst xs) (.lst []) Q :=
  ⟨by rw [canEq, (okN_lst h).okE l, (okN_lst (k := 0) (xs := []) (by simp)).okE (by decide)]; simp, by rw [deq_nil]; exact q⟩
def notNum (f : Str) : Bool := !decide (f = numS)
theorem wsum_def (s : Str → Nat) (fs : List Str) : wsum s fs = ((fs.filter notNum).map s).sum := rfl
theorem fieldsOk_iff {kvs : List (Key × D)} {b : Bough} : fieldsOk kvs b = ((b.2.filter notNum).filter fun f => !hasN kvs f).isEmpty := by
  rw [List.filter_filter, Bool.eq_iff_iff, List.isEmpty_iff, List.filter_eq_nil_iff]
  unfold fieldsOk notNum
  rw [List.all_eq_true]
  refine forall₂_congr fun f _ => ?_
  by_cases h : f = numS <;> simp [h]
theorem okFs_of {kvs : List (Key × D)} {b : Bough} (h : fieldsOk kvs b = true) : okFs kvs b.2 := by
  unfold fieldsOk at h
  rw [List.all_eq_true] at h
  intro f hf
  have := h f hf
  rw [Bool.or_eq_true, decide_eq_true_eq] at this
  exact this
theorem of_okFs {kvs : List (Key × D)} {b : Bough} (h : okFs kvs b.2) : fieldsOk kvs b = true := by
  unfold fieldsOk
  rw [List.all_eq_true]
  intro f hf
  rw [Bool.or_eq_true, decide_eq_true_eq]
  exact h f hf
theorem sum_cast (l : List Nat) : (l.map fun n : Nat => (n : Int)).sum = ((l.sum : Nat) : Int) := by
  induction l with
  | nil => rfl
  | cons a l ih => rw [List.map_cons, List.sum_cons, List.sum_cons, ih]; omega
theorem num_name {ks : List Kind} (g : Good ks) {k : Kind} (hk : k ∈ ks) {b : Bough} (hb : b ∈ k.2) : ∀ f ∈ b.2.filter notNum, f ∈ kNames ks := fun f hf => by
  obtain ⟨h1, h2⟩ := List.mem_filter.mp hf
  refine (g.fl k hk b hb f h1).resolve_left fun e => ?_
  subst e
  simp [notNum] at h2
end KB

namespace KB
open PySem L2 Dk
open PyProof.Rows (envOfC)
abbrev s__law_sizes : Stmt := top 31
theorem sc__law_sizes : FnScope ["_law_info_here", "_law_found", "_law_turn", "_law_kind", "_law_some", "_law_bough", "_law_fields", "_law_field"] ["_law_info_here"] (defScope s__law_sizes) := ⟨rfl, rfl, rfl, by decide +kernel, rfl, by decide +kernel, by decide +kernel⟩
theorem bd__law_sizes (kV doc pm : Value) (an : Option Addr) (cdv ct : Value) (us : List Value) (hl : us.length = 1) : bindArgs (PySem.W.fnOf "_law_sizes" "_law_sizes" (defArgs s__law_sizes) (defBody s__law_sizes) (defScope s__law_sizes) .none kV doc pm an cdv ct) ⟨us, []⟩ = pure ((["_law_info_here"] : List Str).zip us) := by
  match us, hl with
  | [v0], _ => rfl
def spSizes : DSp where
  n := 1
  f := fun ds Q _ => ∃ ks, ds = [infoD ks] ∧ Good ks ∧ ∀ kvs, Sized ks kvs → Q (.dic kvs)
  len := fun ds Q E ⟨m, e, _⟩ => by rw [e]; rfl
  mono := fun ds Q Q' E E' k _ ⟨m, e, h, q⟩ => ⟨m, e, h, fun kvs h => k _ (q kvs h)⟩
section
variable {P : Program} {w : World} {K : PySem.W.Frag} {C a l : Addr} {mg : Str → Option Value} {base : Heap} {W : Wd} {k : Nat} {f : Addr} {fd : FuncData}
theorem ok_sizes (T : TxtB K C mg) (Fn : Fun K "_law_sizes" "_law_sizes" s__law_sizes f fd) : GnOk P w K mg base CX0 (k + 1) f fd ["_law_info_here"] (spD W K spSizes) := by
  refine Fn.okD sc__law_sizes rfl fun cdv A outer s H I ds Q Ed E hr h => ?_
  have hu := hr.units
  have hu2 : (A.deeper (envOfC "_law_sizes" (defScope s__law_sizes) s.heap.objs.size f cdv)).units + 66 < cLine := by have := hr.room.un; omega
  obtain ⟨ks, rfl, g, q⟩ := h
  refine ⟨_, (dss_cons (ds_ownD 1 sc__law_sizes.nd)
  (dss_cons (ds_for PassesOwn.never rfl (di_seq (de_at hu (de_name 0) de_str)) (dg_name 2 sc__law_sizes.nd)
  (dss_one (ds_for PassesOwn.never rfl (di_seq (de_at hu (de_name 0) de_str)) (dg_name 3 sc__law_sizes.nd)
  (dss_cons (ds_own 4 da_nil sc__law_sizes.nd)
  (dss_cons (ds_for PassesOwn.never rfl (di_seq (de_at hu (de_at hu (de_name 0) de_str) (de_name 3))) (dg_name 5 sc__law_sizes.nd)
  (dss_cons (by first | exact (ds_setLc (i := 6) (own := [("_law_field", 7)]) rfl sc__law_sizes.nd rfl rfl (sw_true rfl rfl rfl (by decide +kernel)) (di_seq (de_at hu (de_at hu (de_name 0) de_str) (de_name 5))) (blkOk_by (own := [("_law_field", 7)]) (N := ["_law_info_here", "_law_found", "_law_turn", "_law_kind", "_law_some", "_law_bough", "_law_fields", "_law_field"]) (sc := defScope s__law_sizes) (by decide +kernel)) (fun _ _ _ _ _ => (dg_name 7 sc__law_sizes.nd)) (fun _ _ _ _ _ => (dif_one (dt_c (.ne hu) (de_name 7) de_str))) (fun _ _ _ _ _ => (de_name 7))) | exact (ds_set 6 (de_lc (own := [("_law_field", 7)]) rfl sc__law_sizes.nd (di_seq (de_at hu (de_at hu (de_name 0) de_str) (de_name 5))) (blkOk_by (own := [("_law_field", 7)]) (N := ["_law_info_here", "_law_found", "_law_turn", "_law_kind", "_law_some", "_law_bough", "_law_fields", "_law_field"]) (sc := defScope s__law_sizes) (by decide +kernel)) (fun _ _ _ _ _ => (dg_name 7 sc__law_sizes.nd)) (fun _ _ _ _ _ => (dif_one (dt_c (.ne hu) (de_name 7) de_str))) (fun _ _ _ _ _ => (de_name 7))) sc__law_sizes.nd))
  (dss_one (ds_if (dt_lend 1 (dt_c (.eq hu) (de_lc (own := [("_law_field", 7)]) rfl sc__law_sizes.nd (di_seq (de_name 6)) (blkOk_by (own := [("_law_field", 7)]) (N := ["_law_info_here", "_law_found", "_law_turn", "_law_kind", "_law_some", "_law_bough", "_law_fields", "_law_field"]) (sc := defScope s__law_sizes) (by decide +kernel)) (fun _ _ _ _ _ => (dg_name 7 sc__law_sizes.nd)) (fun _ _ _ _ _ => (dif_one (dt_notin hu2 (de_name 7) (de_name 1)))) (fun _ _ _ _ _ => (de_name 7))) (de_lst da_nil)))
  (dss_one (ds_append 4 (de_lend 1 (de_add de_int (de_sum rfl T.b_sum (da_cons (de_lc (own := [("_law_field", 7)]) rfl sc__law_sizes.nd (di_seq (de_name 6)) (blkOk_by (own := [("_law_field", 7)]) (N := ["_law_info_here", "_law_found", "_law_turn", "_law_kind", "_law_some", "_law_bough", "_law_fields", "_law_field"]) (sc := defScope s__law_sizes) (by decide +kernel)) (fun _ _ _ _ _ => (dg_name 7 sc__law_sizes.nd)) (fun _ _ _ _ _ => dif_nil) (fun _ _ _ _ _ => (de_at hu (de_name 1) (de_name 7)))) da_nil))))))
  dss_nil))))
  (dss_freeze 4
  (dss_one (ds_if (dt_c (.ne hu) (de_name 4) (de_lst da_nil))
  (dss_one (ds_dput 1 hu (de_name 3) (de_minL rfl T.b_min (da_cons (de_name 4) da_nil))))
  dss_nil))))))))
  (dss_freeze 1
  (dss_one (ds_ret (de_name 1)))))), ?_⟩
  simp only [getD_0, getD_s, set_0, set_s, boolD_bl, intD_int, startD, List.map, List.length_cons, List.length_nil, List.replicate, List.cons_append, List.nil_append, defEnds, wipeD, if_true, if_false, Bool.not_true, Bool.not_false, Bool.false_eq_true]
  obtain ⟨r, sz, hw⟩ := g.wf
  have gs1 := g.s1
  refine info_k ?_
  simp only [itemsD]
  refine forD_ind (fun (l : List D) ρ => ∃ (kvs : List (Key × D)) (u2 u3 u4 u5 u6 u7 : Option Ent), ρ = [some (.dat (infoD ks)), some (.ownD kvs), u2, u3, u4, u5, u6, u7] ∧ l.length ≤ ks.length ∧ kvs.length + 8 * l.length ≤ 100 ∧ Szs ks kvs ∧ ∀ k ∈ ks, r k.1 < ks.length - l.length → hasN kvs k.1 = true ∧ zv kvs k.1 ≤ sz k.1) (fun ρ ⟨kvs, u2, u3, u4, u5, u6, u7, e, _, _, hz, h⟩ => ?_) (fun d l ρ R ⟨kvs, u2, u3, u4, u5, u6, u7, e, hl, hb, hz, h⟩ hR => ?_) _ _ ⟨[], none, none, none, none, none, none, rfl, by simp, by simp; omega, .nil, fun k _ h => by simp at h⟩
  · subst e
    refine ⟨_, rfl, trivial, ?_⟩
    simp only [getD_0, getD_s, set_0, set_s, boolD_bl, intD_int, startD, List.map, List.length_cons, List.length_nil, List.replicate, List.cons_append, List.nil_append, defEnds, wipeD, if_true, if_false, Bool.not_true, Bool.not_false, Bool.false_eq_true]
    exact q kvs ⟨hz, fun k hk => have h1 := h k hk (by have := (hw k hk).1; simpa using this); ⟨h1.1, Nat.le_trans h1.2 (hw k hk).2.1⟩⟩
  · subst e
    simp only [List.length_cons] at hl hb h
    refine ⟨_, rfl, info_k ?_⟩
    simp only [itemsD]
    refine forD_ind (fun (m : List D) ρ => ∃ (rest : List Kind) (kvs : List (Key × D)) (u2 u3 u4 u5 u6 u7 : Option Ent), m = rest.map (fun k => .str k.1) ∧ ρ = [some (.dat (infoD ks)), some (.ownD kvs), u2, u3, u4, u5, u6, u7] ∧ (∀ k ∈ rest, k ∈ ks) ∧ kvs.length + rest.length + 8 * l.length ≤ 100 ∧ Szs ks kvs ∧ ∀ k ∈ ks, (r k.1 < ks.length - (l.length + 1) ∨ (k ∉ rest ∧ r k.1 < ks.length - l.length)) → hasN kvs k.1 = true ∧ zv kvs k.1 ≤ sz k.1) (fun ρ ⟨rest, kvs, u2, u3, u4, u5, u6, u7, em, e, _, hb, hz, h⟩ => ?_) (fun d m ρ R2 ⟨rest, kvs, u2, u3, u4, u5, u6, u7, em, e, hk, hb, hz, h⟩ hR2 => ?_) _ _ ⟨ks, kvs, _, u3, u4, u5, u6, u7, rfl, rfl, fun _ h => h, by omega, hz, fun k hk h' => h'.elim (h k hk) fun ⟨h1, _⟩ => absurd hk h1⟩
    · subst e
      have : rest = [] := by simpa using em.symm
      subst this
      exact hR _ ⟨kvs, u2, u3, u4, u5, u6, u7, rfl, by omega, by simpa using hb, hz, fun k hk hr => h k hk (.inr ⟨by simp, hr⟩)⟩
    · subst e
      cases rest with
      | nil => cases em
      | cons x rest =>
        rw [List.map_cons] at em
        obtain ⟨rfl, rfl⟩ := List.cons.inj em
        have hx := hk x (by simp)
        have hx8 := g.s2 x hx
        refine ⟨Nat.zero_le _, _, rfl, info_b ⟨_, rfl, lists_ix g hx ?_⟩⟩
        simp only [itemsD]
        refine forD_ind (fun (m2 : List D) ρ => ∃ (pre br : List Bough) (v5 v6 v7 : Option Ent), x.2 = pre ++ br ∧ m2 = br.map (fun b => .str b.1) ∧ ρ = [some (.dat (infoD ks)), some (.ownD kvs), u2, some (.dat (.str x.1)), some (.own ((pre.filter (fieldsOk kvs)).map fun b => .int ((1 + wsum (zv kvs) b.2 : Nat) : Int))), v5, v6, v7]) (fun ρ ⟨pre, br, v5, v6, v7, e1, e2, e⟩ => ?_) (fun d m2 ρ R3 ⟨pre, br, v5, v6, v7, e1, e2, e⟩ hR3 => ?_) _ _ ⟨[], x.2, u5, u6, u7, rfl, rfl, rfl⟩
        · subst e
          obtain rfl : br = [] := by simpa using e2.symm
          rw [List.append_nil] at e1
          subst e1
          have many : ∀ kvs', (∀ f, hasN kvs f = true → hasN kvs' f = true ∧ zv kvs' f ≤ zv kvs f) → (r x.1 < ks.length - l.length → hasN kvs' x.1 = true ∧ zv kvs' x.1 ≤ sz x.1) → ∀ k ∈ ks, (r k.1 < ks.length - (l.length + 1) ∨ (k ∉ rest ∧ r k.1 < ks.length - l.length)) → hasN kvs' k.1 = true ∧ zv kvs' k.1 ≤ sz k.1 := by
            intro kvs' mono hx' k hk hor
            rcases hor with h1 | ⟨h1, h2⟩
            · have := h k hk (.inl h1)
              exact ⟨(mono _ this.1).1, Nat.le_trans (mono _ this.1).2 this.2⟩
            · by_cases hkx : k = x
              · subst hkx; exact hx' h2
              · have := h k hk (.inr ⟨by simp [hkx, h1], h2⟩)
                exact ⟨(mono _ this.1).1, Nat.le_trans (mono _ this.1).2 this.2⟩
          have low : r x.1 < ks.length - l.length → ∃ b ∈ x.2, fieldsOk kvs b = true ∧ 1 + wsum (zv kvs) b.2 ≤ sz x.1 := fun hlt => by
            obtain ⟨_, _, b, hb1, hb2, hb3⟩ := hw x hx
            have hok : okFs kvs b.2 := fun f hf => (hb2 f hf).imp id fun ⟨h1, h2⟩ => by
              obtain ⟨k', hk', rfl⟩ := List.mem_map.mp h1
              exact (h k' hk' (.inl (by omega))).1
            refine ⟨b, hb1, of_okFs hok, Nat.le_trans (Nat.add_le_add_left (wsum_le fun f hf => (hb2 f hf).imp id fun ⟨h1, h2⟩ => ?_) 1) hb3⟩
            obtain ⟨k', hk', rfl⟩ := List.mem_map.mp h1
            exact (h k' hk' (.inl (by omega))).2
          refine ⟨_, rfl, trivial, _, rfl, Nat.zero_le _, neD_lnil (k := 0) (fun z hz => ?_) (by decide) ?_⟩
          · obtain ⟨b, _, rfl⟩ := List.mem_map.mp hz
            exact okN_int _
          simp only [getD_0, getD_s, set_0, set_s, boolD_bl, intD_int, startD, List.map, List.length_cons, List.length_nil, List.replicate, List.cons_append, List.nil_append, defEnds, wipeD, if_true, if_false, Bool.not_true, Bool.not_false, Bool.false_eq_true]
          by_cases hc : (x.2.filter (fieldsOk kvs)) = []
          · rw [hc]
            simp only [List.map_nil, List.isEmpty_nil, Bool.not_true, Bool.false_eq_true, if_false]
            refine hR2 _ ⟨rest, kvs, _, _, _, _, _, _, rfl, rfl, fun k hk' => hk k (List.mem_cons_of_mem _ hk'), by simp only [List.length_cons] at hb; omega, hz, many kvs (fun f hf => ⟨hf, Nat.le_refl _⟩) fun hlt => ?_⟩
            obtain ⟨b, hb1, hb2, _⟩ := low hlt
            have := List.mem_filter.mpr ⟨hb1, hb2⟩
            rw [hc] at this
            cases this
          · have hc' : ((x.2.filter (fieldsOk kvs)).map fun b => D.int ((1 + wsum (zv kvs) b.2 : Nat) : Int)).isEmpty = false := by
              rw [List.isEmpty_eq_false_iff]
              simpa using hc
            rw [hc']
            simp only [Bool.not_false, if_true]
            refine ⟨(x.2.filter (fieldsOk kvs)).map (fun b => ((1 + wsum (zv kvs) b.2 : Nat) : Int)), by rw [List.map_map]; rfl, by simpa using hc, fun m hm1 hm2 => ?_⟩
            obtain ⟨b0, hb0, rfl⟩ := List.mem_map.mp hm1
            obtain ⟨hb1, hb2⟩ := List.mem_filter.mp hb0
            have hle : ∀ b ∈ x.2, okFs kvs b.2 → 1 + wsum (zv kvs) b0.2 ≤ 1 + wsum (zv kvs) b.2 := fun b hbm hbo => by
              have := hm2 _ (List.mem_map.mpr ⟨b, List.mem_filter.mpr ⟨hbm, of_okFs hbo⟩, rfl⟩)
              omega
            obtain ⟨hz', down⟩ := hz.put g hx ⟨b0, hb1, okFs_of hb2, rfl⟩ hle
            refine ⟨_, rfl, .inr x.1, rfl, small_lt (by omega), ?_⟩
            have lp := len_put (kvs := kvs) (k := .inr x.1) (d := .int ((1 + wsum (zv kvs) b0.2 : Nat) : Int))
            refine hR2 _ ⟨rest, _, _, _, _, _, _, _, rfl, rfl, fun k hk' => hk k (List.mem_cons_of_mem _ hk'), by simp only [List.length_cons] at hb; omega, hz', many _ (fun f hf => ⟨by rw [hasN_put, hf]; rfl, down f hf⟩) fun hlt => ⟨by rw [hasN_put]; simp, ?_⟩⟩
            obtain ⟨b, hb3, hb4, hb5⟩ := low hlt
            rw [zv_put, if_pos rfl]
            exact Nat.le_trans (hle b hb3 (okFs_of hb4)) hb5
        · subst e
          cases br with
          | nil => cases e2
          | cons b br =>
            rw [List.map_cons] at e2
            obtain ⟨rfl, rfl⟩ := List.cons.inj e2
            have hbm : b ∈ x.2 := by rw [e1]; simp
            have hb8 := g.s3 x hx b hbm
            refine ⟨_, rfl, info_f ⟨_, rfl, fields_ix g hx hbm ?_⟩⟩
            simp only [itemsD]
            refine ⟨small_len (by rw [List.length_map]; omega), lcD_map D.str D.str notNum (fun f hf R S h1 h2 => ?_) ?_⟩
            · refine ⟨_, rfl, ?_⟩
              show neD (.str f) (.str numS) _
              rw [neD_str]
              simp only [getD_0, getD_s, set_0, set_s, boolD_bl, intD_int, startD, List.map, List.length_cons, List.length_nil, List.replicate, List.cons_append, List.nil_append, defEnds, wipeD, if_true, if_false, Bool.not_true, Bool.not_false, Bool.false_eq_true]
              unfold notNum at h1 h2
              by_cases hn : f = numS
              · rw [if_neg (by simpa using hn)]
                exact h2 (by simp [hn])
              · rw [if_pos (by simpa using hn)]
                exact h1 (by simp [hn])
            have nf : ∀ f ∈ b.2.filter notNum, OkN 0 (.str f) := fun f hf => g.field hx hbm (List.mem_filter.mp hf).1
            have fl8 : (b.2.filter notNum).length ≤ 8 := Nat.le_trans (List.length_filter_le _ _) hb8
            refine ⟨_, rfl, trivial, ?_⟩
            simp only [getD_0, getD_s, set_0, set_s, boolD_bl, intD_int, startD, List.map, List.length_cons, List.length_nil, List.replicate, List.cons_append, List.nil_append, defEnds, wipeD, if_true, if_false, Bool.not_true, Bool.not_false, Bool.false_eq_true]
            simp only [Ent.toD]
            refine ⟨small_len (by rw [List.length_map]; omega), lcD_map D.str D.str (fun f => !hasN kvs f) (fun f hf R S h1 h2 => ?_) ?_⟩
            · refine ⟨_, rfl, _, rfl, .inr f, rfl, ?_⟩
              simp only [Dk.flip, boolD_bl, if_true]
              show if (!hasN kvs f) = true then _ else _
              by_cases hn : (!hasN kvs f) = true
              · rw [if_pos hn]; exact ⟨_, rfl, h1 hn⟩
              · rw [if_neg hn]; exact h2 (by simpa using hn)
            refine ⟨Nat.zero_le _, eqD_lnil (k := 0) (fun z hz => ?_) (by decide) ?_⟩
            · obtain ⟨f, hf, rfl⟩ := List.mem_map.mp hz
              exact nf f (List.mem_filter.mp hf).1
            have ei : (((b.2.filter notNum).filter fun f => !hasN kvs f).map D.str).isEmpty = fieldsOk kvs b := by rw [fieldsOk_iff, List.isEmpty_map]
            rw [ei]
            simp only [boolD_bl]
            by_cases ho : fieldsOk kvs b = true
            · rw [if_pos ho]
              have hok := okFs_of ho
              have lp : pre.length ≤ 8 := by have := congrArg List.length e1; rw [List.length_append] at this; omega
              refine ⟨_, rfl, _, rfl, trivial, small_len (by rw [List.length_map]; omega), lcD_all D.str (fun f => .int (zv kvs f : Nat)) (fun f hf R S hr => ?_) ?_⟩
              · refine ⟨_, rfl, _, rfl, .inr f, _, rfl, ?_, hr⟩
                obtain ⟨h1, h2⟩ := List.mem_filter.mp hf
                have := (hok f h1).resolve_left (by simpa [notNum] using h2)
                exact (hz.val f this).2.1
              refine ⟨(b.2.filter notNum).map fun f => ((zv kvs f : Nat) : Int), by rw [List.map_map]; rfl, ?_⟩
              have es : (1 : Int) + ((b.2.filter notNum).map fun f => ((zv kvs f : Nat) : Int)).sum = ((1 + wsum (zv kvs) b.2 : Nat) : Int) := by
                rw [wsum_def, show ((b.2.filter notNum).map fun f => ((zv kvs f : Nat) : Int)) = ((b.2.filter notNum).map (zv kvs)).map (fun n : Nat => (n : Int)) from by rw [List.map_map]; rfl, sum_cast]
                omega
              show scalD (D.int (1 + _)) = true ∧ _
              rw [es]
              refine ⟨rfl, small_lt (by rw [List.length_map]; exact Nat.le_trans (List.length_filter_le _ _) (by omega)), ?_⟩
              have ef : ((pre.filter (fieldsOk kvs)).map fun b => D.int ((1 + wsum (zv kvs) b.2 : Nat) : Int)) ++ [.int ((1 + wsum (zv kvs) b.2 : Nat) : Int)] = ((pre ++ [b]).filter (fieldsOk kvs)).map fun b => D.int ((1 + wsum (zv kvs) b.2 : Nat) : Int) := by
                rw [List.filter_append, List.map_append, List.filter_cons_of_pos ho]
                rfl
              rw [ef]
              exact hR3 _ ⟨pre ++ [b], br, _, _, _, by rw [e1]; simp, rfl, rfl⟩
            · rw [if_neg ho]
              have ef : (pre.filter (fieldsOk kvs)) = (pre ++ [b]).filter (fieldsOk kvs) := by
                rw [List.filter_append, List.filter_cons_of_neg ho]
                simp
              rw [ef]
              exact hR3 _ ⟨pre ++ [b], br, _, _, _, by rw [e1]; simp, rfl, rfl⟩
end
end KB

/-! Worths, in plain words. -/
namespace KB
open PySem L2 Dk
mutual
/-- d is a worth of the kind f, of at most n rows one in another, its numbers at most cap -/
inductive WD (ks : List Kind) (cap : Int) : Nat → Str → D → Prop
  | num (n : Nat) (i : Int) : 0 ≤ i → i ≤ cap → WD ks cap n numS (.int i)
  | node (n : Nat) (k : Kind) (b : Bough) (ds : List D) : k ∈ ks → b ∈ k.2 → WDs ks cap n b.2 ds → WD ks cap (n + 1) k.1 (.tup (.str b.1 :: ds))
inductive WDs (ks : List Kind) (cap : Int) : Nat → List Str → List D → Prop
  | nil (n : Nat) : WDs ks cap n [] []
  | cons (n : Nat) (f : Str) (fs : List Str) (d : D) (ds : List D) : WD ks cap n f d → WDs ks cap n fs ds → WDs ks cap n (f :: fs) (d :: ds)
end
theorem WDs.snoc {ks : List Kind} {cap : Int} {n : Nat} {fs : List Str} {ds : List D} {f : Str} {d : D} (h : WDs ks cap n fs ds) (hd : WD ks cap n f d) : WDs ks cap n (fs ++ [f]) (ds ++ [d]) := by
  induction fs generalizing ds with
  | nil => cases h; exact .cons _ _ _ _ _ hd (.nil _)
  | cons g fs ih => cases h with | cons _ _ _ e es h1 h2 => exact .cons _ _ _ _ _ h1 (ih h2)
theorem WDs.len {ks : List Kind} {cap : Int} {n : Nat} {fs : List Str} {ds : List D} (h : WDs ks cap n fs ds) : ds.length = fs.length := by
  induction fs generalizing ds with
  | nil => cases h; rfl
  | cons g fs ih => cases h with | cons _ _ _ e es h1 h2 => simp [ih h2]
theorem WDs.all {ks : List Kind} {cap : Int} {n : Nat} {fs : List Str} {ds : List D} (h : WDs ks cap n fs ds) : ∀ d ∈ ds, ∃ f, WD ks cap n f d := by
  induction fs generalizing ds with
  | nil => cases h; intro d hd; cases hd
  | cons g fs ih =>
    cases h with
    | cons _ _ _ e es h1 h2 =>
      intro d hd
      rcases List.mem_cons.mp hd with rfl | hd
      · exact ⟨g, h1⟩
      · exact ih h2 d hd
mutual
theorem WD.cap {ks : List Kind} {c c' : Int} (l : c ≤ c') : ∀ {n : Nat} {f : Str} {d : D}, WD ks c n f d → WD ks c' n f d
  | _, _, _, .num n i h1 h2 => .num n i h1 (Int.le_trans h2 l)
  | _, _, _, .node n k b ds hk hb h => .node n k b ds hk hb (WDs.cap l h)
theorem WDs.cap {ks : List Kind} {c c' : Int} (l : c ≤ c') : ∀ {n : Nat} {f : List Str} {d : List D}, WDs ks c n f d → WDs ks c' n f d
  | _, _, _, .nil n => .nil n
  | _, _, _, .cons n f fs d ds h1 h2 => .cons n f fs d ds (WD.cap l h1) (WDs.cap l h2)
end
mutual
/-- its size -/
def szD : D → Int
  | .int i => i
  | .tup ds => 1 + szDs ds
  | .str _ => 0
  | .non => 0
  | .bl _ => 0
  | .lst _ => 0
  | .dic _ => 0
  | .dfz _ => 0
  | .obj _ _ => 0
  | .opq _ => 0
def szDs : List D → Int
  | [] => 0
  | d :: ds => szD d + szDs ds
end
/-- what a row's head weighs nothing -/
theorem szDs_sum (ds : List D) : szDs ds = (ds.map szD).sum := by
  induction ds with
  | nil => simp [szDs]
  | cons d ds ih => simp [szDs, ih]
theorem szD_row (x : Str) (ds : List D) : szD (.tup (.str x :: ds)) = 1 + (ds.map szD).sum := by
  rw [szD, szDs, szDs_sum, szD]
  omega
theorem le_wsum {s : Str → Nat} {fs : List Str} {f : Str} (hf : f ∈ fs.filter notNum) : s f ≤ wsum s fs := by
  rw [wsum_def]
  generalize fs.filter notNum = l at hf
  induction l with
  | nil => cases hf
  | cons a l ih =>
    rw [List.map_cons, List.sum_cons]
    rcases List.mem_cons.mp hf with rfl | h
    · omega
    · have := ih h
      omega
end KB
namespace KB
open PySem L2 Dk
theorem WD.inv {ks : List Kind} {c : Int} {n : Nat} {f : Str} {d : D} (h : WD ks c n f d) : (f = numS ∧ ∃ i, d = .int i ∧ 0 ≤ i ∧ i ≤ c) ∨ ∃ m k b ds, n = m + 1 ∧ f = k.1 ∧ k ∈ ks ∧ b ∈ k.2 ∧ d = .tup (.str b.1 :: ds) ∧ WDs ks c m b.2 ds := by
  cases h with
  | num n i h1 h2 => exact .inl ⟨rfl, i, rfl, h1, h2⟩
  | node n k b ds hk hb h => exact .inr ⟨n, k, b, ds, rfl, rfl, hk, hb, rfl, h⟩
end KB

namespace KB
open PySem L2 Dk
open PyProof.Rows (envOfC)
abbrev s__law_bough_size : Stmt := top 32
theorem sc__law_bough_size : FnScope ["_law_info_here", "_law_sizes_here", "_law_bough", "_law_field"] ["_law_info_here", "_law_sizes_here", "_law_bough"] (defScope s__law_bough_size) := ⟨rfl, rfl, rfl, by decide +kernel, rfl, by decide +kernel, by decide +kernel⟩
theorem bd__law_bough_size (kV doc pm : Value) (an : Option Addr) (cdv ct : Value) (us : List Value) (hl : us.length = 3) : bindArgs (PySem.W.fnOf "_law_bough_size" "_law_bough_size" (defArgs s__law_bough_size) (defBody s__law_bough_size) (defScope s__law_bough_size) .none kV doc pm an cdv ct) ⟨us, []⟩ = pure ((["_law_info_here", "_law_sizes_here", "_law_bough"] : List Str).zip us) := by
  match us, hl with
  | [v0, v1, v2], _ => rfl
abbrev s__law_worth : Stmt := top 33
theorem sc__law_worth : FnScope ["_law_deck_here", "_law_info_here", "_law_sizes_here", "_law_kind", "_law_most", "_law_some", "_law_bough", "_law_left", "_law_parts", "_law_field", "_law_more"] ["_law_deck_here", "_law_info_here", "_law_sizes_here", "_law_kind", "_law_most"] (defScope s__law_worth) := ⟨rfl, rfl, rfl, by decide +kernel, rfl, by decide +kernel, by decide +kernel⟩
theorem bd__law_worth (kV doc pm : Value) (an : Option Addr) (cdv ct : Value) (us : List Value) (hl : us.length = 5) : bindArgs (PySem.W.fnOf "_law_worth" "_law_worth" (defArgs s__law_worth) (defBody s__law_worth) (defScope s__law_worth) .none kV doc pm an cdv ct) ⟨us, []⟩ = pure ((["_law_deck_here", "_law_info_here", "_law_sizes_here", "_law_kind", "_law_most"] : List Str).zip us) := by
  match us, hl with
  | [v0, v1, v2, v3, v4], _ => rfl
def spBsize : DSp where
  n := 3
  f := fun ds Q _ => ∃ ks kvs k b, ds = [infoD ks, .dic kvs, .str b.1] ∧ Good ks ∧ Sized ks kvs ∧ k ∈ ks ∧ b ∈ k.2 ∧ Q (.int ((1 + wsum (zv kvs) b.2 : Nat) : Int))
  len := fun ds Q E ⟨_, _, _, _, e, _⟩ => by rw [e]; rfl
  mono := fun ds Q Q' E E' k _ ⟨m, kvs, x, b, e, h1, h2, h3, h4, q⟩ => ⟨m, kvs, x, b, e, h1, h2, h3, h4, k _ q⟩
def spWorth (a : Addr) (n : Nat) : DSp where
  n := 5
  f := fun ds Q _ => ∃ ks kvs k, ∃ most : Nat, ds = [.opq a, infoD ks, .dic kvs, .str k.1, .int most] ∧ Good ks ∧ Sized ks kvs ∧ k ∈ ks ∧ most ≤ 1000 ∧ most + 1 ≤ n ∧ zv kvs k.1 + 1 ≤ n ∧ ∀ d, WD ks 1000 n k.1 d → Q d
  len := fun ds Q E ⟨_, _, _, _, e, _⟩ => by rw [e]; rfl
  mono := fun ds Q Q' E E' k _ ⟨m, kvs, x, b, e, h1, h2, h3, h4, h5, h6, q⟩ => ⟨m, kvs, x, b, e, h1, h2, h3, h4, h5, h6, fun d h => k _ (q d h)⟩
section
variable {P : Program} {w : World} {K : PySem.W.Frag} {C a l : Addr} {mg : Str → Option Value} {base : Heap} {W : Wd} {k : Nat} {f : Addr} {fd : FuncData}
theorem ok_bsize (T : TxtB K C mg) (Fn : Fun K "_law_bough_size" "_law_bough_size" s__law_bough_size f fd) : GnOk P w K mg base CX0 (k + 1) f fd ["_law_info_here", "_law_sizes_here", "_law_bough"] (spD W K spBsize) := by
  refine Fn.okD sc__law_bough_size rfl fun cdv A outer s H I ds Q Ed E hr h => ?_
  have hu := hr.units
  obtain ⟨ks, kvs, x, b, rfl, g, z, hx, hb, q⟩ := h
  refine ⟨_, (dss_one (ds_ret (de_add de_int (de_sum rfl T.b_sum (da_cons (de_lc (own := [("_law_field", 3)]) rfl sc__law_bough_size.nd (di_seq (de_at hu (de_at hu (de_name 0) de_str) (de_name 2))) (blkOk_by (own := [("_law_field", 3)]) (N := ["_law_info_here", "_law_sizes_here", "_law_bough", "_law_field"]) (sc := defScope s__law_bough_size) (by decide +kernel)) (fun _ _ _ _ _ => (dg_name 3 sc__law_bough_size.nd)) (fun _ _ _ _ _ => (dif_one (dt_c (.ne hu) (de_name 3) de_str))) (fun _ _ _ _ _ => (de_at hu (de_name 1) (de_name 3)))) da_nil))))), ?_⟩
  simp only [getD_0, getD_s, set_0, set_s, boolD_bl, intD_int, startD, List.map, List.length_cons, List.length_nil, List.replicate, List.cons_append, List.nil_append, defEnds, wipeD, if_true, if_false, Bool.not_true, Bool.not_false, Bool.false_eq_true]
  refine info_f (fields_ix g hx hb ?_)
  simp only [itemsD]
  have hb8 := g.s3 x hx b hb
  refine ⟨small_len (by rw [List.length_map]; omega), lcD_map D.str (fun f => .int (zv kvs f : Nat)) notNum (fun f hf R S h1 h2 => ?_) ?_⟩
  · refine ⟨_, rfl, ?_⟩
    show neD (.str f) (.str numS) _
    rw [neD_str]
    simp only [getD_0, getD_s, set_0, set_s, boolD_bl, intD_int, startD, List.map, List.length_cons, List.length_nil, List.replicate, List.cons_append, List.nil_append, defEnds, wipeD, if_true, if_false, Bool.not_true, Bool.not_false, Bool.false_eq_true]
    unfold notNum at h1 h2
    by_cases hn : f = numS
    · rw [if_neg (by simpa using hn)]
      exact h2 (by simp [hn])
    · rw [if_pos (by simpa using hn)]
      refine ⟨.inr f, _, rfl, (z.look (num_name g hx hb f ?_)).1, h1 (by simp [hn])⟩
      exact List.mem_filter.mpr ⟨hf, by simp [notNum, hn]⟩
  refine ⟨(b.2.filter notNum).map fun f => ((zv kvs f : Nat) : Int), by rw [List.map_map]; rfl, ?_⟩
  have es : (1 : Int) + ((b.2.filter notNum).map fun f => ((zv kvs f : Nat) : Int)).sum = ((1 + wsum (zv kvs) b.2 : Nat) : Int) := by
    rw [wsum_def, show ((b.2.filter notNum).map fun f => ((zv kvs f : Nat) : Int)) = ((b.2.filter notNum).map (zv kvs)).map (fun n : Nat => (n : Int)) from by rw [List.map_map]; rfl, sum_cast]
    omega
  show Q (.int (1 + _))
  rw [es]
  exact q
theorem ok_worth (T : TxtB K C mg) (Fn : Fun K "_law_worth" "_law_worth" s__law_worth f fd) (mW : mg "_law_worth" = some (.ref f)) (C__law_draw : Cal P w K mg base CX0 (DeckW a l) k "_law_draw" ["_law_deck_here", "_law_most"] (spDraw a))
    (C__law_pick : Cal P w K mg base CX0 (DeckW a l) k "_law_pick" ["_law_deck_here", "_law_some"] (spPick a)) (C__law_bough_size : Cal P w K mg base CX0 (DeckW a l) k "_law_bough_size" ["_law_info_here", "_law_sizes_here", "_law_bough"] spBsize) :
    ∀ n, GnOk P w K mg base CX0 (k + n + 1) f fd ["_law_deck_here", "_law_info_here", "_law_sizes_here", "_law_kind", "_law_most"] (spD (DeckW a l) K (spWorth a n)) := by
  intro n
  induction n with
  | zero => exact Fn.okD sc__law_worth rfl fun cdv A outer s H I ds Q Ed E hr ⟨_, _, _, _, _, _, _, _, _, h, _⟩ => by omega
  | succ n ih =>
    have C__law_worth := Cal.of Fn ih mW bd__law_worth
    refine Fn.okD sc__law_worth rfl fun cdv A outer s H I ds Q Ed E hr h => ?_
    have hu := hr.units
    obtain ⟨ks, kvs, x, most, rfl, g, z, hx, hm, hn1, hn2, q⟩ := h
    refine ⟨_, (dss_cons (by first | exact (ds_setLc (i := 5) (own := [("_law_bough", 6)]) rfl sc__law_worth.nd rfl rfl (sw_true rfl rfl rfl (by decide +kernel)) (di_seq (de_at hu (de_at hu (de_name 1) de_str) (de_name 3))) (blkOk_by (own := [("_law_bough", 6)]) (N := ["_law_deck_here", "_law_info_here", "_law_sizes_here", "_law_kind", "_law_most", "_law_some", "_law_bough", "_law_left", "_law_parts", "_law_field", "_law_more"]) (sc := defScope s__law_worth) (by decide +kernel)) (fun _ _ _ _ _ => (dg_name 6 sc__law_worth.nd)) (fun _ _ _ _ _ => (dif_one (dt_c .le (de_fn C__law_bough_size (hr.mono (by omega)) pass0 lets0 (da_cons (de_name 1) (da_cons (de_name 2) (da_cons (de_name 6) da_nil)))) (de_max2 rfl T.b_max (da_cons (de_name 4) (da_cons (de_at hu (de_name 2) (de_name 3)) da_nil)))))) (fun _ _ _ _ _ => (de_name 6))) | exact (ds_set 5 (de_lc (own := [("_law_bough", 6)]) rfl sc__law_worth.nd (di_seq (de_at hu (de_at hu (de_name 1) de_str) (de_name 3))) (blkOk_by (own := [("_law_bough", 6)]) (N := ["_law_deck_here", "_law_info_here", "_law_sizes_here", "_law_kind", "_law_most", "_law_some", "_law_bough", "_law_left", "_law_parts", "_law_field", "_law_more"]) (sc := defScope s__law_worth) (by decide +kernel)) (fun _ _ _ _ _ => (dg_name 6 sc__law_worth.nd)) (fun _ _ _ _ _ => (dif_one (dt_c .le (de_fn C__law_bough_size (hr.mono (by omega)) pass0 lets0 (da_cons (de_name 1) (da_cons (de_name 2) (da_cons (de_name 6) da_nil)))) (de_max2 rfl T.b_max (da_cons (de_name 4) (da_cons (de_at hu (de_name 2) (de_name 3)) da_nil)))))) (fun _ _ _ _ _ => (de_name 6))) sc__law_worth.nd))
  (dss_cons (ds_set 6 (de_fn C__law_pick (hr.mono (by omega)) pass0 lets0 (da_cons (de_name 0) (da_cons (de_name 5) da_nil))) sc__law_worth.nd)
  (dss_cons (ds_set 7 (de_max2 rfl T.b_max (da_cons de_int (da_cons (de_sub (de_name 4) (de_fn C__law_bough_size (hr.mono (by omega)) pass0 lets0 (da_cons (de_name 1) (da_cons (de_name 2) (da_cons (de_name 6) da_nil))))) da_nil))) sc__law_worth.nd)
  (dss_cons (ds_own 8 da_nil sc__law_worth.nd)
  (dss_cons (ds_for PassesOwn.never rfl (di_seq (de_at hu (de_at hu (de_name 1) de_str) (de_name 6))) (dg_name 9 sc__law_worth.nd)
  (dss_cons (ds_set 10 (de_fn C__law_draw (hr.mono (by omega)) pass0 lets0 (da_cons (de_name 0) (da_cons (de_add (de_name 7) de_int) da_nil))) sc__law_worth.nd)
  (dss_cons (ds_set 7 (de_sub (de_name 7) (de_name 10)) sc__law_worth.nd)
  (dss_one (ds_if (dt_c (.eq hu) (de_name 9) de_str)
  (dss_one (ds_append 8 (de_name 10)))
  (dss_one (ds_append 8 (de_fn C__law_worth (hr.mono (by omega)) pass0 lets0 (da_cons (de_name 0) (da_cons (de_name 1) (da_cons (de_name 2) (da_cons (de_name 9) (da_cons (de_add (de_at hu (de_name 2) (de_name 9)) (de_name 10)) da_nil)))))))))))))
  (dss_freeze 8
  (dss_one (ds_ret (de_add (de_tup (da_cons (de_name 6) da_nil)) (de_tuple T.b_tuple (da_cons (de_name 8) da_nil))))))))))), ?_⟩
    simp only [getD_0, getD_s, set_0, set_s, boolD_bl, intD_int, startD, List.map, List.length_cons, List.length_nil, List.replicate, List.cons_append, List.nil_append, defEnds, wipeD, if_true, if_false, Bool.not_true, Bool.not_false, Bool.false_eq_true]
    have hx8 := g.s2 x hx
    refine info_b (lists_ix g hx ?_)
    simp only [itemsD]
    refine ⟨small_len (by rw [List.length_map]; omega), lcD_map (fun b : Bough => .str b.1) (fun b => .str b.1) (fun b => decide (1 + wsum (zv kvs) b.2 ≤ max most (zv kvs x.1))) (fun b hb R S h1 h2 => ?_) ?_⟩
    · refine ⟨_, rfl, _, rfl, _, rfl, ks, kvs, x, b, rfl, g, z, hx, hb, _, rfl, _, rfl, _, rfl, .inr x.1, _, rfl, (z.look (List.mem_map_of_mem hx)).1, ?_⟩
      show boolD (.bl (decide (((1 + wsum (zv kvs) b.2 : Nat) : Int) ≤ (if ((zv kvs x.1 : Nat) : Int) > (most : Int) then ((zv kvs x.1 : Nat) : Int) else (most : Int))))) _
      have e : (if ((zv kvs x.1 : Nat) : Int) > (most : Int) then ((zv kvs x.1 : Nat) : Int) else (most : Int)) = ((max most (zv kvs x.1) : Nat) : Int) := by split <;> omega
      rw [e]
      simp only [getD_0, getD_s, set_0, set_s, boolD_bl, intD_int, startD, List.map, List.length_cons, List.length_nil, List.replicate, List.cons_append, List.nil_append, defEnds, wipeD, if_true, if_false, Bool.not_true, Bool.not_false, Bool.false_eq_true]
      by_cases hc : 1 + wsum (zv kvs) b.2 ≤ max most (zv kvs x.1)
      · rw [if_pos (by rw [decide_eq_true_eq]; omega)]
        exact h1 (by simpa using hc)
      · rw [if_neg (by rw [decide_eq_true_eq]; omega)]
        exact h2 (by simpa using hc)
    refine ⟨_, rfl, fun he => ?_, by rw [List.length_map]; exact Nat.le_trans (List.length_filter_le _ _) (by omega), fun d hd => ?_⟩
    · obtain ⟨b, hb, _, h2⟩ := z.z.wit x hx (z.all x hx).1
      have : b ∈ x.2.filter (fun b => decide (1 + wsum (zv kvs) b.2 ≤ max most (zv kvs x.1))) := List.mem_filter.mpr ⟨hb, by rw [decide_eq_true_eq]; omega⟩
      rw [List.map_eq_nil_iff] at he
      rw [he] at this
      cases this
    obtain ⟨b, hbf, rfl⟩ := List.mem_map.mp hd
    obtain ⟨hb, hbz⟩ := List.mem_filter.mp hbf
    rw [decide_eq_true_eq] at hbz
    refine ⟨ks, kvs, x, b, rfl, g, z, hx, hb, ?_⟩
    show 0 ≤ sizeLine ∧ ixD (infoD ks) _ _
    have e0 : (if ((most : Int) - ((1 + wsum (zv kvs) b.2 : Nat) : Int)) > 0 then ((most : Int) - ((1 + wsum (zv kvs) b.2 : Nat) : Int)) else 0) = ((most - (1 + wsum (zv kvs) b.2) : Nat) : Int) := by split <;> omega
    rw [e0]
    have hb8 := g.s3 x hx b hb
    have z29 := (z.all x hx).2
    refine ⟨Nat.zero_le _, info_f (fields_ix g hx hb ?_)⟩
    simp only [itemsD]
    refine forD_ind (fun (m2 : List D) ρ => ∃ (pre br : List Str) (left : Nat) (ps : List D) (v9 v10 : Option Ent), b.2 = pre ++ br ∧ m2 = br.map D.str ∧ left ≤ most - (1 + wsum (zv kvs) b.2) ∧ WDs ks 1000 n pre ps ∧ ρ = [some (.dat (.opq a)), some (.dat (infoD ks)), some (.dat (.dic kvs)), some (.dat (.str x.1)), some (.dat (.int (most : Int))), some (.dat (.lst ((x.2.filter fun b => decide (1 + wsum (zv kvs) b.2 ≤ max most (zv kvs x.1))).map fun b => .str b.1))), some (.dat (.str b.1)), some (.dat (.int (left : Int))), some (.own ps), v9, v10]) (fun ρ ⟨pre, br, left, ps, v9, v10, e1, e2, hl, hp, e⟩ => ?_) (fun d m2 ρ R ⟨pre, br, left, ps, v9, v10, e1, e2, hl, hp, e⟩ hR => ?_) _ _ ⟨[], b.2, _, [], none, none, rfl, rfl, Nat.le_refl _, .nil _, rfl⟩
    · subst e
      obtain rfl : br = [] := by simpa using e2.symm
      rw [List.append_nil] at e1
      subst e1
      refine ⟨_, rfl, trivial, ?_⟩
      refine ⟨_, rfl, by decide, _, rfl, ?_⟩
      have lp := hp.len
      exact ⟨small_len (by simp only [List.length_cons, List.length_nil]; omega), q _ (.node n x b ps hx hb hp)⟩
    · subst e
      cases br with
      | nil => cases e2
      | cons f br =>
        rw [List.map_cons] at e2
        obtain ⟨rfl, rfl⟩ := List.cons.inj e2
        have hfm : f ∈ b.2 := by rw [e1]; simp
        have lp := hp.len
        have lp8 : pre.length ≤ 8 := by have := congrArg List.length e1; rw [List.length_append] at this; omega
        refine ⟨_, rfl, _, rfl, (left : Int) + 1, rfl, by omega, log_small (by omega), fun more h0 h1 => ?_⟩
        obtain ⟨more, rfl⟩ := Int.eq_ofNat_of_zero_le h0
        have hml : more ≤ left := by omega
        have e3 : (left : Int) - (more : Int) = ((left - more : Nat) : Int) := by omega
        refine ⟨_, rfl, _, rfl, ?_⟩
        show getD _ 9 _
        rw [e3]
        refine ⟨_, rfl, ?_⟩
        show eqD (.str f) (.str numS) _
        rw [eqD_str]
        simp only [getD_0, getD_s, set_0, set_s, boolD_bl, intD_int, startD, List.map, List.length_cons, List.length_nil, List.replicate, List.cons_append, List.nil_append, defEnds, wipeD, if_true, if_false, Bool.not_true, Bool.not_false, Bool.false_eq_true]
        by_cases hn : f = numS
        · rw [if_pos (by simpa using hn)]
          subst hn
          exact ⟨_, rfl, small_lt (by omega), hR _ ⟨pre ++ [numS], br, left - more, _, _, _, by rw [e1]; simp, rfl, by omega, hp.snoc (.num n more (by omega) (by omega)), rfl⟩⟩
        · rw [if_neg (by simpa using hn)]
          have hff : f ∈ b.2.filter notNum := List.mem_filter.mpr ⟨hfm, by simp [notNum, hn]⟩
          obtain ⟨k', hk', rfl⟩ := List.mem_map.mp (num_name g hx hb f hff)
          have hw := le_wsum (s := zv kvs) hff
          refine ⟨_, rfl, .inr k'.1, _, rfl, (z.look (List.mem_map_of_mem hk')).1, ?_⟩
          refine ⟨ks, kvs, k', zv kvs k'.1 + more, rfl, g, z, hk', by omega, by omega, by omega, fun d hd => ⟨small_lt (by omega), hR _ ⟨pre ++ [k'.1], br, left - more, _, _, _, by rw [e1]; simp, rfl, by omega, hp.snoc hd, rfl⟩⟩⟩
end
end KB

/-! Texts of kinds, in plain words. -/
namespace KB
open PySem L2 Dk
/-! ### split by a text whose second sign stands nowhere in the parts -/
theorem pre_two {c d : Nat} {S l : List Nat} (h : TL.pre (c :: d :: S) l = true) : ∃ r, l = c :: d :: r := by
  unfold TL.pre at h
  have h := beq_iff_eq.mp h
  match l, h with
  | [], h => simp at h
  | [x], h => simp at h
  | x :: y :: r, h =>
    simp at h
    exact ⟨r, by rw [h.1, h.2.1]⟩
theorem free_mid {c d : Nat} {S : List Nat} (hcd : c ≠ d) : ∀ {p : List Nat}, d ∉ p → SX.free (c :: d :: S) p = true
  | [], _ => rfl
  | e :: r, h => by
    show (!(TL.pre (c :: d :: S) (e :: (r ++ c :: d :: S))) && SX.free (c :: d :: S) r) = true
    rw [Bool.and_eq_true, Bool.not_eq_true']
    refine ⟨?_, free_mid hcd fun hm => h (List.mem_cons_of_mem _ hm)⟩
    rw [← Bool.not_eq_true]
    intro hp
    obtain ⟨q, e1⟩ := pre_two hp
    cases r with
    | nil =>
      simp at e1
      exact hcd e1.2.1
    | cons f r =>
      simp at e1
      exact h (by rw [e1.2.1]; simp)
theorem last_mid {c d : Nat} {S p : List Nat} (h : d ∉ p) : TL.spl (c :: d :: S) 0 [] p = [p] := by
  have := TL.spl_last (S := c :: d :: S) (p := p) (acc := []) fun i hi => by
    rw [← Bool.not_eq_true]
    intro hp
    obtain ⟨q, e1⟩ := pre_two hp
    have : d ∈ p.drop i := by rw [e1]; simp
    exact h (List.mem_of_mem_drop this)
  simpa using this
theorem spl_mid {c d : Nat} {S : List Nat} (hcd : c ≠ d) : ∀ {parts : List (List Nat)}, parts ≠ [] → (∀ p ∈ parts, d ∉ p) → TL.spl (c :: d :: S) 0 [] (TL.joinL (c :: d :: S) parts) = parts
  | [], h, _ => absurd rfl h
  | [p], _, hp => last_mid (hp p (by simp))
  | p :: q :: r, _, hp => by
    show TL.spl (c :: d :: S) 0 [] (p ++ (c :: d :: S ++ TL.joinL (c :: d :: S) (q :: r))) = p :: q :: r
    rw [SX.spl_free _ (by simp) (free_mid hcd (hp p (by simp))), spl_mid hcd (by simp) fun z hz => hp z (List.mem_cons_of_mem _ hz)]
def tl (x : Str) : List Nat := x.cps.toList
theorem S_eq (x : Str) : SX.S (tl x) = x := SX.S_tl x
theorem map_S (ys : List Str) : (ys.map tl).map SX.S = ys := by
  rw [List.map_map]
  conv => rhs; rw [← List.map_id ys]
  exact List.map_congr_left fun y _ => S_eq y
theorem split_mid {y : Str} {c d : Nat} {S : List Nat} (ey : tl y = c :: d :: S) (hcd : c ≠ d) (hk : (tl y).all (· < 256) = true) {parts : List Str} (hne : parts ≠ []) (hp : ∀ p ∈ parts, d ∉ tl p) : Txt.split (Txt.join y parts) y = parts := by
  have e : Txt.join y parts = SX.S (TL.joinL (tl y) (parts.map tl)) := by
    rw [← SX.join_S, S_eq, map_S]
  have h1 := SX.split_S (a := TL.joinL (tl y) (parts.map tl)) (b := tl y) (by rw [ey]; simp) hk
  rw [S_eq, ← e] at h1
  rw [h1, ey, spl_mid hcd (by simpa using hne) (fun p h => by obtain ⟨z, hz, rfl⟩ := List.mem_map.mp h; exact hp z hz), map_S]
theorem split_two {y a b : Str} {c d : Nat} {S : List Nat} (ey : tl y = c :: d :: S) (hcd : c ≠ d) (hk : (tl y).all (· < 256) = true) (ha : d ∉ tl a) (hb : d ∉ tl b) : Txt.split (a ++ y ++ b) y = [a, b] := by
  have e : a ++ y ++ b = Txt.join y [a, b] := rfl
  rw [e]
  exact split_mid ey hcd hk (by simp) fun p hp => by
    simp only [List.mem_cons, List.not_mem_nil, or_false] at hp
    rcases hp with rfl | rfl
    · exact ha
    · exact hb
/-! ### the texts -/
def btext (b : Bough) : Str := Txt.join " " (b.1 :: b.2)
def ktext (k : Kind) : Str := k.1 ++ " = " ++ Txt.join " | " (k.2.map btext)
def bookText (ks : List Kind) : Str := Txt.join "\n" (ks.map ktext)
/-- letters alone -/
def clean (x : Str) : Prop := x.length ≤ 8 ∧ ∀ c ∈ tl x, 97 ≤ c ∧ c ≤ 122
theorem clean_name {x : Str} (h : nameOk x = true) : clean x := ⟨(nameOk_split h).2.1, (nameOk_split h).2.2.2⟩
theorem clean_num : clean numS := by unfold clean; exact ⟨by decide +kernel, by decide +kernel⟩
theorem Good.cleanF {ks : List Kind} (g : Good ks) {k : Kind} (hk : k ∈ ks) {b : Bough} (hb : b ∈ k.2) : ∀ f ∈ b.1 :: b.2, clean f := fun f hf => by
  rcases List.mem_cons.mp hf with rfl | hf
  · exact clean_name (g.bn k hk b hb)
  · rcases g.fl k hk b hb f hf with rfl | h
    · exact clean_num
    · obtain ⟨k', h1, rfl⟩ := List.mem_map.mp h
      exact clean_name (g.kn k' h1)
/-- which signs stand in a joined text -/
theorem mem_join {y : Str} {c : Nat} : ∀ {parts : List Str}, c ∈ tl (Txt.join y parts) → c ∈ tl y ∨ ∃ p ∈ parts, c ∈ tl p := by
  intro parts h
  have e : tl (Txt.join y parts) = TL.joinL (tl y) (parts.map tl) := by
    have : Txt.join y parts = SX.S (TL.joinL (tl y) (parts.map tl)) := by rw [← SX.join_S, S_eq, map_S]
    rw [this]
    simp [SX.S, tl]
  rw [e] at h
  clear e
  induction parts with
  | nil => simp [TL.joinL] at h
  | cons p r ih =>
    cases r with
    | nil => exact .inr ⟨p, by simp, h⟩
    | cons q r =>
      have h : c ∈ tl p ++ (tl y ++ TL.joinL (tl y) ((q :: r).map tl)) := h
      rcases List.mem_append.mp h with h | h
      · exact .inr ⟨p, by simp, h⟩
      · rcases List.mem_append.mp h with h | h
        · exact .inl h
        · rcases ih h with h | ⟨z, hz, h⟩
          · exact .inl h
          · exact .inr ⟨z, List.mem_cons_of_mem _ hz, h⟩
theorem len_join {y : Str} {m : Nat} : ∀ {parts : List Str}, (∀ p ∈ parts, p.length ≤ m) → (Txt.join y parts).length ≤ parts.length * (m + y.length) := by
  intro parts h
  have e : (Txt.join y parts).length = (TL.joinL (tl y) (parts.map tl)).length := by
    have : Txt.join y parts = SX.S (TL.joinL (tl y) (parts.map tl)) := by rw [← SX.join_S, S_eq, map_S]
    rw [this, SX.S_len]
  rw [e]
  clear e
  induction parts with
  | nil => simp [TL.joinL]
  | cons p r ih =>
    have hp := h p (by simp)
    have ep : (tl p).length = p.length := by simp [tl, Str.length]
    have ey : (tl y).length = y.length := by simp [tl, Str.length]
    cases r with
    | nil =>
      show (tl p).length ≤ _
      rw [List.length_singleton]
      omega
    | cons q r =>
      have h2 := ih fun z hz => h z (List.mem_cons_of_mem _ hz)
      show (tl p ++ (tl y ++ TL.joinL (tl y) ((q :: r).map tl))).length ≤ _
      rw [List.length_append, List.length_append]
      rw [List.length_cons, Nat.succ_mul]
      omega
theorem tl_app (a b : Str) : tl (a ++ b) = tl a ++ tl b := by
  show (a.cps ++ b.cps).toList = _
  simp [tl]
theorem btext_signs {ks : List Kind} (g : Good ks) {k : Kind} (hk : k ∈ ks) {b : Bough} (hb : b ∈ k.2) : (∀ c ∈ tl (btext b), c = 32 ∨ (97 ≤ c ∧ c ≤ 122)) ∧ (btext b).length ≤ 81 := by
  refine ⟨fun c hc => ?_, ?_⟩
  · rcases mem_join hc with h | ⟨p, hp, h⟩
    · left
      have e : tl " " = [32] := by decide +kernel
      rw [e] at h
      exact List.mem_singleton.mp h
    · exact .inr ((g.cleanF hk hb p hp).2 c h)
  · have h := len_join (y := " ") (m := 8) (parts := b.1 :: b.2) fun p hp => (g.cleanF hk hb p hp).1
    have h3 := g.s3 k hk b hb
    have e : (" " : Str).length = 1 := rfl
    rw [e, List.length_cons] at h
    show (Txt.join " " (b.1 :: b.2)).length ≤ _
    omega
theorem ktext_rest {ks : List Kind} (g : Good ks) {k : Kind} (hk : k ∈ ks) : (∀ c ∈ tl (Txt.join " | " (k.2.map btext)), c = 32 ∨ c = 124 ∨ (97 ≤ c ∧ c ≤ 122)) ∧ (Txt.join " | " (k.2.map btext)).length ≤ 672 := by
  refine ⟨fun c hc => ?_, ?_⟩
  · rcases mem_join hc with h | ⟨p, hp, h⟩
    · have e : tl " | " = [32, 124, 32] := by decide +kernel
      rw [e] at h
      simp at h
      omega
    · obtain ⟨b, hb, rfl⟩ := List.mem_map.mp hp
      have := (btext_signs g hk hb).1 c h
      omega
  · have h := len_join (y := " | ") (m := 81) (parts := k.2.map btext) fun p hp => by obtain ⟨b, hb, rfl⟩ := List.mem_map.mp hp; exact (btext_signs g hk hb).2
    have h2 := g.s2 k hk
    have e : (" | " : Str).length = 3 := rfl
    rw [e, List.length_map] at h
    omega
theorem ktext_signs {ks : List Kind} (g : Good ks) {k : Kind} (hk : k ∈ ks) : (∀ c ∈ tl (ktext k), c ≠ 10) ∧ (ktext k).length ≤ 683 := by
  have hn := clean_name (g.kn k hk)
  have e : tl " = " = [32, 61, 32] := by decide +kernel
  refine ⟨fun c hc => ?_, ?_⟩
  · unfold ktext at hc
    rw [tl_app, tl_app] at hc
    rcases List.mem_append.mp hc with h | h
    · rcases List.mem_append.mp h with h | h
      · have := hn.2 c h
        omega
      · rw [e] at h
        simp at h
        omega
    · have := (ktext_rest g hk).1 c h
      omega
  · have h1 := (ktext_rest g hk).2
    have el : ∀ x : Str, x.length = (tl x).length := fun x => by simp [tl, Str.length]
    rw [el] at h1 ⊢
    unfold ktext
    rw [tl_app, tl_app, List.length_append, List.length_append, e]
    have := hn.1
    rw [el] at this
    simp
    omega
theorem split_b {ks : List Kind} (g : Good ks) {k : Kind} (hk : k ∈ ks) {b : Bough} (hb : b ∈ k.2) : Txt.split (btext b) " " = b.1 :: b.2 := by
  refine TL.split_join (s := 32) (S := []) (by decide +kernel) (by decide +kernel) (by simp) fun p hp h => ?_
  have := (g.cleanF hk hb p hp).2 32 h
  omega
theorem split_r {ks : List Kind} (g : Good ks) {k : Kind} (hk : k ∈ ks) : Txt.split (Txt.join " | " (k.2.map btext)) " | " = k.2.map btext := by
  refine split_mid (c := 32) (d := 124) (S := [32]) (by decide +kernel) (by decide) (by decide +kernel) (by simpa using g.kb k hk) fun p hp h => ?_
  obtain ⟨b, hb, rfl⟩ := List.mem_map.mp hp
  have := (btext_signs g hk hb).1 124 h
  omega
theorem split_k {ks : List Kind} (g : Good ks) {k : Kind} (hk : k ∈ ks) : Txt.split (ktext k) " = " = [k.1, Txt.join " | " (k.2.map btext)] := by
  refine split_two (c := 32) (d := 61) (S := [32]) (by decide +kernel) (by decide) (by decide +kernel) (fun h => ?_) fun h => ?_
  · have := (clean_name (g.kn k hk)).2 61 h
    omega
  · have := (ktext_rest g hk).1 61 h
    omega
theorem bookText_len {ks : List Kind} (g : Good ks) : (bookText ks).length ≤ 4104 := by
  have h := len_join (y := "\n") (m := 683) (parts := ks.map ktext) fun p hp => by obtain ⟨k, hk, rfl⟩ := List.mem_map.mp hp; exact (ktext_signs g hk).2
  have h1 := g.s1
  have e : ("\n" : Str).length = 1 := rfl
  rw [e, List.length_map] at h
  show (Txt.join "\n" (ks.map ktext)).length ≤ _
  omega
theorem split_t {ks : List Kind} (g : Good ks) : Txt.split (bookText ks) "\n" = ks.map ktext := by
  refine TL.split_join (s := 10) (S := []) (by decide +kernel) (by decide +kernel) (by simpa using g.ne) fun p hp h => ?_
  obtain ⟨k, hk, rfl⟩ := List.mem_map.mp hp
  exact (ktext_signs g hk).1 10 h rfl
end KB

/-! How kinds are shown by repr: how long it is. -/
namespace KB
open PySem L2 Dk
/-- may be shown, in at most m signs -/
structure Sh (m : Nat) (d : D) : Prop where
  sh : (toPy d).showable = true
  ln : (shw d).length ≤ m
theorem shownAll_map : ∀ ds : List D, PyData.shownAll (toPys ds) = ds.map shw
  | [] => by simp [toPys, PyData.shownAll]
  | d :: ds => by simp [toPys, PyData.shownAll, shownAll_map ds, shw]
theorem showableAll_of : ∀ {ds : List D}, (∀ d ∈ ds, (toPy d).showable = true) → PyData.showableAll (toPys ds) = true
  | [], _ => by simp [toPys, PyData.showableAll]
  | d :: ds, h => by
    simp only [toPys, PyData.showableAll, Bool.and_eq_true]
    exact ⟨h d (by simp), showableAll_of fun x hx => h x (List.mem_cons_of_mem _ hx)⟩
theorem len_app (a b : Str) : (a ++ b).length = a.length + b.length := by
  show (a.cps ++ b.cps).size = _
  exact Array.size_append
theorem Sh.tup {m n : Nat} {ds : List D} (h : ∀ d ∈ ds, Sh m d) (hn : ds.length ≤ n) : Sh (n * (m + 2) + 3) (.tup ds) where
  sh := by
    simp only [toPy, PyData.showable]
    exact showableAll_of fun d hd => (h d hd).sh
  ln := by
    have e : shw (.tup ds) = (PyData.tuple (toPys ds)).shown := by simp [shw, toPy]
    rw [e, PyData.shown_tuple, shownAll_map, len_app, len_app]
    have h1 := len_join (y := ", ") (m := m) (parts := ds.map shw) fun p hp => by
      obtain ⟨d, hd, rfl⟩ := List.mem_map.mp hp
      exact (h d hd).ln
    rw [TL.join_eq, List.length_map] at h1
    have e2 : (", " : Str).length = 2 := rfl
    rw [e2] at h1
    have h2 : ds.length * (m + 2) ≤ n * (m + 2) := Nat.mul_le_mul_right _ hn
    have e1 : ("(" : Str).length = 1 := rfl
    rw [e1]
    have h3 : (((if (toPys ds).length == 1 then ",)" else ")" : String) : Str)).length ≤ 2 := by split <;> decide
    omega
theorem Sh.lst {m n : Nat} {ds : List D} (h : ∀ d ∈ ds, Sh m d) (hn : ds.length ≤ n) : Sh (n * (m + 2) + 3) (.lst ds) where
  sh := by
    simp only [toPy, PyData.showable]
    exact showableAll_of fun d hd => (h d hd).sh
  ln := by
    have e : shw (.lst ds) = (PyData.list (toPys ds)).shown := by simp [shw, toPy]
    rw [e, PyData.shown_list, shownAll_map, len_app, len_app]
    have h1 := len_join (y := ", ") (m := m) (parts := ds.map shw) fun p hp => by
      obtain ⟨d, hd, rfl⟩ := List.mem_map.mp hp
      exact (h d hd).ln
    rw [TL.join_eq, List.length_map] at h1
    have e2 : (", " : Str).length = 2 := rfl
    rw [e2] at h1
    have h2 : ds.length * (m + 2) ≤ n * (m + 2) := Nat.mul_le_mul_right _ hn
    have e1 : ("[" : Str).length = 1 := rfl
    have e3 : ("]" : Str).length = 1 := rfl
    rw [e1, e3]
    omega
theorem Sh.mono {m n : Nat} {d : D} (h : Sh m d) (l : m ≤ n) : Sh n d := ⟨h.sh, Nat.le_trans h.ln l⟩
theorem Sh.name {x : Str} (h : clean x) : Sh 82 (.str x) where
  sh := by simp [toPy, PyData.showable]
  ln := by
    have e : shw (.str x) = reprText x := by simp [shw, toPy, PyData.shown]
    rw [e]
    have := StrLaws.reprText_len x fun c hc => Nat.lt_of_le_of_lt (h.2 c hc).2 (by decide)
    have := h.1
    omega
theorem Good.sh {ks : List Kind} (g : Good ks) : Sh 130557 (kindsD ks) := by
  refine Sh.tup (m := 21757) (n := 6) (fun d hd => ?_) (by rw [List.length_map]; exact g.s1)
  obtain ⟨k, hk, rfl⟩ := List.mem_map.mp hd
  refine Sh.tup (m := 10875) (n := 2) (fun d hd => ?_) (by simp)
  simp only [List.mem_cons, List.not_mem_nil, or_false] at hd
  rcases hd with rfl | rfl
  · exact (Sh.name (clean_name (g.kn k hk))).mono (by decide)
  refine Sh.tup (m := 1357) (n := 8) (fun d hd => ?_) (by rw [List.length_map]; exact g.s2 k hk)
  obtain ⟨b, hb, rfl⟩ := List.mem_map.mp hd
  refine Sh.tup (m := 675) (n := 2) (fun d hd => ?_) (by simp)
  simp only [List.mem_cons, List.not_mem_nil, or_false] at hd
  rcases hd with rfl | rfl
  · exact (Sh.name (clean_name (g.bn k hk b hb))).mono (by decide)
  refine Sh.tup (m := 82) (n := 8) (fun d hd => ?_) (by rw [List.length_map]; exact g.s3 k hk b hb)
  obtain ⟨f, hf, rfl⟩ := List.mem_map.mp hd
  exact Sh.name (g.cleanF hk hb f (List.mem_cons_of_mem _ hf))
theorem Good.repr {ks : List Kind} (g : Good ks) {Q : D → Prop} (q : Q (.str (shw (kindsD ks)))) : reprD [kindsD ks] Q :=
  ⟨g.ok.pl, g.sh.sh, Nat.le_trans g.ok.dp (by decide), Nat.le_trans g.sh.ln (by decide), q⟩
end KB

/-! repr of data with dicts in it; that what is shown may be compared (its signs are signs). -/
namespace Dk
open PySem L2 PySem.Spec
/-! ### data as the model's own data, dicts too -/
def scals (kvs : List (Key × D)) : Bool := kvs.all fun kv => scalD kv.2
def pyE0 : D → PyData
  | .dic kvs => .dict (kvs.map fun kv => (toPy (keyD kv.1), toPy kv.2))
  | d => toPy d
def pyE : D → PyData
  | .dic kvs => .dict (kvs.map fun kv => (toPy (keyD kv.1), toPy kv.2))
  | .tup xs => .tuple (xs.map pyE0)
  | d => toPy d
/-- a plain thing, a dict of plain ones, a tuple of such -/
inductive ShE : D → Prop
  | pl {d : D} : plainD d = true → (∀ xs, d ≠ .tup xs) → ShE d
  | dic {kvs : List (Key × D)} : scals kvs = true → ShE (.dic kvs)
  | two {xs : List D} : (∀ x ∈ xs, plainD x = true) → ShE (.tup xs)
  | tup {xs : List D} : (∀ x ∈ xs, scalD x = true ∨ ∃ kvs, x = .dic kvs ∧ scals kvs = true) → ShE (.tup xs)
section
variable {X : Cx} {pins : List (Addr × Obj)} {σ : St} {I H : Hp} {s : Shared}
theorem rd_scal {h : Heap} {d : D} {v : V} {u : Value} (sc : scalD d = true) (r : Rep X.K I v d) (ru : RelV v u) : Reads h u (toPy d) [] := by
  cases r with
  | non => cases ru; simp only [toPy]; exact .none
  | bl b => cases ru; simp only [toPy]; exact .bool b
  | int i => obtain ⟨t, rfl⟩ := ru; simp only [toPy]; exact .int i t
  | str x => obtain ⟨t, rfl⟩ := ru; simp only [toPy]; exact .str x t
  | tup _ _ => cases sc
  | lst _ _ => cases sc
  | dic _ _ _ => cases sc
  | obj _ _ _ => cases sc
  | opq _ => cases sc
  | dfz _ _ _ => cases sc
theorem rd_key {h : Heap} {k : Key} {u : Value} (e : keyIs k u = true) : Reads h u (toPy (keyD k)) [] := by
  rcases keyIs_shape e with ⟨i, t, rfl, rfl⟩ | ⟨x, t, rfl, rfl⟩
  · simp only [keyD, toPy]; exact .int i t
  · simp only [keyD, toPy]; exact .str x t
theorem rd_pairs {h : Heap} {P : Program} {w : World} : ∀ {ds : List (Key × D)} {kvs : List (Key × V)} {vs : List (Key × Value)} {es : List DictEntry}, kvs.map (·.1) = ds.map (·.1) → Reps X.K I (kvs.map (·.2)) (ds.map (·.2)) → KV kvs vs → Pairs (mixKind P w) es vs → scals ds = true →
    ReadsAll h (es.map (·.key)) (ds.map fun kv => toPy (keyD kv.1)) [] ∧ ReadsAll h (es.map (·.val)) (ds.map fun kv => toPy kv.2) []
  | [], kvs, vs, es, hk, _, kv, pr, _ => by
    obtain rfl : kvs = [] := by simpa using hk
    cases kv
    cases pr
    exact ⟨.nil, .nil⟩
  | (k, d) :: ds, kvs, vs, es, hk, r, kv, pr, sc => by
    cases kvs with
    | nil => simp at hk
    | cons p kvs =>
      obtain ⟨k', v⟩ := p
      simp only [List.map_cons, List.cons.injEq] at hk
      obtain ⟨rfl, hk⟩ := hk
      cases r with
      | cons r1 r2 =>
        cases kv with
        | @cons _ q _ qs a b =>
          cases pr with
          | @cons e _ es _ c1 c2 c3 =>
            unfold scals at sc
            rw [List.all_cons, Bool.and_eq_true] at sc
            obtain ⟨h1, h2⟩ := rd_pairs (h := h) (ds := ds) (kvs := kvs) hk r2 b c3 sc.2
            obtain ⟨ea, ra⟩ := a
            have e1 : keyIs k' e.key = true := by have : keyIs q.1 e.key = true := c1; rwa [← ea] at this
            have e2 : RelV v e.val := by rw [c2]; exact ra
            exact ⟨.cons (as := []) (bs := []) (rd_key e1) h1, .cons (as := []) (bs := []) (rd_scal sc.1 r1 e2) h2⟩
theorem rd_dic (J : Inv X pins σ H s) (st : Same I H) {kvs : List (Key × D)} {v : V} {u : Value} (r : Rep X.K I v (.dic kvs)) (ru : RelV v u) (sc : scals kvs = true) : ∃ a, u = .ref a ∧ (a == sysModules) = false ∧ Reads s.heap u (pyE0 (.dic kvs)) [a] := by
  cases r with
  | @dic a ws _ ha kk rr =>
    cases (show u = Value.ref a from ru)
    obtain ⟨_, hs, vs, kv, o, es, ep, ho, ex, hd, _, pr, _⟩ := dk_of J.hok (st _ _ ha)
    obtain ⟨h1, h2⟩ := rd_pairs (h := s.heap) kk rr kv pr sc
    refine ⟨a, rfl, hs, ?_⟩
    unfold pyE0
    refine Reads.dict (as := []) (bs := []) ho ex.1 hd ?_ ?_
    · rw [List.map_map]; exact h1
    · rw [List.map_map]; exact h2
theorem pyE0_pl {d : D} (h : plainD d = true) : pyE0 d = toPy d := by
  cases d <;> first | rfl | cases h
theorem toPys_map' : ∀ xs : List D, toPys xs = xs.map toPy
  | [] => rfl
  | x :: xs => by simp only [toPys, List.map_cons, toPys_map' xs]
theorem rd_tup (J : Inv X pins σ H s) (st : Same I H) : ∀ {xs : List D} {vs : List V} {us : List Value}, Reps X.K I vs xs → Vals vs us → (∀ x ∈ xs, scalD x = true ∨ ∃ kvs, x = .dic kvs ∧ scals kvs = true) → ∃ as, ReadsAll s.heap us (xs.map pyE0) as ∧ ∀ a ∈ as, (a == sysModules) = false
  | [], _, _, r, ru, _ => by
    cases r
    cases ru
    exact ⟨[], .nil, fun _ h => by cases h⟩
  | x :: xs, _, _, r, ru, h => by
    cases r with
    | cons r1 r2 =>
      cases ru with
      | cons u1 u2 =>
        obtain ⟨as, h1, h2⟩ := rd_tup J st r2 u2 fun y hy => h y (List.mem_cons_of_mem _ hy)
        rcases h x (by simp) with sc | ⟨kvs, rfl, sc⟩
        · refine ⟨[] ++ as, .cons ?_ h1, by simpa using h2⟩
          have : pyE0 x = toPy x := by cases x <;> first | rfl | cases sc
          rw [this]
          exact rd_scal sc r1 u1
        · obtain ⟨a, _, ha, rd⟩ := rd_dic J st r1 u1 sc
          exact ⟨[a] ++ as, .cons rd h1, fun b hb => by
            rcases List.mem_append.mp hb with hb | hb
            · have : b = a := by simpa using hb
              rw [this]; exact ha
            · exact h2 b hb⟩
end
def reprE : List D → (D → Prop) → Prop
  | [d], Q => ShE d ∧ (pyE d).showable = true ∧ (pyE d).depth ≤ 50 ∧ (pyE d).shown.length ≤ sizeLine ∧ Q (.str (pyE d).shown)
  | _, _ => False
theorem mono_reprE : MonoN reprE := by
  intro ds Q Q' k h
  unfold reprE at h ⊢
  split at h
  · exact ⟨h.1, h.2.1, h.2.2.1, h.2.2.2.1, k _ h.2.2.2.2⟩
  · exact h.elim
section
variable {F : Fx} {X : Cx} {e : Expr} {t : DAT} {p pos : Pos}
def RReprE (K : PySem.W.Frag) : List V → Hp → VK → Prop := fun xs H Q => (∃ v d, xs = [v] ∧ Dp K H v d ∧ d.showable = true ∧ d.hasDict = false ∧ d.depth ≤ 50 ∧ d.shown.length ≤ sizeLine ∧ Q (.str d.shown) H) ∨
  ∃ a d I, xs = [.ref a] ∧ Same I H ∧ Rep K I (.ref a) d ∧ ((∃ kvs, d = .dic kvs ∧ scals kvs = true) ∨ ∃ ys, d = .tup ys ∧ ∀ x ∈ ys, scalD x = true ∨ ∃ kvs, x = .dic kvs ∧ scals kvs = true) ∧ (pyE d).showable = true ∧ (pyE d).depth ≤ 50 ∧ (pyE d).shown.length ≤ sizeLine ∧ Q (.str (pyE d).shown) H
theorem call_reprE (hg : X.A.guards = some []) (hu : X.A.units + 64 < cLine) : CallR X (.builtin "repr") (RReprE X.K) := by
  rintro pins s σ H xs us Q J r (h | ⟨a, d, I, rfl, st, rp, k, h1, h2, h3, q⟩)
  · exact call_reprP hg hu pins s σ H xs us Q J r h
  obtain ⟨u, rfl, ru⟩ := vals1 r
  cases (show u = Value.ref a from ru)
  have go : ∀ as, Reads s.heap (.ref a) (pyE d) as → (∀ b ∈ as, (b == sysModules) = false) → wpAny (model X.prog X.w) X.A (call (.builtin "repr") [.ref a]) (EP X pins σ Q) X.xe s := fun as rd ns => by
    refine repr_of_reads' rd h1 (fun _ hm => ?_) hg (by omega) (fun b o e => e) (fun h' u tk hk => ⟨.str _, H, J.kept hk, ⟨u, rfl⟩, q⟩) h3
    have := ns _ hm
    simp at this
  rcases k with ⟨kvs, rfl, sc⟩ | ⟨ys, rfl, sc⟩
  · obtain ⟨b, e, hs, rd⟩ := rd_dic J st rp (u := .ref a) rfl sc
    cases e
    exact go [a] rd fun b hb => by
      have : b = a := by simpa using hb
      rw [this]; exact hs
  · cases rp with
    | tup ha rs =>
      obtain ⟨its, rv, ⟨o, ho, hc, n, hd⟩, _⟩ := J.tuple (Same.seqT st ha)
      obtain ⟨as, h4, h5⟩ := rd_tup J st rs rv sc
      exact go as (Reads.tuple ho hc hd h4) h5
theorem de_reprE (hm : X.mg "repr" = none) (hg : X.A.guards = some []) (hu : X.A.units + 64 < cLine) (ha : DA F X [e] t) (hgl : Gl X "repr" := by rfl) (he : starEach [e] X.env = (false, eval e X.env) :: starEach [] X.env := by rfl) : DE F X (.Call (.Name "repr" p) [e] [] pos) (fun ρ Q => t ρ fun ds => reprE ds Q) := by
  refine de_callB (id := "repr") mono_reprE (fun vs ds I H Q st rs h => ?_) (call_reprE hg hu) hm (by decide +kernel) ha hgl (by decide) (by decide) he rfl
  match ds, rs, h with
  | [], _, h => exact h.elim
  | _ :: _ :: _, _, h => exact h.elim
  | [d], rs, h =>
    obtain ⟨k, sh, dp, l, q⟩ := h
    obtain ⟨v, rfl, rv⟩ := rs.one
    have q := q _ _ _ st.stp (.str _)
    cases k with
    | pl pl nt =>
      have e : pyE d = toPy d := by
        cases d <;> first | rfl | cases pl | exact absurd rfl (nt _)
      rw [e] at sh dp l q
      exact .inl ⟨v, _, rfl, rv.dp st.sub pl, sh, noDict pl, dp, l, q⟩
    | @two xs pl =>
      have e : pyE (.tup xs) = toPy (.tup xs) := by
        simp only [pyE, toPy, toPys_map']
        exact congrArg PyData.tuple (List.map_congr_left fun x hx => pyE0_pl (pl x hx))
      have pl2 : plainD (.tup xs) = true := by
        have : ∀ ys : List D, (∀ x ∈ ys, plainD x = true) → plainDs ys = true := fun ys => by
          induction ys with
          | nil => intro _; rfl
          | cons y ys ih => intro h; simp only [plainDs, h y (by simp), ih fun z hz => h z (List.mem_cons_of_mem _ hz), Bool.and_self]
        simpa [plainD] using this xs pl
      rw [e] at sh dp l q
      exact .inl ⟨v, _, rfl, rv.dp st.sub pl2, sh, noDict pl2, dp, l, q⟩
    | @dic kvs sc =>
      cases rv with
      | @dic a ws _ hi kk rr => exact .inr ⟨a, _, I, rfl, st.sub, .dic hi kk rr, .inl ⟨kvs, rfl, sc⟩, sh, dp, l, q⟩
    | @tup xs sc =>
      cases rv with
      | @tup a vs _ hi rr => exact .inr ⟨a, _, I, rfl, st.sub, .tup hi rr, .inr ⟨xs, rfl, sc⟩, sh, dp, l, q⟩
end
end Dk

/-! ### what is shown, in how many signs, and that they are signs -/
namespace KB
open PySem L2 Dk
theorem ok_app {a b : Str} (h : PyData.strOk a = true) (h' : PyData.strOk b = true) : PyData.strOk (a ++ b) = true := by
  unfold PyData.strOk at h h' ⊢
  show (a.cps ++ b.cps).all _ = true
  rw [Array.all_append, h, h']
  rfl
theorem ok_lit (s : String) : PyData.strOk (Str.ofString s) = true := by
  unfold PyData.strOk
  rw [Str.ofString_eq_toList]
  rw [List.all_toArray, List.all_eq_true]
  intro c hc
  obtain ⟨x, _, rfl⟩ := List.mem_map.mp hc
  have hv : x.val.toNat < 0xd800 ∨ 0xdfff < x.val.toNat ∧ x.val.toNat < 0x110000 := x.valid
  have e : x.toNat = x.val.toNat := rfl
  simp only [decide_eq_true_eq]
  omega
end KB

namespace Dk
open PySem L2
/-- a method of the text called by its object and by names -/
theorem CalMK.of {P : Program} {w : World} {K : PySem.W.Frag} {mg : Str → Option Value} {base : Heap} {CX : CXT} {W : Wd} {k : Nat} {C : Addr} {x m qual : Str} {st : Stmt} {f : Addr} {fd : FuncData} {ps ks : List Str} {S : DSp} (cl : Cls K C) (me : Meth K C m f) (Fn : Fun K x qual st f fd) (G : GnOk P w K mg base CX k f fd ps (spD W K S))
    (h : ∀ (kV doc pm : Value) (an : Option Addr) (cdv ct : Value) (us ws : List Value), us.length = 1 → ws.length = ks.length → bindArgs (PySem.W.fnOf x qual (defArgs st) (defBody st) (defScope st) .none kV doc pm an cdv ct) ⟨us, ks.zip ws⟩ = pure (ps.zip (us ++ ws))) :
    CalMK P w K mg base CX W k C m ps ks (fun us ws => us ++ ws) S := by
  refine ⟨⟨f, fd, cl, me, G, ⟨fun s us ws _ l1 l2 => ?_, fun a b => a.append b⟩⟩, fun a b => a.append b⟩
  obtain ⟨oc, od, kV, doc, pm, an, cdv, ct, osl, rfl, lk, hcd⟩ := Fn.ex
  exact .of_eq (h kV doc pm an cdv ct us ws l1 l2)
end Dk

/-! Things that may be shown and compared: how long, how deep, of what signs. -/
namespace KB
open PySem L2 Dk
def small (l : List Nat) : Prop := ∀ c ∈ l, c < 0x110000
theorem ok_small {x : Str} : PyData.strOk x = true ↔ small (tl x) := by
  unfold PyData.strOk small tl
  rw [← Array.all_toList, List.all_eq_true]
  simp only [decide_eq_true_eq]
theorem small_char (x : Char) : x.toNat < 0x110000 := by
  have hv : x.val.toNat < 0xd800 ∨ 0xdfff < x.val.toNat ∧ x.val.toNat < 0x110000 := x.valid
  have e : x.toNat = x.val.toNat := rfl
  omega
theorem small_reprChar {q c : Nat} (hc : c < 0x110000) : small (Builtin.Str.reprChar q c) := by
  have hx : ∀ w, small (List.replicate (w - ((Nat.toDigits 16 c).map Char.toNat).length) 48 ++ (Nat.toDigits 16 c).map Char.toNat) := fun w d hd => by
    rcases List.mem_append.mp hd with h | h
    · rw [(List.mem_replicate.mp h).2]; decide
    · obtain ⟨y, _, rfl⟩ := List.mem_map.mp h
      exact small_char y
  have two : ∀ a b : Nat, a < 0x110000 → b < 0x110000 → small [a, b] := fun a b ha hb d hd => by
    simp only [List.mem_cons, List.not_mem_nil, or_false] at hd
    rcases hd with rfl | rfl <;> assumption
  have cat : ∀ {l m : List Nat}, small l → small m → small (l ++ m) := fun hl hm d hd => (List.mem_append.mp hd).elim (hl d) (hm d)
  unfold Builtin.Str.reprChar
  dsimp only
  split
  · exact two _ _ (by decide) hc
  split
  · exact two _ _ (by decide) (by decide)
  split
  · exact two _ _ (by decide) (by decide)
  split
  · exact two _ _ (by decide) (by decide)
  split
  · intro d hd
    have : d = c := by simpa using hd
    omega
  split
  · exact cat (two _ _ (by decide) (by decide)) (hx 2)
  split
  · exact cat (two _ _ (by decide) (by decide)) (hx 4)
  · exact cat (two _ _ (by decide) (by decide)) (hx 8)
theorem small_fold {q : Nat} : ∀ (l : List Nat) (acc : Array Nat), small l → small acc.toList → small (l.foldl (fun out c => out ++ (Builtin.Str.reprChar q c).toArray) acc).toList
  | [], acc, _, h => h
  | c :: r, acc, hl, h => by
    rw [List.foldl_cons]
    refine small_fold r _ (fun d hd => hl d (List.mem_cons_of_mem _ hd)) fun d hd => ?_
    rw [Array.toList_append] at hd
    rcases List.mem_append.mp hd with z | z
    · exact h d z
    · exact small_reprChar (hl c (by simp)) d (by simpa using z)
theorem ok_reprText {x : Str} (h : PyData.strOk x = true) : PyData.strOk (reprText x) = true := by
  rw [ok_small] at h ⊢
  have hq : reprQuote x < 0x110000 := by
    unfold reprQuote
    split <;> decide
  unfold reprText tl
  intro c hc
  rw [Array.toList_push] at hc
  rcases List.mem_append.mp hc with z | z
  · rw [← Array.foldl_toList] at z
    exact small_fold _ _ h (fun d hd => by have : d = reprQuote x := by simpa using hd
                                           omega) c z
  · have : c = reprQuote x := by simpa using z
    omega
theorem ok_join {y : Str} (hy : PyData.strOk y = true) : ∀ {parts : List Str}, (∀ p ∈ parts, PyData.strOk p = true) → PyData.strOk (Str.join y parts) = true := by
  intro parts h
  rw [ok_small]
  show small (TL.tl (Str.join y parts))
  rw [TL.tl_join]
  induction parts with
  | nil => intro c hc; cases hc
  | cons p r ih =>
    have hp := ok_small.mp (h p (by simp))
    cases r with
    | nil => exact hp
    | cons q r =>
      have h2 := ih fun z hz => h z (List.mem_cons_of_mem _ hz)
      show small (TL.tl p ++ (TL.tl y ++ TL.joinL (TL.tl y) ((q :: r).map TL.tl)))
      intro c hc
      rcases List.mem_append.mp hc with z | z
      · exact hp c z
      rcases List.mem_append.mp z with z | z
      · exact ok_small.mp hy c z
      · exact h2 c z
/-- may be shown in at most m signs, k deep at most -/
structure Sn (m k : Nat) (p : PyData) : Prop where
  sh : p.showable = true
  ln : p.shown.length ≤ m
  ok : PyData.strOk p.shown = true
  dp : p.depth ≤ k
theorem Sn.mono {m k m' k' : Nat} {p : PyData} (h : Sn m k p) (a : m ≤ m') (b : k ≤ k') : Sn m' k' p := ⟨h.sh, Nat.le_trans h.ln a, h.ok, Nat.le_trans h.dp b⟩
theorem shownAll_eq : ∀ ps : List PyData, PyData.shownAll ps = ps.map PyData.shown
  | [] => by simp only [PyData.shownAll, List.map_nil]
  | p :: ps => by simp only [PyData.shownAll, List.map_cons, shownAll_eq ps]
theorem sn_all {m k : Nat} : ∀ {ps : List PyData}, (∀ p ∈ ps, Sn m k p) → PyData.showableAll ps = true ∧ PyData.depthAll ps ≤ k
  | [], _ => by simp [PyData.showableAll, PyData.depthAll]
  | p :: ps, h => by
    obtain ⟨a, b⟩ := sn_all fun x hx => h x (List.mem_cons_of_mem _ hx)
    have h1 := h p (by simp)
    simp only [PyData.showableAll, PyData.depthAll, h1.sh, a, Bool.and_self, true_and]
    exact Nat.max_le.mpr ⟨h1.dp, b⟩
theorem sn_join {m k n : Nat} {ps : List PyData} (h : ∀ p ∈ ps, Sn m k p) (hn : ps.length ≤ n) : (Str.join ", " (PyData.shownAll ps)).length ≤ n * (m + 2) ∧ PyData.strOk (Str.join ", " (PyData.shownAll ps)) = true := by
  rw [shownAll_eq]
  refine ⟨?_, ok_join (ok_lit ", ") fun p hp => ?_⟩
  · have h1 := len_join (y := ", ") (m := m) (parts := ps.map PyData.shown) fun p hp => by
      obtain ⟨d, hd, rfl⟩ := List.mem_map.mp hp
      exact (h d hd).ln
    rw [TL.join_eq, List.length_map] at h1
    have e2 : (", " : Str).length = 2 := rfl
    rw [e2] at h1
    exact Nat.le_trans h1 (Nat.mul_le_mul_right _ hn)
  · obtain ⟨d, hd, rfl⟩ := List.mem_map.mp hp
    exact (h d hd).ok
theorem Sn.tuple {m k n : Nat} {ps : List PyData} (h : ∀ p ∈ ps, Sn m k p) (hn : ps.length ≤ n) : Sn (n * (m + 2) + 3) (k + 1) (.tuple ps) := by
  obtain ⟨a, b⟩ := sn_all h
  obtain ⟨c, d⟩ := sn_join h hn
  refine ⟨by simp only [PyData.showable]; exact a, ?_, ?_, by simp only [PyData.depth]; omega⟩
  · rw [PyData.shown_tuple, len_app, len_app]
    have e1 : ("(" : Str).length = 1 := rfl
    have h3 : (((if ps.length == 1 then ",)" else ")" : String) : Str)).length ≤ 2 := by split <;> decide
    omega
  · rw [PyData.shown_tuple]
    exact ok_app (ok_app (ok_lit _) d) (ok_lit _)
theorem Sn.list {m k n : Nat} {ps : List PyData} (h : ∀ p ∈ ps, Sn m k p) (hn : ps.length ≤ n) : Sn (n * (m + 2) + 3) (k + 1) (.list ps) := by
  obtain ⟨a, b⟩ := sn_all h
  obtain ⟨c, d⟩ := sn_join h hn
  refine ⟨by simp only [PyData.showable]; exact a, ?_, ?_, by simp only [PyData.depth]; omega⟩
  · rw [PyData.shown_list, len_app, len_app]
    have e1 : ("[" : Str).length = 1 := rfl
    have e3 : ("]" : Str).length = 1 := rfl
    omega
  · rw [PyData.shown_list]
    exact ok_app (ok_app (ok_lit _) d) (ok_lit _)
theorem Sn.str {m : Nat} {x : Str} (hl : x.length ≤ m) (h : PyData.strOk x = true) : Sn (10 * m + 2) 0 (.str x) := by
  refine ⟨by simp [PyData.showable], ?_, ?_, by simp [PyData.depth]⟩
  · have e : (PyData.str x).shown = reprText x := by simp only [PyData.shown]
    rw [e]
    have := StrLaws.reprText_len x fun c hc => Nat.lt_of_lt_of_le (ok_small.mp h c hc) (by decide)
    omega
  · have e : (PyData.str x).shown = reprText x := by simp only [PyData.shown]
    rw [e]
    exact ok_reprText h
theorem Sn.dict0 : Sn 2 1 (.dict []) := ⟨by simp [PyData.showable, PyData.showableKv], by simp only [PyData.shown_dict, PyData.shownKv]; decide, by
  simp only [PyData.shown_dict, PyData.shownKv]
  exact ok_app (ok_app (ok_lit _) (ok_join (ok_lit _) fun p hp => by cases hp)) (ok_lit _), by simp [PyData.depth, PyData.depthKv]⟩
theorem Sn.dict1 {m k : Nat} {p q : PyData} (h : Sn m k p) (h' : Sn m k q) : Sn (2 * m + 4) (k + 1) (.dict [(p, q)]) := by
  have e : (PyData.dict [(p, q)]).shown = ("{" : Str) ++ (p.shown ++ ": " ++ q.shown) ++ "}" := by
    rw [PyData.shown_dict]
    simp only [PyData.shownKv]
    rfl
  refine ⟨by simp [PyData.showable, PyData.showableKv, h.sh, h'.sh], ?_, ?_, ?_⟩
  · rw [e, len_app, len_app, len_app, len_app]
    have e1 : ("{" : Str).length = 1 := rfl
    have e2 : (": " : Str).length = 2 := rfl
    have e3 : ("}" : Str).length = 1 := rfl
    have := h.ln
    have := h'.ln
    omega
  · rw [e]
    exact ok_app (ok_app (ok_lit _) (ok_app (ok_app h.ok (ok_lit _)) h'.ok)) (ok_lit _)
  · have := h.dp
    have := h'.dp
    simp only [PyData.depth, PyData.depthKv]
    omega
theorem sn_none : Sn 10 0 .none := ⟨by simp [PyData.showable], by simp only [PyData.shown]; decide, by simp only [PyData.shown]; exact ok_lit _, by simp [PyData.depth]⟩
theorem sn_bool (b : Bool) : Sn 10 0 (.bool b) := by
  cases b <;> exact ⟨by simp [PyData.showable], by simp only [PyData.shown]; decide, by simp only [PyData.shown]; exact ok_lit _, by simp [PyData.depth]⟩
theorem sn_int (i : Int) (h : i = 0 ∨ i = 1) : Sn 10 0 (.int i) := by
  rcases h with rfl | rfl <;> exact ⟨by simp only [PyData.showable]; decide, by simp only [PyData.shown]; decide, by simp only [PyData.shown]; exact ok_lit _, by simp [PyData.depth]⟩
theorem strOk_clean {x : Str} (h : clean x) : PyData.strOk x = true := ok_small.mpr fun c hc => Nat.lt_of_le_of_lt (h.2 c hc).2 (by decide)
theorem Sn.name {x : Str} (h : clean x) : Sn 82 0 (.str x) := Sn.str h.1 (strOk_clean h)
/-- a thing that a book may be asked -/
structure Thing (d : D) : Prop where
  kn : known d = true
  sn : Sn 200000 8 (pyE0 d)
  sh : plainD d = true ∨ ∃ kvs, d = .dic kvs ∧ scals kvs = true
  tx : ∀ x, d = .str x → PyData.strOk x = true
theorem Thing.pl {m k : Nat} {d : D} (kn : known d = true) (pl : plainD d = true) (ns : ∀ x, d ≠ .str x) (h : Sn m k (toPy d)) (a : m ≤ 200000 := by decide) (b : k ≤ 8 := by decide) : Thing d := ⟨kn, by rw [pyE0_pl pl]; exact h.mono a b, .inl pl, fun x e => absurd e (ns x)⟩
theorem Thing.str {m : Nat} {x : Str} (hl : x.length ≤ m) (h : PyData.strOk x = true) (a : m ≤ 1000 := by decide) : Thing (.str x) :=
  ⟨rfl, by rw [pyE0_pl rfl, show toPy (.str x) = .str x from by simp [toPy]]; exact (Sn.str hl h).mono (by omega) (by decide), .inl rfl, fun y e => by cases e; exact h⟩
theorem kind_sn {k : Kind} {ks : List Kind} (g : Good ks) (hk : k ∈ ks) : Sn 21757 4 (toPy (kindD k)) := by
  unfold kindD
  simp only [toPy, toPys, toPys_map']
  refine Sn.tuple (m := 10875) (n := 2) (k := 3) (fun d hd => ?_) (by simp)
  simp only [List.mem_cons, List.not_mem_nil, or_false] at hd
  rcases hd with rfl | rfl
  · exact (Sn.name (clean_name (g.kn k hk))).mono (by decide) (by decide)
  refine Sn.tuple (m := 1357) (n := 8) (k := 2) (fun d hd => ?_) (by simp only [List.length_map]; exact g.s2 k hk)
  obtain ⟨x, hx, rfl⟩ := List.mem_map.mp hd
  obtain ⟨b, hb, rfl⟩ := List.mem_map.mp hx
  unfold boughD
  simp only [toPy, toPys, toPys_map']
  refine Sn.tuple (m := 675) (n := 2) (k := 1) (fun d hd => ?_) (by simp)
  simp only [List.mem_cons, List.not_mem_nil, or_false] at hd
  rcases hd with rfl | rfl
  · exact (Sn.name (clean_name (g.bn k hk b hb))).mono (by decide) (by decide)
  refine Sn.tuple (m := 82) (n := 8) (k := 0) (fun d hd => ?_) (by simp only [List.length_map]; exact g.s3 k hk b hb)
  obtain ⟨x, hx, rfl⟩ := List.mem_map.mp hd
  obtain ⟨f, hf, rfl⟩ := List.mem_map.mp hx
  exact Sn.name (g.cleanF hk hb f (List.mem_cons_of_mem _ hf))
theorem kinds_sn {ks : List Kind} (g : Good ks) : Sn 130557 5 (toPy (kindsD ks)) := by
  unfold kindsD
  simp only [toPy, toPys_map']
  refine Sn.tuple (m := 21757) (n := 6) (k := 4) (fun d hd => ?_) (by simp only [List.length_map]; exact g.s1)
  obtain ⟨x, hx, rfl⟩ := List.mem_map.mp hd
  obtain ⟨k, hk, rfl⟩ := List.mem_map.mp hx
  exact kind_sn g hk
/-- ("kind", thing) may be shown -/
theorem Thing.two {d : D} (t : Thing d) {x : Str} (h : clean x) : ShE (.tup [.str x, d]) ∧ Sn 400007 9 (pyE (.tup [.str x, d])) := by
  refine ⟨?_, ?_⟩
  · rcases t.sh with pl | ⟨kvs, rfl, sc⟩
    · refine .two fun y hy => ?_
      simp only [List.mem_cons, List.not_mem_nil, or_false] at hy
      rcases hy with rfl | rfl
      · rfl
      · exact pl
    · refine .tup fun y hy => ?_
      simp only [List.mem_cons, List.not_mem_nil, or_false] at hy
      rcases hy with rfl | rfl
      · exact .inl rfl
      · exact .inr ⟨kvs, rfl, sc⟩
  · unfold pyE
    refine Sn.tuple (m := 200000) (n := 2) (k := 8) (fun p hp => ?_) (by simp)
    simp only [List.map_cons, List.map_nil, List.mem_cons, List.not_mem_nil, or_false] at hp
    rcases hp with rfl | rfl
    · have e : pyE0 (.str x) = .str x := by simp [pyE0, toPy]
      rw [e]
      exact (Sn.name h).mono (by decide) (by decide)
    · exact t.sn
theorem reprE_of {d : D} {m k : Nat} (s : ShE d) (h : Sn m k (pyE d)) {Q : D → Prop} (q : Q (.str (pyE d).shown)) (a : m ≤ 1000000 := by decide) (b : k ≤ 50 := by decide) : reprE [d] Q :=
  ⟨s, h.sh, Nat.le_trans h.dp b, Nat.le_trans h.ln (Nat.le_trans a (by rw [sizeLine_eq]; decide)), q⟩
end KB

/-! repr of anything made of lists, tuples, dicts in any mix; x == () of any tuple; `is True`. -/
namespace Dk
open PySem L2 PySem.Spec
mutual
def pyF : D → PyData
  | .dic kvs => .dict (pyFk kvs)
  | .tup xs => .tuple (pyFs xs)
  | .lst xs => .list (pyFs xs)
  | .bl b => .bool b
  | .int i => .int i
  | .str x => .str x
  | .non => .none
  | .obj _ _ => .none
  | .opq _ => .none
  | .dfz _ => .none
def pyFs : List D → List PyData
  | [] => []
  | d :: ds => pyF d :: pyFs ds
def pyFk : List (Key × D) → List (PyData × PyData)
  | [] => []
  | (k, d) :: ds => (toPy (keyD k), pyF d) :: pyFk ds
end
mutual
/-- nothing of an object in it -/
def shF : D → Bool
  | .dic kvs => shFk kvs
  | .tup xs => shFs xs
  | .lst xs => shFs xs
  | .bl _ => true
  | .int _ => true
  | .str _ => true
  | .non => true
  | .obj _ _ => false
  | .opq _ => false
  | .dfz _ => false
def shFs : List D → Bool
  | [] => true
  | d :: ds => shF d && shFs ds
def shFk : List (Key × D) → Bool
  | [] => true
  | (_, d) :: ds => shF d && shFk ds
end
section
variable {X : Cx} {pins : List (Addr × Obj)} {σ : St} {I H : Hp} {s : Shared}
/-- what is needed of a thing's text -/
structure Rk (X : Cx) (h : Heap) (u : Value) (p : PyData) : Prop where
  ex : ∃ as bs, Reads h u p as ∧ ReadAtMost h p.depth bs ∧ ReprK X.prog X.w bs h p.depth u p.shown
structure Rks (X : Cx) (h : Heap) (us : List Value) (ps : List PyData) : Prop where
  ex : ∃ as bs, ReadsAll h us ps as ∧ ReadAtMost h (PyData.depthAll ps) bs ∧ ReprAllK X.prog X.w bs h (PyData.depthAll ps) us (PyData.shownAll ps)
theorem Rks.nil {h : Heap} : Rks X h [] [] := ⟨[], [], .nil, fun _ z => (nomatch z), by simp only [PyData.shownAll]; exact .nil⟩
theorem Rks.cons {h : Heap} {u : Value} {us : List Value} {p : PyData} {ps : List PyData} (a : Rk X h u p) (b : Rks X h us ps) : Rks X h (u :: us) (p :: ps) := by
  obtain ⟨as, b1, r1, m1, k1⟩ := a.ex
  obtain ⟨as2, b2, r2, m2, k2⟩ := b.ex
  have le1 : p.depth ≤ PyData.depthAll (p :: ps) := by simp only [PyData.depthAll]; exact Nat.le_max_left _ _
  have le2 : PyData.depthAll ps ≤ PyData.depthAll (p :: ps) := by simp only [PyData.depthAll]; exact Nat.le_max_right _ _
  refine ⟨as ++ as2, b1 ++ b2, .cons r1 r2, (m1.mono le1).append (m2.mono le2), ?_⟩
  simp only [PyData.shownAll]
  exact .cons ((k1.more fun c hc => List.mem_append_left _ hc).level_le le1) (k2.more_le (fun c hc => List.mem_append_right _ hc) le2)
theorem Rk.lst {h : Heap} {a : Addr} {o : Obj} {vs : Array Value} {n : Nat} {ps : List PyData} (ho : h.get? a = some o) (hc : o.cls = .type "list") (hd : o.data = .seq vs n) (k : Rks X h vs.toList ps) : Rk X h (.ref a) (.list ps) := by
  obtain ⟨as, bs, r1, m1, k1⟩ := k.ex
  have r : Reads h (.ref a) (.list ps) _ := .list ho hc hd r1
  have fr : a ∉ bs := not_mem_of_deeper r (by simp only [PyData.depth]; omega) m1
  refine ⟨_, a :: bs, r, ReadAtMost.cons r (by simp only [PyData.depth]; omega) m1, ?_⟩
  simp only [PyData.depth, PyData.shown]
  obtain ⟨l⟩ := vs
  cases l with
  | nil =>
    have r0 : ReadsAll h [] ps _ := r1
    cases r0
    simp only [PyData.shownAll, listText_nil]
    exact ReprK.listEmpty ho hc hd
  | cons x l => exact ReprK.list ho hc hd fr (by simpa using k1.length_eq) (fun i y e => k1.item i y (by simpa using e))
theorem Rk.tup {h : Heap} {a : Addr} {o : Obj} {vs : Array Value} {n : Nat} {ps : List PyData} (ho : h.get? a = some o) (hc : o.cls = .type "tuple") (hd : o.data = .seq vs n) (k : Rks X h vs.toList ps) : Rk X h (.ref a) (.tuple ps) := by
  obtain ⟨as, bs, r1, m1, k1⟩ := k.ex
  have r : Reads h (.ref a) (.tuple ps) _ := .tuple ho hc hd r1
  have fr : a ∉ bs := not_mem_of_deeper r (by simp only [PyData.depth]; omega) m1
  refine ⟨_, a :: bs, r, ReadAtMost.cons r (by simp only [PyData.depth]; omega) m1, ?_⟩
  simp only [PyData.depth, PyData.shown]
  exact ReprK.tuple ho hc hd fr k1
theorem Rk.dic {h : Heap} {a : Addr} {o : Obj} {es : Array DictEntry} {n : Nat} {ps : List (PyData × PyData)} (ho : h.get? a = some o) (hc : o.cls = .type "dict") (hd : o.data = .dict es n) (hs : (a == sysModules) = false)
    (k : Rks X h (es.toList.map (·.key)) (ps.map (·.1))) (k' : Rks X h (es.toList.map (·.val)) (ps.map (·.2))) : Rk X h (.ref a) (.dict ps) := by
  obtain ⟨as, b1, r1, m1, k1⟩ := k.ex
  obtain ⟨as2, b2, r2, m2, k2⟩ := k'.ex
  have r : Reads h (.ref a) (.dict ps) _ := .dict ho hc hd r1 r2
  have m : ReadAtMost h (PyData.depthKv ps) (b1 ++ b2) := (m1.mono (PyData.depthAll_keys_le ps)).append (m2.mono (PyData.depthAll_vals_le ps))
  have fr : a ∉ b1 ++ b2 := not_mem_of_deeper r (by simp only [PyData.depth]; omega) m
  refine ⟨_, a :: (b1 ++ b2), r, ReadAtMost.cons r (by simp only [PyData.depth]; omega) m, ?_⟩
  simp only [PyData.depth, PyData.shown, PyData.shownKv_eq]
  exact ReprK.dict ho hc hd hs fr (ReprEntriesK.of_two es.toList _ _ (k1.more_le (fun c hc => List.mem_append_left _ hc) (PyData.depthAll_keys_le ps)) (k2.more_le (fun c hc => List.mem_append_right _ hc) (PyData.depthAll_vals_le ps)))
mutual
/-- each text in it is short -/
def shortP : PyData → Bool
  | .int i => decide (i.natAbs.log2 < 1920)
  | .str x => decide ((reprText x).length ≤ sizeLine)
  | .tuple xs => shortPs xs
  | .list xs => shortPs xs
  | .dict kvs => shortPk kvs
  | _ => true
def shortPs : List PyData → Bool
  | [] => true
  | x :: xs => shortP x && shortPs xs
def shortPk : List (PyData × PyData) → Bool
  | [] => true
  | (k, x) :: xs => shortP k && (shortP x && shortPk xs)
end
theorem rk_key {h : Heap} {k : Key} {u : Value} (e : keyIs k u = true) (hs : shortP (toPy (keyD k)) = true) : Rk X h u (toPy (keyD k)) := by
  rcases keyIs_shape e with ⟨i, t, rfl, rfl⟩ | ⟨x, t, rfl, rfl⟩
  · simp only [keyD, toPy, shortP, decide_eq_true_eq] at hs ⊢
    exact ⟨[], [], .int i t, (fun _ h => nomatch h), by simp only [PyData.shown]; exact .of_is (ReprIs.int t hs) _ _ _⟩
  · simp only [keyD, toPy, shortP, decide_eq_true_eq] at hs ⊢
    exact ⟨[], [], .str x t, (fun _ h => nomatch h), by simp only [PyData.shown]; exact .of_is (ReprIs.str x t hs) _ _ _⟩
mutual
theorem rk_any (J : Inv X pins σ H s) (st : Same I H) : ∀ (d : D) {v : V} {u : Value}, shF d = true → shortP (pyF d) = true → Rep X.K I v d → RelV v u → Rk X s.heap u (pyF d)
  | .non, _, _, _, _, r, ru => by cases r; cases ru; unfold pyF; exact ⟨[], [], .none, (fun _ h => nomatch h), by simp only [PyData.shown]; exact .of_is ReprIs.none _ _ _⟩
  | .bl b, _, _, _, _, r, ru => by cases r; cases ru; unfold pyF; exact ⟨[], [], .bool b, (fun _ h => nomatch h), by simp only [PyData.shown]; exact .of_is (ReprIs.bool b) _ _ _⟩
  | .int i, _, _, _, hs, r, ru => by
    cases r
    obtain ⟨t, rfl⟩ := ru
    unfold pyF at hs ⊢
    simp only [shortP, decide_eq_true_eq] at hs
    exact ⟨[], [], .int i t, (fun _ h => nomatch h), by simp only [PyData.shown]; exact .of_is (ReprIs.int t hs) _ _ _⟩
  | .str x, _, _, _, hs, r, ru => by
    cases r
    obtain ⟨t, rfl⟩ := ru
    unfold pyF at hs ⊢
    simp only [shortP, decide_eq_true_eq] at hs
    exact ⟨[], [], .str x t, (fun _ h => nomatch h), by simp only [PyData.shown]; exact .of_is (ReprIs.str x t hs) _ _ _⟩
  | .tup xs, v, u, h, hs, r, ru => by
    unfold shF at h
    unfold pyF shortP at hs
    cases r with
    | @tup a vs _ ha rs =>
      cases (show u = Value.ref a from ru)
      obtain ⟨its, rv, ⟨o, ho, hc, n, hd⟩, _⟩ := J.tuple (Same.seqT st ha)
      unfold pyF
      exact .tup ho hc hd (rk_anys J st xs h hs rs rv)
  | .lst xs, v, u, h, hs, r, ru => by
    unfold shF at h
    unfold pyF shortP at hs
    cases r with
    | @lst a vs _ ha rs =>
      cases (show u = Value.ref a from ru)
      obtain ⟨its, rv, pl, _⟩ := J.list (.of (st _ _ ha))
      obtain ⟨o, ho, hc, n, hd⟩ := pl.isList
      unfold pyF
      exact .lst ho hc hd (rk_anys J st xs h hs rs rv)
  | .dic kvs, v, u, h, hs, r, ru => by
    unfold shF at h
    unfold pyF shortP at hs
    cases r with
    | @dic a ws _ ha kk rr =>
      cases (show u = Value.ref a from ru)
      obtain ⟨_, sy, vs, kv, o, es, ep, ho, ex, hd, _, pr, _⟩ := dk_of J.hok (st _ _ ha)
      obtain ⟨h1, h2⟩ := rk_anyk J st kvs h hs kk rr kv pr
      unfold pyF
      exact .dic ho ex.1 hd sy h1 h2
  | .obj _ _, _, _, h, _, _, _ => by unfold shF at h; cases h
  | .opq _, _, _, h, _, _, _ => by unfold shF at h; cases h
  | .dfz _, _, _, h, _, _, _ => by unfold shF at h; cases h
theorem rk_anys (J : Inv X pins σ H s) (st : Same I H) : ∀ (xs : List D) {vs : List V} {us : List Value}, shFs xs = true → shortPs (pyFs xs) = true → Reps X.K I vs xs → Vals vs us → Rks X s.heap us (pyFs xs)
  | [], _, _, _, _, r, ru => by cases r; cases ru; unfold pyFs; exact .nil
  | x :: xs, _, _, h, hs, r, ru => by
    unfold shFs at h
    rw [Bool.and_eq_true] at h
    unfold pyFs shortPs at hs
    rw [Bool.and_eq_true] at hs
    cases r with
    | cons r1 r2 =>
      cases ru with
      | cons u1 u2 =>
        unfold pyFs
        exact .cons (rk_any J st x h.1 hs.1 r1 u1) (rk_anys J st xs h.2 hs.2 r2 u2)
theorem rk_anyk (J : Inv X pins σ H s) (st : Same I H) : ∀ (ds : List (Key × D)) {kvs : List (Key × V)} {vs : List (Key × Value)} {es : List DictEntry}, shFk ds = true → shortPk (pyFk ds) = true → kvs.map (·.1) = ds.map (·.1) → Reps X.K I (kvs.map (·.2)) (ds.map (·.2)) → KV kvs vs → Pairs (mixKind X.prog X.w) es vs →
    Rks X s.heap (es.map (·.key)) ((pyFk ds).map (·.1)) ∧ Rks X s.heap (es.map (·.val)) ((pyFk ds).map (·.2))
  | [], kvs, vs, es, _, _, hk, _, kv, pr => by
    obtain rfl : kvs = [] := by simpa using hk
    cases kv
    cases pr
    unfold pyFk
    exact ⟨.nil, .nil⟩
  | (k, d) :: ds, kvs, vs, es, h, hs, hk, r, kv, pr => by
    unfold shFk at h
    rw [Bool.and_eq_true] at h
    unfold pyFk shortPk at hs
    rw [Bool.and_eq_true, Bool.and_eq_true] at hs
    cases kvs with
    | nil => simp at hk
    | cons p kvs =>
      obtain ⟨k', v⟩ := p
      simp only [List.map_cons, List.cons.injEq] at hk
      obtain ⟨rfl, hk⟩ := hk
      cases r with
      | cons r1 r2 =>
        cases kv with
        | @cons _ q _ qs a b =>
          cases pr with
          | @cons e _ es _ c1 c2 c3 =>
            obtain ⟨h1, h2⟩ := rk_anyk J st ds (kvs := kvs) h.2 hs.2.2 hk r2 b c3
            obtain ⟨ea, ra⟩ := a
            have e1 : keyIs k' e.key = true := by have : keyIs q.1 e.key = true := c1; rwa [← ea] at this
            have e2 : RelV v e.val := by rw [c2]; exact ra
            unfold pyFk
            exact ⟨.cons (rk_key e1 hs.1) h1, .cons (rk_any J st d h.1 hs.2.1 r1 e2) h2⟩
end
end
end Dk

/-! zip of lists and tuples in any mix, strict or not: at the library's level. -/
namespace RZ
open PySem
open PySem.Sem (wp)
section
variable {prog : Program} {w : World} {A : Around} {E : Value → Shared → Prop} {s : Shared}
theorem callType_meetsK {T newId initId : String} {Bn Bi : Builtin} {args : List Value} {kw : List (Str × Value)} {S : Spec} {Q Q₁ : Value → Shared → Prop} (ft : TypeCalled T newId initId)
    (hct : checkTypeCall T ⟨args, kw⟩ = pure ()) (hcn : checkBuiltinCall newId ⟨.type T :: args, kw⟩ = pure ())
    (entryN : entryFor table newId = some Bn) (entryI : entryFor table initId = some Bi) (g : Meets (Bn ⟨.type T :: args, kw⟩) S)
    (h : S A.in1 (wants Q₁ E) s)
    (hnext : ∀ obj s₁, Q₁ obj s₁ → s₁.TypeIs obj T ∧ argsOk initId ⟨obj :: args, kw⟩ ∧ ∃ Si, Meets (Bi ⟨obj :: args, kw⟩) Si ∧ Si A.in1 (wants (fun r s₂ => r = .none ∧ Q obj s₂) E) s₁) :
    wpAny (model prog w) A (call (.type T) args kw) Q E s := by
  obtain ⟨c, tl, hmro⟩ := ft.mro
  have hmade := ft.made
  have hsub := ft.sub
  refine wpAny_call (codeAny_of_tree ?_)
  show wpAny _ _ (callAny (.type T) _) _ _ _
  refine wpAny_pure ⟨Code.quiet_builtin _ (by decide +kernel), codeAny_builtin F.entry_type_call ?_⟩
  rw [Around.under_plain (weight_type_call_type T args kw) (units_type_call_type T args kw)]
  have h1 := ft.notType
  have h2 := ft.canCreate
  repeat (any_goals (first | assumption | wp_step))
  refine codeAny_mono (codeAny_call_builtin ft.plain entryN (wpAny_of_eq hcn (g prog w A.in1 _ s h))) fun r s₁ hr => ?_
  cases r with
  | error e => exact hr
  | ok fl =>
    cases fl with
    | ret obj =>
      obtain ⟨hT, hok, Si, gi, hsi⟩ := hnext _ _ hr
      have hli := ft.init.lookup
      have hbi := ft.init.bind obj
      repeat (any_goals (first | assumption | wp_step))
      refine codeAny_mono (codeAny_call_builtin ft.init.plain entryI (ft.init.check _ _ _ _ _ _ _ _ hT hok (gi prog w A.in1 _ s₁ hsi))) fun r₂ s₂ hr₂ => ?_
      cases r₂ with
      | error e => exact hr₂
      | ok fl₂ =>
        cases fl₂ with
        | ret r =>
          obtain ⟨rfl, hq⟩ := hr₂
          repeat (any_goals (first | assumption | wp_step))
        | _ => exact hr₂.elim
    | _ => exact hr.elim
theorem object_init_meetsK {T newId : String} {self : Value} {rest : List Value} {kw : List (Str × Value)} (hl : typeLookup (.type T) "__init__" = pure (some (.builtin "object.__init__")))
    (hm : Bind.madeBy (.type T) = pure (some newId)) (hne : (some newId != some "object.__new__") = true) :
    Meets (Builtin.«object.__init__» ⟨self :: rest, kw⟩) (fun _ R s => s.TypeIs self T ∧ R (.ok (.ret .none)) s) := by
  refine Meets.of_wp fun prog w A R s hs => ?_
  obtain ⟨hT, hq⟩ := hs
  cases rest with
  | nil =>
    cases kw with
    | nil => exact wpAny_pure ⟨_, rfl, hq⟩
    | cons k kw =>
      repeat (any_goals (first | assumption | wp_step))
      exact ⟨_, rfl, hq⟩
  | cons a rest =>
    repeat (any_goals (first | assumption | wp_step))
    exact ⟨_, rfl, hq⟩
theorem callType_newK {T newId : String} {Bn : Builtin} {args : List Value} {kw : List (Str × Value)} {S : Spec} {Q : Value → Shared → Prop} (ft : TypeCalled T newId "object.__init__")
    (hne : (some newId != some "object.__new__") = true) (hct : checkTypeCall T ⟨args, kw⟩ = pure ()) (hcn : checkBuiltinCall newId ⟨.type T :: args, kw⟩ = pure ())
    (hok : ∀ obj, argsOk "object.__init__" ⟨obj :: args, kw⟩) (entryN : entryFor table newId = some Bn) (g : Meets (Bn ⟨.type T :: args, kw⟩) S)
    (h : S A.in1 (wants (fun obj s₁ => s₁.TypeIs obj T ∧ Q obj s₁) E) s) : wpAny (model prog w) A (call (.type T) args kw) Q E s :=
  callType_meetsK ft hct hcn entryN F.entry_object_init g h fun obj _ hq =>
    ⟨hq.1, hok obj, _, object_init_meetsK ft.init.lookup ft.made hne, hq.1, rfl, hq.2⟩
/-- T(.., k=..) -/
theorem callWith_typeK {M : Model} {A : Around} {E : Value → Shared → Prop} {s : Shared} {pos : Pos} {T : String} {first : List Value} {args : List (Bool × Sem Value)} {keywords : List (Option Str × Sem Value)} {Q : Value → Shared → Prop}
    (hplain : args.any (·.1) = false) (hkw : keywords.any (·.1.isNone) = false)
    (h : wpAny M A (evalArgs (.type T) true args keywords) (fun a s₁ => wpAny M A (call (.type T) (first ++ a.pos) a.kw) Q E s₁) E s) :
    wpAny M A (callWith pos (.type T) first args keywords) Q E s := by
  unfold callWith
  refine wpAny_bind (wpAny_holding (wpAny_mono h (fun a s₁ h₁ => wpAny_bind (wpAny_standAt ?_)) fun _ _ x => x))
  simp only [hplain, hkw, Bool.or_false]
  refine wpAny_bind (wpAny_pure ?_)
  exact wpAny_bind (wpAny_mono h₁ (fun r s₂ hr => wpAny_bind (wpAny_holding (wpAny_point (wpAny_pure hr)))) fun _ _ x => x)
end
abbrev IsZipB (st : Bool) (h : Heap) (z TI TO : Addr) (f0 : Value) : Prop :=
  h.get? z = some { cls := .type "zip", dict := none, data := .fields #[f0, .bool false, .bool st, .ref TI, .ref TO], slots := #[] }
def SqAt (k : Bool) (h : Heap) (l : Addr) (xs : Array Value) : Prop := if k then h.IsList l xs else h.IsTuple l xs
def ItAt (k : Bool) (h : Heap) (it l : Addr) (n : Nat) : Prop := if k then h.IsListIter it l n else h.IsTupleIter it l n
theorem SqAt.extBut {k : Bool} {h h' : Heap} {l c : Addr} {xs : Array Value} (a : SqAt k h l xs) (e : Heap.ExtBut c h h') (n : l ≠ c) : SqAt k h' l xs := by
  cases k
  · exact Heap.IsTuple.extBut (show h.IsTuple l xs from a) e n
  · exact Heap.IsList.extBut (show h.IsList l xs from a) e n
theorem ItAt.extBut {k : Bool} {h h' : Heap} {it l c : Addr} {n : Nat} (a : ItAt k h it l n) (e : Heap.ExtBut c h h') (ne : it ≠ c) : ItAt k h' it l n := by
  cases k
  · exact Heap.IsTupleIter.extBut (show h.IsTupleIter it l n from a) e ne
  · exact Heap.IsListIter.extBut (show h.IsListIter it l n from a) e ne
theorem ItAt.at {k : Bool} {h h' : Heap} {it l : Addr} {n : Nat} (a : ItAt k h it l n) (e : ∀ o, h.get? it = some o → h'.get? it = some o) : ItAt k h' it l n := by
  cases k
  · exact Heap.IsTupleIter.at (show h.IsTupleIter it l n from a) e
  · exact Heap.IsListIter.at (show h.IsListIter it l n from a) e
theorem ItAt.obj {k : Bool} {h : Heap} {it l : Addr} {n : Nat} (a : ItAt k h it l n) : ∃ o, h.get? it = some o ∧ o.data = .fields #[.ref l, .int n 0] := by
  cases k
  · obtain ⟨o, e, _, d⟩ := (show h.IsTupleIter it l n from a)
    exact ⟨o, e, d⟩
  · obtain ⟨o, e, _, d⟩ := (show h.IsListIter it l n from a)
    exact ⟨o, e, d⟩
section
variable {prog : Program} {w : World} {A : Around} {E : Value → Shared → Prop} {s : Shared}
theorem nextOf_seq_item {k : Bool} {it l : Addr} {i : Nat} {items} {x : Value} {Q : Value → Shared → Prop} (hit : ItAt k s.heap it l i)
    (hl : SqAt k s.heap l items) (hx : items[i]? = some x)
    (hQ : ∀ h', ItAt k h' it l (i + 1) → Heap.SameBut it s.heap h' → Q x { s with heap := h' }) :
    wpAny (model prog w) A (Builtin.SmallTypes.nextOf (.ref it)) Q E s := by
  cases k
  · exact nextOf_tuple_item hit hl hx hQ
  · exact wpAny_nextOf_list_item hit hl hx hQ
theorem nextOf_seq_end {k : Bool} {it l : Addr} {i : Nat} {items} {Q : Value → Shared → Prop} (hh : A.handled = none)
    (hit : ItAt k s.heap it l i) (hl : SqAt k s.heap l items) (hx : items[i]? = none)
    (hE : ∀ h' e, Heap.ExtBut it s.heap h' → (∃ o, h'.get? e = some o ∧ o.cls = .type "StopIteration") → E (.ref e) { s with heap := h' }) :
    wpAny (model prog w) A (Builtin.SmallTypes.nextOf (.ref it)) Q E s := by
  cases k
  · exact nextOf_tuple_end hh hit hl hx hE
  · exact wpAny_nextOf_list_end hh hit hl hx hE
theorem nextOrEnd_item {k : Bool} {it l : Addr} {i : Nat} {items} {x : Value} {Q : Option Value → Shared → Prop} (hit : ItAt k s.heap it l i)
    (hl : SqAt k s.heap l items) (hx : items[i]? = some x)
    (hQ : ∀ h', ItAt k h' it l (i + 1) → Heap.SameBut it s.heap h' → Q (some x) { s with heap := h' }) :
    wpAny (model prog w) A (Builtin.SmallTypes.nextOrEnd (.ref it)) Q E s := by
  unfold Builtin.SmallTypes.nextOrEnd
  exact wpAny_bind (wpAny_attempt (nextOf_seq_item hit hl hx fun h' a b => wpAny_pure (hQ h' a b)))
theorem nextOrEnd_end {k : Bool} {it l : Addr} {i : Nat} {items} {Q : Option Value → Shared → Prop} (hh : A.handled = none)
    (hit : ItAt k s.heap it l i) (hl : SqAt k s.heap l items) (hx : items[i]? = none)
    (hQ : ∀ h', Heap.ExtBut it s.heap h' → Q none { s with heap := h' }) :
    wpAny (model prog w) A (Builtin.SmallTypes.nextOrEnd (.ref it)) Q E s := by
  unfold Builtin.SmallTypes.nextOrEnd
  refine wpAny_bind (wpAny_attempt (nextOf_seq_end hh hit hl hx fun h' e hk he => ?_))
  obtain ⟨o, ho, hc⟩ := he
  exact wpAny_bind (wpAny_isInstance (T := "StopIteration") (b := true) ⟨o, ho, hc⟩ isSubtype_stop (wpAny_pure (hQ _ hk)))
end
end RZ

namespace RZ
open PySem
open PySem.Sem (wp)
section
variable {prog : Program} {w : World} {A : Around} {E : Value → Shared → Prop} {s : Shared} {st ka kb : Bool}
/-- what a turn of zip draws of one of both -/
theorem draw_item {k : Bool} {it l z : Addr} {i : Nat} {items : Array Value} {x : Value} {R : Option Value → Shared → Prop} {E' : Value → Shared → Prop} (hit : ItAt k s.heap it l i) (hl : SqAt k s.heap l items) (hx : items[i]? = some x)
    (hQ : ∀ h', ItAt k h' it l (i + 1) → Heap.SameBut it s.heap h' → R (some x) { s with heap := h' }) :
    wpAny (model prog w) A (if st = true then Builtin.SmallTypes.nextOrEnd (.ref it) else do return some (← Builtin.SmallTypes.nextOf (.ref it))) R E' s := by
  cases st
  · rw [if_neg (by decide)]
    exact wpAny_bind (nextOf_seq_item hit hl hx fun h' a b => wpAny_pure (hQ h' a b))
  · rw [if_pos rfl]
    exact nextOrEnd_item hit hl hx hQ
theorem zipG_next_item {z TI TO i1 i2 l1 l2 : Addr} {k1 k2 : Nat} {xs ys : Array Value} {x y a b : Value} {Q : Value → Shared → Prop} (D : ZipApart z TI TO i1 i2 l1 l2)
    (hz : IsZipB st s.heap z TI TO .none) (hTI : IsPair s.heap TI (.ref i1) (.ref i2)) (hTO : IsPair s.heap TO a b)
    (h1 : ItAt ka s.heap i1 l1 k1) (h2 : ItAt kb s.heap i2 l2 k2) (hl1 : SqAt ka s.heap l1 xs) (hl2 : SqAt kb s.heap l2 ys) (hx : xs[k1]? = some x) (hy : ys[k2]? = some y)
    (hQ : ∀ h', IsZipB st h' z TI TO (rawInt s.heap.objs.size) → IsPair h' TO x y → ItAt ka h' i1 l1 (k1 + 1) → ItAt kb h' i2 l2 (k2 + 1) → IsPair h' s.heap.objs.size x y → h'.objs.size = s.heap.objs.size + 1 →
      (∀ c o, c ≠ z → c ≠ TO → c ≠ i1 → c ≠ i2 → s.heap.get? c = some o → h'.get? c = some o) → Q (.ref s.heap.objs.size) { s with heap := h' }) :
    wpAny (model prog w) A (Builtin.«zip.__next__» ⟨[.ref z], []⟩) (fun fin s' => ∃ v, fin = .done (.ret v) ∧ Q v s') E s := by
  show wpAny _ _ (field (.ref z) 2 >>= _) _ _ _
  refine wpAny_bind (wpAny_field hz rfl (x := .bool st) rfl ?_)
  show wpAny _ _ (field (.ref z) 3 >>= _) _ _ _
  refine wpAny_bind (wpAny_field hz rfl (x := .ref TI) rfl ?_)
  refine wpAny_bind (wpAny_seqItems hTI rfl ?_)
  show wpAny _ _ (Builtin.SmallTypes.ownedTupleIsFree (.ref z) >>= _) _ _ _
  refine wpAny_bind ?_
  unfold Builtin.SmallTypes.ownedTupleIsFree
  refine wpAny_bind (wpAny_field hz rfl (x := .none) rfl (wpAny_pure ?_))
  simp only [if_true]
  refine wpAny_bind (wpAny_rule ?_)
  refine wpAny_bind (wpAny_field hz rfl (x := .ref TO) rfl ?_)
  refine wpAny_bind (wpAny_setField_rec hz (by simp) fun h₁ hz₁ hs₁ => ?_)
  replace hz₁ : IsZipB st h₁ z TI TO .ellipsis := hz₁
  refine wpAny_bind ?_
  have es : (Value.bool st == Value.bool true) = st := by cases st <;> rfl
  rw [es]
  simp only [List.zipIdx_cons, List.zipIdx_nil, List.forIn_cons, List.forIn_nil]
  refine wpAny_bind (wpAny_bind (wpAny_onRaise ?_))
  show wpAny _ _ (if st = true then Builtin.SmallTypes.nextOrEnd (.ref i1) else do return some (← Builtin.SmallTypes.nextOf (.ref i1))) _ _ _
  refine draw_item (z := z) (h1.extBut hs₁.extBut D.i1z) (hl1.extBut hs₁.extBut D.l1z) hx fun h₂ h1₂ hs₂ => ?_
  have hTO₂ : IsPair h₂ TO a b := hs₂.extBut _ _ D.TOi1 (hs₁.extBut _ _ D.TOz hTO)
  refine wpAny_bind (wpAny_seqItems hTO₂ rfl ?_)
  refine wpAny_bind (wpAny_updateSeq_pair hTO₂ fun h₃ hTO₃ hs₃ => ?_)
  replace hTO₃ : IsPair h₃ TO x b := hTO₃
  refine wpAny_bind (wpAny_letGo (wpAny_pure ?_))
  refine wpAny_bind (wpAny_bind (wpAny_onRaise ?_))
  show wpAny _ _ (if st = true then Builtin.SmallTypes.nextOrEnd (.ref i2) else do return some (← Builtin.SmallTypes.nextOf (.ref i2))) _ _ _
  refine draw_item (z := z) (((h2.extBut hs₁.extBut D.i2z).extBut hs₂.extBut D.i12.symm).extBut hs₃.extBut D.TOi2.symm)
    (((hl2.extBut hs₁.extBut D.l2z).extBut hs₂.extBut D.l2i1).extBut hs₃.extBut D.l2TO) hy fun h₄ h2₄ hs₄ => ?_
  have hTO₄ : IsPair h₄ TO x b := hs₄.extBut _ _ D.TOi2 hTO₃
  refine wpAny_bind (wpAny_seqItems hTO₄ rfl ?_)
  refine wpAny_bind (wpAny_updateSeq_pair hTO₄ fun h₅ hTO₅ hs₅ => ?_)
  replace hTO₅ : IsPair h₅ TO x y := hTO₅
  refine wpAny_bind (wpAny_letGo (wpAny_pure (wpAny_pure ?_)))
  refine wpAny_bind (wpAny_seqItems hTO₅ rfl ?_)
  refine wpAny_bind (wpAny_newTuple ?_)
  have hsz : h₅.objs.size = s.heap.objs.size := by rw [hs₅.1, hs₄.1, hs₃.1, hs₂.1, hs₁.1]
  have hz₅ : IsZipB st h₅ z TI TO .ellipsis := hs₅.extBut _ _ D.TOz.symm (hs₄.extBut _ _ D.i2z.symm (hs₃.extBut _ _ D.TOz.symm (hs₂.extBut _ _ D.i1z.symm hz₁)))
  have hk₅ : ∀ c o, c ≠ z → c ≠ TO → c ≠ i1 → c ≠ i2 → s.heap.get? c = some o → h₅.get? c = some o := fun c o c1 c2 c3 c4 e =>
    hs₅.extBut _ _ c2 (hs₄.extBut _ _ c4 (hs₃.extBut _ _ c2 (hs₂.extBut _ _ c3 (hs₁.extBut _ _ c1 e))))
  have h1₅ : ItAt ka h₅ i1 l1 (k1 + 1) := ((h1₂.extBut hs₃.extBut D.TOi1.symm).extBut hs₄.extBut D.i12).extBut hs₅.extBut D.TOi1.symm
  have h2₅ : ItAt kb h₅ i2 l2 (k2 + 1) := h2₄.extBut hs₅.extBut D.TOi2.symm
  have hzlt : z < h₅.objs.size := Heap.lt_size hz₅
  have hTOlt : TO < h₅.objs.size := Heap.lt_size hTO₅
  show wpAny _ _ (Builtin.SmallTypes.ownedTupleHandOut (.ref z) (.ref h₅.objs.size) >>= _) _ _ _
  refine wpAny_bind ?_
  unfold Builtin.SmallTypes.ownedTupleHandOut
  have hz₆ : IsZipB st (h₅.push { cls := .type "tuple", data := .seq #[x, y] }) z TI TO .ellipsis := Heap.get?_push_of_some _ hz₅
  refine wpAny_bind (wpAny_setField_rec hz₆ (by simp) fun h₇ hz₇ hs₇ => ?_)
  replace hz₇ : IsZipB st h₇ z TI TO (rawInt h₅.objs.size) := hz₇
  refine wpAny_setField_rec hz₇ (by simp) fun h₈ hz₈ hs₈ => ?_
  replace hz₈ : IsZipB st h₈ z TI TO (rawInt h₅.objs.size) := hz₈
  have up : ∀ c o, c ≠ z → h₅.get? c = some o → h₈.get? c = some o := fun c o c1 e => hs₈.extBut _ _ c1 (hs₇.extBut _ _ c1 (Heap.get?_push_of_some _ e))
  have hT₈ : IsPair h₈ h₅.objs.size x y := hs₈.extBut _ _ (Nat.ne_of_gt hzlt) (hs₇.extBut _ _ (Nat.ne_of_gt hzlt) (Heap.get?_push_size _ rfl))
  have hz8 : h₈.objs.size = h₅.objs.size + 1 := by rw [hs₈.1, hs₇.1, Heap.size_push]
  rw [hsz] at hz₈ hT₈ hz8
  refine wpAny_pure ⟨_, rfl, ?_⟩
  show Q (.ref h₅.objs.size) _
  rw [hsz]
  exact hQ h₈ hz₈ (up _ _ D.TOz hTO₅) (h1₅.at fun o e => up _ o D.i1z e) (h2₅.at fun o e => up _ o D.i2z e) hT₈ hz8 fun c o c1 c2 c3 c4 e => up c o c1 (hk₅ c o c1 c2 c3 c4 e)
/-- the end: either one is, where it isn't strict; both are, where it is -/
theorem zipG_next_end {z TI TO i1 i2 l1 l2 : Addr} {k1 k2 : Nat} {xs ys : Array Value} {a b : Value} {Q : Fin → Shared → Prop} (hh : A.handled = none) (D : ZipApart z TI TO i1 i2 l1 l2)
    (hz : IsZipB st s.heap z TI TO .none) (hTI : IsPair s.heap TI (.ref i1) (.ref i2)) (hTO : IsPair s.heap TO a b)
    (h1 : ItAt ka s.heap i1 l1 k1) (h2 : ItAt kb s.heap i2 l2 k2) (hl1 : SqAt ka s.heap l1 xs) (hl2 : SqAt kb s.heap l2 ys) (hend : if st then xs[k1]? = none ∧ ys[k2]? = none else xs[k1]? = none ∨ ys[k2]? = none)
    (hE : ∀ h' e, (∀ c o, c ≠ z → c ≠ TO → c ≠ i1 → c ≠ i2 → s.heap.get? c = some o → h'.get? c = some o) → (∃ o, h'.get? e = some o ∧ o.cls = .type "StopIteration") → E (.ref e) { s with heap := h' }) :
    wpAny (model prog w) A (Builtin.«zip.__next__» ⟨[.ref z], []⟩) Q E s := by
  show wpAny _ _ (field (.ref z) 2 >>= _) _ _ _
  refine wpAny_bind (wpAny_field hz rfl (x := .bool st) rfl ?_)
  show wpAny _ _ (field (.ref z) 3 >>= _) _ _ _
  refine wpAny_bind (wpAny_field hz rfl (x := .ref TI) rfl ?_)
  refine wpAny_bind (wpAny_seqItems hTI rfl ?_)
  show wpAny _ _ (Builtin.SmallTypes.ownedTupleIsFree (.ref z) >>= _) _ _ _
  refine wpAny_bind ?_
  unfold Builtin.SmallTypes.ownedTupleIsFree
  refine wpAny_bind (wpAny_field hz rfl (x := .none) rfl (wpAny_pure ?_))
  simp only [if_true]
  refine wpAny_bind (wpAny_rule ?_)
  refine wpAny_bind (wpAny_field hz rfl (x := .ref TO) rfl ?_)
  refine wpAny_bind (wpAny_setField_rec hz (by simp) fun h₁ hz₁ hs₁ => ?_)
  replace hz₁ : IsZipB st h₁ z TI TO .ellipsis := hz₁
  refine wpAny_bind ?_
  have es : (Value.bool st == Value.bool true) = st := by cases st <;> rfl
  rw [es]
  simp only [List.zipIdx_cons, List.zipIdx_nil, List.forIn_cons, List.forIn_nil]
  refine wpAny_bind (wpAny_bind (wpAny_onRaise ?_))
  cases st with
  | false =>
    show wpAny _ _ (Builtin.SmallTypes.nextOf (.ref i1) >>= _) _ _ _
    cases hx : xs[k1]? with
    | none =>
      refine wpAny_bind (nextOf_seq_end hh (h1.extBut hs₁.extBut D.i1z) (hl1.extBut hs₁.extBut D.l1z) hx fun h₂ e hs₂ he => ?_)
      obtain ⟨oe, hoe, hce⟩ := he
      have hz₂ : IsZipB false h₂ z TI TO .ellipsis := hs₂ _ _ D.i1z.symm hz₁
      have hez : e ≠ z := fun x => by subst x; rw [hz₂] at hoe; cases hoe; simp at hce
      refine wpAny_setField_rec hz₂ (by simp) fun h₃ _ hs₃ => hE h₃ e (fun c o c1 _ c3 _ x => hs₃.extBut _ _ c1 (hs₂ _ _ c3 (hs₁.extBut _ _ c1 x))) ⟨oe, hs₃.extBut _ _ hez hoe, hce⟩
    | some x =>
      have hy : ys[k2]? = none := by
        simp only [Bool.false_eq_true, if_false] at hend
        rcases hend with h | h
        · rw [hx] at h; cases h
        · exact h
      refine wpAny_bind (nextOf_seq_item (h1.extBut hs₁.extBut D.i1z) (hl1.extBut hs₁.extBut D.l1z) hx fun h₂ h1₂ hs₂ => wpAny_pure ?_)
      have hTO₂ : IsPair h₂ TO a b := hs₂.extBut _ _ D.TOi1 (hs₁.extBut _ _ D.TOz hTO)
      refine wpAny_bind (wpAny_seqItems hTO₂ rfl ?_)
      refine wpAny_bind (wpAny_updateSeq_pair hTO₂ fun h₃ hTO₃ hs₃ => ?_)
      refine wpAny_bind (wpAny_letGo (wpAny_pure ?_))
      refine wpAny_bind (wpAny_bind (wpAny_onRaise ?_))
      show wpAny _ _ (Builtin.SmallTypes.nextOf (.ref i2) >>= _) _ _ _
      refine wpAny_bind (nextOf_seq_end hh (((h2.extBut hs₁.extBut D.i2z).extBut hs₂.extBut D.i12.symm).extBut hs₃.extBut D.TOi2.symm)
        (((hl2.extBut hs₁.extBut D.l2z).extBut hs₂.extBut D.l2i1).extBut hs₃.extBut D.l2TO) hy fun h₄ e hs₄ he => ?_)
      obtain ⟨oe, hoe, hce⟩ := he
      have hz₄ : IsZipB false h₄ z TI TO .ellipsis := hs₄ _ _ D.i2z.symm (hs₃.extBut _ _ D.TOz.symm (hs₂.extBut _ _ D.i1z.symm hz₁))
      have hez : e ≠ z := fun x => by subst x; rw [hz₄] at hoe; cases hoe; simp at hce
      refine wpAny_setField_rec hz₄ (by simp) fun h₅ _ hs₅ => hE h₅ e (fun c o c1 c2 c3 c4 x => hs₅.extBut _ _ c1 (hs₄ _ _ c4 (hs₃.extBut _ _ c2 (hs₂.extBut _ _ c3 (hs₁.extBut _ _ c1 x))))) ⟨oe, hs₅.extBut _ _ hez hoe, hce⟩
  | true =>
    simp only [if_true] at hend
    obtain ⟨hx, hy⟩ := hend
    show wpAny _ _ (Builtin.SmallTypes.nextOrEnd (.ref i1)) _ _ _
    refine nextOrEnd_end hh (h1.extBut hs₁.extBut D.i1z) (hl1.extBut hs₁.extBut D.l1z) hx fun h₂ hs₂ => ?_
    have hz₂ : IsZipB true h₂ z TI TO .ellipsis := hs₂ _ _ D.i1z.symm hz₁
    dsimp only
    refine wpAny_bind (wpAny_setField_rec hz₂ (by simp) fun h₃ hz₃ hs₃ => ?_)
    refine wpAny_bind ?_
    show wpAny _ _ ((forIn (m := Sem) (([Value.ref i1, Value.ref i2].drop 1).zipIdx 1) () _) >>= _) _ _ _
    simp only [List.drop_succ_cons, List.drop_zero, List.zipIdx_cons, List.zipIdx_nil, List.forIn_cons, List.forIn_nil]
    refine wpAny_bind (wpAny_bind (wpAny_bind ?_))
    have k₃ : ∀ c o, c ≠ z → c ≠ i1 → s.heap.get? c = some o → h₃.get? c = some o := fun c o c1 c2 x => hs₃.extBut _ _ c1 (hs₂ _ _ c2 (hs₁.extBut _ _ c1 x))
    refine nextOrEnd_end hh (((h2.extBut hs₁.extBut D.i2z).extBut hs₂ D.i12.symm).extBut hs₃.extBut D.i2z) (((hl2.extBut hs₁.extBut D.l2z).extBut hs₂ D.l2i1).extBut hs₃.extBut D.l2z) hy fun h₄ hs₄ => ?_
    simp only [Option.isSome_none, Bool.false_eq_true, if_false]
    refine wpAny_pure (wpAny_pure ?_)
    refine wpAny_bind (wpAny_rule ?_)
    unfold Builtin.SmallTypes.stopIteration
    refine wpAny_bind ?_
    simp only [newExc, newTuple]
    refine wpAny_bind (wpAny_newObj_type ?_ (by size_fits))
    refine wpAny_bind (m := firstArgMember _ _) (wpAny_of_eq (a := Value.none) (by first | rfl | (simp only [firstArgMember]; rfl)) ?_)
    refine wpAny_newObj_type ?_ (by size_fits)
    simp only [raiseNew]
    refine wpAny_bind (wpAny_handled ?_)
    rw [hh]
    refine wpAny_bind (wpAny_pure (wpAny_throw ?_))
    exact hE _ _ (fun c o c1 _ c3 c4 x => Heap.get?_push_of_some _ (Heap.get?_push_of_some _ (hs₄ _ _ c4 (k₃ c o c1 c3 x)))) ⟨_, Heap.get?_push_size _ rfl, rfl⟩
end
end RZ

namespace RZ
open PySem
open PySem.Sem (wp)
abbrev itCls (k : Bool) : String := if k then "list_iterator" else "tuple_iterator"
abbrev zipGH1 (ka : Bool) (h : Heap) (l1 : Addr) : Heap := h.push { cls := .type (itCls ka), data := .fields #[.ref l1, .int 0 0] }
abbrev zipGH2 (ka kb : Bool) (h : Heap) (l1 l2 : Addr) : Heap := (zipGH1 ka h l1).push { cls := .type (itCls kb), data := .fields #[.ref l2, .int 0 0] }
abbrev zipGH3 (ka kb : Bool) (h : Heap) (l1 l2 : Addr) : Heap := (zipGH2 ka kb h l1 l2).push { cls := .type "tuple", data := .seq #[.ref h.objs.size, .ref (zipGH1 ka h l1).objs.size] }
abbrev zipGH4 (ka kb : Bool) (h : Heap) (l1 l2 : Addr) : Heap := (zipGH3 ka kb h l1 l2).push { cls := .type "tuple", data := .seq #[.none, .none] }
abbrev zipGH5 (st ka kb : Bool) (h : Heap) (l1 l2 : Addr) : Heap := (zipGH4 ka kb h l1 l2).push { cls := .type "zip", data := .fields #[.none, .bool false, .bool st, .ref (zipGH2 ka kb h l1 l2).objs.size, .ref (zipGH3 ka kb h l1 l2).objs.size] }
abbrev zipKw (st : Bool) : List (Str × Value) := if st then [("strict", .bool true)] else []
theorem pyIter_seq {prog : Program} {w : World} {A : Around} {E : Value → Shared → Prop} {s : Shared} {k : Bool} {l : Addr} {xs : Array Value} {Q : Value → Shared → Prop} (hl : SqAt k s.heap l xs)
    (h : Q (.ref s.heap.objs.size) { s with heap := s.heap.push { cls := .type (itCls k), data := .fields #[.ref l, .int 0 0] } }) : wpAny (model prog w) A (pyIter (.ref l)) Q E s := by
  cases k
  · exact wpAny_pyIter_tuple (show s.heap.IsTuple l xs from hl) h
  · exact wpAny_pyIter_list (show s.heap.IsList l xs from hl) h
theorem SqAt.push {k : Bool} {h : Heap} {l : Addr} {xs : Array Value} (a : SqAt k h l xs) (o : Obj) : SqAt k (h.push o) l xs := by
  cases k
  · exact Heap.IsTuple.push (show h.IsTuple l xs from a) _
  · exact Heap.IsList.push (show h.IsList l xs from a) _
theorem meets_zipG_new (st ka kb : Bool) (l1 l2 : Addr) (xs ys : Array Value) :
    Meets (Builtin.«zip.__new__» ⟨[.type "zip", .ref l1, .ref l2], zipKw st⟩) (fun _ R s => SqAt ka s.heap l1 xs ∧ SqAt kb s.heap l2 ys ∧
      R (.ok (.ret (.ref (zipGH4 ka kb s.heap l1 l2).objs.size))) { s with heap := zipGH5 st ka kb s.heap l1 l2 }) :=
  .of_wp fun prog w A R s h => by
    obtain ⟨hp, g, d, tk, os⟩ := s; obtain ⟨hl1, hl2, h⟩ := h
    have hsub := sub_zip
    have hL1 : SqAt ka (Shared.heap ⟨hp, g, d, tk, os⟩) l1 xs := hl1
    have hL2 : SqAt kb (Shared.heap ⟨hp.push { cls := .type (itCls ka), data := .fields #[.ref l1, .int 0 0] }, g, d, tk, os⟩) l2 ys := hl2.push _
    cases st
    · wp_walk using pyIter_seq hL1, pyIter_seq hL2
      exact ⟨_, rfl, h⟩
    · wp_walk using pyIter_seq hL1, pyIter_seq hL2
      exact ⟨_, rfl, h⟩
theorem typeCall_zipS (st : Bool) (a b : Value) : checkTypeCall "zip" ⟨[a, b], zipKw st⟩ = pure () := by cases st <;> kernel_rfl
theorem newCall_zipS (st : Bool) (a b : Value) : checkBuiltinCall "zip.__new__" ⟨[.type "zip", a, b], zipKw st⟩ = pure () := by cases st <;> kernel_rfl
theorem args_object_initS (st : Bool) (a b c : Value) : argsOk "object.__init__" ⟨[a, b, c], zipKw st⟩ := by
  cases st <;> (unfold argsOk; rw [signature?_of (id := "object.__init__") (n := ['_', '_', 't', 'i', 'n', 'i', '_', '_']) (o := ['t', 'c', 'e', 'j', 'b', 'o']) (by kernel_rfl) F.owner_object]; kernel_rfl)
section
variable {prog : Program} {w : World} {A : Around} {E : Value → Shared → Prop} {s : Shared}
theorem call_zipG {st ka kb : Bool} {l1 l2 : Addr} {xs ys : Array Value} {Q : Value → Shared → Prop} (hl1 : SqAt ka s.heap l1 xs) (hl2 : SqAt kb s.heap l2 ys)
    (h : ∀ h', IsZipB st h' (s.heap.objs.size + 4) (s.heap.objs.size + 2) (s.heap.objs.size + 3) .none → IsPair h' (s.heap.objs.size + 2) (.ref s.heap.objs.size) (.ref (s.heap.objs.size + 1)) →
      IsPair h' (s.heap.objs.size + 3) .none .none → ItAt ka h' s.heap.objs.size l1 0 → ItAt kb h' (s.heap.objs.size + 1) l2 0 → h'.objs.size = s.heap.objs.size + 5 →
      (∀ c o, s.heap.get? c = some o → h'.get? c = some o) → Q (.ref (s.heap.objs.size + 4)) { s with heap := h' }) :
    wpAny (model prog w) A (call (.type "zip") [.ref l1, .ref l2] (zipKw st)) Q E s := by
  refine callType_newK F.called_zip (by decide) (typeCall_zipS st _ _) (newCall_zipS st _ _) (fun obj => args_object_initS st obj _ _) F.entry_zip_new
    (meets_zipG_new st ka kb l1 l2 xs ys) ⟨hl1, hl2, ?_⟩
  have z1 : (zipGH1 ka s.heap l1).objs.size = s.heap.objs.size + 1 := Heap.size_push ..
  have z2 : (zipGH2 ka kb s.heap l1 l2).objs.size = s.heap.objs.size + 2 := by rw [Heap.size_push, z1]
  have z3 : (zipGH3 ka kb s.heap l1 l2).objs.size = s.heap.objs.size + 3 := by rw [Heap.size_push, z2]
  have z4 : (zipGH4 ka kb s.heap l1 l2).objs.size = s.heap.objs.size + 4 := by rw [Heap.size_push, z3]
  have z5 : (zipGH5 st ka kb s.heap l1 l2).objs.size = s.heap.objs.size + 5 := by rw [Heap.size_push, z4]
  have g5 : (zipGH5 st ka kb s.heap l1 l2).get? (zipGH4 ka kb s.heap l1 l2).objs.size = some _ := Heap.get?_push_size _ rfl
  have g4 : (zipGH5 st ka kb s.heap l1 l2).get? (zipGH3 ka kb s.heap l1 l2).objs.size = some _ := Heap.get?_push_of_some _ (Heap.get?_push_size _ rfl)
  have g3 : (zipGH5 st ka kb s.heap l1 l2).get? (zipGH2 ka kb s.heap l1 l2).objs.size = some _ := Heap.get?_push_of_some _ (Heap.get?_push_of_some _ (Heap.get?_push_size _ rfl))
  have g2 : (zipGH5 st ka kb s.heap l1 l2).get? (zipGH1 ka s.heap l1).objs.size = some _ := Heap.get?_push_of_some _ (Heap.get?_push_of_some _ (Heap.get?_push_of_some _ (Heap.get?_push_size _ rfl)))
  have g1 : (zipGH5 st ka kb s.heap l1 l2).get? s.heap.objs.size = some _ := Heap.get?_push_of_some _ (Heap.get?_push_of_some _ (Heap.get?_push_of_some _ (Heap.get?_push_of_some _ (Heap.get?_push_size _ rfl))))
  show _ ∧ _
  rw [z2, z3, z4] at g5
  rw [z1, z2] at g3
  rw [z3] at g4
  rw [z1] at g2
  rw [z4]
  refine ⟨⟨_, g5, rfl⟩, h _ g5 g3 g4 ?_ ?_ z5 fun c o x =>
    Heap.get?_push_of_some _ (Heap.get?_push_of_some _ (Heap.get?_push_of_some _ (Heap.get?_push_of_some _ (Heap.get?_push_of_some _ x))))⟩
  · cases ka <;> exact ⟨_, g1, rfl, rfl⟩
  · cases kb <;> exact ⟨_, g2, rfl, rfl⟩
theorem pyNext_zipG_item {st ka kb : Bool} {z TI TO i1 i2 l1 l2 : Addr} {k1 k2 : Nat} {xs ys : Array Value} {x y a b : Value} {Q : Option Value → Shared → Prop} (D : ZipApart z TI TO i1 i2 l1 l2)
    (hz : IsZipB st s.heap z TI TO .none) (hTI : IsPair s.heap TI (.ref i1) (.ref i2)) (hTO : IsPair s.heap TO a b)
    (h1 : ItAt ka s.heap i1 l1 k1) (h2 : ItAt kb s.heap i2 l2 k2) (hl1 : SqAt ka s.heap l1 xs) (hl2 : SqAt kb s.heap l2 ys) (hx : xs[k1]? = some x) (hy : ys[k2]? = some y)
    (hQ : ∀ h', IsZipB st h' z TI TO (rawInt s.heap.objs.size) → IsPair h' TO x y → ItAt ka h' i1 l1 (k1 + 1) → ItAt kb h' i2 l2 (k2 + 1) → IsPair h' s.heap.objs.size x y → h'.objs.size = s.heap.objs.size + 1 →
      (∀ c o, c ≠ z → c ≠ TO → c ≠ i1 → c ≠ i2 → s.heap.get? c = some o → h'.get? c = some o) → Q (some (.ref s.heap.objs.size)) { s with heap := h' }) :
    wpAny (model prog w) A (pyNext (.ref z)) Q E s := by
  have hT : s.TypeIs (.ref z) "zip" := ⟨_, hz, rfl⟩
  unfold pyNext
  exact wpAny_bind (wpAny_attempt (wpAny_callSpecial?_slot (name := Str.ofString "__next__") hT F.slot_zip_next
    (wpAny_call_entry F.slot_zip_next hT F.entry_zip_next
      (zipG_next_item D hz hTI hTO h1 h2 hl1 hl2 hx hy fun h' a1 a2 a3 a4 a5 a6 a7 => wpAny_pure (hQ h' a1 a2 a3 a4 a5 a6 a7)) (F.args_zip_next_1 _))))
theorem pyNext_zipG_end {st ka kb : Bool} {z TI TO i1 i2 l1 l2 : Addr} {k1 k2 : Nat} {xs ys : Array Value} {a b : Value} {Q : Option Value → Shared → Prop} (hh : A.handled = none) (D : ZipApart z TI TO i1 i2 l1 l2)
    (hz : IsZipB st s.heap z TI TO .none) (hTI : IsPair s.heap TI (.ref i1) (.ref i2)) (hTO : IsPair s.heap TO a b)
    (h1 : ItAt ka s.heap i1 l1 k1) (h2 : ItAt kb s.heap i2 l2 k2) (hl1 : SqAt ka s.heap l1 xs) (hl2 : SqAt kb s.heap l2 ys) (hend : if st then xs[k1]? = none ∧ ys[k2]? = none else xs[k1]? = none ∨ ys[k2]? = none)
    (hQ : ∀ h', (∀ c o, c ≠ z → c ≠ TO → c ≠ i1 → c ≠ i2 → s.heap.get? c = some o → h'.get? c = some o) → Q none { s with heap := h' }) : wpAny (model prog w) A (pyNext (.ref z)) Q E s := by
  have hT : s.TypeIs (.ref z) "zip" := ⟨_, hz, rfl⟩
  unfold pyNext
  refine wpAny_bind (wpAny_attempt (wpAny_callSpecial?_slot (name := Str.ofString "__next__") hT F.slot_zip_next
    (wpAny_call_entry F.slot_zip_next hT F.entry_zip_next (zipG_next_end hh D hz hTI hTO h1 h2 hl1 hl2 hend fun h' e hk he => ?_) (F.args_zip_next_1 _))))
  obtain ⟨o, ho, hc⟩ := he
  refine wpAny_bind (wpAny_isInstance (T := "StopIteration") (b := true) ⟨o, ho, hc⟩ isSubtype_stop ?_)
  exact wpAny_pure (hQ _ hk)
theorem pyIter_zipG {st : Bool} {z TI TO : Addr} {f0 : Value} {Q : Value → Shared → Prop} (hz : IsZipB st s.heap z TI TO f0) (h : Q (.ref z) s) : wpAny (model prog w) A (pyIter (.ref z)) Q E s := by
  have hT : s.TypeIs (.ref z) "zip" := ⟨_, hz, rfl⟩
  refine wpAny_pyIter_slot hT F.slot_zip_iter (wpAny_call_entry F.slot_zip_iter hT F.entry_zip_iter ?_ (F.args_zip_iter_1 _))
  show wpAny _ _ (ret (.ref z)) _ _ s
  exact wpAny_pure ⟨_, rfl, "zip", _, hT, F.slot_zip_next.lookup, h⟩
theorem letOwnedTupleGo_zipG {st : Bool} {elts : List Expr} {x1} {pos : Pos} {z TI TO T : Addr} {Q : Unit → Shared → Prop} (hz : IsZipB st s.heap z TI TO (rawInt T))
    (hQ : ∀ h', IsZipB st h' z TI TO .none → Heap.SameBut z s.heap h' → Q () { s with heap := h' }) :
    wpAny (model prog w) A (letOwnedTupleGo (.Tuple elts x1 pos) (.ref z) (.ref T)) Q E s := by
  unfold letOwnedTupleGo
  refine wpAny_bind (wpAny_load hz ?_)
  show wpAny _ _ (if (["enumerate", "zip", "dict_itemiterator", "dict_reverseitemiterator", "odict_iterator", "itertools.zip_longest", "itertools.pairwise"].contains "zip" &&
      (#[rawInt T, .bool false, .bool st, .ref TI, .ref TO] : Array Value)[0]? == some (rawInt T)) = true then _ else _) Q E s
  rw [if_pos (by simp)]
  refine wpAny_bind (wpAny_rule ?_)
  show wpAny _ _ (setField (.ref z) 0 .none) Q E s
  exact wpAny_setField_rec hz (by simp) fun h' hz' hs' => hQ h' hz' hs'
end
end RZ

namespace RZ
open PySem PySem.Spec PyProof.Rows L2
def SqK (K : PySem.W.Frag) (k : Bool) (H : Hp) (a : Addr) (xs : List V) : Prop := if k then SqL K H a xs else SqT K H a xs
theorem SqK.at {X : Cx} {pins : List (Addr × Obj)} {σ : L2.St} {H : Hp} {s : Shared} {k : Bool} {a : Addr} {xs : List V} (h : SqK X.K k H a xs) (I : Inv X pins σ H s) : ∃ its : List Value, Vals xs its ∧ SqAt k s.heap a its.toArray := by
  cases k
  · obtain ⟨its, rv, p, _⟩ := I.tuple (show SqT X.K H a xs from h)
    exact ⟨its, rv, p⟩
  · obtain ⟨its, rv, p, _⟩ := I.list (show SqL X.K H a xs from h)
    exact ⟨its, rv, p.isList⟩
theorem SqK.inj {X : Cx} {pins : List (Addr × Obj)} {σ : L2.St} {H : Hp} {s : Shared} {k : Bool} {a : Addr} {xs ys : List V} (h : SqK X.K k H a xs) (h' : SqK X.K k H a ys) (I : Inv X pins σ H s) : xs = ys := by
  cases k
  · exact I.tuple_inj (show SqT X.K H a xs from h) h'
  · exact I.list_inj (show SqL X.K H a xs from h) h'
theorem SqAt.lt {k : Bool} {h : Heap} {l : Addr} {xs : Array Value} (a : SqAt k h l xs) : l < h.objs.size := by
  cases k
  · obtain ⟨o, e, _⟩ := (show h.IsTuple l xs from a)
    exact Heap.lt_size e
  · obtain ⟨o, e, _⟩ := (show h.IsList l xs from a)
    exact Heap.lt_size e
/-- both as they stand at each turn, the items in new pairs -/
def ItzG (K : PySem.W.Frag) (st ka kb : Bool) (a b : Addr) : It :=
  ⟨fun i H => ∃ (xs ys : List V) (x y : V), SqK K ka H a xs ∧ SqK K kb H b ys ∧ xs[i]? = some x ∧ ys[i]? = some y,
    fun i H v H' => ∃ T x y, v = .ref T ∧ H T = none ∧ H' = upd H T (.tup [x, y]) ∧ (∀ xs, SqK K ka H a xs → xs[i]? = some x) ∧ ∀ ys, SqK K kb H b ys → ys[i]? = some y,
    fun i H => ∃ xs ys : List V, SqK K ka H a xs ∧ SqK K kb H b ys ∧ if st then xs.length ≤ i ∧ ys.length ≤ i else xs.length ≤ i ∨ ys.length ≤ i⟩
theorem turn_zipG {P : Program} {w : World} {K : PySem.W.Frag} {st ka kb : Bool} {elts : List Expr} {kk : Nat} {tpos : Pos} {a b z TI TO i1 i2 : Addr} (D : ZipApart z TI TO i1 i2 a b) :
    Turn P w K (.Tuple elts kk tpos) (ItzG K st ka kb a b) [z, TI, TO, i1, i2] z (fun i h => IsZipB st h z TI TO .none ∧ IsPair h TI (.ref i1) (.ref i2) ∧ (∃ x y, IsPair h TO x y) ∧ ItAt ka h i1 a i ∧ ItAt kb h i2 b i) where
  mem := by simp
  obj := fun i h st c hc => by
    obtain ⟨hz, hTI, ⟨x, y, hTO⟩, h1, h2⟩ := st
    obtain ⟨o1, e1, d1⟩ := h1.obj
    obtain ⟨o2, e2, d2⟩ := h2.obj
    have e' : c = z ∨ c = TI ∨ c = TO ∨ c = i1 ∨ c = i2 := by simpa using hc
    rcases e' with q | q | q | q | q
    · rw [q]; exact ⟨_, hz, fun v q => nomatch q⟩
    · rw [q]; exact ⟨_, hTI, fun v q => nomatch q⟩
    · rw [q]; exact ⟨_, hTO, fun v q => nomatch q⟩
    · rw [q]; exact ⟨o1, e1, fun v q => by rw [d1] at q; cases q⟩
    · rw [q]; exact ⟨o2, e2, fun v q => by rw [d2] at q; cases q⟩
  keep := fun i h h' st k => by
    obtain ⟨hz, hTI, ⟨x, y, hTO⟩, h1, h2⟩ := st
    exact ⟨k z (by simp) _ hz, k TI (by simp) _ hTI, ⟨x, y, k TO (by simp) _ hTO⟩, h1.at fun o q => k i1 (by simp) o q, h2.at fun o q => k i2 (by simp) o q⟩
  item := by
    intro X hP hw hK hc i pins s σ H E I hf st hg
    subst hP hw hK
    obtain ⟨hz, hTI, ⟨x0, y0, hTO⟩, h1, h2⟩ := st
    obtain ⟨xs, ys, x, y, hqx, hqy, hx, hy⟩ := hg
    obtain ⟨its, rv, p⟩ := hqx.at I
    obtain ⟨its2, rv2, p2⟩ := hqy.at I
    obtain ⟨u, hu, ru⟩ := rv.get hx
    obtain ⟨u2, hu2, ru2⟩ := rv2.get hy
    have hzl : z < s.heap.objs.size := Heap.lt_size hz
    refine pyNext_zipG_item D hz hTI hTO h1 h2 p p2 (x := u) (y := u2) (by simpa using hu) (by simpa using hu2) fun h' z' TO' h1' h2' hT hsz hk => ?_
    refine ⟨_, rfl, letOwnedTupleGo_zipG (s := { s with heap := h' }) z' fun h'' z'' sb => ?_⟩
    have hT2 : h''.get? s.heap.objs.size = some { cls := .type "tuple", data := .seq #[u, u2] } := (sb.2 _ (Nat.ne_of_gt hzl)).trans hT
    have new : ObjOk X.prog X.w (upd H s.heap.objs.size (.tup [x, y])) h'' s.heap.objs.size (.tup [x, y]) :=
      ⟨by show 2 ≤ sizeLine; decide, [u, u2], .cons ru (.cons ru2 .nil), ⟨_, hT2, rfl, _, rfl⟩⟩
    have I1 : Inv X pins σ (upd H s.heap.objs.size (.tup [x, y])) { s with heap := h'' } :=
      I.turnedNew (t' := s.toks) (ch := [z, TI, TO, i1, i2]) (fun c o hb q => (sb.2 c (fun q' => hb (by simp [q']))).trans (hk c o (fun q' => hb (by simp [q'])) (fun q' => hb (by simp [q'])) (fun q' => hb (by simp [q'])) (fun q' => hb (by simp [q'])) q)) hf (Nat.le_refl _) new
    refine ⟨.ref s.heap.objs.size, _, I1, rfl, ⟨_, x, y, rfl, I.hok.fresh (Nat.le_refl _), rfl, fun l hl => by rw [hl.inj hqx I]; exact hx, fun l hl => by rw [hl.inj hqy I]; exact hy⟩, ⟨z'', ?_, ⟨u, u2, ?_⟩, ?_, ?_⟩, fun c hcm => ?_⟩
    · exact (sb.2 _ D.TIz).trans (hk _ _ D.TIz D.TITO D.TIi1 D.TIi2 hTI)
    · exact (sb.2 _ D.TOz).trans TO'
    · exact h1'.at fun o q => (sb.2 _ D.i1z).trans q
    · exact h2'.at fun o q => (sb.2 _ D.i2z).trans q
    · have hlt : c < s.heap.objs.size := by
        have e' : c = z ∨ c = TI ∨ c = TO ∨ c = i1 ∨ c = i2 := by simpa using hcm
        rcases e' with q | q | q | q | q
        · rw [q]; exact hzl
        · rw [q]; exact Heap.lt_size hTI
        · rw [q]; exact Heap.lt_size hTO
        · rw [q]; obtain ⟨_, e1, _⟩ := h1.obj; exact Heap.lt_size e1
        · rw [q]; obtain ⟨_, e2, _⟩ := h2.obj; exact Heap.lt_size e2
      rw [upd_ne (Nat.ne_of_lt hlt)]
      exact (hf c hcm).1
  done := by
    intro X hP hw hK hc i pins s σ H E I hf st' hg
    subst hP hw hK
    obtain ⟨hz, hTI, ⟨x0, y0, hTO⟩, h1, h2⟩ := st'
    obtain ⟨xs, ys, hqx, hqy, hend⟩ := hg
    obtain ⟨its, rv, p⟩ := hqx.at I
    obtain ⟨its2, rv2, p2⟩ := hqy.at I
    have l1 := rv.length
    have l2 := rv2.length
    have he : if st then its.toArray[i]? = none ∧ its2.toArray[i]? = none else its.toArray[i]? = none ∨ its2.toArray[i]? = none := by
      cases st
      · simp only [Bool.false_eq_true, if_false] at hend ⊢
        rcases hend with q | q
        · exact .inl (by simp; omega)
        · exact .inr (by simp; omega)
      · simp only [if_true] at hend ⊢
        exact ⟨by simp; omega, by simp; omega⟩
    exact pyNext_zipG_end (I.ok.hd hc) D hz hTI hTO h1 h2 p p2 he fun h' hk => ⟨rfl, I.turnedL (t' := s.toks) (ch := [z, TI, TO, i1, i2]) (fun c o hb q =>
      hk c o (fun q' => hb (by simp [q'])) (fun q' => hb (by simp [q'])) (fun q' => hb (by simp [q'])) (fun q' => hb (by simp [q'])) q) hf⟩
  self := fun A i s Q E st h => pyIter_zipG st.1 h
def iZipG (K : PySem.W.Frag) (st : Bool) (ta : TA) : TI := fun σ H R => ta σ H fun vs H1 => ∃ a b xs ys, ∃ ka kb : Bool, vs = [.ref a, .ref b] ∧ SqK K ka H1 a xs ∧ SqK K kb H1 b ys ∧ R (ItzG K st ka kb a b) H1
section
variable {X : Cx} {e e2 : Expr} {ta : TA} {p pos tpos : Pos} {elts : List Expr} {kk : Nat}
/-- zip(e, e2) of any two of both kinds -/
theorem pi_zipG (hg : Gl X "zip") (hm : X.mg "zip" = none) (ha : PA X [e, e2] ta)
    (hs : starEach [e, e2] X.env = (false, eval e X.env) :: starEach [e2] X.env := by rfl) (hpl : (backTo pos (starEach [e2] X.env)).any (·.1) = false := by rfl) :
    PI X (.Tuple elts kk tpos) (.Call (.Name "zip" p) [e, e2] [] pos) (iZipG X.K false ta) := by
  refine ⟨fun pins s σ H R I h => ?_⟩
  refine Call_ (ld_blt I hg hm PyProof.Rows.boot_zip (PyProof.Rows.callWith_type1 (thn (ha.run pos pins s σ H _ I h) fun us s1 ⟨vs, H1, I1, r1, q1⟩ => ?_) hs hpl))
  obtain ⟨a, b, xs, ys, ka, kb, ex, hqx, hqy, q⟩ := q1
  subst ex
  cases r1 with
  | cons r rr =>
    cases rr with
    | cons r' rr =>
      cases rr
      cases r
      cases r'
      have fresh5 : ∀ c, c ∈ [s1.heap.objs.size + 4, s1.heap.objs.size + 2, s1.heap.objs.size + 3, s1.heap.objs.size, s1.heap.objs.size + 1] → FpOk X pins H1 c := fun c hcm => by
        have e' : c = s1.heap.objs.size + 4 ∨ c = s1.heap.objs.size + 2 ∨ c = s1.heap.objs.size + 3 ∨ c = s1.heap.objs.size ∨ c = s1.heap.objs.size + 1 := by simpa using hcm
        have hle : s1.heap.objs.size ≤ c := by omega
        exact I1.fpOk hle (I1.hok.fresh hle)
      obtain ⟨its, rv, p1⟩ := hqx.at I1
      obtain ⟨its2, rv2, p2⟩ := hqy.at I1
      refine call_zipG (st := false) p1 p2 fun h' hz hTI hTO h1 h2 hsz hk => pyIter_zipG hz ?_
      have I2 : Inv X pins σ H1 { s1 with heap := h' } := I1.kept (t' := s1.toks) hk
      exact ⟨s1.heap.objs.size + 4, [s1.heap.objs.size + 4, s1.heap.objs.size + 2, s1.heap.objs.size + 3, s1.heap.objs.size, s1.heap.objs.size + 1], _, _, H1, rfl, I2, turn_zipG (PySem.W.ktu_apart s1.heap.objs.size a b p1.lt p2.lt), ⟨hz, hTI, ⟨_, _, hTO⟩, h1, h2⟩, fresh5, q⟩
/-- zip(e, e2, strict=True) -/
theorem pi_zipS {jk : Nat} {pk kp : Pos} (hg : Gl X "zip") (hm : X.mg "zip" = none) (ha : PA X [e, e2] ta)
    (hs : backTo pos (starEach [e, e2] X.env) = (false, eval e X.env) :: backTo pos (starEach [e2] X.env) := by rfl) (hpl : (backTo pos (starEach [e, e2] X.env)).any (·.1) = false := by rfl) :
    PI X (.Tuple elts kk tpos) (.Call (.Name "zip" p) [e, e2] [⟨some "strict", .Constant (.bool true) jk pk, kp⟩] pos) (iZipG X.K true ta) := by
  refine ⟨fun pins s σ H R I h => ?_⟩
  refine wpAny_Call_Name_kw (ld_blt I hg hm PyProof.Rows.boot_zip ?_ (by decide) (by decide))
  refine callWith_typeK hpl rfl ?_
  rw [hs]
  refine PyProof.Rows.evalArgs_kwB rfl ?_
  rw [← hs]
  have hk : PK X [⟨some "strict", .Constant (.bool true) jk pk, kp⟩] (fun σ H Q => Q [V.bl true] H) := by
    have h1 := pk_cons (X := X) (nm := "strict") (kpos := kp) (pe_bl (X := X) (b := true) (j := jk) (pos := pk)) pk_nil
    exact ⟨fun pos pins s σ H Q J q => h1.run pos pins s σ H Q J q⟩
  refine thn (ha.run pos pins s σ H _ I h) fun us s1 ⟨vs, H1, I1, r1, q1⟩ => thn (hk.run pos pins s1 σ H1 (fun zs H2 => zs = [V.bl true] ∧ H2 = H1) I1 ⟨rfl, rfl⟩) fun ws s2 ⟨zs, H2, I2, rz, ez, eH⟩ => ?_
  subst ez eH
  obtain ⟨w1, rfl, e1⟩ := vals1 rz
  cases (show w1 = Value.bool true from e1)
  obtain ⟨a, b, xs, ys, ka, kb, ex, hqx, hqy, q⟩ := q1
  subst ex
  cases r1 with
  | cons r rr =>
    cases rr with
    | cons r' rr =>
      cases rr
      cases r
      cases r'
      have fresh5 : ∀ c, c ∈ [s2.heap.objs.size + 4, s2.heap.objs.size + 2, s2.heap.objs.size + 3, s2.heap.objs.size, s2.heap.objs.size + 1] → FpOk X pins H2 c := fun c hcm => by
        have e' : c = s2.heap.objs.size + 4 ∨ c = s2.heap.objs.size + 2 ∨ c = s2.heap.objs.size + 3 ∨ c = s2.heap.objs.size ∨ c = s2.heap.objs.size + 1 := by simpa using hcm
        have hle : s2.heap.objs.size ≤ c := by omega
        exact I2.fpOk hle (I2.hok.fresh hle)
      obtain ⟨its, rv, p1⟩ := hqx.at I2
      obtain ⟨its2, rv2, p2⟩ := hqy.at I2
      show wpAny _ _ (call (.type "zip") [.ref a, .ref b] (zipKw true)) _ _ _
      refine call_zipG (st := true) p1 p2 fun h' hz hTI hTO h1 h2 hsz hk => pyIter_zipG hz ?_
      have I3 : Inv X pins σ H2 { s2 with heap := h' } := I2.kept (t' := s2.toks) hk
      exact ⟨s2.heap.objs.size + 4, [s2.heap.objs.size + 4, s2.heap.objs.size + 2, s2.heap.objs.size + 3, s2.heap.objs.size, s2.heap.objs.size + 1], _, _, H2, rfl, I3, turn_zipG (PySem.W.ktu_apart s2.heap.objs.size a b p1.lt p2.lt), ⟨hz, hTI, ⟨_, _, hTO⟩, h1, h2⟩, fresh5, q⟩
end
end RZ

namespace Dk
open PySem L2
open RZ
section
variable {F : Fx} {X : Cx} {K : PySem.W.Frag} {W : Wd} {I : Hp} {e e2 : Expr} {ta : DAT} {p pos : Pos}
def SqI (K : PySem.W.Frag) (k : Bool) (I : Hp) (a : Addr) (vs : List V) : Prop := if k then I a = some (.lst vs) else SqT K I a vs
theorem SqI.to {k : Bool} {I H : Hp} {a : Addr} {vs : List V} (h : SqI K k I a vs) (s : Same I H) : SqK K k H a vs := by
  cases k
  · exact Same.seqT s (show SqT K I a vs from h)
  · exact SqL.of (s _ _ (show I a = some (.lst vs) from h))
theorem jr_zipG {st ka kb : Bool} {a b : Addr} {vs ws : List V} {ds es : List D} (h : SqI K ka I a vs) (r : Reps K I vs ds) (h' : SqI K kb I b ws) (r' : Reps K I ws es) (hl : st = true → ds.length = es.length) : JRep W K (ItzG K st ka kb a b) I (List.zipWith (fun d e => .tup [d, e]) ds es) where
  go := fun i I2 H2 s st hi => by
    rw [List.length_zipWith] at hi
    have hv : i < vs.length := by rw [r.length]; omega
    have hw : i < ws.length := by rw [r'.length]; omega
    exact ⟨vs, ws, vs[i], ws[i], h.to (Same.trans s st.sub), h'.to (Same.trans s st.sub), by simp [hv], by simp [hw]⟩
  yld := fun i I2 H2 v H3 hi s st ⟨T, x, x', ev, hT, eH, y, y'⟩ => by
    subst ev eH
    obtain ⟨d, h1, h2⟩ := (r.mono s).getV (y vs (h.to (Same.trans s st.sub)))
    obtain ⟨e, h3, h4⟩ := (r'.mono s).getV (y' ws (h'.to (Same.trans s st.sub)))
    have l := st.laid hT (.tup [x, x'])
    refine ⟨.tup [d, e], _, ?_, l, .tup (.of upd_same) (.cons (h2.mono l.i) (.cons (h4.mono l.i) .nil))⟩
    rw [List.getElem?_zipWith, h1, h3]
  stop := fun I2 H2 s sti => ⟨vs, ws, h.to (Same.trans s sti.sub), h'.to (Same.trans s sti.sub), by
    rw [r.length, r'.length, List.length_zipWith]
    cases st
    · simp only [Bool.false_eq_true, if_false]; omega
    · have := hl rfl; simp only [if_true]; omega⟩
/-- what may be zipped -/
def seqD : D → Option (List D)
  | .lst xs => some xs
  | .tup xs => some xs
  | _ => none
def zipGD (st : Bool) (ds : List D) (Q : List D → Prop) : Prop := ∃ d e xs ys, ds = [d, e] ∧ seqD d = some xs ∧ seqD e = some ys ∧ (st = true → xs.length = ys.length) ∧ Q (List.zipWith (fun d e => .tup [d, e]) xs ys)
theorem zipGD.mono {st : Bool} {ds : List D} {Q Q' : List D → Prop} (k : ∀ ds, Q ds → Q' ds) : zipGD st ds Q → zipGD st ds Q' := fun ⟨d, e, xs, ys, a, b, c, l, q⟩ => ⟨d, e, xs, ys, a, b, c, l, k _ q⟩
theorem seqD_rep {v : V} {d : D} {xs : List D} (h : seqD d = some xs) (r : Rep K I v d) : ∃ (k : Bool) (a : Addr) (vs : List V), v = .ref a ∧ SqI K k I a vs ∧ Reps K I vs xs := by
  cases r with
  | lst a r => cases h; exact ⟨true, _, _, rfl, a, r⟩
  | tup a r => cases h; exact ⟨false, _, _, rfl, a, r⟩
  | _ => cases h
theorem zipG_lift {st : Bool} {F : Fx} {I H : Hp} {ds : List D} {vs : List V} {R : It → Hp → Prop} (s : StI F.W I H) (rs : Reps K I vs ds) (q : zipGD st ds (finI F K I H R)) :
    ∃ a b xs ys, ∃ ka kb : Bool, vs = [.ref a, .ref b] ∧ SqK K ka H a xs ∧ SqK K kb H b ys ∧ R (ItzG K st ka kb a b) H := by
  obtain ⟨d, e, xs, ys, rfl, h1, h2, hl, q⟩ := q
  cases rs with
  | cons r1 r2 =>
    cases r2 with
    | cons r2 r3 =>
      cases r3
      obtain ⟨ka, a, us, rfl, s1, t1⟩ := seqD_rep h1 r1
      obtain ⟨kb, b, ws, rfl, s2, t2⟩ := seqD_rep h2 r2
      exact ⟨a, b, us, ws, ka, kb, rfl, s1.to s.sub, s2.to s.sub, q _ _ _ s.stp (jr_zipG s1 t1 s2 t2 hl)⟩
theorem di_zipG {elts : List Expr} {kk : Nat} {tpos : Pos} (hm : X.mg "zip" = none) (ha : DA F X [e, e2] ta) (hg : Gl X "zip" := by rfl) (hs : starEach [e, e2] X.env = (false, eval e X.env) :: starEach [e2] X.env := by rfl) (hpl : (backTo pos (starEach [e2] X.env)).any (·.1) = false := by rfl) :
    DI F X (.Tuple elts kk tpos) (.Call (.Name "zip" p) [e, e2] [] pos) (fun ρ Q => ta ρ fun ds => zipGD false ds Q) :=
  ⟨fun ρ Q Q' k q => ha.mono _ _ _ (fun ds => zipGD.mono k) q, (pi_zipG hg hm ha.run hs hpl).imp fun σ H R ⟨I, ρ, A, q⟩ => rdA_next ha.mono A q fun ds vs I' H' p s rs =>
    zipG_lift s.st rs (zipGD.mono (fun ds q J I2 H2 s2 jr => q J I2 H2 (s.trans s2) jr) p)⟩
theorem di_zipS {elts : List Expr} {kk jk : Nat} {tpos pk kp : Pos} (hm : X.mg "zip" = none) (ha : DA F X [e, e2] ta) (hg : Gl X "zip" := by rfl) (hs : backTo pos (starEach [e, e2] X.env) = (false, eval e X.env) :: backTo pos (starEach [e2] X.env) := by rfl) (hpl : (backTo pos (starEach [e, e2] X.env)).any (·.1) = false := by rfl) :
    DI F X (.Tuple elts kk tpos) (.Call (.Name "zip" p) [e, e2] [⟨some "strict", .Constant (.bool true) jk pk, kp⟩] pos) (fun ρ Q => ta ρ fun ds => zipGD true ds Q) :=
  ⟨fun ρ Q Q' k q => ha.mono _ _ _ (fun ds => zipGD.mono k) q, (pi_zipS hg hm ha.run hs hpl).imp fun σ H R ⟨I, ρ, A, q⟩ => rdA_next ha.mono A q fun ds vs I' H' p s rs =>
    zipG_lift s.st rs (zipGD.mono (fun ds q J I2 H2 s2 jr => q J I2 H2 (s.trans s2) jr) p)⟩
end
end Dk

/-! repr of anything (the call); x == () of any tuple; `is True`. -/
namespace Dk
open PySem L2 PySem.Spec
section
variable {X : Cx} {pins : List (Addr × Obj)} {σ : St} {I H : Hp} {s : Shared}
theorem shows_lst {h : Heap} {a : Addr} {o : Obj} {vs : Array Value} {n : Nat} {ps : List PyData} (ho : h.get? a = some o) (hc : o.cls = .type "list") (hd : o.data = .seq vs n) (k : Rks X h vs.toList ps) (hz : (PyData.list ps).shown.length ≤ sizeLine) : ∃ T idr, ShowsBy X.prog X.w h a (.list ps) T idr := by
  obtain ⟨as, bs, r1, m1, k1⟩ := k.ex
  have r : Reads h (.ref a) (.list ps) _ := .list ho hc hd r1
  have fr : a ∉ bs := not_mem_of_deeper r (by simp only [PyData.depth]; omega) m1
  have hz2 : (listText (PyData.shownAll ps)).length ≤ sizeLine := by simpa only [PyData.shown] using hz
  refine ⟨"list", "list.__repr__", F.slot_list_repr.toG, F.slot_list_str, F.slot_list_format, fun s e => ⟨o, e _ _ ho, hc⟩, fun A E s Q hg hu e hQ => ?_⟩
  simp only [PyData.depth] at hu
  simp only [PyData.shown] at hQ
  obtain ⟨l⟩ := vs
  cases l with
  | nil =>
    have r0 : ReadsAll h [] ps _ := r1
    cases r0
    simp only [PyData.shownAll, listText_nil] at hQ
    exact call_list_repr_empty ⟨o, e _ _ ho, hc⟩ (e _ _ ho) hd (hQ s.heap _ _ fun _ _ z => z)
  | cons x l => exact call_list_reprK ho hc hd fr (by simpa using k1.length_eq) (fun i y q => k1.item i y (by simpa using q)) hg (fun b _ => Clear.nil b) hu e hQ hz2
theorem shows_tup {h : Heap} {a : Addr} {o : Obj} {vs : Array Value} {n : Nat} {ps : List PyData} (ho : h.get? a = some o) (hc : o.cls = .type "tuple") (hd : o.data = .seq vs n) (k : Rks X h vs.toList ps) (hz : (PyData.tuple ps).shown.length ≤ sizeLine) : ∃ T idr, ShowsBy X.prog X.w h a (.tuple ps) T idr := by
  obtain ⟨as, bs, r1, m1, k1⟩ := k.ex
  have r : Reads h (.ref a) (.tuple ps) _ := .tuple ho hc hd r1
  have fr : a ∉ bs := not_mem_of_deeper r (by simp only [PyData.depth]; omega) m1
  have hz2 : (tupleText (PyData.shownAll ps)).length ≤ sizeLine := by simpa only [PyData.shown] using hz
  refine ⟨"tuple", "tuple.__repr__", F.slot_tuple_repr, F.slot_tuple_str, F.slot_tuple_format, fun s e => ⟨o, e _ _ ho, hc⟩, fun A E s Q hg hu e hQ => ?_⟩
  simp only [PyData.depth] at hu
  simp only [PyData.shown] at hQ
  exact call_tuple_reprK ho hc hd fr k1 hg (fun b _ => Clear.nil b) hu e hQ hz2
theorem shows_dic {h : Heap} {a : Addr} {o : Obj} {es : Array DictEntry} {n : Nat} {ps : List (PyData × PyData)} (ho : h.get? a = some o) (hc : o.cls = .type "dict") (hd : o.data = .dict es n) (hs : (a == sysModules) = false)
    (k : Rks X h (es.toList.map (·.key)) (ps.map (·.1))) (k' : Rks X h (es.toList.map (·.val)) (ps.map (·.2))) (hz : (PyData.dict ps).shown.length ≤ sizeLine) : ∃ T idr, ShowsBy X.prog X.w h a (.dict ps) T idr := by
  obtain ⟨as, b1, r1, m1, k1⟩ := k.ex
  obtain ⟨as2, b2, r2, m2, k2⟩ := k'.ex
  have r : Reads h (.ref a) (.dict ps) _ := .dict ho hc hd r1 r2
  have m : ReadAtMost h (PyData.depthKv ps) (b1 ++ b2) := (m1.mono (PyData.depthAll_keys_le ps)).append (m2.mono (PyData.depthAll_vals_le ps))
  have fr : a ∉ b1 ++ b2 := not_mem_of_deeper r (by simp only [PyData.depth]; omega) m
  have hz2 : (dictText (PyData.shownKv ps)).length ≤ sizeLine := by simpa only [PyData.shown] using hz
  refine ⟨"dict", "dict.__repr__", F.slot_dict_repr, F.slot_dict_str, F.slot_dict_format, fun s e => ⟨o, e _ _ ho, hc⟩, fun A E s Q hg hu e hQ => ?_⟩
  simp only [PyData.depth] at hu
  simp only [PyData.shown, PyData.shownKv_eq] at hQ
  exact call_dict_reprK ho hc hd hs fr (ReprEntriesK.of_two es.toList _ _ (k1.more_le (fun c hc => List.mem_append_left _ hc) (PyData.depthAll_keys_le ps)) (k2.more_le (fun c hc => List.mem_append_right _ hc) (PyData.depthAll_vals_le ps))) hg (fun b _ => Clear.nil b) hu e hQ (by rw [← PyData.shownKv_eq]; exact hz2)
/-- repr of anything -/
def reprF : List D → (D → Prop) → Prop
  | [d], Q => shF d = true ∧ shortP (pyF d) = true ∧ (pyF d).depth ≤ 62 ∧ (pyF d).shown.length ≤ sizeLine ∧ Q (.str (pyF d).shown)
  | _, _ => False
theorem mono_reprF : MonoN reprF := by
  intro ds Q Q' k h
  unfold reprF at h ⊢
  split at h
  · exact ⟨h.1, h.2.1, h.2.2.1, h.2.2.2.1, k _ h.2.2.2.2⟩
  · exact h.elim
def RReprF (K : PySem.W.Frag) : List V → Hp → VK → Prop := fun xs H Q => ∃ v d I, xs = [v] ∧ Same I H ∧ Rep K I v d ∧ shF d = true ∧ shortP (pyF d) = true ∧ (pyF d).depth ≤ 62 ∧ (pyF d).shown.length ≤ sizeLine ∧ Q (.str (pyF d).shown) H
theorem call_reprF (hg : X.A.guards = some []) (hu : X.A.units + 64 < cLine) : CallR X (.builtin "repr") (RReprF X.K) := by
  rintro pins s σ H xs us Q J r ⟨v, d, I, rfl, st, rp, h0, h1, h2, h3, q⟩
  obtain ⟨u, rfl, ru⟩ := vals1 r
  have fin : ∀ (tk : Nat) (u' : Tok), EP X pins σ Q (.str (pyF d).shown u') { s with toks := tk } := fun tk u' => ⟨.str (pyF d).shown, H, J.tok tk, ⟨u', rfl⟩, q⟩
  have go : ∀ a, u = .ref a → (∃ T idr, ShowsBy X.prog X.w s.heap a (pyF d) T idr) → wpAny (model X.prog X.w) X.A (call (.builtin "repr") [u]) (EP X pins σ Q) X.xe s := by
    rintro a rfl ⟨T, idr, S⟩
    exact call_repr_slot (by omega) (S.typeIs s fun _ _ e => e) S.slotRepr (S.call X.A.in1 X.xe s _ hg (by show X.A.units + 1 + (pyF d).depth < cLine; omega) (fun _ _ e => e) fun h' u tk hk => ⟨_, _, rfl, ⟨.str _, H, J.kept hk, ⟨u, rfl⟩, q⟩⟩)
  cases rp with
  | non => cases ru; exact PySem.P.repr_of_none (by unfold pyF PyData.shown at fin; exact fin _ _)
  | bl b => cases ru; exact PySem.P.repr_of_bool (by unfold pyF PyData.shown at fin; exact fin _ _)
  | int i =>
    obtain ⟨t, rfl⟩ := ru
    unfold pyF at h1 fin
    simp only [shortP, decide_eq_true_eq] at h1
    exact PySem.P.repr_of_int h1 (by unfold PyData.shown at fin; exact fin _ _)
  | str x =>
    obtain ⟨t, rfl⟩ := ru
    unfold pyF PyData.shown at fin h3
    exact PySem.P.repr_of_str (fin _ _) h3
  | @tup a vs xs ha rs =>
    cases (show u = Value.ref a from ru)
    unfold shF at h0
    unfold pyF shortP at h1
    unfold pyF at h3 go
    obtain ⟨its, rv, ⟨o, ho, hc, n, hd⟩, _⟩ := J.tuple (Same.seqT st ha)
    exact go a rfl (shows_tup ho hc hd (rk_anys J st xs h0 h1 rs rv) h3)
  | @lst a vs xs ha rs =>
    cases (show u = Value.ref a from ru)
    unfold shF at h0
    unfold pyF shortP at h1
    unfold pyF at h3 go
    obtain ⟨its, rv, pl, _⟩ := J.list (.of (st _ _ ha))
    obtain ⟨o, ho, hc, n, hd⟩ := pl.isList
    exact go a rfl (shows_lst ho hc hd (rk_anys J st xs h0 h1 rs rv) h3)
  | @dic a ws kvs ha kk rr =>
    cases (show u = Value.ref a from ru)
    unfold shF at h0
    unfold pyF shortP at h1
    unfold pyF at h3 go
    obtain ⟨_, sy, vs, kv, o, es, ep, ho, ex, hd, _, pr, _⟩ := dk_of J.hok (st _ _ ha)
    obtain ⟨k1, k2⟩ := rk_anyk J st kvs h0 h1 kk rr kv pr
    exact go a rfl (shows_dic ho ex.1 hd sy k1 k2 h3)
  | obj _ _ _ => unfold shF at h0; cases h0
  | opq _ => unfold shF at h0; cases h0
  | dfz _ _ _ => unfold shF at h0; cases h0
end
section
variable {F : Fx} {X : Cx} {e a b : Expr} {te ta tb : DT} {t : DAT} {p pos : Pos}
theorem de_reprF (hm : X.mg "repr" = none) (hg : X.A.guards = some []) (hu : X.A.units + 64 < cLine) (ha : DA F X [e] t) (hgl : Gl X "repr" := by rfl) (he : starEach [e] X.env = (false, eval e X.env) :: starEach [] X.env := by rfl) : DE F X (.Call (.Name "repr" p) [e] [] pos) (fun ρ Q => t ρ fun ds => reprF ds Q) := by
  refine de_callB (id := "repr") mono_reprF (fun vs ds I H Q st rs h => ?_) (call_reprF hg hu) hm (by decide +kernel) ha hgl (by decide) (by decide) he rfl
  match ds, rs, h with
  | [], _, h => exact h.elim
  | _ :: _ :: _, _, h => exact h.elim
  | [d], rs, h =>
    obtain ⟨h0, h1, h2, h3, q⟩ := h
    obtain ⟨v, rfl, rv⟩ := rs.one
    exact ⟨v, d, I, rfl, st.sub, rv, h0, h1, h2, h3, q _ _ _ st.stp (.str _)⟩
/-! ### == () of any tuple -/
def RT0 (K : PySem.W.Frag) : R2 := fun x y H Q => ∃ a b xs, x = .ref a ∧ y = .ref b ∧ SqT K H a xs ∧ SqT K H b [] ∧ Q (.bl xs.isEmpty) H
theorem or_eqT0 (hu : X.A.units < cLine) : OpR X (compareOp .Eq) (RT0 X.K) := by
  intro pins s σ H x y v u Q J rx ry h
  obtain ⟨l, m, xs, rfl, rfl, hx, hy, q⟩ := h
  cases rx
  cases ry
  obtain ⟨its, rv, t1, _⟩ := J.tuple hx
  obtain ⟨its2, rv2, t2, _⟩ := J.tuple hy
  cases rv2
  show wpAny (model X.prog X.w) X.A (richCompare .Eq (.ref l) (.ref m)) (EP X pins σ Q) X.xe s
  refine SeqAt.RcAt.tuples (e := fun _ => true) (show s.heap.IsTuple l its.toArray from t1) (show s.heap.IsTuple m #[] from t2) hu (fun j _ h2 => absurd h2 (Nat.not_lt_zero _)) X.prog X.w _ _ ?_
  have e : ((List.range (min its.toArray.size (#[] : Array Value).size)).all (fun _ => true) && its.toArray.size == (#[] : Array Value).size) = xs.isEmpty := by
    have hl := rv.length
    have : its.toArray.size = xs.length := by simp [hl]
    rw [this]
    cases xs <;> simp
  rw [e]
  exact ⟨.bl _, H, J, rfl, q⟩
def eqT0 (x y : D) (Q : D → Prop) : Prop := ∃ xs, x = .tup xs ∧ y = .tup [] ∧ Q (.bl xs.isEmpty)
theorem mono_eqT0 : Mono2 eqT0 := fun x y Q Q' k ⟨xs, a, b, q⟩ => ⟨xs, a, b, k _ q⟩
theorem lf_eqT0 {K : PySem.W.Frag} : LiftR F K (RT0 K) eqT0 := by
  rintro x y dx dy I H Q st rx ry ⟨xs, rfl, rfl, q⟩
  cases rx with
  | @tup a vs _ ha rs =>
    cases ry with
    | @tup b ws _ hb rs2 =>
      cases rs2
      refine ⟨a, b, vs, rfl, rfl, Same.seqT st.sub ha, Same.seqT st.sub hb, ?_⟩
      have e : vs.isEmpty = xs.isEmpty := by have := rs.length; cases vs <;> cases xs <;> simp_all
      rw [e]
      exact q _ _ _ st.stp (.bl _)
theorem de_eqT0 (hu : X.A.units + 64 < cLine) (ha : DE F X a ta) (hb : DE F X b tb) (hm : behindInMarks .Eq b = false := by rfl) : DE F X (.Compare a [.Eq] [b] pos) (fun ρ Q => ta ρ fun x => tb ρ fun y => eqT0 x y Q) := de_cmp mono_eqT0 (or_eqT0 (by omega)) lf_eqT0 ha hb hm
theorem dt_eqT0 (hu : X.A.units + 64 < cLine) (ha : DE F X a ta) (hb : DE F X b tb) (hm : behindInMarks .Eq b = false := by rfl) : DTest F X (.Compare a [.Eq] [b] pos) (fun ρ Q => ta ρ fun x => tb ρ fun y => eqT0 x y fun z => boolD z Q) := dt_cmp mono_eqT0 (or_eqT0 (by omega)) lf_eqT0 ha hb hm
/-! ### is True -/
def RIsB (neg : Bool) : R2 := fun x y H Q => ∃ m n, x = .bl m ∧ y = .bl n ∧ Q (.bl (flip neg (decide (m = n)))) H
theorem or_isB : OpR X (compareOp .Is) (RIsB false) := by
  rintro pins s σ H x y v u Q J rx ry ⟨m, n, rfl, rfl, q⟩
  cases (show v = Value.bool m from rx)
  cases (show u = Value.bool n from ry)
  by_cases e : m = n
  · subst e
    exact PySem.wpAny_is_self rfl ⟨.bl true, H, J, rfl, by simpa [flip] using q⟩
  · exact PySem.wpAny_is_other rfl (fun z => e (Value.bool.inj z)) ⟨.bl false, H, J, rfl, by simpa [e, flip] using q⟩
theorem or_isNotB : OpR X (compareOp .IsNot) (RIsB true) := by
  rintro pins s σ H x y v u Q J rx ry ⟨m, n, rfl, rfl, q⟩
  cases (show v = Value.bool m from rx)
  cases (show u = Value.bool n from ry)
  by_cases e : m = n
  · subst e
    exact PySem.wpAny_isNot_self rfl ⟨.bl false, H, J, rfl, by simpa [flip] using q⟩
  · exact PySem.wpAny_isNot_other rfl (fun z => e (Value.bool.inj z)) ⟨.bl true, H, J, rfl, by simpa [e, flip] using q⟩
def isB (neg : Bool) (x y : D) (Q : D → Prop) : Prop := ∃ m n, x = .bl m ∧ y = .bl n ∧ Q (.bl (flip neg (decide (m = n))))
theorem mono_isB {neg : Bool} : Mono2 (isB neg) := fun x y Q Q' k ⟨m, n, a, b, q⟩ => ⟨m, n, a, b, k _ q⟩
theorem lf_isB {K : PySem.W.Frag} {neg : Bool} : LiftR F K (RIsB neg) (isB neg) := by
  rintro x y dx dy I H Q st rx ry ⟨m, n, rfl, rfl, q⟩
  cases rx
  cases ry
  exact ⟨m, n, rfl, rfl, q _ _ _ st.stp (.bl _)⟩
theorem de_isB (ha : DE F X a ta) (hb : DE F X b tb) (hm : behindInMarks .Is b = false := by first | exact nomark _ | rfl) : DE F X (.Compare a [.Is] [b] pos) (fun ρ Q => ta ρ fun x => tb ρ fun y => isB false x y Q) := de_cmp mono_isB or_isB lf_isB ha hb hm
theorem de_notB (ha : DE F X a ta) (hb : DE F X b tb) (hm : behindInMarks .IsNot b = false := by first | exact nomark _ | rfl) : DE F X (.Compare a [.IsNot] [b] pos) (fun ρ Q => ta ρ fun x => tb ρ fun y => isB true x y Q) := de_cmp mono_isB or_isNotB lf_isB ha hb hm
theorem dt_isB (ha : DE F X a ta) (hb : DE F X b tb) (hm : behindInMarks .Is b = false := by first | exact nomark _ | rfl) : DTest F X (.Compare a [.Is] [b] pos) (fun ρ Q => ta ρ fun x => tb ρ fun y => isB false x y fun z => boolD z Q) := dt_cmp mono_isB or_isB lf_isB ha hb hm
theorem dt_notB (ha : DE F X a ta) (hb : DE F X b tb) (hm : behindInMarks .IsNot b = false := by first | exact nomark _ | rfl) : DTest F X (.Compare a [.IsNot] [b] pos) (fun ρ Q => ta ρ fun x => tb ρ fun y => isB true x y fun z => boolD z Q) := dt_cmp mono_isB or_isNotB lf_isB ha hb hm
end
end Dk

/-! Things of any shape: what they weigh, how deep they are; that they may be shown. -/
namespace KB
open PySem L2 Dk
/-- signs from the blank to ~ -/
def ascii (x : Str) : Bool := x.cps.all fun c => decide (32 ≤ c ∧ c < 127)
def keyOk : Key → Bool
  | .inl i => decide (i.natAbs.log2 < 1900)
  | .inr x => ascii x
def keyWt : Key → Nat
  | .inl i => i.natAbs.log2 + 12
  | .inr x => 10 * x.length + 2
mutual
def gd : D → Bool
  | .dic kvs => gdk kvs
  | .tup xs => gds xs
  | .lst xs => gds xs
  | .bl _ => true
  | .int _ => true
  | .str x => ascii x
  | .non => true
  | .obj _ _ => false
  | .opq _ => false
  | .dfz _ => false
def gds : List D → Bool
  | [] => true
  | d :: ds => gd d && gds ds
def gdk : List (Key × D) → Bool
  | [] => true
  | (k, d) :: ds => keyOk k && (gd d && gdk ds)
end
mutual
def wtD : D → Nat
  | .dic kvs => wtk kvs + 12
  | .tup xs => wts xs + 13
  | .lst xs => wts xs + 13
  | .bl _ => 10
  | .int i => 40 * i.natAbs.log2 + 12
  | .str x => 10 * x.length + 12
  | .non => 10
  | .obj _ _ => 10
  | .opq _ => 10
  | .dfz _ => 10
def wts : List D → Nat
  | [] => 0
  | d :: ds => wtD d + 2 + wts ds
def wtk : List (Key × D) → Nat
  | [] => 0
  | (k, d) :: ds => keyWt k + 2 + wtD d + 2 + wtk ds
end
def dpD (d : D) : Nat := (pyF d).depth
theorem ascii_ok {x : Str} (h : ascii x = true) : PyData.strOk x = true := by
  unfold ascii at h
  unfold PyData.strOk
  rw [Array.all_eq_true] at h ⊢
  intro i hi
  have := h i hi
  rw [decide_eq_true_eq] at this ⊢
  omega
theorem gds_mem : ∀ {xs : List D}, gds xs = true ↔ ∀ x ∈ xs, gd x = true
  | [] => by simp [gds]
  | x :: xs => by simp [gds, gds_mem (xs := xs)]
theorem wts_app : ∀ xs ys : List D, wts (xs ++ ys) = wts xs + wts ys
  | [], ys => by simp [wts]
  | x :: xs, ys => by simp only [List.cons_append, wts, wts_app xs ys]; omega
theorem wts_mem : ∀ {xs : List D} {x : D}, x ∈ xs → wtD x + 2 ≤ wts xs
  | y :: ys, x, h => by
    rcases List.mem_cons.mp h with rfl | h
    · simp only [wts]; omega
    · have := wts_mem h
      simp only [wts]; omega
theorem wt_pos (d : D) : 10 ≤ wtD d := by cases d <;> simp only [wtD] <;> omega
theorem wts_len : ∀ xs : List D, 12 * xs.length ≤ wts xs
  | [] => by simp
  | x :: xs => by have := wts_len xs; have := wt_pos x; simp only [wts, List.length_cons]; omega
theorem wts_take_drop (n : Nat) (xs : List D) : wts (xs.take n) + wts (xs.drop n) = wts xs := by
  rw [← wts_app, List.take_append_drop]
theorem wts_rev : ∀ xs : List D, wts xs.reverse = wts xs
  | [] => rfl
  | x :: xs => by rw [List.reverse_cons, wts_app, wts_rev xs]; simp only [wts]; omega
theorem shown_join : ∀ ps : List PyData, (∀ p ∈ ps, PyData.strOk p.shown = true) → (Str.join ", " (PyData.shownAll ps)).length ≤ (ps.map fun p => p.shown.length + 2).sum ∧ PyData.strOk (Str.join ", " (PyData.shownAll ps)) = true := by
  intro ps h
  refine ⟨?_, ?_⟩
  · clear h
    induction ps with
    | nil => simp only [PyData.shownAll, List.map_nil, List.sum_nil]; exact Nat.le_refl _
    | cons p r ih =>
      cases r with
      | nil => simp only [PyData.shownAll, List.map_cons, List.map_nil, List.sum_cons, List.sum_nil]; show p.shown.length ≤ _; omega
      | cons q r =>
        simp only [PyData.shownAll, List.map_cons, List.sum_cons] at ih ⊢
        show (p.shown ++ ", " ++ Str.join ", " (q.shown :: PyData.shownAll r)).length ≤ _
        rw [len_app, len_app]
        have e2 : (", " : Str).length = 2 := rfl
        omega
  · rw [shownAll_eq]
    refine ok_join (ok_lit ", ") fun p hp => ?_
    obtain ⟨d, hd, rfl⟩ := List.mem_map.mp hp
    exact h d hd
theorem log_len {i : Int} (h : i.natAbs.log2 < 1900) : (PyData.int i).shown.length ≤ i.natAbs.log2 + 12 ∧ PyData.strOk (PyData.int i).shown = true := by
  have e : (PyData.int i).shown = Str.ofString (toString i) := by simp only [PyData.shown]
  rw [e]
  refine ⟨?_, ok_lit _⟩
  rw [PySem.ofString_length]
  have := PySem.int_text_length_le (a := i) (k := i.natAbs.log2 + 1) (by omega) (by omega)
  omega
mutual
theorem shown_any : ∀ d : D, gd d = true → wtD d ≤ 76000 → shF d = true ∧ shortP (pyF d) = true ∧ (pyF d).shown.length ≤ wtD d ∧ PyData.strOk (pyF d).shown = true
  | .non, _, _ => by simp only [pyF, shF, shortP, wtD, PyData.shown, true_and]; exact ⟨by decide, ok_lit _⟩
  | .bl b, _, _ => by cases b <;> (simp only [pyF, shF, shortP, wtD, PyData.shown, true_and]; exact ⟨by decide, ok_lit _⟩)
  | .int i, _, w => by
    simp only [wtD] at w
    have h : i.natAbs.log2 < 1900 := by omega
    simp only [pyF, shF, shortP, wtD, decide_eq_true_eq, true_and]
    exact ⟨by omega, Nat.le_trans (log_len h).1 (by omega), (log_len h).2⟩
  | .str x, h, w => by
    simp only [gd] at h
    simp only [wtD] at w
    have h2 := Sn.str (m := x.length) (Nat.le_refl _) (ascii_ok h)
    simp only [pyF, shF, shortP, wtD, decide_eq_true_eq, true_and]
    refine ⟨?_, Nat.le_trans h2.ln (by omega), h2.ok⟩
    have := h2.ln
    have e : (PyData.str x).shown = reprText x := by simp only [PyData.shown]
    rw [e] at this
    rw [sizeLine_eq]
    omega
  | .tup xs, h, w => by
    simp only [gd] at h
    simp only [wtD] at w
    obtain ⟨a, b, c, d⟩ := shown_anys xs h (by omega)
    obtain ⟨l, o⟩ := shown_join (pyFs xs) d
    simp only [pyF, shF, shortP, wtD, a, b, true_and]
    rw [PyData.shown_tuple]
    refine ⟨?_, ok_app (ok_app (ok_lit _) o) (ok_lit _)⟩
    rw [len_app, len_app]
    have e1 : ("(" : Str).length = 1 := rfl
    have h3 : (((if (pyFs xs).length == 1 then ",)" else ")" : String) : Str)).length ≤ 2 := by split <;> decide
    omega
  | .lst xs, h, w => by
    simp only [gd] at h
    simp only [wtD] at w
    obtain ⟨a, b, c, d⟩ := shown_anys xs h (by omega)
    obtain ⟨l, o⟩ := shown_join (pyFs xs) d
    simp only [pyF, shF, shortP, wtD, a, b, true_and]
    rw [PyData.shown_list]
    refine ⟨?_, ok_app (ok_app (ok_lit _) o) (ok_lit _)⟩
    rw [len_app, len_app]
    have e1 : ("[" : Str).length = 1 := rfl
    have e3 : ("]" : Str).length = 1 := rfl
    omega
  | .dic kvs, h, w => by
    simp only [gd] at h
    simp only [wtD] at w
    obtain ⟨a, b, c, d⟩ := shown_anyk kvs h (by omega)
    simp only [pyF, shF, shortP, wtD, a, b, true_and]
    rw [PyData.shown_dict]
    refine ⟨?_, ok_app (ok_app (ok_lit _) d) (ok_lit _)⟩
    rw [len_app, len_app]
    have e1 : ("{" : Str).length = 1 := rfl
    have e3 : ("}" : Str).length = 1 := rfl
    omega
  | .obj _ _, h, _ => by simp [gd] at h
  | .opq _, h, _ => by simp [gd] at h
  | .dfz _, h, _ => by simp [gd] at h
theorem shown_anys : ∀ xs : List D, gds xs = true → wts xs ≤ 76000 → shFs xs = true ∧ shortPs (pyFs xs) = true ∧ ((pyFs xs).map fun p => p.shown.length + 2).sum ≤ wts xs ∧ ∀ p ∈ pyFs xs, PyData.strOk p.shown = true
  | [], _, _ => by simp [pyFs, shFs, shortPs, wts]
  | x :: xs, h, w => by
    simp only [gds, Bool.and_eq_true] at h
    simp only [wts] at w
    obtain ⟨a, b, c, d⟩ := shown_any x h.1 (by omega)
    obtain ⟨a', b', c', d'⟩ := shown_anys xs h.2 (by omega)
    simp only [pyFs, shFs, shortPs, wts, a, b, a', b', Bool.and_self, true_and, List.map_cons, List.sum_cons]
    refine ⟨by omega, fun p hp => ?_⟩
    rcases List.mem_cons.mp hp with rfl | hp
    · exact d
    · exact d' p hp
theorem shown_anyk : ∀ ks : List (Key × D), gdk ks = true → wtk ks ≤ 76000 → shFk ks = true ∧ shortPk (pyFk ks) = true ∧ (Str.join ", " (PyData.shownKv (pyFk ks))).length ≤ wtk ks ∧ PyData.strOk (Str.join ", " (PyData.shownKv (pyFk ks))) = true
  | [], _, _ => by simp only [pyFk, shFk, shortPk, wtk, PyData.shownKv, true_and]; exact ⟨Nat.le_refl _, ok_join (ok_lit _) fun p hp => by cases hp⟩
  | (k, x) :: ks, h, w => by
    simp only [gdk, Bool.and_eq_true] at h
    simp only [wtk] at w
    obtain ⟨a, b, c, d⟩ := shown_any x h.2.1 (by omega)
    obtain ⟨a', b', c', d'⟩ := shown_anyk ks h.2.2 (by omega)
    have key : shortP (toPy (keyD k)) = true ∧ (toPy (keyD k)).shown.length ≤ keyWt k ∧ PyData.strOk (toPy (keyD k)).shown = true := by
      cases k with
      | inl i =>
        have h1 := h.1
        simp only [keyOk, decide_eq_true_eq] at h1
        simp only [keyD, toPy, shortP, keyWt, decide_eq_true_eq]
        exact ⟨by omega, log_len h1⟩
      | inr y =>
        have h1 := h.1
        simp only [keyOk] at h1
        simp only [keyWt] at w
        have h2 := Sn.str (m := y.length) (Nat.le_refl _) (ascii_ok h1)
        simp only [keyD, toPy, shortP, keyWt, decide_eq_true_eq]
        refine ⟨?_, h2.ln, h2.ok⟩
        have := h2.ln
        have e : (PyData.str y).shown = reprText y := by simp only [PyData.shown]
        rw [e] at this
        rw [sizeLine_eq]
        omega
    have one : ((toPy (keyD k)).shown ++ ": " ++ (pyF x).shown).length ≤ keyWt k + 2 + wtD x ∧ PyData.strOk ((toPy (keyD k)).shown ++ ": " ++ (pyF x).shown) = true := by
      refine ⟨?_, ok_app (ok_app key.2.2 (ok_lit _)) d⟩
      rw [len_app, len_app]
      have e2 : (": " : Str).length = 2 := rfl
      have := key.2.1
      omega
    simp only [pyFk, shFk, shortPk, wtk, a, b, a', b', key.1, Bool.and_self, true_and, PyData.shownKv]
    cases ks with
    | nil =>
      simp only [pyFk, PyData.shownKv, wtk]
      exact ⟨Nat.le_trans one.1 (by omega), one.2⟩
    | cons p ks =>
      obtain ⟨k2, x2⟩ := p
      simp only [pyFk, PyData.shownKv] at c' d' ⊢
      have e : ∀ (a b : Str) (r : List Str), Str.join ", " (a :: b :: r) = a ++ ", " ++ Str.join ", " (b :: r) := fun _ _ _ => rfl
      rw [e]
      refine ⟨?_, ok_app (ok_app one.2 (ok_lit _)) d'⟩
      rw [len_app, len_app]
      have e2 : (", " : Str).length = 2 := rfl
      have := one.1
      omega
end
theorem repr_any {d : D} {Q : D → Prop} (h : gd d = true) (w : wtD d ≤ 76000) (dp : dpD d ≤ 62) (q : Q (.str (pyF d).shown)) : reprF [d] Q := by
  obtain ⟨a, b, c, _⟩ := shown_any d h w
  exact ⟨a, b, dp, Nat.le_trans c (Nat.le_trans w (by rw [sizeLine_eq]; decide)), q⟩
mutual
/-- the longest row in it -/
def wdD : D → Nat
  | .dic kvs => wdk kvs
  | .tup xs => max xs.length (wds xs)
  | .lst xs => max xs.length (wds xs)
  | .bl _ => 0
  | .int _ => 0
  | .str _ => 0
  | .non => 0
  | .obj _ _ => 0
  | .opq _ => 0
  | .dfz _ => 0
def wds : List D → Nat
  | [] => 0
  | d :: ds => max (wdD d) (wds ds)
def wdk : List (Key × D) → Nat
  | [] => 0
  | (_, d) :: ds => max (wdD d) (wdk ds)
end
theorem wds_mem : ∀ {xs : List D} {x : D}, x ∈ xs → wdD x ≤ wds xs
  | y :: ys, x, h => by
    rw [wds]
    rcases List.mem_cons.mp h with rfl | h
    · exact Nat.le_max_left _ _
    · exact Nat.le_trans (wds_mem h) (Nat.le_max_right _ _)
theorem wds_all : ∀ {xs : List D} {n : Nat}, (∀ x ∈ xs, wdD x ≤ n) → wds xs ≤ n
  | [], n, _ => by simp [wds]
  | x :: xs, n, h => by
    rw [wds]
    exact Nat.max_le.mpr ⟨h x (by simp), wds_all fun y hy => h y (List.mem_cons_of_mem _ hy)⟩
mutual
theorem wd_wt : ∀ d : D, 12 * wdD d ≤ wtD d
  | .dic kvs => by rw [wdD, wtD]; have := wd_wtk kvs; omega
  | .tup xs => by rw [wdD, wtD]; have := wd_wts xs; have := wts_len xs; omega
  | .lst xs => by rw [wdD, wtD]; have := wd_wts xs; have := wts_len xs; omega
  | .bl _ => by rw [wdD]; omega
  | .int _ => by rw [wdD]; omega
  | .str _ => by rw [wdD]; omega
  | .non => by rw [wdD]; omega
  | .obj _ _ => by rw [wdD]; omega
  | .opq _ => by rw [wdD]; omega
  | .dfz _ => by rw [wdD]; omega
theorem wd_wts : ∀ xs : List D, 12 * wds xs ≤ wts xs
  | [] => by rw [wds]; omega
  | x :: xs => by rw [wds, wts]; have := wd_wt x; have := wd_wts xs; omega
theorem wd_wtk : ∀ xs : List (Key × D), 12 * wdk xs ≤ wtk xs
  | [] => by rw [wdk]; omega
  | (_, x) :: xs => by rw [wdk, wtk]; have := wd_wt x; have := wd_wtk xs; omega
end
end KB

/-! Truths as numbers: +, -, ==, str. -/
namespace Dk
open PySem L2 PySem.Spec
def numZ : D → Option Int
  | .int i => some i
  | .bl b => some (if b = true then 1 else 0)
  | _ => none
def numV : V → Option Int
  | .int i => some i
  | .bl b => some (if b = true then 1 else 0)
  | _ => none
theorem numV_rep {K : PySem.W.Frag} {I : Hp} {v : V} {d : D} (r : Rep K I v d) : numV v = numZ d ∨ numZ d = none := by cases r <;> first | exact .inl rfl | exact .inr rfl
def RNm (f : Int → Int → V) : R2 := fun x y H Q => ∃ i j, numV x = some i ∧ numV y = some j ∧ Q (f i j) H
def nmD (f : Int → Int → D) (x y : D) (Q : D → Prop) : Prop := ∃ i j, numZ x = some i ∧ numZ y = some j ∧ Q (f i j)
theorem mono_nm {f : Int → Int → D} : Mono2 (nmD f) := fun x y Q Q' k ⟨i, j, a, b, q⟩ => ⟨i, j, a, b, k _ q⟩
theorem lf_nm {F : Fx} {K : PySem.W.Frag} {f : Int → Int → V} {g : Int → Int → D} (h : ∀ i j I, Rep K I (f i j) (g i j)) : LiftR F K (RNm f) (nmD g) := by
  rintro x y dx dy I H Q st rx ry ⟨i, j, a, b, q⟩
  have h1 : numV x = some i := by
    rcases numV_rep rx with e | e
    · rw [e, a]
    · rw [e] at a; cases a
  have h2 : numV y = some j := by
    rcases numV_rep ry with e | e
    · rw [e, b]
    · rw [e] at b; cases b
  exact ⟨i, j, h1, h2, q _ _ _ st.stp (h i j I)⟩
theorem numV_of {x : V} {i : Int} (h : numV x = some i) : x = .int i ∨ ∃ b, x = .bl b ∧ i = if b = true then 1 else 0 := by
  cases x <;> first | (cases h; exact .inl rfl) | (cases h; exact .inr ⟨_, rfl, rfl⟩) | cases h
section
variable {F : Fx} {X : Cx} {a b : Expr} {ta tb : DT} {pos : Pos}
theorem or_addN : OpR X (binaryOp .Add) (RNm fun i j => .int (i + j)) := by
  rintro pins s σ H x y v u Q J rx ry ⟨i, j, h1, h2, q⟩
  have fin : ∀ t, EP X pins σ Q (.int (i + j) t) { s with toks := s.toks + 1 } := fun t => ⟨.int (i + j), H, J.tok _, ⟨t, rfl⟩, q⟩
  rcases numV_of h1 with rfl | ⟨p, rfl, rfl⟩ <;> rcases numV_of h2 with rfl | ⟨r, rfl, rfl⟩
  · obtain ⟨t, rfl⟩ := rx; obtain ⟨t', rfl⟩ := ry; exact PyProof.Rows.add_int (fin _)
  · obtain ⟨t, rfl⟩ := rx; cases (show u = Value.bool r from ry); exact add_int_bool (fin _)
  · obtain ⟨t', rfl⟩ := ry; cases (show v = Value.bool p from rx); exact PySem.IntBool.add_bool_int (fin _)
  · cases (show v = Value.bool p from rx); cases (show u = Value.bool r from ry); exact PyProof.Rows.add_bool (fin _)
theorem or_subN : OpR X (binaryOp .Sub) (RNm fun i j => .int (i - j)) := by
  rintro pins s σ H x y v u Q J rx ry ⟨i, j, h1, h2, q⟩
  have fin : ∀ t, EP X pins σ Q (.int (i - j) t) { s with toks := s.toks + 1 } := fun t => ⟨.int (i - j), H, J.tok _, ⟨t, rfl⟩, q⟩
  rcases numV_of h1 with rfl | ⟨p, rfl, rfl⟩ <;> rcases numV_of h2 with rfl | ⟨r, rfl, rfl⟩
  · obtain ⟨t, rfl⟩ := rx; obtain ⟨t', rfl⟩ := ry; exact PyProof.Rows.sub_int (fin _)
  · obtain ⟨t, rfl⟩ := rx; cases (show u = Value.bool r from ry); exact PySem.IntBool.sub_int_bool (fin _)
  · obtain ⟨t', rfl⟩ := ry; cases (show v = Value.bool p from rx); exact PySem.IntBool.sub_bool_int (fin _)
  · cases (show v = Value.bool p from rx); cases (show u = Value.bool r from ry); exact PyProof.Rows.sub_bool (fin _)
theorem or_eqN : OpR X (compareOp .Eq) (RNm fun i j => .bl (decide (i = j))) := by
  rintro pins s σ H x y v u Q J rx ry ⟨i, j, h1, h2, q⟩
  have fin : ∀ c, c = decide (i = j) → EP X pins σ Q (.bool c) s := fun c e => ⟨.bl c, H, J, rfl, by rw [e]; exact q⟩
  have ei : ∀ i j : Int, (i == j) = decide (i = j) := fun i j => by rw [Bool.eq_iff_iff]; simp
  show wpAny (model X.prog X.w) X.A (richCompare .Eq v u) (EP X pins σ Q) X.xe s
  rcases numV_of h1 with rfl | ⟨p, rfl, rfl⟩ <;> rcases numV_of h2 with rfl | ⟨r, rfl, rfl⟩
  · obtain ⟨t, rfl⟩ := rx; obtain ⟨t', rfl⟩ := ry; exact SeqAt.RcAt.int_int _ _ _ _ X.prog X.w _ _ (fin _ (ei _ _))
  · obtain ⟨t, rfl⟩ := rx; cases (show u = Value.bool r from ry); exact SeqAt.RcAt.int_bool _ _ _ X.prog X.w _ _ (fin _ (ei _ _))
  · obtain ⟨t', rfl⟩ := ry; cases (show v = Value.bool p from rx); exact SeqAt.RcAt.bool_int _ _ _ X.prog X.w _ _ (fin _ (ei _ _))
  · cases (show v = Value.bool p from rx); cases (show u = Value.bool r from ry); exact SeqAt.RcAt.bool_bool _ _ X.prog X.w _ _ (fin _ (by cases p <;> cases r <;> rfl))
theorem de_addN (ha : DE F X a ta) (hb : DE F X b tb) : DE F X (.BinOp a .Add b pos) (fun ρ Q => ta ρ fun x => tb ρ fun y => nmD (fun i j => .int (i + j)) x y Q) := de_op mono_nm or_addN (lf_nm fun _ _ _ => .int _) ha hb
theorem de_subN (ha : DE F X a ta) (hb : DE F X b tb) : DE F X (.BinOp a .Sub b pos) (fun ρ Q => ta ρ fun x => tb ρ fun y => nmD (fun i j => .int (i - j)) x y Q) := de_op mono_nm or_subN (lf_nm fun _ _ _ => .int _) ha hb
theorem de_eqN (ha : DE F X a ta) (hb : DE F X b tb) (hm : behindInMarks .Eq b = false := by rfl) : DE F X (.Compare a [.Eq] [b] pos) (fun ρ Q => ta ρ fun x => tb ρ fun y => nmD (fun i j => .bl (decide (i = j))) x y Q) := de_cmp mono_nm or_eqN (lf_nm fun _ _ _ => .bl _) ha hb hm
/-- str(n) of a number or a truth -/
def strND : List D → (D → Prop) → Prop
  | [.int i], Q => i.natAbs.log2 < 1920 ∧ Q (.str (toString i))
  | [.bl b], Q => Q (.str (if b then "True" else "False"))
  | _, _ => False
theorem mono_strN : MonoN strND := by
  intro ds Q Q' k h
  unfold strND at h ⊢
  split at h
  · exact ⟨h.1, k _ h.2⟩
  · exact k _ h
  · exact h.elim
def RStrN : List V → Hp → VK → Prop := fun xs H Q => (∃ i, xs = [.int i] ∧ i.natAbs.log2 < 1920 ∧ Q (.str (toString i)) H) ∨ ∃ b : Bool, xs = [.bl b] ∧ Q (.str (if b then "True" else "False")) H
theorem call_strN : CallR X (.type "str") RStrN := by
  rintro pins s σ H xs us Q I r (⟨i, rfl, hz, q⟩ | ⟨b, rfl, q⟩)
  · obtain ⟨u, rfl, t, rfl⟩ := vals1 r
    exact PySem.P.str_of_int hz ⟨.str _, H, I.tok _, ⟨_, rfl⟩, q⟩
  · obtain ⟨u, rfl, e⟩ := vals1 r
    cases (show u = Value.bool b from e)
    refine PySem.P.str_of_bool (b := b) ?_
    exact ⟨.str (if b then "True" else "False"), H, I.tok _, ⟨_, rfl⟩, q⟩
theorem de_strN {e : Expr} {t : DAT} {p : Pos} (hm : X.mg "str" = none) (ha : DA F X [e] t) (hg : Gl X "str" := by rfl) (he : starEach [e] X.env = (false, eval e X.env) :: starEach [] X.env := by rfl) : DE F X (.Call (.Name "str" p) [e] [] pos) (fun ρ Q => t ρ fun ds => strND ds Q) := by
  refine de_callT mono_strN (fun vs ds I H Q st rs h => ?_) call_strN hm (by decide +kernel) ha hg (by decide) (by decide) he rfl
  unfold strND at h
  split at h
  · obtain ⟨v, rfl, r⟩ := rs.one
    cases r
    exact .inl ⟨_, rfl, h.1, h.2 _ I H st.stp (.str _)⟩
  · obtain ⟨v, rfl, r⟩ := rs.one
    cases r
    exact .inr ⟨_, rfl, h _ I H st.stp (.str _)⟩
  · exact h.elim
end
end Dk

/-! What is a worth, in plain words. -/
namespace KB
open PySem L2 Dk
def boughOf (ks : List Kind) (k b : Str) : Option (List Str) := (ks.find? fun x => decide (x.1 = k)).bind fun x => (x.2.find? fun y => decide (y.1 = b)).map (·.2)
def isN : D → Bool
  | .int i => decide (0 ≤ i)
  | _ => false
mutual
def isW (ks : List Kind) (k : Str) : D → Bool
  | .tup ds => isT ks k ds
  | .dic _ => false
  | .lst _ => false
  | .bl _ => false
  | .int _ => false
  | .str _ => false
  | .non => false
  | .obj _ _ => false
  | .opq _ => false
  | .dfz _ => false
def isT (ks : List Kind) (k : Str) : List D → Bool
  | [] => false
  | d :: ps => match d with
    | .str b => match boughOf ks k b with
      | some fs => isWs ks fs ps
      | none => false
    | _ => false
def isWs (ks : List Kind) (fs : List Str) : List D → Bool
  | [] => fs.isEmpty
  | p :: ps => match fs with
    | [] => false
    | f :: fs => (if f = numS then isN p else isW ks f p) && isWs ks fs ps
end
def isP (ks : List Kind) (f : Str) (p : D) : Bool := if f = numS then isN p else isW ks f p
theorem isWs_len {ks : List Kind} : ∀ {fs : List Str} {ps : List D}, fs.length ≠ ps.length → isWs ks fs ps = false
  | [], [], h => absurd rfl h
  | _ :: _, [], _ => by simp [isWs]
  | [], _ :: _, _ => by simp [isWs]
  | f :: fs, p :: ps, h => by
    simp only [List.length_cons, ne_eq, Nat.add_right_cancel_iff] at h
    rw [isWs, isWs_len h, Bool.and_false]
theorem isWs_zip {ks : List Kind} : ∀ {fs : List Str} {ps : List D}, fs.length = ps.length → isWs ks fs ps = ((fs.zip ps).all fun z => isP ks z.1 z.2)
  | [], [], _ => by simp [isWs]
  | _ :: _, [], h => by simp at h
  | [], _ :: _, h => by simp at h
  | f :: fs, p :: ps, h => by
    simp only [List.length_cons, Nat.add_right_cancel_iff] at h
    rw [isWs, isWs_zip h, List.zip_cons_cons, List.all_cons]
    rfl
theorem strs_inj : ∀ {xs ys : List Str}, xs.map D.str = ys.map D.str → xs = ys
  | [], [], _ => rfl
  | [], _ :: _, h => by simp at h
  | _ :: _, [], h => by simp at h
  | x :: xs, y :: ys, h => by
    simp only [List.map_cons, List.cons.injEq, D.str.injEq] at h
    rw [h.1, strs_inj h.2]
theorem bough_uniq {ks : List Kind} (g : Good ks) {k : Kind} (hk : k ∈ ks) {b b' : Bough} (hb : b ∈ k.2) (hb' : b' ∈ k.2) (e : b.1 = b'.1) : b = b' := by
  have h1 := lookD_mem g.fk (mem_fieldsBy hk hb)
  have h2 := lookD_mem g.fk (mem_fieldsBy hk hb')
  rw [e, h2] at h1
  have := strs_inj (D.tup.inj (Option.some.inj h1))
  exact Prod.ext e this.symm
theorem find_kind {ks : List Kind} (g : Good ks) {k : Kind} (hk : k ∈ ks) : ks.find? (fun x => decide (x.1 = k.1)) = some k := by
  cases h : ks.find? (fun x => decide (x.1 = k.1)) with
  | none => exact absurd (List.find?_eq_none.mp h k hk) (by simp)
  | some k' =>
    have h1 := List.mem_of_find?_eq_some h
    have h2 := List.find?_some h
    rw [g.uniq h1 hk (by simpa using h2)]
theorem boughOf_mem {ks : List Kind} (g : Good ks) {k : Kind} (hk : k ∈ ks) {b : Bough} (hb : b ∈ k.2) : boughOf ks k.1 b.1 = some b.2 := by
  unfold boughOf
  rw [find_kind g hk]
  show (k.2.find? _).map _ = _
  cases h : k.2.find? (fun y => decide (y.1 = b.1)) with
  | none => exact absurd (List.find?_eq_none.mp h b hb) (by simp)
  | some b' =>
    have h1 := List.mem_of_find?_eq_some h
    have h2 := List.find?_some h
    rw [bough_uniq g hk h1 hb (by simpa using h2)]
    rfl
theorem boughOf_no {ks : List Kind} (g : Good ks) {k : Kind} (hk : k ∈ ks) {x : Str} (h : ∀ b ∈ k.2, b.1 ≠ x) : boughOf ks k.1 x = none := by
  unfold boughOf
  rw [find_kind g hk]
  show (k.2.find? _).map _ = _
  rw [List.find?_eq_none.mpr fun b hb => by simpa using h b hb]
  rfl
theorem gd_known {d : D} (h : gd d = true) : known d = true := by
  cases d <;> first | rfl | (simp [gd] at h)
theorem depth_mem : ∀ {xs : List D} {x : D} {n : Nat}, PyData.depthAll (pyFs xs) ≤ n → x ∈ xs → dpD x ≤ n
  | y :: ys, x, n, h, hx => by
    simp only [pyFs, PyData.depthAll] at h
    have h1 := Nat.le_trans (Nat.le_max_left _ _) h
    have h2 := Nat.le_trans (Nat.le_max_right _ _) h
    rcases List.mem_cons.mp hx with rfl | hx
    · exact h1
    · exact depth_mem h2 hx
theorem dp_tup {xs : List D} : dpD (.tup xs) = PyData.depthAll (pyFs xs) + 1 := by
  unfold dpD
  rw [pyF, PyData.depth]
  try omega
end KB

/-! Small facts over data. -/
namespace KB
open PySem L2 Dk
theorem u_any {ys : List Str} {x : Str} : ((ys.map D.str).any fun z => deq z (.str x)) = decide (x ∈ ys) := by
  have e : ∀ y : Str, deq (.str y) (.str x) = decide (y = x) := fun y => by simp [deq, toPy, PyData.eqv]; rfl
  rw [List.any_map, Bool.eq_iff_iff, List.any_eq_true, decide_eq_true_eq]
  constructor
  · rintro ⟨y, hy, h⟩
    have : y = x := by simpa [e] using h
    exact this ▸ hy
  · intro hx
    exact ⟨x, hx, by simp [e]⟩
theorem u_tail {x : D} {l : List D} : cutD (x :: l) (some 1) none = l := by
  unfold cutD HT.sIx
  simp
theorem u_okE {x : Str} (h : ascii x = true) : okE (.str x) = true := (okN_str (ascii_ok h)).okE (by decide)
end KB

/-! x[::-1] of lists, tuples, texts. -/
namespace Dk
open PySem L2 PySem.Spec PyProof.Rows HT
section
variable {prog : Program} {w : World} {A : Around} {E : Value → Shared → Prop} {s : Shared}
theorem rev_places (n : Nat) : Builtin.Slice.slicePlaces ((n : Int) - 1) (-1) (-1) = n := by
  unfold Builtin.Slice.slicePlaces
  rw [if_neg (by decide)]
  by_cases h : (n : Int) - 1 > -1
  · rw [if_pos h, show (- -1 : Int) = 1 from by decide, Int.ediv_one]
    omega
  · rw [if_neg h]
    omega
theorem fm_congr {α β : Type} {f g : α → Option β} : ∀ {l : List α}, (∀ k ∈ l, f k = g k) → l.filterMap f = l.filterMap g
  | [], _ => rfl
  | a :: l, h => by
    rw [List.filterMap_cons, List.filterMap_cons, h a (by simp), fm_congr fun k hk => h k (List.mem_cons_of_mem _ hk)]
theorem rev_pick (xs : Array Value) : ((List.range xs.size).filterMap fun (k : Nat) => xs[(((xs.size : Int) - 1) + (k : Int) * (-1)).toNat]?).toArray = xs.toList.reverse.toArray := by
  have e : (List.range xs.size).filterMap (fun (k : Nat) => xs[(((xs.size : Int) - 1) + (k : Int) * (-1)).toNat]?) = ((List.range xs.size).map fun k => xs.size - 1 - k).filterMap (xs[·]?) := by
    rw [List.filterMap_map]
    refine fm_congr fun k hk => ?_
    have := List.mem_range.mp hk
    show xs[_]? = xs[_]?
    rw [show (((xs.size : Int) - 1) + (k : Int) * (-1)).toNat = xs.size - 1 - k from by omega]
  rw [e, PySem.W.krv_range, List.filterMap_reverse, PySem.W.krv_all]
theorem getItem_tuple_rev {t sl : Addr} {items : Array Value} {vl vu vs : Value} {Q : Value → Shared → Prop} (ht : IsTup s.heap t items) (hs : s.heap.IsSliceOf sl vl vu vs) (pl : IsPart vl none) (pu : IsPart vu none) (ps : IsPart vs (some (-1)))
    (h : Q (.ref s.heap.objs.size) { s with heap := s.heap.push { cls := .type "tuple", data := .seq items.toList.reverse.toArray } }) (hsz : items.size ≤ sizeLine) : wpAny (model prog w) A (getItem (.ref t) (.ref sl)) Q E s := by
  have htake : sizeOk (.seq items.toList.reverse.toArray) := by
    show items.toList.reverse.toArray.size ≤ sizeLine
    simpa using hsz
  obtain ⟨os, hos, hcs, hds⟩ := id hs
  have hTs : s.TypeIs (.ref sl) "slice" := ⟨os, hos, hcs⟩
  unfold getItem
  try with_reducible refine wpAny_holding ?_
  first | refine wpAny_bind (wpAny_pure ?_) | skip
  refine wpAny_bind (wpAny_sequenceKey ht.typeIs (by decide) ?_)
  refine wpAny_bind (wpAny_callSpecial?_slot (name := Str.ofString "__getitem__") ht.typeIs PyProof.Rows.slot_tuple_getitem
    (wpAny_call_entry PyProof.Rows.slot_tuple_getitem ht.typeIs entry_tuple_getitem ?_ (args_tuple_getitem _ _)))
  show wpAny _ _ (Builtin.Tuple.tupleItemsOf (.ref t) >>= _) _ _ s
  refine wpAny_bind (tupleItemsOf_ ht ?_)
  refine wpAny_bind (wpAny_typeOf hTs ?_)
  rw [if_pos (by decide)]
  have ap : ∀ {Q : Int × Int × Nat → Shared → Prop}, Q ((items.size : Int) - 1, -1, items.size) s → wpAny (model prog w) A.in1 (Builtin.Slice.sliceApplied (.ref sl) (pure (items.size : Int))) Q E s := fun {Q} q => by
    unfold Builtin.Slice.sliceApplied Builtin.Slice.sliceFields
    refine wpAny_bind (wpAny_bind (wpAny_field hos hds (x := vl) rfl (wpAny_bind (wpAny_field hos hds (x := vu) rfl (wpAny_bind (wpAny_field hos hds (x := vs) rfl (wpAny_pure ?_)))))))
    refine wpAny_bind (slicePart_ ps ?_)
    show wpAny _ _ (if ((-1 : Int) == 0) = true then _ else _) _ _ s
    rw [if_neg (by decide)]
    refine wpAny_bind (slicePart_ pl (wpAny_bind (slicePart_ pu (wpAny_bind (wpAny_pure ?_)))))
    show wpAny _ _ (pure ((items.size : Int) - 1, (-1 : Int), Builtin.Slice.slicePlaces ((items.size : Int) - 1) (-1) (-1))) _ _ s
    rw [rev_places]
    exact wpAny_pure q
  refine wpAny_bind (ap ?_)
  show wpAny _ _ (if (((items.size : Int) - 1) == 0 && (-1 : Int) == 1 && items.size == items.size) = true then _ else _) _ _ s
  rw [if_neg (by simp), rev_pick]
  first
    | exact wpAny_bind (m := Builtin.Tuple.tupleExact _) (wpAny_newObj_type (wpAny_pure ⟨_, rfl, wpAny_pure h⟩) htake)
    | exact wpAny_bind (m := Builtin.Tuple.tupleExact _) (wpAny_newObj_type (wpAny_bind (wpAny_pure (wpAny_pure ⟨_, rfl, wpAny_pure h⟩))) htake)
    | exact wpAny_bind (wpAny_bind (m := Builtin.Tuple.tupleExact _) (wpAny_newObj_type (wpAny_pure (wpAny_pure ⟨_, rfl, wpAny_pure h⟩)) htake))
    | exact wpAny_bind (wpAny_bind (m := Builtin.Tuple.tupleExact _) (wpAny_newObj_type (wpAny_pure ⟨_, rfl, wpAny_pure h⟩) htake))
end
/-- a text turned about -/
def revS (z : Str) : Str := ⟨((Builtin.Str.strSliceIndices none none (-1) z.length).filterMap (z.cps[·]?)).toArray⟩
theorem revS_eq (z : Str) : revS z = ⟨z.cps.toList.reverse.toArray⟩ := by
  unfold revS Builtin.Str.strSliceIndices
  simp only [show ¬ ((-1 : Int) > 0) from by decide, if_false]
  rw [PySem.W.krv_sliceRange, PySem.W.krv_range, List.filterMap_reverse]
  have e : z.length = z.cps.size := rfl
  rw [e, PySem.W.krv_all]
theorem revS_len (z : Str) : (revS z).length = z.length := by
  rw [revS_eq]
  show (z.cps.toList.reverse.toArray).size = z.cps.size
  simp
def tRevG (K : PySem.W.Frag) (te : TE) : TE := fun σ H Q => te σ H fun x H1 => (∃ a xs, x = .ref a ∧ SqL K H1 a xs ∧ ∀ p, H1 p = none → Q (.ref p) (upd H1 p (.lst xs.reverse))) ∨ (∃ a xs, x = .ref a ∧ SqT K H1 a xs ∧ ∀ p, H1 p = none → Q (.ref p) (upd H1 p (.tup xs.reverse))) ∨
  ∃ z, x = .str z ∧ z.length ≤ sizeLine ∧ Q (.str (revS z)) H1
theorem pe_revG {X : Cx} {e : Expr} {te : TE} {k : Nat} {p1 p2 p3 pos : Pos} (he : PE X e te) : PE X (.Subscript e (.Slice none none (some (.UnaryOp .USub (.Constant (.int 1) k p1) p2)) p3) pos) (tRevG X.K te) := by
  refine ⟨fun pins s σ H Q I h => ?_⟩
  refine Subscript_ (thn (he.run pins s σ H _ I h) fun v s1 ⟨x, H1, I1, r1, q1⟩ => ?_)
  have hst : PO X (some (.UnaryOp .USub (.Constant (.int 1) k p1) p2)) (tPart (tUn (rU fun i => .int (-i)) (tC (.int 1)))) := po_some (pe_un un_neg pe_int)
  refine wpAny_Slice (thn (po_none.run pins s1 σ H1 (fun o H2 => o = none ∧ H2 = H1) I1 ⟨rfl, rfl⟩) fun vl s2 ⟨l, H2, I2, pl, el, e2⟩ => ?_)
  subst el e2
  refine thn (po_none.run pins s2 σ H2 (fun o H3 => o = none ∧ H3 = H2) I2 ⟨rfl, rfl⟩) fun vu s3 ⟨u, H3, I3, pu, eu, e3⟩ => ?_
  subst eu e3
  refine thn (hst.run pins s3 σ H3 (fun o H4 => o = some (-1) ∧ H4 = H3) I3 ⟨1, rfl, -1, rfl, rfl, rfl⟩) fun vs s4 ⟨o, H4, I4, ps, eo, e4⟩ => ?_
  subst eo e4
  have I5 : Inv X pins σ H4 { s4 with heap := s4.heap.push { cls := .type "slice", data := .fields #[vl, vu, vs] } } := I4.kept (t' := s4.toks) fun b ob q => Heap.get?_push_of_some _ q
  rcases q1 with ⟨a, xs, ex, hx, q⟩ | ⟨a, xs, ex, hx, q⟩ | ⟨z, ex, hz, q⟩
  · subst ex
    cases r1
    obtain ⟨its, r, ht, hz⟩ := I5.list hx
    have hlen := r.length
    refine tail_any (ops := [.ref a, .ref s4.heap.objs.size]) ht.isList.typeIs (PySem.slot_list_getitem.lookup) ?_ (by with_unfolding_all rfl)
    refine wpAny_getItem_list_slice ht.isList (Heap.IsSliceOf.new _ vl vu vs) pl pu ps (by decide) ?_ (by rw [List.size_toArray]; omega)
    rw [PySem.W.krv_pick]
    refine ⟨.ref _, _, I5.laid (t' := s4.toks) (o := .lst xs.reverse) (fun b ob q => Heap.get?_push_of_some _ q) (Nat.le_refl _) ?_, rfl, q _ (I5.hok.fresh (Nat.le_refl _))⟩
    exact ⟨by rw [List.length_reverse]; exact hz, _, 0, r.reverse, Heap.get?_push_size _ rfl⟩
  · subst ex
    cases r1
    obtain ⟨its, r, ht, hz⟩ := I5.tuple hx
    have hlen := r.length
    refine tail_any (ops := [.ref a, .ref s4.heap.objs.size]) ht.typeIs (PyProof.Rows.slot_tuple_getitem.lookup) ?_ (by with_unfolding_all rfl)
    refine getItem_tuple_rev ht (Heap.IsSliceOf.new _ vl vu vs) pl pu ps ?_ (by rw [List.size_toArray]; omega)
    refine ⟨.ref _, _, I5.laid (t' := s4.toks) (o := .tup xs.reverse) (fun b ob q => Heap.get?_push_of_some _ q) (Nat.le_refl _) ?_, rfl, q _ (I5.hok.fresh (Nat.le_refl _))⟩
    exact ⟨by rw [List.length_reverse]; exact hz, _, r.reverse, IsTup.new _ _⟩
  · subst ex
    obtain ⟨t, rfl⟩ := r1
    obtain ⟨lo, rfl, el⟩ := IsPart.raw pl
    obtain ⟨up, rfl, eu⟩ := IsPart.raw pu
    obtain ⟨sp, rfl, es⟩ := IsPart.raw ps
    obtain rfl : lo = none := by cases lo <;> simp_all
    obtain rfl : up = none := by cases up <;> simp_all
    refine tail_any (ops := [.str z t, .ref s4.heap.objs.size]) (typeIs_str _ _ _) (F.slot_str_getitem.lookup) ?_ (by with_unfolding_all rfl)
    refine wpAny_getItem_str_slice (l := none) (u := none) (st := sp) ⟨_, Heap.get?_push_size _ rfl, rfl, rfl⟩ (by rw [es]; rfl) ?_
    unfold sliceMade slicePicked
    rw [es]
    rw [if_neg (by simp)]
    refine ⟨?_, .str (revS z), H4, I5.tok _, ⟨_, rfl⟩, q⟩
    have := revS_len z
    show (revS z).length ≤ sizeLine
    omega
/-- any of these turned about -/
def revGD : D → (D → Prop) → Prop
  | .lst xs, Q => Q (.lst xs.reverse)
  | .tup xs, Q => Q (.tup xs.reverse)
  | .str z, Q => z.length ≤ sizeLine ∧ Q (.str (revS z))
  | _, _ => False
theorem de_revG {F : Fx} {X : Cx} {e : Expr} {te : DT} {k : Nat} {p1 p2 p3 pos : Pos} (he : DE F X e te) : DE F X (.Subscript e (.Slice none none (some (.UnaryOp .USub (.Constant (.int 1) k p1) p2)) p3) pos) (fun ρ Q => te ρ fun d => revGD d Q) := by
  refine ⟨fun ρ Q Q' k q => he.mono _ _ _ (fun d q => by cases d <;> first | exact q.elim | exact k _ q | exact ⟨q.1, k _ q.2⟩) q, (pe_revG he.run).imp fun σ H Q ⟨I, ρ, A, q⟩ => rdE_next he.mono A q fun d v I1 H1 q1 s rv => ?_⟩
  cases rv with
  | @lst q zs es a r =>
    refine .inl ⟨_, _, rfl, .of (s.st.sub _ _ a), fun p hp => ?_⟩
    have l' := s.st.laid hp (.lst zs.reverse)
    exact q1 _ _ _ (s.trans l') (.lst upd_same (r.reverse.mono l'.i))
  | @tup q zs es a r =>
    refine .inr (.inl ⟨_, _, rfl, Same.seqT s.st.sub a, fun p hp => ?_⟩)
    have l' := s.st.laid hp (.tup zs.reverse)
    exact q1 _ _ _ (s.trans l') (.tup (.of upd_same) (r.reverse.mono l'.i))
  | str z => exact .inr (.inr ⟨z, rfl, q1.1, q1.2 _ _ _ s (.str _)⟩)
  | _ => exact q1.elim
end Dk

/-! Things put otherwise: what they weigh, how deep they are. -/
namespace KB
open PySem L2 Dk
/-- a thing of at most n levels, of at most this weight -/
structure Tg (n m : Nat) (d : D) : Prop where
  g : gd d = true
  dp : dpD d ≤ n
  wt : wtD d ≤ m
theorem Tg.mono {n m n' m' : Nat} {d : D} (h : Tg n m d) (a : n ≤ n') (b : m ≤ m') : Tg n' m' d := ⟨h.g, Nat.le_trans h.dp a, Nat.le_trans h.wt b⟩
theorem depth_all : ∀ {xs : List D} {n : Nat}, (∀ x ∈ xs, dpD x ≤ n) → PyData.depthAll (pyFs xs) ≤ n
  | [], n, _ => by simp [pyFs, PyData.depthAll]
  | x :: xs, n, h => by
    simp only [pyFs, PyData.depthAll]
    exact Nat.max_le.mpr ⟨h x (by simp), depth_all fun y hy => h y (List.mem_cons_of_mem _ hy)⟩
theorem dp_lst {xs : List D} : dpD (.lst xs) = PyData.depthAll (pyFs xs) + 1 := by
  unfold dpD
  rw [pyF, PyData.depth]
  try omega
structure Tgs (n m : Nat) (xs : List D) : Prop where
  g : ∀ x ∈ xs, gd x = true
  dp : ∀ x ∈ xs, dpD x ≤ n
  wt : wts xs ≤ m
theorem Tgs.tup {n m : Nat} {xs : List D} (h : Tgs n m xs) : Tg (n + 1) (m + 13) (.tup xs) := ⟨by rw [gd]; exact gds_mem.mpr h.g, by rw [dp_tup]; have := depth_all h.dp; omega, by rw [wtD]; have := h.wt; omega⟩
theorem Tgs.lst {n m : Nat} {xs : List D} (h : Tgs n m xs) : Tg (n + 1) (m + 13) (.lst xs) := ⟨by rw [gd]; exact gds_mem.mpr h.g, by rw [dp_lst]; have := depth_all h.dp; omega, by rw [wtD]; have := h.wt; omega⟩
theorem Tgs.nil {n m : Nat} : Tgs n m [] := ⟨by simp, by simp, by simp [wts]⟩
theorem Tgs.cons {n m m' : Nat} {x : D} {xs : List D} (h : Tg n m x) (h' : Tgs n m' xs) : Tgs n (m + 2 + m') (x :: xs) := by
  refine ⟨fun y hy => ?_, fun y hy => ?_, by rw [wts]; have := h.wt; have := h'.wt; omega⟩
  · rcases List.mem_cons.mp hy with rfl | hy
    · exact h.g
    · exact h'.g y hy
  · rcases List.mem_cons.mp hy with rfl | hy
    · exact h.dp
    · exact h'.dp y hy
theorem Tgs.app {n m m' : Nat} {xs ys : List D} (h : Tgs n m xs) (h' : Tgs n m' ys) : Tgs n (m + m') (xs ++ ys) :=
  ⟨fun y hy => (List.mem_append.mp hy).elim (h.g y) (h'.g y), fun y hy => (List.mem_append.mp hy).elim (h.dp y) (h'.dp y), by rw [wts_app]; have := h.wt; have := h'.wt; omega⟩
theorem Tgs.mono {n m n' m' : Nat} {d : List D} (h : Tgs n m d) (a : n ≤ n') (b : m ≤ m') : Tgs n' m' d := ⟨h.g, fun x hx => Nat.le_trans (h.dp x hx) a, Nat.le_trans h.wt b⟩
theorem Tgs.get {n m : Nat} {xs : List D} (h : Tgs n m xs) {x : D} (hx : x ∈ xs) : Tg n m x := ⟨h.g x hx, h.dp x hx, by have := wts_mem hx; have := h.wt; omega⟩
theorem Tg.tups {n m : Nat} {xs : List D} (h : Tg n m (.tup xs)) : ∃ n' m', n = n' + 1 ∧ m = m' + 13 ∧ Tgs n' m' xs := by
  have h1 := h.dp
  have h2 := h.wt
  rw [dp_tup] at h1
  rw [wtD] at h2
  refine ⟨n - 1, m - 13, by omega, by omega, gds_mem.mp (by have := h.g; rwa [gd] at this), fun x hx => depth_mem (xs := xs) (by omega) hx, by omega⟩
theorem wts_cut {xs : List D} {lo hi : Option Int} : wts (cutD xs lo hi) ≤ wts xs := by
  unfold cutD
  have h1 := wts_take_drop (HT.sIx xs.length 0 lo) xs
  have h2 := wts_take_drop (HT.sIx xs.length xs.length hi - HT.sIx xs.length 0 lo) (xs.drop (HT.sIx xs.length 0 lo))
  omega
theorem cut_mem {xs : List D} {lo hi : Option Int} {x : D} (h : x ∈ cutD xs lo hi) : x ∈ xs := List.mem_of_mem_drop (List.mem_of_mem_take h)
theorem Tgs.cut {n m : Nat} {xs : List D} (h : Tgs n m xs) (lo hi : Option Int) : Tgs n m (cutD xs lo hi) := ⟨fun x hx => h.g x (cut_mem hx), fun x hx => h.dp x (cut_mem hx), Nat.le_trans wts_cut h.wt⟩
theorem Tgs.rev {n m : Nat} {xs : List D} (h : Tgs n m xs) : Tgs n m xs.reverse := ⟨fun x hx => h.g x (List.mem_reverse.mp hx), fun x hx => h.dp x (List.mem_reverse.mp hx), by rw [wts_rev]; exact h.wt⟩
theorem sIx_nat {n d i : Nat} (h : i ≤ n) : HT.sIx n d (some (i : Int)) = i := by
  unfold HT.sIx
  first
    | (simp; omega)
    | (simp only; rw [if_neg (by omega)]; simp; omega)
    | (have : ¬ ((i : Int) < 0) := by omega
       simp [this]; omega)
theorem cut_take {xs : List D} {i : Nat} (h : i ≤ xs.length) : cutD xs none (some (i : Int)) = xs.take i := by
  unfold cutD
  rw [sIx_nat h]
  rfl
theorem cut_drop {xs : List D} {i : Nat} (h : i ≤ xs.length) : cutD xs (some (i : Int)) none = xs.drop i := by
  unfold cutD
  rw [sIx_nat h]
  show (xs.drop i).take (xs.length - i) = _
  rw [List.take_of_length_le (by rw [List.length_drop]; omega)]
/-- signs -/
theorem ascii_mem {x : Str} : ascii x = true ↔ ∀ c ∈ x.cps.toList, 32 ≤ c ∧ c < 127 := by
  unfold ascii
  rw [← Array.all_toList, List.all_eq_true]
  simp only [decide_eq_true_eq]
theorem ascii_app {x y : Str} (h : ascii x = true) (h' : ascii y = true) : ascii (x ++ y) = true := by
  rw [ascii_mem] at h h' ⊢
  intro c hc
  rw [show (x ++ y).cps = x.cps ++ y.cps from rfl, Array.toList_append] at hc
  exact (List.mem_append.mp hc).elim (h c) (h' c)
theorem ascii_sub {x y : Str} (h : ascii x = true) (s : ∀ c ∈ y.cps.toList, c ∈ x.cps.toList) : ascii y = true := by
  rw [ascii_mem] at h ⊢
  exact fun c hc => h c (s c hc)
theorem ascii_upper {x : Str} (h : ascii x = true) : ascii (Txt.upper x) = true ∧ (Txt.upper x).length = x.length := by
  rw [ascii_mem] at h
  rw [PyProof.Rows.upper_ascii fun c hc => by have := h c hc; omega]
  refine ⟨?_, ?_⟩
  · rw [ascii_mem]
    intro c hc
    rw [Array.toList_map] at hc
    obtain ⟨d, hd, rfl⟩ := List.mem_map.mp hc
    have := h d hd
    unfold PyProof.Rows.up1
    split <;> omega
  · unfold Str.length
    simp
theorem ascii_int (i : Int) : ascii (toString i : String) = true := by
  have e : (PyData.int i).shown = Str.ofString (toString i) := by simp only [PyData.shown]
  rw [ascii_mem]
  intro c hc
  rw [← e] at hc
  refine Classical.byContradiction fun h => ?_
  exact PyProof.Rows.shown_int_free' (k := c) ⟨by omega, by omega⟩ i hc
theorem Tg.str {n m : Nat} {x : Str} (h : ascii x = true) (l : 10 * x.length + 12 ≤ m) : Tg n m (.str x) := ⟨by rw [gd]; exact h, by simp [dpD, pyF, PyData.depth], by rw [wtD]; exact l⟩
theorem Tg.int {n m : Nat} {i : Int} (l : 40 * i.natAbs.log2 + 12 ≤ m) : Tg n m (.int i) := ⟨by rw [gd], by simp [dpD, pyF, PyData.depth], by rw [wtD]; exact l⟩
theorem Tg.bl {n m : Nat} {b : Bool} (l : 10 ≤ m) : Tg n m (.bl b) := ⟨by simp [gd], by simp [dpD, pyF, PyData.depth], by rw [wtD]; exact l⟩
theorem Tg.non {n m : Nat} (l : 10 ≤ m) : Tg n m .non := ⟨by simp [gd], by simp [dpD, pyF, PyData.depth], by rw [wtD]; exact l⟩
theorem ix_any {xs : List D} {i : Int} {Q : D → Prop} (h0 : 0 ≤ i) (h1 : i < xs.length) (q : ∀ x ∈ xs, Q x) : ixD (.lst xs) (.int i) Q := by
  obtain ⟨j, rfl⟩ := Int.eq_ofNat_of_zero_le h0
  have hj : j < xs.length := by omega
  exact ⟨xs[j], atI_nat (List.getElem?_eq_getElem hj), q _ (List.getElem_mem hj)⟩
theorem ix_tup {xs : List D} {i : Int} {Q : D → Prop} (h0 : 0 ≤ i) (h1 : i < xs.length) (q : ∀ x ∈ xs, Q x) : ixD (.tup xs) (.int i) Q := by
  obtain ⟨j, rfl⟩ := Int.eq_ofNat_of_zero_le h0
  have hj : j < xs.length := by omega
  exact ⟨xs[j], atI_nat (List.getElem?_eq_getElem hj), q _ (List.getElem_mem hj)⟩
theorem forall_cons {α : Type} {a : α} {l : List α} {P : α → Prop} (h : P a) (h' : ∀ x ∈ l, P x) : ∀ x ∈ a :: l, P x := fun x hx => by
  rcases List.mem_cons.mp hx with rfl | hx
  · exact h
  · exact h' x hx
theorem forall_nil {α : Type} {P : α → Prop} : ∀ x ∈ ([] : List α), P x := fun x hx => by cases hx
theorem gd_str {x : Str} (h : gd (.str x) = true) : ascii x = true := by rwa [gd] at h
theorem wt_str {n m : Nat} {x : Str} (h : Tg n m (.str x)) : 10 * x.length + 12 ≤ m := by have := h.wt; rwa [wtD] at this
theorem wt_int {n m : Nat} {i : Int} (h : Tg n m (.int i)) : 40 * i.natAbs.log2 + 12 ≤ m := by have := h.wt; rwa [wtD] at this
theorem log_le {a b : Nat} (h : a ≤ b) : a.log2 ≤ b.log2 := by
  by_cases z : a = 0
  · subst z; simp
  have hb : b ≠ 0 := by omega
  exact (Nat.le_log2 hb).mpr (Nat.le_trans (Nat.log2_self_le z) h)
theorem log_add {a b : Nat} : (a + b).log2 ≤ max a.log2 b.log2 + 1 := by
  by_cases z : a + b = 0
  · rw [z]; simp
  refine Nat.le_of_lt_succ ((Nat.log2_lt z).mpr ?_)
  have h1 : ∀ c k : Nat, c.log2 ≤ k → c < 2 ^ (k + 1) := fun c k h => by
    by_cases zc : c = 0
    · subst zc; exact Nat.two_pow_pos _
    · exact (Nat.log2_lt zc).mp (by omega)
  have ha := h1 a (max a.log2 b.log2) (Nat.le_max_left _ _)
  have hb := h1 b (max a.log2 b.log2) (Nat.le_max_right _ _)
  rw [Nat.succ_eq_add_one, Nat.pow_succ]
  omega
theorem log_near {i j : Int} (k : Nat) (h : j.natAbs ≤ i.natAbs + 1000000) : j.natAbs.log2 ≤ i.natAbs.log2 + 20 := by
  have h1 := log_le h
  have h2 := log_add (a := i.natAbs) (b := 1000000)
  have h3 : Nat.log2 1000000 = 19 := by decide +kernel
  omega
end KB

/-! Worths by their sizes, in plain words. -/
namespace KB
open PySem L2 Dk
mutual
/-- a part of the field f, of size s -/
inductive Wor (ks : List Kind) : Nat → Str → D → Prop
  | num (i : Nat) : Wor ks i numS (.int i)
  | node {n : Nat} {k : Kind} {b : Bough} {ds : List D} : k ∈ ks → b ∈ k.2 → Wors ks n b.2 ds → Wor ks (n + 1) k.1 (.tup (.str b.1 :: ds))
inductive Wors (ks : List Kind) : Nat → List Str → List D → Prop
  | nil : Wors ks 0 [] []
  | cons {m n : Nat} {f : Str} {fs : List Str} {d : D} {ds : List D} : Wor ks m f d → Wors ks n fs ds → Wors ks (m + n) (f :: fs) (d :: ds)
end
theorem Wors.snoc {ks : List Kind} {s t : Nat} {f : Str} {d : D} (hd : Wor ks t f d) : ∀ {fs : List Str} {ds : List D} {s : Nat}, Wors ks s fs ds → Wors ks (s + t) (fs ++ [f]) (ds ++ [d])
  | [], _, _, h => by
    cases h
    have := Wors.cons hd (Wors.nil (ks := ks))
    simpa using this
  | g :: fs, _, _, h => by
    cases h with
    | cons h1 h2 =>
      have := Wors.cons h1 (Wors.snoc (s := s) hd h2)
      rwa [← Nat.add_assoc] at this
theorem Wors.len {ks : List Kind} : ∀ {fs : List Str} {ds : List D} {s : Nat}, Wors ks s fs ds → ds.length = fs.length
  | [], _, _, h => by cases h; rfl
  | g :: fs, _, _, h => by cases h with | cons h1 h2 => simp [Wors.len h2]
theorem wsum_snoc {s : Str → Nat} {fs : List Str} {f : Str} : wsum s (fs ++ [f]) = wsum s fs + if f = numS then 0 else s f := by
  unfold wsum
  rw [List.filter_append, List.map_append, List.sum_append]
  by_cases h : f = numS <;> simp [h]
theorem kind_not_num {ks : List Kind} (g : Good ks) {k : Kind} (hk : k ∈ ks) : k.1 ≠ numS := (nameOk_split (g.kn k hk)).2.2.1
theorem Wor.inv {ks : List Kind} {s : Nat} {f : Str} {d : D} (h : Wor ks s f d) : (f = numS ∧ d = .int (s : Nat)) ∨ ∃ n k b ds, s = n + 1 ∧ f = k.1 ∧ k ∈ ks ∧ b ∈ k.2 ∧ d = .tup (.str b.1 :: ds) ∧ Wors ks n b.2 ds := by
  cases h with
  | num i => exact .inl ⟨rfl, rfl⟩
  | node hk hb h => exact .inr ⟨_, _, _, _, rfl, rfl, hk, hb, rfl, h⟩
mutual
theorem Wor.isP {ks : List Kind} (g : Good ks) : ∀ {s : Nat} {f : Str} {d : D}, Wor ks s f d → isP ks f d = true
  | _, _, _, .num i => by unfold KB.isP; rw [if_pos rfl]; simp [isN]
  | _, _, _, .node (k := k) (b := b) hk hb h => by
    unfold KB.isP
    rw [if_neg (kind_not_num g hk), isW, isT, boughOf_mem g hk hb]
    exact Wors.isWs g h
theorem Wors.isWs {ks : List Kind} (g : Good ks) : ∀ {s : Nat} {fs : List Str} {ds : List D}, Wors ks s fs ds → isWs ks fs ds = true
  | _, _, _, .nil => by rw [KB.isWs]; rfl
  | _, _, _, .cons h1 h2 => by
    rw [KB.isWs]
    have a := Wor.isP g h1
    have b := Wors.isWs g h2
    unfold KB.isP at a
    rw [a, b]
    rfl
end
theorem Wor.isW {ks : List Kind} (g : Good ks) {s : Nat} {k : Kind} {d : D} (hk : k ∈ ks) (h : Wor ks s k.1 d) : isW ks k.1 d = true := by
  have := h.isP g
  unfold KB.isP at this
  rwa [if_neg (kind_not_num g hk)] at this
theorem tg_nm {x : Str} (h : nameOk x = true) : gd (.str x) = true ∧ wtD (.str x) ≤ 92 := by
  obtain ⟨_, l, _, c⟩ := nameOk_split h
  refine ⟨?_, by rw [wtD]; omega⟩
  rw [gd]
  exact ascii_mem.mpr fun d hd => by have := c d hd; omega
mutual
theorem Wor.big {ks : List Kind} (g : Good ks) : ∀ {s : Nat} {f : Str} {d : D}, Wor ks s f d → gd d = true ∧ dpD d ≤ s ∧ wtD d + 2 ≤ 240 * s + 14
  | _, _, _, .num i => by
    refine ⟨by simp [gd], by simp [dpD, pyF, PyData.depth], ?_⟩
    rw [wtD]
    have : (Int.natAbs (i : Int)).log2 ≤ i := by
      rw [Int.natAbs_natCast]
      exact Nat.log2_le_self i
    omega
  | _, _, _, .node (n := n) (k := k) (b := b) (ds := ds) hk hb h => by
    obtain ⟨h1, h2, h3⟩ := Wors.big g h
    have hn := nameOk_split (g.bn k hk b hb)
    have h8 := g.s3 k hk b hb
    have hl := h.len
    have tn := tg_nm (g.bn k hk b hb)
    refine ⟨?_, ?_, ?_⟩
    · rw [gd, gds_mem]
      exact forall_cons tn.1 h1
    · rw [dp_tup]
      have := depth_all (n := n) (forall_cons (a := D.str b.1) (by simp [dpD, pyF, PyData.depth]) h2)
      omega
    · rw [wtD, wts]
      have := tn.2
      omega
theorem Wors.big {ks : List Kind} (g : Good ks) : ∀ {s : Nat} {fs : List Str} {ds : List D}, Wors ks s fs ds → (∀ d ∈ ds, gd d = true) ∧ (∀ d ∈ ds, dpD d ≤ s) ∧ wts ds ≤ 240 * s + 14 * ds.length
  | _, _, _, .nil => by simp [wts]
  | _, _, _, .cons (m := m) (n := n) h1 h2 => by
    obtain ⟨a1, a2, a3⟩ := Wor.big g h1
    obtain ⟨b1, b2, b3⟩ := Wors.big g h2
    refine ⟨forall_cons a1 b1, forall_cons (by omega) fun d hd => by have := b2 d hd; omega, ?_⟩
    rw [wts, List.length_cons]
    omega
end
theorem Wor.tg {ks : List Kind} (g : Good ks) {s : Nat} {k : Kind} {d : D} (hk : k ∈ ks) (h : Wor ks s k.1 d) : Tg s (240 * s) d := by
  rcases h.inv with ⟨e, _⟩ | ⟨n, k', b, ds, rfl, e, hk', hb, rfl, h'⟩
  · exact absurd e (kind_not_num g hk)
  obtain ⟨h1, h2, h3⟩ := h'.big g
  have tn := tg_nm (g.bn k' hk' b hb)
  have h8 := g.s3 k' hk' b hb
  have hl := h'.len
  have := h.big g
  refine ⟨this.1, this.2.1, ?_⟩
  rw [wtD, wts]
  have := tn.2
  omega
end KB

namespace KB
open PySem L2 Dk
open PyProof.Rows (envOfC)
/-- a worth drawn, its size told -/
def spWorthS (a : Addr) (n : Nat) : DSp where
  n := 5
  f := fun ds Q _ => ∃ ks kvs k, ∃ most : Nat, ds = [.opq a, infoD ks, .dic kvs, .str k.1, .int most] ∧ Good ks ∧ Sized ks kvs ∧ k ∈ ks ∧ most ≤ 1000 ∧ most < n ∧ zv kvs k.1 < n ∧ ∀ s d, Wor ks s k.1 d → s ≤ max most (zv kvs k.1) → Q d
  len := fun ds Q E ⟨_, _, _, _, e, _⟩ => by rw [e]; rfl
  mono := fun ds Q Q' E E' k _ ⟨m, kvs, x, b, e, h1, h2, h3, h4, h5, h6, q⟩ => ⟨m, kvs, x, b, e, h1, h2, h3, h4, h5, h6, fun s d h h' => k _ (q s d h h')⟩
section
variable {P : Program} {w : World} {K : PySem.W.Frag} {C a l : Addr} {mg : Str → Option Value} {base : Heap} {W : Wd} {k : Nat} {f : Addr} {fd : FuncData}
theorem ok_worthS (T : TxtB K C mg) (Fn : Fun K "_law_worth" "_law_worth" s__law_worth f fd) {n : Nat} (C__law_draw : Cal P w K mg base CX0 (DeckW a l) k "_law_draw" ["_law_deck_here", "_law_most"] (spDraw a))
    (C__law_pick : Cal P w K mg base CX0 (DeckW a l) k "_law_pick" ["_law_deck_here", "_law_some"] (spPick a)) (C__law_bough_size : Cal P w K mg base CX0 (DeckW a l) k "_law_bough_size" ["_law_info_here", "_law_sizes_here", "_law_bough"] spBsize)
    (C__law_worth : Cal P w K mg base CX0 (DeckW a l) k "_law_worth" ["_law_deck_here", "_law_info_here", "_law_sizes_here", "_law_kind", "_law_most"] (spWorthS a n)) :
    GnOk P w K mg base CX0 (k + 1) f fd ["_law_deck_here", "_law_info_here", "_law_sizes_here", "_law_kind", "_law_most"] (spD (DeckW a l) K (spWorthS a (n + 1))) := by
  refine Fn.okD sc__law_worth rfl fun cdv A outer s H I ds Q Ed E hr h => ?_
  have hu := hr.units
  obtain ⟨ks, kvs, x, most, rfl, g, z, hx, hm, hn1, hn2, q⟩ := h
  refine ⟨_, (dss_cons (by first | exact (ds_setLc (i := 5) (own := [("_law_bough", 6)]) rfl sc__law_worth.nd rfl rfl (sw_true rfl rfl rfl (by decide +kernel)) (di_seq (de_at hu (de_at hu (de_name 1) de_str) (de_name 3))) (blkOk_by (own := [("_law_bough", 6)]) (N := ["_law_deck_here", "_law_info_here", "_law_sizes_here", "_law_kind", "_law_most", "_law_some", "_law_bough", "_law_left", "_law_parts", "_law_field", "_law_more"]) (sc := defScope s__law_worth) (by decide +kernel)) (fun _ _ _ _ _ => (dg_name 6 sc__law_worth.nd)) (fun _ _ _ _ _ => (dif_one (dt_c .le (de_fn C__law_bough_size (hr.mono (by omega)) pass0 lets0 (da_cons (de_name 1) (da_cons (de_name 2) (da_cons (de_name 6) da_nil)))) (de_max2 rfl T.b_max (da_cons (de_name 4) (da_cons (de_at hu (de_name 2) (de_name 3)) da_nil)))))) (fun _ _ _ _ _ => (de_name 6))) | exact (ds_set 5 (de_lc (own := [("_law_bough", 6)]) rfl sc__law_worth.nd (di_seq (de_at hu (de_at hu (de_name 1) de_str) (de_name 3))) (blkOk_by (own := [("_law_bough", 6)]) (N := ["_law_deck_here", "_law_info_here", "_law_sizes_here", "_law_kind", "_law_most", "_law_some", "_law_bough", "_law_left", "_law_parts", "_law_field", "_law_more"]) (sc := defScope s__law_worth) (by decide +kernel)) (fun _ _ _ _ _ => (dg_name 6 sc__law_worth.nd)) (fun _ _ _ _ _ => (dif_one (dt_c .le (de_fn C__law_bough_size (hr.mono (by omega)) pass0 lets0 (da_cons (de_name 1) (da_cons (de_name 2) (da_cons (de_name 6) da_nil)))) (de_max2 rfl T.b_max (da_cons (de_name 4) (da_cons (de_at hu (de_name 2) (de_name 3)) da_nil)))))) (fun _ _ _ _ _ => (de_name 6))) sc__law_worth.nd))
  (dss_cons (ds_set 6 (de_fn C__law_pick (hr.mono (by omega)) pass0 lets0 (da_cons (de_name 0) (da_cons (de_name 5) da_nil))) sc__law_worth.nd)
  (dss_cons (ds_set 7 (de_max2 rfl T.b_max (da_cons de_int (da_cons (de_sub (de_name 4) (de_fn C__law_bough_size (hr.mono (by omega)) pass0 lets0 (da_cons (de_name 1) (da_cons (de_name 2) (da_cons (de_name 6) da_nil))))) da_nil))) sc__law_worth.nd)
  (dss_cons (ds_own 8 da_nil sc__law_worth.nd)
  (dss_cons (ds_for PassesOwn.never rfl (di_seq (de_at hu (de_at hu (de_name 1) de_str) (de_name 6))) (dg_name 9 sc__law_worth.nd)
  (dss_cons (ds_set 10 (de_fn C__law_draw (hr.mono (by omega)) pass0 lets0 (da_cons (de_name 0) (da_cons (de_add (de_name 7) de_int) da_nil))) sc__law_worth.nd)
  (dss_cons (ds_set 7 (de_sub (de_name 7) (de_name 10)) sc__law_worth.nd)
  (dss_one (ds_if (dt_c (.eq hu) (de_name 9) de_str)
  (dss_one (ds_append 8 (de_name 10)))
  (dss_one (ds_append 8 (de_fn C__law_worth (hr.mono (by omega)) pass0 lets0 (da_cons (de_name 0) (da_cons (de_name 1) (da_cons (de_name 2) (da_cons (de_name 9) (da_cons (de_add (de_at hu (de_name 2) (de_name 9)) (de_name 10)) da_nil)))))))))))))
  (dss_freeze 8
  (dss_one (ds_ret (de_add (de_tup (da_cons (de_name 6) da_nil)) (de_tuple T.b_tuple (da_cons (de_name 8) da_nil))))))))))), ?_⟩
  simp only [getD_0, getD_s, set_0, set_s, boolD_bl, intD_int, startD, List.map, List.length_cons, List.length_nil, List.replicate, List.cons_append, List.nil_append, defEnds, wipeD, if_true, if_false, Bool.not_true, Bool.not_false, Bool.false_eq_true]
  have hx8 := g.s2 x hx
  refine info_b (lists_ix g hx ?_)
  simp only [itemsD]
  refine ⟨small_len (by rw [List.length_map]; omega), lcD_map (fun b : Bough => .str b.1) (fun b => .str b.1) (fun b => decide (1 + wsum (zv kvs) b.2 ≤ max most (zv kvs x.1))) (fun b hb R S h1 h2 => ?_) ?_⟩
  · refine ⟨_, rfl, _, rfl, _, rfl, ks, kvs, x, b, rfl, g, z, hx, hb, _, rfl, _, rfl, _, rfl, .inr x.1, _, rfl, (z.look (List.mem_map_of_mem hx)).1, ?_⟩
    show boolD (.bl (decide (((1 + wsum (zv kvs) b.2 : Nat) : Int) ≤ (if ((zv kvs x.1 : Nat) : Int) > (most : Int) then ((zv kvs x.1 : Nat) : Int) else (most : Int))))) _
    have e : (if ((zv kvs x.1 : Nat) : Int) > (most : Int) then ((zv kvs x.1 : Nat) : Int) else (most : Int)) = ((max most (zv kvs x.1) : Nat) : Int) := by split <;> omega
    rw [e]
    simp only [getD_0, getD_s, set_0, set_s, boolD_bl, intD_int, startD, List.map, List.length_cons, List.length_nil, List.replicate, List.cons_append, List.nil_append, defEnds, wipeD, if_true, if_false, Bool.not_true, Bool.not_false, Bool.false_eq_true]
    by_cases hc : 1 + wsum (zv kvs) b.2 ≤ max most (zv kvs x.1)
    · rw [if_pos (by rw [decide_eq_true_eq]; omega)]
      exact h1 (by simpa using hc)
    · rw [if_neg (by rw [decide_eq_true_eq]; omega)]
      exact h2 (by simpa using hc)
  refine ⟨_, rfl, fun he => ?_, by rw [List.length_map]; exact Nat.le_trans (List.length_filter_le _ _) (by omega), fun d hd => ?_⟩
  · obtain ⟨b, hb, _, h2⟩ := z.z.wit x hx (z.all x hx).1
    have : b ∈ x.2.filter (fun b => decide (1 + wsum (zv kvs) b.2 ≤ max most (zv kvs x.1))) := List.mem_filter.mpr ⟨hb, by rw [decide_eq_true_eq]; omega⟩
    rw [List.map_eq_nil_iff] at he
    rw [he] at this
    cases this
  obtain ⟨b, hbf, rfl⟩ := List.mem_map.mp hd
  obtain ⟨hb, hbz⟩ := List.mem_filter.mp hbf
  rw [decide_eq_true_eq] at hbz
  refine ⟨ks, kvs, x, b, rfl, g, z, hx, hb, ?_⟩
  show 0 ≤ sizeLine ∧ ixD (infoD ks) _ _
  have e0 : (if ((most : Int) - ((1 + wsum (zv kvs) b.2 : Nat) : Int)) > 0 then ((most : Int) - ((1 + wsum (zv kvs) b.2 : Nat) : Int)) else 0) = ((most - (1 + wsum (zv kvs) b.2) : Nat) : Int) := by split <;> omega
  rw [e0]
  have hb8 := g.s3 x hx b hb
  have z29 := (z.all x hx).2
  refine ⟨Nat.zero_le _, info_f (fields_ix g hx hb ?_)⟩
  simp only [itemsD]
  refine forD_ind (fun (m2 : List D) ρ => ∃ (pre br : List Str) (left sz : Nat) (ps : List D) (v9 v10 : Option Ent), b.2 = pre ++ br ∧ m2 = br.map D.str ∧ left ≤ most - (1 + wsum (zv kvs) b.2) ∧ Wors ks sz pre ps ∧ sz + left ≤ wsum (zv kvs) pre + (most - (1 + wsum (zv kvs) b.2)) ∧ ρ = [some (.dat (.opq a)), some (.dat (infoD ks)), some (.dat (.dic kvs)), some (.dat (.str x.1)), some (.dat (.int (most : Int))), some (.dat (.lst ((x.2.filter fun b => decide (1 + wsum (zv kvs) b.2 ≤ max most (zv kvs x.1))).map fun b => .str b.1))), some (.dat (.str b.1)), some (.dat (.int (left : Int))), some (.own ps), v9, v10]) (fun ρ ⟨pre, br, left, sz, ps, v9, v10, e1, e2, hl, hp, hsz, e⟩ => ?_) (fun d m2 ρ R ⟨pre, br, left, sz, ps, v9, v10, e1, e2, hl, hp, hsz, e⟩ hR => ?_) _ _ ⟨[], b.2, _, 0, [], none, none, rfl, rfl, Nat.le_refl _, .nil, by simp only [wsum, List.filter_nil, List.map_nil, List.sum_nil]; omega, rfl⟩
  · subst e
    obtain rfl : br = [] := by simpa using e2.symm
    rw [List.append_nil] at e1
    subst e1
    refine ⟨_, rfl, trivial, ?_⟩
    refine ⟨_, rfl, by decide, _, rfl, ?_⟩
    have lp := hp.len
    exact ⟨small_len (by simp only [List.length_cons, List.length_nil]; omega), q _ _ (.node hx hb hp) (by omega)⟩
  · subst e
    cases br with
    | nil => cases e2
    | cons f br =>
      rw [List.map_cons] at e2
      obtain ⟨rfl, rfl⟩ := List.cons.inj e2
      have hfm : f ∈ b.2 := by rw [e1]; simp
      have lp := hp.len
      have lp8 : pre.length ≤ 8 := by have := congrArg List.length e1; rw [List.length_append] at this; omega
      refine ⟨_, rfl, _, rfl, (left : Int) + 1, rfl, by omega, log_small (by omega), fun more h0 h1 => ?_⟩
      obtain ⟨more, rfl⟩ := Int.eq_ofNat_of_zero_le h0
      have hml : more ≤ left := by omega
      have e3 : (left : Int) - (more : Int) = ((left - more : Nat) : Int) := by omega
      refine ⟨_, rfl, _, rfl, ?_⟩
      show getD _ 9 _
      rw [e3]
      refine ⟨_, rfl, ?_⟩
      show eqD (.str f) (.str numS) _
      rw [eqD_str]
      simp only [getD_0, getD_s, set_0, set_s, boolD_bl, intD_int, startD, List.map, List.length_cons, List.length_nil, List.replicate, List.cons_append, List.nil_append, defEnds, wipeD, if_true, if_false, Bool.not_true, Bool.not_false, Bool.false_eq_true]
      by_cases hn : f = numS
      · rw [if_pos (by simpa using hn)]
        subst hn
        exact ⟨_, rfl, small_lt (by omega), hR _ ⟨pre ++ [numS], br, left - more, _, _, _, _, by rw [e1]; simp, rfl, by omega, Wors.snoc (s := sz) (.num more) hp, by rw [wsum_snoc, if_pos rfl]; omega, rfl⟩⟩
      · rw [if_neg (by simpa using hn)]
        have hff : f ∈ b.2.filter notNum := List.mem_filter.mpr ⟨hfm, by simp [notNum, hn]⟩
        obtain ⟨k', hk', rfl⟩ := List.mem_map.mp (num_name g hx hb f hff)
        have hw := le_wsum (s := zv kvs) hff
        refine ⟨_, rfl, .inr k'.1, _, rfl, (z.look (List.mem_map_of_mem hk')).1, ?_⟩
        refine ⟨ks, kvs, k', zv kvs k'.1 + more, rfl, g, z, hk', by omega, by omega, by omega, fun sc d hd hsc => ⟨small_lt (by omega), hR _ ⟨pre ++ [k'.1], br, left - more, _, _, _, _, by rw [e1]; simp, rfl, by omega, Wors.snoc (s := sz) hd hp, by rw [wsum_snoc, if_neg hn]; omega, rfl⟩⟩⟩
end
end KB

namespace KB
open PySem L2 Dk
open PyProof.Rows (envOfC)
abbrev s_Book_boughs : Stmt := inClass (top 23) 5
theorem sc_Book_boughs : FnScope ["self", "kind"] ["self", "kind"] (defScope s_Book_boughs) := ⟨rfl, rfl, rfl, by decide +kernel, rfl, by decide +kernel, by decide +kernel⟩
theorem bd_Book_boughs (kV doc pm : Value) (an : Option Addr) (cdv ct : Value) (us : List Value) (hl : us.length = 2) : bindArgs (PySem.W.fnOf "boughs" "Book.boughs" (defArgs s_Book_boughs) (defBody s_Book_boughs) (defScope s_Book_boughs) .none kV doc pm an cdv ct) ⟨us, []⟩ = pure ((["self", "kind"] : List Str).zip us) := by
  match us, hl with
  | [v0, v1], _ => rfl
abbrev s_Book_must_have : Stmt := inClass (top 23) 6
theorem sc_Book_must_have : FnScope ["self", "bough"] ["self", "bough"] (defScope s_Book_must_have) := ⟨rfl, rfl, rfl, by decide +kernel, rfl, by decide +kernel, by decide +kernel⟩
theorem bd_Book_must_have (kV doc pm : Value) (an : Option Addr) (cdv ct : Value) (us : List Value) (hl : us.length = 2) : bindArgs (PySem.W.fnOf "must_have" "Book.must_have" (defArgs s_Book_must_have) (defBody s_Book_must_have) (defScope s_Book_must_have) .none kV doc pm an cdv ct) ⟨us, []⟩ = pure ((["self", "bough"] : List Str).zip us) := by
  match us, hl with
  | [v0, v1], _ => rfl
abbrev s_Book_fields_of : Stmt := inClass (top 23) 8
theorem sc_Book_fields_of : FnScope ["self", "bough"] ["self", "bough"] (defScope s_Book_fields_of) := ⟨rfl, rfl, rfl, by decide +kernel, rfl, by decide +kernel, by decide +kernel⟩
theorem bd_Book_fields_of (kV doc pm : Value) (an : Option Addr) (cdv ct : Value) (us : List Value) (hl : us.length = 2) : bindArgs (PySem.W.fnOf "fields_of" "Book.fields_of" (defArgs s_Book_fields_of) (defBody s_Book_fields_of) (defScope s_Book_fields_of) .none kV doc pm an cdv ct) ⟨us, []⟩ = pure ((["self", "bough"] : List Str).zip us) := by
  match us, hl with
  | [v0, v1], _ => rfl
section
variable {P : Program} {w : World} {K : PySem.W.Frag} {C : Addr} {mg : Str → Option Value} {base : Heap} {W : Wd} {k : Nat} {f : Addr} {fd : FuncData}
theorem ok_boughs (T : TxtB K C mg) (Fn : Fun K "boughs" "Book.boughs" s_Book_boughs f fd) : GnOk P w K mg base CX0 (k + 1) f fd ["self", "kind"] (spD W K (spBoughs C)) := by
  refine Fn.okD sc_Book_boughs rfl fun cdv A outer s H I ds Q Ed E hr h => ?_
  have hu := hr.units
  have hu2 : (A.deeper (envOfC "Book.boughs" (defScope s_Book_boughs) s.heap.objs.size f cdv)).units + 66 < cLine := by have := hr.room.un; omega
  obtain ⟨ks, x, rfl, g, hx, q⟩ := h
  refine ⟨_, (dss_cons (ds_if (dt_wh (dw_or (dt_not (dt_val (de_isi is_str T.b_isinstance T.b_str (by decide +kernel) (de_name 1)))) (dw_or1 (dt_notin hu2 (de_name 1) (de_fld T.cl_Book T.na_Book_names_by (de_name 0))))))
  (dss_one ds_never)
  dss_nil)
  (dss_one (ds_ret (de_at hu (de_fld T.cl_Book T.na_Book_names_by (de_name 0)) (de_name 1))))), ?_⟩
  simp only [getD_0, getD_s, set_0, set_s, boolD_bl, intD_int, startD, List.map, List.length_cons, List.length_nil, List.replicate, List.cons_append, List.nil_append, defEnds, wipeD, if_true, if_false, Bool.not_true, Bool.not_false, Bool.false_eq_true]
  refine ⟨rfl, ?_⟩
  simp only [isStr, Bool.not_true, Bool.false_eq_true, if_false]
  have e := lookD_mem g.nk (mem_namesBy hx)
  refine ⟨_, _, rfl, rfl, .inr x.1, rfl, ?_⟩
  rw [e]
  simp only [Dk.flip, if_true, Option.isSome_some, Bool.not_true, boolD_bl, Bool.false_eq_true, if_false]
  exact ⟨_, _, rfl, rfl, .inr x.1, _, rfl, e, q⟩
theorem ok_must (T : TxtB K C mg) (Fn : Fun K "must_have" "Book.must_have" s_Book_must_have f fd) : GnOk P w K mg base CX0 (k + 1) f fd ["self", "bough"] (spD W K (spMust C)) := by
  refine Fn.okD sc_Book_must_have rfl fun cdv A outer s H I ds Q Ed E hr h => ?_
  have hu := hr.units
  have hu2 : (A.deeper (envOfC "Book.must_have" (defScope s_Book_must_have) s.heap.objs.size f cdv)).units + 66 < cLine := by have := hr.room.un; omega
  obtain ⟨ks, x, b, rfl, g, hx, hb, q⟩ := h
  refine ⟨_, (dss_one (ds_if (dt_wh (dw_or (dt_not (dt_val (de_isi is_str T.b_isinstance T.b_str (by decide +kernel) (de_name 1)))) (dw_or1 (dt_notin hu2 (de_name 1) (de_fld T.cl_Book T.na_Book_kinds_by (de_name 0))))))
  (dss_one ds_never)
  dss_nil)), ?_⟩
  simp only [getD_0, getD_s, set_0, set_s, boolD_bl, intD_int, startD, List.map, List.length_cons, List.length_nil, List.replicate, List.cons_append, List.nil_append, defEnds, wipeD, if_true, if_false, Bool.not_true, Bool.not_false, Bool.false_eq_true]
  refine ⟨rfl, ?_⟩
  simp only [isStr, Bool.not_true, Bool.false_eq_true, if_false]
  have e := lookD_mem g.kk (mem_kindsBy hx hb)
  refine ⟨_, _, rfl, rfl, .inr b.1, rfl, ?_⟩
  rw [e]
  simp only [Dk.flip, if_true, Option.isSome_some, Bool.not_true, boolD_bl, Bool.false_eq_true, if_false]
  exact q
theorem ok_fields_of (T : TxtB K C mg) (Fn : Fun K "fields_of" "Book.fields_of" s_Book_fields_of f fd) (CM_must_have : CalM P w K mg base CX0 W k C "must_have" ["self", "bough"] (spMust C)) : GnOk P w K mg base CX0 (k + 1) f fd ["self", "bough"] (spD W K (spFields C)) := by
  refine Fn.okD sc_Book_fields_of rfl fun cdv A outer s H I ds Q Ed E hr h => ?_
  have hu := hr.units
  obtain ⟨ks, x, b, rfl, g, hx, hb, q⟩ := h
  refine ⟨_, (dss_cons (ds_expr (de_meth CM_must_have (hr.mono (by omega)) pass0 lets0 (de_name 0) (da_cons (de_name 1) da_nil)))
  (dss_one (ds_ret (de_at hu (de_fld T.cl_Book T.na_Book_fields_by (de_name 0)) (de_name 1))))), ?_⟩
  simp only [getD_0, getD_s, set_0, set_s, boolD_bl, intD_int, startD, List.map, List.length_cons, List.length_nil, List.replicate, List.cons_append, List.nil_append, defEnds, wipeD, if_true, if_false, Bool.not_true, Bool.not_false, Bool.false_eq_true]
  refine ⟨_, rfl, rfl, ks, x, b, rfl, g, hx, hb, ?_⟩
  exact ⟨_, _, rfl, rfl, .inr b.1, _, rfl, lookD_mem g.fk (mem_fieldsBy hx hb), q⟩
end
end KB

namespace KB
open PySem L2 Dk
open PyProof.Rows (envOfC)
abbrev s_is_whole : Stmt := top 5
theorem sc_is_whole : FnScope ["thing"] ["thing"] (defScope s_is_whole) := ⟨rfl, rfl, rfl, by decide +kernel, rfl, by decide +kernel, by decide +kernel⟩
theorem bd_is_whole (kV doc pm : Value) (an : Option Addr) (cdv ct : Value) (us : List Value) (hl : us.length = 1) : bindArgs (PySem.W.fnOf "is_whole" "is_whole" (defArgs s_is_whole) (defBody s_is_whole) (defScope s_is_whole) .none kV doc pm an cdv ct) ⟨us, []⟩ = pure ((["thing"] : List Str).zip us) := by
  match us, hl with
  | [v0], _ => rfl
abbrev s_is_part : Stmt := top 8
theorem sc_is_part : FnScope ["book", "field", "thing"] ["book", "field", "thing"] (defScope s_is_part) := ⟨rfl, rfl, rfl, by decide +kernel, rfl, by decide +kernel, by decide +kernel⟩
theorem bd_is_part (kV doc pm : Value) (an : Option Addr) (cdv ct : Value) (us : List Value) (hl : us.length = 3) : bindArgs (PySem.W.fnOf "is_part" "is_part" (defArgs s_is_part) (defBody s_is_part) (defScope s_is_part) .none kV doc pm an cdv ct) ⟨us, []⟩ = pure ((["book", "field", "thing"] : List Str).zip us) := by
  match us, hl with
  | [v0, v1, v2], _ => rfl
abbrev s_is_worth : Stmt := top 9
theorem sc_is_worth : FnScope ["book", "kind", "thing", "bough", "parts", "fields", "field", "part"] ["book", "kind", "thing"] (defScope s_is_worth) := ⟨rfl, rfl, rfl, by decide +kernel, rfl, by decide +kernel, by decide +kernel⟩
theorem bd_is_worth (kV doc pm : Value) (an : Option Addr) (cdv ct : Value) (us : List Value) (hl : us.length = 3) : bindArgs (PySem.W.fnOf "is_worth" "is_worth" (defArgs s_is_worth) (defBody s_is_worth) (defScope s_is_worth) .none kV doc pm an cdv ct) ⟨us, []⟩ = pure ((["book", "kind", "thing"] : List Str).zip us) := by
  match us, hl with
  | [v0, v1, v2], _ => rfl
def isWhole : D → Bool
  | .int _ => true
  | _ => false
def spWhole : DSp where
  n := 1
  f := fun ds Q _ => ∃ d, ds = [d] ∧ known d = true ∧ Q (.bl (isWhole d))
  len := fun ds Q E ⟨_, e, _⟩ => by rw [e]; rfl
  mono := fun ds Q Q' E E' k _ ⟨d, e, h1, q⟩ => ⟨d, e, h1, k _ q⟩
def spPart (C : Addr) (n : Nat) : DSp where
  n := 3
  f := fun ds Q _ => ∃ ks f d, ds = [bookD C ks, .str f, d] ∧ Good ks ∧ (f = numS ∨ f ∈ kNames ks) ∧ gd d = true ∧ wdD d ≤ 16000 ∧ dpD d < n ∧ Q (.bl (isP ks f d))
  len := fun ds Q E ⟨_, _, _, e, _⟩ => by rw [e]; rfl
  mono := fun ds Q Q' E E' k _ ⟨ks, f, d, e, h1, h2, h3, h4, h5, q⟩ => ⟨ks, f, d, e, h1, h2, h3, h4, h5, k _ q⟩
def spIsWorth (C : Addr) (n : Nat) : DSp where
  n := 3
  f := fun ds Q _ => ∃ ks k d, ds = [bookD C ks, .str k.1, d] ∧ Good ks ∧ k ∈ ks ∧ gd d = true ∧ wdD d ≤ 16000 ∧ dpD d < n ∧ Q (.bl (isW ks k.1 d))
  len := fun ds Q E ⟨_, _, _, e, _⟩ => by rw [e]; rfl
  mono := fun ds Q Q' E E' k _ ⟨ks, f, d, e, h1, h2, h3, h4, h5, q⟩ => ⟨ks, f, d, e, h1, h2, h3, h4, h5, k _ q⟩
theorem rfl_atI {d : D} {ps : List D} : L2.atI (d :: ps) 0 = some d := atI_nat (j := 0) rfl
structure TxtH (K : PySem.W.Frag) (C : Addr) (mg : Str → Option Value) : Prop extends TxtB K C mg where
  b_bool : mg "bool" = none
theorem zip_map {fs : List Str} : ∀ {ps : List D}, List.zipWith (fun d e => D.tup [d, e]) (fs.map D.str) ps = (fs.zip ps).map fun z => .tup [.str z.1, z.2] := by
  induction fs with
  | nil => intro ps; rfl
  | cons f fs ih =>
    intro ps
    cases ps with
    | nil => rfl
    | cons p ps => simp only [List.map_cons, List.zipWith_cons_cons, List.zip_cons_cons, ih]
theorem isP_num {ks : List Kind} {d : D} : isP ks numS d = isN d := by simp [isP]
theorem isP_kind {ks : List Kind} {f : Str} {d : D} (h : f ≠ numS) : isP ks f d = isW ks f d := by simp [isP, h]
theorem isW_not {ks : List Kind} {k : Str} {d : D} (h : isTup d = false) : isW ks k d = false := by
  cases d <;> first | (cases h; done) | simp [isW]
theorem isT_str {ks : List Kind} {k b : Str} {ps : List D} : isT ks k (.str b :: ps) = match boughOf ks k b with
    | some fs => isWs ks fs ps
    | none => false := by rw [isT] <;> (cases boughOf ks k b <;> rfl)
theorem isT_not {ks : List Kind} {k : Str} {d : D} {ps : List D} (h : isStr d = false) : isT ks k (d :: ps) = false := by
  cases d <;> first | (cases h; done) | simp [isT]
theorem tup_of {d : D} (h : isTup d = true) : ∃ xs, d = .tup xs := by
  cases d <;> first | (cases h; done) | exact ⟨_, rfl⟩
theorem str_of' {d : D} (h : isStr d = true) : ∃ x, d = .str x := by
  cases d <;> first | (cases h; done) | exact ⟨_, rfl⟩
section
variable {P : Program} {w : World} {K : PySem.W.Frag} {C a l : Addr} {mg : Str → Option Value} {base : Heap} {W : Wd} {k : Nat} {f : Addr} {fd : FuncData}
theorem ok_is_whole (T : TxtH K C mg) (Fn : Fun K "is_whole" "is_whole" s_is_whole f fd) : GnOk P w K mg base CX0 (k + 1) f fd ["thing"] (spD W K spWhole) := by
  refine Fn.okD sc_is_whole rfl fun cdv A outer s H I ds Q Ed E hr h => ?_
  have hu := hr.units
  obtain ⟨d, rfl, hk, q⟩ := h
  refine ⟨_, (dss_one (ds_ret (de_and (de_isi is_int T.b_isinstance T.b_int (by decide +kernel) (de_name 0)) (de_one (de_not (de_isi is_bool T.b_isinstance T.b_bool (by decide +kernel) (de_name 0))))))), ?_⟩
  simp only [getD_0, getD_s, set_0, set_s, boolD_bl, intD_int, startD, List.map, List.length_cons, List.length_nil, List.replicate, List.cons_append, List.nil_append, defEnds, wipeD, if_true, if_false, Bool.not_true, Bool.not_false, Bool.false_eq_true]
  refine ⟨hk, ?_⟩
  cases d <;> first | (simp only [isInt, if_true, Bool.false_eq_true, if_false]; exact q) | (simp only [isInt, isBl, if_true]; exact ⟨hk, q⟩)
theorem ok_is_part (T : TxtH K C mg) (Fn : Fun K "is_part" "is_part" s_is_part f fd) {n : Nat} (C_is_whole : Cal P w K mg base CX0 W k "is_whole" ["thing"] spWhole) (C_is_worth : Cal P w K mg base CX0 W k "is_worth" ["book", "kind", "thing"] (spIsWorth C n)) : GnOk P w K mg base CX0 (k + 1) f fd ["book", "field", "thing"] (spD W K (spPart C n)) := by
  refine Fn.okD sc_is_part rfl fun cdv A outer s H I ds Q Ed E hr h => ?_
  have hu := hr.units
  obtain ⟨ks, f, d, rfl, g, hf, h1, h2, h3, q⟩ := h
  refine ⟨_, (dss_cons (ds_if (dt_c (.eq hu) (de_name 1) (de_gs T.g_NUM))
  (dss_one (ds_ret (de_and (de_fn C_is_whole (hr.mono (by omega)) pass0 lets0 (da_cons (de_name 2) da_nil)) (de_one (de_c .ge (de_name 2) de_int)))))
  dss_nil)
  (dss_one (ds_ret (de_fn C_is_worth (hr.mono (by omega)) pass0 lets0 (da_cons (de_name 0) (da_cons (de_name 1) (da_cons (de_name 2) da_nil))))))), ?_⟩
  simp only [getD_0, getD_s, set_0, set_s, boolD_bl, intD_int, startD, List.map, List.length_cons, List.length_nil, List.replicate, List.cons_append, List.nil_append, defEnds, wipeD, if_true, if_false, Bool.not_true, Bool.not_false, Bool.false_eq_true]
  show eqD (.str f) (.str numS) _
  rw [eqD_str]
  simp only [boolD_bl]
  by_cases hn : f = numS
  · rw [if_pos (by simpa using hn)]
    subst hn
    rw [isP_num] at q
    refine ⟨d, rfl, gd_known h1, ?_⟩
    cases d <;> first | (simp only [isWhole, boolD_bl, Bool.false_eq_true, if_false]; exact q) | (simp only [isWhole, boolD_bl, if_true]; exact q)
  · rw [if_neg (by simpa using hn)]
    rw [isP_kind hn] at q
    obtain ⟨x, hx, rfl⟩ := List.mem_map.mp (hf.resolve_left hn)
    exact ⟨ks, x, d, rfl, g, hx, h1, h2, h3, q⟩
theorem ok_is_worth (T : TxtH K C mg) (Fn : Fun K "is_worth" "is_worth" s_is_worth f fd) {n : Nat} (C_is_part : Cal P w K mg base CX0 W k "is_part" ["book", "field", "thing"] (spPart C n)) (CM_boughs : CalM P w K mg base CX0 W k C "boughs" ["self", "kind"] (spBoughs C)) (CM_fields_of : CalM P w K mg base CX0 W k C "fields_of" ["self", "bough"] (spFields C)) : GnOk P w K mg base CX0 (k + 1) f fd ["book", "kind", "thing"] (spD W K (spIsWorth C (n + 1))) := by
  refine Fn.okD sc_is_worth rfl fun cdv A outer s H I ds Q Ed E hr h => ?_
  have hu := hr.units
  have hu2 : (A.deeper (envOfC "is_worth" (defScope s_is_worth) s.heap.objs.size f cdv)).units + 66 < cLine := by have := hr.room.un; omega
  obtain ⟨ks, x, d, rfl, g, hx, h1, h2, h3, q⟩ := h
  refine ⟨_, (dss_cons (ds_if (dt_wh (dw_or (dt_not (dt_val (de_isi is_tup T.b_isinstance T.b_tuple (by decide +kernel) (de_name 2)))) (dw_or (dt_eqT0 hu (de_name 2) (de_tup da_nil)) (dw_or1 (dt_not (dt_val (de_isi is_str T.b_isinstance T.b_str (by decide +kernel) (de_at hu (de_name 2) de_int))))))))
  (dss_one (ds_ret de_bl))
  dss_nil)
  (dss_cons (ds_if (dt_notin hu2 (de_at hu (de_name 2) de_int) (de_meth CM_boughs (hr.mono (by omega)) pass0 lets0 (de_name 0) (da_cons (de_name 1) da_nil)))
  (dss_one (ds_ret de_bl))
  dss_nil)
  (dss_cons (ds_asg (de_name 2) (dg_star (i := 1) [.Name "bough" ⟨24, 4, 24, 9⟩, .Name "parts" ⟨24, 12, 24, 17⟩] rfl (dgs_cons (dg_name 3 sc_is_worth.nd) (dgs_cons (dg_name 4 sc_is_worth.nd) dgs_nil))))
  (dss_cons (ds_set 5 (de_meth CM_fields_of (hr.mono (by omega)) pass0 lets0 (de_name 0) (da_cons (de_name 3) da_nil)) sc_is_worth.nd)
  (dss_cons (ds_if (dt_c (.ne hu) (de_len T.b_len (da_cons (de_name 4) da_nil)) (de_len T.b_len (da_cons (de_name 5) da_nil)))
  (dss_one (ds_ret de_bl))
  dss_nil)
  (dss_one (ds_ret (de_all rfl T.b_all (da_cons (de_lc (own := [("field", 6), ("part", 7)]) rfl sc_is_worth.nd (di_zipS T.b_zip (da_cons (de_name 5) (da_cons (de_name 4) da_nil))) (blkOk_by (own := [("field", 6), ("part", 7)]) (N := ["book", "kind", "thing", "bough", "parts", "fields", "field", "part"]) (sc := defScope s_is_worth) (by decide +kernel)) (fun _ _ _ _ _ => (dg_tup (n := 2) rfl (dgs_cons (dg_name 6 sc_is_worth.nd) (dgs_cons (dg_name 7 sc_is_worth.nd) dgs_nil)))) (fun _ _ _ _ _ => dif_nil) (fun _ _ _ _ _ => (de_fn C_is_part (hr.mono (by omega)) pass0 lets0 (da_cons (de_name 0) (da_cons (de_name 6) (da_cons (de_name 7) da_nil)))))) da_nil))))))))), ?_⟩
  simp only [getD_0, getD_s, set_0, set_s, boolD_bl, intD_int, startD, List.map, List.length_cons, List.length_nil, List.replicate, List.cons_append, List.nil_append, defEnds, wipeD, if_true, if_false, Bool.not_true, Bool.not_false, Bool.false_eq_true]
  refine ⟨gd_known h1, ?_⟩
  cases ht : isTup d with
  | false =>
    simp only [Bool.not_false, if_true]
    rw [isW_not ht] at q
    exact q
  | true =>
    obtain ⟨xs, rfl⟩ := tup_of ht
    simp only [Bool.not_true, Bool.false_eq_true, if_false]
    rw [isW] at q
    rw [gd] at h1
    rw [wdD] at h2
    rw [dp_tup] at h3
    refine ⟨Nat.zero_le _, xs, rfl, rfl, ?_⟩
    cases xs with
    | nil =>
      simp only [List.isEmpty_nil, boolD_bl, if_true]
      rw [isT] at q
      exact q
    | cons d ps =>
      simp only [List.isEmpty_cons, boolD_bl, Bool.false_eq_true, if_false]
      have gm := gds_mem.mp h1
      refine ⟨d, rfl_atI, gd_known (gm d (by simp)), ?_⟩
      cases hs : isStr d with
      | false =>
        simp only [Bool.not_false, if_true]
        rw [isT_not hs] at q
        exact q
      | true =>
        obtain ⟨b, rfl⟩ := str_of' hs
        simp only [Bool.not_true, Bool.false_eq_true, if_false]
        rw [isT_str] at q
        have lp : ps.length + 1 ≤ 16000 := by have := Nat.le_trans (Nat.le_max_left _ _) h2; simpa using this
        refine ⟨_, rfl_atI, _, rfl, rfl, ks, x, rfl, g, hx, b, x.2.map (·.1), rfl, by rw [List.map_map]; rfl, ?_⟩
        simp only [boolD_bl, Dk.flip, if_true]
        by_cases hb : ∃ y ∈ x.2, y.1 = b
        · obtain ⟨y, hy, rfl⟩ := hb
          rw [boughOf_mem g hx hy] at q
          change Q (.bl (isWs ks y.2 ps)) at q
          have e1 : ((x.2.map (·.1)).any fun s => s == y.1) = true := by
            rw [List.any_eq_true]
            exact ⟨y.1, List.mem_map_of_mem hy, by simp⟩
          rw [e1]
          simp only [Bool.not_true, Bool.false_eq_true, if_false]
          refine ⟨_, .inr rfl, by simp, by rw [List.length_cons]; omega, ?_⟩
          refine ⟨_, _, rfl, _, _, rfl, rfl, _, rfl, rfl, ks, x, y, rfl, g, hx, hy, ?_⟩
          simp only [lenD]
          rw [neD_int]
          simp only [boolD_bl, List.drop_succ_cons, List.drop_zero, List.length_map]
          by_cases hl : y.2.length = ps.length
          · rw [if_neg (by simp [hl])]
            have y8 := g.s3 x hx y hy
            refine ⟨_, _, _, _, rfl, rfl, rfl, fun _ => by simpa using hl, ?_⟩
            rw [zip_map]
            refine ⟨small_len (by rw [List.length_map, List.length_zip]; omega), ?_⟩
            refine lcD_all (fun z : Str × D => .tup [.str z.1, z.2]) (fun z => .bl (isP ks z.1 z.2)) (fun z hz R S r => ?_) ?_
            · refine ⟨_, rfl, rfl, _, _, rfl, _, _, rfl, rfl, ?_⟩
              simp only [getD_0, getD_s, set_0, set_s, boolD_bl, intD_int, startD, List.map, List.length_cons, List.length_nil, List.replicate, List.cons_append, List.nil_append, defEnds, wipeD, if_true, if_false, Bool.not_true, Bool.not_false, Bool.false_eq_true]
              have hz2 := (List.of_mem_zip hz)
              refine ⟨ks, z.1, z.2, rfl, g, g.fl x hx y hy _ hz2.1, gm _ (List.mem_cons_of_mem _ hz2.2), ?_, ?_, r⟩
              · exact Nat.le_trans (wds_mem (List.mem_cons_of_mem (D.str y.1) hz2.2)) (Nat.le_trans (Nat.le_max_right _ _) h2)
              · exact Nat.lt_of_le_of_lt (depth_mem (xs := D.str y.1 :: ps) (Nat.le_refl _) (List.mem_cons_of_mem _ hz2.2)) (by omega)
            refine ⟨(y.2.zip ps).map fun z => isP ks z.1 z.2, by rw [List.map_map]; rfl, ?_⟩
            rw [isWs_zip hl] at q
            rw [List.all_map]
            exact q
          · rw [if_pos (by simp; omega)]
            rw [isWs_len hl] at q
            exact q
        · have no : ∀ y ∈ x.2, y.1 ≠ b := fun y hy e => hb ⟨y, hy, e⟩
          rw [boughOf_no g hx no] at q
          change Q (.bl false) at q
          have e1 : ((x.2.map (·.1)).any fun s => s == b) = false := by
            rw [List.any_eq_false]
            intro s hs
            obtain ⟨y, hy, rfl⟩ := List.mem_map.mp hs
            simpa using no y hy
          rw [e1]
          simp only [Bool.not_false, if_true]
          exact q
end
end KB

namespace KB
open PySem L2 Dk
open PyProof.Rows (envOfC)
abbrev s__law_is_worth : Stmt := top 36
theorem sc__law_is_worth : FnScope ["_law_info_here", "_law_kind", "_law_thing", "_law_field", "_law_part"] ["_law_info_here", "_law_kind", "_law_thing"] (defScope s__law_is_worth) := ⟨rfl, rfl, rfl, by decide +kernel, rfl, by decide +kernel, by decide +kernel⟩
theorem bd__law_is_worth (kV doc pm : Value) (an : Option Addr) (cdv ct : Value) (us : List Value) (hl : us.length = 3) : bindArgs (PySem.W.fnOf "_law_is_worth" "_law_is_worth" (defArgs s__law_is_worth) (defBody s__law_is_worth) (defScope s__law_is_worth) .none kV doc pm an cdv ct) ⟨us, []⟩ = pure ((["_law_info_here", "_law_kind", "_law_thing"] : List Str).zip us) := by
  match us, hl with
  | [v0, v1, v2], _ => rfl
def spLawIsW (n : Nat) : DSp where
  n := 3
  f := fun ds Q _ => ∃ ks k d, ds = [infoD ks, .str k.1, d] ∧ Good ks ∧ k ∈ ks ∧ gd d = true ∧ wdD d ≤ 16000 ∧ dpD d < n ∧ Q (.bl (isW ks k.1 d))
  len := fun ds Q E ⟨_, _, _, e, _⟩ => by rw [e]; rfl
  mono := fun ds Q Q' E E' k _ ⟨ks, f, d, e, h1, h2, h3, h4, h5, q⟩ => ⟨ks, f, d, e, h1, h2, h3, h4, h5, k _ q⟩
section
variable {P : Program} {w : World} {K : PySem.W.Frag} {C a l : Addr} {mg : Str → Option Value} {base : Heap} {W : Wd} {k : Nat} {f : Addr} {fd : FuncData}
theorem ok_law_is_worth (T : TxtH K C mg) (Fn : Fun K "_law_is_worth" "_law_is_worth" s__law_is_worth f fd) {n : Nat} (C__law_is_worth : Cal P w K mg base CX0 W k "_law_is_worth" ["_law_info_here", "_law_kind", "_law_thing"] (spLawIsW n)) : GnOk P w K mg base CX0 (k + 1) f fd ["_law_info_here", "_law_kind", "_law_thing"] (spD W K (spLawIsW (n + 1))) := by
  refine Fn.okD sc__law_is_worth rfl fun cdv A outer s H I ds Q Ed E hr h => ?_
  have hu := hr.units
  have hu2 : (A.deeper (envOfC "_law_is_worth" (defScope s__law_is_worth) s.heap.objs.size f cdv)).units + 66 < cLine := by have := hr.room.un; omega
  obtain ⟨ks, x, d, rfl, g, hx, h1, h2, h3, q⟩ := h
  refine ⟨_, (dss_cons (ds_if (dt_wh (dw_or (dt_not (dt_val (de_isi is_tup T.b_isinstance T.b_tuple (by decide +kernel) (de_name 2)))) (dw_or (dt_eqT0 hu (de_name 2) (de_tup da_nil)) (dw_or1 (dt_not (dt_val (de_isi is_str T.b_isinstance T.b_str (by decide +kernel) (de_at hu (de_name 2) de_int))))))))
  (dss_one (ds_ret de_bl))
  dss_nil)
  (dss_cons (ds_if (dt_wh (dw_or (dt_notin hu2 (de_at hu (de_name 2) de_int) (de_at hu (de_at hu (de_name 0) de_str) (de_name 1))) (dw_or1 (dt_c (.ne hu) (de_len T.b_len (da_cons (de_name 2) da_nil)) (de_add de_int (de_len T.b_len (da_cons (de_at hu (de_at hu (de_name 0) de_str) (de_at hu (de_name 2) de_int)) da_nil)))))))
  (dss_one (ds_ret de_bl))
  dss_nil)
  (dss_cons (ds_for PassesOwn.never rfl (di_zip T.b_zip (da_cons (de_at hu (de_at hu (de_name 0) de_str) (de_at hu (de_name 2) de_int)) (da_cons (de_slice (de_name 2) (do_some de_int) do_none) da_nil))) (dg_tup (n := 2) rfl (dgs_cons (dg_name 3 sc__law_is_worth.nd) (dgs_cons (dg_name 4 sc__law_is_worth.nd) dgs_nil)))
  (dss_one (ds_if (dt_c (.eq hu) (de_name 3) de_str)
  (dss_one (ds_if (dt_wh (dw_or (dt_not (dt_val (de_isi is_int T.b_isinstance T.b_int (by decide +kernel) (de_name 4)))) (dw_or (dt_val (de_isi is_bool T.b_isinstance T.b_bool (by decide +kernel) (de_name 4))) (dw_or1 (dt_c .lt (de_name 4) de_int)))))
  (dss_one (ds_ret de_bl))
  dss_nil))
  (dss_one (ds_if (dt_not (dt_val (de_fn C__law_is_worth (hr.mono (by omega)) pass0 lets0 (da_cons (de_name 0) (da_cons (de_name 3) (da_cons (de_name 4) da_nil))))))
  (dss_one (ds_ret de_bl))
  dss_nil)))))
  (dss_one (ds_ret de_bl))))), ?_⟩
  simp only [getD_0, getD_s, set_0, set_s, boolD_bl, intD_int, startD, List.map, List.length_cons, List.length_nil, List.replicate, List.cons_append, List.nil_append, defEnds, wipeD, if_true, if_false, Bool.not_true, Bool.not_false, Bool.false_eq_true]
  refine ⟨gd_known h1, ?_⟩
  cases ht : isTup d with
  | false =>
    simp only [Bool.not_false, if_true]
    rw [isW_not ht] at q
    exact q
  | true =>
    obtain ⟨xs, rfl⟩ := tup_of ht
    simp only [Bool.not_true, Bool.false_eq_true, if_false]
    rw [isW] at q
    rw [gd] at h1
    rw [wdD] at h2
    rw [dp_tup] at h3
    refine ⟨Nat.zero_le _, xs, rfl, rfl, ?_⟩
    cases xs with
    | nil =>
      simp only [List.isEmpty_nil, boolD_bl, if_true]
      rw [isT] at q
      exact q
    | cons d ps =>
      simp only [List.isEmpty_cons, boolD_bl, Bool.false_eq_true, if_false]
      have gm := gds_mem.mp h1
      refine ⟨d, rfl_atI, gd_known (gm d (by simp)), ?_⟩
      cases hs : isStr d with
      | false =>
        simp only [Bool.not_false, if_true]
        rw [isT_not hs] at q
        exact q
      | true =>
        obtain ⟨b, rfl⟩ := str_of' hs
        simp only [Bool.not_true, Bool.false_eq_true, if_false]
        rw [isT_str] at q
        have lp : ps.length + 1 ≤ 16000 := by have := Nat.le_trans (Nat.le_max_left _ _) h2; simpa using this
        have x8 := g.s2 x hx
        refine ⟨_, rfl_atI, info_b (lists_ix g hx ?_)⟩
        rw [show (x.2.map fun b => D.str b.1) = (x.2.map (·.1)).map D.str from by rw [List.map_map]; rfl]
        refine ⟨u_okE (by have := gm (.str b) (by simp); simpa [gd] using this), (okN_lst fun y hy => ?_ : OkN 1 _).okE (by decide), ?_⟩
        · obtain ⟨z, hz, rfl⟩ := List.mem_map.mp hy
          obtain ⟨b', hb', rfl⟩ := List.mem_map.mp hz
          exact okN_name (g.bn x hx b' hb')
        rw [u_any]
        simp only [boolD_bl, Dk.flip, if_true]
        by_cases hb : ∃ y ∈ x.2, y.1 = b
        · obtain ⟨y, hy, rfl⟩ := hb
          rw [boughOf_mem g hx hy] at q
          change Q (.bl (isWs ks y.2 ps)) at q
          rw [decide_eq_true (List.mem_map_of_mem hy)]
          simp only [Bool.not_true, Bool.false_eq_true, if_false, lenD]
          refine info_f ⟨_, rfl_atI, fields_ix g hx hy ?_⟩
          simp only [addD, lenD]
          rw [neD_int]
          simp only [boolD_bl, List.length_cons, List.length_map]
          have y8 := g.s3 x hx y hy
          by_cases hl : y.2.length = ps.length
          · rw [if_neg (by simp; omega)]
            refine info_f ⟨_, rfl_atI, fields_ix g hx hy ?_⟩
            simp only [sliceD, u_tail, zipD]
            rw [zip_map]
            rw [isWs_zip hl] at q
            refine forD_ind (fun (m : List D) ρ => ∃ (rest : List (Str × D)) (u3 u4 : Option Ent), m = rest.map (fun z => .tup [.str z.1, z.2]) ∧ (∀ z ∈ rest, z ∈ y.2.zip ps) ∧ Q (.bl (rest.all fun z => isP ks z.1 z.2)) ∧ ρ = [some (.dat (infoD ks)), some (.dat (.str x.1)), some (.dat (.tup (.str y.1 :: ps))), u3, u4]) (fun ρ ⟨rest, u3, u4, em, hr', q, e⟩ => ?_) (fun d m ρ R ⟨rest, u3, u4, em, hr', q, e⟩ hR => ?_) _ _ ⟨y.2.zip ps, none, none, rfl, fun _ h => h, q, rfl⟩
            · subst e
              obtain rfl : rest = [] := by simpa using em.symm
              exact q
            · subst e
              cases rest with
              | nil => simp at em
              | cons z rest =>
                rw [List.map_cons] at em
                obtain ⟨rfl, rfl⟩ := List.cons.inj em
                refine ⟨_, rfl, rfl, _, _, rfl, _, _, rfl, rfl, ?_⟩
                simp only [getD_0, getD_s, set_0, set_s, boolD_bl, intD_int, startD, List.map, List.length_cons, List.length_nil, List.replicate, List.cons_append, List.nil_append, defEnds, wipeD, if_true, if_false, Bool.not_true, Bool.not_false, Bool.false_eq_true]
                have hz := hr' z (by simp)
                obtain ⟨hz1, hz2⟩ := List.of_mem_zip hz
                have gz := gm _ (List.mem_cons_of_mem _ hz2)
                have next : Q (.bl (rest.all fun z => isP ks z.1 z.2)) → R [some (.dat (infoD ks)), some (.dat (.str x.1)), some (.dat (.tup (.str y.1 :: ps))), some (.dat (.str z.1)), some (.dat z.2)] := fun q => hR _ ⟨rest, _, _, rfl, fun z hz => hr' z (List.mem_cons_of_mem _ hz), q, rfl⟩
                rw [List.all_cons] at q
                show eqD (.str z.1) (.str numS) _
                rw [eqD_str]
                simp only [boolD_bl]
                by_cases hn : z.1 = numS
                · rw [if_pos (by simpa using hn)]
                  rw [hn, isP_num] at q
                  have kz := gd_known gz
                  refine ⟨kz, ?_⟩
                  rcases z with ⟨zf, zd⟩
                  dsimp only at q next kz ⊢
                  cases zd with
                  | int i =>
                    simp only [isInt, isBl, Bool.not_true, Bool.false_eq_true, if_false]
                    refine ⟨kz, ?_⟩
                    simp only [ltD, boolD_bl]
                    simp only [isN] at q
                    by_cases hi : i < 0
                    · rw [if_pos (by simpa using hi)]
                      rw [decide_eq_false (by omega), Bool.false_and] at q
                      exact q
                    · rw [if_neg (by simpa using hi)]
                      rw [decide_eq_true (by omega), Bool.true_and] at q
                      exact next q
                  | bl b =>
                    simp only [isInt, isBl, Bool.not_true, Bool.false_eq_true, if_false, if_true]
                    exact ⟨kz, q⟩
                  | _ =>
                    simp only [isInt, Bool.not_false, if_true]
                    exact q
                · rw [if_neg (by simpa using hn)]
                  rw [isP_kind hn] at q
                  obtain ⟨x', hx', ex⟩ := List.mem_map.mp ((g.fl x hx y hy _ hz1).resolve_left hn)
                  rw [← ex] at q ⊢
                  refine ⟨ks, x', z.2, rfl, g, hx', gz, ?_, ?_, ?_⟩
                  · exact Nat.le_trans (wds_mem (List.mem_cons_of_mem (D.str y.1) hz2)) (Nat.le_trans (Nat.le_max_right _ _) h2)
                  · exact Nat.lt_of_le_of_lt (depth_mem (xs := D.str y.1 :: ps) (Nat.le_refl _) (List.mem_cons_of_mem _ hz2)) (by omega)
                  · simp only [boolD_bl]
                    cases hw : isW ks x'.1 z.2 with
                    | true =>
                      rw [hw, Bool.true_and] at q
                      simp only [Bool.not_true, Bool.false_eq_true, if_false]
                      rw [ex]
                      exact next q
                    | false =>
                      rw [hw, Bool.false_and] at q
                      simp only [Bool.not_false, if_true]
                      exact q
          · rw [if_pos (by simp; omega)]
            rw [isWs_len hl] at q
            exact q
        · have no : ∀ y ∈ x.2, y.1 ≠ b := fun y hy e => hb ⟨y, hy, e⟩
          rw [boughOf_no g hx no] at q
          change Q (.bl false) at q
          rw [decide_eq_false (fun h => by obtain ⟨y, hy, e⟩ := List.mem_map.mp h; exact no y hy e)]
          simp only [Bool.not_false, if_true]
          exact q
end
end KB

namespace KB
open PySem L2 Dk
open PyProof.Rows (envOfC)
abbrev s__law_odd : Stmt := top 37
theorem sc__law_odd : FnScope ["_law_deck_here", "_law_thing", "_law_way", "_law_odd_here", "_law_at", "_law_some"] ["_law_deck_here", "_law_thing"] (defScope s__law_odd) := ⟨rfl, rfl, rfl, by decide +kernel, rfl, by decide +kernel, by decide +kernel⟩
theorem bd__law_odd (kV doc pm : Value) (an : Option Addr) (cdv ct : Value) (us : List Value) (hl : us.length = 2) : bindArgs (PySem.W.fnOf "_law_odd" "_law_odd" (defArgs s__law_odd) (defBody s__law_odd) (defScope s__law_odd) .none kV doc pm an cdv ct) ⟨us, []⟩ = pure ((["_law_deck_here", "_law_thing"] : List Str).zip us) := by
  match us, hl with
  | [v0, v1], _ => rfl
abbrev s__law_spoilt : Stmt := top 38
theorem sc__law_spoilt : FnScope ["_law_deck_here", "_law_thing", "_law_at"] ["_law_deck_here", "_law_thing"] (defScope s__law_spoilt) := ⟨rfl, rfl, rfl, by decide +kernel, rfl, by decide +kernel, by decide +kernel⟩
theorem bd__law_spoilt (kV doc pm : Value) (an : Option Addr) (cdv ct : Value) (us : List Value) (hl : us.length = 2) : bindArgs (PySem.W.fnOf "_law_spoilt" "_law_spoilt" (defArgs s__law_spoilt) (defBody s__law_spoilt) (defScope s__law_spoilt) .none kV doc pm an cdv ct) ⟨us, []⟩ = pure ((["_law_deck_here", "_law_thing"] : List Str).zip us) := by
  match us, hl with
  | [v0, v1], _ => rfl
def spOdd (a : Addr) : DSp where
  n := 2
  f := fun ds Q _ => ∃ n m d, ds = [.opq a, d] ∧ Tg n m d ∧ m ≤ 76000 ∧ ∀ d', Tg (n + 1) (2 * m + 6000) d' → Q d'
  len := fun ds Q E ⟨_, _, _, e, _⟩ => by rw [e]; rfl
  mono := fun ds Q Q' E E' k _ ⟨n, m, d, e, h1, h2, q⟩ => ⟨n, m, d, e, h1, h2, fun d' h => k _ (q d' h)⟩
def oddL (d : D) : List D := [.non, .bl true, .bl false, .int 0, .int 1, .int (-1), .int (10 ^ 39), .str "", .str "num", .tup [], .lst [], .dic [], .tup [.int 0], .tup [.str "num"], .tup [.str "num", .int 0]] ++ [.lst [d], .tup [d], .dic [(.inl 0, d)]]
theorem ascii_cut {x : Str} {lo hi : Option Int} (h : ascii x = true) : ascii (cutS x lo hi) = true ∧ (cutS x lo hi).length ≤ x.length := by
  refine ⟨ascii_sub h fun c hc => ?_, cutS_length _ _ _⟩
  unfold cutS at hc
  exact List.mem_of_mem_drop (List.mem_of_mem_take (by simpa using hc))
theorem tg_wt {n m : Nat} {d : D} (t : Tg n m d) : 10 ≤ m := Nat.le_trans (wt_pos d) t.wt
theorem tg_dic1 {n m : Nat} {d : D} (t : Tg n m d) : Tg (n + 1) (m + 30) (.dic [(.inl 0, d)]) := by
  refine ⟨by simp [gd, gdk, keyOk, t.g], ?_, ?_⟩
  · have := t.dp
    unfold dpD at this ⊢
    simp only [pyF, pyFk, PyData.depth, PyData.depthKv, keyD, toPy]
    omega
  · have := t.wt
    simp only [wtD, wtk, keyWt]
    have e : Nat.log2 (Int.natAbs 0) = 0 := by decide
    omega
theorem odd_ok {n m : Nat} {d : D} (t : Tg n m d) : ∀ x ∈ oddL d, Tg (n + 1) (2 * m + 6000) x := by
  have hm := tg_wt t
  have num : ∀ {k : Nat}, Tg k 100 (.str "num") := fun {k} => .str (by decide +kernel) (by decide)
  have l0 : Nat.log2 (Int.natAbs 0) = 0 := by decide
  have l1 : Nat.log2 (Int.natAbs 1) = 0 := by decide
  have l2 : Nat.log2 (Int.natAbs (-1)) = 0 := by decide
  have l3 : Nat.log2 (Int.natAbs (10 ^ 39)) = 129 := by decide +kernel
  have le : ("" : Str).length = 0 := rfl
  have zero : ∀ {k : Nat}, Tg k 12 (.int 0) := fun {k} => .int (by omega)
  have tn0 : Tgs n 14 [.int 0] := Tgs.cons zero (Tgs.nil (m := 0))
  have tnum : Tgs n 116 [.str "num", .int 0] := Tgs.cons num tn0
  simp only [oddL, List.cons_append, List.nil_append]
  refine forall_cons (.non (by omega)) (forall_cons (.bl (by omega)) (forall_cons (.bl (by omega)) (forall_cons (Tg.int (by omega)) ?_)))
  refine forall_cons (Tg.int (by omega)) (forall_cons (Tg.int (by omega)) (forall_cons (Tg.int (by omega)) (forall_cons (Tg.str (by decide +kernel) (by omega)) (forall_cons ((num (k := 0)).mono (Nat.zero_le _) (by omega)) ?_))))
  refine forall_cons ((Tgs.nil (m := 0) (n := n)).tup.mono (by omega) (by omega)) (forall_cons ((Tgs.nil (m := 0) (n := n)).lst.mono (by omega) (by omega)) (forall_cons ⟨by simp [gd, gdk], by simp [dpD, pyF, pyFk, PyData.depth, PyData.depthKv], by simp only [wtD, wtk]; omega⟩ ?_))
  refine forall_cons ((Tgs.cons zero .nil (m' := 0) (n := n)).tup.mono (by omega) (by omega)) (forall_cons ((Tgs.cons num .nil (m' := 0) (n := n)).tup.mono (by omega) (by omega)) (forall_cons (tnum.tup.mono (by omega) (by omega)) ?_))
  refine forall_cons ((Tgs.cons t .nil (m' := 0)).lst.mono (by omega) (by omega)) (forall_cons ((Tgs.cons t .nil (m' := 0)).tup.mono (by omega) (by omega)) (forall_cons ((tg_dic1 t).mono (by omega) (by omega)) forall_nil))
section
variable {P : Program} {w : World} {K : PySem.W.Frag} {C a l : Addr} {mg : Str → Option Value} {base : Heap} {W : Wd} {k : Nat} {f : Addr} {fd : FuncData}
theorem ok_law_odd (T : TxtH K C mg) (Fn : Fun K "_law_odd" "_law_odd" s__law_odd f fd) (C__law_draw : Cal P w K mg base CX0 (DeckW a l) k "_law_draw" ["_law_deck_here", "_law_most"] (spDraw a)) (C__law_pick : Cal P w K mg base CX0 (DeckW a l) k "_law_pick" ["_law_deck_here", "_law_some"] (spPick a)) : GnOk P w K mg base CX0 (k + 1) f fd ["_law_deck_here", "_law_thing"] (spD (DeckW a l) K (spOdd a)) := by
  refine Fn.okD sc__law_odd rfl fun cdv A outer s H I ds Q Ed E hr h => ?_
  have hu := hr.units
  obtain ⟨n, m, d, rfl, t, hm, q⟩ := h
  refine ⟨_, (dss_cons (ds_set 2 (de_fn C__law_draw (hr.mono (by omega)) pass0 lets0 (da_cons (de_name 0) (da_cons de_int da_nil))) sc__law_odd.nd)
  (dss_cons (ds_set 3 (de_lst (da_cons de_non (da_cons de_bl (da_cons de_bl (da_cons de_int (da_cons de_int (da_cons (de_neg de_int) (da_cons (de_pow de_int de_int) (da_cons de_str (da_cons de_str (da_cons (de_tup da_nil) (da_cons (de_lst da_nil) (da_cons de_dict0 (da_cons (de_tup (da_cons de_int da_nil)) (da_cons (de_tup (da_cons de_str da_nil)) (da_cons (de_tup (da_cons de_str (da_cons de_int da_nil))) da_nil)))))))))))))))) sc__law_odd.nd)
  (dss_cons (ds_set 3 (de_add (de_name 3) (de_lst (da_cons (de_lst (da_cons (de_name 1) da_nil)) (da_cons (de_tup (da_cons (de_name 1) da_nil)) (da_cons (de_dict1 de_int (de_name 1)) da_nil))))) sc__law_odd.nd)
  (dss_cons (ds_if (dt_c (.eq hu) (de_name 2) de_int)
  (dss_one (ds_ret (de_fn C__law_pick (hr.mono (by omega)) pass0 lets0 (da_cons (de_name 0) (da_cons (de_name 3) da_nil)))))
  dss_nil)
  (dss_cons (ds_if (dt_val (de_isi is_str T.b_isinstance T.b_str (by decide +kernel) (de_name 1)))
  (dss_one (ds_ret (de_at hu (de_lst (da_cons (de_add (de_name 1) de_str) (da_cons (de_slice (de_name 1) do_none (do_some (de_neg de_int))) (da_cons (de_upper (de_name 1)) (da_cons de_str (da_cons (de_lst (da_cons (de_name 1) da_nil)) (da_cons (de_tup (da_cons (de_name 1) da_nil)) (da_cons de_non (da_cons (de_revG (de_name 1)) da_nil))))))))) (de_subN (de_name 2) de_int))))
  dss_nil)
  (dss_cons (ds_if (dt_val (de_isi is_int T.b_isinstance T.b_int (by decide +kernel) (de_name 1)))
  (dss_one (ds_ret (de_at hu (de_lst (da_cons (de_addN (de_name 1) de_int) (da_cons (de_subN (de_name 1) de_int) (da_cons (de_subN (de_subN de_int (de_name 1)) de_int) (da_cons (de_eqN (de_name 1) de_int) (da_cons (de_strN T.b_str (da_cons (de_name 1) da_nil)) (da_cons (de_tup (da_cons (de_name 1) da_nil)) (da_cons (de_addN (de_name 1) (de_pow de_int de_int)) (da_cons de_non da_nil))))))))) (de_subN (de_name 2) de_int))))
  dss_nil)
  (dss_cons (ds_if (dt_wh (dw_or (dt_not (dt_val (de_isi is_tup T.b_isinstance T.b_tuple (by decide +kernel) (de_name 1)))) (dw_or1 (dt_eqT0 hu (de_name 1) (de_tup da_nil)))))
  (dss_one (ds_ret (de_fn C__law_pick (hr.mono (by omega)) pass0 lets0 (da_cons (de_name 0) (da_cons (de_name 3) da_nil)))))
  dss_nil)
  (dss_cons (ds_set 4 (de_fn C__law_draw (hr.mono (by omega)) pass0 lets0 (da_cons (de_name 0) (da_cons (de_len T.b_len (da_cons (de_name 1) da_nil)) da_nil))) sc__law_odd.nd)
  (dss_cons (ds_set 5 (de_lst (da_cons (de_add (de_slice (de_name 1) do_none (do_some (de_name 4))) (de_slice (de_name 1) (do_some (de_addN (de_name 4) de_int)) do_none)) (da_cons (de_add (de_slice (de_name 1) do_none (do_some (de_addN (de_name 4) de_int))) (de_slice (de_name 1) (do_some (de_name 4)) do_none)) (da_cons (de_revG (de_name 1)) (da_cons (de_list T.b_list (da_cons (de_name 1) da_nil)) da_nil))))) sc__law_odd.nd)
  (dss_cons (ds_set 5 (de_add (de_name 5) (de_lst (da_cons (de_add (de_slice (de_name 1) (do_some (de_name 4)) do_none) (de_slice (de_name 1) do_none (do_some (de_name 4)))) da_nil))) sc__law_odd.nd)
  (dss_one (ds_ret (de_at hu (de_add (de_name 5) (de_lst (da_cons (de_add (de_name 1) (de_slice (de_name 1) (do_some (de_name 4)) (do_some (de_addN (de_name 4) de_int)))) (da_cons (de_add (de_name 1) (de_tup (da_cons de_int da_nil))) (da_cons (de_slice (de_name 1) do_none (do_some (de_name 4))) da_nil))))) (de_subN (de_name 2) de_int)))))))))))))), ?_⟩
  simp only [getD_0, getD_s, set_0, set_s, boolD_bl, intD_int, startD, List.map, List.length_cons, List.length_nil, List.replicate, List.cons_append, List.nil_append, defEnds, wipeD, if_true, if_false, Bool.not_true, Bool.not_false, Bool.false_eq_true]
  refine ⟨_, rfl, by decide, by decide, fun v v0 v1 => ?_⟩
  simp only [negD, powD]
  refine ⟨⟨by decide, by decide, by decide⟩, Nat.zero_le _, Nat.zero_le _, by decide, by decide, by decide, by decide, by decide, by decide, .inl 0, rfl, by decide, small_len (by simp), ?_⟩
  show eqD (.int v) (.int 0) _
  rw [eqD_int]
  simp only [boolD_bl]
  have all : ∀ d' ∈ oddL d, Q d' := fun d' h => q d' (odd_ok t d' h)
  have pick : (spPick a).f [.opq a, .lst (oddL d)] Q fun _ => False := ⟨_, rfl, by simp [oddL], by simp [oddL], all⟩
  by_cases hv : v = 0
  · rw [if_pos (by simpa using hv)]
    exact pick
  rw [if_neg (by simpa using hv)]
  have kn := gd_known t.g
  have hm10 := tg_wt t
  refine ⟨kn, ?_⟩
  cases hs : isStr d with
  | true =>
    obtain ⟨x, rfl⟩ := str_of' hs
    simp only [if_true, addD, sliceD, revGD, intD_int]
    have ax := gd_str t.g
    have lx := wt_str t
    have la : ("a" : Str).length = 1 := rfl
    refine ⟨by rw [sizeLine_eq]; omega, by rw [sizeLine_eq]; omega, x, rfl, by omega, by decide, by decide, by rw [sizeLine_eq]; omega, by decide, v, 1, rfl, rfl, ?_⟩
    refine ix_any (by omega) (by show v - 1 < 8; omega) ?_
    refine forall_cons (q _ (.str (ascii_app ax (by decide +kernel)) (by rw [len_app]; omega))) (forall_cons (q _ (.str (ascii_cut ax).1 (by have := (ascii_cut (lo := none) (hi := some (-1)) ax).2; omega))) (forall_cons (q _ (.str (ascii_upper ax).1 (by have := (ascii_upper ax).2; omega))) ?_))
    refine forall_cons (all _ (by simp [oddL])) (forall_cons (all _ (by simp [oddL])) (forall_cons (all _ (by simp [oddL])) (forall_cons (all _ (by simp [oddL])) (forall_cons (q _ (.str ?_ (by rw [revS_len]; omega))) forall_nil))))
    rw [revS_eq]
    exact ascii_sub ax fun c hc => by simpa using hc
  | false =>
    simp only [Bool.false_eq_true, if_false]
    refine ⟨kn, ?_⟩
    cases hi : isInt d with
    | true =>
      simp only [if_true, powD]
      obtain ⟨z, ez, lz, sz⟩ : ∃ z : Int, numZ d = some z ∧ 40 * z.natAbs.log2 + 12 ≤ m + 2 ∧ ∀ R : D → Prop, (∀ x, Tg (n + 1) (2 * m + 6000) (.str x) → R (.str x)) → strND [d] R := by
        cases d with
        | int i =>
          have l := wt_int t
          refine ⟨i, rfl, by omega, fun R r => ⟨by omega, r _ (.str (ascii_int i) ?_)⟩⟩
          rw [PySem.ofString_length]
          have := PySem.int_text_length_le (a := i) (k := i.natAbs.log2 + 1) (by omega) (by omega)
          omega
        | bl b =>
          refine ⟨if b = true then 1 else 0, rfl, ?_, fun R r => ?_⟩
          · have l0 : Nat.log2 (Int.natAbs 0) = 0 := by decide
            have l1 : Nat.log2 (Int.natAbs 1) = 0 := by decide
            cases b <;> simp only [if_true, Bool.false_eq_true, if_false] <;> omega
          · cases b
            · exact r "False" (.str (by decide +kernel) (by have : ("False" : Str).length = 5 := rfl
                                                            omega))
            · exact r "True" (.str (by decide +kernel) (by have : ("True" : Str).length = 4 := rfl
                                                           omega))
        | _ => cases hi
      have near : ∀ j : Int, j.natAbs ≤ z.natAbs + 1000000 → Q (.int j) := fun j h => q _ (Tg.int (by have := log_near (i := z) 0 h; omega))
      refine ⟨z, 1, ez, rfl, z, 1, ez, rfl, 0, z, rfl, ez, _, 1, rfl, rfl, z, 1, ez, rfl, sz _ fun x hx => ?_⟩
      refine ⟨by decide, ⟨by decide, by decide, by decide⟩, z, _, ez, rfl, by decide, v, 1, rfl, rfl, ?_⟩
      have e6 : (10 : Int) ^ Int.toNat 6 = 1000000 := by decide
      refine ix_any (by omega) (by show v - 1 < 8; omega) ?_
      exact forall_cons (near _ (by omega)) (forall_cons (near _ (by omega)) (forall_cons (near _ (by omega)) (forall_cons (q _ (.bl (by omega))) (forall_cons (q _ hx) (forall_cons (all _ (by simp [oddL])) (forall_cons (near _ (by rw [e6]; omega)) (forall_cons (all _ (by simp [oddL])) forall_nil)))))))
    | false =>
      simp only [Bool.false_eq_true, if_false]
      refine ⟨kn, ?_⟩
      cases ht : isTup d with
      | false =>
        simp only [Bool.not_false, if_true]
        exact pick
      | true =>
        obtain ⟨xs, rfl⟩ := tup_of ht
        simp only [Bool.not_true, Bool.false_eq_true, if_false]
        refine ⟨Nat.zero_le _, xs, rfl, rfl, ?_⟩
        cases hx : xs.isEmpty with
        | true =>
          simp only [boolD_bl, if_true]
          exact pick
        | false =>
          simp only [boolD_bl, Bool.false_eq_true, if_false, lenD]
          have hne : xs ≠ [] := by
            rintro rfl
            cases hx
          have hl0 := List.length_pos_iff.mpr hne
          have hlm : xs.length ≤ 76000 := by
            have h1 := t.wt
            rw [wtD] at h1
            have := wts_len xs
            omega
          refine ⟨_, rfl, by omega, log_small (by omega), fun j j0 j1 => ?_⟩
          obtain ⟨n', m', rfl, rfl, ts⟩ := t.tups
          have two : ∀ lo hi lo' hi', Q (.tup (cutD xs lo hi ++ cutD xs lo' hi')) := fun lo hi lo' hi' => q _ (((ts.cut lo hi).app (ts.cut lo' hi')).tup.mono (by omega) (by omega))
          have cl : ∀ lo hi, (cutD xs lo hi).length ≤ 76000 := fun lo hi => by
            have h1 := (ts.cut lo hi).wt
            have := wts_len (cutD xs lo hi)
            omega
          have big : ∀ {k : Nat}, k ≤ 200000 → k ≤ sizeLine := fun h => by rw [sizeLine_eq]; omega
          simp only [intD_int, sliceD, addD, revGD, listD]
          refine ⟨j, 1, rfl, rfl, _, rfl, big (by have := cl none (some j); have := cl (some (j + 1)) none; omega), j, 1, rfl, rfl, _, rfl, big (by have := cl none (some (j + 1)); have := cl (some j) none; omega), by decide, big (by have := cl none (some j); have := cl (some j) none; omega), by decide, big (by simp), j, 1, rfl, rfl, _, rfl, big (by have := cl (some j) (some (j + 1)); omega), by decide, big (by simp; omega), by decide, big (by simp), v, 1, rfl, rfl, ?_⟩
          have one : Tgs n' 14 [.int 0] := Tgs.cons (Tg.int (by have : Nat.log2 (Int.natAbs 0) = 0 := by decide
                                                                omega)) (Tgs.nil (m := 0))
          refine ix_any (by omega) (by show v - 1 < 8; omega) ?_
          exact forall_cons (two _ _ _ _) (forall_cons (two _ _ _ _) (forall_cons (q _ (ts.rev.tup.mono (by omega) (by omega))) (forall_cons (q _ (ts.lst.mono (by omega) (by omega))) (forall_cons (two _ _ _ _) (forall_cons (q _ ((ts.app (ts.cut _ _)).tup.mono (by omega) (by omega))) (forall_cons (q _ ((ts.app one).tup.mono (by omega) (by omega))) (forall_cons (q _ ((ts.cut _ _).tup.mono (by omega) (by omega))) forall_nil)))))))
end
end KB

namespace KB
open PySem L2 Dk
open PyProof.Rows (envOfC)
abbrev s__law_right : Stmt := top 40
theorem sc__law_right : FnScope ["_law_book", "_law_info_here", "_law_kind", "_law_thing", "_law_written", "_law_due", "_law_found"] ["_law_book", "_law_info_here", "_law_kind", "_law_thing"] (defScope s__law_right) := ⟨rfl, rfl, rfl, by decide +kernel, rfl, by decide +kernel, by decide +kernel⟩
theorem bd__law_right (kV doc pm : Value) (an : Option Addr) (cdv ct : Value) (us : List Value) (hl : us.length = 4) : bindArgs (PySem.W.fnOf "_law_right" "_law_right" (defArgs s__law_right) (defBody s__law_right) (defScope s__law_right) .none kV doc pm an cdv ct) ⟨us, []⟩ = pure ((["_law_book", "_law_info_here", "_law_kind", "_law_thing"] : List Str).zip us) := by
  match us, hl with
  | [v0, v1, v2, v3], _ => rfl
def spSpoilt (a : Addr) (n : Nat) : DSp where
  n := 2
  f := fun ds Q _ => ∃ n0 m d, ds = [.opq a, d] ∧ n0 < n ∧ Tg n0 m d ∧ m ≤ 76000 ∧ ∀ d', Tg (n0 + 1) (2 * m + 6000) d' → Q d'
  len := fun ds Q E ⟨_, _, _, e, _⟩ => by rw [e]; rfl
  mono := fun ds Q Q' E E' k _ ⟨n, m, d, e, h1, h2, h3, q⟩ => ⟨n, m, d, e, h1, h2, h3, fun d' h => k _ (q d' h)⟩
def spRightW (C : Addr) (N : Nat) : DSp where
  n := 4
  f := fun ds Q _ => ∃ ks k d, ds = [bookD C ks, infoD ks, .str k.1, d] ∧ Good ks ∧ k ∈ ks ∧ Tg 60 76000 d ∧ dpD d < N ∧ Q (.bl true)
  len := fun ds Q E ⟨_, _, _, e, _⟩ => by rw [e]; rfl
  mono := fun ds Q Q' E E' k _ ⟨ks, f, d, e, h1, h2, h3, h4, q⟩ => ⟨ks, f, d, e, h1, h2, h3, h4, k _ q⟩
section
variable {P : Program} {w : World} {K : PySem.W.Frag} {C a l : Addr} {mg : Str → Option Value} {base : Heap} {W : Wd} {k : Nat} {f : Addr} {fd : FuncData}
theorem ok_law_spoilt (T : TxtH K C mg) (Fn : Fun K "_law_spoilt" "_law_spoilt" s__law_spoilt f fd) {n : Nat} (C__law_draw : Cal P w K mg base CX0 (DeckW a l) k "_law_draw" ["_law_deck_here", "_law_most"] (spDraw a)) (C__law_odd : Cal P w K mg base CX0 (DeckW a l) k "_law_odd" ["_law_deck_here", "_law_thing"] (spOdd a)) (C__law_spoilt : Cal P w K mg base CX0 (DeckW a l) k "_law_spoilt" ["_law_deck_here", "_law_thing"] (spSpoilt a n)) : GnOk P w K mg base CX0 (k + 1) f fd ["_law_deck_here", "_law_thing"] (spD (DeckW a l) K (spSpoilt a (n + 1))) := by
  refine Fn.okD sc__law_spoilt rfl fun cdv A outer s H I ds Q Ed E hr h => ?_
  have hu := hr.units
  obtain ⟨n0, m, d, rfl, hn, t, hm, q⟩ := h
  refine ⟨_, (dss_cons (ds_if (dt_wh (dw_or (dt_not (dt_val (de_isi is_tup T.b_isinstance T.b_tuple (by decide +kernel) (de_name 1)))) (dw_or (dt_eqT0 hu (de_name 1) (de_tup da_nil)) (dw_or1 (dt_c (.eq hu) (de_fn C__law_draw (hr.mono (by omega)) pass0 lets0 (da_cons (de_name 0) (da_cons de_int da_nil))) de_int)))))
  (dss_one (ds_ret (de_fn C__law_odd (hr.mono (by omega)) pass0 lets0 (da_cons (de_name 0) (da_cons (de_name 1) da_nil)))))
  dss_nil)
  (dss_cons (ds_set 2 (de_fn C__law_draw (hr.mono (by omega)) pass0 lets0 (da_cons (de_name 0) (da_cons (de_len T.b_len (da_cons (de_name 1) da_nil)) da_nil))) sc__law_spoilt.nd)
  (dss_one (ds_ret (de_add (de_add (de_slice (de_name 1) do_none (do_some (de_name 2))) (de_tup (da_cons (de_fn C__law_spoilt (hr.mono (by omega)) pass0 lets0 (da_cons (de_name 0) (da_cons (de_at hu (de_name 1) (de_name 2)) da_nil))) da_nil))) (de_slice (de_name 1) (do_some (de_add (de_name 2) de_int)) do_none)))))), ?_⟩
  simp only [getD_0, getD_s, set_0, set_s, boolD_bl, intD_int, startD, List.map, List.length_cons, List.length_nil, List.replicate, List.cons_append, List.nil_append, defEnds, wipeD, if_true, if_false, Bool.not_true, Bool.not_false, Bool.false_eq_true]
  have kn := gd_known t.g
  refine ⟨kn, ?_⟩
  have odd : (spOdd a).f [.opq a, d] Q fun _ => False := ⟨n0, m, d, rfl, t, hm, q⟩
  cases ht : isTup d with
  | false =>
    simp only [Bool.not_false, if_true]
    exact odd
  | true =>
    obtain ⟨xs, rfl⟩ := tup_of ht
    simp only [Bool.not_true, Bool.false_eq_true, if_false]
    refine ⟨Nat.zero_le _, xs, rfl, rfl, ?_⟩
    cases hx : xs.isEmpty with
    | true =>
      simp only [boolD_bl, if_true]
      exact odd
    | false =>
      have hne : xs ≠ [] := by
        rintro rfl
        cases hx
      have hl0 := List.length_pos_iff.mpr hne
      obtain ⟨n', m', rfl, rfl, ts⟩ := t.tups
      have hlm : 12 * xs.length ≤ m' := Nat.le_trans (wts_len xs) ts.wt
      simp only [boolD_bl, Bool.false_eq_true, if_false, lenD]
      refine ⟨_, rfl, by decide, by decide, fun j j0 j1 => ?_⟩
      show eqD (.int j) (.int 0) _
      rw [eqD_int]
      simp only [boolD_bl]
      by_cases hj : j = 0
      · rw [if_pos (by simpa using hj)]
        exact odd
      rw [if_neg (by simpa using hj)]
      refine ⟨_, rfl, by omega, log_small (by omega), fun i i0 i1 => ?_⟩
      obtain ⟨i, rfl⟩ := Int.eq_ofNat_of_zero_le i0
      simp only [intD_int, sliceD, set_0, set_s, getD_0, getD_s, addD]
      have hi : i < xs.length := by omega
      have hx : xs[i] ∈ xs := List.getElem_mem hi
      have hw : wts (xs.take i) + (wtD xs[i] + 2 + wts (xs.drop (i + 1))) = wts xs := by
        have h1 := wts_take_drop i xs
        rw [List.drop_eq_getElem_cons hi, wts] at h1
        exact h1
      have hts := ts.wt
      have lt := wts_len (xs.take i)
      have ld := wts_len (xs.drop (i + 1))
      have big : ∀ {k : Nat}, k ≤ 100000 → k ≤ sizeLine := fun h => by rw [sizeLine_eq]; omega
      refine ⟨xs[i], atI_nat (List.getElem?_eq_getElem hi), n', wtD xs[i], xs[i], rfl, by omega, ⟨ts.g _ hx, ts.dp _ hx, Nat.le_refl _⟩, by omega, fun d' td => ?_⟩
      have e1 : ((i : Int) + 1) = ((i + 1 : Nat) : Int) := by omega
      rw [cut_take (by omega), e1, cut_drop (by omega)]
      refine ⟨by decide, big (by simp only [List.length_cons, List.length_nil]; omega), big (by simp only [List.length_append, List.length_cons, List.length_nil]; omega), q _ (Tg.mono (n := n' + 1 + 1) (m := wts (xs.take i) + (2 * wtD xs[i] + 6000 + 2 + 0) + wts (xs.drop (i + 1)) + 13) (Tgs.tup ?_) (by omega) (by omega))⟩
      refine Tgs.app (Tgs.app ⟨fun x hx => ts.g x (List.mem_of_mem_take hx), fun x hx => Nat.le_succ_of_le (ts.dp x (List.mem_of_mem_take hx)), Nat.le_refl _⟩ (Tgs.cons td (Tgs.nil (m := 0)))) ⟨fun x hx => ts.g x (List.mem_of_mem_drop hx), fun x hx => Nat.le_succ_of_le (ts.dp x (List.mem_of_mem_drop hx)), Nat.le_refl _⟩
theorem ok_law_rightW (T : TxtH K C mg) (Fn : Fun K "_law_right" "_law_right" s__law_right f fd) {N : Nat} (C_is_worth : Cal P w K mg base CX0 W k "is_worth" ["book", "kind", "thing"] (spIsWorth C N)) (C__law_is_worth : Cal P w K mg base CX0 W k "_law_is_worth" ["_law_info_here", "_law_kind", "_law_thing"] (spLawIsW N)) : GnOk P w K mg base CX0 (k + 1) f fd ["_law_book", "_law_info_here", "_law_kind", "_law_thing"] (spD W K (spRightW C N)) := by
  refine Fn.okD sc__law_right rfl fun cdv A outer s H I ds Q Ed E hr h => ?_
  have hu := hr.units
  obtain ⟨ks, x, d, rfl, g, hx, t, hd, q⟩ := h
  refine ⟨_, (dss_cons (by first | exact (ds_par (i := 4) (j := 5) rfl sc__law_right.nd rfl rfl (by decide) rfl rfl (da_cons (de_reprF T.b_repr hr.gd hu (da_cons (de_name 3) da_nil)) (da_cons (de_fn C__law_is_worth (hr.mono (by omega)) pass0 lets0 (da_cons (de_name 1) (da_cons (de_name 2) (da_cons (de_name 3) da_nil)))) da_nil))) | exact (ds_asg (de_tup (da_cons (de_reprF T.b_repr hr.gd hu (da_cons (de_name 3) da_nil)) (da_cons (de_fn C__law_is_worth (hr.mono (by omega)) pass0 lets0 (da_cons (de_name 1) (da_cons (de_name 2) (da_cons (de_name 3) da_nil)))) da_nil))) (dg_tup (n := 2) rfl (dgs_cons (dg_name 4 sc__law_right.nd) (dgs_cons (dg_name 5 sc__law_right.nd) dgs_nil)))))
  (dss_cons (ds_set 6 (de_lst (da_cons (de_fn C_is_worth (hr.mono (by omega)) pass0 lets0 (da_cons (de_name 0) (da_cons (de_name 2) (da_cons (de_name 3) da_nil)))) (da_cons (de_fn C_is_worth (hr.mono (by omega)) pass0 lets0 (da_cons (de_name 0) (da_cons (de_name 2) (da_cons (de_name 3) da_nil)))) da_nil))) sc__law_right.nd)
  (dss_one (ds_ret (de_and (de_c (.eq hu) (de_reprF T.b_repr hr.gd hu (da_cons (de_name 6) da_nil)) (de_reprF T.b_repr hr.gd hu (da_cons (de_lst (da_cons (de_name 5) (da_cons (de_name 5) da_nil))) da_nil))) (de_one (de_c (.eq hu) (de_reprF T.b_repr hr.gd hu (da_cons (de_name 3) da_nil)) (de_name 4)))))))), ?_⟩
  simp only [getD_0, getD_s, set_0, set_s, boolD_bl, intD_int, startD, List.map, List.length_cons, List.length_nil, List.replicate, List.cons_append, List.nil_append, defEnds, wipeD, if_true, if_false, Bool.not_true, Bool.not_false, Bool.false_eq_true]
  have rep : ∀ {R : D → Prop}, R (.str (pyF d).shown) → reprF [d] R := fun r => repr_any t.g t.wt (by have := t.dp; omega) r
  have wd := wd_wt d
  have hwt := t.wt
  refine rep ⟨ks, x, d, rfl, g, hx, t.g, by omega, hd, _, _, rfl, ks, x, d, rfl, g, hx, t.g, by omega, hd, ks, x, d, rfl, g, hx, t.g, by omega, hd, by decide, ?_⟩
  have two : ∀ b : Bool, Tg 1 40 (.lst [.bl b, .bl b]) := fun b => (Tgs.cons (n := 0) (m := 10) (.bl (by decide)) (Tgs.cons (n := 0) (m := 10) (.bl (by decide)) (Tgs.nil (m := 0)))).lst.mono (by decide) (by decide)
  refine repr_any (two _).g (Nat.le_trans (two _).wt (by decide)) (Nat.le_trans (two _).dp (by decide)) ⟨by decide, repr_any (two _).g (Nat.le_trans (two _).wt (by decide)) (Nat.le_trans (two _).dp (by decide)) ?_⟩
  rw [eqD_str]
  simp only [decide_true, boolD_bl, if_true]
  refine rep ?_
  rw [eqD_str]
  simp only [decide_true]
  exact q
end
end KB

namespace KB
open PySem L2 Dk
open PyProof.Rows (envOfC)
abbrev s__law_things : Stmt := top 39
theorem sc__law_things : FnScope ["_law_info_here", "_law_deep", "_law_k", "_law_odd_here", "_law_bough"] ["_law_info_here"] (defScope s__law_things) := ⟨rfl, rfl, rfl, by decide +kernel, rfl, by decide +kernel, by decide +kernel⟩
theorem bd__law_things (kV doc pm : Value) (an : Option Addr) (cdv ct : Value) (us : List Value) (hl : us.length = 1) : bindArgs (PySem.W.fnOf "_law_things" "_law_things" (defArgs s__law_things) (defBody s__law_things) (defScope s__law_things) .none kV doc pm an cdv ct) ⟨us, []⟩ = pure ((["_law_info_here"] : List Str).zip us) := by
  match us, hl with
  | [v0], _ => rfl
abbrev s__law_grown : Stmt := top 41
theorem sc__law_grown : FnScope ["_law_deck_here", "_law_boughs", "_law_deep", "_law_end", "_law_pair", "_law_row"] ["_law_deck_here", "_law_boughs", "_law_deep"] (defScope s__law_grown) := ⟨rfl, rfl, rfl, by decide +kernel, rfl, by decide +kernel, by decide +kernel⟩
theorem bd__law_grown (kV doc pm : Value) (an : Option Addr) (cdv ct : Value) (us : List Value) (hl : us.length = 3) : bindArgs (PySem.W.fnOf "_law_grown" "_law_grown" (defArgs s__law_grown) (defBody s__law_grown) (defScope s__law_grown) .none kV doc pm an cdv ct) ⟨us, []⟩ = pure ((["_law_deck_here", "_law_boughs", "_law_deep"] : List Str).zip us) := by
  match us, hl with
  | [v0, v1, v2], _ => rfl
abbrev s__law_last : Stmt := top 42
theorem sc__law_last : FnScope ["_law_worth_here", "_law_odd_here"] ["_law_worth_here", "_law_odd_here"] (defScope s__law_last) := ⟨rfl, rfl, rfl, by decide +kernel, rfl, by decide +kernel, by decide +kernel⟩
theorem bd__law_last (kV doc pm : Value) (an : Option Addr) (cdv ct : Value) (us : List Value) (hl : us.length = 2) : bindArgs (PySem.W.fnOf "_law_last" "_law_last" (defArgs s__law_last) (defBody s__law_last) (defScope s__law_last) .none kV doc pm an cdv ct) ⟨us, []⟩ = pure ((["_law_worth_here", "_law_odd_here"] : List Str).zip us) := by
  match us, hl with
  | [v0, v1], _ => rfl
/-- what _law_grown makes: pairs all the way, rows with a number at the ends -/
inductive Grown (x y z : Str) : Nat → D → Prop
  | row (v : Int) (h0 : 0 ≤ v) (h1 : v < 9) : Grown x y z 0 (.tup [.str z, .int (10 ^ 39 + v), .tup [.str x]])
  | pair {i : Nat} {d e : D} (h : Grown x y z i d) (h' : Grown x y z i e) : Grown x y z (i + 1) (.tup [.str y, d, e])
/-- d with o in its very last place -/
inductive LastN (o : D) : Nat → D → D → Prop
  | short {n : Nat} {xs : List D} (h : xs.length < 2) : LastN o (n + 1) (.tup xs) o
  | long {n : Nat} {xs : List D} {d e : D} (h : xs.length ≤ 100) (h1 : xs ≠ []) (h' : LastN o n d e) : LastN o (n + 1) (.tup (xs ++ [d])) (.tup (xs ++ [e]))
theorem tg_name {x : Str} (h : nameOk x = true) {n : Nat} : Tg n 92 (.str x) := by
  obtain ⟨_, l, _, c⟩ := nameOk_split h
  exact .str (ascii_mem.mpr fun d hd => by have := c d hd; omega) (by omega)
def six (x : Str) : List D := [.str x, .tup [.str x], .lst [.str x], .tup [.str x, .int 0], .tup [.str x, .tup [.str x]], .tup [.str x, .tup []]]
theorem six_ok {x : Str} (h : nameOk x = true) : ∀ y ∈ six x, Tg 30 4000 y := by
  have nm : ∀ {k : Nat}, Tg k 92 (.str x) := fun {k} => tg_name h
  have zero : ∀ {k : Nat}, Tg k 12 (.int 0) := fun {k} => .int (by have : Nat.log2 (Int.natAbs 0) = 0 := by decide
                                                                   omega)
  have n0 : ∀ {k : Nat}, Tgs k 94 [.str x] := fun {k} => Tgs.cons nm (Tgs.nil (m := 0))
  have z0 : ∀ {k : Nat}, Tgs k 14 [.int 0] := fun {k} => Tgs.cons zero (Tgs.nil (m := 0))
  have e0 : Tgs 1 15 [.tup []] := Tgs.cons (m := 13) (Tgs.nil (n := 0) (m := 0)).tup (Tgs.nil (m := 0))
  have x0 : Tgs 1 109 [.tup [.str x]] := Tgs.cons (m := 107) (n0 (k := 0)).tup (Tgs.nil (m := 0))
  unfold six
  refine forall_cons (nm.mono (Nat.le_refl _) (by decide)) (forall_cons ((n0 (k := 0)).tup.mono (by decide) (by decide)) (forall_cons ((n0 (k := 0)).lst.mono (by decide) (by decide)) (forall_cons ((Tgs.cons (n := 0) nm z0).tup.mono (by decide) (by decide)) (forall_cons ((Tgs.cons (n := 1) nm x0).tup.mono (by decide) (by decide)) (forall_cons ((Tgs.cons (n := 1) nm e0).tup.mono (by decide) (by decide)) forall_nil)))))
def fewL (d : D) : List D := [.non, .bl true, .int 0, .int 7, .int (-1), .str "", .str "num", .tup [], .lst [], .dic [], d, .tup [.int 1], .tup [.non], .tup [.tup []], .tup [.str ""]]
theorem few_ok {d : D} (h : Tg 29 853 d) : ∀ y ∈ fewL d, Tg 30 4000 y := by
  have l0 : Nat.log2 (Int.natAbs 0) = 0 := by decide
  have l1 : Nat.log2 (Int.natAbs 1) = 0 := by decide
  have l2 : Nat.log2 (Int.natAbs (-1)) = 0 := by decide
  have l7 : Nat.log2 (Int.natAbs 7) = 2 := by decide
  have es : ∀ {k : Nat}, Tg k 12 (.str "") := fun {k} => .str (by decide +kernel) (by decide)
  have o0 : Tgs 0 14 [.int 1] := Tgs.cons (m := 12) (.int (by omega)) (Tgs.nil (m := 0))
  have n0 : Tgs 0 12 [.non] := Tgs.cons (m := 10) (.non (by omega)) (Tgs.nil (m := 0))
  have e0 : Tgs 1 15 [.tup []] := Tgs.cons (m := 13) (Tgs.nil (n := 0) (m := 0)).tup (Tgs.nil (m := 0))
  have s0 : Tgs 0 14 [.str ""] := Tgs.cons (m := 12) es (Tgs.nil (m := 0))
  unfold fewL
  refine forall_cons (.non (by decide)) (forall_cons (.bl (by decide)) (forall_cons (Tg.int (by omega)) (forall_cons (Tg.int (by omega)) (forall_cons (Tg.int (by omega)) (forall_cons (es.mono (Nat.le_refl _) (by decide)) (forall_cons (.str (by decide +kernel) (by decide)) ?_))))))
  refine forall_cons ((Tgs.nil (m := 0) (n := 0)).tup.mono (by decide) (by decide)) (forall_cons ((Tgs.nil (m := 0) (n := 0)).lst.mono (by decide) (by decide)) (forall_cons ⟨by simp [gd, gdk], by simp [dpD, pyF, pyFk, PyData.depth, PyData.depthKv], by simp only [wtD, wtk]; decide⟩ (forall_cons (h.mono (by decide) (by decide)) ?_)))
  refine forall_cons (o0.tup.mono (by decide) (by decide)) (forall_cons (n0.tup.mono (by decide) (by decide)) (forall_cons (e0.tup.mono (by decide) (by decide)) (forall_cons (s0.tup.mono (by decide) (by decide)) forall_nil)))
section
variable {P : Program} {w : World} {K : PySem.W.Frag} {C a l : Addr} {mg : Str → Option Value} {base : Heap} {W : Wd} {k : Nat} {f : Addr} {fd : FuncData}
def spThings : DSp where
  n := 1
  f := fun ds Q _ => ∃ ks, ds = [infoD ks] ∧ Good ks ∧ ∀ xs : List D, xs.length ≤ 400 → (∀ x ∈ xs, Tg 30 4000 x) → Q (.lst xs)
  len := fun ds Q E ⟨_, e, _⟩ => by rw [e]; rfl
  mono := fun ds Q Q' E E' k _ ⟨ks, e, h1, q⟩ => ⟨ks, e, h1, fun xs h h' => k _ (q xs h h')⟩
theorem ok_law_things (T : TxtH K C mg) (Fn : Fun K "_law_things" "_law_things" s__law_things f fd) : GnOk P w K mg base CX0 (k + 1) f fd ["_law_info_here"] (spD W K spThings) := by
  refine Fn.okD sc__law_things rfl fun cdv A outer s H I ds Q Ed E hr h => ?_
  have hu := hr.units
  obtain ⟨ks, rfl, g, q⟩ := h
  refine ⟨_, (dss_cons (ds_set 1 (de_tup da_nil) sc__law_things.nd)
  (dss_cons (ds_for PassesOwn.never rfl (di_range1 T.b_range (da_cons de_int da_nil)) (dg_name 2 sc__law_things.nd)
  (dss_one (ds_set 1 (de_at hu (de_lst (da_cons (de_tup (da_cons (de_name 1) da_nil)) (da_cons (de_lst (da_cons (de_name 1) da_nil)) (da_cons (de_dict1 de_int (de_name 1)) da_nil)))) (de_mod (de_name 2) de_int)) sc__law_things.nd)))
  (dss_cons (ds_set 3 (de_lst (da_cons de_non (da_cons de_bl (da_cons de_int (da_cons de_int (da_cons (de_neg de_int) (da_cons de_str (da_cons de_str (da_cons (de_tup da_nil) (da_cons (de_lst da_nil) (da_cons de_dict0 (da_cons (de_name 1) (da_cons (de_tup (da_cons de_int da_nil)) (da_cons (de_tup (da_cons de_non da_nil)) (da_cons (de_tup (da_cons (de_tup da_nil) da_nil)) (da_cons (de_tup (da_cons de_str da_nil)) da_nil)))))))))))))))) sc__law_things.nd)
  (dss_cons (ds_for PassesOwn.never rfl (di_seq (de_at hu (de_name 0) de_str)) (dg_name 4 sc__law_things.nd)
  (dss_one (ds_set 3 (de_add (de_name 3) (de_lst (da_cons (de_name 4) (da_cons (de_tup (da_cons (de_name 4) da_nil)) (da_cons (de_lst (da_cons (de_name 4) da_nil)) (da_cons (de_tup (da_cons (de_name 4) (da_cons de_int da_nil))) (da_cons (de_tup (da_cons (de_name 4) (da_cons (de_tup (da_cons (de_name 4) da_nil)) da_nil))) (da_cons (de_tup (da_cons (de_name 4) (da_cons (de_tup da_nil) da_nil))) da_nil)))))))) sc__law_things.nd)))
  (dss_one (ds_ret (de_name 3))))))), ?_⟩
  simp only [getD_0, getD_s, set_0, set_s, boolD_bl, intD_int, startD, List.map, List.length_cons, List.length_nil, List.replicate, List.cons_append, List.nil_append, defEnds, wipeD, if_true, if_false, Bool.not_true, Bool.not_false, Bool.false_eq_true]
  refine ⟨Nat.zero_le _, 28, rfl, by decide, by decide, ?_⟩
  refine forD_ind (fun (l : List D) ρ => ∃ (i : Nat) (d : D) (u2 u3 u4 : Option Ent), i + l.length = 28 ∧ (∀ x ∈ l, ∃ v, x = .int v) ∧ Tg (1 + i) (13 + 30 * i) d ∧ ρ = [some (.dat (infoD ks)), some (.dat d), u2, u3, u4]) (fun ρ ⟨i, d, u2, u3, u4, hl, _, t, e⟩ => ?_) (fun x l ρ R ⟨i, d, u2, u3, u4, hl, hx, t, e⟩ hR => ?_) _ _ ⟨0, .tup [], none, none, none, by rw [rngD_length]; rfl, fun x hx => by
      unfold rngD at hx
      obtain ⟨y, _, rfl⟩ := List.mem_map.mp hx
      exact ⟨_, rfl⟩, (Tgs.nil (m := 0) (n := 0)).tup, rfl⟩
  · subst e
    obtain rfl : i = 28 := by simpa using hl
    simp only [getD_0, getD_s, set_0, set_s, boolD_bl, intD_int, startD, List.map, List.length_cons, List.length_nil, List.replicate, List.cons_append, List.nil_append, defEnds, wipeD, if_true, if_false, Bool.not_true, Bool.not_false, Bool.false_eq_true]
    simp only [negD]
    refine ⟨Nat.zero_le _, Nat.zero_le _, by decide, by decide, Nat.zero_le _, by decide, by decide, by decide, ?_⟩
    refine info_kd ?_
    simp only [itemsD]
    have ek : ((kindsBy ks).map fun kv => keyD kv.1) = (bNames ks).map D.str := by
      rw [show ((kindsBy ks).map fun kv => keyD kv.1) = ((kindsBy ks).map (·.1)).map keyD from by rw [List.map_map]; rfl, kindsBy_keys, List.map_map]
      rfl
    rw [ek]
    have gb := g.blen
    have hnm : ∀ y ∈ bNames ks, nameOk y = true := fun y hy => by
      unfold bNames at hy
      obtain ⟨x, hx, hy⟩ := List.mem_flatMap.mp hy
      obtain ⟨b, hb, rfl⟩ := List.mem_map.mp hy
      exact g.bn x hx b hb
    refine forD_ind (fun (l : List D) ρ => ∃ (r : List Str) (xs : List D) (u4 : Option Ent), l = r.map D.str ∧ (∀ y ∈ r, nameOk y = true) ∧ xs.length + 6 * r.length ≤ 400 ∧ (∀ y ∈ xs, Tg 30 4000 y) ∧ ρ = [some (.dat (infoD ks)), some (.dat d), u2, some (.dat (.lst xs)), u4]) (fun ρ ⟨r, xs, u4, el, hr', hl, hx, e⟩ => ?_) (fun x l ρ R ⟨r, xs, u4, el, hr', hl, hx, e⟩ hR => ?_) _ _ ⟨bNames ks, fewL d, u4, rfl, hnm, by simp only [fewL, List.length_cons, List.length_nil]; omega, few_ok (t.mono (by decide) (by decide)), rfl⟩
    · subst e
      exact ⟨_, rfl, q xs (by omega) hx⟩
    · subst e
      cases r with
      | nil => simp at el
      | cons y r =>
        rw [List.map_cons] at el
        obtain ⟨rfl, rfl⟩ := List.cons.inj el
        rw [List.length_cons] at hl
        simp only [getD_0, getD_s, set_0, set_s, boolD_bl, intD_int, startD, List.map, List.length_cons, List.length_nil, List.replicate, List.cons_append, List.nil_append, defEnds, wipeD, if_true, if_false, Bool.not_true, Bool.not_false, Bool.false_eq_true]
        refine ⟨by decide, by decide, by decide, by decide, by decide, Nat.zero_le _, by decide, by decide, ?_⟩
        refine ⟨small_len (by simp only [List.length_cons, List.length_nil]; omega), hR _ ⟨r, xs ++ six y, _, rfl, fun z hz => hr' z (List.mem_cons_of_mem _ hz), by simp only [six, List.length_append, List.length_cons, List.length_nil]; omega, fun z hz => ?_, rfl⟩⟩
        rcases List.mem_append.mp hz with hz | hz
        · exact hx z hz
        · exact six_ok (hr' y (by simp)) z hz
  · subst e
    obtain ⟨v, rfl⟩ := hx x (by simp)
    rw [List.length_cons] at hl
    simp only [getD_0, getD_s, set_0, set_s, boolD_bl, intD_int, startD, List.map, List.length_cons, List.length_nil, List.replicate, List.cons_append, List.nil_append, defEnds, wipeD, if_true, if_false, Bool.not_true, Bool.not_false, Bool.false_eq_true]
    refine ⟨by decide, by decide, .inl 0, rfl, by decide, ?_⟩
    simp only [modD]
    refine ⟨by decide, ix_any (Int.emod_nonneg _ (by decide)) (Int.emod_lt_of_pos _ (by decide)) ?_⟩
    have next : ∀ d', Tg (1 + (i + 1)) (13 + 30 * (i + 1)) d' → R [some (.dat (infoD ks)), some (.dat d'), some (.dat (.int v)), u3, u4] := fun d' t' => hR _ ⟨i + 1, d', _, _, _, by omega, fun y hy => hx y (List.mem_cons_of_mem _ hy), t', rfl⟩
    have t1 : Tgs (1 + i) (13 + 30 * i + 2 + 0) [d] := Tgs.cons t (Tgs.nil (m := 0))
    exact forall_cons (next _ (t1.tup.mono (by omega) (by omega))) (forall_cons (next _ (t1.lst.mono (by omega) (by omega))) (forall_cons (next _ ((tg_dic1 t).mono (by omega) (by omega))) forall_nil))
def spGrown (a : Addr) (n : Nat) : DSp where
  n := 3
  f := fun ds Q _ => ∃ x y z, ∃ i : Nat, ds = [.opq a, .tup [.str x, .str y, .str z], .int i] ∧ i < n ∧ ∀ d, Grown x y z i d → Q d
  len := fun ds Q E ⟨_, _, _, _, e, _⟩ => by rw [e]; rfl
  mono := fun ds Q Q' E E' k _ ⟨x, y, z, i, e, h1, q⟩ => ⟨x, y, z, i, e, h1, fun d h => k _ (q d h)⟩
theorem ok_law_grown (T : TxtH K C mg) (Fn : Fun K "_law_grown" "_law_grown" s__law_grown f fd) {n : Nat} (C__law_draw : Cal P w K mg base CX0 (DeckW a l) k "_law_draw" ["_law_deck_here", "_law_most"] (spDraw a)) (C__law_grown : Cal P w K mg base CX0 (DeckW a l) k "_law_grown" ["_law_deck_here", "_law_boughs", "_law_deep"] (spGrown a n)) : GnOk P w K mg base CX0 (k + 1) f fd ["_law_deck_here", "_law_boughs", "_law_deep"] (spD (DeckW a l) K (spGrown a (n + 1))) := by
  refine Fn.okD sc__law_grown rfl fun cdv A outer s H I ds Q Ed E hr h => ?_
  have hu := hr.units
  obtain ⟨x, y, z, i, rfl, hn, q⟩ := h
  refine ⟨_, (dss_cons (ds_asg (de_name 1) (dg_tup (n := 3) rfl (dgs_cons (dg_name 3 sc__law_grown.nd) (dgs_cons (dg_name 4 sc__law_grown.nd) (dgs_cons (dg_name 5 sc__law_grown.nd) dgs_nil)))))
  (dss_cons (ds_if (dt_c .lt (de_name 2) de_int)
  (dss_one (ds_ret (de_tup (da_cons (de_name 5) (da_cons (de_add (de_pow de_int de_int) (de_fn C__law_draw (hr.mono (by omega)) pass0 lets0 (da_cons (de_name 0) (da_cons de_int da_nil)))) (da_cons (de_tup (da_cons (de_name 3) da_nil)) da_nil))))))
  dss_nil)
  (dss_one (ds_ret (de_tup (da_cons (de_name 4) (da_cons (de_fn C__law_grown (hr.mono (by omega)) pass0 lets0 (da_cons (de_name 0) (da_cons (de_name 1) (da_cons (de_sub (de_name 2) de_int) da_nil)))) (da_cons (de_fn C__law_grown (hr.mono (by omega)) pass0 lets0 (da_cons (de_name 0) (da_cons (de_name 1) (da_cons (de_sub (de_name 2) de_int) da_nil)))) da_nil)))))))), ?_⟩
  simp only [getD_0, getD_s, set_0, set_s, boolD_bl, intD_int, startD, List.map, List.length_cons, List.length_nil, List.replicate, List.cons_append, List.nil_append, defEnds, wipeD, if_true, if_false, Bool.not_true, Bool.not_false, Bool.false_eq_true]
  refine ⟨_, rfl, rfl, _, _, rfl, _, _, rfl, _, _, rfl, rfl, ?_⟩
  simp only [ltD, boolD_bl]
  by_cases hi : i = 0
  · subst hi
    rw [if_pos (by decide)]
    simp only [powD]
    refine ⟨⟨by decide, by decide, by decide⟩, 9, rfl, by decide, by decide, fun v v0 v1 => ?_⟩
    exact ⟨by decide, by decide, q _ (.row v v0 v1)⟩
  · rw [if_neg (by simp; omega)]
    simp only [subD]
    have e : ((i : Int) - 1) = ((i - 1 : Nat) : Int) := by omega
    rw [e]
    refine ⟨x, y, z, i - 1, rfl, by omega, fun d h => ?_⟩
    refine ⟨x, y, z, i - 1, rfl, by omega, fun d' h' => ?_⟩
    refine ⟨by decide, q _ ?_⟩
    have := Grown.pair h h'
    rwa [show i - 1 + 1 = i from by omega] at this
def spLast (n : Nat) : DSp where
  n := 2
  f := fun ds Q _ => ∃ d o e, ds = [d, o] ∧ LastN o n d e ∧ Q e
  len := fun ds Q E ⟨_, _, _, e, _⟩ => by rw [e]; rfl
  mono := fun ds Q Q' E E' k _ ⟨d, o, x, e, h1, q⟩ => ⟨d, o, x, e, h1, k _ q⟩
theorem ok_law_last (T : TxtH K C mg) (Fn : Fun K "_law_last" "_law_last" s__law_last f fd) {n : Nat} (C__law_last : Cal P w K mg base CX0 W k "_law_last" ["_law_worth_here", "_law_odd_here"] (spLast n)) : GnOk P w K mg base CX0 (k + 1) f fd ["_law_worth_here", "_law_odd_here"] (spD W K (spLast (n + 1))) := by
  refine Fn.okD sc__law_last rfl fun cdv A outer s H I ds Q Ed E hr h => ?_
  have hu := hr.units
  obtain ⟨d, o, e, rfl, hn, q⟩ := h
  refine ⟨_, (dss_cons (ds_if (dt_c .lt (de_len T.b_len (da_cons (de_name 0) da_nil)) de_int)
  (dss_one (ds_ret (de_name 1)))
  dss_nil)
  (dss_one (ds_ret (de_add (de_slice (de_name 0) do_none (do_some (de_neg de_int))) (de_tup (da_cons (de_fn C__law_last (hr.mono (by omega)) pass0 lets0 (da_cons (de_at hu (de_name 0) (de_neg de_int)) (da_cons (de_name 1) da_nil))) da_nil)))))), ?_⟩
  simp only [getD_0, getD_s, set_0, set_s, boolD_bl, intD_int, startD, List.map, List.length_cons, List.length_nil, List.replicate, List.cons_append, List.nil_append, defEnds, wipeD, if_true, if_false, Bool.not_true, Bool.not_false, Bool.false_eq_true]
  cases hn with
  | @short _ xs h =>
    simp only [lenD, ltD, boolD_bl]
    rw [if_pos (by simp; omega)]
    exact q
  | @long _ xs d e h h1 h' =>
    have l1 := List.length_pos_iff.mpr h1
    simp only [lenD, ltD, boolD_bl, List.length_append, List.length_cons, List.length_nil]
    rw [if_neg (by simp; omega)]
    simp only [negD, intD_int, sliceD]
    refine ⟨d, L2.atI_last _ _, d, o, e, rfl, h', by decide, ?_⟩
    have ec : cutD (xs ++ [d]) none (some (-1)) = xs := by
      unfold cutD HT.sIx
      simp
      rw [show (-1 + ((xs.length : Int) + 1)).toNat = xs.length from by omega]
      simp
    rw [ec]
    exact ⟨small_len (by simp only [List.length_cons, List.length_nil]; omega), q⟩
end
end KB

/-! a, b, .. = a list. -/
namespace Dk
open PySem L2
section
variable {F : Fx} {X : Cx} {es : List Expr} {gs : DGTs} {pos : Pos}
theorem dg_lst {n k : Nat} {js : List Nat} (hc : X.calm = true) (h : DGs F X es js gs) (hn : (assignEach es X.env).length = n := by rfl) (hst : (assignEach es X.env).findIdx? (·.1) = none := by rfl) : DG F X (.Tuple es k pos) js (fun d ρ Q => ∃ ds, d = .lst ds ∧ ds.length = n ∧ gs ds ρ Q) := by
  refine ⟨fun d ρ Q Q' k ⟨ds, e, l, q⟩ => ⟨ds, e, l, h.mono _ _ _ _ k q⟩, fun d ρ Q ⟨ds, e, l, q⟩ => ⟨ds, e, l, h.keeps _ _ _ q⟩, (pg_lst hc h.run hn hst).imp fun v σ H Q ⟨I, ρ, d, A, r, ds, e, l, q⟩ => ?_⟩
  subst e
  cases r with
  | lst a rs => exact ⟨_, _, rfl, .of (A.st.sub _ _ a), by rw [rs.length]; exact l, I, ρ, ds, A, rs, q⟩
end
end Dk

namespace KB
open PySem L2 Dk
open PyProof.Rows (envOfC)
abbrev s__law_far_right : Stmt := top 43
theorem sc__law_far_right : FnScope ["_law_deck_here", "_law_one", "_law_end", "_law_pair", "_law_row", "_law_other", "_law_book", "_law_worth_here", "_law_odd_here"] ["_law_deck_here"] (defScope s__law_far_right) := ⟨rfl, rfl, rfl, by decide +kernel, rfl, by decide +kernel, by decide +kernel⟩
theorem bd__law_far_right (kV doc pm : Value) (an : Option Addr) (cdv ct : Value) (us : List Value) (hl : us.length = 1) : bindArgs (PySem.W.fnOf "_law_far_right" "_law_far_right" (defArgs s__law_far_right) (defBody s__law_far_right) (defScope s__law_far_right) .none kV doc pm an cdv ct) ⟨us, []⟩ = pure ((["_law_deck_here"] : List Str).zip us) := by
  match us, hl with
  | [v0], _ => rfl
def spFar (a : Addr) : DSp where
  n := 1
  f := fun ds Q _ => ds = [.opq a] ∧ Q (.bl true)
  len := fun ds Q E ⟨e, _⟩ => by rw [e]; rfl
  mono := fun ds Q Q' E E' k _ ⟨e, q⟩ => ⟨e, k _ q⟩
structure Fn3 (N : Nat) (d : D) : Prop where
  g : gd d = true
  dp : dpD d ≤ N
  wd : wdD d ≤ 16000
theorem Fn3.mono {N M : Nat} {d : D} (h : Fn3 N d) (l : N ≤ M) : Fn3 M d := ⟨h.g, Nat.le_trans h.dp l, h.wd⟩
theorem Fn3.tup {N : Nat} {xs : List D} (h : ∀ x ∈ xs, Fn3 N x) (l : xs.length ≤ 16000) : Fn3 (N + 1) (.tup xs) :=
  ⟨by rw [gd, gds_mem]; exact fun x hx => (h x hx).g, by rw [dp_tup]; have := depth_all fun x hx => (h x hx).dp; omega, by rw [wdD]; exact Nat.max_le.mpr ⟨l, wds_all fun x hx => (h x hx).wd⟩⟩
theorem Fn3.str {x : Str} (h : ascii x = true) {N : Nat} : Fn3 N (.str x) := ⟨by rw [gd]; exact h, by simp [dpD, pyF, PyData.depth], by simp [wdD]⟩
theorem Fn3.int {i : Int} {N : Nat} : Fn3 N (.int i) := ⟨by rw [gd], by simp [dpD, pyF, PyData.depth], by simp [wdD]⟩
theorem Fn3.bl {i : Bool} {N : Nat} : Fn3 N (.bl i) := ⟨by rw [gd], by simp [dpD, pyF, PyData.depth], by simp [wdD]⟩
theorem Fn3.non {N : Nat} : Fn3 N .non := ⟨by rw [gd], by simp [dpD, pyF, PyData.depth], by simp [wdD]⟩
/-- the book of the law's far right -/
def farK (one pair row end' other : Str) : List Kind := [(one, [(pair, [one, one]), (row, [numS, one]), (end', [])]), (other, [(other, [])])]
theorem far_good {one end' pair row other : Str} (nd : [one, end', pair, row, other].Nodup) (h : ∀ x ∈ [one, end', pair, row, other], nameOk x = true) : Good (farK one pair row end' other) := by
  simp only [List.nodup_cons, List.mem_cons, List.not_mem_nil, or_false, not_or, List.nodup_nil, and_true, not_false_eq_true] at nd
  obtain ⟨⟨n1, n2, n3, n4⟩, ⟨n5, n6, n7⟩, ⟨n8, n9⟩, n10⟩ := nd
  have h1 := h one (by simp)
  have h2 := h end' (by simp)
  have h3 := h pair (by simp)
  have h4 := h row (by simp)
  have h5 := h other (by simp)
  unfold farK
  refine ⟨by simp, forall_cons h1 (forall_cons h5 forall_nil), forall_cons (by simp) (forall_cons (by simp) forall_nil), forall_cons (forall_cons h3 (forall_cons h4 (forall_cons h2 forall_nil))) (forall_cons (forall_cons h5 forall_nil) forall_nil), ?_, ?_, ?_, ?_, by simp, ?_, ?_⟩
  · simp [kNames, n4]
  · simp only [bNames, List.flatMap_cons, List.flatMap_nil, List.map_cons, List.map_nil, List.cons_append, List.nil_append, List.nodup_cons, List.mem_cons, List.not_mem_nil, or_false, not_or, List.nodup_nil, and_true, not_false_eq_true]
    exact ⟨⟨n8, fun e => n5 e.symm, n9⟩, ⟨fun e => n6 e.symm, n10⟩, n7⟩
  · refine forall_cons (forall_cons (fun f hf => ?_) (forall_cons (fun f hf => ?_) (forall_cons (fun f hf => ?_) forall_nil))) (forall_cons (forall_cons (fun f hf => ?_) forall_nil) forall_nil)
    · right; simp at hf; subst hf; simp [kNames]
    · simp at hf; rcases hf with rfl | rfl
      · exact .inl rfl
      · right; simp [kNames]
    · cases hf
    · cases hf
  · refine ⟨fun _ => 0, fun _ => 1, forall_cons ⟨by simp, by simp, (end', []), by simp, fun f hf => (nomatch hf), by simp [wsum]⟩ (forall_cons ⟨by simp, by simp, (other, []), by simp, fun f hf => (nomatch hf), by simp [wsum]⟩ forall_nil)⟩
  · exact forall_cons (by simp) (forall_cons (by simp) forall_nil)
  · exact forall_cons (forall_cons (by simp) (forall_cons (by simp) (forall_cons (by simp) forall_nil))) (forall_cons (forall_cons (by simp) forall_nil) forall_nil)
section
variable {one end' pair row other : Str} (g : Good (farK one pair row end' other))
theorem far_pair {d e : D} (g : Good (farK one pair row end' other)) : isW (farK one pair row end' other) one (.tup [.str pair, d, e]) = (isW (farK one pair row end' other) one d && isW (farK one pair row end' other) one e) := by
  have hk : (one, [(pair, [one, one]), (row, [numS, one]), (end', [])]) ∈ farK one pair row end' other := by simp [farK]
  have nn : one ≠ numS := kind_not_num g hk
  rw [isW, isT, boughOf_mem g hk (b := (pair, [one, one])) (by simp)]
  simp only [isWs, if_neg nn, List.isEmpty_nil, Bool.and_true]
theorem far_row {d e : D} (g : Good (farK one pair row end' other)) : isW (farK one pair row end' other) one (.tup [.str row, d, e]) = (isN d && isW (farK one pair row end' other) one e) := by
  have hk : (one, [(pair, [one, one]), (row, [numS, one]), (end', [])]) ∈ farK one pair row end' other := by simp [farK]
  have nn : one ≠ numS := kind_not_num g hk
  rw [isW, isT, boughOf_mem g hk (b := (row, [numS, one])) (by simp)]
  simp only [isWs, if_neg nn, if_true, List.isEmpty_nil, Bool.and_true]
theorem far_end {ps : List D} (g : Good (farK one pair row end' other)) : isW (farK one pair row end' other) one (.tup (.str end' :: ps)) = ps.isEmpty := by
  have hk : (one, [(pair, [one, one]), (row, [numS, one]), (end', [])]) ∈ farK one pair row end' other := by simp [farK]
  rw [isW, isT, boughOf_mem g hk (b := (end', [])) (by simp)]
  cases ps <;> simp [isWs]
theorem grown_ok (g : Good (farK one pair row end' other)) (nm : ∀ x ∈ [one, end', pair, row, other], nameOk x = true) {i : Nat} {d : D} (h : Grown end' pair row i d) : isW (farK one pair row end' other) one d = true ∧ Fn3 (i + 3) d := by
  have as : ∀ x ∈ [one, end', pair, row, other], ascii x = true := fun x hx => gd_str (tg_nm (nm x hx)).1
  induction h with
  | row v h0 h1 =>
    refine ⟨?_, ?_⟩
    · rw [far_row g, far_end g]
      simp only [isN, List.isEmpty_nil, Bool.and_true, decide_eq_true_eq]
      omega
    · exact Fn3.tup (forall_cons (.str (as _ (by simp))) (forall_cons .int (forall_cons ((Fn3.tup (N := 0) (forall_cons (.str (as _ (by simp))) forall_nil) (by simp)).mono (by decide)) forall_nil))) (by simp)
  | pair h h' ih ih' =>
    refine ⟨?_, ?_⟩
    · rw [far_pair g, ih.1, ih'.1]
      rfl
    · exact (Fn3.tup (forall_cons (.str (as _ (by simp))) (forall_cons ih.2 (forall_cons ih'.2 forall_nil))) (by simp)).mono (by omega)
theorem grown_last (g : Good (farK one pair row end' other)) (nm : ∀ x ∈ [one, end', pair, row, other], nameOk x = true) {o : D} (ho : Fn3 3 o) {i : Nat} {d : D} (h : Grown end' pair row i d) : ∃ e, LastN o (i + 2) d e ∧ isW (farK one pair row end' other) one e = isW (farK one pair row end' other) one o ∧ Fn3 (i + 4) e := by
  have as : ∀ x ∈ [one, end', pair, row, other], ascii x = true := fun x hx => gd_str (tg_nm (nm x hx)).1
  induction h with
  | row v h0 h1 =>
    refine ⟨.tup [.str row, .int (10 ^ 39 + v), o], ?_, ?_, ?_⟩
    · exact LastN.long (xs := [.str row, .int (10 ^ 39 + v)]) (by simp) (by simp) (.short (by simp))
    · rw [far_row g]
      have : isN (.int (10 ^ 39 + v)) = true := by simp only [isN, decide_eq_true_eq]; omega
      rw [this, Bool.true_and]
    · exact Fn3.tup (forall_cons (.str (as _ (by simp))) (forall_cons .int (forall_cons ho forall_nil))) (by simp)
  | @pair i d d' h h' ih ih' =>
    obtain ⟨e, h1, h2, h3⟩ := ih'
    refine ⟨.tup [.str pair, d, e], ?_, ?_, ?_⟩
    · have := LastN.long (xs := [.str pair, d]) (by simp) (by simp) h1
      simpa using this
    · rw [far_pair g, (grown_ok g nm h).1, Bool.true_and, h2]
    · exact (Fn3.tup (forall_cons (.str (as _ (by simp))) (forall_cons ((grown_ok g nm h).2.mono (by omega)) (forall_cons h3 forall_nil))) (by simp)).mono (by omega)
theorem far_not {x : Str} {ps : List D} (g : Good (farK one pair row end' other)) (h1 : x ≠ pair) (h2 : x ≠ row) (h3 : x ≠ end') : isW (farK one pair row end' other) one (.tup (.str x :: ps)) = false := by
  have hk : (one, [(pair, [one, one]), (row, [numS, one]), (end', [])]) ∈ farK one pair row end' other := by simp [farK]
  rw [isW, isT, boughOf_no g hk (x := x) (forall_cons (Ne.symm h1) (forall_cons (Ne.symm h2) (forall_cons (Ne.symm h3) forall_nil)))]
theorem far_other {x : Str} {ps : List D} (g : Good (farK one pair row end' other)) (h1 : x ≠ other) : isW (farK one pair row end' other) other (.tup (.str x :: ps)) = false := by
  have hk : (other, [(other, [])]) ∈ farK one pair row end' other := by simp [farK]
  rw [isW, isT, boughOf_no g hk (x := x) (forall_cons (Ne.symm h1) forall_nil)]
theorem grown_other (g : Good (farK one pair row end' other)) (nd : [one, end', pair, row, other].Nodup) {i : Nat} {d : D} (h : Grown end' pair row i d) : isW (farK one pair row end' other) other d = false := by
  simp only [List.nodup_cons, List.mem_cons, List.not_mem_nil, or_false, not_or, List.nodup_nil, and_true, not_false_eq_true] at nd
  cases h with
  | row v h0 h1 => exact far_other g nd.2.2.2
  | pair h h' => exact far_other g nd.2.2.1.2
def oddF (pair row end' other : Str) : List D := [.tup [.str other], .tup [.str end', .int 0], .tup [], .int 0, .non, .str end', .lst [.str end'], .tup [.str pair, .tup [.str end']], .tup [.str row, .int (-1), .tup [.str end']], .tup [.str row, .bl true, .tup [.str end']]]
theorem oddF_ok (g : Good (farK one pair row end' other)) (nd : [one, end', pair, row, other].Nodup) (nm : ∀ x ∈ [one, end', pair, row, other], nameOk x = true) : ∀ o ∈ oddF pair row end' other, isW (farK one pair row end' other) one o = false ∧ Fn3 3 o := by
  simp only [List.nodup_cons, List.mem_cons, List.not_mem_nil, or_false, not_or, List.nodup_nil, and_true, not_false_eq_true] at nd
  obtain ⟨⟨n1, n2, n3, n4⟩, ⟨n5, n6, n7⟩, ⟨n8, n9⟩, n10⟩ := nd
  have as : ∀ x ∈ [one, end', pair, row, other], ascii x = true := fun x hx => gd_str (tg_nm (nm x hx)).1
  have sE : ∀ {k : Nat}, Fn3 k (.str end') := fun {k} => .str (as _ (by simp))
  have sP : ∀ {k : Nat}, Fn3 k (.str pair) := fun {k} => .str (as _ (by simp))
  have sR : ∀ {k : Nat}, Fn3 k (.str row) := fun {k} => .str (as _ (by simp))
  have sO : ∀ {k : Nat}, Fn3 k (.str other) := fun {k} => .str (as _ (by simp))
  have tE : Fn3 2 (.tup [.str end']) := (Fn3.tup (N := 0) (forall_cons sE forall_nil) (by simp)).mono (by decide)
  have hk : (one, [(pair, [one, one]), (row, [numS, one]), (end', [])]) ∈ farK one pair row end' other := by simp [farK]
  unfold oddF
  refine forall_cons ⟨far_not g (fun e => n9 e.symm) (fun e => n10 e.symm) (fun e => n7 e.symm), Fn3.tup (forall_cons sO forall_nil) (by simp)⟩ ?_
  refine forall_cons ⟨far_end g, Fn3.tup (forall_cons sE (forall_cons .int forall_nil)) (by simp)⟩ ?_
  refine forall_cons ⟨by rw [isW, isT], Fn3.tup forall_nil (by simp)⟩ (forall_cons ⟨by rw [isW], .int⟩ (forall_cons ⟨by rw [isW], .non⟩ (forall_cons ⟨by rw [isW], sE⟩ (forall_cons ⟨by rw [isW], ?_⟩ ?_))))
  · exact ⟨by rw [gd, gds_mem]; exact forall_cons (sE (k := 0)).g forall_nil, by rw [dp_lst]; have := depth_all (n := 0) (forall_cons (a := D.str end') (sE (k := 0)).dp forall_nil); omega, by rw [wdD]; simp [wds, wdD]⟩
  refine forall_cons ⟨?_, Fn3.tup (forall_cons sP (forall_cons tE forall_nil)) (by simp)⟩ (forall_cons ⟨?_, Fn3.tup (forall_cons sR (forall_cons .int (forall_cons tE forall_nil))) (by simp)⟩ (forall_cons ⟨?_, Fn3.tup (forall_cons sR (forall_cons .bl (forall_cons tE forall_nil))) (by simp)⟩ forall_nil))
  · rw [isW, isT, boughOf_mem g hk (b := (pair, [one, one])) (by simp)]
    exact isWs_len (by simp)
  · rw [far_row g]
    rfl
  · rw [far_row g]
    rfl
end
section
variable {P : Program} {w : World} {K : PySem.W.Frag} {C a l : Addr} {mg : Str → Option Value} {base : Heap} {W : Wd} {k : Nat} {f : Addr} {fd : FuncData}
theorem ok_law_far (T : TxtH K C mg) (Fn : Fun K "_law_far_right" "_law_far_right" s__law_far_right f fd) (C__law_names : Cal P w K mg base CX0 (DeckW a l) k "_law_names" ["_law_deck_here", "_law_many"] (spNames a).dat) (C_Book : CalC P w K mg base CX0 (DeckW a l) k "Book" C ["self", "kinds"] (spBook C))
    (C__law_grown : Cal P w K mg base CX0 (DeckW a l) k "_law_grown" ["_law_deck_here", "_law_boughs", "_law_deep"] (spGrown a 7)) (C__law_last : Cal P w K mg base CX0 (DeckW a l) k "_law_last" ["_law_worth_here", "_law_odd_here"] (spLast 8)) (C_is_worth : Cal P w K mg base CX0 (DeckW a l) k "is_worth" ["book", "kind", "thing"] (spIsWorth C 60)) : GnOk P w K mg base CX0 (k + 2) f fd ["_law_deck_here"] (spD (DeckW a l) K (spFar a)) := by
  refine Fn.okD sc__law_far_right rfl fun cdv A outer s H I ds Q Ed E hr h => ?_
  have hu := hr.units
  obtain ⟨rfl, q⟩ := h
  refine ⟨_, (dss_cons (ds_asg (de_fn C__law_names (hr.mono (by omega)) pass0 lets0 (da_cons (de_name 0) (da_cons de_int da_nil))) (dg_lst (n := 5) rfl (dgs_cons (dg_name 1 sc__law_far_right.nd) (dgs_cons (dg_name 2 sc__law_far_right.nd) (dgs_cons (dg_name 3 sc__law_far_right.nd) (dgs_cons (dg_name 4 sc__law_far_right.nd) (dgs_cons (dg_name 5 sc__law_far_right.nd) dgs_nil)))))))
  (dss_cons (ds_set 6 (de_make C_Book (hr.mono (by omega)) pass0 lets0 (da_cons (de_tup (da_cons (de_tup (da_cons (de_name 1) (da_cons (de_tup (da_cons (de_tup (da_cons (de_name 3) (da_cons (de_tup (da_cons (de_name 1) (da_cons (de_name 1) da_nil))) da_nil))) (da_cons (de_tup (da_cons (de_name 4) (da_cons (de_tup (da_cons de_str (da_cons (de_name 1) da_nil))) da_nil))) (da_cons (de_tup (da_cons (de_name 2) (da_cons (de_tup da_nil) da_nil))) da_nil)))) da_nil))) (da_cons (de_tup (da_cons (de_name 5) (da_cons (de_tup (da_cons (de_tup (da_cons (de_name 5) (da_cons (de_tup da_nil) da_nil))) da_nil)) da_nil))) da_nil))) da_nil)) sc__law_far_right.nd)
  (dss_cons (ds_set 7 (de_fn C__law_grown (hr.mono (by omega)) pass0 lets0 (da_cons (de_name 0) (da_cons (de_tup (da_cons (de_name 2) (da_cons (de_name 3) (da_cons (de_name 4) da_nil)))) (da_cons de_int da_nil)))) sc__law_far_right.nd)
  (dss_cons (ds_for PassesOwn.never rfl (di_seq (de_tup (da_cons (de_tup (da_cons (de_name 5) da_nil)) (da_cons (de_tup (da_cons (de_name 2) (da_cons de_int da_nil))) (da_cons (de_tup da_nil) (da_cons de_int (da_cons de_non (da_cons (de_name 2) (da_cons (de_lst (da_cons (de_name 2) da_nil)) (da_cons (de_tup (da_cons (de_name 3) (da_cons (de_tup (da_cons (de_name 2) da_nil)) da_nil))) (da_cons (de_tup (da_cons (de_name 4) (da_cons (de_neg de_int) (da_cons (de_tup (da_cons (de_name 2) da_nil)) da_nil)))) (da_cons (de_tup (da_cons (de_name 4) (da_cons de_bl (da_cons (de_tup (da_cons (de_name 2) da_nil)) da_nil)))) da_nil)))))))))))) (dg_name 8 sc__law_far_right.nd)
  (dss_one (ds_if (dt_notB (de_fn C_is_worth (hr.mono (by omega)) pass0 lets0 (da_cons (de_name 6) (da_cons (de_name 1) (da_cons (de_fn C__law_last (hr.mono (by omega)) pass0 lets0 (da_cons (de_name 7) (da_cons (de_name 8) da_nil))) da_nil)))) de_bl)
  (dss_one (ds_ret de_bl))
  dss_nil)))
  (dss_one (ds_ret (de_and (de_isB (de_fn C_is_worth (hr.mono (by omega)) pass0 lets0 (da_cons (de_name 6) (da_cons (de_name 1) (da_cons (de_name 7) da_nil)))) de_bl) (de_one (de_isB (de_fn C_is_worth (hr.mono (by omega)) pass0 lets0 (da_cons (de_name 6) (da_cons (de_name 5) (da_cons (de_name 7) da_nil)))) de_bl))))))))), ?_⟩
  simp only [getD_0, getD_s, set_0, set_s, boolD_bl, intD_int, startD, List.map, List.length_cons, List.length_nil, List.replicate, List.cons_append, List.nil_append, defEnds, wipeD, if_true, if_false, Bool.not_true, Bool.not_false, Bool.false_eq_true]
  refine ⟨5, rfl, by decide, by decide, fun xs hl nd nm => ?_⟩
  match xs, hl, nd, nm with
  | [one, end', pair, row, other], _, nd, nm => ?_
  have g := far_good nd nm
  refine ⟨_, rfl, rfl, _, _, rfl, _, _, rfl, _, _, rfl, _, _, rfl, _, _, rfl, rfl, ?_⟩
  refine ⟨by decide, by decide, by decide, by decide, Nat.zero_le _, by decide, by decide, by decide, Nat.zero_le _, by decide, by decide, by decide, by decide, ?_⟩
  refine ⟨farK one pair row end' other, rfl, g, ?_⟩
  refine ⟨by decide, end', pair, row, 6, rfl, by decide, fun d hd => ?_⟩
  have go := grown_ok g nm hd
  have hk1 : (one, [(pair, [one, one]), (row, [numS, one]), (end', [])]) ∈ farK one pair row end' other := by simp [farK]
  have hk2 : (other, [(other, [])]) ∈ farK one pair row end' other := by simp [farK]
  refine ⟨by decide, by decide, Nat.zero_le _, by decide, by decide, by decide, by decide, by decide, by decide, by decide, by decide, ?_⟩
  simp only [itemsD]
  refine forD_ind (fun (m : List D) ρ => ∃ (u8 : Option Ent), (∀ o ∈ m, o ∈ oddF pair row end' other) ∧ ρ = [some (.dat (.opq a)), some (.dat (.str one)), some (.dat (.str end')), some (.dat (.str pair)), some (.dat (.str row)), some (.dat (.str other)), some (.dat (bookD C (farK one pair row end' other))), some (.dat d), u8]) (fun ρ ⟨u8, _, e⟩ => ?_) (fun o m ρ R ⟨u8, ho, e⟩ hR => ?_) _ _ ⟨none, fun o ho => ho, rfl⟩
  · subst e
    refine ⟨_, rfl, _, rfl, _, rfl, farK one pair row end' other, _, d, rfl, g, hk1, go.2.g, go.2.wd, by have := go.2.dp; omega, ?_⟩
    dsimp only
    rw [go.1]
    refine ⟨true, true, rfl, rfl, ?_⟩
    simp only [Dk.flip, decide_true, Bool.false_eq_true, if_false, boolD_bl, if_true]
    refine ⟨_, rfl, _, rfl, _, rfl, farK one pair row end' other, _, d, rfl, g, hk2, go.2.g, go.2.wd, by have := go.2.dp; omega, ?_⟩
    dsimp only
    rw [grown_other g nd hd]
    exact ⟨false, false, rfl, rfl, q⟩
  · subst e
    obtain ⟨w1, w2⟩ := oddF_ok g nd nm o (ho o (by simp))
    obtain ⟨e, h1, h2, h3⟩ := grown_last g nm w2 hd
    refine ⟨_, rfl, _, rfl, _, rfl, _, rfl, d, o, e, rfl, h1, ?_⟩
    refine ⟨farK one pair row end' other, _, e, rfl, g, hk1, h3.g, h3.wd, by have := h3.dp; omega, ?_⟩
    dsimp only
    rw [h2, w1]
    refine ⟨false, false, rfl, rfl, ?_⟩
    simp only [Dk.flip, decide_true, if_true, Bool.not_true, boolD_bl, Bool.false_eq_true, if_false]
    exact hR _ ⟨_, fun x hx => ho x (List.mem_cons_of_mem _ hx), rfl⟩
end
end KB

namespace KB
open PySem L2 Dk
open PyProof.Rows (envOfC)
abbrev s__law_great_kinds : Stmt := top 34
theorem sc__law_great_kinds : FnScope ["_law_deck_here", "_law_letters", "_law_names_here", "_law_stem", "_law_k", "_law_found", "_law_at", "_law_rows", "_law_j", "_law_some", "_law_many", "_law_fields", "_law_i", "_law_number"] ["_law_deck_here"] (defScope s__law_great_kinds) := ⟨rfl, rfl, rfl, by decide +kernel, rfl, by decide +kernel, by decide +kernel⟩
theorem bd__law_great_kinds (kV doc pm : Value) (an : Option Addr) (cdv ct : Value) (us : List Value) (hl : us.length = 1) : bindArgs (PySem.W.fnOf "_law_great_kinds" "_law_great_kinds" (defArgs s__law_great_kinds) (defBody s__law_great_kinds) (defScope s__law_great_kinds) .none kV doc pm an cdv ct) ⟨us, []⟩ = pure ((["_law_deck_here"] : List Str).zip us) := by
  match us, hl with
  | [v0], _ => rfl
def grN (st : List Nat) (n : Nat) : List Nat := st ++ [97 + n / 26, 97 + n % 26]
def n48 (st : List Nat) : List Str := (List.range 48).map fun n => txt (grN st n)
theorem n48_len (st : List Nat) : (n48 st).length = 48 := by unfold n48; rw [List.length_map, List.length_range]
theorem n48_nd (st : List Nat) : (n48 st).Nodup := nodup_map_of List.nodup_range fun i hi j hj e => by
  have := List.append_cancel_left (txt_inj e)
  simp only [List.cons.injEq, and_true] at this
  omega
theorem n48_ok {st : List Nat} (h6 : st.length ≤ 6) (hs : ∀ c ∈ st, letter c) : ∀ x ∈ n48 st, nameOk x = true := by
  intro x hx
  obtain ⟨n, hn, rfl⟩ := List.mem_map.mp hx
  have hn := List.mem_range.mp hn
  have hne : txt (grN st n) ≠ numS := fun e => by
    have e1 : grN st n = [110, 117, 109] := txt_inj (e.trans (by decide +kernel : numS = txt [110, 117, 109]))
    have e2 := congrArg List.length e1
    unfold grN at e1 e2
    simp only [List.length_append, List.length_cons, List.length_nil] at e2
    match st, e2, e1 with
    | [x], _, e1 =>
      simp only [List.cons_append, List.nil_append, List.cons.injEq] at e1
      omega
  have hl : ∀ c ∈ grN st n, letter c := fun c hc => by
    rcases List.mem_append.mp hc with h | h
    · exact hs c h
    · unfold letter
      simp only [List.mem_cons, List.not_mem_nil, or_false] at h
      omega
  unfold nameOk
  rw [txt_len, txt_list]
  simp only [Bool.and_eq_true, decide_eq_true_eq, Bool.not_eq_true', decide_eq_false_iff_not, List.all_eq_true]
  refine ⟨by simp [grN], by simp [grN]; omega, hne, fun c hc => ?_⟩
  have := hl c hc
  unfold letter at this
  unfold signOk
  simp [this.1, this.2]
theorem Rows.addF {names n12 : List Str} {found : List Kind} {rows : List Bough} {left : List Str} {x : Str} {fs : List Str} (r : Rows names n12 found rows (x :: left)) (h8 : fs.length ≤ 8) (hf : ∀ f ∈ fs, f = numS ∨ f ∈ names) : Rows names n12 found (rows ++ [(x, fs)]) left where
  pm := by
    have := r.pm
    rw [List.map_append, List.append_assoc]
    exact this
  fld := fun b hb => by
    rcases List.mem_append.mp hb with h | h
    · exact r.fld b h
    · obtain rfl := List.mem_singleton.mp h
      exact ⟨h8, hf⟩
theorem n48_drop {st : List Nat} {n : Nat} (h : n < 48) : (n48 st).drop n = txt (grN st n) :: (n48 st).drop (n + 1) := by
  rw [List.drop_eq_getElem_cons (by rw [n48_len]; exact h)]
  simp [n48]
section
variable {P : Program} {w : World} {K : PySem.W.Frag} {C a l : Addr} {mg : Str → Option Value} {base : Heap} {k : Nat} {f : Addr} {fd : FuncData}
theorem ok_great (T : TxtB K C mg) (Fn : Fun K "_law_great_kinds" "_law_great_kinds" s__law_great_kinds f fd) (C__law_draw : Cal P w K mg base CX0 (DeckW a l) k "_law_draw" ["_law_deck_here", "_law_most"] (spDraw a))
    (C__law_pick : Cal P w K mg base CX0 (DeckW a l) k "_law_pick" ["_law_deck_here", "_law_some"] (spPick a)) (CO__law_names : CalO P w K mg base (DeckW a l) k "_law_names" ["_law_deck_here", "_law_many"] (spNames a)) : GnOk P w K mg base CX0 (k + 1) f fd ["_law_deck_here"] (spD (DeckW a l) K (spKinds a)) := by
  have C__law_names := CO__law_names.cal
  refine Fn.okD sc__law_great_kinds rfl fun cdv A outer s H I ds Q Ed E hr h => ?_
  have hu := hr.units
  obtain ⟨rfl, q⟩ := h
  refine ⟨_, (dss_cons (ds_set 1 de_str sc__law_great_kinds.nd)
  (dss_cons (ds_set 2 (de_fn C__law_names (hr.mono (by omega)) pass0 lets0 (da_cons (de_name 0) (da_cons de_int da_nil))) sc__law_great_kinds.nd)
  (dss_cons (ds_set 3 (de_join de_str (de_lc (own := [("_law_k", 4)]) rfl sc__law_great_kinds.nd (di_range1 T.b_range (da_cons (de_fn C__law_draw (hr.mono (by omega)) pass0 lets0 (da_cons (de_name 0) (da_cons de_int da_nil))) da_nil)) (blkOk_by (own := [("_law_k", 4)]) (N := ["_law_deck_here", "_law_letters", "_law_names_here", "_law_stem", "_law_k", "_law_found", "_law_at", "_law_rows", "_law_j", "_law_some", "_law_many", "_law_fields", "_law_i", "_law_number"]) (sc := defScope s__law_great_kinds) (by decide +kernel)) (fun _ _ _ _ _ => (dg_name 4 sc__law_great_kinds.nd)) (fun _ _ _ _ _ => dif_nil) (fun _ _ _ _ _ => (de_at hu (de_name 1) (de_fn C__law_draw (hr.mono (by omega)) pass0 lets0 (da_cons (de_name 0) (da_cons de_int da_nil))))))) sc__law_great_kinds.nd)
  (dss_cons (ds_own 5 da_nil sc__law_great_kinds.nd)
  (dss_cons (ds_for PassesOwn.never rfl (di_range1 T.b_range (da_cons de_int da_nil)) (dg_name 4 sc__law_great_kinds.nd)
  (dss_cons (by first | exact (ds_parO (i := 6) (j := 7) rfl sc__law_great_kinds.nd rfl rfl (by decide) rfl rfl (de_fn C__law_draw (hr.mono (by omega)) pass0 lets0 (da_cons (de_name 0) (da_cons de_int da_nil))) (deo_lst da_nil)) | exact (ds_parOc (i := 6) (j := 7) rfl sc__law_great_kinds.nd rfl rfl (by decide) (by first | exact Or.inl rfl | exact Or.inr rfl) (by first | exact Or.inl rfl | exact Or.inr rfl) (by first | exact .inl rfl | exact .inr rfl) (by first | exact .inl rfl | exact .inr rfl) (de_fn C__law_draw (hr.mono (by omega)) pass0 lets0 (da_cons (de_name 0) (da_cons de_int da_nil))) (deo_lst da_nil)))
  (dss_cons (ds_for PassesOwn.never rfl (di_range1 T.b_range (da_cons de_int da_nil)) (dg_name 8 sc__law_great_kinds.nd)
  (dss_cons (by first | exact (ds_par (i := 9) (j := 10) rfl sc__law_great_kinds.nd rfl rfl (by decide) rfl rfl (da_cons (de_add (de_lst (da_cons de_str da_nil)) (de_name 2)) (da_cons (de_fn C__law_draw (hr.mono (by omega)) pass0 lets0 (da_cons (de_name 0) (da_cons de_int da_nil))) da_nil))) | exact (ds_asg (de_tup (da_cons (de_add (de_lst (da_cons de_str da_nil)) (de_name 2)) (da_cons (de_fn C__law_draw (hr.mono (by omega)) pass0 lets0 (da_cons (de_name 0) (da_cons de_int da_nil))) da_nil))) (dg_tup (n := 2) rfl (dgs_cons (dg_name 9 sc__law_great_kinds.nd) (dgs_cons (dg_name 10 sc__law_great_kinds.nd) dgs_nil)))))
  (dss_cons (ds_if (dt_c (.eq hu) (de_name 8) (de_name 6))
  (dss_one (by first | exact (ds_par (i := 9) (j := 10) rfl sc__law_great_kinds.nd rfl rfl (by decide) rfl rfl (da_cons (de_add (de_lst (da_cons de_str da_nil)) (de_slice (de_name 2) do_none (do_some (de_name 4)))) (da_cons (de_fn C__law_draw (hr.mono (by omega)) pass0 lets0 (da_cons (de_name 0) (da_cons (de_sub de_int (de_fdiv (de_name 4) de_int)) da_nil))) da_nil))) | exact (ds_asg (de_tup (da_cons (de_add (de_lst (da_cons de_str da_nil)) (de_slice (de_name 2) do_none (do_some (de_name 4)))) (da_cons (de_fn C__law_draw (hr.mono (by omega)) pass0 lets0 (da_cons (de_name 0) (da_cons (de_sub de_int (de_fdiv (de_name 4) de_int)) da_nil))) da_nil))) (dg_tup (n := 2) rfl (dgs_cons (dg_name 9 sc__law_great_kinds.nd) (dgs_cons (dg_name 10 sc__law_great_kinds.nd) dgs_nil))))))
  dss_nil)
  (dss_cons (ds_set 11 (de_tuple T.b_tuple (da_cons (de_lc (own := [("_law_i", 12)]) rfl sc__law_great_kinds.nd (di_range1 T.b_range (da_cons (de_name 10) da_nil)) (blkOk_by (own := [("_law_i", 12)]) (N := ["_law_deck_here", "_law_letters", "_law_names_here", "_law_stem", "_law_k", "_law_found", "_law_at", "_law_rows", "_law_j", "_law_some", "_law_many", "_law_fields", "_law_i", "_law_number"]) (sc := defScope s__law_great_kinds) (by decide +kernel)) (fun _ _ _ _ _ => (dg_name 12 sc__law_great_kinds.nd)) (fun _ _ _ _ _ => dif_nil) (fun _ _ _ _ _ => (de_fn C__law_pick (hr.mono (by omega)) pass0 lets0 (da_cons (de_name 0) (da_cons (de_name 9) da_nil))))) da_nil)) sc__law_great_kinds.nd)
  (dss_cons (ds_set 13 (de_add (de_mul de_int (de_name 4)) (de_name 8)) sc__law_great_kinds.nd)
  (dss_one (ds_append 7 (de_tup (da_cons (de_add (de_add (de_name 3) (de_at hu (de_name 1) (de_fdiv (de_name 13) de_int))) (de_at hu (de_name 1) (de_mod (de_name 13) de_int))) (da_cons (de_name 11) da_nil))))))))))
  (dss_freeze 7
  (dss_one (ds_append 5 (de_tup (da_cons (de_at hu (de_name 2) (de_name 4)) (da_cons (de_tuple T.b_tuple (da_cons (de_name 7) da_nil)) da_nil)))))))))
  (dss_freeze 5
  (dss_one (ds_ret (de_tuple T.b_tuple (da_cons (de_name 5) da_nil)))))))))), ?_⟩
  simp only [getD_0, getD_s, set_0, set_s, boolD_bl, intD_int, startD, List.map, List.length_cons, List.length_nil, List.replicate, List.cons_append, List.nil_append, defEnds, wipeD, if_true, if_false, Bool.not_true, Bool.not_false, Bool.false_eq_true]
  refine ⟨6, rfl, by decide, by decide, fun names hnl hnd hnok => ⟨_, rfl, 7, rfl, by decide, by decide, fun sv s0 s1 => ⟨sv, rfl, by omega, by omega, small_len (by rw [rngD_length]; omega), lcD_any (fun c => D.str (txt [c])) letter (fun d hd R S hR => ?_) fun st hstl hst => ?_⟩⟩⟩
  · simp only [getD_0, getD_s, set_0, set_s, boolD_bl, intD_int, startD, List.map, List.length_cons, List.length_nil, List.replicate, List.cons_append, List.nil_append, defEnds, wipeD, if_true, if_false, Bool.not_true, Bool.not_false, Bool.false_eq_true]
    refine ⟨26, rfl, by decide, by decide, fun v h0 h1 => ix_abc h0 h1 (hR _ ?_)⟩
    unfold letter
    omega
  rw [rngD_length] at hstl
  have h6 : st.length ≤ 6 := by omega
  refine ⟨st.map fun c => txt [c], .inl (by rw [List.map_map]; rfl), ?_, ?_⟩
  · have e0 : ("" : Str).length = 0 := rfl
    rw [e0, Nat.mul_zero, Nat.add_zero, List.map_map]
    have : (st.map ((fun x : Str => x.length) ∘ fun c => txt [c])) = st.map fun _ => 1 := rfl
    rw [this, List.map_const', List.sum_replicate_nat]
    omega
  rw [join_txt]
  refine ⟨Nat.zero_le _, 6, rfl, by decide, by decide, ?_⟩
  refine forD_ind (fun (l : List D) ρ => ∃ (i : Nat) (found : List Kind) (s4 s6 s7 s8 s9 s10 s11 s12 s13 : Option Ent), i ≤ 6 ∧ l = (rngD 0 6).drop i ∧ found.length = i ∧ Made names (n48 st) found ((n48 st).drop (8 * i)) ∧ ρ = [some (.dat (.opq a)), some (.dat (.str "abcdefghijklmnopqrstuvwxyz")), some (.dat (.lst (names.map D.str))), some (.dat (.str (txt st))), s4, some (.own (found.map kindD)), s6, s7, s8, s9, s10, s11, s12, s13]) (fun ρ ⟨i, found, s4, s6, s7, s8, s9, s10, s11, s12, s13, hi, el, fl, md, e⟩ => ?_) (fun d l ρ R ⟨i, found, s4, s6, s7, s8, s9, s10, s11, s12, s13, hi, el, fl, md, e⟩ hR => ?_) _ _ ⟨0, [], none, none, none, none, none, none, none, none, none, Nat.zero_le _, rfl, rfl, .nil, rfl⟩
  · subst e
    have him : i = 6 := by
      by_cases z : i = 6
      · exact z
      · exfalso
        have := congrArg List.length el
        rw [List.length_drop, rngD_length] at this
        simp at this
        omega
    refine ⟨_, rfl, trivial, ?_⟩
    simp only [getD_0, getD_s, set_0, set_s, boolD_bl, intD_int, startD, List.map, List.length_cons, List.length_nil, List.replicate, List.cons_append, List.nil_append, defEnds, wipeD, if_true, if_false, Bool.not_true, Bool.not_false, Bool.false_eq_true]
    exact q found (md.good hnd hnok (n48_nd st) (n48_ok h6 hst) (by omega) (by omega) (by omega))
  · obtain ⟨hi', rfl, el'⟩ := rng_drop el
    subst e
    simp only [getD_0, getD_s, set_0, set_s, boolD_bl, intD_int, startD, List.map, List.length_cons, List.length_nil, List.replicate, List.cons_append, List.nil_append, defEnds, wipeD, if_true, if_false, Bool.not_true, Bool.not_false, Bool.false_eq_true]
    refine ⟨8, rfl, by decide, by decide, fun av a0 a1 => ⟨by decide, 8, rfl, by decide, by decide, ?_⟩⟩
    obtain ⟨at', rfl⟩ := Int.eq_ofNat_of_zero_le a0
    obtain ⟨nm', hnm⟩ : ∃ x, names[i]? = some x := ⟨names[i]'(by omega), List.getElem?_eq_getElem (by omega)⟩
    refine forD_ind (fun (l2 : List D) ρ => ∃ (j : Nat) (rows : List Bough) (s8 s9 s10 s11 s12 s13 : Option Ent), j ≤ 8 ∧ l2 = (rngD 0 8).drop j ∧ rows.length = j ∧ Rows names (n48 st) found rows ((n48 st).drop (8 * i + j)) ∧ (at' < j → ∃ b ∈ rows, wit names i b.2) ∧ ρ = [some (.dat (.opq a)), some (.dat (.str "abcdefghijklmnopqrstuvwxyz")), some (.dat (.lst (names.map D.str))), some (.dat (.str (txt st))), some (.dat (.int (0 + (i : Int)))), some (.own (found.map kindD)), some (.dat (.int at')), some (.own (rows.map boughD)), s8, s9, s10, s11, s12, s13]) (fun ρ ⟨j, rows, s8, s9, s10, s11, s12, s13, hj, el2, hlen, rw', hw, e⟩ => ?_) (fun d l2 ρ R2 ⟨j, rows, s8, s9, s10, s11, s12, s13, hj, el2, hlen, rw', hw, e⟩ hR2 => ?_) _ _ ⟨0, [], _, _, _, _, _, _, Nat.zero_le _, rfl, rfl, md.rows, by simp, rfl⟩
    · subst e
      have hj8 : j = 8 := by
        by_cases z : j = 8
        · exact z
        · exfalso
          have := congrArg List.length el2
          rw [List.length_drop, rngD_length] at this
          simp at this
          omega
      refine ⟨_, rfl, trivial, ?_⟩
      simp only [getD_0, getD_s, set_0, set_s, boolD_bl, intD_int, startD, List.map, List.length_cons, List.length_nil, List.replicate, List.cons_append, List.nil_append, defEnds, wipeD, if_true, if_false, Bool.not_true, Bool.not_false, Bool.false_eq_true]
      have hat : atI (names.map D.str) (0 + (i : Int)) = some (.str nm') := by
        rw [show (0 + (i : Int)) = ((i : Nat) : Int) from by omega]
        exact atI_nat (by rw [List.getElem?_map, hnm]; rfl)
      refine ⟨_, rfl, .str nm', hat, by decide, small_lt (by rw [List.length_map]; omega), ?_⟩
      have ef : found.map kindD ++ [D.tup [.str nm', .tup (rows.map boughD)]] = (found ++ [(nm', rows)]).map kindD := by
        rw [List.map_append (f := kindD)]
        rfl
      rw [ef]
      exact hR _ ⟨i + 1, found ++ [(nm', rows)], _, _, _, _, _, _, _, _, _, hi', el', by simp [fl], by rw [show 8 * (i + 1) = 8 * i + j from by omega]; exact md.add rw' (by rw [fl]; exact hnm) (List.Perm.refl _) (by omega) (by rw [fl]; exact hw (by omega)), rfl⟩
    · obtain ⟨hj', rfl, el2'⟩ := rng_drop el2
      subst e
      simp only [getD_0, getD_s, set_0, set_s, boolD_bl, intD_int, startD, List.map, List.length_cons, List.length_nil, List.replicate, List.cons_append, List.nil_append, defEnds, wipeD, if_true, if_false, Bool.not_true, Bool.not_false, Bool.false_eq_true]
      refine ⟨by decide, small_len (by simp only [List.length_cons, List.length_nil, List.length_map]; omega), 9, rfl, by decide, by decide, fun mv m0 m1 => ⟨by decide, _, rfl, rfl, _, _, rfl, _, _, rfl, rfl, ?_⟩⟩
      rw [eqD_int]
      simp only [boolD_bl]
      by_cases hja : (0 + (j : Int)) = (at' : Int)
      · rw [if_pos (by rw [decide_eq_true_eq]; exact hja)]
        refine ⟨by decide, small_len (by have := cutD_len (names.map D.str) none (some (0 + (i : Int))); rw [List.length_map] at this; simp only [List.length_cons, List.length_nil]; omega), ⟨by decide, by decide⟩, 3 - (0 + (i : Int)) / 4, rfl, by omega, log_small (by omega), fun mn n0 n1 => ⟨by decide, _, rfl, rfl, _, _, rfl, _, _, rfl, rfl, ?_⟩⟩
        have es : [D.str "num"] ++ cutD (names.map D.str) none (some (0 + (i : Int))) = (numS :: names.take i).map D.str := by
          rw [show (0 + (i : Int)) = ((i : Nat) : Int) from by omega, cutD_to, ← List.map_take]
          rfl
        rw [es]
        obtain ⟨so, eso⟩ : ∃ so, so = numS :: names.take i := ⟨_, rfl⟩
        have hso1 : ∀ f ∈ so, f = numS ∨ f ∈ names := fun f hf => by
          rw [eso] at hf
          exact (List.mem_cons.mp hf).imp id List.mem_of_mem_take
        have hso2 : so.length ≤ 10 := by rw [eso, List.length_cons, List.length_take]; omega
        have hne : so ≠ [] := by rw [eso]; simp
        have hat2 : at' = j → ∀ f ∈ so, f = numS ∨ f ∈ names.take i := fun _ f hf => by
          rw [eso] at hf
          exact List.mem_cons.mp hf
        rw [← eso]
        clear eso es
        refine ⟨mn, rfl, by omega, by omega, small_len (by rw [rngD_length]; omega), lcD_any D.str (fun f => f ∈ so) (fun d hd S hS hR3 => ?_) fun gs hgl hgs => ?_⟩
        · simp only [getD_0, getD_s, set_0, set_s, boolD_bl, intD_int, startD, List.map, List.length_cons, List.length_nil, List.replicate, List.cons_append, List.nil_append, defEnds, wipeD, if_true, if_false, Bool.not_true, Bool.not_false, Bool.false_eq_true]
          refine ⟨_, rfl, by simpa using hne, by rw [List.length_map]; omega, fun z hz => ?_⟩
          obtain ⟨f, hf, rfl⟩ := List.mem_map.mp hz
          exact hR3 f hf
        rw [rngD_length] at hgl
        refine ⟨.inl ⟨by omega, by omega⟩, ?_⟩
        show ∃ xs, _
        have en : (8 : Int) * (0 + (i : Int)) + (0 + (j : Int)) = ((8 * i + j : Nat) : Int) := by omega
        rw [en]
        have hn48 : 8 * i + j < 48 := by omega
        rw [n48_drop hn48] at rw'
        have r2 := rw'.addF (fs := gs) (by omega) fun f hf => hso1 f (hgs f hf)
        refine ⟨_, rfl, ⟨by decide, by decide⟩, ix_abc (by omega) (by omega) ?_⟩
        have e1 : 97 + (((8 * i + j : Nat) : Int) / 26).toNat = 97 + (8 * i + j) / 26 := by omega
        have e2 : 97 + (((8 * i + j : Nat) : Int) % 26).toNat = 97 + (8 * i + j) % 26 := by omega
        rw [e1]
        refine ⟨small_len (by rw [txt_len, txt_len]; simp only [List.length_cons, List.length_nil]; omega), ?_⟩
        rw [txt_app]
        refine ⟨by decide, ix_abc (Int.emod_nonneg _ (by decide)) (Int.emod_lt_of_pos _ (by decide)) ?_⟩
        rw [e2]
        refine ⟨small_len (by rw [txt_len, txt_len]; simp only [List.length_append, List.length_cons, List.length_nil]; omega), ?_⟩
        rw [txt_app]
        refine ⟨by decide, small_lt (by rw [List.length_map]; omega), ?_⟩
        have eg : st ++ [97 + (8 * i + j) / 26] ++ [97 + (8 * i + j) % 26] = grN st (8 * i + j) := by simp [grN]
        rw [eg]
        have ef : rows.map boughD ++ [D.tup [.str (txt (grN st (8 * i + j))), .tup (gs.map D.str)]] = (rows ++ [(txt (grN st (8 * i + j)), gs)]).map boughD := by
          rw [List.map_append (f := boughD)]
          rfl
        rw [ef]
        refine hR2 _ ⟨j + 1, rows ++ [(txt (grN st (8 * i + j)), gs)], _, _, _, _, _, _, hj', el2', by simp [hlen], r2, fun hlt => ?_, rfl⟩
        by_cases hlt2 : at' < j
        · obtain ⟨b, hb, h⟩ := hw hlt2
          exact ⟨b, List.mem_append_left _ hb, h⟩
        · exact ⟨(txt (grN st (8 * i + j)), gs), by simp, fun f hf => hat2 (by omega) f (hgs f hf), Nat.le_trans (List.length_filter_le _ _) (Nat.le_trans (show gs.length ≤ 2 - i / 4 by omega) (cw2 i (by omega)))⟩
      · rw [if_neg (by rw [decide_eq_true_eq]; exact hja)]
        have es : [D.str "num"] ++ names.map D.str = (numS :: names).map D.str := rfl
        rw [es]
        obtain ⟨so, eso⟩ : ∃ so, so = numS :: names := ⟨_, rfl⟩
        have hso1 : ∀ f ∈ so, f = numS ∨ f ∈ names := fun f hf => by
          rw [eso] at hf
          exact List.mem_cons.mp hf
        have hso2 : so.length ≤ 10 := by rw [eso, List.length_cons]; omega
        have hne : so ≠ [] := by rw [eso]; simp
        have hat2 : at' = j → ∀ f ∈ so, f = numS ∨ f ∈ names.take i := fun z => absurd (by omega) hja
        rw [← eso]
        clear eso es
        generalize mv = mn at m0 m1
        refine ⟨mn, rfl, by omega, by omega, small_len (by rw [rngD_length]; omega), lcD_any D.str (fun f => f ∈ so) (fun d hd S hS hR3 => ?_) fun gs hgl hgs => ?_⟩
        · simp only [getD_0, getD_s, set_0, set_s, boolD_bl, intD_int, startD, List.map, List.length_cons, List.length_nil, List.replicate, List.cons_append, List.nil_append, defEnds, wipeD, if_true, if_false, Bool.not_true, Bool.not_false, Bool.false_eq_true]
          refine ⟨_, rfl, by simpa using hne, by rw [List.length_map]; omega, fun z hz => ?_⟩
          obtain ⟨f, hf, rfl⟩ := List.mem_map.mp hz
          exact hR3 f hf
        rw [rngD_length] at hgl
        refine ⟨.inl ⟨by omega, by omega⟩, ?_⟩
        show ∃ xs, _
        have en : (8 : Int) * (0 + (i : Int)) + (0 + (j : Int)) = ((8 * i + j : Nat) : Int) := by omega
        rw [en]
        have hn48 : 8 * i + j < 48 := by omega
        rw [n48_drop hn48] at rw'
        have r2 := rw'.addF (fs := gs) (by omega) fun f hf => hso1 f (hgs f hf)
        refine ⟨_, rfl, ⟨by decide, by decide⟩, ix_abc (by omega) (by omega) ?_⟩
        have e1 : 97 + (((8 * i + j : Nat) : Int) / 26).toNat = 97 + (8 * i + j) / 26 := by omega
        have e2 : 97 + (((8 * i + j : Nat) : Int) % 26).toNat = 97 + (8 * i + j) % 26 := by omega
        rw [e1]
        refine ⟨small_len (by rw [txt_len, txt_len]; simp only [List.length_cons, List.length_nil]; omega), ?_⟩
        rw [txt_app]
        refine ⟨by decide, ix_abc (Int.emod_nonneg _ (by decide)) (Int.emod_lt_of_pos _ (by decide)) ?_⟩
        rw [e2]
        refine ⟨small_len (by rw [txt_len, txt_len]; simp only [List.length_append, List.length_cons, List.length_nil]; omega), ?_⟩
        rw [txt_app]
        refine ⟨by decide, small_lt (by rw [List.length_map]; omega), ?_⟩
        have eg : st ++ [97 + (8 * i + j) / 26] ++ [97 + (8 * i + j) % 26] = grN st (8 * i + j) := by simp [grN]
        rw [eg]
        have ef : rows.map boughD ++ [D.tup [.str (txt (grN st (8 * i + j))), .tup (gs.map D.str)]] = (rows ++ [(txt (grN st (8 * i + j)), gs)]).map boughD := by
          rw [List.map_append (f := boughD)]
          rfl
        rw [ef]
        refine hR2 _ ⟨j + 1, rows ++ [(txt (grN st (8 * i + j)), gs)], _, _, _, _, _, _, hj', el2', by simp [hlen], r2, fun hlt => ?_, rfl⟩
        by_cases hlt2 : at' < j
        · obtain ⟨b, hb, h⟩ := hw hlt2
          exact ⟨b, List.mem_append_left _ hb, h⟩
        · exact absurd (by omega) hja
end
end KB

namespace KB
open PySem L2 Dk
open PyProof.Rows (envOfC)
abbrev s__law_any_kinds : Stmt := top 35
theorem sc__law_any_kinds : FnScope ["_law_deck_here"] ["_law_deck_here"] (defScope s__law_any_kinds) := ⟨rfl, rfl, rfl, by decide +kernel, rfl, by decide +kernel, by decide +kernel⟩
theorem bd__law_any_kinds (kV doc pm : Value) (an : Option Addr) (cdv ct : Value) (us : List Value) (hl : us.length = 1) : bindArgs (PySem.W.fnOf "_law_any_kinds" "_law_any_kinds" (defArgs s__law_any_kinds) (defBody s__law_any_kinds) (defScope s__law_any_kinds) .none kV doc pm an cdv ct) ⟨us, []⟩ = pure ((["_law_deck_here"] : List Str).zip us) := by
  match us, hl with
  | [v0], _ => rfl
section
variable {P : Program} {w : World} {K : PySem.W.Frag} {C a l : Addr} {mg : Str → Option Value} {base : Heap} {k : Nat} {f : Addr} {fd : FuncData}
theorem ok_any (T : TxtB K C mg) (Fn : Fun K "_law_any_kinds" "_law_any_kinds" s__law_any_kinds f fd) (C__law_draw : Cal P w K mg base CX0 (DeckW a l) k "_law_draw" ["_law_deck_here", "_law_most"] (spDraw a))
    (C__law_kinds : Cal P w K mg base CX0 (DeckW a l) k "_law_kinds" ["_law_deck_here"] (spKinds a)) (C__law_great_kinds : Cal P w K mg base CX0 (DeckW a l) k "_law_great_kinds" ["_law_deck_here"] (spKinds a)) : GnOk P w K mg base CX0 (k + 1) f fd ["_law_deck_here"] (spD (DeckW a l) K (spKinds a)) := by
  refine Fn.okD sc__law_any_kinds rfl fun cdv A outer s H I ds Q Ed E hr h => ?_
  have hu := hr.units
  obtain ⟨rfl, q⟩ := h
  refine ⟨_, (dss_cons (ds_if (dt_c (.eq hu) (de_fn C__law_draw (hr.mono (by omega)) pass0 lets0 (da_cons (de_name 0) (da_cons de_int da_nil))) de_int)
  (dss_one (ds_ret (de_fn C__law_great_kinds (hr.mono (by omega)) pass0 lets0 (da_cons (de_name 0) da_nil))))
  dss_nil)
  (dss_one (ds_ret (de_fn C__law_kinds (hr.mono (by omega)) pass0 lets0 (da_cons (de_name 0) da_nil))))), ?_⟩
  simp only [getD_0, getD_s, set_0, set_s, boolD_bl, intD_int, startD, List.map, List.length_cons, List.length_nil, List.replicate, List.cons_append, List.nil_append, defEnds, wipeD, if_true, if_false, Bool.not_true, Bool.not_false, Bool.false_eq_true]
  refine ⟨8, rfl, by decide, by decide, fun v h0 h1 => ?_⟩
  simp only [eqD_int, boolD_bl]

  by_cases h5 : v = 5
  · rw [if_pos (by rw [decide_eq_true_eq]; exact h5)]
    exact ⟨rfl, q⟩
  · rw [if_neg (by rw [decide_eq_true_eq]; exact h5)]
    exact ⟨rfl, q⟩
end
end KB

namespace KB
open PySem L2 Dk
open PyProof.Rows (envOfC)
abbrev s_law : Stmt := top 44
theorem sc_law : FnScope ["_law_script", "_law_deck_here", "_law_ways", "_law_k", "_law_turn", "_law_twice", "_law_kinds_here", "_law_book", "_law_info_here", "_law_sizes_here", "_law_goods", "_law_kind", "_law_most", "_law_good", "_law_bent", "_law_thing", "_law_few"] ["_law_script"] (defScope s_law) := ⟨rfl, rfl, rfl, by decide +kernel, rfl, by decide +kernel, by decide +kernel⟩
theorem bd_law (kV doc pm : Value) (an : Option Addr) (cdv ct : Value) (us : List Value) (hl : us.length = 1) : bindArgs (PySem.W.fnOf "law" "law" (defArgs s_law) (defBody s_law) (defScope s_law) .none kV doc pm an cdv ct) ⟨us, []⟩ = pure ((["_law_script"] : List Str).zip us) := by
  match us, hl with
  | [v0], _ => rfl
theorem Tgs.map {α : Type} {n m : Nat} {f : α → D} : ∀ {l : List α}, (∀ x ∈ l, Tg n m (f x)) → Tgs n ((m + 2) * l.length) (l.map f)
  | [], _ => Tgs.nil
  | x :: l, h => (Tgs.cons (h x (by simp)) (Tgs.map (l := l) fun y hy => h y (List.mem_cons_of_mem _ hy))).mono (Nat.le_refl _) (by
      rw [List.length_cons, Nat.mul_add]
      omega)
theorem Tgs.mapN {α : Type} {n m N : Nat} {f : α → D} {l : List α} (h : ∀ x ∈ l, Tg n m (f x)) (hl : l.length ≤ N) : Tgs n ((m + 2) * N) (l.map f) :=
  (Tgs.map h).mono (Nat.le_refl _) (Nat.mul_le_mul_left _ hl)
theorem kinds_tg {ks : List Kind} (g : Good ks) : Tg 60 76000 (kindsD ks) := by
  have nm : ∀ {x : Str} {n : Nat}, (x = numS ∨ x ∈ kNames ks) → Tg n 92 (.str x) := fun {x n} h => by
    rcases h with rfl | h
    · exact .str (by decide +kernel) (by decide)
    · obtain ⟨k, hk, rfl⟩ := List.mem_map.mp h
      exact tg_name (g.kn k hk)
  have bg : ∀ k ∈ ks, ∀ b ∈ k.2, Tg 2 874 (boughD b) := fun k hk b hb => by
    have h1 : Tg 1 765 (.tup (b.2.map D.str)) := (Tgs.mapN (N := 8) (fun x hx => nm (n := 0) (g.fl k hk b hb x hx)) (g.s3 k hk b hb)).tup
    exact (Tgs.cons (tg_name (g.bn k hk b hb)) (Tgs.cons h1 (Tgs.nil (m := 0)))).tup
  have kd : ∀ k ∈ ks, Tg 4 7130 (kindD k) := fun k hk => by
    have h1 : Tg 3 7021 (.tup (k.2.map boughD)) := (Tgs.mapN (N := 8) (bg k hk) (g.s2 k hk)).tup
    exact (Tgs.cons (tg_name (g.kn k hk)) (Tgs.cons h1 (Tgs.nil (m := 0)))).tup
  exact (Tgs.mapN (N := 6) kd g.s1).tup.mono (by decide) (by decide)
theorem lcD_none {g : DGT} {tc : DB} {te : DT} {ρ : DEnv} {Q : List D → Prop} : ∀ {l : List D}, (∀ a ∈ l, ∀ (R : D → Prop) (S : Prop), S → g a ρ fun ρ2 => tc ρ2 fun b => if b = true then te ρ2 R else S) → Q [] → lcD g tc te ρ l Q
  | [], _, q => q
  | a :: l, h, q => h a (by simp) _ _ (lcD_none (l := l) (fun b hb => h b (List.mem_cons_of_mem _ hb)) q)
def spLaw (K : PySem.W.Frag) : Sp := fun vs H Q _ => ∃ (a : Addr) (ns : List Int), vs = [.ref a] ∧ SqL K H a (ns.map V.int) ∧ ns.length ≤ 63 ∧ ∀ H', Q (.bl true) H'
section
variable {P : Program} {w : World} {K : PySem.W.Frag} {C a l : Addr} {mg : Str → Option Value} {base : Heap} {W : Wd} {k : Nat} {f : Addr} {fd : FuncData}
theorem ok_lawH (T : TxtH K C mg) (Fn : Fun K "law" "law" s_law f fd)
    {fK : Addr} {fdK : FuncData} (GK : GnOk P w K mg base CX0 1 fK fdK ["_law_script"] (spDeck K)) (mK : mg "_law_deck" = some (.ref fK)) (kK : PySem.W.keepIn K (.ref fK) = true) (bK : Binds K fdK ["_law_script"] [])
    (Cdraw : ∀ p l, Cal P w K mg base CX0 (DeckW p l) 1 "_law_draw" ["_law_deck_here", "_law_most"] (spDraw p))
    (Cany : ∀ p l, Cal P w K mg base CX0 (DeckW p l) 4 "_law_any_kinds" ["_law_deck_here"] (spKinds p))
    (CBook : ∀ W, CalC P w K mg base CX0 W 5 "Book" C ["self", "kinds"] (spBook C))
    (Cinfo : ∀ W, Cal P w K mg base CX0 W 1 "_law_info" ["_law_kinds_here"] spInfo)
    (Csizes : ∀ W, Cal P w K mg base CX0 W 1 "_law_sizes" ["_law_info_here"] spSizes)
    (Cworth : ∀ p l, Cal P w K mg base CX0 (DeckW p l) 100 "_law_worth" ["_law_deck_here", "_law_info_here", "_law_sizes_here", "_law_kind", "_law_most"] (spWorthS p 41))
    (Cspoilt : ∀ p l, Cal P w K mg base CX0 (DeckW p l) 100 "_law_spoilt" ["_law_deck_here", "_law_thing"] (spSpoilt p 50))
    (Cright : ∀ W, Cal P w K mg base CX0 W 180 "_law_right" ["_law_book", "_law_info_here", "_law_kind", "_law_thing"] (spRightW C 60))
    (Cis : ∀ W, Cal P w K mg base CX0 W 180 "is_worth" ["book", "kind", "thing"] (spIsWorth C 60))
    (Cthings : ∀ W, Cal P w K mg base CX0 W 1 "_law_things" ["_law_info_here"] spThings)
    (Cfar : ∀ p l, Cal P w K mg base CX0 (DeckW p l) 190 "_law_far_right" ["_law_deck_here"] (spFar p)) : GnOk P w K mg base CX0 200 f fd ["_law_script"] (spLaw K) := by
  refine Fn.gn sc_law (fun vs H Q E h => ?_) fun cdv A outer s H vs Q E hr h => ?_
  · obtain ⟨a, ns, rfl, _⟩ := h
    rfl
  have hu := hr.units
  have hu2 : (A.deeper (envOfC "law" (defScope s_law) s.heap.objs.size f cdv)).units + 66 < cLine := by have := hr.room.un; omega
  obtain ⟨a, ns, rfl, hS, h63, q⟩ := h
  refine ⟨_, PSs.nox (pss_cons (ps_set (i := 1) sc_law.nd rfl (.inr rfl) (gn_call GK (hr.mono (by omega)) rfl mK kK bK .nil pass0 (pa_cons (pv 0) pa_nil) (by decide) rfl rfl)) (pss_any (F := fun i : Addr × Addr × Hp × Hp => ⟨DeckW i.1 i.2.1, i.2.2.1, i.2.2.2⟩) (fun i => by
    have C__law_draw := Cdraw i.1 i.2.1
    have C__law_any_kinds := Cany i.1 i.2.1
    have C_Book := CBook (DeckW i.1 i.2.1)
    have C__law_info := Cinfo (DeckW i.1 i.2.1)
    have C__law_sizes := Csizes (DeckW i.1 i.2.1)
    have C__law_worth := Cworth i.1 i.2.1
    have C__law_spoilt := Cspoilt i.1 i.2.1
    have C__law_right := Cright (DeckW i.1 i.2.1)
    have C_is_worth := Cis (DeckW i.1 i.2.1)
    have C__law_things := Cthings (DeckW i.1 i.2.1)
    have C__law_far_right := Cfar i.1 i.2.1
    exact (dss_cons (by first | exact (ds_setLc (i := 2) (own := [("_law_turn", 4)]) rfl sc_law.nd rfl rfl (sw_true rfl rfl rfl (by decide +kernel)) (di_range1 T.b_range (da_cons de_int da_nil)) (blkOk_by (own := [("_law_turn", 4)]) (N := ["_law_script", "_law_deck_here", "_law_ways", "_law_k", "_law_turn", "_law_twice", "_law_kinds_here", "_law_book", "_law_info_here", "_law_sizes_here", "_law_goods", "_law_kind", "_law_most", "_law_good", "_law_bent", "_law_thing", "_law_few"]) (sc := defScope s_law) (by decide +kernel)) (fun _ _ _ _ _ => (dg_name 4 sc_law.nd)) (fun _ _ _ _ _ => dif_nil) (fun _ _ _ _ _ => (de_lc (own := [("_law_k", 3)]) rfl sc_law.nd (di_range1 T.b_range (da_cons de_int da_nil)) (blkOk_nest (own := [("_law_k", 3)]) (N := ["_law_script", "_law_deck_here", "_law_ways", "_law_k", "_law_turn", "_law_twice", "_law_kinds_here", "_law_book", "_law_info_here", "_law_sizes_here", "_law_goods", "_law_kind", "_law_most", "_law_good", "_law_bent", "_law_thing", "_law_few"]) (defScope s_law) rfl (by decide +kernel)) (fun _ _ _ _ _ => (dg_name 3 sc_law.nd)) (fun _ _ _ _ _ => dif_nil) (fun _ _ _ _ _ => (de_c (.eq hu) (de_fn C__law_draw (hr.mono (by omega)) pass0 lets0 (da_cons (de_name 1) (da_cons de_int da_nil))) de_int))))) | exact (ds_set 2 (de_lc (own := [("_law_turn", 4)]) rfl sc_law.nd (di_range1 T.b_range (da_cons de_int da_nil)) (blkOk_by (own := [("_law_turn", 4)]) (N := ["_law_script", "_law_deck_here", "_law_ways", "_law_k", "_law_turn", "_law_twice", "_law_kinds_here", "_law_book", "_law_info_here", "_law_sizes_here", "_law_goods", "_law_kind", "_law_most", "_law_good", "_law_bent", "_law_thing", "_law_few"]) (sc := defScope s_law) (by decide +kernel)) (fun _ _ _ _ _ => (dg_name 4 sc_law.nd)) (fun _ _ _ _ _ => dif_nil) (fun _ _ _ _ _ => (de_lc (own := [("_law_k", 3)]) rfl sc_law.nd (di_range1 T.b_range (da_cons de_int da_nil)) (blkOk_nest (own := [("_law_k", 3)]) (N := ["_law_script", "_law_deck_here", "_law_ways", "_law_k", "_law_turn", "_law_twice", "_law_kinds_here", "_law_book", "_law_info_here", "_law_sizes_here", "_law_goods", "_law_kind", "_law_most", "_law_good", "_law_bent", "_law_thing", "_law_few"]) (defScope s_law) rfl (by decide +kernel)) (fun _ _ _ _ _ => (dg_name 3 sc_law.nd)) (fun _ _ _ _ _ => dif_nil) (fun _ _ _ _ _ => (de_c (.eq hu) (de_fn C__law_draw (hr.mono (by omega)) pass0 lets0 (da_cons (de_name 1) (da_cons de_int da_nil))) de_int))))) sc_law.nd))
  (dss_cons (ds_for PassesOwn.never rfl (di_seq (de_name 2)) (dg_name 5 sc_law.nd)
  (dss_cons (ds_set 6 (de_fn C__law_any_kinds (hr.mono (by omega)) pass0 lets0 (da_cons (de_name 1) da_nil)) sc_law.nd)
  (dss_cons (by first | exact (ds_par (i := 7) (j := 8) rfl sc_law.nd rfl rfl (by decide) rfl rfl (da_cons (de_make C_Book (hr.mono (by omega)) pass0 lets0 (da_cons (de_name 6) da_nil)) (da_cons (de_fn C__law_info (hr.mono (by omega)) pass0 lets0 (da_cons (de_name 6) da_nil)) da_nil))) | exact (ds_asg (de_tup (da_cons (de_make C_Book (hr.mono (by omega)) pass0 lets0 (da_cons (de_name 6) da_nil)) (da_cons (de_fn C__law_info (hr.mono (by omega)) pass0 lets0 (da_cons (de_name 6) da_nil)) da_nil))) (dg_tup (n := 2) rfl (dgs_cons (dg_name 7 sc_law.nd) (dgs_cons (dg_name 8 sc_law.nd) dgs_nil)))))
  (dss_cons (ds_set 9 (de_fn C__law_sizes (hr.mono (by omega)) pass0 lets0 (da_cons (de_name 8) da_nil)) sc_law.nd)
  (dss_cons (ds_own 10 da_nil sc_law.nd)
  (dss_cons (ds_for PassesOwn.never rfl (di_seq (de_at hu (de_name 8) de_str)) (dg_name 11 sc_law.nd)
  (dss_cons (ds_set 12 (de_at hu (de_lst (da_cons (de_add de_int (de_fn C__law_draw (hr.mono (by omega)) pass0 lets0 (da_cons (de_name 1) (da_cons de_int da_nil)))) (da_cons de_int da_nil))) (de_intOf T.b_int (da_cons (de_c (.eq hu) (de_fn C__law_draw (hr.mono (by omega)) pass0 lets0 (da_cons (de_name 1) (da_cons de_int da_nil))) de_int) da_nil))) sc_law.nd)
  (dss_cons (ds_set 13 (de_fn C__law_worth (hr.mono (by omega)) pass0 lets0 (da_cons (de_name 1) (da_cons (de_name 8) (da_cons (de_name 9) (da_cons (de_name 11) (da_cons (de_name 12) da_nil)))))) sc_law.nd)
  (dss_cons (ds_append 10 (de_name 13))
  (dss_one (ds_for PassesOwn.never rfl (di_seq (de_name 5)) (dg_name 14 sc_law.nd)
  (dss_cons (ds_set 15 (de_fn C__law_spoilt (hr.mono (by omega)) pass0 lets0 (da_cons (de_name 1) (da_cons (de_name 13) da_nil))) sc_law.nd)
  (dss_cons (ds_set 15 (de_if (dt_val (de_name 14)) (de_fn C__law_spoilt (hr.mono (by omega)) pass0 lets0 (da_cons (de_name 1) (da_cons (de_name 15) da_nil))) (de_name 15)) sc_law.nd)
  (dss_one (ds_if (dt_wh (dw_or (dt_not (dt_val (de_fn C__law_right (hr.mono (by omega)) pass0 lets0 (da_cons (de_name 7) (da_cons (de_name 8) (da_cons (de_name 11) (da_cons (de_name 15) da_nil))))))) (dw_or1 (dt_notB (de_fn C_is_worth (hr.mono (by omega)) pass0 lets0 (da_cons (de_name 7) (da_cons (de_name 11) (da_cons (de_name 13) da_nil)))) de_bl))))
  (dss_one (ds_ret de_bl))
  dss_nil))))))))))
  (dss_freeze 10
  (dss_cons (ds_set 16 (de_fn C__law_things (hr.mono (by omega)) pass0 lets0 (da_cons (de_name 8) da_nil)) sc_law.nd)
  (dss_cons (ds_for PassesOwn.never rfl (di_seq (de_at hu (de_name 8) de_str)) (dg_name 11 sc_law.nd)
  (dss_one (ds_if (dt_c (.ne hu) (de_lc (own := [("_law_thing", 15)]) rfl sc_law.nd (di_seq (de_add (de_name 16) (de_name 10))) (blkOk_by (own := [("_law_thing", 15)]) (N := ["_law_script", "_law_deck_here", "_law_ways", "_law_k", "_law_turn", "_law_twice", "_law_kinds_here", "_law_book", "_law_info_here", "_law_sizes_here", "_law_goods", "_law_kind", "_law_most", "_law_good", "_law_bent", "_law_thing", "_law_few"]) (sc := defScope s_law) (by decide +kernel)) (fun _ _ _ _ _ => (dg_name 15 sc_law.nd)) (fun _ _ _ _ _ => (dif_one (dt_not (dt_val (de_fn C__law_right (hr.mono (by omega)) pass0 lets0 (da_cons (de_name 7) (da_cons (de_name 8) (da_cons (de_name 11) (da_cons (de_name 15) da_nil))))))))) (fun _ _ _ _ _ => (de_name 15))) (de_lst da_nil))
  (dss_one (ds_ret de_bl))
  dss_nil)))
  (dss_one (ds_if (dt_c (.ne hu) (de_reprF T.b_repr hr.gd hu (da_cons (de_fld T.cl_Book T.na_Book_kinds (de_name 7)) da_nil)) (de_reprF T.b_repr hr.gd hu (da_cons (de_name 6) da_nil)))
  (dss_one (ds_ret de_bl))
  dss_nil)))))))))))
  (dss_one (ds_ret (de_fn C__law_far_right (hr.mono (by omega)) pass0 lets0 (da_cons (de_name 1) da_nil))))))))), ?_⟩
  refine ⟨_, rfl, a, ns, rfl, hS, h63, fun p l H' sm np nl dk => ?_⟩
  refine ⟨(p, l, H', fun _ => none), fun _ => none, _, at_deck (σ := some (.ref a) :: some (.ref p) :: List.replicate 15 none) 1 dk rfl, ?_⟩
  generalize hZ : ends _ _ _ _ = Z
  have hq : Z.rt (.bl true) := by
    rw [← hZ]
    intro v I' H'' _ rv
    cases rv
    exact q _
  clear hZ
  simp only [getD_0, getD_s, set_0, set_s, boolD_bl, intD_int, startD, List.map, List.length_cons, List.length_nil, List.replicate, List.cons_append, List.nil_append, defEnds, wipeD, if_true, if_false, Bool.not_true, Bool.not_false, Bool.false_eq_true]
  refine ⟨3, rfl, by decide, by decide, by decide, ?_⟩
  refine lcD_any (β := List Bool) (fun bs => .lst (bs.map .bl)) (fun _ => True) (fun d _ R S hR => ?_) fun ways _ hw => ?_
  · simp only [if_true]
    refine ⟨8, rfl, by decide, by decide, by decide, ?_⟩
    refine lcD_any (β := Bool) .bl (fun _ => True) (fun d _ R S hR => ?_) fun bs _ hb => hR bs trivial
    simp only [if_true]
    refine ⟨_, rfl, 3, rfl, by decide, by decide, fun v v0 v1 => ?_⟩
    simp only [eqD_int]
    exact hR _ trivial
  · simp only [itemsD]
    refine forD_ind (fun (l : List D) ρ => (∃ ws : List (List Bool), l = ws.map fun bs => D.lst (bs.map .bl)) ∧ ∃ u2 u3 u4 u5 u6 u7 u8 u9 u10 u11 u12 u13 u14 u15 u16 : Option Ent, ρ = [none, some (.dat (.opq p)), u2, u3, u4, u5, u6, u7, u8, u9, u10, u11, u12, u13, u14, u15, u16]) (fun ρ ⟨_, u2, u3, u4, u5, u6, u7, u8, u9, u10, u11, u12, u13, u14, u15, u16, e⟩ => ?_) (fun d l0 ρ R ⟨⟨ws, hl⟩, u2, u3, u4, u5, u6, u7, u8, u9, u10, u11, u12, u13, u14, u15, u16, e⟩ hR => ?_) _ _ ⟨⟨ways, rfl⟩, _, _, _, _, _, _, _, _, _, _, _, _, _, _, _, rfl⟩
    · subst e
      exact ⟨_, rfl, rfl, hq⟩
    subst e
    cases ws with
    | nil => cases hl
    | cons tw ws =>
    rw [List.map_cons] at hl
    obtain ⟨rfl, rfl⟩ := List.cons.inj hl
    refine ⟨_, rfl, rfl, fun ks g => ?_⟩
    refine ⟨_, rfl, ks, rfl, g, _, rfl, ks, rfl, g, by decide, _, rfl, rfl, _, _, rfl, _, _, rfl, rfl, _, rfl, ks, rfl, g, fun kvs z => ⟨by decide, _, rfl, info_k ?_⟩⟩
    simp only [itemsD]
    refine forD_ind (fun (l : List D) ρ => ∃ (rest : List Kind) (gs : List D) (u11 u12 u13 u14 u15 u16 : Option Ent), l = rest.map (fun k => .str k.1) ∧ (∀ k ∈ rest, k ∈ ks) ∧ (∀ x ∈ gs, Tg 40 9600 x) ∧ gs.length + rest.length ≤ 6 ∧ ρ = [none, some (.dat (.opq p)), u2, u3, u4, some (.dat (.lst (tw.map .bl))), some (.dat (kindsD ks)), some (.dat (bookD C ks)), some (.dat (infoD ks)), some (.dat (.dic kvs)), some (.own gs), u11, u12, u13, u14, u15, u16]) (fun ρ ⟨rest, gs, u11, u12, u13, u14, u15, u16, el, hk, hg, hl6, e⟩ => ?_) (fun d l ρ R2 ⟨rest, gs, u11, u12, u13, u14, u15, u16, el, hk, hg, hl6, e⟩ hR2 => ?_) _ _ ⟨ks, [], _, _, _, _, _, _, rfl, fun k hk => hk, by simp, by have := g.s1; simpa using this, rfl⟩
    · subst e
      refine ⟨_, rfl, trivial, _, rfl, ks, rfl, g, fun few hf1 hf2 => ⟨_, rfl, info_k ?_⟩⟩
      simp only [itemsD]
      refine forD_ind (fun (l : List D) ρ => ∃ (rest : List Kind) (u11 u12 u13 u14 u15 : Option Ent), l = rest.map (fun k => .str k.1) ∧ (∀ k ∈ rest, k ∈ ks) ∧ ρ = [none, some (.dat (.opq p)), u2, u3, u4, some (.dat (.lst (tw.map .bl))), some (.dat (kindsD ks)), some (.dat (bookD C ks)), some (.dat (infoD ks)), some (.dat (.dic kvs)), some (.dat (.lst gs)), u11, u12, u13, u14, u15, some (.dat (.lst few))]) (fun ρ ⟨rest, u11, u12, u13, u14, u15, el, hk, e⟩ => ?_) (fun d l ρ R2 ⟨rest, u11, u12, u13, u14, u15, el, hk, e⟩ hR2 => ?_) _ _ ⟨ks, _, _, _, _, _, rfl, fun k hk => hk, rfl⟩
      · subst e
        have kt := kinds_tg g
        refine ⟨_, rfl, ⟨_, _, rfl, rfl, repr_any kt.g kt.wt (Nat.le_trans kt.dp (by decide)) ⟨_, rfl, repr_any kt.g kt.wt (Nat.le_trans kt.dp (by decide)) ?_⟩⟩⟩
        simp only [neD_str, decide_true, Bool.not_true, boolD_bl, Bool.false_eq_true, if_false]
        exact hR _ ⟨⟨ws, rfl⟩, _, _, _, _, _, _, _, _, _, _, _, _, _, _, _, rfl⟩
      · subst e
        cases rest with
        | nil => cases el
        | cons x rest =>
        rw [List.map_cons] at el
        obtain ⟨rfl, rfl⟩ := List.cons.inj el
        have hx := hk x (by simp)
        refine ⟨_, rfl, _, rfl, small_len (by omega), small_len (by rw [List.length_append]; omega), lcD_none (fun d hd R S hS => ?_) ⟨by decide, neD_lnil (k := 0) (by simp) (by decide) ?_⟩⟩
        · have ht : Tg 60 76000 d := by
            rcases List.mem_append.mp hd with h | h
            · exact (hf2 d h).mono (by decide) (by decide)
            · exact (hg d h).mono (by decide) (by decide)
          have hdp : dpD d < 60 := by
            rcases List.mem_append.mp hd with h | h
            · exact Nat.lt_of_le_of_lt (hf2 d h).dp (by decide)
            · exact Nat.lt_of_le_of_lt (hg d h).dp (by decide)
          refine ⟨_, rfl, _, rfl, _, rfl, _, rfl, ks, x, d, rfl, g, hx, ht, hdp, ?_⟩
          simp only [boolD_bl, Bool.not_true, Bool.false_eq_true, if_false]
          exact hS
        · simp only [List.isEmpty_nil, Bool.not_true, boolD_bl, Bool.false_eq_true, if_false]
          exact hR2 _ ⟨rest, _, _, _, _, _, rfl, fun k hk' => hk k (List.mem_cons_of_mem _ hk'), rfl⟩
    · subst e
      cases rest with
      | nil => cases el
      | cons x rest =>
      rw [List.map_cons] at el
      obtain ⟨rfl, rfl⟩ := List.cons.inj el
      have hx := hk x (by simp)
      have z29 := (z.all x hx).2
      refine ⟨_, rfl, 8, rfl, by decide, by decide, fun sv s0 s1 => ⟨by decide, _, rfl, 8, rfl, by decide, by decide, fun gr g0 g1 => ?_⟩⟩
      simp only [eqD_int]
      simp only [getD_0, getD_s, set_0, set_s, boolD_bl, intD_int, startD, List.map, List.length_cons, List.length_nil, List.replicate, List.cons_append, List.nil_append, defEnds, wipeD, if_true, if_false, Bool.not_true, Bool.not_false, Bool.false_eq_true]
      have pick : ∀ b : Bool, ∃ most : Nat, atI [D.int (2 + sv), D.int 40] (if b = true then 1 else 0) = some (.int (most : Int)) ∧ most ≤ 40 := fun b => by
        cases b with
        | true => exact ⟨40, rfl, by decide⟩
        | false => exact ⟨(2 + sv).toNat, by rw [Int.toNat_of_nonneg (by omega)]; rfl, by omega⟩
      obtain ⟨most, hm1, hm2⟩ := pick (decide (gr = 5))
      refine ⟨_, hm1, ks, kvs, x, most, rfl, g, z, hx, by omega, by omega, by omega, fun s d hw hs => ?_⟩
      have t : Tg 40 9600 d := (Wor.tg g hx hw).mono (by omega) (by omega)
      have wd := wd_wt d
      have hwt := t.wt
      have hw1 := Wor.isW g hx hw
      refine ⟨gs, rfl, small_lt (by omega), ?_⟩
      refine forD_ind (fun (l : List D) ρ => (∃ bs : List Bool, l = bs.map .bl) ∧ ∃ u14 u15 : Option Ent, ρ = [none, some (.dat (.opq p)), u2, u3, u4, some (.dat (.lst (tw.map .bl))), some (.dat (kindsD ks)), some (.dat (bookD C ks)), some (.dat (infoD ks)), some (.dat (.dic kvs)), some (.own (gs ++ [d])), some (.dat (.str x.1)), some (.dat (.int most)), some (.dat d), u14, u15, u16]) (fun ρ ⟨_, u14, u15, e⟩ => ?_) (fun b l ρ R3 ⟨⟨bs, el⟩, u14, u15, e⟩ hR3 => ?_) _ _ ⟨⟨tw, rfl⟩, _, _, rfl⟩
      · subst e
        exact hR2 _ ⟨rest, _, _, _, _, _, _, _, rfl, fun k hk' => hk k (List.mem_cons_of_mem _ hk'), fun y hy => by
          rcases List.mem_append.mp hy with h | h
          · exact hg y h
          · rw [List.mem_singleton.mp h]; exact t, by rw [List.length_append, List.length_singleton]; rw [List.length_cons] at hl6; omega, rfl⟩
      · subst e
        cases bs with
        | nil => cases el
        | cons bb bs =>
        rw [List.map_cons] at el
        obtain ⟨rfl, rfl⟩ := List.cons.inj el
        refine ⟨_, rfl, _, rfl, 40, 9600, d, rfl, by decide, t, by decide, fun d1 t1 => ⟨_, rfl, ?_⟩⟩
        simp only [boolD_bl]
        cases bb with
        | false =>
          simp only [Bool.false_eq_true, if_false]
          refine ⟨_, rfl, _, rfl, _, rfl, _, rfl, _, rfl, ks, x, d1, rfl, g, hx, t1.mono (by decide) (by decide), Nat.lt_of_le_of_lt t1.dp (by decide), ?_⟩
          simp only [boolD_bl, Bool.not_true, Bool.false_eq_true, if_false]
          refine ⟨_, rfl, _, rfl, _, rfl, ks, x, d, rfl, g, hx, t.g, by omega, Nat.lt_of_le_of_lt t.dp (by decide), ?_⟩
          rw [hw1]
          refine ⟨_, _, rfl, rfl, ?_⟩
          simp only [decide_true, Dk.flip, Bool.not_true, boolD_bl, Bool.false_eq_true, if_false]
          exact hR3 _ ⟨⟨bs, rfl⟩, _, _, rfl⟩
        | true =>
          simp only [if_true]
          refine ⟨_, rfl, _, rfl, 41, 25200, d1, rfl, by decide, t1, by decide, fun d2 t2 => ?_⟩
          refine ⟨_, rfl, _, rfl, _, rfl, _, rfl, ks, x, d2, rfl, g, hx, t2.mono (by decide) (by decide), Nat.lt_of_le_of_lt t2.dp (by decide), ?_⟩
          simp only [boolD_bl, Bool.not_true, Bool.false_eq_true, if_false]
          refine ⟨_, rfl, _, rfl, _, rfl, ks, x, d, rfl, g, hx, t.g, by omega, Nat.lt_of_le_of_lt t.dp (by decide), ?_⟩
          rw [hw1]
          refine ⟨_, _, rfl, rfl, ?_⟩
          simp only [decide_true, Dk.flip, Bool.not_true, boolD_bl, Bool.false_eq_true, if_false]
          exact hR3 _ ⟨⟨bs, rfl⟩, _, _, rfl⟩
end
end KB

namespace KB
open PySem L2 Dk PySem.Spec PyProof.Rows
section
variable {P : Program} {w : World} {K : PySem.W.Frag} {C a l : Addr} {mg : Str → Option Value} {base : Heap} {W : Wd} {k : Nat} {f f' : Addr} {fd fd' : FuncData}
theorem all_is_worth (T : TxtH K C mg) (Fp : Fun K "is_part" "is_part" s_is_part f fd) (mp : mg "is_part" = some (.ref f)) (Fw : Fun K "is_worth" "is_worth" s_is_worth f' fd') (mw : mg "is_worth" = some (.ref f'))
    (Cwh : ∀ j, Cal P w K mg base CX0 W (j + 1) "is_whole" ["thing"] spWhole) (Cb : ∀ j, CalM P w K mg base CX0 W (j + 2) C "boughs" ["self", "kind"] (spBoughs C)) (Cf : ∀ j, CalM P w K mg base CX0 W (j + 2) C "fields_of" ["self", "bough"] (spFields C)) :
    ∀ n, GnOk P w K mg base CX0 (2 * n + 2) f' fd' ["book", "kind", "thing"] (spD W K (spIsWorth C n)) := by
  intro n
  induction n with
  | zero => exact Fw.okD sc_is_worth rfl fun cdv A outer s H I ds Q Ed E hr ⟨_, _, _, _, _, _, _, _, h, _⟩ => by omega
  | succ n ih =>
    have C1 := Cal.of Fw ih mw bd_is_worth
    have C2 := Cal.of Fp (ok_is_part T Fp (Cwh (2 * n + 1)) C1) mp bd_is_part
    exact ok_is_worth T Fw C2 (Cb (2 * n + 1)) (Cf (2 * n + 1))
theorem all_law_is_worth (T : TxtH K C mg) (Fw : Fun K "_law_is_worth" "_law_is_worth" s__law_is_worth f fd) (mw : mg "_law_is_worth" = some (.ref f)) : ∀ n, GnOk P w K mg base CX0 (n + 1) f fd ["_law_info_here", "_law_kind", "_law_thing"] (spD W K (spLawIsW n)) := by
  intro n
  induction n with
  | zero => exact Fw.okD sc__law_is_worth rfl fun cdv A outer s H I ds Q Ed E hr ⟨_, _, _, _, _, _, _, _, h, _⟩ => by omega
  | succ n ih => exact ok_law_is_worth T Fw (Cal.of Fw ih mw bd__law_is_worth)
theorem all_spoilt (T : TxtH K C mg) (Fw : Fun K "_law_spoilt" "_law_spoilt" s__law_spoilt f fd) (mw : mg "_law_spoilt" = some (.ref f)) (Cd : ∀ j, Cal P w K mg base CX0 (DeckW a l) (j + 1) "_law_draw" ["_law_deck_here", "_law_most"] (spDraw a)) (Co : ∀ j, Cal P w K mg base CX0 (DeckW a l) (j + 3) "_law_odd" ["_law_deck_here", "_law_thing"] (spOdd a)) : ∀ n, GnOk P w K mg base CX0 (n + 3) f fd ["_law_deck_here", "_law_thing"] (spD (DeckW a l) K (spSpoilt a n)) := by
  intro n
  induction n with
  | zero => exact Fw.okD sc__law_spoilt rfl fun cdv A outer s H I ds Q Ed E hr ⟨_, _, _, _, h, _⟩ => by omega
  | succ n ih => exact ok_law_spoilt T Fw (Cd (n + 2)) (Co n) (Cal.of Fw ih mw bd__law_spoilt)
theorem all_worthS (T : TxtB K C mg) (Fw : Fun K "_law_worth" "_law_worth" s__law_worth f fd) (mw : mg "_law_worth" = some (.ref f)) (Cd : ∀ j, Cal P w K mg base CX0 (DeckW a l) (j + 1) "_law_draw" ["_law_deck_here", "_law_most"] (spDraw a)) (Cp : ∀ j, Cal P w K mg base CX0 (DeckW a l) (j + 2) "_law_pick" ["_law_deck_here", "_law_some"] (spPick a)) (Cz : ∀ j, Cal P w K mg base CX0 (DeckW a l) (j + 2) "_law_bough_size" ["_law_info_here", "_law_sizes_here", "_law_bough"] spBsize) : ∀ n, GnOk P w K mg base CX0 (n + 2) f fd ["_law_deck_here", "_law_info_here", "_law_sizes_here", "_law_kind", "_law_most"] (spD (DeckW a l) K (spWorthS a n)) := by
  intro n
  induction n with
  | zero => exact Fw.okD sc__law_worth rfl fun cdv A outer s H I ds Q Ed E hr ⟨_, _, _, _, _, _, _, _, _, h, _⟩ => by omega
  | succ n ih => exact ok_worthS T Fw (Cd (n + 1)) (Cp n) (Cz n) (Cal.of Fw ih mw bd__law_worth)
theorem all_grown (T : TxtH K C mg) (Fw : Fun K "_law_grown" "_law_grown" s__law_grown f fd) (mw : mg "_law_grown" = some (.ref f)) (Cd : ∀ j, Cal P w K mg base CX0 (DeckW a l) (j + 1) "_law_draw" ["_law_deck_here", "_law_most"] (spDraw a)) : ∀ n, GnOk P w K mg base CX0 (n + 1) f fd ["_law_deck_here", "_law_boughs", "_law_deep"] (spD (DeckW a l) K (spGrown a n)) := by
  intro n
  induction n with
  | zero => exact Fw.okD sc__law_grown rfl fun cdv A outer s H I ds Q Ed E hr ⟨_, _, _, _, _, h, _⟩ => by omega
  | succ n ih => exact ok_law_grown T Fw (Cd n) (Cal.of Fw ih mw bd__law_grown)
theorem all_last (T : TxtH K C mg) (Fw : Fun K "_law_last" "_law_last" s__law_last f fd) (mw : mg "_law_last" = some (.ref f)) : ∀ n, GnOk P w K mg base CX0 (n + 1) f fd ["_law_worth_here", "_law_odd_here"] (spD W K (spLast n)) := by
  intro n
  induction n with
  | zero => exact Fw.okD sc__law_last rfl fun cdv A outer s H I ds Q Ed E hr ⟨_, _, _, _, h, _⟩ => by cases h
  | succ n ih => exact ok_law_last T Fw (Cal.of Fw ih mw bd__law_last)
end
theorem all_mk {l : PySem.W.OpenLaw} {w : World} {K : PySem.W.Frag} {h : Heap} {mg : Str → Option Value} {fa : Addr} (X : K.In h) (G : h.Ns mainGlobals mg) (hfa : mg "law" = some (.ref fa))
    {C_Book : Addr}
    {f1 : Addr} {od1 an1 : Option Addr} {sl1 : Array (Option Value)} {oc1 kV1 dc1 pm1 cd1 ct1 : Value}
    {f2 : Addr} {od2 an2 : Option Addr} {sl2 : Array (Option Value)} {oc2 kV2 dc2 pm2 cd2 ct2 : Value}
    {f3 : Addr} {od3 an3 : Option Addr} {sl3 : Array (Option Value)} {oc3 kV3 dc3 pm3 cd3 ct3 : Value}
    {f4 : Addr} {od4 an4 : Option Addr} {sl4 : Array (Option Value)} {oc4 kV4 dc4 pm4 cd4 ct4 : Value}
    {f5 : Addr} {od5 an5 : Option Addr} {sl5 : Array (Option Value)} {oc5 kV5 dc5 pm5 cd5 ct5 : Value}
    {f6 : Addr} {od6 an6 : Option Addr} {sl6 : Array (Option Value)} {oc6 kV6 dc6 pm6 cd6 ct6 : Value}
    {f7 : Addr} {od7 an7 : Option Addr} {sl7 : Array (Option Value)} {oc7 kV7 dc7 pm7 cd7 ct7 : Value}
    {f8 : Addr} {od8 an8 : Option Addr} {sl8 : Array (Option Value)} {oc8 kV8 dc8 pm8 cd8 ct8 : Value}
    {f9 : Addr} {od9 an9 : Option Addr} {sl9 : Array (Option Value)} {oc9 kV9 dc9 pm9 cd9 ct9 : Value}
    {f10 : Addr} {od10 an10 : Option Addr} {sl10 : Array (Option Value)} {oc10 kV10 dc10 pm10 cd10 ct10 : Value}
    {f11 : Addr} {od11 an11 : Option Addr} {sl11 : Array (Option Value)} {oc11 kV11 dc11 pm11 cd11 ct11 : Value}
    {f12 : Addr} {od12 an12 : Option Addr} {sl12 : Array (Option Value)} {oc12 kV12 dc12 pm12 cd12 ct12 : Value}
    {f13 : Addr} {od13 an13 : Option Addr} {sl13 : Array (Option Value)} {oc13 kV13 dc13 pm13 cd13 ct13 : Value}
    {f14 : Addr} {od14 an14 : Option Addr} {sl14 : Array (Option Value)} {oc14 kV14 dc14 pm14 cd14 ct14 : Value}
    {f15 : Addr} {od15 an15 : Option Addr} {sl15 : Array (Option Value)} {oc15 kV15 dc15 pm15 cd15 ct15 : Value}
    {f16 : Addr} {od16 an16 : Option Addr} {sl16 : Array (Option Value)} {oc16 kV16 dc16 pm16 cd16 ct16 : Value}
    {f17 : Addr} {od17 an17 : Option Addr} {sl17 : Array (Option Value)} {oc17 kV17 dc17 pm17 cd17 ct17 : Value}
    {f18 : Addr} {od18 an18 : Option Addr} {sl18 : Array (Option Value)} {oc18 kV18 dc18 pm18 cd18 ct18 : Value}
    {f19 : Addr} {od19 an19 : Option Addr} {sl19 : Array (Option Value)} {oc19 kV19 dc19 pm19 cd19 ct19 : Value}
    {f20 : Addr} {od20 an20 : Option Addr} {sl20 : Array (Option Value)} {oc20 kV20 dc20 pm20 cd20 ct20 : Value}
    {f21 : Addr} {od21 an21 : Option Addr} {sl21 : Array (Option Value)} {oc21 kV21 dc21 pm21 cd21 ct21 : Value}
    {f22 : Addr} {od22 an22 : Option Addr} {sl22 : Array (Option Value)} {oc22 kV22 dc22 pm22 cd22 ct22 : Value}
    {f23 : Addr} {od23 an23 : Option Addr} {sl23 : Array (Option Value)} {oc23 kV23 dc23 pm23 cd23 ct23 : Value}
    {f24 : Addr} {od24 an24 : Option Addr} {sl24 : Array (Option Value)} {oc24 kV24 dc24 pm24 cd24 ct24 : Value}
    {f25 : Addr} {od25 an25 : Option Addr} {sl25 : Array (Option Value)} {oc25 kV25 dc25 pm25 cd25 ct25 : Value}
    {f26 : Addr} {od26 an26 : Option Addr} {sl26 : Array (Option Value)} {oc26 kV26 dc26 pm26 cd26 ct26 : Value}
    {f27 : Addr} {od27 an27 : Option Addr} {sl27 : Array (Option Value)} {oc27 kV27 dc27 pm27 cd27 ct27 : Value}
    {f28 : Addr} {od28 an28 : Option Addr} {sl28 : Array (Option Value)} {oc28 kV28 dc28 pm28 cd28 ct28 : Value}
    {f29 : Addr} {od29 an29 : Option Addr} {sl29 : Array (Option Value)} {oc29 kV29 dc29 pm29 cd29 ct29 : Value}
    {f30 : Addr} {od30 an30 : Option Addr} {sl30 : Array (Option Value)} {oc30 kV30 dc30 pm30 cd30 ct30 : Value}
    {f31 : Addr} {od31 an31 : Option Addr} {sl31 : Array (Option Value)} {oc31 kV31 dc31 pm31 cd31 ct31 : Value}
    {f32 : Addr} {od32 an32 : Option Addr} {sl32 : Array (Option Value)} {oc32 kV32 dc32 pm32 cd32 ct32 : Value}
    {f33 : Addr} {od33 an33 : Option Addr} {sl33 : Array (Option Value)} {oc33 kV33 dc33 pm33 cd33 ct33 : Value}
    {t1 : Tok}
    {t2 : Tok}
    {t3 : Tok}
    (aCBook : PySem.W.nsIn K mainGlobals "Book" = some (some (.ref C_Book)))
    (a1 : PySem.W.nsIn K mainGlobals "is_name" = some (some (.ref f1))) (l1 : K.lookup f1 = some ⟨oc1, od1, .func (PySem.W.fnOf "is_name" "is_name" (defArgs s_is_name) (defBody s_is_name) (defScope s_is_name) .none kV1 dc1 pm1 an1 cd1 ct1), sl1⟩) (c1 : PySem.W.codeIn K cd1 "is_name" = true) (k1 : PySem.W.keepIn K (.ref f1) = true)
    (a2 : PySem.W.nsIn K mainGlobals "is_bough" = some (some (.ref f2))) (l2 : K.lookup f2 = some ⟨oc2, od2, .func (PySem.W.fnOf "is_bough" "is_bough" (defArgs s_is_bough) (defBody s_is_bough) (defScope s_is_bough) .none kV2 dc2 pm2 an2 cd2 ct2), sl2⟩) (c2 : PySem.W.codeIn K cd2 "is_bough" = true) (k2 : PySem.W.keepIn K (.ref f2) = true)
    (a3 : PySem.W.nsIn K mainGlobals "is_kind" = some (some (.ref f3))) (l3 : K.lookup f3 = some ⟨oc3, od3, .func (PySem.W.fnOf "is_kind" "is_kind" (defArgs s_is_kind) (defBody s_is_kind) (defScope s_is_kind) .none kV3 dc3 pm3 an3 cd3 ct3), sl3⟩) (c3 : PySem.W.codeIn K cd3 "is_kind" = true) (k3 : PySem.W.keepIn K (.ref f3) = true)
    (a4 : PySem.W.nsIn K mainGlobals "are_unlike" = some (some (.ref f4))) (l4 : K.lookup f4 = some ⟨oc4, od4, .func (PySem.W.fnOf "are_unlike" "are_unlike" (defArgs s_are_unlike) (defBody s_are_unlike) (defScope s_are_unlike) .none kV4 dc4 pm4 an4 cd4 ct4), sl4⟩) (c4 : PySem.W.codeIn K cd4 "are_unlike" = true) (k4 : PySem.W.keepIn K (.ref f4) = true)
    (a5 : PySem.W.nsIn K mainGlobals "is_kinds" = some (some (.ref f5))) (l5 : K.lookup f5 = some ⟨oc5, od5, .func (PySem.W.fnOf "is_kinds" "is_kinds" (defArgs s_is_kinds) (defBody s_is_kinds) (defScope s_is_kinds) .none kV5 dc5 pm5 an5 cd5 ct5), sl5⟩) (c5 : PySem.W.codeIn K cd5 "is_kinds" = true) (k5 : PySem.W.keepIn K (.ref f5) = true)
    (a6 : PySem.W.nsIn K mainGlobals "with_worths" = some (some (.ref f6))) (l6 : K.lookup f6 = some ⟨oc6, od6, .func (PySem.W.fnOf "with_worths" "with_worths" (defArgs s_with_worths) (defBody s_with_worths) (defScope s_with_worths) .none kV6 dc6 pm6 an6 cd6 ct6), sl6⟩) (c6 : PySem.W.codeIn K cd6 "with_worths" = true) (k6 : PySem.W.keepIn K (.ref f6) = true)
    (a7 : PySem.W.findIn K (.ref C_Book) "__init__" = some (some (.ref f7))) (l7 : K.lookup f7 = some ⟨oc7, od7, .func (PySem.W.fnOf "__init__" "Book.__init__" (defArgs s_Book___init__) (defBody s_Book___init__) (defScope s_Book___init__) .none kV7 dc7 pm7 an7 cd7 ct7), sl7⟩) (c7 : PySem.W.codeIn K cd7 "Book.__init__" = true) (k7 : PySem.W.keepIn K (.ref f7) = true)
    (i7 : PySem.W.isFn K (.ref f7) = true)
    (a8 : PySem.W.findIn K (.ref C_Book) "boughs" = some (some (.ref f8))) (l8 : K.lookup f8 = some ⟨oc8, od8, .func (PySem.W.fnOf "boughs" "Book.boughs" (defArgs s_Book_boughs) (defBody s_Book_boughs) (defScope s_Book_boughs) .none kV8 dc8 pm8 an8 cd8 ct8), sl8⟩) (c8 : PySem.W.codeIn K cd8 "Book.boughs" = true) (k8 : PySem.W.keepIn K (.ref f8) = true)
    (i8 : PySem.W.isFn K (.ref f8) = true)
    (a9 : PySem.W.findIn K (.ref C_Book) "must_have" = some (some (.ref f9))) (l9 : K.lookup f9 = some ⟨oc9, od9, .func (PySem.W.fnOf "must_have" "Book.must_have" (defArgs s_Book_must_have) (defBody s_Book_must_have) (defScope s_Book_must_have) .none kV9 dc9 pm9 an9 cd9 ct9), sl9⟩) (c9 : PySem.W.codeIn K cd9 "Book.must_have" = true) (k9 : PySem.W.keepIn K (.ref f9) = true)
    (i9 : PySem.W.isFn K (.ref f9) = true)
    (a10 : PySem.W.findIn K (.ref C_Book) "fields_of" = some (some (.ref f10))) (l10 : K.lookup f10 = some ⟨oc10, od10, .func (PySem.W.fnOf "fields_of" "Book.fields_of" (defArgs s_Book_fields_of) (defBody s_Book_fields_of) (defScope s_Book_fields_of) .none kV10 dc10 pm10 an10 cd10 ct10), sl10⟩) (c10 : PySem.W.codeIn K cd10 "Book.fields_of" = true) (k10 : PySem.W.keepIn K (.ref f10) = true)
    (i10 : PySem.W.isFn K (.ref f10) = true)
    (a11 : PySem.W.nsIn K mainGlobals "_law_deck" = some (some (.ref f11))) (l11 : K.lookup f11 = some ⟨oc11, od11, .func (PySem.W.fnOf "_law_deck" "_law_deck" (defArgs s__law_deck) (defBody s__law_deck) (defScope s__law_deck) .none kV11 dc11 pm11 an11 cd11 ct11), sl11⟩) (c11 : PySem.W.codeIn K cd11 "_law_deck" = true) (k11 : PySem.W.keepIn K (.ref f11) = true)
    (a12 : PySem.W.nsIn K mainGlobals "_law_draw" = some (some (.ref f12))) (l12 : K.lookup f12 = some ⟨oc12, od12, .func (PySem.W.fnOf "_law_draw" "_law_draw" (defArgs s__law_draw) (defBody s__law_draw) (defScope s__law_draw) .none kV12 dc12 pm12 an12 cd12 ct12), sl12⟩) (c12 : PySem.W.codeIn K cd12 "_law_draw" = true) (k12 : PySem.W.keepIn K (.ref f12) = true)
    (a13 : PySem.W.nsIn K mainGlobals "_law_pick" = some (some (.ref f13))) (l13 : K.lookup f13 = some ⟨oc13, od13, .func (PySem.W.fnOf "_law_pick" "_law_pick" (defArgs s__law_pick) (defBody s__law_pick) (defScope s__law_pick) .none kV13 dc13 pm13 an13 cd13 ct13), sl13⟩) (c13 : PySem.W.codeIn K cd13 "_law_pick" = true) (k13 : PySem.W.keepIn K (.ref f13) = true)
    (a14 : PySem.W.nsIn K mainGlobals "_law_names" = some (some (.ref f14))) (l14 : K.lookup f14 = some ⟨oc14, od14, .func (PySem.W.fnOf "_law_names" "_law_names" (defArgs s__law_names) (defBody s__law_names) (defScope s__law_names) .none kV14 dc14 pm14 an14 cd14 ct14), sl14⟩) (c14 : PySem.W.codeIn K cd14 "_law_names" = true) (k14 : PySem.W.keepIn K (.ref f14) = true)
    (a15 : PySem.W.nsIn K mainGlobals "_law_kinds" = some (some (.ref f15))) (l15 : K.lookup f15 = some ⟨oc15, od15, .func (PySem.W.fnOf "_law_kinds" "_law_kinds" (defArgs s__law_kinds) (defBody s__law_kinds) (defScope s__law_kinds) .none kV15 dc15 pm15 an15 cd15 ct15), sl15⟩) (c15 : PySem.W.codeIn K cd15 "_law_kinds" = true) (k15 : PySem.W.keepIn K (.ref f15) = true)
    (a16 : PySem.W.nsIn K mainGlobals "_law_info" = some (some (.ref f16))) (l16 : K.lookup f16 = some ⟨oc16, od16, .func (PySem.W.fnOf "_law_info" "_law_info" (defArgs s__law_info) (defBody s__law_info) (defScope s__law_info) .none kV16 dc16 pm16 an16 cd16 ct16), sl16⟩) (c16 : PySem.W.codeIn K cd16 "_law_info" = true) (k16 : PySem.W.keepIn K (.ref f16) = true)
    (a17 : PySem.W.nsIn K mainGlobals "_law_sizes" = some (some (.ref f17))) (l17 : K.lookup f17 = some ⟨oc17, od17, .func (PySem.W.fnOf "_law_sizes" "_law_sizes" (defArgs s__law_sizes) (defBody s__law_sizes) (defScope s__law_sizes) .none kV17 dc17 pm17 an17 cd17 ct17), sl17⟩) (c17 : PySem.W.codeIn K cd17 "_law_sizes" = true) (k17 : PySem.W.keepIn K (.ref f17) = true)
    (a18 : PySem.W.nsIn K mainGlobals "_law_bough_size" = some (some (.ref f18))) (l18 : K.lookup f18 = some ⟨oc18, od18, .func (PySem.W.fnOf "_law_bough_size" "_law_bough_size" (defArgs s__law_bough_size) (defBody s__law_bough_size) (defScope s__law_bough_size) .none kV18 dc18 pm18 an18 cd18 ct18), sl18⟩) (c18 : PySem.W.codeIn K cd18 "_law_bough_size" = true) (k18 : PySem.W.keepIn K (.ref f18) = true)
    (a19 : PySem.W.nsIn K mainGlobals "_law_worth" = some (some (.ref f19))) (l19 : K.lookup f19 = some ⟨oc19, od19, .func (PySem.W.fnOf "_law_worth" "_law_worth" (defArgs s__law_worth) (defBody s__law_worth) (defScope s__law_worth) .none kV19 dc19 pm19 an19 cd19 ct19), sl19⟩) (c19 : PySem.W.codeIn K cd19 "_law_worth" = true) (k19 : PySem.W.keepIn K (.ref f19) = true)
    (a20 : PySem.W.nsIn K mainGlobals "_law_great_kinds" = some (some (.ref f20))) (l20 : K.lookup f20 = some ⟨oc20, od20, .func (PySem.W.fnOf "_law_great_kinds" "_law_great_kinds" (defArgs s__law_great_kinds) (defBody s__law_great_kinds) (defScope s__law_great_kinds) .none kV20 dc20 pm20 an20 cd20 ct20), sl20⟩) (c20 : PySem.W.codeIn K cd20 "_law_great_kinds" = true) (k20 : PySem.W.keepIn K (.ref f20) = true)
    (a21 : PySem.W.nsIn K mainGlobals "_law_any_kinds" = some (some (.ref f21))) (l21 : K.lookup f21 = some ⟨oc21, od21, .func (PySem.W.fnOf "_law_any_kinds" "_law_any_kinds" (defArgs s__law_any_kinds) (defBody s__law_any_kinds) (defScope s__law_any_kinds) .none kV21 dc21 pm21 an21 cd21 ct21), sl21⟩) (c21 : PySem.W.codeIn K cd21 "_law_any_kinds" = true) (k21 : PySem.W.keepIn K (.ref f21) = true)
    (a22 : PySem.W.nsIn K mainGlobals "is_whole" = some (some (.ref f22))) (l22 : K.lookup f22 = some ⟨oc22, od22, .func (PySem.W.fnOf "is_whole" "is_whole" (defArgs s_is_whole) (defBody s_is_whole) (defScope s_is_whole) .none kV22 dc22 pm22 an22 cd22 ct22), sl22⟩) (c22 : PySem.W.codeIn K cd22 "is_whole" = true) (k22 : PySem.W.keepIn K (.ref f22) = true)
    (a23 : PySem.W.nsIn K mainGlobals "is_part" = some (some (.ref f23))) (l23 : K.lookup f23 = some ⟨oc23, od23, .func (PySem.W.fnOf "is_part" "is_part" (defArgs s_is_part) (defBody s_is_part) (defScope s_is_part) .none kV23 dc23 pm23 an23 cd23 ct23), sl23⟩) (c23 : PySem.W.codeIn K cd23 "is_part" = true) (k23 : PySem.W.keepIn K (.ref f23) = true)
    (a24 : PySem.W.nsIn K mainGlobals "is_worth" = some (some (.ref f24))) (l24 : K.lookup f24 = some ⟨oc24, od24, .func (PySem.W.fnOf "is_worth" "is_worth" (defArgs s_is_worth) (defBody s_is_worth) (defScope s_is_worth) .none kV24 dc24 pm24 an24 cd24 ct24), sl24⟩) (c24 : PySem.W.codeIn K cd24 "is_worth" = true) (k24 : PySem.W.keepIn K (.ref f24) = true)
    (a25 : PySem.W.nsIn K mainGlobals "_law_is_worth" = some (some (.ref f25))) (l25 : K.lookup f25 = some ⟨oc25, od25, .func (PySem.W.fnOf "_law_is_worth" "_law_is_worth" (defArgs s__law_is_worth) (defBody s__law_is_worth) (defScope s__law_is_worth) .none kV25 dc25 pm25 an25 cd25 ct25), sl25⟩) (c25 : PySem.W.codeIn K cd25 "_law_is_worth" = true) (k25 : PySem.W.keepIn K (.ref f25) = true)
    (a26 : PySem.W.nsIn K mainGlobals "_law_odd" = some (some (.ref f26))) (l26 : K.lookup f26 = some ⟨oc26, od26, .func (PySem.W.fnOf "_law_odd" "_law_odd" (defArgs s__law_odd) (defBody s__law_odd) (defScope s__law_odd) .none kV26 dc26 pm26 an26 cd26 ct26), sl26⟩) (c26 : PySem.W.codeIn K cd26 "_law_odd" = true) (k26 : PySem.W.keepIn K (.ref f26) = true)
    (a27 : PySem.W.nsIn K mainGlobals "_law_spoilt" = some (some (.ref f27))) (l27 : K.lookup f27 = some ⟨oc27, od27, .func (PySem.W.fnOf "_law_spoilt" "_law_spoilt" (defArgs s__law_spoilt) (defBody s__law_spoilt) (defScope s__law_spoilt) .none kV27 dc27 pm27 an27 cd27 ct27), sl27⟩) (c27 : PySem.W.codeIn K cd27 "_law_spoilt" = true) (k27 : PySem.W.keepIn K (.ref f27) = true)
    (a28 : PySem.W.nsIn K mainGlobals "_law_things" = some (some (.ref f28))) (l28 : K.lookup f28 = some ⟨oc28, od28, .func (PySem.W.fnOf "_law_things" "_law_things" (defArgs s__law_things) (defBody s__law_things) (defScope s__law_things) .none kV28 dc28 pm28 an28 cd28 ct28), sl28⟩) (c28 : PySem.W.codeIn K cd28 "_law_things" = true) (k28 : PySem.W.keepIn K (.ref f28) = true)
    (a29 : PySem.W.nsIn K mainGlobals "_law_right" = some (some (.ref f29))) (l29 : K.lookup f29 = some ⟨oc29, od29, .func (PySem.W.fnOf "_law_right" "_law_right" (defArgs s__law_right) (defBody s__law_right) (defScope s__law_right) .none kV29 dc29 pm29 an29 cd29 ct29), sl29⟩) (c29 : PySem.W.codeIn K cd29 "_law_right" = true) (k29 : PySem.W.keepIn K (.ref f29) = true)
    (a30 : PySem.W.nsIn K mainGlobals "_law_grown" = some (some (.ref f30))) (l30 : K.lookup f30 = some ⟨oc30, od30, .func (PySem.W.fnOf "_law_grown" "_law_grown" (defArgs s__law_grown) (defBody s__law_grown) (defScope s__law_grown) .none kV30 dc30 pm30 an30 cd30 ct30), sl30⟩) (c30 : PySem.W.codeIn K cd30 "_law_grown" = true) (k30 : PySem.W.keepIn K (.ref f30) = true)
    (a31 : PySem.W.nsIn K mainGlobals "_law_last" = some (some (.ref f31))) (l31 : K.lookup f31 = some ⟨oc31, od31, .func (PySem.W.fnOf "_law_last" "_law_last" (defArgs s__law_last) (defBody s__law_last) (defScope s__law_last) .none kV31 dc31 pm31 an31 cd31 ct31), sl31⟩) (c31 : PySem.W.codeIn K cd31 "_law_last" = true) (k31 : PySem.W.keepIn K (.ref f31) = true)
    (a32 : PySem.W.nsIn K mainGlobals "_law_far_right" = some (some (.ref f32))) (l32 : K.lookup f32 = some ⟨oc32, od32, .func (PySem.W.fnOf "_law_far_right" "_law_far_right" (defArgs s__law_far_right) (defBody s__law_far_right) (defScope s__law_far_right) .none kV32 dc32 pm32 an32 cd32 ct32), sl32⟩) (c32 : PySem.W.codeIn K cd32 "_law_far_right" = true) (k32 : PySem.W.keepIn K (.ref f32) = true)
    (a33 : PySem.W.nsIn K mainGlobals "law" = some (some (.ref f33))) (l33 : K.lookup f33 = some ⟨oc33, od33, .func (PySem.W.fnOf "law" "law" (defArgs s_law) (defBody s_law) (defScope s_law) .none kV33 dc33 pm33 an33 cd33 ct33), sl33⟩) (c33 : PySem.W.codeIn K cd33 "law" = true) (k33 : PySem.W.keepIn K (.ref f33) = true)
    (g1 : PySem.W.nsIn K mainGlobals "LETTERS" = some (some (.str "abcdefghijklmnopqrstuvwxyz" t1)))
    (g2 : PySem.W.nsIn K mainGlobals "LONGEST" = some (some (.int (8) t2)))
    (g3 : PySem.W.nsIn K mainGlobals "NUM" = some (some (.str "num" t3)))
    (z1 : PySem.W.nsIn K mainGlobals "isinstance" = some none)
    (z2 : PySem.W.nsIn K mainGlobals "str" = some none)
    (z3 : PySem.W.nsIn K mainGlobals "tuple" = some none)
    (z4 : PySem.W.nsIn K mainGlobals "len" = some none)
    (z5 : PySem.W.nsIn K mainGlobals "all" = some none)
    (z6 : PySem.W.nsIn K mainGlobals "any" = some none)
    (z7 : PySem.W.nsIn K mainGlobals "range" = some none)
    (z8 : PySem.W.nsIn K mainGlobals "sum" = some none)
    (z9 : PySem.W.nsIn K mainGlobals "min" = some none)
    (z10 : PySem.W.nsIn K mainGlobals "max" = some none)
    (z11 : PySem.W.nsIn K mainGlobals "int" = some none)
    (z12 : PySem.W.nsIn K mainGlobals "repr" = some none)
    (z13 : PySem.W.nsIn K mainGlobals "list" = some none)
    (z14 : PySem.W.nsIn K mainGlobals "sorted" = some none)
    (z15 : PySem.W.nsIn K mainGlobals "zip" = some none)
    (pgBook : PySem.W.plainGet K C_Book Str.empty = true) (hdBook : PySem.W.hasDictIn K C_Book = true) (poBook : PySem.W.plainOver K C_Book = true) (saBook : PySem.W.findIn K (.ref C_Book) "__setattr__" = some (some (.builtin "object.__setattr__"))) (mkBook : PySem.W.makesIn K C_Book = true) (kcBook : PySem.W.keepIn K (.ref C_Book) = true)
    (nBookkinds : PySem.W.findIn K (.ref C_Book) "kinds" = some none)
    (nBooknames_by : PySem.W.findIn K (.ref C_Book) "names_by" = some none)
    (nBookkinds_by : PySem.W.findIn K (.ref C_Book) "kinds_by" = some none)
    (nBookfields_by : PySem.W.findIn K (.ref C_Book) "fields_by" = some none)
    (q1 : PySem.W.nsIn K mainGlobals "bool" = some none) :
    ∃ fd : FuncData, (∀ (s : Shared) (v : Value), BindsTo s fd ⟨[v], []⟩ [("_law_script", v)]) ∧ ∀ base : Heap, K.In base → base.Ns mainGlobals mg → GnOk l.prog w K mg base CX0 200 fa fd ["_law_script"] (spLaw K) := by
  have F_is_name := fun_mk (st := s_is_name) l1 c1 k1
  have m_is_name := PySem.W.mg_of X G a1
  have F_is_bough := fun_mk (st := s_is_bough) l2 c2 k2
  have m_is_bough := PySem.W.mg_of X G a2
  have F_is_kind := fun_mk (st := s_is_kind) l3 c3 k3
  have m_is_kind := PySem.W.mg_of X G a3
  have F_are_unlike := fun_mk (st := s_are_unlike) l4 c4 k4
  have m_are_unlike := PySem.W.mg_of X G a4
  have F_is_kinds := fun_mk (st := s_is_kinds) l5 c5 k5
  have m_is_kinds := PySem.W.mg_of X G a5
  have F_with_worths := fun_mk (st := s_with_worths) l6 c6 k6
  have m_with_worths := PySem.W.mg_of X G a6
  have F_Book___init__ := fun_mk (st := s_Book___init__) l7 c7 k7
  have M_Book___init__ : Meth K C_Book "__init__" f7 := ⟨a7, i7, k7⟩
  have F_Book_boughs := fun_mk (st := s_Book_boughs) l8 c8 k8
  have M_Book_boughs : Meth K C_Book "boughs" f8 := ⟨a8, i8, k8⟩
  have F_Book_must_have := fun_mk (st := s_Book_must_have) l9 c9 k9
  have M_Book_must_have : Meth K C_Book "must_have" f9 := ⟨a9, i9, k9⟩
  have F_Book_fields_of := fun_mk (st := s_Book_fields_of) l10 c10 k10
  have M_Book_fields_of : Meth K C_Book "fields_of" f10 := ⟨a10, i10, k10⟩
  have F__law_deck := fun_mk (st := s__law_deck) l11 c11 k11
  have m__law_deck := PySem.W.mg_of X G a11
  have F__law_draw := fun_mk (st := s__law_draw) l12 c12 k12
  have m__law_draw := PySem.W.mg_of X G a12
  have F__law_pick := fun_mk (st := s__law_pick) l13 c13 k13
  have m__law_pick := PySem.W.mg_of X G a13
  have F__law_names := fun_mk (st := s__law_names) l14 c14 k14
  have m__law_names := PySem.W.mg_of X G a14
  have F__law_kinds := fun_mk (st := s__law_kinds) l15 c15 k15
  have m__law_kinds := PySem.W.mg_of X G a15
  have F__law_info := fun_mk (st := s__law_info) l16 c16 k16
  have m__law_info := PySem.W.mg_of X G a16
  have F__law_sizes := fun_mk (st := s__law_sizes) l17 c17 k17
  have m__law_sizes := PySem.W.mg_of X G a17
  have F__law_bough_size := fun_mk (st := s__law_bough_size) l18 c18 k18
  have m__law_bough_size := PySem.W.mg_of X G a18
  have F__law_worth := fun_mk (st := s__law_worth) l19 c19 k19
  have m__law_worth := PySem.W.mg_of X G a19
  have F__law_great_kinds := fun_mk (st := s__law_great_kinds) l20 c20 k20
  have m__law_great_kinds := PySem.W.mg_of X G a20
  have F__law_any_kinds := fun_mk (st := s__law_any_kinds) l21 c21 k21
  have m__law_any_kinds := PySem.W.mg_of X G a21
  have F_is_whole := fun_mk (st := s_is_whole) l22 c22 k22
  have m_is_whole := PySem.W.mg_of X G a22
  have F_is_part := fun_mk (st := s_is_part) l23 c23 k23
  have m_is_part := PySem.W.mg_of X G a23
  have F_is_worth := fun_mk (st := s_is_worth) l24 c24 k24
  have m_is_worth := PySem.W.mg_of X G a24
  have F__law_is_worth := fun_mk (st := s__law_is_worth) l25 c25 k25
  have m__law_is_worth := PySem.W.mg_of X G a25
  have F__law_odd := fun_mk (st := s__law_odd) l26 c26 k26
  have m__law_odd := PySem.W.mg_of X G a26
  have F__law_spoilt := fun_mk (st := s__law_spoilt) l27 c27 k27
  have m__law_spoilt := PySem.W.mg_of X G a27
  have F__law_things := fun_mk (st := s__law_things) l28 c28 k28
  have m__law_things := PySem.W.mg_of X G a28
  have F__law_right := fun_mk (st := s__law_right) l29 c29 k29
  have m__law_right := PySem.W.mg_of X G a29
  have F__law_grown := fun_mk (st := s__law_grown) l30 c30 k30
  have m__law_grown := PySem.W.mg_of X G a30
  have F__law_last := fun_mk (st := s__law_last) l31 c31 k31
  have m__law_last := PySem.W.mg_of X G a31
  have F__law_far_right := fun_mk (st := s__law_far_right) l32 c32 k32
  have m__law_far_right := PySem.W.mg_of X G a32
  have F_law := fun_mk (st := s_law) l33 c33 k33
  have m_law := PySem.W.mg_of X G a33
  have cl_Book : Cls K C_Book := ⟨pgBook, hdBook, poBook, saBook⟩
  have mC_Book := PySem.W.mg_of X G aCBook
  have Mk_Book : Mk K C_Book f7 := ⟨mkBook, a7, i7, kcBook⟩
  have b_bool := PySem.W.mg_none_of X G q1
  have T : TxtB K C_Book mg := ⟨⟨t1, PySem.W.mg_of X G g1⟩, ⟨t2, PySem.W.mg_of X G g2⟩, ⟨t3, PySem.W.mg_of X G g3⟩, PySem.W.mg_none_of X G z1, PySem.W.mg_none_of X G z2, PySem.W.mg_none_of X G z3, PySem.W.mg_none_of X G z4, PySem.W.mg_none_of X G z5, PySem.W.mg_none_of X G z6, PySem.W.mg_none_of X G z7, PySem.W.mg_none_of X G z8, PySem.W.mg_none_of X G z9, PySem.W.mg_none_of X G z10, PySem.W.mg_none_of X G z11, PySem.W.mg_none_of X G z12, PySem.W.mg_none_of X G z13, PySem.W.mg_none_of X G z14, PySem.W.mg_none_of X G z15, cl_Book, nBookkinds, nBooknames_by, nBookkinds_by, nBookfields_by⟩
  have TH : TxtH K C_Book mg := ⟨T, b_bool⟩
  have e := hfa.symm.trans m_law
  cases e
  refine ⟨PySem.W.fnOf "law" "law" (defArgs s_law) (defBody s_law) (defScope s_law) .none kV33 dc33 pm33 an33 cd33 ct33, fun s v => .of_eq rfl, fun base _ _ => ?_⟩
  have Cname : ∀ k W, Cal l.prog w K mg base CX0 W (k + 1) "is_name" ["thing"] spIsName := fun k W => Cal.of F_is_name (ok_is_name T F_is_name) m_is_name bd_is_name
  have Cbough : ∀ m W, Cal l.prog w K mg base CX0 W (m + 1 + 1) "is_bough" ["thing"] spIsBough := fun m W => Cal.of F_is_bough (ok_is_bough T F_is_bough (Cname m W)) m_is_bough bd_is_bough
  have Ckind : ∀ m W, Cal l.prog w K mg base CX0 W (m + 1 + 1 + 1) "is_kind" ["thing"] spIsKind := fun m W => Cal.of F_is_kind (ok_is_kind T F_is_kind (Cname (m + 1) W) (Cbough m W)) m_is_kind bd_is_kind
  have Cunl : ∀ m W, Cal l.prog w K mg base CX0 W (m + 1) "are_unlike" ["names"] spUnlike := fun m W => Cal.of F_are_unlike (ok_are_unlike T F_are_unlike) m_are_unlike bd_are_unlike
  have Ckinds : ∀ m W, Cal l.prog w K mg base CX0 W (m + 4) "is_kinds" ["thing"] spIsKinds := fun m W => Cal.of F_is_kinds (ok_is_kinds T F_is_kinds (Ckind m W) (Cunl (m + 2) W)) m_is_kinds bd_is_kinds
  have Cwith : ∀ m W, Cal l.prog w K mg base CX0 W (m + 1) "with_worths" ["kinds"] spWith := fun m W => Cal.of F_with_worths (ok_with_worths T F_with_worths) m_with_worths bd_with_worths
  have CBook : ∀ m W, CalC l.prog w K mg base CX0 W (m + 4 + 1) "Book" C_Book ["self", "kinds"] (spBook C_Book) := fun m W => ⟨_, _, Mk_Book, ok_init T F_Book___init__ (Ckinds m W) (Cwith (m + 3) W), mC_Book, F_Book___init__.binds bd_Book___init__, rfl⟩
  have Cboughs : ∀ W m, CalM l.prog w K mg base CX0 W (m + 2) C_Book "boughs" ["self", "kind"] (spBoughs C_Book) := fun W m => ⟨_, _, cl_Book, M_Book_boughs, ok_boughs T F_Book_boughs (k := m + 1), F_Book_boughs.binds bd_Book_boughs, rfl⟩
  have Cmust : ∀ W m, CalM l.prog w K mg base CX0 W (m + 1) C_Book "must_have" ["self", "bough"] (spMust C_Book) := fun W m => ⟨_, _, cl_Book, M_Book_must_have, ok_must T F_Book_must_have (k := m), F_Book_must_have.binds bd_Book_must_have, rfl⟩
  have Cfields : ∀ W m, CalM l.prog w K mg base CX0 W (m + 2) C_Book "fields_of" ["self", "bough"] (spFields C_Book) := fun W m => ⟨_, _, cl_Book, M_Book_fields_of, ok_fields_of T F_Book_fields_of (Cmust W m), F_Book_fields_of.binds bd_Book_fields_of, rfl⟩
  have Cdraw : ∀ p q k, Cal l.prog w K mg base CX0 (DeckW p q) (k + 1) "_law_draw" ["_law_deck_here", "_law_most"] (spDraw p) := fun p q k => Cal.of F__law_draw (ok_draw F__law_draw).gn m__law_draw bd__law_draw
  have Cpick : ∀ p q k, Cal l.prog w K mg base CX0 (DeckW p q) (k + 2) "_law_pick" ["_law_deck_here", "_law_some"] (spPick p) := fun p q k => Cal.of F__law_pick (ok_pick T F__law_pick (Cdraw p q k)) m__law_pick bd__law_pick
  have Cnames : ∀ p q k, CalO l.prog w K mg base (DeckW p q) (k + 2) "_law_names" ["_law_deck_here", "_law_many"] (spNames p) := fun p q k => CalO.of F__law_names (ok_names T F__law_names (Cdraw p q k)) m__law_names bd__law_names
  have Ckinds3 : ∀ p q, Cal l.prog w K mg base CX0 (DeckW p q) 3 "_law_kinds" ["_law_deck_here"] (spKinds p) := fun p q => Cal.of F__law_kinds (ok_kinds T F__law_kinds (Cdraw p q 1) (Cpick p q 0) (Cnames p q 0)) m__law_kinds bd__law_kinds
  have Cgreat : ∀ p q, Cal l.prog w K mg base CX0 (DeckW p q) 3 "_law_great_kinds" ["_law_deck_here"] (spKinds p) := fun p q => Cal.of F__law_great_kinds (ok_great T F__law_great_kinds (Cdraw p q 1) (Cpick p q 0) (Cnames p q 0)) m__law_great_kinds bd__law_great_kinds
  have Cany : ∀ p q, Cal l.prog w K mg base CX0 (DeckW p q) 4 "_law_any_kinds" ["_law_deck_here"] (spKinds p) := fun p q => Cal.of F__law_any_kinds (ok_any T F__law_any_kinds (Cdraw p q 2) (Ckinds3 p q) (Cgreat p q)) m__law_any_kinds bd__law_any_kinds
  have Cbsize : ∀ W k, Cal l.prog w K mg base CX0 W (k + 2) "_law_bough_size" ["_law_info_here", "_law_sizes_here", "_law_bough"] spBsize := fun W k => Cal.of F__law_bough_size (ok_bsize T F__law_bough_size (k := k + 1)) m__law_bough_size bd__law_bough_size
  have Cwhole : ∀ W k, Cal l.prog w K mg base CX0 W (k + 1) "is_whole" ["thing"] spWhole := fun W k => Cal.of F_is_whole (ok_is_whole TH F_is_whole (k := k)) m_is_whole bd_is_whole
  have Gis : ∀ W n, GnOk l.prog w K mg base CX0 (2 * n + 2) _ _ ["book", "kind", "thing"] (spD W K (spIsWorth C_Book n)) := fun W => all_is_worth TH F_is_part m_is_part F_is_worth m_is_worth (Cwhole W) (Cboughs W) (Cfields W)
  have Cis : ∀ W k, 122 ≤ k → Cal l.prog w K mg base CX0 W k "is_worth" ["book", "kind", "thing"] (spIsWorth C_Book 60) := fun W k hk => Cal.of F_is_worth ((Gis W 60).mono hk) m_is_worth bd_is_worth
  have Clis : ∀ W, Cal l.prog w K mg base CX0 W 179 "_law_is_worth" ["_law_info_here", "_law_kind", "_law_thing"] (spLawIsW 60) := fun W => Cal.of F__law_is_worth ((all_law_is_worth TH F__law_is_worth m__law_is_worth 60).mono (by decide)) m__law_is_worth bd__law_is_worth
  have Codd : ∀ p q k, Cal l.prog w K mg base CX0 (DeckW p q) (k + 3) "_law_odd" ["_law_deck_here", "_law_thing"] (spOdd p) := fun p q k => Cal.of F__law_odd (ok_law_odd TH F__law_odd (Cdraw p q (k + 1)) (Cpick p q k)) m__law_odd bd__law_odd
  exact ok_lawH TH F_law (ok_deck F__law_deck T.b_list T.b_sum T.b_len).gn m__law_deck F__law_deck.kp (F__law_deck.binds bd__law_deck) (fun p q => Cdraw p q 0) Cany (CBook 0)
    (fun W => Cal.of F__law_info (ok_info T F__law_info (k := 0)) m__law_info bd__law_info)
    (fun W => Cal.of F__law_sizes (ok_sizes T F__law_sizes (k := 0)) m__law_sizes bd__law_sizes)
    (fun p q => Cal.of F__law_worth ((all_worthS T F__law_worth m__law_worth (Cdraw p q) (Cpick p q) (Cbsize (DeckW p q)) 41).mono (by decide)) m__law_worth bd__law_worth)
    (fun p q => Cal.of F__law_spoilt ((all_spoilt TH F__law_spoilt m__law_spoilt (Cdraw p q) (Codd p q) 50).mono (by decide)) m__law_spoilt bd__law_spoilt)
    (fun W => Cal.of F__law_right (ok_law_rightW TH F__law_right (Cis W 179 (by decide)) (Clis W)) m__law_right bd__law_right)
    (fun W => Cis W 180 (by decide))
    (fun W => Cal.of F__law_things (ok_law_things TH F__law_things (k := 0)) m__law_things bd__law_things)
    (fun p q => Cal.of F__law_far_right (ok_law_far TH F__law_far_right (Cnames p q 186).cal (CBook 183 _)
      (Cal.of F__law_grown ((all_grown TH F__law_grown m__law_grown (Cdraw p q) 7).mono (by decide)) m__law_grown bd__law_grown)
      (Cal.of F__law_last ((all_last TH F__law_last m__law_last 8).mono (by decide)) m__law_last bd__law_last) (Cis _ 188 (by decide))) m__law_far_right bd__law_far_right)
end KB
open PySem PySem.W PyProof.Rows
set_option maxRecDepth 100000 in
set_option maxHeartbeats 0 in
theorem PySem.Challenge.cw_dressedkinds_k08_worths_of_anything_holds : PySem.Challenge.rw_dressedkinds_k08_worths_of_anything.Holds := by
  w_on; o_law; k_head; (case hw => w_witness2)
  k_fill
  refine Dk.walk_gn (l := PySem.Challenge.rw_dressedkinds_k08_worths_of_anything) (n := 63) (k := 200) (x := "_law_script") (sp := KB.spLaw) rfl (by decide) rfl ⟨rfl, by decide, by decide⟩ (fun w h Y => PySem.W.kIn_of Y) ?F fun K H a ns hl hS => ⟨a, ns, rfl, hS, hl, fun _ => rfl⟩
  case F =>
    intro w mg fa h KX G hmg
    refine' KB.all_mk KX G hmg ?aCBook ?a1 ?l1 ?c1 ?k1 ?a2 ?l2 ?c2 ?k2 ?a3 ?l3 ?c3 ?k3 ?a4 ?l4 ?c4 ?k4 ?a5 ?l5 ?c5 ?k5 ?a6 ?l6 ?c6 ?k6 ?a7 ?l7 ?c7 ?k7 ?i7 ?a8 ?l8 ?c8 ?k8 ?i8 ?a9 ?l9 ?c9 ?k9 ?i9 ?a10 ?l10 ?c10 ?k10 ?i10 ?a11 ?l11 ?c11 ?k11 ?a12 ?l12 ?c12 ?k12 ?a13 ?l13 ?c13 ?k13 ?a14 ?l14 ?c14 ?k14 ?a15 ?l15 ?c15 ?k15 ?a16 ?l16 ?c16 ?k16 ?a17 ?l17 ?c17 ?k17 ?a18 ?l18 ?c18 ?k18 ?a19 ?l19 ?c19 ?k19 ?a20 ?l20 ?c20 ?k20 ?a21 ?l21 ?c21 ?k21 ?a22 ?l22 ?c22 ?k22 ?a23 ?l23 ?c23 ?k23 ?a24 ?l24 ?c24 ?k24 ?a25 ?l25 ?c25 ?k25 ?a26 ?l26 ?c26 ?k26 ?a27 ?l27 ?c27 ?k27 ?a28 ?l28 ?c28 ?k28 ?a29 ?l29 ?c29 ?k29 ?a30 ?l30 ?c30 ?k30 ?a31 ?l31 ?c31 ?k31 ?a32 ?l32 ?c32 ?k32 ?a33 ?l33 ?c33 ?k33 ?g1 ?g2 ?g3 ?z1 ?z2 ?z3 ?z4 ?z5 ?z6 ?z7 ?z8 ?z9 ?z10 ?z11 ?z12 ?z13 ?z14 ?z15 ?pgBook ?hdBook ?poBook ?saBook ?mkBook ?kcBook ?nBookkinds ?nBooknames_by ?nBookkinds_by ?nBookfields_by ?q1
    (case aCBook => k_is)
    (case a1 => k_is)
    (case l1 => k_is)
    (case c1 => k_is)
    (case k1 => k_is)
    (case a2 => k_is)
    (case l2 => k_is)
    (case c2 => k_is)
    (case k2 => k_is)
    (case a3 => k_is)
    (case l3 => k_is)
    (case c3 => k_is)
    (case k3 => k_is)
    (case a4 => k_is)
    (case l4 => k_is)
    (case c4 => k_is)
    (case k4 => k_is)
    (case a5 => k_is)
    (case l5 => k_is)
    (case c5 => k_is)
    (case k5 => k_is)
    (case a6 => k_is)
    (case l6 => k_is)
    (case c6 => k_is)
    (case k6 => k_is)
    (case a7 => k_is)
    (case l7 => k_is)
    (case c7 => k_is)
    (case k7 => k_is)
    (case i7 => k_is)
    (case a8 => k_is)
    (case l8 => k_is)
    (case c8 => k_is)
    (case k8 => k_is)
    (case i8 => k_is)
    (case a9 => k_is)
    (case l9 => k_is)
    (case c9 => k_is)
    (case k9 => k_is)
    (case i9 => k_is)
    (case a10 => k_is)
    (case l10 => k_is)
    (case c10 => k_is)
    (case k10 => k_is)
    (case i10 => k_is)
    (case a11 => k_is)
    (case l11 => k_is)
    (case c11 => k_is)
    (case k11 => k_is)
    (case a12 => k_is)
    (case l12 => k_is)
    (case c12 => k_is)
    (case k12 => k_is)
    (case a13 => k_is)
    (case l13 => k_is)
    (case c13 => k_is)
    (case k13 => k_is)
    (case a14 => k_is)
    (case l14 => k_is)
    (case c14 => k_is)
    (case k14 => k_is)
    (case a15 => k_is)
    (case l15 => k_is)
    (case c15 => k_is)
    (case k15 => k_is)
    (case a16 => k_is)
    (case l16 => k_is)
    (case c16 => k_is)
    (case k16 => k_is)
    (case a17 => k_is)
    (case l17 => k_is)
    (case c17 => k_is)
    (case k17 => k_is)
    (case a18 => k_is)
    (case l18 => k_is)
    (case c18 => k_is)
    (case k18 => k_is)
    (case a19 => k_is)
    (case l19 => k_is)
    (case c19 => k_is)
    (case k19 => k_is)
    (case a20 => k_is)
    (case l20 => k_is)
    (case c20 => k_is)
    (case k20 => k_is)
    (case a21 => k_is)
    (case l21 => k_is)
    (case c21 => k_is)
    (case k21 => k_is)
    (case a22 => k_is)
    (case l22 => k_is)
    (case c22 => k_is)
    (case k22 => k_is)
    (case a23 => k_is)
    (case l23 => k_is)
    (case c23 => k_is)
    (case k23 => k_is)
    (case a24 => k_is)
    (case l24 => k_is)
    (case c24 => k_is)
    (case k24 => k_is)
    (case a25 => k_is)
    (case l25 => k_is)
    (case c25 => k_is)
    (case k25 => k_is)
    (case a26 => k_is)
    (case l26 => k_is)
    (case c26 => k_is)
    (case k26 => k_is)
    (case a27 => k_is)
    (case l27 => k_is)
    (case c27 => k_is)
    (case k27 => k_is)
    (case a28 => k_is)
    (case l28 => k_is)
    (case c28 => k_is)
    (case k28 => k_is)
    (case a29 => k_is)
    (case l29 => k_is)
    (case c29 => k_is)
    (case k29 => k_is)
    (case a30 => k_is)
    (case l30 => k_is)
    (case c30 => k_is)
    (case k30 => k_is)
    (case a31 => k_is)
    (case l31 => k_is)
    (case c31 => k_is)
    (case k31 => k_is)
    (case a32 => k_is)
    (case l32 => k_is)
    (case c32 => k_is)
    (case k32 => k_is)
    (case a33 => k_is)
    (case l33 => k_is)
    (case c33 => k_is)
    (case k33 => k_is)
    (case g1 => k_is)
    (case g2 => k_is)
    (case g3 => k_is)
    (case z1 => k_is)
    (case z2 => k_is)
    (case z3 => k_is)
    (case z4 => k_is)
    (case z5 => k_is)
    (case z6 => k_is)
    (case z7 => k_is)
    (case z8 => k_is)
    (case z9 => k_is)
    (case z10 => k_is)
    (case z11 => k_is)
    (case z12 => k_is)
    (case z13 => k_is)
    (case z14 => k_is)
    (case z15 => k_is)
    (case pgBook => k_is)
    (case hdBook => k_is)
    (case poBook => k_is)
    (case saBook => k_is)
    (case mkBook => k_is)
    (case kcBook => k_is)
    (case nBookkinds => k_is)
    (case nBooknames_by => k_is)
    (case nBookkinds_by => k_is)
    (case nBookfields_by => k_is)
    (case q1 => k_is)
