import PyProof.Rows.All
import Wide.All
import OpenK.AllK
import Wide.FinOn
import HandS.HeadHook1
import HandS.Head2
import HandS.Words
import HandS.WordsExc
import HandS.ForMost
import HandS.ForExc
import HandS.TupAny
import HandS.IsInst
import HandS.Flow
import HandS.Style
import HandS.DictComp
import HandS.Defaults
import HandS.StrMore
import HandS.FStr
import HandS.Zip
import HandS.Conv
import HandS.Wide
import HandS.ExcInit
import HandS.ExcValue
import HandS.RaiseMore
import HandS.WideMore
import KE.SortData
import HandS.MakeKwOnly
import KE.GoesSet
import HandS.SetKeys
import HandS.SetBool
import KE.KUnpackStar
import HandS.Deep
import HandS.Strs
import HandS.OwnEq
import HandS.Small
import PyProof.Rows.Range3
import PyProof.StrHeap
import HandS.TupMul
import KE.KExcInit
import KE.KExcIs
import HandS.ExcField
import HandS.TryMany
import HandS.ExcOwn
import HandS.ExcBuiltin
import PySem.Challenge.RW_dressedkinds_k06_refusals_made
import HandS.JoinGen
import HandS.Codes
import PyProof.StrLawsRepr
set_option Elab.async false
set_option linter.all false
set_option maxRecDepth 100000
set_option maxHeartbeats 4000000
set_option pp.maxSteps 40
namespace Dk
open PySem L2 PySem.Spec PyProof.Rows
/-- asked: facts as one Bool, defs -/
def askX (F : PySem.W.Frag → Bool) (fn : List He.FnD) (K : PySem.W.Frag) : Bool × List He.FnV := (F K && fn.all fun d => (He.Fa.code d.at_ d.qual).ok K, fn.map fun d => He.fnObs K d.at_)
def SaysX (F : PySem.W.Frag → Bool) (fn : List He.FnD) (K : PySem.W.Frag) : Prop := askX F fn K = (true, fn.map He.FnD.val)
def hookX (as : List Addr) (F : PySem.W.Frag → Bool) (fn : List He.FnD) : PySem.W.Hook where
  α := Bool × List He.FnV
  obs := fun s => askX F fn (He.frG s.heap.get? as)
  val := fun _ => (true, fn.map He.FnD.val)
  says := fun _ h => ∃ K : PySem.W.Frag, K.In h ∧ SaysX F fn K
  of := fun _ _ e => ⟨_, He.frG_in, e⟩
  keeps := fun _ _ _ ⟨K, hK, c⟩ k => ⟨K, PySem.W.Frag.In.keeps hK k, c⟩
def obX (as : List Addr) (F : PySem.W.Frag → Bool) (fn : List He.FnD) (s : PySem.W.SharedT) : Bool × List He.FnV := askX F fn (He.frG (HandSHeadRun.getT s) as)
theorem obX_eq {as : List Addr} {F : PySem.W.Frag → Bool} {fn : List He.FnD} (s : PySem.W.SharedT) : obX as F fn s = (hookX as F fn).obs s.abs := by
  have e : HandSHeadRun.getT s = s.abs.heap.get? := funext fun a => HandSHeadRun.getT_eq s a
  unfold obX
  rw [e] <;> rfl
end Dk
namespace Dk
open PySem L2
/-- plain data -/
inductive D where
  | non | bl (b : Bool) | int (i : Int) | str (x : Str)
  | tup (xs : List D) | lst (xs : List D) | dic (kvs : List (Key × D))
  | obj (C : Addr) (fs : List (Str × D)) | opq (a : Addr)
  /-- a dict that is locked: it may be walked -/
  | dfz (kvs : List (Key × D))
  /-- a tuple of which it is known that it bears no dict of attributes -/
  | ptp (xs : List D)
  /-- an object of an own exception class, its fields (none where the class has no __init__ of its own) -/
  | exc (C : Addr) (fs : Option (List (Str × D)))
mutual
/-- the value v is the datum d, by the objects that stand still -/
inductive Rep (K : PySem.W.Frag) (I : Hp) : V → D → Prop
  | non : Rep K I .non .non
  | bl (b : Bool) : Rep K I (.bl b) (.bl b)
  | int (i : Int) : Rep K I (.int i) (.int i)
  | str (x : Str) : Rep K I (.str x) (.str x)
  | tup {a : Addr} {vs : List V} {ds : List D} : SqT K I a vs → Reps K I vs ds → Rep K I (.ref a) (.tup ds)
  | lst {a : Addr} {vs : List V} {ds : List D} : I a = some (.lst vs) → Reps K I vs ds → Rep K I (.ref a) (.lst ds)
  | dic {a : Addr} {kvs : List (Key × V)} {ds : List (Key × D)} : I a = some (.dK kvs) → kvs.map (·.1) = ds.map (·.1) → Reps K I (kvs.map (·.2)) (ds.map (·.2)) → Rep K I (.ref a) (.dic ds)
  | obj {a C dx : Addr} {fs : List (Str × V)} {ds : List (Str × D)} : I a = some (.ins C dx fs) → fs.map (·.1) = ds.map (·.1) → Reps K I (fs.map (·.2)) (ds.map (·.2)) → Rep K I (.ref a) (.obj C ds)
  | opq (a : Addr) : Rep K I (.ref a) (.opq a)
  | dfz {a : Addr} {o : Obj} {kvs : List (Key × V)} {ds : List (Key × D)} : I a = some (.frz o (.dK kvs)) → kvs.map (·.1) = ds.map (·.1) → Reps K I (kvs.map (·.2)) (ds.map (·.2)) → Rep K I (.ref a) (.dfz ds)
  | ptp {a : Addr} {o : Obj} {vs : List V} {ds : List D} : I a = some (.frz o (.tup vs)) → o.dict = none → Reps K I vs ds → Rep K I (.ref a) (.ptp ds)
  | exc0 {a C : Addr} : I a = some (ExO (.ref C) a) → Rep K I (.ref a) (.exc C none)
  | exc1 {a C dx : Addr} {fs : List (Str × V)} {ds : List (Str × D)} : I a = some (exo a C (some dx)) → I dx = some (exd dx fs) → fs.map (·.1) = ds.map (·.1) → Reps K I (fs.map (·.2)) (ds.map (·.2)) → Rep K I (.ref a) (.exc C (some ds))
inductive Reps (K : PySem.W.Frag) (I : Hp) : List V → List D → Prop
  | nil : Reps K I [] []
  | cons {v : V} {vs : List V} {d : D} {ds : List D} : Rep K I v d → Reps K I vs ds → Reps K I (v :: vs) (d :: ds)
end
theorem Same.seqT {K : PySem.W.Frag} {H H' : Hp} {a : Addr} {xs : List V} (e : Same H H') (h : SqT K H a xs) : SqT K H' a xs := by
  rcases h with (h | ⟨o, h⟩) | h
  · exact .inl (.inl (e _ _ h))
  · exact .inl (.inr ⟨o, e _ _ h⟩)
  · exact .inr h
mutual
theorem Rep.mono {K : PySem.W.Frag} {I I' : Hp} (s : Same I I') : ∀ {v : V} {d : D}, Rep K I v d → Rep K I' v d
  | _, _, .non => .non
  | _, _, .bl b => .bl b
  | _, _, .int i => .int i
  | _, _, .str x => .str x
  | _, _, .tup h r => .tup (Same.seqT s h) (Reps.mono s r)
  | _, _, .lst h r => .lst (s _ _ h) (Reps.mono s r)
  | _, _, .dic h k r => .dic (s _ _ h) k (Reps.mono s r)
  | _, _, .obj h k r => .obj (s _ _ h) k (Reps.mono s r)
  | _, _, .opq a => .opq a
  | _, _, .dfz h k r => .dfz (s _ _ h) k (Reps.mono s r)
  | _, _, .ptp h k r => .ptp (s _ _ h) k (Reps.mono s r)
  | _, _, .exc0 h => .exc0 (s _ _ h)
  | _, _, .exc1 h h2 k r => .exc1 (s _ _ h) (s _ _ h2) k (Reps.mono s r)
theorem Reps.mono {K : PySem.W.Frag} {I I' : Hp} (s : Same I I') : ∀ {vs : List V} {ds : List D}, Reps K I vs ds → Reps K I' vs ds
  | _, _, .nil => .nil
  | _, _, .cons h r => .cons (Rep.mono s h) (Reps.mono s r)
end
section
variable {K : PySem.W.Frag} {I : Hp}
theorem Reps.length {vs : List V} {ds : List D} (h : Reps K I vs ds) : vs.length = ds.length := by
  induction vs generalizing ds with
  | nil => cases h; rfl
  | cons v vs ih => cases h with | cons a b => simp [ih b]
theorem Reps.get {vs : List V} {ds : List D} {i : Nat} {d : D} (h : Reps K I vs ds) (e : ds[i]? = some d) : ∃ v, vs[i]? = some v ∧ Rep K I v d := by
  induction vs generalizing ds i with
  | nil => cases h; simp at e
  | cons v vs ih =>
    cases h with
    | cons a b =>
      cases i with
      | zero => simp at e; subst e; exact ⟨v, rfl, a⟩
      | succ i => simp at e; obtain ⟨w, h1, h2⟩ := ih b e; exact ⟨w, by simpa using h1, h2⟩
theorem Reps.getV {vs : List V} {ds : List D} {i : Nat} {v : V} (h : Reps K I vs ds) (e : vs[i]? = some v) : ∃ d, ds[i]? = some d ∧ Rep K I v d := by
  induction vs generalizing ds i with
  | nil => simp at e
  | cons w vs ih =>
    cases h with
    | cons a b =>
      cases i with
      | zero => simp at e; subst e; exact ⟨_, rfl, a⟩
      | succ i => simp at e; obtain ⟨w, h1, h2⟩ := ih b e; exact ⟨w, by simpa using h1, h2⟩
theorem Reps.append {vs ws : List V} {ds es : List D} (h : Reps K I vs ds) (h' : Reps K I ws es) : Reps K I (vs ++ ws) (ds ++ es) := by
  induction vs generalizing ds with
  | nil => cases h; exact h'
  | cons v vs ih => cases h with | cons a b => exact .cons a (ih b)
theorem Reps.take {vs : List V} {ds : List D} (n : Nat) (h : Reps K I vs ds) : Reps K I (vs.take n) (ds.take n) := by
  induction vs generalizing ds n with
  | nil => cases h; simp; exact .nil
  | cons v vs ih =>
    cases h with
    | cons a b =>
      cases n with
      | zero => exact .nil
      | succ n => exact .cons a (ih n b)
theorem Reps.drop {vs : List V} {ds : List D} (n : Nat) (h : Reps K I vs ds) : Reps K I (vs.drop n) (ds.drop n) := by
  induction vs generalizing ds n with
  | nil => cases h; simp; exact .nil
  | cons v vs ih =>
    cases h with
    | cons a b =>
      cases n with
      | zero => exact .cons a b
      | succ n => exact ih n b
theorem Reps.reverse {vs : List V} {ds : List D} (h : Reps K I vs ds) : Reps K I vs.reverse ds.reverse := by
  induction vs generalizing ds with
  | nil => cases h; exact .nil
  | cons v vs ih => cases h with | cons a b => rw [List.reverse_cons, List.reverse_cons]; exact (ih b).append (.cons a .nil)
theorem Reps.set {vs : List V} {ds : List D} {v : V} {d : D} (i : Nat) (h : Reps K I vs ds) (r : Rep K I v d) : Reps K I (vs.set i v) (ds.set i d) := by
  induction vs generalizing ds i with
  | nil => cases h; exact .nil
  | cons w vs ih =>
    cases h with
    | cons a b =>
      cases i with
      | zero => exact .cons r b
      | succ i => exact .cons a (ih i b)
theorem Reps.cut {vs : List V} {ds : List D} (h : Reps K I vs ds) (lo hi : Option Int) : Reps K I (cutV vs lo hi) ((ds.drop (HT.sIx ds.length 0 lo)).take (HT.sIx ds.length ds.length hi - HT.sIx ds.length 0 lo)) := by
  unfold cutV
  rw [h.length]
  exact (h.drop _).take _
end
/-- code objects and the like stay -/
def SameX (I I' : Hp) : Prop := ∀ b φ, I b = some (.ext φ) → I' b = some (.ext φ)
theorem SameX.of {I I' : Hp} (h : ∀ b u, I b = some u → I' b = some u) : SameX I I' := fun b φ e => h b _ e
theorem SameX.refl (I : Hp) : SameX I I := fun _ _ e => e
structure Wd where
  mv : Addr → Prop
  inv : Hp → Hp → Prop
  frame : ∀ {I I' H H' : Hp}, SameX I I' → (∀ b, mv b → H' b = H b) → inv I H → inv I' H'
  live : ∀ {I H : Hp} {b : Addr}, inv I H → mv b → H b ≠ none
structure StI (W : Wd) (I H : Hp) : Prop where
  sub : Same I H
  imm : ∀ b o, I b = some o → ¬ W.mv b
  inv : W.inv I H
structure Stp (W : Wd) (I H I' H' : Hp) : Prop where
  i : Same I I'
  st : StI W I' H'
  h : ∀ b o, H b = some o → ¬ W.mv b → H' b = some o
  new : ∀ b o, H b = some o → I b = none → I' b = none
section
variable {W : Wd} {I H I' H' I'' H'' : Hp}
theorem StI.stp (s : StI W I H) : Stp W I H I H := ⟨Same.refl I, s, fun _ _ e _ => e, fun _ _ _ e => e⟩
theorem Stp.trans (a : Stp W I H I' H') (b : Stp W I' H' I'' H'') : Stp W I H I'' H'' := by
  refine ⟨Same.trans a.i b.i, b.st, fun c o e m => b.h c o (a.h c o e m) m, fun c o e n => ?_⟩
  by_cases m : W.mv c
  · cases q : I'' c with
    | none => rfl
    | some u => exact absurd m (b.st.imm c u q)
  · exact b.new c o (a.h c o e m) (a.new c o e n)
/-- a new object that stands still from now on -/
theorem StI.laid (s : StI W I H) {p : Addr} (hp : H p = none) (o : HO) : Stp W I H (upd I p o) (upd H p o) := by
  have np : ¬ W.mv p := fun m => s.inv |> fun i => W.live i m hp
  have ni : I p = none := by
    cases q : I p with
    | none => rfl
    | some u => rw [s.sub _ _ q] at hp; cases hp
  refine ⟨fun b u e => ?_, ⟨fun b u e => ?_, fun b u e => ?_, ?_⟩, fun b u e _ => ?_, fun b u e n => ?_⟩
  · rw [upd_ne (ne_of_none e ni)]; exact e
  · by_cases hb : b = p
    · subst hb; rw [upd_same] at e ⊢; exact e
    · rw [upd_ne hb] at e ⊢; exact s.sub _ _ e
  · by_cases hb : b = p
    · subst hb; exact np
    · rw [upd_ne hb] at e; exact s.imm _ _ e
  · exact W.frame (.of fun b u e => by rw [upd_ne (ne_of_none e ni)]; exact e) (fun b m => upd_ne fun z => np (z ▸ m)) s.inv
  · rw [upd_ne (ne_of_none e hp)]; exact e
  · rw [upd_ne (ne_of_none e hp)]; exact n
theorem StI.free (s : StI W I H) {p : Addr} (hp : H p = none) : I p = none := by
  cases q : I p with
  | none => rfl
  | some u => rw [s.sub _ _ q] at hp; cases hp
end
inductive Ent where
  | dat (d : D)
  /-- a list of our own, that may grow -/
  | own (ds : List D)
  /-- a dict of our own -/
  | ownD (kvs : List (Key × D))
  /-- an object of our own, as long as its attributes are set -/
  | ownO (q C : Addr) (fs : List (Str × D))
  /-- a dict of our own, at a known place -/
  | ownQ (q : Addr) (kvs : List (Key × D))
  /-- .. locked -/
  | ownF (q : Addr) (kvs : List (Key × D))
  /-- a list of our own, at a known place -/
  | ownL (q : Addr) (ds : List D)
  /-- a dict of our own at a known place, its keys tuples -/
  | ownT (q : Addr) (kvs : List (List Key × D))
/-- the place it must be at -/
def Ent.adr : Ent → Option Addr
  | .ownO q _ _ => some q
  | .ownQ q _ => some q
  | .ownF q _ => some q
  | .ownL q _ => some q
  | .ownT q _ => some q
  | _ => none
abbrev DEnv := List (Option Ent)
/-- a def's frame: the world, the heaps at its entry -/
structure Fx where
  W : Wd
  B : Hp
  I0 : Hp
def Ent.isOwn : Ent → Prop
  | .dat _ => False
  | _ => True
/-- what it is once it stands still -/
def Ent.toD : Ent → D
  | .dat d => d
  | .own ds => .lst ds
  | .ownD ds => .dic ds
  | .ownO _ C fs => .obj C fs
  | .ownQ _ ds => .dic ds
  | .ownF _ ds => .dfz ds
  | .ownL _ ds => .lst ds
  | .ownT q _ => .opq q
def OwnRep (K : PySem.W.Frag) (I : Hp) : Ent → HO → Prop
  | .dat _, _ => False
  | .own ds, o => ∃ vs, o = .lst vs ∧ Reps K I vs ds
  | .ownD ds, o => ∃ kvs, o = .dK kvs ∧ kvs.map (·.1) = ds.map (·.1) ∧ Reps K I (kvs.map (·.2)) (ds.map (·.2))
  | .ownO _ C fs, o => ∃ dx ws, o = .ins C dx ws ∧ ws.map (·.1) = fs.map (·.1) ∧ Reps K I (ws.map (·.2)) (fs.map (·.2))
  | .ownQ _ ds, o => ∃ kvs, o = .dK kvs ∧ kvs.map (·.1) = ds.map (·.1) ∧ Reps K I (kvs.map (·.2)) (ds.map (·.2))
  | .ownF _ ds, o => ∃ f kvs, o = .frz f (.dK kvs) ∧ kvs.map (·.1) = ds.map (·.1) ∧ Reps K I (kvs.map (·.2)) (ds.map (·.2))
  | .ownL _ ds, o => ∃ vs, o = .lst vs ∧ Reps K I vs ds
  | .ownT _ ds, o => ∃ kvs, o = .dT kvs ∧ kvs.map (·.1) = ds.map (·.1) ∧ Reps K I (kvs.map (·.2)) (ds.map (·.2))
theorem OwnRep.mono {K : PySem.W.Frag} {I I' : Hp} (s : Same I I') {e : Ent} {o : HO} (h : OwnRep K I e o) : OwnRep K I' e o := by
  cases e with
  | dat _ => exact h
  | own ds => obtain ⟨vs, q, r⟩ := h; exact ⟨vs, q, r.mono s⟩
  | ownD ds => obtain ⟨vs, q, k, r⟩ := h; exact ⟨vs, q, k, r.mono s⟩
  | ownO _ C fs => obtain ⟨dx, vs, q, k, r⟩ := h; exact ⟨dx, vs, q, k, r.mono s⟩
  | ownQ _ ds => obtain ⟨vs, q, k, r⟩ := h; exact ⟨vs, q, k, r.mono s⟩
  | ownF _ ds => obtain ⟨f, vs, q, k, r⟩ := h; exact ⟨f, vs, q, k, r.mono s⟩
  | ownL _ ds => obtain ⟨vs, q, r⟩ := h; exact ⟨vs, q, r.mono s⟩
  | ownT _ ds => obtain ⟨vs, q, k, r⟩ := h; exact ⟨vs, q, k, r.mono s⟩
theorem OwnRep.rep {K : PySem.W.Frag} {I : Hp} {e : Ent} {o : HO} {p : Addr} (h : OwnRep K I e o) (hp : I p = some o) (ha : ∀ q, e.adr = some q → p = q) : Rep K I (.ref p) e.toD := by
  cases e with
  | dat _ => exact h.elim
  | own ds => obtain ⟨vs, rfl, r⟩ := h; exact .lst hp r
  | ownD ds => obtain ⟨vs, rfl, k, r⟩ := h; exact .dic hp k r
  | ownO _ C fs => obtain ⟨dx, vs, rfl, k, r⟩ := h; exact .obj hp k r
  | ownQ _ ds => obtain ⟨vs, rfl, k, r⟩ := h; exact .dic hp k r
  | ownF _ ds => obtain ⟨f, vs, rfl, k, r⟩ := h; exact .dfz hp k r
  | ownL _ ds => obtain ⟨vs, rfl, r⟩ := h; exact .lst hp r
  | ownT q ds => rw [ha q rfl]; exact .opq q
theorem OwnRep.isOwn {K : PySem.W.Frag} {I : Hp} {e : Ent} {o : HO} (h : OwnRep K I e o) : e.isOwn := by
  cases e <;> first | exact h.elim | trivial
/-- e is held by v: nothing of it stands still -/
structure OwnAt (F : Fx) (K : PySem.W.Frag) (I H : Hp) (e : Ent) (p : Addr) (o : HO) : Prop where
  hp : H p = some o
  rep : OwnRep K I e o
  ni : I p = none
  nm : ¬ F.W.mv p
  nb : F.B p = none
  ad : ∀ q, e.adr = some q → p = q
def EntRep (F : Fx) (K : PySem.W.Frag) (I H : Hp) (e : Ent) (v : V) : Prop :=
  (∃ d, e = .dat d ∧ Rep K I v d) ∨ ∃ p o, v = .ref p ∧ OwnAt F K I H e p o
theorem EntRep.dat {F : Fx} {K : PySem.W.Frag} {I H : Hp} {d : D} {v : V} (h : EntRep F K I H (.dat d) v) : Rep K I v d := by
  rcases h with ⟨d', e, r⟩ | ⟨p, o, _, h⟩
  · cases e; exact r
  · exact h.rep.elim
theorem EntRep.own {F : Fx} {K : PySem.W.Frag} {I H : Hp} {e : Ent} {v : V} (h : EntRep F K I H e v) (o : e.isOwn) : ∃ p u, v = .ref p ∧ OwnAt F K I H e p u := by
  rcases h with ⟨d', rfl, r⟩ | h
  · exact o.elim
  · exact h
structure At (F : Fx) (K : PySem.W.Frag) (I : Hp) (ρ : DEnv) (σ : St) (H : Hp) : Prop where
  stp : Stp F.W F.I0 F.B I H
  len : ρ.length = σ.length
  env : ∀ (i : Nat) e, ρ[i]? = some (some e) → ∃ v, σ[i]? = some (some v) ∧ EntRep F K I H e v
  dis : ∀ (i j : Nat) e e' v, i ≠ j → ρ[i]? = some (some e) → ρ[j]? = some (some e') → e.isOwn → e'.isOwn → σ[i]? = some (some v) → σ[j]? ≠ some (some v)
section
variable {F : Fx} {K : PySem.W.Frag} {I H I' H' : Hp} {ρ : DEnv} {σ : St}
theorem At.st (a : At F K I ρ σ H) : StI F.W I H := a.stp.st
theorem OwnAt.step {e : Ent} {p : Addr} {o : HO} (h : OwnAt F K I H e p o) (s : Stp F.W I H I' H') : OwnAt F K I' H' e p o := ⟨s.h _ _ h.hp h.nm, h.rep.mono s.i, s.new _ _ h.hp h.ni, h.nm, h.nb, h.ad⟩
theorem EntRep.step {e : Ent} {v : V} (h : EntRep F K I H e v) (s : Stp F.W I H I' H') : EntRep F K I' H' e v := by
  rcases h with ⟨d, rfl, r⟩ | ⟨p, o, rfl, h⟩
  · exact .inl ⟨d, rfl, r.mono s.i⟩
  · exact .inr ⟨p, o, rfl, h.step s⟩
theorem At.step (a : At F K I ρ σ H) (s : Stp F.W I H I' H') : At F K I' ρ σ H' :=
  ⟨a.stp.trans s, a.len, fun i e h => let ⟨v, h1, h2⟩ := a.env i e h; ⟨v, h1, h2.step s⟩, a.dis⟩
end
abbrev DT := DEnv → (D → Prop) → Prop
abbrev DB := DEnv → (Bool → Prop) → Prop
def fin (F : Fx) (K : PySem.W.Frag) (I H : Hp) (Q : VK) : D → Prop := fun d => ∀ v I' H', Stp F.W I H I' H' → Rep K I' v d → Q v H'
def finB (F : Fx) (I H : Hp) (Q : Bool → Hp → Prop) : Bool → Prop := fun b => ∀ I' H', Stp F.W I H I' H' → Q b H'
def rdE (F : Fx) (K : PySem.W.Frag) (t : DT) : TE := fun σ H Q => ∃ I ρ, At F K I ρ σ H ∧ t ρ (fin F K I H Q)
def rdT (F : Fx) (K : PySem.W.Frag) (t : DB) : TT := fun σ H Q => ∃ I ρ, At F K I ρ σ H ∧ t ρ (finB F I H Q)
structure DE (F : Fx) (X : Cx) (e : Expr) (t : DT) : Prop where
  mono : ∀ ρ (Q Q' : D → Prop), (∀ d, Q d → Q' d) → t ρ Q → t ρ Q'
  run : PE X e (rdE F X.K t)
structure DTest (F : Fx) (X : Cx) (e : Expr) (t : DB) : Prop where
  mono : ∀ ρ (Q Q' : Bool → Prop), (∀ d, Q d → Q' d) → t ρ Q → t ρ Q'
  run : PT X e (rdT F X.K t)
section
variable {F : Fx} {X : Cx} {K : PySem.W.Frag} {I H : Hp} {ρ : DEnv} {σ : St}
/-- a reading passes on to what follows -/
theorem rdE_next {t : DT} (mono : ∀ ρ (Q Q' : D → Prop), (∀ d, Q d → Q' d) → t ρ Q → t ρ Q') (a : At F K I ρ σ H) {P : D → Prop} {R : V → Hp → Prop} (h : t ρ P)
    (k : ∀ d v I' H', P d → Stp F.W I H I' H' → Rep K I' v d → R v H') : rdE F K t σ H R :=
  ⟨I, ρ, a, mono ρ _ _ (fun d p v I' H' s r => k d v I' H' p s r) h⟩
theorem rdT_next {t : DB} (mono : ∀ ρ (Q Q' : Bool → Prop), (∀ d, Q d → Q' d) → t ρ Q → t ρ Q') (a : At F K I ρ σ H) {P : Bool → Prop} {R : Bool → Hp → Prop} (h : t ρ P)
    (k : ∀ d I' H', P d → Stp F.W I H I' H' → R d H') : rdT F K t σ H R :=
  ⟨I, ρ, a, mono ρ _ _ (fun d p I' H' s => k d I' H' p s) h⟩
/-- the reading of a PE may be strengthened -/
theorem _root_.L2.PE.imp {e : Expr} {t u : TE} (h : PE X e t) (i : ∀ σ H Q, u σ H Q → t σ H Q) : PE X e u := ⟨fun pins s σ H Q J q => h.run pins s σ H Q J (i σ H Q q)⟩
theorem _root_.L2.PT.imp {e : Expr} {t u : TT} (h : PT X e t) (i : ∀ σ H Q, u σ H Q → t σ H Q) : PT X e u := ⟨fun pins s σ H Q J q => h.run pins s σ H Q J (i σ H Q q)⟩
theorem _root_.L2.PS.imp {e : Stmt} {t u : TS} (h : PS X e t) (i : ∀ D σ H, u D σ H → t D σ H) : PS X e u := ⟨fun pins s σ H Q J q => h.run pins s σ H Q J (i Q σ H q)⟩
theorem _root_.L2.PSs.imp {e : List Stmt} {t u : TS} (h : PSs X e t) (i : ∀ D σ H, u D σ H → t D σ H) : PSs X e u := ⟨fun pins s σ H Q J q => h.run pins s σ H Q J (i Q σ H q)⟩
theorem _root_.L2.PA.imp {e : List Expr} {t u : TA} (h : PA X e t) (i : ∀ σ H Q, u σ H Q → t σ H Q) : PA X e u := ⟨fun pos pins s σ H Q J q => h.run pos pins s σ H Q J (i σ H Q q)⟩
end
def getD (ρ : DEnv) (i : Nat) (Q : D → Prop) : Prop := ∃ d, ρ[i]? = some (some (.dat d)) ∧ Q d
section
variable {F : Fx} {X : Cx}
theorem de_name (i : Nat) {x : Str} {pos : Pos} (hN : X.N[i]? = some x := by rfl) (hv : Vis X.env.scope x := by first | exact Or.inl rfl | exact Or.inr (Or.inl rfl) | exact Or.inr (Or.inr rfl)) (hd : (x == ("__debug__" : Str)) = false := by decide)
    (hcd : (x == ("__classdict__" : Str)) = false := by decide) : DE F X (.Name x pos) (fun ρ Q => getD ρ i Q) := by
  refine ⟨fun ρ Q Q' h ⟨d, e, q⟩ => ⟨d, e, h d q⟩, (pv i hN hv hd hcd).imp fun σ H Q ⟨I, ρ, a, d, e, q⟩ => ?_⟩
  obtain ⟨v, h1, h2⟩ := a.env i _ e
  exact ⟨v, h1, q v I H a.st.stp h2.dat⟩
theorem de_const {e : Expr} {v : V} {d : D} (h : PE X e (tC v)) (r : ∀ I, Rep X.K I v d) : DE F X e (fun _ Q => Q d) :=
  ⟨fun _ _ _ h q => h _ q, h.imp fun σ H Q ⟨I, ρ, a, q⟩ => q v I H a.st.stp (r I)⟩
theorem de_int {i : Int} {j : Nat} {pos : Pos} : DE F X (.Constant (.int i) j pos) (fun _ Q => Q (.int i)) := de_const pe_int fun _ => .int i
theorem de_bl {i : Bool} {j : Nat} {pos : Pos} : DE F X (.Constant (.bool i) j pos) (fun _ Q => Q (.bl i)) := de_const pe_bl fun _ => .bl i
theorem de_non {j : Nat} {pos : Pos} : DE F X (.Constant .none j pos) (fun _ Q => Q .non) := de_const pe_non fun _ => .non
theorem de_str {x : Str} {j : Nat} {pos : Pos} : DE F X (.Constant (.str x) j pos) (fun _ Q => Q (.str x)) := de_const pe_str fun _ => .str x
/-- a module's constant -/
theorem de_gstr {x : Str} {y : Str} {u : Value} {pos : Pos} (hg : Gl X x) (hm : X.mg x = some u) (r : RelV (.str y) u) (hd : (x == ("__debug__" : Str)) = false := by decide) : DE F X (.Name x pos) (fun _ Q => Q (.str y)) :=
  de_const (pe_glob hg hm r hd) fun _ => .str y
theorem de_gint {x : Str} {y : Int} {u : Value} {pos : Pos} (hg : Gl X x) (hm : X.mg x = some u) (r : RelV (.int y) u) (hd : (x == ("__debug__" : Str)) = false := by decide) : DE F X (.Name x pos) (fun _ Q => Q (.int y)) :=
  de_const (pe_glob hg hm r hd) fun _ => .int y
end
end Dk
namespace Dk
open PySem L2
mutual
def toPy : D → PyData
  | .bl b => .bool b
  | .int i => .int i
  | .str x => .str x
  | .tup xs => .tuple (toPys xs)
  | .lst xs => .list (toPys xs)
  | .non => .none
  | .dic _ => .none
  | .obj _ _ => .none
  | .opq _ => .none
  | .exc _ _ => .none
  | .ptp _ => .none
  | .dfz _ => .none
def toPys : List D → List PyData
  | [] => []
  | d :: ds => toPy d :: toPys ds
end
def keyD : Key → D
  | .inl i => .int i
  | .inr x => .str x
theorem keyD_rep {K : PySem.W.Frag} {I : Hp} {v : V} {k : Key} (r : Rep K I v (keyD k)) : v = kV k := by
  cases k <;> (cases r; rfl)
def lookD (kvs : List (Key × D)) (k : Key) : Option D := (kvs.find? fun kv => decide (kv.1 = k)).map (·.2)
theorem lookD_rep {K : PySem.W.Frag} {I : Hp} {k : Key} : ∀ {kvs : List (Key × V)} {ds : List (Key × D)}, kvs.map (·.1) = ds.map (·.1) → Reps K I (kvs.map (·.2)) (ds.map (·.2)) → (valV kvs k = none ∧ lookD ds k = none) ∨ ∃ v d, valV kvs k = some v ∧ lookD ds k = some d ∧ Rep K I v d
  | [], [], _, _ => .inl ⟨rfl, rfl⟩
  | [], _ :: _, h, _ => by simp at h
  | _ :: _, [], h, _ => by simp at h
  | (i, x) :: kvs, (j, y) :: ds, h, r => by
    simp only [List.map_cons, List.cons.injEq] at h
    obtain ⟨rfl, h⟩ := h
    cases r with
    | cons r1 r2 =>
      by_cases e : i = k
      · exact .inr ⟨x, y, by simp [valV, List.find?_cons, e], by simp [lookD, List.find?_cons, e], r1⟩
      · have e1 : valV ((i, x) :: kvs) k = valV kvs k := by simp [valV, List.find?_cons, e]
        have e2 : lookD ((i, y) :: ds) k = lookD ds k := by simp [lookD, List.find?_cons, e]
        rw [e1, e2]
        exact lookD_rep h r2
mutual
/-- nothing but none, truths, numbers, texts, tuples, lists -/
def plainD : D → Bool
  | .non | .bl _ | .int _ | .str _ => true
  | .tup xs => plainDs xs
  | .lst xs => plainDs xs
  | .dic _ => false
  | .obj _ _ => false
  | .opq _ => false
  | .exc _ _ => false
  | .ptp _ => false
  | .dfz _ => false
def plainDs : List D → Bool
  | [] => true
  | d :: ds => plainD d && plainDs ds
end
def deq (x y : D) : Bool := PyData.eqv (toPy x) (toPy y)
def okE (x : D) : Bool := plainD x && SeqAt.shaped (toPy x)
def scalD : D → Bool
  | .non | .bl _ | .int _ | .str _ => true
  | _ => false
mutual
theorem Rep.dp {K : PySem.W.Frag} {I H : Hp} (s : Same I H) : ∀ {d : D} {v : V}, plainD d = true → Rep K I v d → Dp K H v (toPy d)
  | .non, _, _, h => by cases h; exact .non
  | .bl b, _, _, h => by cases h; exact .bl b
  | .int i, _, _, h => by cases h; exact .int i
  | .str x, _, _, h => by cases h; exact .str x
  | .tup xs, _, p, h => by
    cases h with
    | tup a r => exact .tup (Same.seqT s a) (Reps.dp s (by unfold plainD at p; exact p) r)
  | .lst xs, _, p, h => by
    cases h with
    | lst a r => exact .lst (.of (s _ _ a)) (Reps.dp s (by unfold plainD at p; exact p) r)
  | .dic _, _, p, h => by unfold plainD at p; cases p
  | .obj _ _, _, p, h => by unfold plainD at p; cases p
  | .opq _, _, p, h => by unfold plainD at p; cases p
  | .exc _ _, _, p, h => by unfold plainD at p; cases p
  | .ptp _, _, p, h => by unfold plainD at p; cases p
  | .dfz _, _, p, h => by unfold plainD at p; cases p
theorem Reps.dp {K : PySem.W.Frag} {I H : Hp} (s : Same I H) : ∀ {ds : List D} {vs : List V}, plainDs ds = true → Reps K I vs ds → DpAll K H vs (toPys ds)
  | [], _, _, h => by cases h; exact .nil
  | d :: ds, _, p, h => by
    cases h with
    | cons a b =>
      unfold plainDs at p
      rw [Bool.and_eq_true] at p
      exact .cons (Rep.dp s p.1 a) (Reps.dp s p.2 b)
end
/-- a truth beside a number -/
def mixD : D → D → Bool
  | .bl _, .int _ => true
  | .int _, .bl _ => true
  | _, _ => false
theorem scal_of {K : PySem.W.Frag} {I : Hp} {v w : V} {d e : D} (h : Rep K I v d) (h' : Rep K I w e) (s : scalD d = true) (s' : scalD e = true) (m : mixD d e = false) : scal v w = true ∧ decide (v = w) = deq d e := by
  cases h with
  | tup _ _ => cases s
  | lst _ _ => cases s
  | dic _ _ _ => cases s
  | obj _ _ _ => cases s
  | opq _ => cases s
  | exc0 _ => cases s
  | exc1 _ _ _ _ => cases s
  | dfz _ _ _ => cases s
  | ptp _ _ _ => cases s
  | non => cases h' <;> first | (cases s'; done) | exact ⟨rfl, rfl⟩
  | bl b => cases h' <;> first | (cases s'; done) | (cases m; done) | exact ⟨rfl, dec_bl⟩ | exact ⟨rfl, rfl⟩
  | int b => cases h' <;> first | (cases s'; done) | (cases m; done) | exact ⟨rfl, dec_int⟩ | exact ⟨rfl, rfl⟩
  | str b => cases h' <;> first | (cases s'; done) | exact ⟨rfl, dec_str⟩ | exact ⟨rfl, rfl⟩
def LiftR (F : Fx) (K : PySem.W.Frag) (R : R2) (r : D → D → (D → Prop) → Prop) : Prop :=
  ∀ (x y : V) (dx dy : D) (I H : Hp) (Q : VK), StI F.W I H → Rep K I x dx → Rep K I y dy → r dx dy (fin F K I H Q) → R x y H Q
abbrev Mono2 (r : D → D → (D → Prop) → Prop) : Prop := ∀ x y (Q Q' : D → Prop), (∀ d, Q d → Q' d) → r x y Q → r x y Q'
abbrev MonoN (r : List D → (D → Prop) → Prop) : Prop := ∀ x (Q Q' : D → Prop), (∀ d, Q d → Q' d) → r x Q → r x Q'
section
variable {F : Fx} {X : Cx} {K : PySem.W.Frag} {I H I' H' : Hp} {Q : VK} {a b c : Expr} {ta tb tc : DT} {pos : Pos} {R : R2} {r : D → D → (D → Prop) → Prop}
theorem fin.of (q : fin F K I H Q d) (s : Stp F.W I H I' H') : fin F K I' H' Q d := fun v I2 H2 s2 rv => q v I2 H2 (s.trans s2) rv
theorem two_run (mr : Mono2 r) (l : LiftR F X.K R r) (ha : DE F X a ta) (hb : DE F X b tb) {σ : St} (h : rdE F X.K (fun ρ Q => ta ρ fun x => tb ρ fun y => r x y Q) σ H Q) : tOp R (rdE F X.K ta) (rdE F X.K tb) σ H Q := by
  obtain ⟨I, ρ, A, h⟩ := h
  refine rdE_next ha.mono A h fun d v I' H' p s rv => ?_
  refine rdE_next hb.mono (A.step s) p fun e u I2 H2 q s2 ru => ?_
  exact l v u d e I2 H2 Q s2.st (rv.mono s2.i) ru (mr _ _ _ _ (fun z hz => hz.of (s.trans s2)) q)
theorem two_mono (mr : Mono2 r) (ha : DE F X a ta) (hb : DE F X b tb) : ∀ ρ (Q Q' : D → Prop), (∀ d, Q d → Q' d) → (ta ρ fun x => tb ρ fun y => r x y Q) → (ta ρ fun x => tb ρ fun y => r x y Q') :=
  fun ρ Q Q' k h => ha.mono _ _ _ (fun d h => hb.mono _ _ _ (fun e h => mr _ _ _ _ k h) h) h
theorem de_op {op : Operator} (mr : Mono2 r) (ho : OpR X (binaryOp op) R) (l : LiftR F X.K R r) (ha : DE F X a ta) (hb : DE F X b tb) : DE F X (.BinOp a op b pos) (fun ρ Q => ta ρ fun x => tb ρ fun y => r x y Q) :=
  ⟨two_mono mr ha hb, (pe_op ho ha.run hb.run).imp fun σ H Q h => two_run mr l ha hb h⟩
theorem de_cmp {op : CmpOp} (mr : Mono2 r) (ho : OpR X (compareOp op) R) (l : LiftR F X.K R r) (ha : DE F X a ta) (hb : DE F X b tb) (hm : behindInMarks op b = false) : DE F X (.Compare a [op] [b] pos) (fun ρ Q => ta ρ fun x => tb ρ fun y => r x y Q) :=
  ⟨two_mono mr ha hb, (pe_cmpR ho ha.run hb.run hm).imp fun σ H Q h => two_run mr l ha hb h⟩
theorem de_ix (mr : Mono2 r) (ho : IxR X R) (l : LiftR F X.K R r) (ha : DE F X a ta) (hb : DE F X b tb) (hs : PlainIx b := by exact fun _ _ => rfl) : DE F X (.Subscript a b pos) (fun ρ Q => ta ρ fun x => tb ρ fun y => r x y Q) :=
  ⟨two_mono mr ha hb, (pe_ix ho ha.run hb.run hs).imp fun σ H Q h => two_run mr l ha hb h⟩
def boolD (d : D) (Q : Bool → Prop) : Prop := ∃ b, d = .bl b ∧ Q b
theorem boolD.mono {d : D} {Q Q' : Bool → Prop} (k : ∀ b, Q b → Q' b) : boolD d Q → boolD d Q' := fun ⟨b, e, q⟩ => ⟨b, e, k b q⟩
theorem dt_cmp {op : CmpOp} (mr : Mono2 r) (ho : OpR X (compareOp op) R) (l : LiftR F X.K R r) (ha : DE F X a ta) (hb : DE F X b tb) (hm : behindInMarks op b = false) : DTest F X (.Compare a [op] [b] pos) (fun ρ Q => ta ρ fun x => tb ρ fun y => r x y fun z => boolD z Q) := by
  refine ⟨fun ρ Q Q' k h => two_mono mr ha hb _ _ _ (fun d => boolD.mono k) h, (pt_cmpR ho ha.run hb.run hm).imp fun σ H Q ⟨I, ρ, A, h⟩ => ?_⟩
  refine two_run mr l ha hb ⟨I, ρ, A, two_mono mr ha hb _ _ _ (fun d hd => ?_) h⟩
  obtain ⟨b, rfl, q⟩ := hd
  intro v I' H' s rv
  cases rv
  exact ⟨b, rfl, q I' H' s⟩
theorem dt_val (ha : DE F X a ta) (he : ∀ whole, isTrue a X.env whole = (do let v ← whole; standAt a.pos; holding [v] (truthy v)) := by intro _; rfl) : DTest F X a (fun ρ Q => ta ρ fun d => boolD d Q) := by
  refine ⟨fun ρ Q Q' k h => ha.mono _ _ _ (fun d => boolD.mono k) h, (pt_val ha.run he).imp fun σ H Q ⟨I, ρ, A, h⟩ => ?_⟩
  refine rdE_next ha.mono A h fun d v I' H' p s rv => ?_
  obtain ⟨b, rfl, q⟩ := p
  cases rv
  exact ⟨b, rfl, q I' H' s⟩
end
structure DWh (F : Fx) (X : Cx) (e : Expr) (t : DB) : Prop where
  mono : ∀ ρ (Q Q' : Bool → Prop), (∀ d, Q d → Q' d) → t ρ Q → t ρ Q'
  run : PW X e (rdT F X.K t)
section
variable {F : Fx} {X : Cx} {K : PySem.W.Frag} {I H I' H' : Hp} {a b c : Expr} {ta tb tc : DB} {va vb vc : DT} {pos : Pos} {rest : List Expr}
theorem _root_.L2.PW.imp {e : Expr} {t u : TT} (h : PW X e t) (i : ∀ σ H Q, u σ H Q → t σ H Q) : PW X e u := ⟨fun w pins s σ H Q J q => h.run w pins s σ H Q J (i σ H Q q)⟩
theorem finB.of {Q : Bool → Hp → Prop} {d : Bool} (q : finB F I H Q d) (s : Stp F.W I H I' H') : finB F I' H' Q d := fun I2 H2 s2 => q I2 H2 (s.trans s2)
theorem dt_wh (h : DWh F X a ta) : DTest F X a ta := ⟨h.mono, h.run.pt⟩
theorem dt_not (h : DTest F X a ta) : DTest F X (.UnaryOp .Not a pos) (fun ρ Q => ta ρ fun b => Q (!b)) := by
  refine ⟨fun ρ Q Q' k q => h.mono _ _ _ (fun b => k _) q, (pt_not h.run).imp fun σ H Q ⟨I, ρ, A, q⟩ => ?_⟩
  exact rdT_next h.mono A q fun d I' H' p s => p I' H' s
theorem dw_or1 (h : DTest F X a ta) : DWh F X (.BoolOp .Or [a] pos) ta := ⟨h.mono, pw_or1 h.run⟩
theorem dw_or (h : DTest F X a ta) (h' : DWh F X (.BoolOp .Or (b :: rest) pos) tb) : DWh F X (.BoolOp .Or (a :: b :: rest) pos) (fun ρ Q => ta ρ fun x => if x = true then Q true else tb ρ Q) := by
  refine ⟨fun ρ Q Q' k q => h.mono _ _ _ (fun b q => ?_) q, (pw_or h.run h'.run).imp fun σ H Q ⟨I, ρ, A, q⟩ => ?_⟩
  · cases b
    · exact h'.mono _ _ _ k q
    · exact k _ q
  · refine rdT_next h.mono A q fun d I' H' p s => ?_
    cases d
    · exact rdT_next h'.mono (A.step s) p fun d I2 H2 p s2 => p I2 H2 (s.trans s2)
    · exact p I' H' s
end
abbrev DAT := DEnv → (List D → Prop) → Prop
def finA (F : Fx) (K : PySem.W.Frag) (I H : Hp) (Q : List V → Hp → Prop) : List D → Prop := fun ds => ∀ vs I' H', Stp F.W I H I' H' → Reps K I' vs ds → Q vs H'
def rdA (F : Fx) (K : PySem.W.Frag) (t : DAT) : TA := fun σ H Q => ∃ I ρ, At F K I ρ σ H ∧ t ρ (finA F K I H Q)
structure DA (F : Fx) (X : Cx) (es : List Expr) (t : DAT) : Prop where
  mono : ∀ ρ (Q Q' : List D → Prop), (∀ d, Q d → Q' d) → t ρ Q → t ρ Q'
  run : PA X es (rdA F X.K t)
section
variable {F : Fx} {X : Cx} {K : PySem.W.Frag} {I H : Hp} {ρ : DEnv} {σ : St} {e : Expr} {es : List Expr} {te : DT} {t : DAT} {pos : Pos}
theorem rdA_next (mono : ∀ ρ (Q Q' : List D → Prop), (∀ d, Q d → Q' d) → t ρ Q → t ρ Q') (a : At F K I ρ σ H) {P : List D → Prop} {R : List V → Hp → Prop} (h : t ρ P)
    (k : ∀ d v I' H', P d → Stp F.W I H I' H' → Reps K I' v d → R v H') : rdA F K t σ H R :=
  ⟨I, ρ, a, mono ρ _ _ (fun d p v I' H' s r => k d v I' H' p s r) h⟩
theorem da_nil : DA F X [] (fun _ Q => Q []) := ⟨fun _ _ _ k q => k _ q, pa_nil.imp fun σ H Q ⟨I, ρ, A, q⟩ => q [] I H A.st.stp .nil⟩
theorem da_cons (h : DE F X e te) (h' : DA F X es t) (hs : starEach (e :: es) X.env = (false, eval e X.env) :: starEach es X.env := by rfl) : DA F X (e :: es) (fun ρ Q => te ρ fun d => t ρ fun ds => Q (d :: ds)) := by
  refine ⟨fun ρ Q Q' k q => h.mono _ _ _ (fun d q => h'.mono _ _ _ (fun ds => k _) q) q, (pa_cons h.run h'.run hs).imp fun σ H Q ⟨I, ρ, A, q⟩ => ?_⟩
  refine rdE_next h.mono A q fun d v I' H' p s rv => ?_
  exact rdA_next h'.mono (A.step s) p fun ds vs I2 H2 p s2 rs => p (v :: vs) I2 H2 (s.trans s2) (.cons (rv.mono s2.i) rs)
theorem de_tup {x1} (h : DA F X es t) : DE F X (.Tuple es x1 pos) (fun ρ Q => t ρ fun ds => ds.length ≤ sizeLine ∧ Q (.tup ds)) := by
  refine ⟨fun ρ Q Q' k q => h.mono _ _ _ (fun d q => ⟨q.1, k _ q.2⟩) q, (pe_tup h.run).imp fun σ H Q ⟨I, ρ, A, q⟩ => ?_⟩
  refine rdA_next h.mono A q fun ds vs I' H' p s rs => ⟨rs.length ▸ p.1, fun a ha => ?_⟩
  have l := s.st.laid ha (.tup vs)
  exact p.2 _ _ _ (s.trans l) (.tup (.of upd_same) (rs.mono l.i))
theorem de_lst (h : DA F X es t) : DE F X (.List es pos) (fun ρ Q => t ρ fun ds => ds.length ≤ sizeLine ∧ Q (.lst ds)) := by
  refine ⟨fun ρ Q Q' k q => h.mono _ _ _ (fun d q => ⟨q.1, k _ q.2⟩) q, (pe_lst h.run).imp fun σ H Q ⟨I, ρ, A, q⟩ => ?_⟩
  refine rdA_next h.mono A q fun ds vs I' H' p s rs => ⟨rs.length ▸ p.1, fun a ha => ?_⟩
  have l := s.st.laid ha (.lst vs)
  exact p.2 _ _ _ (s.trans l) (.lst upd_same (rs.mono l.i))
end
def addD : D → D → (D → Prop) → Prop
  | .int i, .int j, Q => Q (.int (i + j))
  | .str x, .str y, Q => x.length + y.length ≤ sizeLine ∧ Q (.str (x ++ y))
  | .lst x, .lst y, Q => x.length + y.length ≤ sizeLine ∧ Q (.lst (x ++ y))
  | .tup x, .tup y, Q => x.length + y.length ≤ sizeLine ∧ Q (.tup (x ++ y))
  | _, _, _ => False
def mulD : D → D → (D → Prop) → Prop
  | .int i, .int j, Q => CMul i j ∧ Q (.int (i * j))
  | .lst xs, .int k, Q => -(2 ^ 63) ≤ k ∧ k < 2 ^ 63 ∧ xs.length * k.toNat ≤ sizeLine ∧ Q (.lst (List.replicate k.toNat xs).flatten)
  | _, _, _ => False
def powD : D → D → (D → Prop) → Prop
  | .int i, .int j, Q => CPow i j ∧ Q (.int (i ^ j.toNat))
  | _, _, _ => False
def ltD : D → D → (D → Prop) → Prop
  | .int i, .int j, Q => Q (.bl (decide (i < j)))
  | .str x, .str y, Q => Q (.bl (decide (x.cps.toList < y.cps.toList)))
  | _, _, _ => False
def leD : D → D → (D → Prop) → Prop
  | .int i, .int j, Q => Q (.bl (decide (i ≤ j)))
  | .str x, .str y, Q => Q (.bl (!decide (y.cps.toList < x.cps.toList)))
  | _, _, _ => False
def gtD : D → D → (D → Prop) → Prop
  | .int i, .int j, Q => Q (.bl (decide (j < i)))
  | .str x, .str y, Q => Q (.bl (decide (y.cps.toList < x.cps.toList)))
  | _, _, _ => False
def geD : D → D → (D → Prop) → Prop
  | .int i, .int j, Q => Q (.bl (decide (j ≤ i)))
  | .str x, .str y, Q => Q (.bl (!decide (x.cps.toList < y.cps.toList)))
  | _, _, _ => False
/-- may be compared -/
def canEq (x y : D) : Bool :=
  (scalD x && scalD y && !mixD x y) || (okE x && okE y)
def eqD (x y : D) (Q : D → Prop) : Prop := canEq x y = true ∧ Q (.bl (deq x y))
def neD (x y : D) (Q : D → Prop) : Prop := canEq x y = true ∧ Q (.bl (!deq x y))
section
variable {F : Fx} {X : Cx} {K : PySem.W.Frag}
theorem mono_add : Mono2 addD := by
  intro x y Q Q' k h
  cases x <;> cases y <;> first | exact h.elim | exact k _ h | exact ⟨h.1, k _ h.2⟩
theorem mono_mul : Mono2 mulD := by
  intro x y Q Q' k h
  cases x <;> cases y <;> first | exact h.elim | exact k _ h | exact ⟨h.1, k _ h.2⟩ | exact ⟨h.1, h.2.1, h.2.2.1, k _ h.2.2.2⟩
theorem mono_pow : Mono2 powD := by
  intro x y Q Q' k h
  cases x <;> cases y <;> first | exact h.elim | exact k _ h | exact ⟨h.1, k _ h.2⟩
theorem mono_lt : Mono2 ltD := by
  intro x y Q Q' k h
  cases x <;> cases y <;> first | exact h.elim | exact k _ h
theorem mono_le : Mono2 leD := by
  intro x y Q Q' k h
  cases x <;> cases y <;> first | exact h.elim | exact k _ h
theorem mono_gt : Mono2 gtD := by
  intro x y Q Q' k h
  cases x <;> cases y <;> first | exact h.elim | exact k _ h
theorem mono_ge : Mono2 geD := by
  intro x y Q Q' k h
  cases x <;> cases y <;> first | exact h.elim | exact k _ h
theorem mono_eq : Mono2 eqD := fun x y Q Q' k h => ⟨h.1, k _ h.2⟩
theorem mono_ne : Mono2 neD := fun x y Q Q' k h => ⟨h.1, k _ h.2⟩
/-- + -/
def RAdd (K : PySem.W.Frag) : R2 := fun x y H Q => rI0 (fun i j => .int (i + j)) x y H Q ∨ (∃ i j, x = .str i ∧ y = .str j ∧ i.length + j.length ≤ sizeLine ∧ Q (.str (i ++ j)) H) ∨ rCat x y H Q ∨ rCatA K x y H Q
theorem or_add : OpR X (binaryOp .Add) (RAdd X.K) := op_add.or (op_add_str.or (op_cat.or op_catA))
theorem lf_add : LiftR F K (RAdd K) addD := by
  intro x y dx dy I H Q st rx ry h
  cases dx <;> cases dy <;> first | exact h.elim | skip
  · cases rx; cases ry
    exact .inl ⟨_, _, rfl, rfl, h _ I H st.stp (.int _)⟩
  · cases rx; cases ry
    exact .inr (.inl ⟨_, _, rfl, rfl, h.1, h.2 _ I H st.stp (.str _)⟩)
  · cases rx with
    | tup a r =>
      cases ry with
      | tup a' r' =>
        rename_i xs ys p vs q ws
        refine .inr (.inr (.inr ⟨p, q, vs, ws, rfl, rfl, Same.seqT st.sub a, Same.seqT st.sub a', by rw [r.length, r'.length]; exact h.1, fun e => ?_, fun e e' => ?_, fun e e' z hz => ?_⟩))
        · subst e
          cases r
          exact h.2 _ I H st.stp (.tup a' (by simpa using r'))
        · subst e'
          cases r'
          exact h.2 _ I H st.stp (.tup a (by simpa using r))
        · have l := st.laid hz (.tup (vs ++ ws))
          exact h.2 _ _ _ l (.tup (.of upd_same) ((r.append r').mono l.i))
  · cases rx with
    | lst a r =>
      cases ry with
      | lst a' r' =>
        rename_i xs ys p vs q ws
        refine .inr (.inr (.inl ⟨p, q, vs, ws, rfl, rfl, st.sub _ _ a, st.sub _ _ a', by rw [r.length, r'.length]; exact h.1, fun z hz => ?_⟩))
        have l := st.laid hz (.lst (vs ++ ws))
        exact h.2 _ _ _ l (.lst upd_same ((r.append r').mono l.i))
theorem lf_int {R : R2} {r : D → D → (D → Prop) → Prop} {C : Int → Int → Prop} {g : Int → Int → Int} (hR : R = rI C fun i j => .int (g i j)) (hr : ∀ x y Q, r x y Q → ∃ i j, x = .int i ∧ y = .int j ∧ C i j ∧ Q (.int (g i j))) : LiftR F K R r := by
  intro x y dx dy I H Q st rx ry h
  obtain ⟨i, j, rfl, rfl, c, q⟩ := hr _ _ _ h
  cases rx; cases ry
  rw [hR]
  exact ⟨i, j, rfl, rfl, c, q _ I H st.stp (.int _)⟩
theorem lf_pow : LiftR F K (rI CPow fun i j => .int (i ^ j.toNat)) powD := lf_int (C := CPow) (g := fun i j => i ^ j.toNat) rfl fun x y Q h => by
  cases x <;> cases y <;> first | exact h.elim | exact ⟨_, _, rfl, rfl, h.1, h.2⟩
theorem Reps.rep {I : Hp} {vs : List V} {ds : List D} (h : Reps K I vs ds) : ∀ n : Nat, Reps K I (List.replicate n vs).flatten (List.replicate n ds).flatten
  | 0 => .nil
  | n + 1 => by rw [List.replicate_succ, List.replicate_succ, List.flatten_cons, List.flatten_cons]; exact h.append (Reps.rep h n)
def RMul : R2 := fun x y H Q => rI CMul (fun i j => .int (i * j)) x y H Q ∨ rRep x y H Q
theorem or_mul : OpR X (binaryOp .Mult) RMul := op_mul.or op_rep
theorem lf_mul : LiftR F K RMul mulD := by
  intro x y dx dy I H Q st rx ry h
  cases dx <;> cases dy <;> first | exact h.elim | skip
  · cases rx; cases ry
    exact .inl ⟨_, _, rfl, rfl, h.1, h.2 _ I H st.stp (.int _)⟩
  · cases ry
    cases rx with
    | lst a r =>
      rename_i xs k p vs
      refine .inr ⟨p, k, vs, rfl, rfl, st.sub _ _ a, h.1, h.2.1, by rw [r.length]; exact h.2.2.1, fun z hz => ?_⟩
      have l := st.laid hz (.lst (List.replicate k.toNat vs).flatten)
      exact h.2.2.2 _ _ _ l (.lst upd_same ((r.rep _).mono l.i))
/-- comparisons -/
theorem lf_cmp {R : R2} {r : D → D → (D → Prop) → Prop} {g : Int → Int → Bool} {g' : Str → Str → Bool} (hR : R = fun x y H Q => rI0 (fun i j => .bl (g i j)) x y H Q ∨ ∃ i j, x = .str i ∧ y = .str j ∧ Q (.bl (g' i j)) H)
    (hr : ∀ x y Q, r x y Q → (∃ i j, x = .int i ∧ y = .int j ∧ Q (.bl (g i j))) ∨ ∃ i j, x = .str i ∧ y = .str j ∧ Q (.bl (g' i j))) : LiftR F K R r := by
  intro x y dx dy I H Q st rx ry h
  rw [hR]
  rcases hr _ _ _ h with ⟨i, j, rfl, rfl, q⟩ | ⟨i, j, rfl, rfl, q⟩
  · cases rx; cases ry
    exact .inl ⟨i, j, rfl, rfl, q _ I H st.stp (.bl _)⟩
  · cases rx; cases ry
    exact .inr ⟨i, j, rfl, rfl, q _ I H st.stp (.bl _)⟩
def RLt : R2 := fun x y H Q => rI0 (fun i j => .bl (decide (i < j))) x y H Q ∨ ∃ i j, x = .str i ∧ y = .str j ∧ Q (.bl (decide (i.cps.toList < j.cps.toList))) H
def RLe : R2 := fun x y H Q => rI0 (fun i j => .bl (decide (i ≤ j))) x y H Q ∨ ∃ i j, x = .str i ∧ y = .str j ∧ Q (.bl (!decide (j.cps.toList < i.cps.toList))) H
def RGt : R2 := fun x y H Q => rI0 (fun i j => .bl (decide (j < i))) x y H Q ∨ ∃ i j, x = .str i ∧ y = .str j ∧ Q (.bl (decide (j.cps.toList < i.cps.toList))) H
def RGe : R2 := fun x y H Q => rI0 (fun i j => .bl (decide (j ≤ i))) x y H Q ∨ ∃ i j, x = .str i ∧ y = .str j ∧ Q (.bl (!decide (i.cps.toList < j.cps.toList))) H
theorem or_lt : OpR X (compareOp .Lt) RLt := op_lt.or op_lt_str
theorem or_le : OpR X (compareOp .LtE) RLe := op_le.or op_le_str
theorem or_gt : OpR X (compareOp .Gt) RGt := op_gt.or op_gt_str
theorem or_ge : OpR X (compareOp .GtE) RGe := op_ge.or op_ge_str
theorem lf_lt : LiftR F K RLt ltD := lf_cmp rfl fun x y Q h => by cases x <;> cases y <;> first | exact h.elim | exact .inl ⟨_, _, rfl, rfl, h⟩ | exact .inr ⟨_, _, rfl, rfl, h⟩
theorem lf_le : LiftR F K RLe leD := lf_cmp rfl fun x y Q h => by cases x <;> cases y <;> first | exact h.elim | exact .inl ⟨_, _, rfl, rfl, h⟩ | exact .inr ⟨_, _, rfl, rfl, h⟩
theorem lf_gt : LiftR F K RGt gtD := lf_cmp rfl fun x y Q h => by cases x <;> cases y <;> first | exact h.elim | exact .inl ⟨_, _, rfl, rfl, h⟩ | exact .inr ⟨_, _, rfl, rfl, h⟩
theorem lf_ge : LiftR F K RGe geD := lf_cmp rfl fun x y Q h => by cases x <;> cases y <;> first | exact h.elim | exact .inl ⟨_, _, rfl, rfl, h⟩ | exact .inr ⟨_, _, rfl, rfl, h⟩
/-- ==, != -/
def REq (K : PySem.W.Frag) : R2 := fun x y H Q => rEq x y H Q ∨ rEqD K x y H Q
def RNe (K : PySem.W.Frag) : R2 := fun x y H Q => rNe x y H Q ∨ rNeD K x y H Q
theorem or_eq (hu : X.A.units + 64 < cLine) : OpR X (compareOp .Eq) (REq X.K) := op_eq.or (op_eqD hu)
theorem or_ne (hu : X.A.units + 64 < cLine) : OpR X (compareOp .NotEq) (RNe X.K) := op_ne.or (op_neD hu)
theorem can_scal {I : Hp} {x y : V} {dx dy : D} (rx : Rep K I x dx) (ry : Rep K I y dy) (h : canEq x' y' = true) (ex : x' = dx) (ey : y' = dy) : (scal x y = true ∧ decide (x = y) = deq dx dy) ∨ (okE dx = true ∧ okE dy = true) := by
  subst ex ey
  unfold canEq at h
  rw [Bool.or_eq_true] at h
  rcases h with h | h
  · left
    rw [Bool.and_eq_true, Bool.and_eq_true] at h
    obtain ⟨⟨s1, s2⟩, s3⟩ := h
    exact scal_of rx ry s1 s2 (by simpa using s3)
  · rw [Bool.and_eq_true] at h
    exact .inr h
theorem okE_split {d : D} (h : okE d = true) : plainD d = true ∧ SeqAt.shaped (toPy d) = true := by
  unfold okE at h
  rw [Bool.and_eq_true] at h
  exact h
theorem lf_eq : LiftR F K (REq K) eqD := by
  intro x y dx dy I H Q st rx ry h
  rcases can_scal rx ry h.1 rfl rfl with ⟨s, e⟩ | ⟨s, s'⟩
  · exact .inl ⟨s, by rw [e]; exact h.2 _ I H st.stp (.bl _)⟩
  · exact .inr ⟨_, _, rx.dp st.sub (okE_split s).1, ry.dp st.sub (okE_split s').1, (okE_split s).2, (okE_split s').2, h.2 _ I H st.stp (.bl _)⟩
theorem lf_ne : LiftR F K (RNe K) neD := by
  intro x y dx dy I H Q st rx ry h
  rcases can_scal rx ry h.1 rfl rfl with ⟨s, e⟩ | ⟨s, s'⟩
  · exact .inl ⟨s, by rw [e]; exact h.2 _ I H st.stp (.bl _)⟩
  · exact .inr ⟨_, _, rx.dp st.sub (okE_split s).1, ry.dp st.sub (okE_split s').1, (okE_split s).2, (okE_split s').2, h.2 _ I H st.stp (.bl _)⟩
end
section
variable {F : Fx} {X : Cx} {a b c : Expr} {ta tb tc : DT} {pos : Pos}
theorem de_add (ha : DE F X a ta) (hb : DE F X b tb) : DE F X (.BinOp a .Add b pos) (fun ρ Q => ta ρ fun x => tb ρ fun y => addD x y Q) := de_op mono_add or_add lf_add ha hb
theorem de_mul (ha : DE F X a ta) (hb : DE F X b tb) : DE F X (.BinOp a .Mult b pos) (fun ρ Q => ta ρ fun x => tb ρ fun y => mulD x y Q) := de_op mono_mul or_mul lf_mul ha hb
theorem de_pow (ha : DE F X a ta) (hb : DE F X b tb) : DE F X (.BinOp a .Pow b pos) (fun ρ Q => ta ρ fun x => tb ρ fun y => powD x y Q) := de_op mono_pow op_pow lf_pow ha hb
/-- comparisons by their sign -/
inductive Cmp (X : Cx) : CmpOp → R2 → (D → D → (D → Prop) → Prop) → Prop
  | lt : Cmp X .Lt RLt ltD
  | le : Cmp X .LtE RLe leD
  | gt : Cmp X .Gt RGt gtD
  | ge : Cmp X .GtE RGe geD
  | eq (hu : X.A.units + 64 < cLine) : Cmp X .Eq (REq X.K) eqD
  | ne (hu : X.A.units + 64 < cLine) : Cmp X .NotEq (RNe X.K) neD
theorem Cmp.mono {op : CmpOp} {R : R2} {r} (h : Cmp X op R r) : Mono2 r := by
  cases h
  · exact mono_lt
  · exact mono_le
  · exact mono_gt
  · exact mono_ge
  · exact mono_eq
  · exact mono_ne
theorem Cmp.op {op : CmpOp} {R : R2} {r} (h : Cmp X op R r) : OpR X (compareOp op) R := by
  cases h with
  | lt => exact or_lt
  | le => exact or_le
  | gt => exact or_gt
  | ge => exact or_ge
  | eq hu => exact or_eq hu
  | ne hu => exact or_ne hu
theorem Cmp.lf {op : CmpOp} {R : R2} {r} (h : Cmp X op R r) : LiftR F X.K R r := by
  cases h
  · exact lf_lt
  · exact lf_le
  · exact lf_gt
  · exact lf_ge
  · exact lf_eq
  · exact lf_ne
theorem de_c {op : CmpOp} {R : R2} {r} (h : Cmp X op R r) (ha : DE F X a ta) (hb : DE F X b tb) (hm : behindInMarks op b = false := by first | exact nomark _ | rfl) : DE F X (.Compare a [op] [b] pos) (fun ρ Q => ta ρ fun x => tb ρ fun y => r x y Q) := de_cmp h.mono h.op h.lf ha hb hm
theorem dt_c {op : CmpOp} {R : R2} {r} (h : Cmp X op R r) (ha : DE F X a ta) (hb : DE F X b tb) (hm : behindInMarks op b = false := by first | exact nomark _ | rfl) : DTest F X (.Compare a [op] [b] pos) (fun ρ Q => ta ρ fun x => tb ρ fun y => r x y fun z => boolD z Q) := dt_cmp h.mono h.op h.lf ha hb hm
end
end Dk
namespace Dk
open PySem L2
open PyProof.Rows (envOfC)
structure Rm (k : Nat) (A : Around) : Prop where
  room : Room k A
  gd : A.guards = some []
theorem Rm.mono {j k : Nat} {A : Around} (r : Rm k A) (h : j ≤ k) : Rm j A := ⟨r.room.mono h, r.gd⟩
theorem Rm.deeper {k : Nat} {A : Around} (r : Rm (k + 1) A) (env : Env) : Rm k (A.deeper env) := ⟨r.room.deeper env, r.gd⟩
theorem Rm.units {k : Nat} {A : Around} (r : Rm k A) : A.units + 64 < cLine := r.room.units
section
variable {P : Program} {w : World} {K : PySem.W.Frag} {mg : Str → Option Value} {base : Heap} {CX : CXT} {k j : Nat} {f : Addr} {fd : FuncData} {N ps : List Str} {sp sp' : Sp}
structure GnOk (P : Program) (w : World) (K : PySem.W.Frag) (mg : Str → Option Value) (base : Heap) (CX : CXT) (k : Nat) (f : Addr) (fd : FuncData) (ps : List Str) (sp : Sp) : Prop where
  lens : ∀ vs H Q E, sp vs H Q E → vs.length = ps.length
  go : ∀ (A : Around) (below : List Env) (s : Shared) (H : Hp) (given : Args) (us : List Value) (vs : List V) (Q : VK) (E : XK), Rm k A → Env0 P w K mg base A below s H → BindsTo s fd given (ps.zip us) → Vals vs us → sp vs H Q E → codeAny (model P w) A (.call (.ref f) given) (CR CX below P w H s Q E) s
theorem GnOk.mono (F : GnOk P w K mg base CX j f fd ps sp) (h : j ≤ k) : GnOk P w K mg base CX k f fd ps sp := ⟨F.lens, fun A o s H g us vs Q E hr => F.go A o s H g us vs Q E (hr.mono h)⟩
theorem GnOk.weak (F : GnOk P w K mg base CX k f fd ps sp) (h : ∀ vs H Q E, sp' vs H Q E → sp vs H Q E) : GnOk P w K mg base CX k f fd ps sp' :=
  ⟨fun vs H Q E q => F.lens vs H Q E (h _ _ _ _ q), fun A o s H g us vs Q E hr he hb hv q => F.go A o s H g us vs Q E hr he hb hv (h _ _ _ _ q)⟩
theorem _root_.L2.FnOk.gn (F : FnOk P w K mg base CX k f fd ps sp) : GnOk P w K mg base CX k f fd ps sp := ⟨F.len, fun A o s H g us vs Q E hr => F.run A o s H g us vs Q E hr.room⟩
/-- a def by its body -/
theorem gn_of {name qual : Str} {params : Arguments} {body : List Stmt} {scope : Scope} {dV kV doc pm cdv ct oc : Value} {an od : Option Addr} {osl : Array (Option Value)}
    (hlk : K.lookup f = some ⟨oc, od, .func (PySem.W.fnOf name qual params body scope dV kV doc pm an cdv ct), osl⟩) (hcode : PySem.W.codeIn K cdv qual = true) (Sc : FnScope N ps scope) (hlen : ∀ vs H Q E, sp vs H Q E → vs.length = ps.length)
    (hb : ∀ (A : Around) (below : List Env) (s : Shared) (H : Hp) (vs : List V) (Q : VK) (E : XK), Rm k (A.deeper (envOfC qual scope s.heap.objs.size f cdv)) → sp vs H Q E →
      ∃ t, PSs (cxOf CX P w K mg base N qual scope f cdv A below s H E) body t ∧ t { nx := fun _ H' => Q .non H', rt := Q } (L2.start N vs) H) :
    GnOk P w K mg base CX (k + 1) f (PySem.W.fnOf name qual params body scope dV kV doc pm an cdv ct) ps sp := by
  refine ⟨hlen, fun A below s H given us vs Q E hr e0 hbnd rv hs => ?_⟩
  have hvs := hlen _ _ _ _ hs
  have hK : K.In s.heap := e0.mod.kin.keeps fun b o e => (e0.bs b o e).1
  have hLim : s.heap.NoLimit := e0.mod.nolimit.keeps fun b o e => (e0.bs b o e).1
  have kinds : ∀ y ∈ ps.zip us, scope.names.lookup y.1 = some .local ∨ (scope.names.lookup y.1 = some .cell ∧ ((cellsFrom (s.heap.objs.size + 1) scope.names []).lookup y.1).isSome = true) := by
    rintro ⟨n, v⟩ hy
    rcases Sc.par n (List.of_mem_zip hy).1 with q | q
    · left; exact q
    · right; exact ⟨q, PySem.W.cellsFrom_some _ _ _ (.inl q)⟩
  refine codeAny_call_function hr.room.depth (hK _ _ hlk) rfl Sc.co Sc.gen rfl (PySem.W.codeRec_of hK hcode) (hbnd _ _ _ _ (wpAny_newFunctionEnv_cells Sc.kind kinds fun env he s1 x => ?_))
  subst he
  refine ⟨hLim.keeps x.toInCall.keep, codeAny_func ?_⟩
  obtain ⟨t, h1, h2⟩ := hb A below s H vs Q E (hr.deeper _) hs
  have J : Inv (cxOf CX P w K mg base N qual scope f cdv A below s H E) [] (L2.start N vs) H s1 := inv_start Sc hr.room.hd e0 hvs rv x
  have done : ∀ {σ' : St} {H' : Hp} {v : V} {u : Value} {s' : Shared}, Inv (cxOf CX P w K mg base N qual scope f cdv A below s H E) [] σ' H' s' → RelV v u → Q v H' → CE below P w H s Q u s' := fun {σ' H' v u s'} J rv q => ⟨v, H', J.os, J.bare, J.base, J.hok, rv, q⟩
  refine wpAny_mono (h1.run [] s1 (L2.start N vs) H _ J h2) (fun fl s' h => ?_) fun e s' h => h
  cases fl with
  | next => obtain ⟨σ', H', J', q⟩ := h; exact done (v := V.non) (u := Value.none) J' rfl q
  | ret u => obtain ⟨v, σ', H', J', rv', q⟩ := h; exact done J' rv' q
  | brk => obtain ⟨_, _, _, q⟩ := h; exact q.elim
  | cont => obtain ⟨_, _, _, q⟩ := h; exact q.elim
end
section
variable {X : Cx} {CX : CXT} {k n : Nat} {f : Addr} {fd : FuncData} {ps ks : List Str} {sp : Sp} {E : XK} {ds : List Value} {dvs : List V} {g : List Value → List Value → List Value} {gV : List V → List V → List V}
theorem gn_go {pins : List (Addr × Obj)} {σ : St} {H : Hp} {s : Shared} {Q : VK} {us as : List Value} {kw : List (Str × Value)} {vs : List V} (F : GnOk X.prog X.w X.K X.mg X.base CX k f fd ps sp) (hr : Rm k X.A) (hx : Passes CX X E) (J : Inv X pins σ H s)
    (hb : BindsTo s fd ⟨as, kw⟩ (ps.zip us)) (r : Vals vs us) (h : sp vs H Q E) : wpAny (model X.prog X.w) X.A (call (.ref f) as kw) (EP X pins σ Q) X.xe s := by
  refine wpAny_call (codeAny_mono (F.go X.A X.stack s H _ us vs Q E hr J.env0 hb r h) fun r s' q => ?_)
  cases r with
  | error e => exact hx pins σ H s e s' J q
  | ok fl => cases fl with
    | ret u => exact J.after q
    | next => exact q.elim
    | brk => exact q.elim
    | cont => exact q.elim
theorem gn_pos {pins : List (Addr × Obj)} {σ : St} {H : Hp} {s : Shared} {Q : VK} {us : List Value} {vs : List V} (F : GnOk X.prog X.w X.K X.mg X.base CX k f fd ps sp) (hr : Rm k X.A) (hb : Binds X.K fd ps ds) (hd : Vals dvs ds) (hx : Passes CX X E)
    (J : Inv X pins σ H s) (r : Vals vs us) (h : sp (vs ++ dvs) H Q E) : wpAny (model X.prog X.w) X.A (call (.ref f) us) (EP X pins σ Q) X.xe s := by
  have r2 : Vals (vs ++ dvs) (us ++ ds) := r.append hd
  exact gn_go F hr hx J (hb s us J.kIn (r2.length.symm.trans (F.lens _ _ _ _ h))) r2 h
variable {x : Str} {p pos : Pos} {e : Expr} {es : List Expr} {kws : List Keyword} {t tk : TA}
theorem gn_call (F : GnOk X.prog X.w X.K X.mg X.base CX k f fd ps sp) (hr : Rm k X.A) (hg : Gl X x) (hm : X.mg x = some (.ref f)) (hkp : PySem.W.keepIn X.K (.ref f) = true) (hb : Binds X.K fd ps ds) (hd : Vals dvs ds) (hx : Passes CX X E) (ha : PA X (e :: es) t)
    (hdb : (x == ("__debug__" : Str)) = false) (he : starEach (e :: es) X.env = (false, eval e X.env) :: starEach es X.env) (hpl : (backTo pos (starEach es X.env)).any (·.1) = false) : PE X (.Call (.Name x p) (e :: es) [] pos) (tCall sp dvs E t) :=
  ⟨fun pins s σ H Q J h => wpAny_Call_Name_kw (ld_glob J hg hm (PySem.W.callWith_K (h₀ := X.base) J.ok.mod.kin hkp (thn (ha.run pos pins s σ H _ J h) fun us s1 ⟨vs, H1, J1, r, q⟩ => ⟨J1.kIn, gn_pos F hr hb hd hx J1 r q⟩) he hpl) hdb)⟩
end
end Dk
namespace Dk
open PySem L2
open PyProof.Rows (envOfC)
/-- an exception: its class, its fields -/
structure Ex where
  cls : Value
  flds : List (Str × D)
def ExRep (K : PySem.W.Frag) (I H : Hp) (cls : Value) (d : Option Addr) (x : Ex) : Prop :=
  cls = x.cls ∧ ((x.flds = [] ∧ d = none) ∨ ∃ dd fs, d = some dd ∧ I dd = some (.xd fs) ∧ fs.map (·.1) = x.flds.map (·.1) ∧ Reps K I (fs.map (·.2)) (x.flds.map (·.2)))
def finX (W : Wd) (K : PySem.W.Frag) (I H : Hp) (E : XK) : Ex → Prop := fun x => ∀ cls d I' H', Stp W I H I' H' → ExRep K I' H' cls d x → E cls d H'
structure DSp where
  n : Nat
  f : List D → (D → Prop) → (Ex → Prop) → Prop
  len : ∀ ds Q E, f ds Q E → ds.length = n
  mono : ∀ ds (Q Q' : D → Prop) (E E' : Ex → Prop), (∀ d, Q d → Q' d) → (∀ x, E x → E' x) → f ds Q E → f ds Q' E'
def spD (W : Wd) (K : PySem.W.Frag) (S : DSp) : Sp := fun vs H Q E => ∃ I ds, StI W I H ∧ Reps K I vs ds ∧ S.f ds (fin ⟨W, H, I⟩ K I H Q) (finX W K I H E)
theorem spD_len {W : Wd} {K : PySem.W.Frag} {S : DSp} : ∀ vs H Q E, spD W K S vs H Q E → vs.length = S.n := fun vs H Q E ⟨I, ds, _, r, h⟩ => r.length.trans (S.len _ _ _ h)
section
variable {F : Fx} {X : Cx} {K : PySem.W.Frag} {I H : Hp} {ρ : DEnv} {σ : St} {CX : CXT} {k : Nat} {f C : Addr} {fd : FuncData} {ps : List Str} {S : DSp} {E : XK} {x m : Str} {p pos apos : Pos} {e o : Expr} {es : List Expr} {ta : DT} {t : DAT}
def Lets (F : Fx) (K : PySem.W.Frag) (Ed : Ex → Prop) (E : XK) : Prop := ∀ I H, Stp F.W F.I0 F.B I H → ∀ x, Ed x → finX F.W K I H E x
theorem lets0 : Lets F K (fun _ => False) E := fun _ _ _ _ h => h.elim
theorem call_run {Ed : Ex → Prop} (le : Lets F K Ed E) (mono : ∀ ρ (Q Q' : List D → Prop), (∀ d, Q d → Q' d) → t ρ Q → t ρ Q') {Q : VK} (h : rdE F K (fun ρ Q => t ρ fun ds => S.f ds Q Ed) σ H Q) : rdA F K t σ H fun vs H1 => spD F.W K S vs H1 Q E := by
  obtain ⟨I, ρ, A, h⟩ := h
  refine rdA_next mono A h fun ds vs I' H' p s rs => ?_
  refine ⟨I', ds, s.st, rs, S.mono _ _ _ _ _ (fun d q v I2 H2 s2 rv => q v I2 H2 (s.trans s2) rv) (le I' H' (A.stp.trans s)) p⟩
theorem de_call {Ed : Ex → Prop} (Fn : GnOk X.prog X.w X.K X.mg X.base CX k f fd ps (spD F.W X.K S)) (hr : Rm k X.A) (hm : X.mg x = some (.ref f)) (hk : PySem.W.keepIn X.K (.ref f) = true) (hb : Binds X.K fd ps []) (hx : Passes CX X E) (le : Lets F X.K Ed E) (ha : DA F X (e :: es) t)
    (hg : Gl X x := by rfl) (hdb : (x == ("__debug__" : Str)) = false := by decide) (he : starEach (e :: es) X.env = (false, eval e X.env) :: starEach es X.env := by rfl) (hpl : (backTo pos (starEach es X.env)).any (·.1) = false := by rfl) :
    DE F X (.Call (.Name x p) (e :: es) [] pos) (fun ρ Q => t ρ fun ds => S.f ds Q Ed) := by
  refine ⟨fun ρ Q Q' k h => ha.mono _ _ _ (fun d h => S.mono _ _ _ _ _ k (fun _ h => h) h) h, (gn_call Fn hr hg hm hk hb .nil hx ha.run hdb he hpl).imp fun σ H Q h => ?_⟩
  have h := call_run le ha.mono h
  show rdA F X.K t σ H fun vs H1 => spD F.W X.K S (vs ++ []) H1 Q E
  simpa using h
/-- a built-in function, by its rule over data -/
def LiftC (F : Fx) (K : PySem.W.Frag) (R : List V → Hp → VK → Prop) (r : List D → (D → Prop) → Prop) : Prop :=
  ∀ (vs : List V) (ds : List D) (I H : Hp) (Q : VK), StI F.W I H → Reps K I vs ds → r ds (fin F K I H Q) → R vs H Q
variable {R : List V → Hp → VK → Prop} {r : List D → (D → Prop) → Prop} {id T : String}
theorem blt_run (mr : MonoN r) (l : LiftC F K R r) (mono : ∀ ρ (Q Q' : List D → Prop), (∀ d, Q d → Q' d) → t ρ Q → t ρ Q') {Q : VK} (h : rdE F K (fun ρ Q => t ρ fun ds => r ds Q) σ H Q) : rdA F K t σ H fun vs H1 => R vs H1 Q := by
  obtain ⟨I, ρ, A, h⟩ := h
  exact rdA_next mono A h fun ds vs I' H' p s rs => l vs ds I' H' Q s.st rs (mr _ _ _ (fun d q => q.of s) p)
theorem de_callB (mr : MonoN r) (l : LiftC F X.K R r) (hc : CallR X (.builtin id) R) (hm : X.mg x = none) (hv : bootBuiltins x = some (.builtin id)) (ha : DA F X (e :: es) t) (hg : Gl X x := by rfl) (hn : x ≠ "__name__" := by decide) (hdb : (x == ("__debug__" : Str)) = false := by decide)
    (he : starEach (e :: es) X.env = (false, eval e X.env) :: starEach es X.env := by rfl) (hpl : (backTo pos (starEach es X.env)).any (·.1) = false := by rfl) : DE F X (.Call (.Name x p) (e :: es) [] pos) (fun ρ Q => t ρ fun ds => r ds Q) :=
  ⟨fun ρ Q Q' k h => ha.mono _ _ _ (fun d h => mr _ _ _ k h) h, (pe_callB hc hg hm hv ha.run hn hdb he hpl).imp fun σ H Q h => blt_run mr l ha.mono h⟩
end
/-- other ways back: a list of our own; a thing, and what is held by then -/
inductive Ret where
  | own (ds : List D)
  | st (d : D) (ρ : DEnv)
structure DEnds where
  nx : DEnv → Prop
  rt : D → Prop
  bk : DEnv → Prop
  ct : DEnv → Prop
  ro : Ret → Prop
structure DEnds.le (a b : DEnds) : Prop where
  nx : ∀ ρ, a.nx ρ → b.nx ρ
  rt : ∀ d, a.rt d → b.rt d
  bk : ∀ ρ, a.bk ρ → b.bk ρ
  ct : ∀ ρ, a.ct ρ → b.ct ρ
  ro : ∀ ds, a.ro ds → b.ro ds
abbrev DTS := DEnds → DEnv → Prop
def ends (F : Fx) (K : PySem.W.Frag) (I0 : Hp) (Z : Ends) : DEnds where
  nx := fun ρ => ∀ I σ H, Same I0 I → At F K I ρ σ H → Z.nx σ H
  rt := fun d => ∀ v I H, Stp F.W F.I0 F.B I H → Rep K I v d → Z.rt v H
  bk := fun ρ => ∀ I σ H, Same I0 I → At F K I ρ σ H → Z.bk σ H
  ct := fun ρ => ∀ I σ H, Same I0 I → At F K I ρ σ H → Z.ct σ H
  ro := fun r => match r with
    | .own ds => ∀ p vs I H, Stp F.W F.I0 F.B I H → H p = none → Reps K I vs ds → Z.rt (.ref p) (upd H p (.lst vs))
    | .st d ρ => ∀ v I σ H, At F K I ρ σ H → Rep K I v d → Z.rt v H
def rdS (F : Fx) (K : PySem.W.Frag) (t : DTS) : TS := fun Z σ H => ∃ I ρ, At F K I ρ σ H ∧ t (ends F K I Z) ρ
structure DSt (F : Fx) (X : Cx) (st : Stmt) (t : DTS) : Prop where
  mono : ∀ Z Z' ρ, DEnds.le Z Z' → t Z ρ → t Z' ρ
  run : PS X st (rdS F X.K t)
structure DSts (F : Fx) (X : Cx) (st : List Stmt) (t : DTS) : Prop where
  mono : ∀ Z Z' ρ, DEnds.le Z Z' → t Z ρ → t Z' ρ
  run : PSs X st (rdS F X.K t)
theorem DEnds.le.rfl' {Z : DEnds} : DEnds.le Z Z := ⟨fun _ h => h, fun _ h => h, fun _ h => h, fun _ h => h, fun _ h => h⟩
theorem ends.le {F : Fx} {K : PySem.W.Frag} {I I' : Hp} {Z : Ends} (s : Same I I') : DEnds.le (ends F K I Z) (ends F K I' Z) :=
  ⟨fun _ h J σ H s' => h J σ H (Same.trans s s'), fun _ h => h, fun _ h J σ H s' => h J σ H (Same.trans s s'), fun _ h J σ H s' => h J σ H (Same.trans s s'), fun _ h => h⟩
theorem DEnds.le.withNx {Z Z' : DEnds} (l : DEnds.le Z Z') {a b : DEnv → Prop} (h : ∀ ρ, a ρ → b ρ) : DEnds.le { Z with nx := a } { Z' with nx := b } := ⟨h, l.rt, l.bk, l.ct, l.ro⟩
section
variable {F : Fx} {X : Cx} {K : PySem.W.Frag} {I H I' H' : Hp} {ρ : DEnv} {σ : St} {st : Stmt} {sts : List Stmt} {e c : Expr} {te : DT} {tc : DB} {t u : DTS} {pos : Pos}
theorem dss_nil : DSts F X [] (fun Z ρ => Z.nx ρ) := ⟨fun Z Z' ρ l h => l.nx _ h, pss_nil.imp fun Z σ H ⟨I, ρ, A, h⟩ => h I σ H (Same.refl I) A⟩
theorem dss_cons (h : DSt F X st t) (h' : DSts F X sts u) : DSts F X (st :: sts) (fun Z ρ => t { Z with nx := u Z } ρ) := by
  refine ⟨fun Z Z' ρ l q => h.mono _ _ _ (l.withNx fun ρ => h'.mono _ _ _ l) q, (pss_cons h.run h'.run).imp fun Z σ H ⟨I, ρ, A, q⟩ => ⟨I, ρ, A, h.mono { ends F X.K I Z with nx := u (ends F X.K I Z) } _ _ ⟨fun ρ q I σ H s A => ⟨I, ρ, A, h'.mono _ _ _ (ends.le s) q⟩, fun d q => q, fun ρ q => q, fun ρ q => q, fun d q => q⟩ q⟩⟩
theorem dss_one (h : DSt F X st t) : DSts F X [st] t := ⟨h.mono, pss_one h.run⟩
theorem ds_ret (h : DE F X e te) : DSt F X (.Return (some e) pos) (fun Z ρ => te ρ Z.rt) :=
  ⟨fun Z Z' ρ l q => h.mono _ _ _ l.rt q, (ps_ret h.run).imp fun Z σ H ⟨I, ρ, A, q⟩ => rdE_next h.mono A q fun d v I' H' p s rv => p v I' H' (A.stp.trans s) rv⟩
theorem ds_if {a b : List Stmt} (hc : DTest F X c tc) (ha : DSts F X a t) (hb : DSts F X b u) : DSt F X (.If c a b pos) (fun Z ρ => tc ρ fun k => if k = true then t Z ρ else u Z ρ) := by
  refine ⟨fun Z Z' ρ l q => hc.mono _ _ _ (fun k q => ?_) q, (ps_if hc.run ha.run hb.run).imp fun Z σ H ⟨I, ρ, A, q⟩ => rdT_next hc.mono A q fun k I' H' p s => ?_⟩
  · cases k
    · exact hb.mono _ _ _ l q
    · exact ha.mono _ _ _ l q
  · cases k
    · exact ⟨I', ρ, A.step s, hb.mono _ _ _ (ends.le s.i) p⟩
    · exact ⟨I', ρ, A.step s, ha.mono _ _ _ (ends.le s.i) p⟩
end
abbrev DGT := D → DEnv → (DEnv → Prop) → Prop
/-- σ' is σ but for the slots of js -/
def Only (js : List Nat) (σ σ' : St) : Prop := σ'.length = σ.length ∧ ∀ i, i ∉ js → σ'[i]? = σ[i]?
def rdG (F : Fx) (K : PySem.W.Frag) (js : List Nat) (g : DGT) : TG := fun v σ H Q => ∃ I ρ d, At F K I ρ σ H ∧ Rep K I v d ∧ g d ρ fun ρ' => ∀ I' σ' H', At F K I' ρ' σ' H' → Stp F.W I H I' H' → Only js σ σ' → Q σ' H'
/-- what is own in ρ' was so in ρ, off the slots of js -/
def Kept (js : List Nat) (ρ ρ' : DEnv) : Prop := ∀ (j : Nat) (e : Ent), ρ'[j]? = some (some e) → e.isOwn → j ∉ js ∧ ρ[j]? = some (some e)
structure DG (F : Fx) (X : Cx) (e : Expr) (js : List Nat) (g : DGT) : Prop where
  mono : ∀ d ρ (Q Q' : DEnv → Prop), (∀ ρ, Q ρ → Q' ρ) → g d ρ Q → g d ρ Q'
  keeps : ∀ d ρ (Q : DEnv → Prop), g d ρ Q → g d ρ fun ρ' => Q ρ' ∧ Kept js ρ ρ'
  run : PG X e (rdG F X.K js g)
abbrev DGTs := List D → DEnv → (DEnv → Prop) → Prop
def rdGs (F : Fx) (K : PySem.W.Frag) (js : List Nat) (g : DGTs) : TGs := fun v σ H Q => ∃ I ρ d, At F K I ρ σ H ∧ Reps K I v d ∧ g d ρ fun ρ' => ∀ I' σ' H', At F K I' ρ' σ' H' → Stp F.W I H I' H' → Only js σ σ' → Q σ' H'
structure DGs (F : Fx) (X : Cx) (e : List Expr) (js : List Nat) (g : DGTs) : Prop where
  mono : ∀ d ρ (Q Q' : DEnv → Prop), (∀ ρ, Q ρ → Q' ρ) → g d ρ Q → g d ρ Q'
  keeps : ∀ d ρ (Q : DEnv → Prop), g d ρ Q → g d ρ fun ρ' => Q ρ' ∧ Kept js ρ ρ'
  run : PGs X e (rdGs F X.K js g)
section
variable {F : Fx} {X : Cx} {K : PySem.W.Frag} {I H I' H' : Hp} {ρ : DEnv} {σ : St} {st : Stmt} {e tg : Expr} {es : List Expr} {te : DT} {g : DGT} {gs : DGTs} {pos : Pos}
theorem _root_.L2.PG.imp {e : Expr} {t u : TG} (h : PG X e t) (i : ∀ v σ H Q, u v σ H Q → t v σ H Q) : PG X e u := ⟨fun pins s σ H v w Q J r q => h.run pins s σ H v w Q J r (i v σ H Q q)⟩
theorem _root_.L2.PGs.imp {e : List Expr} {t u : TGs} (h : PGs X e t) (i : ∀ v σ H Q, u v σ H Q → t v σ H Q) : PGs X e u := ⟨fun pins s σ H v w Q J r q => h.run pins s σ H v w Q J r (i v σ H Q q)⟩
theorem set_at {ρ : DEnv} {i j : Nat} {x : Option Ent} {e : Ent} (h : (ρ.set i x)[j]? = some (some e)) : (i = j ∧ x = some e) ∨ (i ≠ j ∧ ρ[j]? = some (some e)) := by
  by_cases hij : i = j
  · subst hij
    left
    rw [List.getElem?_set] at h
    simp at h
    exact ⟨rfl, h.2⟩
  · rw [List.getElem?_set_ne hij] at h
    exact .inr ⟨hij, h⟩
theorem At.set (a : At F K I ρ σ H) {i : Nat} {v : V} {d : D} (r : Rep K I v d) : At F K I (ρ.set i (some (.dat d))) (σ.set i (some v)) H := by
  refine ⟨a.stp, by simp [a.len], fun j e h => ?_, fun j l e e' w hjl h1 h2 o1 o2 hw => ?_⟩
  · rcases set_at h with ⟨rfl, q⟩ | ⟨hij, q⟩
    · cases q
      have hi : i < ρ.length := by
        have := (List.getElem?_eq_some_iff.mp h).1
        simpa using this
      exact ⟨v, by rw [List.getElem?_set]; simp [← a.len, hi], .inl ⟨_, rfl, r⟩⟩
    · obtain ⟨w, h1, h2⟩ := a.env j e q
      exact ⟨w, by rw [List.getElem?_set_ne hij]; exact h1, h2⟩
  · rcases set_at h1 with ⟨rfl, q⟩ | ⟨hij, q⟩
    · cases q; exact o1.elim
    · rcases set_at h2 with ⟨rfl, q'⟩ | ⟨hil, q'⟩
      · cases q'; exact o2.elim
      · rw [List.getElem?_set_ne hij] at hw
        rw [List.getElem?_set_ne hil]
        exact a.dis j l e e' w hjl q q' o1 o2 hw
theorem dg_name {x : Str} (i : Nat) (hN : X.N.Nodup) (hi : X.N[i]? = some x := by rfl) (hx : Loc X.env.scope x := by first | exact Or.inl rfl | exact Or.inr rfl) (hf : X.fn x = true ∨ X.env.scope.names.lookup x = some .local := by first | exact .inl rfl | exact .inr rfl | assumption) : DG F X (.Name x pos) [i] (fun d ρ Q => Q (ρ.set i (some (.dat d)))) :=
  ⟨fun d ρ Q Q' k q => k _ q, fun d ρ Q q => ⟨q, fun j e hj ho => by
    rcases set_at hj with ⟨_, z⟩ | ⟨hij, z⟩
    · cases z; exact ho.elim
    · exact ⟨by simp [Ne.symm hij], z⟩⟩, (pg_name hN hi hx hf).imp fun v σ H Q ⟨I, ρ, d, A, r, q⟩ => q I _ H (A.set r) A.st.stp ⟨by simp, fun j hj => List.getElem?_set_ne (fun e => hj (by simp [e]))⟩⟩
theorem dgs_nil : DGs F X [] [] (fun ds ρ Q => ds = [] ∧ Q ρ) := by
  refine ⟨fun d ρ Q Q' k q => ⟨q.1, k _ q.2⟩, fun d ρ Q q => ⟨q.1, q.2, fun j e hj ho => ⟨by simp, hj⟩⟩, pgs_nil.imp fun v σ H Q ⟨I, ρ, d, A, r, e, q⟩ => ?_⟩
  subst e
  cases r
  exact ⟨rfl, q I _ H A A.st.stp ⟨rfl, fun _ _ => rfl⟩⟩
theorem dgs_cons {js ks : List Nat} (h : DG F X e js g) (h' : DGs F X es ks gs) (hs : (assignEach (e :: es) X.env).map (·.2) = assign e X.env :: (assignEach es X.env).map (·.2) := by rfl) : DGs F X (e :: es) (js ++ ks) (fun ds ρ Q => ∃ d r, ds = d :: r ∧ g d ρ fun ρ' => gs r ρ' Q) := by
  refine ⟨fun d ρ Q Q' k ⟨x, r, e, q⟩ => ⟨x, r, e, h.mono _ _ _ _ (fun ρ q => h'.mono _ _ _ _ k q) q⟩, fun d ρ Q ⟨x, r, e, q⟩ => ⟨x, r, e, h.mono _ _ _ _ (fun ρ1 ⟨q, k1⟩ => h'.mono _ _ _ _ (fun ρ2 ⟨q, k2⟩ => ⟨q, fun j e hj ho => have ⟨a, b⟩ := k2 j e hj ho; have ⟨c, d⟩ := k1 j e b ho; ⟨fun z => (List.mem_append.mp z).elim c a, d⟩⟩) (h'.keeps _ _ _ q)) (h.keeps _ _ _ q)⟩, (pgs_cons h.run h'.run hs).imp fun v σ H Q ⟨I, ρ, d, A, rv, x, r, e, q⟩ => ?_⟩
  subst e
  cases rv with
  | cons r1 r2 =>
    refine ⟨_, _, rfl, I, ρ, x, A, r1, h.mono _ _ _ _ (fun ρ' q I' σ' H' A' s o => ?_) q⟩
    exact ⟨I', ρ', r, A', r2.mono s.i, h'.mono _ _ _ _ (fun ρ2 q I2 σ2 H2 A2 s2 o2 => q I2 σ2 H2 A2 (s.trans s2) ⟨o2.1.trans o.1, fun j hj => (o2.2 j fun z => hj (List.mem_append_right _ z)).trans (o.2 j fun z => hj (List.mem_append_left _ z))⟩) q⟩
theorem dg_tup {n k : Nat} {js : List Nat} (hc : X.calm = true) (h : DGs F X es js gs) (hn : (assignEach es X.env).length = n := by rfl) (hst : (assignEach es X.env).findIdx? (·.1) = none := by rfl) : DG F X (.Tuple es k pos) js (fun d ρ Q => ∃ ds, d = .tup ds ∧ ds.length = n ∧ gs ds ρ Q) := by
  refine ⟨fun d ρ Q Q' k ⟨ds, e, l, q⟩ => ⟨ds, e, l, h.mono _ _ _ _ k q⟩, fun d ρ Q ⟨ds, e, l, q⟩ => ⟨ds, e, l, h.keeps _ _ _ q⟩, (pg_tup hc h.run hn hst).imp fun v σ H Q ⟨I, ρ, d, A, r, ds, e, l, q⟩ => ?_⟩
  subst e
  cases r with
  | tup a rs => exact ⟨_, _, rfl, Same.seqT A.st.sub a, by rw [rs.length]; exact l, I, ρ, ds, A, rs, q⟩
/-- target = value -/
theorem ds_asg {js : List Nat} (he : DE F X e te) (hg : DG F X tg js g) (hs : swapsWithSole [tg] e pos.line X.env = pure false := by rfl) (hw : swappedStores [tg] e X.env = pure none := by rfl) (h1 : (assignEach [tg] X.env).map (·.2) = [assign tg X.env] := by rfl) : DSt F X (.Assign [tg] e pos) (fun Z ρ => te ρ fun d => g d ρ Z.nx) := by
  refine ⟨fun Z Z' ρ l q => he.mono _ _ _ (fun d q => hg.mono _ _ _ _ l.nx q) q, (ps_asg he.run hg.run hs hw h1).imp fun Z σ H ⟨I, ρ, A, q⟩ => rdE_next he.mono A q fun d v I' H' p s rv => ?_⟩
  exact ⟨I', ρ, d, A.step s, rv, hg.mono _ _ _ _ (fun ρ2 q I2 σ2 H2 A2 s2 _ => q I2 σ2 H2 (Same.trans s.i s2.i) A2) p⟩
theorem ds_set {x : Str} {pos' : Pos} (i : Nat) (he : DE F X e te) (hN : X.N.Nodup) (hi : X.N[i]? = some x := by rfl) (hx : Loc X.env.scope x := by first | exact Or.inl rfl | exact Or.inr rfl) (hs : swapsWith e (some (.Name x pos')) pos.line X.env = pure false := by rfl)
    (hf : X.fn x = true ∨ X.env.scope.names.lookup x = some .local := by first | exact .inl rfl | exact .inr rfl | assumption) : DSt F X (.Assign [.Name x pos'] e pos) (fun Z ρ => te ρ fun d => Z.nx (ρ.set i (some (.dat d)))) := by
  refine ⟨fun Z Z' ρ l q => he.mono _ _ _ (fun d q => l.nx _ q) q, (ps_set hN hi hx he.run hs hf).imp fun Z σ H ⟨I, ρ, A, q⟩ => rdE_next he.mono A q fun d v I' H' p s rv => ?_⟩
  exact p I' _ H' s.i ((A.step s).set rv)
/-- a, b = x, y -/
theorem ds_par {i j : Nat} {x y : Str} {a b : Expr} {ta : DAT} {px py pt : Pos} {kt k2 pt2} (hc : X.calm = true) (hN : X.N.Nodup) (hi : X.N[i]? = some x) (hj : X.N[j]? = some y) (hij : i ≠ j) (hkx : X.env.scope.names.lookup x = some .local) (hky : X.env.scope.names.lookup y = some .local)
    (ha : DA F X [a, b] ta) (hsw : swappedStores [.Tuple [.Name x px, .Name y py] kt pt] (.Tuple [a, b] k2 pt2) X.env = pure (some [x, y]) := by rfl) (hs : swapsWithSole [.Tuple [.Name x px, .Name y py] kt pt] (.Tuple [a, b] k2 pt2) pos.line X.env = pure false := by rfl) : DSt F X (.Assign [.Tuple [.Name x px, .Name y py] kt pt] (.Tuple [a, b] k2 pt2) pos) (fun Z ρ => ta ρ fun ds => ∃ d e, ds = [d, e] ∧ Z.nx ((ρ.set i (some (.dat d))).set j (some (.dat e)))) := by
  refine ⟨fun Z Z' ρ l q => ha.mono _ _ _ (fun d ⟨x, y, e, q⟩ => ⟨x, y, e, l.nx _ q⟩) q, (ps_par hc hN hi hj hij hkx hky ha.run hsw hs).imp fun Z σ H ⟨I, ρ, A, q⟩ => rdA_next ha.mono A q fun ds vs I' H' p s rs => ?_⟩
  obtain ⟨d, e, rfl, q⟩ := p
  cases rs with
  | cons r1 r2 =>
    cases r2 with
    | cons r2 r3 =>
      cases r3
      exact ⟨_, _, rfl, q I' _ H' s.i (((A.step s).set r1).set r2)⟩
end
def startD (N : List Str) (ds : List D) : DEnv := ds.map (fun d => some (Ent.dat d)) ++ List.replicate (N.length - ds.length) none
theorem at_start {W : Wd} {K : PySem.W.Frag} {I H : Hp} {N : List Str} {vs : List V} {ds : List D} (s : StI W I H) (r : Reps K I vs ds) : At ⟨W, H, I⟩ K I (startD N ds) (L2.start N vs) H := by
  refine ⟨s.stp, by simp [startD, L2.start, r.length], fun i e h => ?_, fun i j e e' v hij h1 h2 o1 => ?_⟩
  · unfold startD at h
    by_cases hi : i < ds.length
    · rw [List.getElem?_append_left (by simpa using hi), List.getElem?_map] at h
      cases q : ds[i]? with
      | none => rw [q] at h; cases h
      | some d =>
        rw [q] at h
        cases h
        obtain ⟨v, h1, h2⟩ := r.get q
        refine ⟨v, ?_, .inl ⟨_, rfl, h2⟩⟩
        unfold L2.start
        rw [List.getElem?_append_left (by simpa [r.length] using hi), List.getElem?_map, h1]
        rfl
    · rw [List.getElem?_append_right (by simpa using hi), List.getElem?_replicate] at h
      split at h <;> cases h
  · unfold startD at h1
    by_cases hi : i < ds.length
    · rw [List.getElem?_append_left (by simpa using hi), List.getElem?_map] at h1
      cases q : ds[i]? with
      | none => rw [q] at h1; cases h1
      | some d => rw [q] at h1; cases h1; exact o1.elim
    · rw [List.getElem?_append_right (by simpa using hi), List.getElem?_replicate] at h1
      split at h1 <;> cases h1
def defEnds (Q : D → Prop) : DEnds := ⟨fun _ => Q .non, Q, fun _ => False, fun _ => False, fun _ => False⟩
section
variable {P : Program} {w : World} {K : PySem.W.Frag} {mg : Str → Option Value} {base : Heap}
theorem body_run {F : Fx} {X : Cx} {t : DTS} {body : List Stmt} {N : List Str} {vs : List V} {ds : List D} {Q : VK} {H I : Hp} {W : Wd} (hF : F = ⟨W, H, I⟩) (h : DSts F X body t) (s : StI W I H) (r : Reps X.K I vs ds) (q : t (defEnds (fin F X.K I H Q)) (startD N ds)) :
    rdS F X.K t { nx := fun _ H' => Q .non H', rt := Q } (L2.start N vs) H := by
  subst hF
  exact ⟨I, _, at_start s r, h.mono (defEnds (fin ⟨W, H, I⟩ X.K I H Q)) _ _ ⟨fun ρ q I' σ' H' s A => q _ I' H' A.stp .non, fun d q v I' H' s r => q v I' H' s r, fun _ q => q.elim, fun _ q => q.elim, fun _ q => q.elim⟩ q⟩
/-- a def of the text whose promise may lean on the guards -/
theorem _root_.L2.Fun.gn {CX : CXT} {x qual : Str} {st : Stmt} {f : Addr} {fd : FuncData} {N ps : List Str} {k : Nat} {sp : Sp} (Fn : Fun K x qual st f fd) (Sc : FnScope N ps (defScope st)) (hlen : ∀ vs H Q E, sp vs H Q E → vs.length = ps.length)
    (hb : ∀ (cdv : Value) (A : Around) (below : List Env) (s : Shared) (H : Hp) (vs : List V) (Q : VK) (E : XK), Rm k (A.deeper (envOfC qual (defScope st) s.heap.objs.size f cdv)) → sp vs H Q E →
      ∃ t, PSs (cxOf CX P w K mg base N qual (defScope st) f cdv A below s H E) (defBody st) t ∧ t { nx := fun _ H' => Q .non H', rt := Q } (L2.start N vs) H) : GnOk P w K mg base CX (k + 1) f fd ps sp := by
  obtain ⟨oc, od, kV, doc, pm, an, cdv, ct, osl, rfl, lk, hcd⟩ := Fn.ex
  exact gn_of lk hcd Sc hlen (hb cdv)
/-- a def that lets no exception out -/
theorem _root_.L2.Fun.okD {W : Wd} {S : DSp} {x qual : Str} {st : Stmt} {f : Addr} {fd : FuncData} {N ps : List Str} {k : Nat} (Fn : Fun K x qual st f fd) (Sc : FnScope N ps (defScope st)) (hn : S.n = ps.length)
    (hbody : ∀ (cdv : Value) (A : Around) (outer : List Env) (s : Shared) (H I : Hp) (ds : List D) (Q : D → Prop) (Ed : Ex → Prop) (E : XK), Rm k (A.deeper (envOfC qual (defScope st) s.heap.objs.size f cdv)) → S.f ds Q Ed →
      ∃ t, DSts ⟨W, H, I⟩ (cxOf CX0 P w K mg base N qual (defScope st) f cdv A outer s H E).nox (defBody st) t ∧ t (defEnds Q) (startD N ds)) : GnOk P w K mg base CX0 (k + 1) f fd ps (spD W K S) := by
  refine Fn.gn Sc (fun vs H Q E h => (spD_len _ _ _ _ h).trans hn) fun cdv A outer s H vs Q E hr ⟨I, ds, si, r, h⟩ => ?_
  obtain ⟨t, h1, h2⟩ := hbody cdv A outer s H I ds _ _ E hr h
  exact ⟨_, h1.run.nox, body_run rfl h1 si r h2⟩
end
end Dk
namespace Dk
open PySem L2
open PyProof.Rows (envOfC)
open RZ (ItzT pi_zipA iZipA)
structure JRep (W : Wd) (K : PySem.W.Frag) (J : It) (I : Hp) (ds : List D) : Prop where
  go : ∀ (i : Nat) I2 H2, Same I I2 → StI W I2 H2 → i < ds.length → J.go i H2
  yld : ∀ (i : Nat) I2 H2 x H3, i < ds.length → Same I I2 → StI W I2 H2 → J.yld i H2 x H3 → ∃ d I3, ds[i]? = some d ∧ Stp W I2 H2 I3 H3 ∧ Rep K I3 x d
  stop : ∀ I2 H2, Same I I2 → StI W I2 H2 → J.stop ds.length H2
def finI (F : Fx) (K : PySem.W.Frag) (I H : Hp) (R : It → Hp → Prop) : List D → Prop := fun ds => ∀ J I' H', Stp F.W I H I' H' → JRep F.W K J I' ds → R J H'
def rdI (F : Fx) (K : PySem.W.Frag) (t : DAT) : TI := fun σ H R => ∃ I ρ, At F K I ρ σ H ∧ t ρ (finI F K I H R)
structure DI (F : Fx) (X : Cx) (tg e : Expr) (t : DAT) : Prop where
  mono : ∀ ρ (Q Q' : List D → Prop), (∀ d, Q d → Q' d) → t ρ Q → t ρ Q'
  run : PI X tg e (rdI F X.K t)
section
variable {F : Fx} {X : Cx} {K : PySem.W.Frag} {W : Wd} {I H : Hp} {ρ : DEnv} {σ : St} {tg e e2 : Expr} {te tb : DT} {ta : DAT} {p pos : Pos}
theorem _root_.L2.PI.imp {t u : TI} (h : PI X tg e t) (i : ∀ σ H R, u σ H R → t σ H R) : PI X tg e u := ⟨fun pins s σ H R J q => h.run pins s σ H R J (i σ H R q)⟩
def rngD (lo : Int) (n : Nat) : List D := (List.range n).map fun i => D.int (lo + (i : Nat))
theorem rngD_length (lo : Int) (n : Nat) : (rngD lo n).length = n := by simp [rngD]
theorem jr_range {lo : Int} {n : Nat} : JRep W K (Itr lo n) I (rngD lo n) where
  go := fun i I2 H2 s st hi => by rw [rngD_length] at hi; exact hi
  yld := fun i I2 H2 x H3 hi s st ⟨e, y⟩ => by
    subst e y
    refine ⟨.int (lo + i), I2, ?_, st.stp, .int _⟩
    rw [rngD_length] at hi
    unfold rngD
    rw [List.getElem?_map, List.getElem?_range hi]
    rfl
  stop := fun I2 H2 s st => by show n ≤ _; rw [rngD_length]; exact Nat.le_refl _
def sgnD (x : Str) : List D := x.cps.toList.map fun c => D.str ⟨#[c]⟩
theorem jr_enum {a : Addr} {vs : List V} {ds : List D} (h : I a = some (.lst vs)) (r : Reps K I vs ds) : JRep W K (Ite K a) I (ds.mapIdx fun i d => .tup [.int (i : Nat), d]) where
  go := fun i I2 H2 s st hi => by
    have hv : i < vs.length := by rw [r.length]; simpa using hi
    exact ⟨vs, vs[i], .of (st.sub _ _ (s _ _ h)), by simp [hv]⟩
  yld := fun i I2 H2 v H3 hi s st ⟨T, x, ev, hT, eH, y⟩ => by
    subst ev eH
    obtain ⟨d, h1, h2⟩ := (r.mono s).getV (y vs (.of (st.sub _ _ (s _ _ h))))
    have l := st.laid hT (.tup [.int (i : Nat), x])
    refine ⟨.tup [.int (i : Nat), d], _, ?_, l, .tup (.of upd_same) (.cons (.int _) (.cons (h2.mono l.i) .nil))⟩
    rw [List.getElem?_mapIdx, h1]
    rfl
  stop := fun I2 H2 s st => ⟨vs, .of (st.sub _ _ (s _ _ h)), by simp [r.length]⟩
/-- what a for may walk -/
def itemsD : D → (List D → Prop) → Prop
  | .lst ds, Q => Q ds
  | .tup ds, Q => Q ds
  | .str x, Q => Q (sgnD x)
  | .dfz kvs, Q => Q (kvs.map fun kv => keyD kv.1)
  | _, _ => False
theorem itemsD.mono {d : D} {Q Q' : List D → Prop} (k : ∀ ds, Q ds → Q' ds) (h : itemsD d Q) : itemsD d Q' := by
  cases d <;> first | exact h.elim | exact k _ h
theorem di_range1 (hm : X.mg "range" = none) (ha : DA F X [e] ta) (hg : Gl X "range" := by rfl) (hs : starEach [e] X.env = [(false, eval e X.env)] := by rfl) : DI F X tg (.Call (.Name "range" p) [e] [] pos) (fun ρ Q => ta ρ fun ds => ∃ j : Int, ds = [.int j] ∧ -(2 ^ 62) ≤ j ∧ j < 2 ^ 62 ∧ Q (rngD 0 j.toNat)) := by
  refine ⟨fun ρ Q Q' k q => ha.mono _ _ _ (fun ds ⟨j, e, a, b, q⟩ => ⟨j, e, a, b, k _ q⟩) q, (pi_range1 hg hm ha.run hs).imp fun σ H R ⟨I, ρ, A, q⟩ => rdA_next ha.mono A q fun ds vs I' H' p s rs => ?_⟩
  obtain ⟨j, rfl, a, b, q⟩ := p
  cases rs with
  | cons r1 r2 =>
    cases r2
    cases r1
    exact ⟨j, rfl, a, b, q _ _ _ s jr_range⟩
/-- enumerate of a list, zip of two lists or two tuples -/
theorem di_enum {elts : List Expr} {kk : Nat} {tpos : Pos} (hm : X.mg "enumerate" = none) (ha : DA F X [e] ta) (hg : Gl X "enumerate" := by rfl) (hs : starEach [e] X.env = [(false, eval e X.env)] := by rfl) :
    DI F X (.Tuple elts kk tpos) (.Call (.Name "enumerate" p) [e] [] pos) (fun ρ Q => ta ρ fun ds => ∃ es, ds = [.lst es] ∧ Q (es.mapIdx fun i d => .tup [.int (i : Nat), d])) := by
  refine ⟨fun ρ Q Q' k q => ha.mono _ _ _ (fun ds ⟨i, e, q⟩ => ⟨i, e, k _ q⟩) q, (pi_enum hg hm ha.run hs).imp fun σ H R ⟨I, ρ, A, q⟩ => rdA_next ha.mono A q fun ds vs I' H' p s rs => ?_⟩
  obtain ⟨es, rfl, q⟩ := p
  cases rs with
  | cons r1 r2 =>
    cases r2
    cases r1 with
    | lst a r => exact ⟨_, _, rfl, .of (s.st.sub _ _ a), q _ _ _ s (jr_enum a r)⟩
def zipD : List D → (List D → Prop) → Prop
  | [.lst xs, .lst ys], Q => Q (List.zipWith (fun d e => .tup [d, e]) xs ys)
  | [.tup xs, .tup ys], Q => Q (List.zipWith (fun d e => .tup [d, e]) xs ys)
  | _, _ => False
theorem zipD.mono {ds : List D} {Q Q' : List D → Prop} (k : ∀ ds, Q ds → Q' ds) (h : zipD ds Q) : zipD ds Q' := by
  unfold zipD at h ⊢
  split at h <;> first | exact k _ h | exact h.elim
end
def forD (g : DGT) (tb : DTS) (Z : DEnds) : List D → DEnv → Prop
  | [], ρ => Z.nx ρ
  | d :: ds, ρ => g d ρ fun ρ2 => tb { Z with nx := forD g tb Z ds, ct := forD g tb Z ds, bk := Z.nx } ρ2
theorem forD.mono {F : Fx} {X : Cx} {tg : Expr} {js : List Nat} {g : DGT} {body : List Stmt} {tb : DTS} (hg : DG F X tg js g) (hb : DSts F X body tb) {Z Z' : DEnds} (l : DEnds.le Z Z') : ∀ (ds : List D) (ρ : DEnv), forD g tb Z ds ρ → forD g tb Z' ds ρ
  | [], ρ, h => l.nx _ h
  | d :: ds, ρ, h => hg.mono _ _ _ _ (fun ρ2 q => hb.mono { Z with nx := forD g tb Z ds, ct := forD g tb Z ds, bk := Z.nx } _ _ ⟨forD.mono hg hb l ds, l.rt, l.nx, forD.mono hg hb l ds, l.ro⟩ q) h
section
variable {F : Fx} {X : Cx} {tg iter c : Expr} {js : List Nat} {g : DGT} {body : List Stmt} {tb : DTS} {ti : DAT} {tc : DB} {pos : Pos}
theorem ds_for (hp : PassesOwn (model X.prog X.w) X.A X.env X.xe) (hc : X.calm = true) (hi : DI F X tg iter ti) (hg : DG F X tg js g) (hb : DSts F X body tb) (hs : ∀ x, foldedSetIterable iter X.env x = pure x := by intro _; rfl) : DSt F X (.For tg iter body [] pos) (fun Z ρ => ti ρ fun ds => forD g tb Z ds ρ) := by
  refine ⟨fun Z Z' ρ l q => hi.mono _ _ _ (fun ds => forD.mono hg hb l ds ρ) q, (ps_for hp hc hi.run hg.run hb.run hs).imp fun Z σ H ⟨I, ρ, A, q⟩ => ?_⟩
  refine ⟨I, ρ, A, hi.mono _ _ _ (fun ds q J I' H' s jr => ?_) q⟩
  refine ⟨fun i m σ' H2 => m = ds.length - i ∧ i ≤ ds.length ∧ ∃ I2 ρ2, At F X.K I2 ρ2 σ' H2 ∧ Same I' I2 ∧ forD g tb (ends F X.K I' Z) (ds.drop i) ρ2, ⟨ds.length, by simp, Nat.zero_le _, I', ρ, A.step s, Same.refl _, by simpa using forD.mono hg hb (ends.le s.i) ds ρ q⟩, ?_⟩
  rintro i m σ' H2 ⟨rfl, hi', I2, ρ2, A2, s2, q2⟩
  by_cases hlt : i < ds.length
  · refine .inr ⟨jr.go i I2 H2 s2 A2.st hlt, fun σ3 H3 => ∃ I3 ρ3, At F X.K I3 ρ3 σ3 H3 ∧ Same I' I3 ∧ forD g tb (ends F X.K I' Z) (ds.drop (i + 1)) ρ3, fun σ3 H3 ⟨I3, ρ3, A3, s3, q3⟩ => ⟨ds.length - (i + 1), by omega, rfl, hlt, I3, ρ3, A3, s3, q3⟩, fun x H3 y => ?_⟩
    obtain ⟨d, I3, hd, st3, rx⟩ := jr.yld i I2 H2 x H3 hlt s2 A2.st y
    rw [List.drop_eq_getElem_cons hlt] at q2
    have hd' : ds[i] = d := by
      rw [List.getElem?_eq_getElem hlt] at hd
      exact Option.some.inj hd
    rw [hd'] at q2
    refine ⟨I3, ρ2, d, A2.step st3, rx, hg.mono _ _ _ _ (fun ρ4 q4 I4 σ4 H4 A4 s4 _ => ?_) q2⟩
    have s4' : Same I' I4 := Same.trans (Same.trans s2 st3.i) s4.i
    refine ⟨I4, ρ4, A4, hb.mono { ends F X.K I' Z with nx := forD g tb (ends F X.K I' Z) (ds.drop (i + 1)), ct := forD g tb (ends F X.K I' Z) (ds.drop (i + 1)), bk := (ends F X.K I' Z).nx } _ _ ⟨fun ρ5 q5 I5 σ5 H5 s5 A5 => ⟨I5, ρ5, A5, Same.trans s4' s5, q5⟩, fun d q => q, fun ρ5 q5 I5 σ5 H5 s5 A5 => q5 I5 σ5 H5 (Same.trans s4' s5) A5, fun ρ5 q5 I5 σ5 H5 s5 A5 => ⟨I5, ρ5, A5, Same.trans s4' s5, q5⟩, fun d q => q⟩ q4⟩
  · have e : i = ds.length := by omega
    subst e
    rw [List.drop_length] at q2
    exact .inl ⟨jr.stop I2 H2 s2 A2.st, q2 _ _ _ s2 A2⟩
end
end Dk
namespace Dk
open PySem L2
open PyProof.Rows (envOfC)
def wipeD (ρ : DEnv) : List Nat → DEnv
  | [] => ρ
  | v :: vs => (wipeD ρ vs).set v none
theorem wipeD_length (ρ : DEnv) : ∀ vs : List Nat, (wipeD ρ vs).length = ρ.length
  | [] => rfl
  | v :: vs => by unfold wipeD; rw [List.length_set, wipeD_length ρ vs]
theorem wipeD_some {ρ : DEnv} {i : Nat} {e : Ent} : ∀ {vs : List Nat}, (wipeD ρ vs)[i]? = some (some e) → ρ[i]? = some (some e) ∧ i ∉ vs
  | [], h => ⟨h, by simp⟩
  | v :: vs, h => by
    unfold wipeD at h
    rcases set_at h with ⟨_, q⟩ | ⟨hn, q⟩
    · cases q
    · obtain ⟨h1, h2⟩ := wipeD_some q
      exact ⟨h1, by simp [Ne.symm hn, h2]⟩
theorem wipe_at {σ : St} : ∀ {vs : List Nat} {i : Nat}, i ∈ vs → (wipe σ vs)[i]? ≠ some none → i ≥ σ.length
  | [], _, h, _ => by simp at h
  | v :: vs, i, h, hn => by
    unfold wipe at hn
    by_cases e : v = i
    · subst e
      rw [List.getElem?_set] at hn
      simp at hn
      rw [wipe_length] at hn
      exact hn
    · rw [List.getElem?_set_ne e] at hn
      exact wipe_at (by simpa [Ne.symm e] using h) hn
theorem wipe_only {σ σ' : St} {js vs : List Nat} (o : Only js σ σ') (h : ∀ j ∈ js, j ∈ vs) : wipe σ' vs = wipe σ vs := by
  have hl := o.1
  apply List.ext_getElem?
  intro i
  by_cases hi : i ∈ vs
  · by_cases hlt : i < σ.length
    · have a : (wipe σ vs)[i]? = some none := Classical.byContradiction fun z => absurd (wipe_at hi z) (by omega)
      have b : (wipe σ' vs)[i]? = some none := Classical.byContradiction fun z => absurd (wipe_at hi z) (by omega)
      rw [a, b]
    · rw [List.getElem?_eq_none (by rw [wipe_length]; omega), List.getElem?_eq_none (by rw [wipe_length]; omega)]
  · rw [wipe_out hi, wipe_out hi]
    exact o.2 i fun z => hi (h i z)
theorem wipe_wipe (σ : St) (vs : List Nat) : wipe (wipe σ vs) vs = wipe σ vs := by
  apply List.ext_getElem?
  intro i
  by_cases hi : i ∈ vs
  · by_cases hlt : i < σ.length
    · have a : (wipe σ vs)[i]? = some none := Classical.byContradiction fun z => absurd (wipe_at hi z) (by omega)
      have b : (wipe (wipe σ vs) vs)[i]? = some none := Classical.byContradiction fun z => absurd (wipe_at hi z) (by rw [wipe_length]; omega)
      rw [a, b]
    · rw [List.getElem?_eq_none (by rw [wipe_length, wipe_length]; omega), List.getElem?_eq_none (by rw [wipe_length]; omega)]
  · rw [wipe_out hi]
section
variable {F : Fx} {K : PySem.W.Frag} {I H I' H' : Hp} {ρ : DEnv} {σ : St}
theorem At.wipe (a : At F K I ρ σ H) (vs : List Nat) : At F K I (wipeD ρ vs) (wipe σ vs) H := by
  refine ⟨a.stp, by rw [wipeD_length, wipe_length]; exact a.len, fun i e h => ?_, fun i j e e' v hij h1 h2 o1 o2 hv => ?_⟩
  · obtain ⟨h1, h2⟩ := wipeD_some h
    obtain ⟨v, h3, h4⟩ := a.env i e h1
    exact ⟨v, by rw [wipe_out h2]; exact h3, h4⟩
  · obtain ⟨h3, h4⟩ := wipeD_some h1
    obtain ⟨h5, h6⟩ := wipeD_some h2
    rw [wipe_out h4] at hv
    rw [wipe_out h6]
    exact a.dis i j e e' v hij h3 h5 o1 o2 hv
/-- D is no list of a slot's own -/
def Apart (ρ : DEnv) (σ : St) (D : Addr) : Prop := ∀ (i : Nat) e, ρ[i]? = some (some e) → e.isOwn → σ[i]? ≠ some (some (.ref D))
theorem At.apart (a : At F K I ρ σ H) {D : Addr} (h : H D = none) : Apart ρ σ D := fun i e he o hv => by
  obtain ⟨v, h1, h2⟩ := a.env i e he
  rw [hv] at h1
  cases h1
  obtain ⟨p, u, q, w⟩ := h2.own o
  cases q
  rw [w.hp] at h
  cases h
theorem At.write (a : At F K I ρ σ H) {D : Addr} (o : HO) (hI : I D = none) (hm : ¬ F.W.mv D) (hB : F.B D = none) (hp : Apart ρ σ D) : At F K I ρ σ (upd H D o) := by
  refine ⟨⟨a.stp.i, ⟨fun b u e => ?_, a.st.imm, F.W.frame (.refl _) (fun b m => upd_ne fun z => hm (z ▸ m)) a.st.inv⟩, fun b u e m => ?_, a.stp.new⟩, a.len, fun i e h => ?_, a.dis⟩
  · rw [upd_ne (ne_of_none e hI)]; exact a.st.sub _ _ e
  · rw [upd_ne (ne_of_none e hB)]; exact a.stp.h _ _ e m
  · obtain ⟨v, h1, h2⟩ := a.env i e h
    refine ⟨v, h1, ?_⟩
    rcases h2 with ⟨d, rfl, r⟩ | ⟨p, u, rfl, w⟩
    · exact .inl ⟨d, rfl, r⟩
    · exact .inr ⟨p, u, rfl, by rw [upd_ne fun z => by subst z; exact hp i _ h w.rep.isOwn h1]; exact w.hp, w.rep, w.ni, w.nm, w.nb, w.ad⟩
theorem Stp.write {W : Wd} (s : Stp W I H I' H') {D : Addr} (o : HO) (hI : I' D = none) (hm : ¬ W.mv D) (hn : H D = none) : Stp W I H I' (upd H' D o) := by
  refine ⟨s.i, ⟨fun b u e => ?_, s.st.imm, W.frame (.refl _) (fun b m => upd_ne fun z => hm (z ▸ m)) s.st.inv⟩, fun b u e m => ?_, s.new⟩
  · rw [upd_ne (ne_of_none e hI)]; exact s.st.sub _ _ e
  · rw [upd_ne (ne_of_none e hn)]; exact s.h _ _ e m
/-- what was made since stands still from now on -/
theorem Stp.freeze {W : Wd} (s : Stp W I H I' H') {D : Addr} {o : HO} (hI : I' D = none) (hm : ¬ W.mv D) (hn : H D = none) (hD : H' D = some o) : Stp W I H (upd I' D o) H' := by
  refine ⟨fun b u e => ?_, ⟨fun b u e => ?_, fun b u e => ?_, W.frame (.of fun b u e => by rw [upd_ne (ne_of_none e hI)]; exact e) (fun _ _ => rfl) s.st.inv⟩, s.h, fun b u e n => ?_⟩
  · have e' := s.i _ _ e
    rw [upd_ne (ne_of_none e' hI)]; exact e'
  · by_cases hb : b = D
    · subst hb; rw [upd_same] at e; cases e; exact hD
    · rw [upd_ne hb] at e; exact s.st.sub _ _ e
  · by_cases hb : b = D
    · subst hb; exact hm
    · rw [upd_ne hb] at e; exact s.st.imm _ _ e
  · rw [upd_ne (ne_of_none e hn)]; exact s.new _ _ e n
theorem Same.laid {I : Hp} {D : Addr} {o : HO} (h : I D = none) : Same I (upd I D o) := fun b u e => by rw [upd_ne (ne_of_none e h)]; exact e
end
/-- a comprehension's tests -/
structure DIfs (F : Fx) (X : Cx) (ifs : List Expr) (t : DB) : Prop where
  mono : ∀ ρ (Q Q' : Bool → Prop), (∀ d, Q d → Q' d) → t ρ Q → t ρ Q'
  run : PTs X ifs (rdT F X.K t)
theorem _root_.L2.PTs.imp {X : Cx} {ifs : List Expr} {t u : TT} (h : PTs X ifs t) (i : ∀ σ H Q, u σ H Q → t σ H Q) : PTs X ifs u := ⟨fun pins s σ H Q J q => h.run pins s σ H Q J (i σ H Q q)⟩
theorem dif_nil {F : Fx} {X : Cx} : DIfs F X [] (fun _ Q => Q true) := ⟨fun _ _ _ k q => k _ q, pts_nil.imp fun σ H Q ⟨I, ρ, A, q⟩ => q I H A.st.stp⟩
def lcD (g : DGT) (tc : DB) (te : DT) (ρ : DEnv) : List D → (List D → Prop) → Prop
  | [], Q => Q []
  | d :: ds, Q => g d ρ fun ρ2 => tc ρ2 fun b => if b = true then te ρ2 fun y => lcD g tc te ρ ds fun ys => Q (y :: ys) else lcD g tc te ρ ds Q
section
variable {F : Fx} {X Y : Cx} {elt tg iter : Expr} {ifs : List Expr} {scope : Scope} {own : List (Str × Nat)} {pos : Pos} {ti : DAT} {js : List Nat} {g : DGT} {tc : DB} {te : DT}
theorem lcD.mono (hg : DG F Y tg js g) (ht : DIfs F Y ifs tc) (he : DE F Y elt te) (ρ : DEnv) : ∀ (ds : List D) (Q Q' : List D → Prop), (∀ ys, Q ys → Q' ys) → lcD g tc te ρ ds Q → lcD g tc te ρ ds Q'
  | [], Q, Q', k, h => k _ h
  | d :: ds, Q, Q', k, h => hg.mono _ _ _ _ (fun ρ2 q => ht.mono _ _ _ (fun b q => by
      cases b
      · exact lcD.mono hg ht he ρ ds _ _ k q
      · exact he.mono _ _ _ (fun y q => lcD.mono hg ht he ρ ds _ _ (fun ys => k _) q) q) q) h
/-- the reading of the block -/
theorem lc_run {vs : List Nat} {K : PySem.W.Frag} (hgm : ∀ d ρ (Q Q' : DEnv → Prop), (∀ ρ, Q ρ → Q' ρ) → g d ρ Q → g d ρ Q') (htm : ∀ ρ (Q Q' : Bool → Prop), (∀ d, Q d → Q' d) → tc ρ Q → tc ρ Q') (hem : ∀ ρ (Q Q' : D → Prop), (∀ d, Q d → Q' d) → te ρ Q → te ρ Q')
    (him : ∀ ρ (Q Q' : List D → Prop), (∀ d, Q d → Q' d) → ti ρ Q → ti ρ Q') (hjs : ∀ j ∈ js, j ∈ vs) {σ : St} {H : Hp} {Q : VK} {I : Hp} {ρ : DEnv} (A : At F K I ρ σ H) {P : List D → Prop}
    (q : ti ρ fun ds => ds.length ≤ sizeLine ∧ lcD g tc te (wipeD ρ vs) ds P) (hP : ∀ ys, P ys → ∀ p I' H', Stp F.W I H I' H' → H p = none → I' p = none → F.B p = none → ¬ F.W.mv p → (∃ ws, H' p = some (.lst ws) ∧ Reps K I' ws ys) → Q (.ref p) H') :
    tLc (rdI F K ti) (rdG F K js g) (rdT F K tc) (rdE F K te) vs σ H Q := by
  refine ⟨I, ρ, A, him _ _ _ (fun ds q J I1 H1 s jr E hE => ?_) q⟩
  obtain ⟨hl, q⟩ := q
  have A1 := (A.step s).wipe vs
  have hp : Apart (wipeD ρ vs) (wipe σ vs) E := A1.apart hE
  have hI1 : I1 E = none := s.st.free hE
  have hm : ¬ F.W.mv E := fun m => F.W.live s.st.inv m hE
  have hB : F.B E = none := by
    cases z : F.B E with
    | none => rfl
    | some u => have := A1.stp.h _ _ z hm; rw [hE] at this; cases this
  have hHE : H E = none := by
    cases z : H E with
    | none => rfl
    | some u => have := s.h _ _ z hm; rw [hE] at this; cases this
  refine ⟨fun i m H2 => m = ds.length - i ∧ i ≤ ds.length ∧ ∃ I2 ws ys, At F K I2 (wipeD ρ vs) (wipe σ vs) H2 ∧ Stp F.W I1 H1 I2 H2 ∧ H2 E = some (.lst ws) ∧ I2 E = none ∧ Reps K I2 ws ys ∧ ws.length ≤ i ∧ lcD g tc te (wipeD ρ vs) (ds.drop i) (fun zs => P (ys ++ zs)),
    ⟨ds.length, by simp, Nat.zero_le _, I1, [], [], A1.write _ hI1 hm hB hp, s.st.stp.write _ hI1 hm hE, upd_same, hI1, .nil, Nat.zero_le _, by simpa using q⟩, ?_⟩
  rintro i m H2 ⟨rfl, hi, I2, ws, ys, A2, s2, h2, n2, r2, l2, q2⟩
  by_cases hlt : i < ds.length
  · refine .inr ⟨jr.go i I2 H2 s2.i A2.st hlt, fun H3 => ∃ I3 ws3 ys3, At F K I3 (wipeD ρ vs) (wipe σ vs) H3 ∧ Stp F.W I1 H1 I3 H3 ∧ H3 E = some (.lst ws3) ∧ I3 E = none ∧ Reps K I3 ws3 ys3 ∧ ws3.length ≤ i + 1 ∧ lcD g tc te (wipeD ρ vs) (ds.drop (i + 1)) (fun zs => P (ys3 ++ zs)),
      fun H3 h => ⟨ds.length - (i + 1), by omega, rfl, hlt, h⟩, fun x H3 y => ?_⟩
    obtain ⟨d, I3, hd, st3, rx⟩ := jr.yld i I2 H2 x H3 hlt s2.i A2.st y
    rw [List.drop_eq_getElem_cons hlt] at q2
    rw [List.getElem?_eq_getElem hlt] at hd
    rw [Option.some.inj hd] at q2
    refine ⟨I3, wipeD ρ vs, d, A2.step st3, rx, hgm _ _ _ _ (fun ρ4 q4 I4 σ4 H4 A4 st4 o4 => ⟨(wipe_only o4 hjs).trans (wipe_wipe σ vs), ?_⟩) q2⟩
    refine rdT_next htm A4 q4 fun b I5 H5 q5 st5 => ?_
    have s25 : Stp F.W I2 H2 I5 H5 := (st3.trans st4).trans st5
    cases b
    · exact ⟨I5, ws, ys, A2.step s25, s2.trans s25, s25.h _ _ h2 hm, s25.new _ _ h2 n2, r2.mono s25.i, by omega, q5⟩
    · refine rdE_next hem (A4.step st5) q5 fun y' v I6 H6 q6 st6 rv => ?_
      have s26 : Stp F.W I2 H2 I6 H6 := s25.trans st6
      have n6 := s26.new _ _ h2 n2
      refine ⟨ws, s26.h _ _ h2 hm, by omega, I6, ws ++ [v], ys ++ [y'], (A2.step s26).write _ n6 hm hB hp, (s2.trans s26).write _ n6 hm hE, upd_same, n6, (r2.mono s26.i).append (.cons rv .nil), by simp; omega, ?_⟩
      simpa using q6
  · have e : i = ds.length := by omega
    subst e
    rw [List.drop_length] at q2
    refine .inl ⟨jr.stop I2 H2 s2.i A2.st, hP ys (by simpa [lcD] using q2) E I2 H2 (s.trans s2) hHE n2 hB hm ⟨ws, h2, r2⟩⟩
theorem de_lc (hc : X.calm = true) (hN : X.N.Nodup) (hi : DI F X tg iter ti) (ok : BlkOk X.N X.env.scope scope own)
    (hg : ∀ (s : Shared) (H : Hp) (C : Addr) (cl : List (Str × Addr)) (fp : List Addr), DG F (X.blk s H scope (compEnvC scope cl C X.env) fp) tg js g)
    (ht : ∀ (s : Shared) (H : Hp) (C : Addr) (cl : List (Str × Addr)) (fp : List Addr), DIfs F (X.blk s H scope (compEnvC scope cl C X.env) fp) ifs tc)
    (he : ∀ (s : Shared) (H : Hp) (C : Addr) (cl : List (Str × Addr)) (fp : List Addr), DE F (X.blk s H scope (compEnvC scope cl C X.env) fp) elt te)
    (hjs : ∀ j ∈ js, j ∈ own.map (·.2) := by decide) (hs : ∀ x, foldedSetIterable iter X.env x = pure x := by intro _; rfl) :
    DE F X (.ListComp elt [⟨tg, iter, ifs, 0⟩] scope pos) (fun ρ Q => ti ρ fun ds => ds.length ≤ sizeLine ∧ lcD g tc te (wipeD ρ (own.map (·.2))) ds fun ys => Q (.lst ys)) := by
  have g0 := hg X.s_0 X.H_0 0 [] []
  have t0 := ht X.s_0 X.H_0 0 [] []
  have e0 := he X.s_0 X.H_0 0 [] []
  refine ⟨fun ρ Q Q' k q => hi.mono _ _ _ (fun ds q => ⟨q.1, lcD.mono g0 t0 e0 _ _ _ _ (fun ys => k _) q.2⟩) q, (pe_lc (g := rdG F X.K js g) (tt := rdT F X.K tc) (te := rdE F X.K te) hc hN hi.run ok (fun s H C cl fp => (hg s H C cl fp).run) (fun s H C cl fp => (ht s H C cl fp).run) (fun s H C cl fp => (he s H C cl fp).run) hs).imp fun σ H Q ⟨I, ρ, A, q⟩ => ?_⟩
  refine lc_run g0.mono t0.mono e0.mono hi.mono hjs A q fun ys q p I' H' s hp ip bp mp ⟨ws, h, r⟩ => ?_
  exact q _ _ _ (s.freeze ip mp hp h) (.lst upd_same (r.mono (Same.laid ip)))
end
end Dk
namespace Dk
open PySem L2
def ixD : D → D → (D → Prop) → Prop
  | .lst xs, .int i, Q => ∃ d, atI xs i = some d ∧ Q d
  | .tup xs, .int i, Q => ∃ d, atI xs i = some d ∧ Q d
  | .str z, .int i, Q => z.length ≤ sizeLine ∧ ∃ c, atI z.cps.toList i = some c ∧ Q (.str ⟨#[c]⟩)
  | .dic kvs, y, Q => ∃ k d, y = keyD k ∧ lookD kvs k = some d ∧ Q d
  | .dfz kvs, y, Q => ∃ k d, y = keyD k ∧ lookD kvs k = some d ∧ Q d
  | _, _, _ => False
theorem mono_ix : Mono2 ixD := by
  intro x y Q Q' k h
  cases x <;> cases y <;> first | exact h.elim | (obtain ⟨d, e, q⟩ := h; exact ⟨d, e, k _ q⟩) | (obtain ⟨l, d, e, q⟩ := h; exact ⟨l, d, e, k _ q⟩) | (obtain ⟨l, d, e, e2, q⟩ := h; exact ⟨l, d, e, e2, k _ q⟩)
def rIxG (K : PySem.W.Frag) : R2 := fun x y H Q => rIx K x y H Q ∨ ∃ a v, x = .ref a ∧ DGet H a y (some v) ∧ Q v H
theorem ix_dict {X : Cx} (hu : X.A.units + 64 < cLine) : IxR X (fun x y H Q => ∃ a v, x = .ref a ∧ DGet H a y (some v) ∧ Q v H) := by
  intro value slice pins s σ H x y v u Q J rx ry h hs
  obtain ⟨a, w, rfl, g, q⟩ := h
  cases rx
  exact PyProof.Rows.tail_any (dict_typeIs J g) PySem.F.slot_dict_getitem.lookup (d_getItem (by omega) J g ry fun w' s3 J3 rw' => ⟨w, H, J3, rw', q⟩) hs
theorem ix_all {X : Cx} (hu : X.A.units + 64 < cLine) : IxR X (rIxG X.K) := ix_seq.or (ix_dict hu)
theorem Reps.atI {K : PySem.W.Frag} {I : Hp} {vs : List V} {ds : List D} {i : Int} {d : D} (r : Reps K I vs ds) (h : atI ds i = some d) : ∃ v, L2.atI vs i = some v ∧ Rep K I v d := by
  unfold L2.atI at h ⊢
  rw [r.length]
  cases e : ixN ds.length i with
  | none => rw [e] at h; cases h
  | some j =>
    rw [e] at h
    obtain ⟨v, h1, h2⟩ := r.get (show ds[j]? = some d from h)
    exact ⟨v, h1, h2⟩
section
variable {F : Fx} {X : Cx} {K : PySem.W.Frag} {I H : Hp} {a b e : Expr} {ta tb te : DT} {pos p2 : Pos}
theorem lf_ix : LiftR F K (rIxG K) ixD := by
  intro x y dx dy I H Q st rx ry h
  cases dx with
  | dic kvs =>
    obtain ⟨k, d, rfl, e, q⟩ := h
    cases rx with
    | @dic p ws _ a kk r =>
      rcases lookD_rep (k := k) kk r with ⟨_, z⟩ | ⟨v, d', h1, h2, h3⟩
      · rw [e] at z; cases z
      · rw [e] at h2
        cases h2
        refine .inr ⟨p, v, rfl, .inl ⟨ws, k, .of (st.sub _ _ a), keyD_rep ry, h1.symm⟩, q _ I H st.stp h3⟩
  | dfz kvs =>
    obtain ⟨k, d, rfl, e, q⟩ := h
    cases rx with
    | @dfz p _ ws _ a kk r =>
      rcases lookD_rep (k := k) kk r with ⟨_, z⟩ | ⟨v, d', h1, h2, h3⟩
      · rw [e] at z; cases z
      · rw [e] at h2
        cases h2
        refine .inr ⟨p, v, rfl, .inl ⟨ws, k, .inr ⟨_, st.sub _ _ a⟩, keyD_rep ry, h1.symm⟩, q _ I H st.stp h3⟩
  | str z =>
    cases dy <;> first | exact h.elim | skip
    cases rx; cases ry
    obtain ⟨l, c, e, q⟩ := h
    exact .inl (.inr (.inr ⟨_, _, c, rfl, rfl, l, e, q _ I H st.stp (.str _)⟩))
  | tup xs =>
    cases dy <;> first | exact h.elim | skip
    cases ry
    cases rx with
    | tup a r =>
      obtain ⟨d, e, q⟩ := h
      obtain ⟨v, h1, h2⟩ := r.atI e
      exact .inl (.inr (.inl ⟨_, _, _, v, rfl, rfl, Same.seqT st.sub a, h1, q _ I H st.stp h2⟩))
  | lst xs =>
    cases dy <;> first | exact h.elim | skip
    cases ry
    cases rx with
    | lst a r =>
      obtain ⟨d, e, q⟩ := h
      obtain ⟨v, h1, h2⟩ := r.atI e
      exact .inl (.inl ⟨_, _, _, v, rfl, rfl, .of (st.sub _ _ a), h1, q _ I H st.stp h2⟩)
  | _ => cases dy <;> exact h.elim
theorem de_at (hu : X.A.units + 64 < cLine) (ha : DE F X a ta) (hb : DE F X b tb) (hs : PlainIx b := by exact fun _ _ => rfl) : DE F X (.Subscript a b pos) (fun ρ Q => ta ρ fun x => tb ρ fun y => ixD x y Q) := de_ix mono_ix (ix_all hu) lf_ix ha hb hs
/-- parts of a slice -/
abbrev DOT := DEnv → (Option Int → Prop) → Prop
def rdO (F : Fx) (K : PySem.W.Frag) (t : DOT) : TO := fun σ H Q => ∃ I ρ, At F K I ρ σ H ∧ t ρ fun o => ∀ I' H', Stp F.W I H I' H' → Q o H'
structure DO (F : Fx) (X : Cx) (e : Option Expr) (t : DOT) : Prop where
  mono : ∀ ρ (Q Q' : Option Int → Prop), (∀ d, Q d → Q' d) → t ρ Q → t ρ Q'
  run : PO X e (rdO F X.K t)
theorem _root_.L2.PO.imp {e : Option Expr} {t u : TO} (h : PO X e t) (i : ∀ σ H Q, u σ H Q → t σ H Q) : PO X e u := ⟨fun pins s σ H Q J q => h.run pins s σ H Q J (i σ H Q q)⟩
theorem do_none : DO F X none (fun _ Q => Q none) := ⟨fun _ _ _ k q => k _ q, po_none.imp fun σ H Q ⟨I, ρ, A, q⟩ => q I H A.st.stp⟩
def intD (d : D) (Q : Int → Prop) : Prop := ∃ i, d = .int i ∧ Q i
theorem do_some (h : DE F X e te) : DO F X (some e) (fun ρ Q => te ρ fun d => intD d fun i => Q (some i)) := by
  refine ⟨fun _ _ _ k q => h.mono _ _ _ (fun d ⟨i, e, q⟩ => ⟨i, e, k _ q⟩) q, (po_some h.run).imp fun σ H Q ⟨I, ρ, A, q⟩ => rdE_next h.mono A q fun d v I' H' p s rv => ?_⟩
  obtain ⟨i, rfl, p⟩ := p
  cases rv
  exact ⟨i, rfl, p I' H' s⟩
def cutD (xs : List D) (lo hi : Option Int) : List D := (xs.drop (HT.sIx xs.length 0 lo)).take (HT.sIx xs.length xs.length hi - HT.sIx xs.length 0 lo)
def sliceD : D → Option Int → Option Int → (D → Prop) → Prop
  | .lst xs, lo, hi, Q => Q (.lst (cutD xs lo hi))
  | .tup xs, lo, hi, Q => Q (.tup (cutD xs lo hi))
  | .str z, lo, hi, Q => z.length ≤ sizeLine ∧ Q (.str (cutS z lo hi))
  | _, _, _, _ => False
theorem sliceD.mono {d : D} {lo hi : Option Int} {Q Q' : D → Prop} (k : ∀ d, Q d → Q' d) (h : sliceD d lo hi Q) : sliceD d lo hi Q' := by
  cases d <;> first | exact h.elim | exact k _ h | exact ⟨h.1, k _ h.2⟩
theorem de_slice {lo hi : Option Expr} {tl th : DOT} (he : DE F X e te) (hl : DO F X lo tl) (hh : DO F X hi th) : DE F X (.Subscript e (.Slice lo hi none p2) pos) (fun ρ Q => te ρ fun d => tl ρ fun l => th ρ fun u => sliceD d l u Q) := by
  refine ⟨fun ρ Q Q' k q => he.mono _ _ _ (fun d q => hl.mono _ _ _ (fun l q => hh.mono _ _ _ (fun u => sliceD.mono k) q) q) q, (pe_slice (sl_list.or (sl_tupA.or sl_str)) he.run hl.run hh.run).imp fun σ H Q ⟨I, ρ, A, q⟩ => rdE_next he.mono A q fun d v I1 H1 q1 s1 rv => ?_⟩
  refine ⟨I1, ρ, A.step s1, hl.mono _ _ _ (fun l q2 I2 H2 s2 => ?_) q1⟩
  refine ⟨I2, ρ, (A.step s1).step s2, hh.mono _ _ _ (fun u q3 I3 H3 s3 => ?_) q2⟩
  have s := (s1.trans s2).trans s3
  have rv := rv.mono (Same.trans s2.i s3.i)
  cases rv with
  | @lst q zs es a r =>
    refine .inl ⟨_, _, rfl, .of (s3.st.sub _ _ a), fun p hp => ?_⟩
    have l' := s3.st.laid hp (.lst (cutV zs l u))
    exact q3 _ _ _ (s.trans l') (.lst upd_same ((r.cut l u).mono l'.i))
  | @tup q zs es a r =>
    refine .inr (.inl ⟨_, _, rfl, Same.seqT s3.st.sub a, fun hw => ?_, fun hw p hp => ?_⟩)
    · have e : cutD es l u = es := by
        unfold cutD
        rw [← r.length, hw.1, hw.2, Nat.sub_zero, List.drop_zero, r.length, List.take_length]
      have q3 : fin F X.K I H Q (.tup (cutD es l u)) := q3
      rw [e] at q3
      exact q3 _ _ _ s (.tup a r)
    · have l' := s3.st.laid hp (.tup (cutV zs l u))
      exact q3 _ _ _ (s.trans l') (.tup (.of upd_same) ((r.cut l u).mono l'.i))
  | str z => exact .inr (.inr ⟨_, rfl, q3.1, q3.2 _ _ _ s (.str _)⟩)
  | non => exact q3.elim
  | bl _ => exact q3.elim
  | int _ => exact q3.elim
  | dic _ _ _ => exact q3.elim
  | obj _ _ _ => exact q3.elim
  | opq _ => exact q3.elim
  | exc0 _ => exact q3.elim
  | exc1 _ _ _ _ => exact q3.elim
  | dfz _ _ _ => exact q3.elim
  | ptp _ _ _ => exact q3.elim
end
def lenD : List D → (D → Prop) → Prop
  | [.lst xs], Q => Q (.int xs.length)
  | [.tup xs], Q => Q (.int xs.length)
  | [.str z], Q => z.length ≤ sizeLine ∧ Q (.int z.length)
  | _, _ => False
def listD : List D → (D → Prop) → Prop
  | [.lst xs], Q => Q (.lst xs)
  | [.tup xs], Q => Q (.lst xs)
  | _, _ => False
section
variable {F : Fx} {X : Cx} {K : PySem.W.Frag}
theorem Reps.one {I : Hp} {vs : List V} {d : D} (h : Reps K I vs [d]) : ∃ v, vs = [v] ∧ Rep K I v d := by
  cases h with
  | cons a b => cases b; exact ⟨_, rfl, a⟩
theorem Reps.two {I : Hp} {vs : List V} {d e : D} (h : Reps K I vs [d, e]) : ∃ v w, vs = [v, w] ∧ Rep K I v d ∧ Rep K I w e := by
  cases h with
  | cons a b =>
    obtain ⟨w, rfl, r⟩ := b.one
    exact ⟨_, _, rfl, a, r⟩
theorem mono_lenD : MonoN lenD := by
  intro ds Q Q' k h
  unfold lenD at h ⊢
  split at h <;> first | exact h.elim | exact k _ h | exact ⟨h.1, k _ h.2⟩ | (obtain ⟨n, e, q⟩ := h; exact ⟨n, e, k _ q⟩) | (obtain ⟨n, e, l, q⟩ := h; exact ⟨n, e, l, k _ q⟩)
theorem lc_len : LiftC F K (fun xs H Q => ∃ x n, xs = [x] ∧ LenV K x H n ∧ Q (.int n) H) lenD := by
  intro vs ds I H Q st rs h
  unfold lenD at h
  split at h
  · obtain ⟨v, rfl, r⟩ := rs.one
    cases r with
    | lst a r => exact ⟨_, _, rfl, .inl ⟨_, .of (st.sub _ _ a), r.length.symm⟩, h _ I H st.stp (.int _)⟩
  · obtain ⟨v, rfl, r⟩ := rs.one
    cases r with
    | tup a r => exact ⟨_, _, rfl, .inr ⟨_, Same.seqT st.sub a, r.length.symm⟩, h _ I H st.stp (.int _)⟩
  · obtain ⟨v, rfl, r⟩ := rs.one
    cases r
    exact ⟨_, _, rfl, ⟨h.1, rfl⟩, h.2 _ I H st.stp (.int _)⟩
  · exact h.elim
theorem lc_list : LiftC F K (fun xs H Q => ∃ p ys, xs = [.ref p] ∧ (SqL K H p ys ∨ SqT K H p ys) ∧ ∀ l, H l = none → Q (.ref l) (upd H l (.lst ys))) listD := by
  intro vs ds I H Q st rs h
  unfold listD at h
  split at h
  · obtain ⟨v, rfl, r⟩ := rs.one
    cases r with
    | @lst q zs es a r =>
      refine ⟨_, _, rfl, .inl (.of (st.sub _ _ a)), fun p hp => ?_⟩
      have l := st.laid hp (.lst zs)
      exact h _ _ _ l (.lst upd_same (r.mono l.i))
  · obtain ⟨v, rfl, r⟩ := rs.one
    cases r with
    | @tup q zs es a r =>
      refine ⟨_, _, rfl, .inr (Same.seqT st.sub a), fun p hp => ?_⟩
      have l := st.laid hp (.lst zs)
      exact h _ _ _ l (.lst upd_same (r.mono l.i))
  · exact h.elim
variable {p pos : Pos} {e e2 : Expr} {es : List Expr} {t : DAT} {te : DT}
theorem de_len (hm : X.mg "len" = none) (ha : DA F X [e] t) (hg : Gl X "len" := by rfl) (he : starEach [e] X.env = (false, eval e X.env) :: starEach [] X.env := by rfl) : DE F X (.Call (.Name "len" p) [e] [] pos) (fun ρ Q => t ρ fun ds => lenD ds Q) := de_callB mono_lenD lc_len call_len hm PySem.boot_len ha hg (by decide) (by decide) he rfl
end
end Dk
namespace Dk
open PySem L2
section
variable {F : Fx} {X : Cx} {K : PySem.W.Frag} {I H I' H' : Hp} {ρ : DEnv} {σ : St} {e : Expr} {es : List Expr} {te : DT} {ta : DAT} {t : DTS} {sts : List Stmt} {pos : Pos}
theorem At.newOwn (a : At F K I ρ σ H) {i : Nat} {p : Addr} {en : Ent} {o : HO} (hp : H p = none) (r : OwnRep K I en o) (ad : ∀ q, en.adr = some q → p = q := by intro _ h; cases h) : At F K I (ρ.set i (some en)) (σ.set i (some (.ref p))) (upd H p o) := by
  have hm : ¬ F.W.mv p := fun m => F.W.live a.st.inv m hp
  have hI := a.st.free hp
  have hB : F.B p = none := by
    cases z : F.B p with
    | none => rfl
    | some u => have := a.stp.h _ _ z hm; rw [hp] at this; cases this
  have ap := a.apart hp
  have w := a.write o hI hm hB ap
  refine ⟨w.stp, by simp [a.len], fun j e h => ?_, fun j l e e' v hjl h1 h2 o1 o2 hv => ?_⟩
  · rcases set_at h with ⟨rfl, q⟩ | ⟨hij, q⟩
    · cases q
      have hi : i < ρ.length := by simpa using (List.getElem?_eq_some_iff.mp h).1
      exact ⟨.ref p, by rw [List.getElem?_set]; simp [← a.len, hi], .inr ⟨p, o, rfl, upd_same, r, hI, hm, hB, ad⟩⟩
    · obtain ⟨v, h1, h2⟩ := w.env j e q
      exact ⟨v, by rw [List.getElem?_set_ne hij]; exact h1, h2⟩
  · rcases set_at h1 with ⟨rfl, q⟩ | ⟨hij, q⟩
    · cases q
      have hi : i < ρ.length := by simpa using (List.getElem?_eq_some_iff.mp h1).1
      have hv' : v = .ref p := by
        rw [List.getElem?_set] at hv
        simp [← a.len, hi] at hv
        exact hv.symm
      subst hv'
      rcases set_at h2 with ⟨rfl, q'⟩ | ⟨hil, q'⟩
      · exact absurd rfl hjl
      · rw [List.getElem?_set_ne hil]
        exact ap l e' q' o2
    · rcases set_at h2 with ⟨rfl, q'⟩ | ⟨hil, q'⟩
      · cases q'
        rw [List.getElem?_set_ne hij] at hv
        intro z
        have hi : i < ρ.length := by simpa using (List.getElem?_eq_some_iff.mp h2).1
        rw [List.getElem?_set] at z
        simp [← a.len, hi] at z
        subst z
        exact ap j e q o1 hv
      · rw [List.getElem?_set_ne hij] at hv
        rw [List.getElem?_set_ne hil]
        exact a.dis j l e e' v hjl q q' o1 o2 hv
theorem OwnAt.other {e : Ent} {p q : Addr} {o u : HO} (h : OwnAt F K I H e p o) (n : p ≠ q) : OwnAt F K I (upd H q u) e p o := ⟨by rw [upd_ne n]; exact h.hp, h.rep, h.ni, h.nm, h.nb, h.ad⟩
/-- .. turned -/
theorem At.turnOwn (a : At F K I ρ σ H) {i : Nat} {en : Ent} (h : ρ[i]? = some (some en)) (ho : en.isOwn) : ∃ p o, σ[i]? = some (some (.ref p)) ∧ OwnAt F K I H en p o ∧ ∀ en' o', OwnRep K I en' o' → (∀ q, en'.adr = some q → p = q) → At F K I (ρ.set i (some en')) σ (upd H p o') := by
  obtain ⟨v, h1, h2⟩ := a.env i _ h
  obtain ⟨p, o, rfl, w⟩ := h2.own ho
  refine ⟨p, o, h1, w, fun en' o' rw' ad => ?_⟩
  refine ⟨⟨a.stp.i, ⟨fun c u e => ?_, a.st.imm, F.W.frame (.refl _) (fun c hm => upd_ne fun z => w.nm (z ▸ hm)) a.st.inv⟩, fun c u e hm => ?_, a.stp.new⟩, by simp [a.len], fun j e hj => ?_, fun j l e e' v hjl h3 h4 o1 o2 hv => ?_⟩
  · rw [upd_ne (ne_of_none e w.ni)]; exact a.st.sub _ _ e
  · rw [upd_ne (ne_of_none e w.nb)]; exact a.stp.h _ _ e hm
  · rcases set_at hj with ⟨rfl, q⟩ | ⟨hij, q⟩
    · cases q
      exact ⟨.ref p, h1, .inr ⟨p, o', rfl, upd_same, rw', w.ni, w.nm, w.nb, ad⟩⟩
    · obtain ⟨u, h3, h4⟩ := a.env j e q
      refine ⟨u, h3, ?_⟩
      rcases h4 with ⟨d, rfl, r⟩ | ⟨p', o2, rfl, w'⟩
      · exact .inl ⟨d, rfl, r⟩
      · exact .inr ⟨p', o2, rfl, w'.other fun z => by subst z; exact a.dis i j _ _ _ hij h q ho w'.rep.isOwn h1 h3⟩
  · have back : ∀ (k : Nat) (f : Ent), (ρ.set i (some en'))[k]? = some (some f) → f.isOwn → ∃ f', ρ[k]? = some (some f') ∧ f'.isOwn := fun k f hk hf => by
      rcases set_at hk with ⟨rfl, _⟩ | ⟨_, q⟩
      · exact ⟨_, h, ho⟩
      · exact ⟨f, q, hf⟩
    obtain ⟨f, q1, p1⟩ := back j e h3 o1
    obtain ⟨f', q2, p2⟩ := back l e' h4 o2
    exact a.dis j l f f' v hjl q1 q2 p1 p2 hv
/-- .. it stands still from now on -/
theorem At.freeze (a : At F K I ρ σ H) {i : Nat} {en : Ent} (h : ρ[i]? = some (some en)) (ho : en.isOwn) : ∃ p o, σ[i]? = some (some (.ref p)) ∧ OwnAt F K I H en p o ∧ Same I (upd I p o) ∧ At F K (upd I p o) (ρ.set i (some (.dat en.toD))) σ H := by
  obtain ⟨v, h1, h2⟩ := a.env i _ h
  obtain ⟨p, o, rfl, w⟩ := h2.own ho
  have s : Same I (upd I p o) := Same.laid w.ni
  refine ⟨p, o, h1, w, s, a.stp.freeze w.ni w.nm w.nb w.hp, by simp [a.len], fun j e hj => ?_, fun j l e e' v hjl h3 h4 o1 o2 hv => ?_⟩
  · rcases set_at hj with ⟨rfl, q⟩ | ⟨hij, q⟩
    · cases q
      exact ⟨.ref p, h1, .inl ⟨_, rfl, (w.rep.mono s).rep upd_same w.ad⟩⟩
    · obtain ⟨u, h3, h4⟩ := a.env j e q
      refine ⟨u, h3, ?_⟩
      rcases h4 with ⟨d, rfl, r⟩ | ⟨p', o2, rfl, w'⟩
      · exact .inl ⟨d, rfl, r.mono s⟩
      · exact .inr ⟨p', o2, rfl, w'.hp, w'.rep.mono s, by rw [upd_ne fun z => by subst z; exact a.dis i j _ _ _ hij h q ho w'.rep.isOwn h1 h3]; exact w'.ni, w'.nm, w'.nb, w'.ad⟩
  · have back : ∀ (k : Nat) (f : Ent), (ρ.set i (some (.dat en.toD)))[k]? = some (some f) → f.isOwn → ρ[k]? = some (some f) := fun k f hk hf => by
      rcases set_at hk with ⟨rfl, q⟩ | ⟨_, q⟩
      · cases q; exact hf.elim
      · exact q
    exact a.dis j l e e' v hjl (back j e h3 o1) (back l e' h4 o2) o1 o2 hv
/-- x = [..], to grow -/
theorem ds_own {x : Str} {pos' p2 : Pos} (i : Nat) (ha : DA F X es ta) (hN : X.N.Nodup) (hi : X.N[i]? = some x := by rfl) (hx : Loc X.env.scope x := by first | exact Or.inl rfl | exact Or.inr rfl) (hs : swapsWith (.List es p2) (some (.Name x pos')) pos.line X.env = pure false := by rfl)
    (hf : X.fn x = true ∨ X.env.scope.names.lookup x = some .local := by first | exact .inl rfl | exact .inr rfl | assumption) : DSt F X (.Assign [.Name x pos'] (.List es p2) pos) (fun Z ρ => ta ρ fun ds => ds.length ≤ sizeLine ∧ Z.nx (ρ.set i (some (.own ds)))) := by
  refine ⟨fun Z Z' ρ l q => ha.mono _ _ _ (fun d q => ⟨q.1, l.nx _ q.2⟩) q, (ps_set hN hi hx (pe_lst ha.run) hs hf).imp fun Z σ H ⟨I, ρ, A, q⟩ => rdA_next ha.mono A q fun ds vs I' H' p s rs => ⟨rs.length ▸ p.1, fun a hz => ?_⟩⟩
  exact p.2 I' _ _ s.i ((A.step s).newOwn hz ⟨_, rfl, rs⟩)
/-- x.append(e) -/
theorem ds_append {x : Str} {p1 p2 p3 : Pos} (i : Nat) (he : DE F X e te) (hN : X.N[i]? = some x := by rfl) (hv : Vis X.env.scope x := by first | exact Or.inl rfl | exact Or.inr (Or.inl rfl) | exact Or.inr (Or.inr rfl)) (hd : (x == ("__debug__" : Str)) = false := by decide)
    (hcd : (x == ("__classdict__" : Str)) = false := by decide) (hsw : swapsWith (.Call (.Attribute (.Name x p1) "append" p2) [e] [] p3) none pos.line X.env = pure false := by rfl) (hbase : attributeBase (.Name x p1) "append" X.env (eval (.Name x p1) X.env) = eval (.Name x p1) X.env := by rfl)
    (hfew : ((backTo p3 (starEach [e] X.env)).all (fun x => !x.1) && (backToKw p3 (keywordEach [] X.env)).all (fun x => x.1.isSome) && decide ([e].length + ([] : List Keyword).length + (if ([] : List Keyword).isEmpty then 0 else 1) < 30)) = true := by rfl)
    (hline : (p2.endLine == p3.line) = true := by rfl) (hst : starEach [e] X.env = (false, eval e X.env) :: starEach [] X.env := by rfl) (hpl : (backTo p3 (starEach [] X.env)).any (·.1) = false := by rfl) :
    DSt F X (.Expr (.Call (.Attribute (.Name x p1) "append" p2) [e] [] p3) pos) (fun Z ρ => ∃ xs, ρ[i]? = some (some (.own xs)) ∧ te ρ fun d => xs.length < sizeLine ∧ Z.nx (ρ.set i (some (.own (xs ++ [d]))))) := by
  refine ⟨fun Z Z' ρ l ⟨xs, h, q⟩ => ⟨xs, h, he.mono _ _ _ (fun d q => ⟨q.1, l.nx _ q.2⟩) q⟩,
    (ps_expr (pe_bm PySem.F.plainAttrs_list PySem.F.slot_list_append PySem.F.type_list_append mt_append (pv i hN hv hd hcd) (pa_cons he.run pa_nil hst) hbase hfew hline hst hpl) hsw).imp fun Z σ H ⟨I, ρ, A, q⟩ => ?_⟩
  obtain ⟨xs, hx, q⟩ := q
  obtain ⟨p, o, h1, w, _⟩ := A.turnOwn hx trivial
  obtain ⟨vs, rfl, _⟩ := w.rep
  refine ⟨_, h1, .inl ⟨rfl, vs, .of w.hp⟩, rdE_next he.mono A q fun d v I' H' q' s rv => ?_⟩
  have A' := A.step s
  obtain ⟨p', o', h1', w', turn⟩ := A'.turnOwn hx trivial
  obtain ⟨ws, rfl, r⟩ := w'.rep
  rw [h1] at h1'
  cases h1'
  exact ⟨p, ws, v, rfl, rfl, w'.hp, by rw [r.length]; exact q'.1, q'.2 I' σ _ s.i (turn _ _ ⟨_, rfl, r.append (.cons rv .nil)⟩ (by intro _ h; cases h))⟩
/-- what a slot holds, own or not -/
def ownOf (ρ : DEnv) (i : Nat) (Q : Ent → Prop) : Prop := ∃ en, ρ[i]? = some (some en) ∧ en.isOwn ∧ Q en
/-- from here on x only stands -/
theorem dss_freeze (i : Nat) (h : DSts F X sts t) : DSts F X sts (fun Z ρ => ownOf ρ i fun en => t Z (ρ.set i (some (.dat en.toD)))) := by
  refine ⟨fun Z Z' ρ l ⟨xs, e, o, q⟩ => ⟨xs, e, o, h.mono _ _ _ l q⟩, h.run.imp fun Z σ H ⟨I, ρ, A, en, e, o, q⟩ => ?_⟩
  obtain ⟨p, vs, _, _, s, A'⟩ := A.freeze e o
  exact ⟨_, _, A', h.mono _ _ _ (ends.le s) q⟩
end
def tyN : D → Option String
  | .non => some "NoneType"
  | .bl _ => some "bool"
  | .int _ => some "int"
  | .str _ => some "str"
  | .tup _ => some "tuple"
  | .lst _ => some "list"
  | .dic _ => some "dict"
  | .dfz _ => some "dict"
  | _ => none
/-- a built-in kind of value -/
def known (d : D) : Bool := (tyN d).isSome
section
variable {F : Fx} {X : Cx} {K : PySem.W.Frag} {I H : Hp} {e : Expr} {te : DT} {T : String} {p : D → Bool} {x : Str} {q1 q2 pos : Pos}
theorem Rep.ty {v : V} {d : D} {t : String} (s : Same I H) (r : Rep K I v d) (h : tyN d = some t) : TyX K H v (.type t) := by
  cases r with
  | non => cases h; exact .base .non
  | bl b => cases h; exact .base (.bl b)
  | int b => cases h; exact .base (.int b)
  | str b => cases h; exact .base (.str b)
  | tup a r =>
    cases h
    rcases Same.seqT s a with (a | ⟨o, a⟩) | ⟨o, its, n, a, c, _⟩
    · exact .base (.tup a)
    · exact .fTuple a
    · exact .kTuple a c
  | lst a r => cases h; exact .base (.lst (s _ _ a))
  | dic a _ r => cases h; exact .base (.dK (s _ _ a))
  | obj _ _ _ => cases h
  | opq _ => cases h
  | exc0 _ => cases h
  | exc1 _ _ _ _ => cases h
  | dfz a _ r => cases h; exact .fDict (s _ _ a)
  | ptp _ _ _ => cases h
end
def strD (x : D) (Q : Str → Prop) : Prop := ∃ a, x = .str a ∧ Q a
theorem strD.mono {x : D} {Q Q' : Str → Prop} (k : ∀ a, Q a → Q' a) (h : strD x Q) : strD x Q' := let ⟨a, e, q⟩ := h; ⟨a, e, k a q⟩
end Dk
namespace Dk
open PySem L2
structure Cal (P : Program) (w : World) (K : PySem.W.Frag) (mg : Str → Option Value) (base : Heap) (CX : CXT) (W : Wd) (k : Nat) (x : Str) (ps : List Str) (S : DSp) : Prop where
  ex : ∃ f fd, GnOk P w K mg base CX k f fd ps (spD W K S) ∧ mg x = some (.ref f) ∧ PySem.W.keepIn K (.ref f) = true ∧ Binds K fd ps []
/-- .. by keywords alone: ks their names as written, g their order -/
structure CalK (P : Program) (w : World) (K : PySem.W.Frag) (mg : Str → Option Value) (base : Heap) (CX : CXT) (W : Wd) (k : Nat) (x : Str) (ps ks : List Str) (g : {α : Type} → List α → List α) (S : DSp) : Prop where
  ex : ∃ f fd, GnOk P w K mg base CX k f fd ps (spD W K S) ∧ mg x = some (.ref f) ∧ PySem.W.keepIn K (.ref f) = true ∧ KBn K fd ps 0 ks (fun _ ws => g ws) (fun _ zs => g zs)
  rel : ∀ {K : PySem.W.Frag} {I : Hp} {vs : List V} {ds : List D}, Reps K I vs ds → Reps K I (g vs) (g ds)
structure DKw (F : Fx) (X : Cx) (kws : List Keyword) (t : DAT) : Prop where
  mono : ∀ ρ (Q Q' : List D → Prop), (∀ d, Q d → Q' d) → t ρ Q → t ρ Q'
  run : PK X kws (rdA F X.K t)
section
variable {F : Fx} {X : Cx} {K : PySem.W.Frag} {CX : CXT} {W : Wd} {k : Nat} {x nm : Str} {ps ks : List Str} {S : DSp} {E : XK} {p pos kpos : Pos} {e : Expr} {es : List Expr} {t tk : DAT} {te : DT} {Ed : Ex → Prop} {kws : List Keyword} {g : {α : Type} → List α → List α}
theorem _root_.L2.PK.imp {t u : TA} (h : PK X kws t) (i : ∀ σ H Q, u σ H Q → t σ H Q) : PK X kws u := ⟨fun pos pins s σ H Q J q => h.run pos pins s σ H Q J (i σ H Q q)⟩
theorem dk_nil : DKw F X [] (fun _ Q => Q []) := ⟨fun _ _ _ k q => k _ q, pk_nil.imp fun σ H Q ⟨I, ρ, A, q⟩ => q [] I H A.st.stp .nil⟩
theorem dk_cons (h : DE F X e te) (h' : DKw F X kws t) : DKw F X (⟨nm, e, kpos⟩ :: kws) (fun ρ Q => te ρ fun d => t ρ fun ds => Q (d :: ds)) := by
  refine ⟨fun ρ Q Q' k q => h.mono _ _ _ (fun d q => h'.mono _ _ _ (fun ds => k _) q) q, (pk_cons h.run h'.run).imp fun σ H Q ⟨I, ρ, A, q⟩ => ?_⟩
  refine rdE_next h.mono A q fun d v I' H' p s rv => ?_
  exact rdA_next h'.mono (A.step s) p fun ds vs I2 H2 p s2 rs => p (v :: vs) I2 H2 (s.trans s2) (.cons (rv.mono s2.i) rs)
theorem de_fn (C : Cal X.prog X.w X.K X.mg X.base CX F.W k x ps S) (hr : Rm k X.A) (hx : Passes CX X E) (le : Lets F X.K Ed E) (ha : DA F X (e :: es) t)
    (hg : Gl X x := by rfl) (hdb : (x == ("__debug__" : Str)) = false := by decide) (he : starEach (e :: es) X.env = (false, eval e X.env) :: starEach es X.env := by rfl) (hpl : (backTo pos (starEach es X.env)).any (·.1) = false := by rfl) :
    DE F X (.Call (.Name x p) (e :: es) [] pos) (fun ρ Q => t ρ fun ds => S.f ds Q Ed) := by
  obtain ⟨f, fd, h1, h2, h3, h4⟩ := C.ex
  exact de_call h1 hr h2 h3 h4 hx le ha hg hdb he hpl
end
theorem pss_any {X : Cx} {sts : List Stmt} {ι : Type} {F : ι → Fx} {t : ι → DTS} (h : ∀ i, DSts (F i) X sts (t i)) : PSs X sts (fun Z σ H => ∃ i, rdS (F i) X.K (t i) Z σ H) := ⟨fun pins s σ H Z J ⟨i, q⟩ => (h i).run.run pins s σ H Z J q⟩
section
variable {P : Program} {w : World} {K : PySem.W.Frag} {mg : Str → Option Value} {base : Heap} {CX : CXT} {W : Wd} {k : Nat} {x qual : Str} {st : Stmt} {f : Addr} {fd : FuncData} {ps ks : List Str} {S : DSp} {g : {α : Type} → List α → List α}
theorem Cal.of (Fn : Fun K x qual st f fd) (G : GnOk P w K mg base CX k f fd ps (spD W K S)) (m : mg x = some (.ref f))
    (h : ∀ (kV doc pm : Value) (an : Option Addr) (cdv ct : Value) (us : List Value), us.length = ps.length → bindArgs (PySem.W.fnOf x qual (defArgs st) (defBody st) (defScope st) .none kV doc pm an cdv ct) ⟨us, []⟩ = pure (ps.zip us)) : Cal P w K mg base CX W k x ps S :=
  ⟨f, fd, G, m, Fn.kp, Fn.binds h⟩
theorem CalK.of (Fn : Fun K x qual st f fd) (G : GnOk P w K mg base CX k f fd ps (spD W K S)) (m : mg x = some (.ref f)) (rV : ∀ {vs : List V} {us : List Value}, Vals vs us → Vals (g vs) (g us)) (rD : ∀ {K : PySem.W.Frag} {I : Hp} {vs : List V} {ds : List D}, Reps K I vs ds → Reps K I (g vs) (g ds))
    (h : ∀ (kV doc pm : Value) (an : Option Addr) (cdv ct : Value) (ws : List Value), ws.length = ks.length → bindArgs (PySem.W.fnOf x qual (defArgs st) (defBody st) (defScope st) .none kV doc pm an cdv ct) ⟨[], ks.zip ws⟩ = pure (ps.zip (g ws))) : CalK P w K mg base CX W k x ps ks g S := by
  refine ⟨⟨f, fd, G, m, Fn.kp, ⟨fun s us ws _ l1 l2 => ?_, fun _ r => rV r⟩⟩, rD⟩
  obtain ⟨oc, od, kV, doc, pm, an, cdv, ct, osl, rfl, lk, hcd⟩ := Fn.ex
  obtain rfl : us = [] := List.length_eq_zero_iff.mp l1
  exact .of_eq (h kV doc pm an cdv ct ws l2)
end
/-- what a draw tells: any number below the most -/
def spDraw (a : Addr) : DSp where
  n := 2
  f := fun ds Q _ => ∃ m : Int, ds = [.opq a, .int m] ∧ 0 < m ∧ m.natAbs.log2 < 9000 ∧ ∀ v : Int, 0 ≤ v → v < m → Q (.int v)
  len := fun ds Q E ⟨m, e, _⟩ => by rw [e]; rfl
  mono := fun ds Q Q' E E' k _ ⟨m, e, h, h', q⟩ => ⟨m, e, h, h', fun v a b => k _ (q v a b)⟩
theorem shaped_ints (ns : List Int) : SeqAt.shaped (.list (ns.map .int)) = true := by
  have h1 : ∀ ns : List Int, PyData.canLayAll0 (ns.map .int) = true := fun ns => by
    induction ns with
    | nil => simp [PyData.canLayAll0]
    | cons n ns ih => simp [PyData.canLayAll0, PyData.canLay0, ih]
  have h2 : ∀ ns : List Int, PyData.depthAll (ns.map .int) = 0 := PySem.W.depth_ints
  unfold SeqAt.shaped
  simp [PyData.canLay0, PyData.depth, h1, h2]
theorem dp_ints {K : PySem.W.Frag} {H : Hp} : ∀ ns : List Int, DpAll K H (ns.map V.int) (ns.map PyData.int)
  | [] => .nil
  | n :: ns => .cons (.int n) (dp_ints ns)
theorem eqv_nil (ns : List Int) : PyData.eqv (.list (ns.map .int)) (.list []) = ns.isEmpty := by
  cases ns <;> simp [PyData.eqv, PyData.eqvAll]
end Dk
namespace Dk
open PySem L2
def deckAt (a l : Addr) (H : Hp) : Prop := ∃ (ns : List Int) (s t : Int), H a = some (.lst [.ref l, .int s, .int t]) ∧ H l = some (.lst (ns.map V.int)) ∧ ns.length ≤ 63 ∧ a ≠ l
def DeckW (a l : Addr) : Wd where
  mv := fun b => b = a ∨ b = l
  inv := fun _ => deckAt a l
  frame := fun {I I' H H'} _ h ⟨ns, s, t, h1, h2, h3⟩ => ⟨ns, s, t, by rw [h a (.inl rfl)]; exact h1, by rw [h l (.inr rfl)]; exact h2, h3⟩
  live := fun {I H b} ⟨ns, s, t, h1, h2, h3⟩ m => by
    rcases m with rfl | rfl
    · rw [h1]; exact fun z => nomatch z
    · rw [h2]; exact fun z => nomatch z
theorem stp_deck {a l : Addr} {I H H' : Hp} (s : StI (DeckW a l) I H) (h : ∀ b o, H b = some o → b ≠ a → b ≠ l → H' b = some o) (d : deckAt a l H') : Stp (DeckW a l) I H I H' := by
  refine ⟨Same.refl I, ⟨fun b o e => ?_, s.imm, d⟩, fun b o e m => h b o e (fun z => m (.inl z)) (fun z => m (.inr z)), fun b o e n => n⟩
  have m := s.imm b o e
  exact h b o (s.sub b o e) (fun z => m (.inl z)) (fun z => m (.inr z))
theorem deck_of {a l : Addr} {I H : Hp} (s : StI (DeckW a l) I H) : deckAt a l H := s.inv
/-- the world of a deck, at the def that has made it -/
theorem at_deck {K : PySem.W.Frag} {a l : Addr} {H : Hp} {σ : St} (i : Nat) (d : deckAt a l H) (hi : σ[i]? = some (some (.ref a))) : At ⟨DeckW a l, H, fun _ => none⟩ K (fun _ => none) ((List.replicate σ.length none).set i (some (.dat (.opq a)))) σ H := by
  refine ⟨⟨fun b o e => (nomatch (show (none : Option HO) = some o from e)), ⟨fun b o e => (nomatch (show (none : Option HO) = some o from e)), fun b o e => (nomatch (show (none : Option HO) = some o from e)), d⟩, fun b o e _ => e, fun b o e n => n⟩, by simp, fun j e h => ?_, fun j j' e e' v hj h1 h2 o1 => ?_⟩
  · rcases set_at h with ⟨rfl, q⟩ | ⟨_, q⟩
    · cases q
      exact ⟨_, hi, .inl ⟨_, rfl, .opq a⟩⟩
    · rw [List.getElem?_replicate] at q
      split at q <;> cases q
  · rcases set_at h1 with ⟨rfl, q⟩ | ⟨_, q⟩
    · cases q
      exact o1.elim
    · rw [List.getElem?_replicate] at q
      split at q <;> cases q
end Dk
namespace Dk
open PySem L2
/-- how it is written -/
def shw (d : D) : Str := (toPy d).shown
section
variable {F : Fx} {X : Cx} {e : Expr} {t : DAT} {p pos : Pos}
/-- a constant of the module -/
theorem de_gs {x y : Str} {pos : Pos} (h : ∃ t, X.mg x = some (.str y t)) (hg : Gl X x := by rfl) (hd : (x == ("__debug__" : Str)) = false := by decide) : DE F X (.Name x pos) (fun _ Q => Q (.str y)) := by
  obtain ⟨t, e⟩ := h
  exact de_gstr hg e ⟨t, rfl⟩ hd
theorem de_gi {x : Str} {y : Int} {pos : Pos} (h : ∃ t, X.mg x = some (.int y t)) (hg : Gl X x := by rfl) (hd : (x == ("__debug__" : Str)) = false := by decide) : DE F X (.Name x pos) (fun _ Q => Q (.int y)) := by
  obtain ⟨t, e⟩ := h
  exact de_gint hg e ⟨t, rfl⟩ hd
end
theorem getD_0 {d : D} {ρ : DEnv} {Q : D → Prop} : getD (some (.dat d) :: ρ) 0 Q = Q d := by simp [getD]
theorem getD_s {x : Option Ent} {ρ : DEnv} {n : Nat} {Q : D → Prop} : getD (x :: ρ) (n + 1) Q = getD ρ n Q := by simp [getD]
theorem set_0 {x y : Option Ent} {ρ : DEnv} : (x :: ρ).set 0 y = y :: ρ := rfl
theorem set_s {x y : Option Ent} {ρ : DEnv} {n : Nat} : (x :: ρ).set (n + 1) y = x :: ρ.set n y := rfl
theorem forD_ind {g : DGT} {tb : DTS} {Z : DEnds} (P : List D → DEnv → Prop) (h0 : ∀ ρ, P [] ρ → Z.nx ρ) (h1 : ∀ d ds ρ (R : DEnv → Prop), P (d :: ds) ρ → (∀ ρ', P ds ρ' → R ρ') → g d ρ fun ρ2 => tb { Z with nx := R, ct := R, bk := Z.nx } ρ2) : ∀ (ds : List D) (ρ : DEnv), P ds ρ → forD g tb Z ds ρ
  | [], ρ, h => h0 ρ h
  | d :: ds, ρ, h => h1 d ds ρ (forD g tb Z ds) h fun ρ' h' => forD_ind P h0 h1 ds ρ' h'
theorem eqD_int {x y : Int} {Q : D → Prop} : eqD (.int x) (.int y) Q = Q (.bl (decide (x = y))) := by
  have e : deq (.int x) (.int y) = decide (x = y) := by simp [deq, toPy, PyData.eqv]; rfl
  simp [eqD, canEq, scalD, mixD, e]
theorem neD_str {x y : Str} {Q : D → Prop} : neD (.str x) (.str y) Q = Q (.bl (!decide (x = y))) := by
  have e : deq (.str x) (.str y) = decide (x = y) := by simp [deq, toPy, PyData.eqv]; rfl
  simp [neD, canEq, scalD, mixD, e]
theorem boolD_bl {b : Bool} {Q : Bool → Prop} : boolD (.bl b) Q = Q b := by simp [boolD]
theorem intD_int {i : Int} {Q : Int → Prop} : intD (.int i) Q = Q i := by simp [intD]
structure OkN (k : Nat) (d : D) : Prop where
  pl : plainD d = true
  cl : (toPy d).canLay0 = true
  dp : (toPy d).depth ≤ k
theorem OkN.mono {j k : Nat} {d : D} (h : OkN j d) (l : j ≤ k) : OkN k d := ⟨h.pl, h.cl, Nat.le_trans h.dp l⟩
theorem okN_str {x : Str} (h : PyData.strOk x = true) : OkN 0 (.str x) := ⟨rfl, by simp [toPy, PyData.canLay0, h], by simp [toPy, PyData.depth]⟩
theorem okNs {k : Nat} : ∀ {xs : List D}, (∀ x ∈ xs, OkN k x) → plainDs xs = true ∧ PyData.canLayAll0 (toPys xs) = true ∧ PyData.depthAll (toPys xs) ≤ k
  | [], _ => by simp [plainDs, toPys, PyData.canLayAll0, PyData.depthAll]
  | x :: xs, h => by
    have h1 := h x (by simp)
    obtain ⟨a, b, c⟩ := okNs fun y hy => h y (List.mem_cons_of_mem _ hy)
    simp only [plainDs, toPys, PyData.canLayAll0, PyData.depthAll, h1.pl, h1.cl, a, b, Bool.and_self, true_and]
    exact Nat.max_le.mpr ⟨h1.dp, c⟩
theorem okN_tup {k : Nat} {xs : List D} (h : ∀ x ∈ xs, OkN k x) : OkN (k + 1) (.tup xs) := by
  obtain ⟨a, b, c⟩ := okNs h
  exact ⟨by simp [plainD, a], by simp [toPy, PyData.canLay0, b], by simp [toPy, PyData.depth]; exact c⟩
/-- a comprehension over a list of things, each taken or left -/
theorem lcD_map {α : Type} {g : DGT} {tc : DB} {te : DT} {ρ : DEnv} (f h : α → D) (p : α → Bool) {Q : List D → Prop} : ∀ {l : List α}, (∀ a ∈ l, ∀ (R : D → Prop) (S : Prop), (p a = true → R (h a)) → (p a = false → S) → g (f a) ρ fun ρ2 => tc ρ2 fun b => if b = true then te ρ2 R else S) → Q ((l.filter p).map h) → lcD g tc te ρ (l.map f) Q := by
  intro l
  induction l generalizing Q with
  | nil => intro _ q; exact q
  | cons a l ih =>
    intro hs q
    refine hs a (by simp) _ _ (fun e => ?_) fun e => ?_
    · refine ih (fun b hb => hs b (List.mem_cons_of_mem _ hb)) ?_
      rw [List.filter_cons_of_pos e] at q
      exact q
    · refine ih (fun b hb => hs b (List.mem_cons_of_mem _ hb)) ?_
      rw [List.filter_cons_of_neg (by simp [e])] at q
      exact q
theorem lcD_all {α : Type} {g : DGT} {tc : DB} {te : DT} {ρ : DEnv} (f h : α → D) {Q : List D → Prop} {l : List α} (hs : ∀ a ∈ l, ∀ (R : D → Prop) (S : Prop), R (h a) → g (f a) ρ fun ρ2 => tc ρ2 fun b => if b = true then te ρ2 R else S) (q : Q (l.map h)) : lcD g tc te ρ (l.map f) Q :=
  lcD_map f h (fun _ => true) (fun a ha R S r _ => hs a ha R S (r rfl)) (by rw [List.filter_eq_self.mpr (by simp)]; exact q)
end Dk
namespace Dk
open PySem L2 PySem.Spec PyProof.Rows
theorem law_gn {P : Program} {w : World} {K : PySem.W.Frag} {mg mb : Str → Option Value} {CX : CXT} {k : Nat} {fa a : Addr} {fd : FuncData} {x : Str} {sp : Sp} {s1 : Shared} {us : List Value} {ns : List Int}
    (inK : K.In s1.heap) (inM : s1.heap.Ns mainGlobals mg) (inB : s1.heap.Ns builtinsNs mb) (boots : ∀ x : Str, x ≠ "__name__" → mb x = bootBuiltins x) (noLim : s1.heap.NoLimit) (noGen : s1.gens = #[])
    (isL : s1.heap.get? a = some { cls := .type "list", data := .seq us.toArray }) (its0 : IntsAre us ns) (small : ns.length ≤ sizeLine) (room : Room k callerA)
    (F : ∀ base : Heap, K.In base → base.Ns mainGlobals mg → GnOk P w K mg base CX k fa fd [x] sp) (binds : ∀ (s : Shared) (u : Value), BindsTo s fd ⟨[u], []⟩ [(x, u)])
    (says : ∀ H : Hp, L2.Only H → SqL K H a (ns.map V.int) → sp [.ref a] H (fun v _ => v = .bl true) fun _ _ _ => False) (lets : ∀ H e s', CX [] H s1 (fun _ _ _ => False) e s' → False) :
    codeAny (model P w) callerA (.call (.ref fa) ⟨[.ref a], []⟩) (fun r s' => r = .ok (.ret (.bool true)) ∧ OldK s1.heap s'.heap ∧ s'.os = s1.os ∧ AllBare s'.gens) s1 := by
  have vals := vals_ints its0
  -- a heap that tells of the script, or of nothing
  have main : ∀ H : Hp, L2.Only H → SqL K H a (ns.map V.int) → HOk P w H s1.heap → (∀ b, H b ≠ none → b = a ∧ K.lookup b = none) →
      codeAny (model P w) callerA (.call (.ref fa) ⟨[.ref a], []⟩) (fun r s' => r = .ok (.ret (.bool true)) ∧ OldK s1.heap s'.heap ∧ s'.os = s1.os ∧ AllBare s'.gens) s1 := by
    intro H only sq ok few
    have dict_out : ∀ {b : Addr} {m : Str → Option Value}, s1.heap.Ns b m → (hidT s1.heap H).Ns b m := by
      rintro b m ⟨o, es, ep, e1, e2, e3⟩
      refine ⟨o, es, ep, hidT_get e1 ?_, e2, e3⟩
      rcases hb : H b with _ | u
      · rfl
      · obtain ⟨rfl, _⟩ := few b (by rw [hb]; simp)
        rw [isL] at e1
        cases e1
        exact Data.noConfusion e2
    have inK' : K.In (hidT s1.heap H) := fun b o e => hidT_get (inK b o e) (by
      rcases hb : H b with _ | u
      · rfl
      · have := (few b (by rw [hb]; simp)).2
        rw [this] at e
        cases e)
    obtain ⟨mc, lim1, lim2⟩ := noLim
    have env : Env0 P w K mg (hidT s1.heap H) callerA [] s1 H := { frames := rfl, mod := ⟨inK', dict_out inM, ⟨mb, dict_out inB, boots⟩, ⟨mc, dict_out lim1, lim2⟩⟩, bs := fun b o e => of_hidT e, bsz := Nat.le_of_eq (hidT_size _ _), funs := trivial, frf := (by simp [frs]), hok := ok, bare := .of_eq noGen }
    refine codeAny_mono ((F _ inK' (dict_out inM)).go callerA [] s1 H ⟨[.ref a], []⟩ [.ref a] [.ref a] _ _ ⟨room, rfl⟩ env (binds s1 (.ref a)) (.cons rfl .nil) (says H only sq)) fun r s' q => ?_
    match r, q with
    | .error e, q => exact (lets H e s' q).elim
    | .ok .next, q => exact q.elim
    | .ok .brk, q => exact q.elim
    | .ok .cont, q => exact q.elim
    | .ok (.ret u), ⟨v, H2, os, bare, un, ok2, rel, q⟩ =>
      have q : v = .bl true := q
      subst q
      obtain rfl : u = Value.bool true := rel
      refine ⟨rfl, OldK.of_keep fun b o e => ?_, os, bare⟩
      rcases only b with z | ⟨ob, xs, z⟩
      · exact un.keep b o e z (by simp [frs]) (by simp)
      · obtain ⟨e1, _⟩ := ok b _ z
        obtain ⟨e2, _⟩ := ok2 b _ (un.frzs b ob _ z)
        rw [e1] at e
        cases e
        exact e2
  rcases hk : K.lookup a with _ | o
  · -- the script stands beside the module's objects
    have told : ∀ b u, (if b = a then some (HO.frz { cls := .type "list", data := .seq us.toArray } (.lst (ns.map V.int))) else none) = some u → b = a ∧ u = HO.frz { cls := .type "list", data := .seq us.toArray } (.lst (ns.map V.int)) := fun b u z => by
      split at z
      · exact ⟨by assumption, (Option.some.inj z).symm⟩
      · cases z
    refine main (fun b => if b = a then some (.frz { cls := .type "list", data := .seq us.toArray } (.lst (ns.map V.int))) else none) (fun b => ?_) (.inl (.inr ⟨_, if_pos rfl⟩)) (fun b u z => ?_) fun b z => ?_
    · by_cases hb : b = a
      · right; exact ⟨_, _, if_pos hb⟩
      · left; exact if_neg hb
    · obtain ⟨rfl, rfl⟩ := told b u z
      exact ⟨isL, by rw [List.length_map]; exact small, us, _, vals, isL⟩
    · rcases hb : (if b = a then some (HO.frz { cls := .type "list", data := .seq us.toArray } (.lst (ns.map V.int))) else none) with _ | u
      · exact absurd hb z
      · obtain ⟨rfl, _⟩ := told b u hb
        exact ⟨rfl, hk⟩
  · -- it is one of them
    have e := inK a o hk
    rw [isL] at e
    cases e
    exact main (fun _ => none) (fun _ => .inl rfl) (.inr ⟨_, us.toArray, _, hk, rfl, rfl, rfl, by rw [List.size_toArray, its0.length]; exact small, by simpa using vals⟩) (fun b u z => (nomatch (show (none : Option HO) = some u from z))) fun b z => absurd rfl z
end Dk
namespace Dk
open PySem L2 PySem.Spec PyProof.Rows
end Dk
namespace Dk
open PySem L2
/-- all but the object at D -/
def dropA (H : Hp) (D : Addr) : Hp := fun b => if b = D then none else H b
theorem dropA_ne {H : Hp} {D b : Addr} (h : b ≠ D) : dropA H D b = H b := if_neg h
theorem dropA_at {H : Hp} {D b : Addr} {o : HO} (h : dropA H D b = some o) : b ≠ D ∧ H b = some o := by
  unfold dropA at h
  split at h
  · cases h
  · exact ⟨by assumption, h⟩
section
variable {W : Wd} {I H I' H' : Hp} {D : Addr} {F : Fx} {K : PySem.W.Frag} {ρ : DEnv} {σ : L2.St}
theorem StI.drop (s : StI W I H) (n : I D = none) (m : ¬ W.mv D) : StI W I (dropA H D) :=
  ⟨fun b o e => by rw [dropA_ne (ne_of_none e n)]; exact s.sub b o e, s.imm, W.frame (.refl _) (fun b hb => dropA_ne fun z => m (z ▸ hb)) s.inv⟩
theorem Stp.intro (s : Stp W I (dropA H D) I' (dropA H' D)) : Stp W I (dropA H D) I' H' := by
  refine ⟨s.i, ⟨fun b o e => (dropA_at (s.st.sub b o e)).2, s.st.imm, ?_⟩, fun b o e k => (dropA_at (s.h b o e k)).2, s.new⟩
  refine W.frame (.refl _) (fun b hb => ?_) s.st.inv
  by_cases hd : b = D
  · exact absurd (show dropA H' D b = none from if_pos hd) (W.live s.st.inv hb)
  · exact (dropA_ne hd).symm
/-- the object at D is written, still no one's -/
structure InD (F : Fx) (I H : Hp) (ρ : DEnv) (σ : L2.St) (D : Addr) : Prop where
  ni : I D = none
  nm : ¬ F.W.mv D
  nb : F.B D = none
  ap : Apart ρ σ D
theorem At.drop (a : At F K I ρ σ H) (d : InD F I H ρ σ D) : At F K I ρ σ (dropA H D) := by
  refine ⟨⟨a.stp.i, a.st.drop d.ni d.nm, fun b o e k => by rw [dropA_ne (ne_of_none e d.nb)]; exact a.stp.h b o e k, a.stp.new⟩, a.len, fun i e h => ?_, a.dis⟩
  obtain ⟨v, h1, h2⟩ := a.env i e h
  refine ⟨v, h1, ?_⟩
  rcases h2 with ⟨x, rfl, r⟩ | ⟨p, o, rfl, w⟩
  · exact .inl ⟨x, rfl, r⟩
  · exact .inr ⟨p, o, rfl, by rw [dropA_ne fun z => by subst z; exact d.ap i _ h w.rep.isOwn h1]; exact w.hp, w.rep, w.ni, w.nm, w.nb, w.ad⟩
theorem InD.step (d : InD F I H ρ σ D) (s : I' D = none) : InD F I' H' ρ σ D := ⟨s, d.nm, d.nb, d.ap⟩
theorem Apart.wipe (h : Apart ρ σ D) (vs : List Nat) : Apart (wipeD ρ vs) (wipe σ vs) D := fun i e he o hv => by
  obtain ⟨h1, h2⟩ := wipeD_some he
  exact h i e h1 o (wipe_some hv).1
theorem Apart.kept {ρ' : DEnv} {σ' : L2.St} {js : List Nat} (h : Apart ρ σ D) (k : Kept js ρ ρ') (o : Only js σ σ') : Apart ρ' σ' D := fun i e he ow hv => by
  obtain ⟨h1, h2⟩ := k i e he ow
  exact h i e h2 ow ((o.2 i h1).symm.trans hv)
end
/-- what is told of the object at D: β its state -/
abbrev HoldsD (β : Type) := Addr → PySem.W.Frag → Hp → HO → β → Prop
abbrev DNT (β : Type) := DEnv → β → (β → Prop) → Prop
def loopD {β : Type} (g : DGT) (tc : DB) (t : DNT β) (ρ : DEnv) : List D → β → (β → Prop) → Prop
  | [], b, Q => Q b
  | d :: ds, b, Q => g d ρ fun ρ2 => tc ρ2 fun c => if c = true then t ρ2 b fun b' => loopD g tc t ρ ds b' Q else loopD g tc t ρ ds b Q
section
variable {F : Fx} {X Y : Cx} {K : PySem.W.Frag} {e tg iter : Expr} {ifs : List Expr} {gens rest : List Comprehension} {emit : Value → Env → Sem Unit} {k : Nat} {vs vs' js : List Nat} {β : Type} {Hd : HoldsD β} {t : DNT β} {ti : DAT} {g : DGT} {tc : DB}
theorem loopD.mono (hgm : ∀ d ρ (Q Q' : DEnv → Prop), (∀ ρ, Q ρ → Q' ρ) → g d ρ Q → g d ρ Q') (htm : ∀ ρ (Q Q' : Bool → Prop), (∀ d, Q d → Q' d) → tc ρ Q → tc ρ Q') (hm : ∀ ρ b (Q Q' : β → Prop), (∀ b, Q b → Q' b) → t ρ b Q → t ρ b Q') (ρ : DEnv) :
    ∀ (ds : List D) (b : β) (Q Q' : β → Prop), (∀ b, Q b → Q' b) → loopD g tc t ρ ds b Q → loopD g tc t ρ ds b Q'
  | [], b, Q, Q', k, h => k _ h
  | d :: ds, b, Q, Q', k, h => hgm _ _ _ _ (fun ρ2 q => htm _ _ _ (fun c q => by
      cases c
      · exact loopD.mono hgm htm hm ρ ds b _ _ k q
      · exact hm _ _ _ _ (fun b' => loopD.mono hgm htm hm ρ ds b' _ _ k) q) q) h
end
def HdL : HoldsD (List D) := fun _ K I o ds => ∃ vs, o = .lst vs ∧ Reps K I vs ds
def HdK : HoldsD (List (Key × D)) := fun _ K I o ds => ∃ kvs, o = .dK kvs ∧ kvs.map (·.1) = ds.map (·.1) ∧ Reps K I (kvs.map (·.2)) (ds.map (·.2))
theorem HdL.mono : ∀ (D : Addr) (K : PySem.W.Frag) (I I' : Hp) (o : HO) (b : List Dk.D), Same I I' → HdL D K I o b → HdL D K I' o b := fun D K I I' o b s ⟨vs, e, r⟩ => ⟨vs, e, r.mono s⟩
theorem HdK.mono : ∀ (D : Addr) (K : PySem.W.Frag) (I I' : Hp) (o : HO) (b : List (Key × Dk.D)), Same I I' → HdK D K I o b → HdK D K I' o b := fun D K I I' o b s ⟨vs, e, k, r⟩ => ⟨vs, e, k, r.mono s⟩
section
variable {F : Fx} {X : Cx} {K : PySem.W.Frag} {e elt kx vx tg iter : Expr} {ifs : List Expr} {rest : List Comprehension} {emit : Value → Env → Sem Unit} {vs' js : List Nat} {β : Type} {Hd : HoldsD β} {t : DNT β} {ti : DAT} {g : DGT} {tc : DB} {scope : Scope} {own : List (Str × Nat)} {ob0 : Obj} {o0 : Addr → HO} {newAcc : Sem Value} {pos pos' spos : Pos}
abbrev AllBlk (X : Cx) (scope : Scope) (p : Cx → Prop) : Prop := ∀ (s : Shared) (H : Hp) (C : Addr) (cl : List (Str × Addr)) (fp : List Addr), p (X.blk s H scope (compEnvC scope cl C X.env) fp)
theorem AllBlk.one {scope : Scope} {p : Cx → Prop} (h : AllBlk X scope p) : p (X.blk X.s_0 X.H_0 scope (compEnvC scope [] 0 X.env) []) := h _ _ _ _ _
end
end Dk
namespace Dk
open PySem L2
def hasK (ks : List Key) (j : Key) : Bool := ks.any fun x => decide (x = j)
def HdS (P : Program) (w : World) : HoldsD (List Key) := fun D _ _ o ks => o = SetK P w D (hasK ks) ks.length
theorem HdS.mono {P : Program} {w : World} : ∀ (D : Addr) (K : PySem.W.Frag) (I I' : Hp) (o : HO) (b : List Key), Same I I' → HdS P w D K I o b → HdS P w D K I' o b := fun D K I I' o b s h => h
end Dk
namespace Dk
open PySem L2
def negD : D → (D → Prop) → Prop
  | .int i, Q => Q (.int (-i))
  | _, _ => False
section
variable {F : Fx} {X : Cx} {K : PySem.W.Frag} {a b c : Expr} {ta tb tc : DT} {pos : Pos}
theorem de_neg (ha : DE F X a ta) : DE F X (.UnaryOp .USub a pos) (fun ρ Q => ta ρ fun x => negD x Q) := by
  refine ⟨fun ρ Q Q' k q => ha.mono _ _ _ (fun d q => by cases d <;> first | exact q.elim | exact k _ q) q, (pe_un un_neg ha.run).imp fun σ H Q ⟨I, ρ, A, q⟩ => rdE_next ha.mono A q fun d v I1 H1 q1 s rv => ?_⟩
  cases rv with
  | int i => exact ⟨i, rfl, q1 _ _ _ s (.int _)⟩
  | _ => exact q1.elim
end
end Dk
namespace Dk
open PySem L2
/-- held in a slot -/
def heldIn (ρ : DEnv) (σ : St) (p : Addr) : Prop := ∃ (i : Nat) (e : Ent), ρ[i]? = some (some e) ∧ e.isOwn ∧ σ[i]? = some (some (V.ref p))
/-- what is held may have turned, nothing else -/
structure Moved (F : Fx) (σ : St) (ρ : DEnv) (I H : Hp) (ρ' : DEnv) (I' H' : Hp) : Prop where
  i : Same I I'
  kp : ∀ p o, H p = some o → I p = none → ¬ F.W.mv p → ¬ heldIn ρ σ p → H' p = some o ∧ I' p = none
  sub : ∀ (i : Nat) (e : Ent), ρ'[i]? = some (some e) → e.isOwn → ∃ e0, ρ[i]? = some (some e0) ∧ e0.isOwn
theorem Moved.refl {F : Fx} {σ : St} {ρ : DEnv} {I H : Hp} : Moved F σ ρ I H ρ I H := ⟨Same.refl I, fun _ _ e n _ _ => ⟨e, n⟩, fun _ e h o => ⟨e, h, o⟩⟩
theorem Moved.of {F : Fx} {σ : St} {ρ : DEnv} {I H I' H' : Hp} (s : Stp F.W I H I' H') : Moved F σ ρ I H ρ I' H' := ⟨s.i, fun p o e n m _ => ⟨s.h _ _ e m, s.new _ _ e n⟩, fun _ e h o => ⟨e, h, o⟩⟩
theorem Moved.trans {F : Fx} {σ : St} {ρ ρ' ρ'' : DEnv} {I H I' H' I'' H'' : Hp} (a : Moved F σ ρ I H ρ' I' H') (b : Moved F σ ρ' I' H' ρ'' I'' H'') : Moved F σ ρ I H ρ'' I'' H'' :=
  ⟨Same.trans a.i b.i, fun p o e n m nh => let ⟨e1, n1⟩ := a.kp p o e n m nh; b.kp p o e1 n1 m fun ⟨i, e, h, ho, hs⟩ => nh (let ⟨e0, h0, o0⟩ := a.sub i e h ho; ⟨i, e0, h0, o0, hs⟩),
    fun i e h o => let ⟨e1, h1, o1⟩ := b.sub i e h o; a.sub i e1 h1 o1⟩
end Dk
namespace Dk
open PySem L2
end Dk
namespace Dk
open PySem L2
open PyProof.Rows (envOfC)
theorem lookup_rep {K : PySem.W.Frag} {I : Hp} {f : Str} {d : D} : ∀ {ws : List (Str × V)} {fs : List (Str × D)}, ws.map (·.1) = fs.map (·.1) → Reps K I (ws.map (·.2)) (fs.map (·.2)) → fs.lookup f = some d → ∃ v, ws.lookup f = some v ∧ Rep K I v d
  | [], [], _, _, h => by simp at h
  | [], _ :: _, h, _, _ => by simp at h
  | _ :: _, [], h, _, _ => by simp at h
  | (i, x) :: ws, (j, y) :: fs, h, r, e => by
    simp only [List.map_cons, List.cons.injEq] at h
    obtain ⟨rfl, h⟩ := h
    cases r with
    | cons r1 r2 =>
      rw [List.lookup_cons] at e ⊢
      cases hb : f == i with
      | true => rw [hb] at e; cases e; exact ⟨_, rfl, r1⟩
      | false => rw [hb] at e; exact lookup_rep h r2 e
theorem Rm.make {k : Nat} {A : Around} (r : Rm (k + 1) A) (C : Addr) (us : List Value) (kw : List (Str × Value)) : Rm k (A.under (.builtin "type.__call__" ⟨.ref C :: us, kw⟩)) := by
  refine ⟨r.room.make C us kw, ?_⟩
  show pushGuards (Code.guards (.builtin "type.__call__" ⟨.ref C :: us, kw⟩)) A.guards = some []
  have e : Code.guards (.builtin "type.__call__" ⟨.ref C :: us, kw⟩) = [] := by
    have g : Code.isGuard (.builtin "type.__call__" ⟨.ref C :: us, kw⟩) = false := show guardIds.contains "type.__call__" = false by decide +kernel
    unfold Code.guards
    rw [g]
    rfl
  rw [e]
  exact r.gd
end Dk
namespace Dk
open PySem L2
end Dk
namespace Dk
open PySem L2
open PyProof.Rows (envOfC)
def finO (F : Fx) (K : PySem.W.Frag) (I H : Hp) (Q : VK) : List D → Prop := fun ds => ∀ p vs I' H', Stp F.W I H I' H' → H' p = none → Reps K I' vs ds → Q (.ref p) (upd H' p (.lst vs))
structure DSpO where
  n : Nat
  f : List D → (List D → Prop) → Prop
  len : ∀ ds Q, f ds Q → ds.length = n
  mono : ∀ ds (Q Q' : List D → Prop), (∀ d, Q d → Q' d) → f ds Q → f ds Q'
def spO (W : Wd) (K : PySem.W.Frag) (S : DSpO) : Sp := fun vs H Q _ => ∃ I ds, StI W I H ∧ Reps K I vs ds ∧ S.f ds (finO ⟨W, H, I⟩ K I H Q)
structure CalO (P : Program) (w : World) (K : PySem.W.Frag) (mg : Str → Option Value) (base : Heap) (W : Wd) (k : Nat) (x : Str) (ps : List Str) (S : DSpO) : Prop where
  ex : ∃ f fd, GnOk P w K mg base CX0 k f fd ps (spO W K S) ∧ mg x = some (.ref f) ∧ PySem.W.keepIn K (.ref f) = true ∧ Binds K fd ps []
theorem CalO.of {P : Program} {w : World} {K : PySem.W.Frag} {mg : Str → Option Value} {base : Heap} {W : Wd} {k : Nat} {x qual : Str} {st : Stmt} {f : Addr} {fd : FuncData} {ps : List Str} {S : DSpO} (Fn : Fun K x qual st f fd) (G : GnOk P w K mg base CX0 k f fd ps (spO W K S)) (m : mg x = some (.ref f))
    (h : ∀ (kV doc pm : Value) (an : Option Addr) (cdv ct : Value) (us : List Value), us.length = ps.length → bindArgs (PySem.W.fnOf x qual (defArgs st) (defBody st) (defScope st) .none kV doc pm an cdv ct) ⟨us, []⟩ = pure (ps.zip us)) : CalO P w K mg base W k x ps S :=
  ⟨f, fd, G, m, Fn.kp, Fn.binds h⟩
/-- .. as plain data -/
def DSpO.dat (S : DSpO) : DSp := ⟨S.n, fun ds Q _ => S.f ds fun es => Q (.lst es), fun ds Q _ h => S.len _ _ h, fun ds Q Q' _ _ k _ h => S.mono _ _ _ (fun d => k _) h⟩
end Dk
namespace Dk
open PySem L2
end Dk
namespace Dk
open PySem L2
end Dk
namespace Dk
open PySem L2
open PyProof.Rows (envOfC)
theorem Rm.in1 {k : Nat} {A : Around} (r : Rm (k + 1) A) : Rm k A.in1 := ⟨r.room.in1, r.gd⟩
end Dk
namespace Dk
open PySem L2
def objD (C : Addr) (d : D) (P : Prop) : Prop := ∃ fs, d = .obj C fs ∧ P
theorem objD.mono {C : Addr} {d : D} {P P' : Prop} (k : P → P') : objD C d P → objD C d P' := fun ⟨fs, e, p⟩ => ⟨fs, e, k p⟩
theorem Rep.ins {K : PySem.W.Frag} {I : Hp} {v : V} {C : Addr} {fs : List (Str × D)} (r : Rep K I v (.obj C fs)) : ∃ a dx ws, v = .ref a ∧ I a = some (.ins C dx ws) := by
  cases r with
  | @obj a C dx ws ds h _ _ => exact ⟨a, dx, ws, rfl, h⟩
section
variable {F : Fx} {X : Cx} {K : PySem.W.Frag} {k : Nat} {C : Addr} {S : DSp} {ps : List Str} {e a b : Expr} {te ta tb : DT} {t : DAT} {p pos q1 q2 : Pos} {T : V → Hp → VK → Prop} {m x : Str}
def tStrD (r : D) (Q : D → Prop) : Prop := ∃ x, r = .str x ∧ Q (.str x)
theorem tStrD.mono : ∀ r (Q Q' : D → Prop), (∀ d, Q d → Q' d) → tStrD r Q → tStrD r Q' := fun r Q Q' k ⟨n, e, q⟩ => ⟨n, e, k _ q⟩
end
end Dk
namespace Dk
open PySem L2
end Dk
namespace Dk
open PySem PySem.Spec PyProof.Rows L2
end Dk
namespace Dk
open PySem PySem.W L2
open Builtin Builtin.ObjectAttr
structure XB (nB newId iB initId : String) (tl : List Value) : Prop where
  nw : ∃ jd tl0, ExcBaseFacts nB newId jd tl0
  slot : Slot iB "__init__" initId
  entry : entryFor table initId = some Builtin.«BaseException.__init__»
  kind : builtinKind initId = some .slot
  split : splitId initId = some (iB, "__init__")
  sig : Manifest.signature? initId = some ⟨.positional, "*", iB, .self, [⟨"args", .varPos, false⟩]⟩
  star : (iB != "*") = true
  hn : tl.contains (.type nB) = true
  hi : tl.contains (.type iB) = true
  hA : tl.contains (.type "AttributeError") = false
  hN : tl.contains (.type "NameError") = false
  hO : tl.contains (.type "object") = true
  SF : StoreFacts iB tl "object.__setattr__" "object"
abbrev veTl : List Value := [.type "ValueError", .type "Exception", .type "BaseException", .type "object"]
abbrev keTl : List Value := [.type "KeyError", .type "LookupError", .type "Exception", .type "BaseException", .type "object"]
theorem xb_ve : XB "ValueError" "ValueError.__new__" "ValueError" "ValueError.__init__" veTl where
  nw := ⟨_, _, PySem.F.excBase_ValueError⟩
  slot := PySem.F.excBase_ValueError.init
  entry := PySem.F.excBase_ValueError.initEntry
  kind := PySem.F.excBase_ValueError.initKind
  split := PySem.F.excBase_ValueError.initSplit
  sig := PySem.F.excBase_ValueError.initRow
  star := PySem.F.excBase_ValueError.noStar
  hn := by decide +kernel
  hi := by decide +kernel
  hA := by decide +kernel
  hN := by decide +kernel
  hO := by decide +kernel
  SF := PySem.F.store_ValueError
theorem slot_ke : Slot "KeyError" "__setattr__" "object.__setattr__" := by
  refine .of (owner := "object") (n := "__setattr__") ?_ (by decide +kernel) (by decide +kernel) (by decide +kernel) ?_ ?_
  · rw [typeLookup_type, builtinLookup_eq_fast]
    kernel_rfl
  · first
      | exact .inl (by decide +kernel)
      | exact .inr (by decide +kernel)
  · rw [isSubtype_type]
    kernel_rfl
theorem sf_ke : StoreFacts "KeyError" keTl "object.__setattr__" "object" :=
  ⟨by kernel_rfl, slot_ke, PySem.F.store_ValueError.entry, PySem.F.store_ValueError.kind, PySem.F.store_ValueError.split, by decide +kernel, PySem.F.store_ValueError.args, fun self => by kernel_rfl⟩
theorem xb_ke : XB "LookupError" "LookupError.__new__" "KeyError" "KeyError.__init__" keTl where
  nw := ⟨_, _, PySem.F.excBase_LookupError⟩
  slot := PyProof.Rows.excClass_KeyError.init
  entry := PyProof.Rows.excClass_KeyError.initEntry
  kind := PyProof.Rows.excClass_KeyError.initKind
  split := PyProof.Rows.excClass_KeyError.initSplit
  sig := PyProof.Rows.excClass_KeyError.initSig
  star := PyProof.Rows.excClass_KeyError.notStar
  hn := by decide +kernel
  hi := by decide +kernel
  hA := by decide +kernel
  hN := by decide +kernel
  hO := by decide +kernel
  SF := sf_ke
section
variable {M : Model} {A : Around} {E : Value → Shared → Prop} {h : Heap} {g : Array GenState} {d : Drawn} {t : Nat} {os : OsState}
variable {nm q : Str} {C N : Addr} {bs bm tl : List Value} {hdct : Bool} {sn : List Str} {sub : List Value} {ab : Bool} {col : Option Bool} {dd : Option Addr} {k0 k1 k2 k3 k5 : Option Value} {nB newId iB initId : String}
theorem x_has (hT : ∀ X : String, bm.contains (.type X) = tl.contains (.type X)) {X : String} {b : Bool} (h : tl.contains (.type X) = b) : (Value.ref C :: bm).contains (.type X) = b := by
  rw [List.contains_cons, hT, h]
  rfl
theorem x_check_new (B : XB nB newId iB initId tl) (hT : ∀ X : String, bm.contains (.type X) = tl.contains (.type X)) {rest : List Value} {Q : Unit → Shared → Prop}
    (hC : h.get? C = some (excClassObj nm q C N bs bm hdct sn sub ab col dd k0 k1 k2 k3 k5 newId)) (hq : Q () ⟨h, g, d, t, os⟩) : wpAny M A (checkBuiltinCall newId ⟨.ref C :: rest, []⟩) Q E ⟨h, g, d, t, os⟩ := by
  obtain ⟨jd, tl0, F⟩ := B.nw
  have has := x_has (C := C) hT B.hn
  have nostar := F.noStar
  simp only [checkBuiltinCall, F.newKind, F.newSplit, F.newRow]
  repeat (first
    | refine wpAny_loadPart_at hC ?_
    | (refine wpAny_isSubtype_exc hC ?_; rw [has])
    | refine wpAny_staticBase_exc hC ?_
    | refine wpAny_madeBy_exc hC ?_
    | simp only [bne_self_eq_false, Bool.false_eq_true, if_false]
    | wp_step)
  exact hq
theorem x_check_init (B : XB nB newId iB initId tl) (hT : ∀ X : String, bm.contains (.type X) = tl.contains (.type X)) {e : Addr} {oe : Obj} {rest : List Value} {Q : Unit → Shared → Prop}
    (hC : h.get? C = some (excClassObj nm q C N bs bm hdct sn sub ab col dd k0 k1 k2 k3 k5 newId)) (he : h.get? e = some oe) (hcls : oe.cls = .ref C) (hq : Q () ⟨h, g, d, t, os⟩) : wpAny M A (checkBuiltinCall initId ⟨.ref e :: rest, []⟩) Q E ⟨h, g, d, t, os⟩ := by
  have has := x_has (C := C) hT B.hi
  have nostar := B.star
  simp only [checkBuiltinCall, B.kind, B.split, B.sig]
  repeat (first
    | (with_reducible refine wpAny_loadPart_at he ?_; rw [hcls])
    | with_reducible refine wpAny_loadPart_at hC ?_
    | (with_reducible refine wpAny_isSubtype_exc hC ?_; rw [has])
    | wp_step)
  refine wpAny_onRaise ?_
  have cs := fun a b n => check_star_args "*" iB a b .self n
  show wpAny _ _ (Bind.check _ _ _ _ []) _ _ _
  rw [cs]
  exact wpAny_pure hq
end
section
variable {prog : Program} {w : World} {A : Around} {E : Value → Shared → Prop} {R : Result → Shared → Prop} {h : Heap} {g : Array GenState} {d : Drawn} {t : Nat} {os : OsState}
variable {nm q : Str} {C N : Addr} {bs bm tl : List Value} {hdct : Bool} {sn : List Str} {sub : List Value} {ab : Bool} {col : Option Bool} {dd : Option Addr} {k0 k1 k2 k3 k5 : Option Value} {nB newId iB initId : String}
/-- the new record and its args -/
abbrev xNew (h : Heap) (C : Addr) (rest : List Value) : Heap := (h.push (PySem.W.kdv_tup rest)).push (PySem.HandSPX.excO C h.objs.size)
theorem x_new (B : XB nB newId iB initId tl) (hT : ∀ X : String, bm.contains (.type X) = tl.contains (.type X)) {rest : List Value}
    (hC : h.get? C = some (excClassObj nm q C N bs bm hdct sn sub ab col dd k0 k1 k2 k3 k5 newId)) (hq : R (.ok (.ret (.ref (h.objs.size + 1)))) ⟨xNew h C rest, g, d, t, os⟩) (hrest : rest.length ≤ sizeLine) :
    codeAny (model prog w) A (.builtin newId ⟨.ref C :: rest, []⟩) R ⟨h, g, d, t, os⟩ := by
  obtain ⟨jd, tl0, F⟩ := B.nw
  have ends := F.ends
  have c1 := x_has (C := C) hT B.hn
  have c2 := x_has (C := C) hT B.hA
  have c3 := x_has (C := C) hT B.hN
  refine codeAny_builtinAt F.entry ?_
  unfold Builtin.«BaseException.__new__»
  refine wpAt_bind ?_
  show wpAt _ _ _ (stack >>= _) _ _ _
  refine wpAt_bind (wpAt_stack fun p below => wpAt_of_wpAny ?_)
  wp_walk
  refine wpAt_of_wpAny ?_
  rw [F.owner]
  repeat (first
    | with_reducible refine wpAny_madeHere_exc F.canon hC ?_
    | with_reducible refine wpAny_loadPart_at hC ?_
    | (with_reducible refine wpAny_isSubtype_exc hC ?_; first | rw [c1] | rw [c2] | rw [c3])
    | wp_step)
  show R _ _
  rw [Heap.size_push]
  exact hq
theorem x_type_call (B : XB nB newId iB initId tl) (hT : ∀ X : String, bm.contains (.type X) = tl.contains (.type X)) {rest : List Value} {fI : Addr} {Q : Fin → Shared → Prop}
    (hC : h.get? C = some (excClassObj nm q C N bs bm hdct sn sub ab col dd k0 k1 k2 k3 k5 newId)) (hi : Looks (model prog w) h (typeLookup (.ref C) "__init__") (some (.ref fI)))
    (hb : ∀ self, Looks (model prog w) h (bindSpecial (.ref fI) self) (.ref fI, [self])) (hrest : rest.length ≤ sizeLine)
    (hq : codeAny (model prog w) A (.call (.ref fI) ⟨.ref (h.objs.size + 1) :: rest, []⟩)
      (fun r s' => match r with | .ok (.ret v) => v = .none ∧ Q (.done (.ret (.ref (h.objs.size + 1)))) s' | .ok _ => False | .error e => E e s') ⟨xNew h C rest, g, d, t, os⟩) :
    wpAny (model prog w) A (Builtin.«type.__call__» ⟨.ref C :: rest, []⟩) Q E ⟨h, g, d, t, os⟩ := by
  obtain ⟨jd, tl0, F⟩ := B.nw
  repeat (first | with_reducible refine wpAny_loadPart_at hC ?_ | with_reducible refine wpAny_madeBy_exc hC ?_ | wp_step)
  refine codeAny_call_builtin_code (Code.quiet_builtin _ F.quiet) (x_check_new B hT hC (x_new B hT hC ?_ hrest))
  show wpAny _ _ _ _ _ _
  have k : ∀ b o, h.get? b = some o → (xNew h C rest).get? b = some o := fun b o e => Heap.get?_push_of_some _ (Heap.get?_push_of_some _ e)
  have at1 : (xNew h C rest).get? (h.objs.size + 1) = some (PySem.HandSPX.excO C h.objs.size) := by heap_get
  have self1 : (Value.ref C :: bm).contains (.ref C) = true := by simp
  have hC1 := k _ _ hC
  have i1 := hi.keeps k
  have b1 := (hb (.ref (h.objs.size + 1))).keeps k
  unfold isInstance
  repeat (first | with_reducible refine wpAny_loadPart_at at1 ?_ | (with_reducible refine wpAny_isSubtype_exc hC1 ?_; rw [self1]) | wp_step)
  show wpAny _ _ (typeLookup (.ref C) _) _ _ _
  refine i1.at (wpAny_holding (wpAny_bind (b1.at (wpAny_bind (wpAny_call (codeAny_mono hq fun r s' z => ?_))))))
  rcases r with e | (v | _ | _ | _) <;> first | exact z | exact z.elim | skip
  obtain ⟨rfl, z⟩ := z
  first
    | exact wpAny_pure (wpAny_pure z)
    | (wp_walk; exact z)
/-- C(..), C's own __init__ at fI -/
theorem x_call (B : XB nB newId iB initId tl) (hT : ∀ X : String, bm.contains (.type X) = tl.contains (.type X)) {rest : List Value} {fI : Addr}
    (hC : h.get? C = some (excClassObj nm q C N bs bm hdct sn sub ab col dd k0 k1 k2 k3 k5 newId)) (hi : Looks (model prog w) h (typeLookup (.ref C) "__init__") (some (.ref fI)))
    (hb : ∀ self, Looks (model prog w) h (bindSpecial (.ref fI) self) (.ref fI, [self])) (hrest : rest.length ≤ sizeLine)
    (hq : codeAny (model prog w) (A.under (.builtin "type.__call__" ⟨.ref C :: rest, []⟩)) (.call (.ref fI) ⟨.ref (h.objs.size + 1) :: rest, []⟩) (W.InitBack (h.objs.size + 1) R) ⟨xNew h C rest, g, d, t, os⟩) :
    codeAny (model prog w) A (.call (.ref C) ⟨rest, []⟩) R ⟨h, g, d, t, os⟩ := by
  have f1 := tc_lookup
  have f2 := tc_bind (.ref C)
  have ty : (⟨h, g, d, t, os⟩ : Shared).TypeIs (.ref C) "type" := ⟨_, hC, rfl⟩
  refine codeAny_of_tree ?_
  show wpAny _ _ (callAny (.ref C) _) _ _ _
  repeat (any_goals (first | assumption | with_reducible refine wpAny_loadPart_at hC ?_ | wp_step))
  refine ⟨rfl, codeAny_call_builtin_at (Code.quiet_builtin _ (by decide +kernel)) entry_typeCall (wpAny_check_type_call_sub hC (x_type_call B hT hC hi hb hrest (codeAny_mono hq fun r s' z => ?_)))⟩
  rcases r with e | (v | _ | _ | _) <;> exact z
/-- iB.__init__(e, ..) -/
theorem x_init (B : XB nB newId iB initId tl) (hT : ∀ X : String, bm.contains (.type X) = tl.contains (.type X)) {e t0 : Addr} {rest : List Value}
    (hC : h.get? C = some (excClassObj nm q C N bs bm hdct sn sub ab col dd k0 k1 k2 k3 k5 newId)) (he : h.get? e = some (PySem.HandSPX.excO C t0)) (hrest : rest.length ≤ sizeLine)
    (hq : ∀ h' t1, (∀ b o, b ≠ e → h.get? b = some o → h'.get? b = some o) → h'.get? e = some (PySem.HandSPX.excO C t1) → R (.ok (.ret .none)) ⟨h', g, d, t, os⟩) :
    codeAny (model prog w) A (.call (.builtin initId) ⟨.ref e :: rest, []⟩) R ⟨h, g, d, t, os⟩ := by
  refine codeAny_call_builtin B.slot.plain B.entry (x_check_init B hT hC he rfl ?_)
  wp_walk
  have he2 := Heap.get?_push_of_some (PySem.W.kdv_tup rest) he
  refine hq _ h.objs.size (fun b o hb ho => (Heap.get?_update_other _ _ (Ne.symm hb)).trans (Heap.get?_push_of_some _ ho)) ?_
  exact (Heap.get?_update_self _ he2 rfl).trans rfl
end
end Dk
namespace Dk
open PySem PySem.W
def initVE (K : Frag) (D : Addr) : Bool := match findCls K (.ref D) (.type "type") "__init__" with
  | some (.val v) => v == .builtin "ValueError.__init__"
  | _ => false
theorem initVE_of {K : Frag} {D : Addr} (h : initVE K D = true) : findCls K (.ref D) (.type "type") "__init__" = some (.val (.builtin "ValueError.__init__")) := by
  unfold initVE at h
  split at h
  · rename_i v e
    rw [e, eq_of_beq h]
  · cases h
end Dk
namespace Dk
open PySem PySem.W
def kitTab (K : Frag) (l : List Addr) : Bool := (List.range 18).all fun i => (List.range 18).all fun j => decide (kitOne K (.ref (l.getD i 0)) (.ref (l.getD j 0)) = some (j == i))
def kitRow (K : Frag) (l : List Addr) (c : Value) (a b : Nat) : Bool := (List.range 18).all fun i => decide (kitOne K (.ref (l.getD i 0)) c = some (decide (a ≤ i ∧ i < b)))
theorem kitTab_of {K : Frag} {l : List Addr} {cs : Nat → Addr} (h : kitTab K l = true) (e : cs = fun i => l.getD i 0) : ∀ i j, i < 18 → j < 18 → kitOne K (.ref (cs i)) (.ref (cs j)) = some (j == i) := fun i j hi hj => by
  subst e
  exact of_decide_eq_true (List.all_eq_true.mp (List.all_eq_true.mp h i (List.mem_range.mpr hi)) j (List.mem_range.mpr hj))
theorem kitRow_of {K : Frag} {l : List Addr} {cs : Nat → Addr} {c : Value} {a b : Nat} (h : kitRow K l c a b = true) (e : cs = fun i => l.getD i 0) : ∀ i, i < 18 → kitOne K (.ref (cs i)) c = some (decide (a ≤ i ∧ i < b)) := fun i hi => by
  subst e
  exact of_decide_eq_true (List.all_eq_true.mp h i (List.mem_range.mpr hi))
theorem kitRow_lo {K : Frag} {l : List Addr} {cs : Nat → Addr} {c : Value} (h : kitRow K l c 0 16 = true) (e : cs = fun i => l.getD i 0) : ∀ i, i < 18 → kitOne K (.ref (cs i)) c = some (decide (i < 16)) := fun i hi => by
  rw [kitRow_of h e i hi]
  simp
theorem kitRow_hi {K : Frag} {l : List Addr} {cs : Nat → Addr} {c : Value} (h : kitRow K l c 16 18 = true) (e : cs = fun i => l.getD i 0) : ∀ i, i < 18 → kitOne K (.ref (cs i)) c = some (decide (15 < i)) := fun i hi => by
  rw [kitRow_of h e i hi]
  congr 1
  rw [Bool.eq_iff_iff]
  simp only [decide_eq_true_eq]
  omega
end Dk
namespace KB
open PySem L2 Dk PySem.Spec PyProof.Rows
def hTop (i : Nat) : Stmt := PySem.Challenge.pw_dressedkinds_k06_refusals_made.main.body.getD i (.Pass ⟨0, 0, 0, 0⟩)
def hB0 (K : PySem.W.Frag) : Bool := decide ((PySem.W.nsIn K mainGlobals "Bare" = some (some (.ref (He.ga K "Bare")))) ∧ (PySem.W.nsIn K mainGlobals "NoFun" = some (some (.ref (He.ga K "NoFun")))) ∧ (PySem.W.nsIn K mainGlobals "NoFall" = some (some (.ref (He.ga K "NoFall")))) ∧ (PySem.W.nsIn K mainGlobals "TooLong" = some (some (.ref (He.ga K "TooLong")))) ∧ (PySem.W.nsIn K mainGlobals "NoOrnament" = some (some (.ref (He.ga K "NoOrnament")))) ∧ (PySem.W.nsIn K mainGlobals "NoDress" = some (some (.ref (He.ga K "NoDress")))) ∧ (PySem.W.nsIn K mainGlobals "NoFilling" = some (some (.ref (He.ga K "NoFilling")))) ∧ (PySem.W.nsIn K mainGlobals "Gap" = some (some (.ref (He.ga K "Gap")))) ∧ (PySem.W.nsIn K mainGlobals "NoIndex" = some (some (.ref (He.ga K "NoIndex")))) ∧ (PySem.W.nsIn K mainGlobals "NoName" = some (some (.ref (He.ga K "NoName")))) ∧ (PySem.W.nsIn K mainGlobals "Taken" = some (some (.ref (He.ga K "Taken")))) ∧ (PySem.W.nsIn K mainGlobals "InUse" = some (some (.ref (He.ga K "InUse")))) ∧ (PySem.W.nsIn K mainGlobals "NoKind" = some (some (.ref (He.ga K "NoKind")))) ∧ (PySem.W.nsIn K mainGlobals "NoBough" = some (some (.ref (He.ga K "NoBough")))) ∧ (PySem.W.nsIn K mainGlobals "KindError" = some (some (.ref (He.ga K "KindError")))) ∧ (PySem.W.findIn K (.ref (He.ga K "Bare")) "__init__" = some (some (.ref (He.fAd K ("Bare", some "__init__"))))) ∧ (PySem.W.keepIn K (.ref (He.fAd K ("Bare", some "__init__"))) = true) ∧ (PySem.W.isFn K (.ref (He.fAd K ("Bare", some "__init__"))) = true) ∧ (PySem.W.findIn K (.ref (He.ga K "NoFun")) "__init__" = some (some (.ref (He.fAd K ("NoFun", some "__init__"))))) ∧ (PySem.W.keepIn K (.ref (He.fAd K ("NoFun", some "__init__"))) = true) ∧ (PySem.W.isFn K (.ref (He.fAd K ("NoFun", some "__init__"))) = true) ∧ (PySem.W.findIn K (.ref (He.ga K "NoFall")) "__init__" = some (some (.ref (He.fAd K ("NoFall", some "__init__"))))) ∧ (PySem.W.keepIn K (.ref (He.fAd K ("NoFall", some "__init__"))) = true) ∧ (PySem.W.isFn K (.ref (He.fAd K ("NoFall", some "__init__"))) = true) ∧ (PySem.W.findIn K (.ref (He.ga K "TooLong")) "__init__" = some (some (.ref (He.fAd K ("TooLong", some "__init__"))))))
def hB1 (K : PySem.W.Frag) : Bool := decide ((PySem.W.keepIn K (.ref (He.fAd K ("TooLong", some "__init__"))) = true) ∧ (PySem.W.isFn K (.ref (He.fAd K ("TooLong", some "__init__"))) = true) ∧ (PySem.W.findIn K (.ref (He.ga K "NoOrnament")) "__init__" = some (some (.ref (He.fAd K ("NoOrnament", some "__init__"))))) ∧ (PySem.W.keepIn K (.ref (He.fAd K ("NoOrnament", some "__init__"))) = true) ∧ (PySem.W.isFn K (.ref (He.fAd K ("NoOrnament", some "__init__"))) = true) ∧ (PySem.W.findIn K (.ref (He.ga K "NoDress")) "__init__" = some (some (.ref (He.fAd K ("NoDress", some "__init__"))))) ∧ (PySem.W.keepIn K (.ref (He.fAd K ("NoDress", some "__init__"))) = true) ∧ (PySem.W.isFn K (.ref (He.fAd K ("NoDress", some "__init__"))) = true) ∧ (PySem.W.findIn K (.ref (He.ga K "NoFilling")) "__init__" = some (some (.ref (He.fAd K ("NoFilling", some "__init__"))))) ∧ (PySem.W.keepIn K (.ref (He.fAd K ("NoFilling", some "__init__"))) = true) ∧ (PySem.W.isFn K (.ref (He.fAd K ("NoFilling", some "__init__"))) = true) ∧ (PySem.W.findIn K (.ref (He.ga K "Gap")) "__init__" = some (some (.ref (He.fAd K ("Gap", some "__init__"))))) ∧ (PySem.W.keepIn K (.ref (He.fAd K ("Gap", some "__init__"))) = true) ∧ (PySem.W.isFn K (.ref (He.fAd K ("Gap", some "__init__"))) = true) ∧ (PySem.W.findIn K (.ref (He.ga K "NoIndex")) "__init__" = some (some (.ref (He.fAd K ("NoIndex", some "__init__"))))) ∧ (PySem.W.keepIn K (.ref (He.fAd K ("NoIndex", some "__init__"))) = true) ∧ (PySem.W.isFn K (.ref (He.fAd K ("NoIndex", some "__init__"))) = true) ∧ (PySem.W.findIn K (.ref (He.ga K "NoName")) "__init__" = some (some (.ref (He.fAd K ("NoName", some "__init__"))))) ∧ (PySem.W.keepIn K (.ref (He.fAd K ("NoName", some "__init__"))) = true) ∧ (PySem.W.isFn K (.ref (He.fAd K ("NoName", some "__init__"))) = true) ∧ (PySem.W.findIn K (.ref (He.ga K "Taken")) "__init__" = some (some (.ref (He.fAd K ("Taken", some "__init__"))))) ∧ (PySem.W.keepIn K (.ref (He.fAd K ("Taken", some "__init__"))) = true) ∧ (PySem.W.isFn K (.ref (He.fAd K ("Taken", some "__init__"))) = true) ∧ (PySem.W.findIn K (.ref (He.ga K "InUse")) "__init__" = some (some (.ref (He.fAd K ("InUse", some "__init__"))))) ∧ (PySem.W.keepIn K (.ref (He.fAd K ("InUse", some "__init__"))) = true))
def hB2 (K : PySem.W.Frag) : Bool := decide ((PySem.W.isFn K (.ref (He.fAd K ("InUse", some "__init__"))) = true) ∧ (PySem.W.findIn K (.ref (He.ga K "NoKind")) "__init__" = some (some (.ref (He.fAd K ("NoKind", some "__init__"))))) ∧ (PySem.W.keepIn K (.ref (He.fAd K ("NoKind", some "__init__"))) = true) ∧ (PySem.W.isFn K (.ref (He.fAd K ("NoKind", some "__init__"))) = true) ∧ (PySem.W.findIn K (.ref (He.ga K "NoBough")) "__init__" = some (some (.ref (He.fAd K ("NoBough", some "__init__"))))) ∧ (PySem.W.keepIn K (.ref (He.fAd K ("NoBough", some "__init__"))) = true) ∧ (PySem.W.isFn K (.ref (He.fAd K ("NoBough", some "__init__"))) = true) ∧ (PySem.W.nsIn K mainGlobals "_law_deck" = some (some (.ref (He.fAd K ("_law_deck", none))))) ∧ (PySem.W.keepIn K (.ref (He.fAd K ("_law_deck", none))) = true) ∧ (PySem.W.nsIn K mainGlobals "_law_draw" = some (some (.ref (He.fAd K ("_law_draw", none))))) ∧ (PySem.W.keepIn K (.ref (He.fAd K ("_law_draw", none))) = true) ∧ (PySem.W.nsIn K mainGlobals "_law_pick" = some (some (.ref (He.fAd K ("_law_pick", none))))) ∧ (PySem.W.keepIn K (.ref (He.fAd K ("_law_pick", none))) = true) ∧ (PySem.W.nsIn K mainGlobals "_law_kinds_of" = some (some (.ref (He.fAd K ("_law_kinds_of", none))))) ∧ (PySem.W.keepIn K (.ref (He.fAd K ("_law_kinds_of", none))) = true) ∧ (PySem.W.nsIn K mainGlobals "_law_above" = some (some (.ref (He.fAd K ("_law_above", none))))) ∧ (PySem.W.keepIn K (.ref (He.fAd K ("_law_above", none))) = true) ∧ (PySem.W.nsIn K mainGlobals "_law_made" = some (some (.ref (He.fAd K ("_law_made", none))))) ∧ (PySem.W.keepIn K (.ref (He.fAd K ("_law_made", none))) = true) ∧ (PySem.W.nsIn K mainGlobals "_law_named" = some (some (.ref (He.fAd K ("_law_named", none))))) ∧ (PySem.W.keepIn K (.ref (He.fAd K ("_law_named", none))) = true) ∧ (PySem.W.nsIn K mainGlobals "_law_fields" = some (some (.ref (He.fAd K ("_law_fields", none))))) ∧ (PySem.W.keepIn K (.ref (He.fAd K ("_law_fields", none))) = true) ∧ (PySem.W.nsIn K mainGlobals "_law_right" = some (some (.ref (He.fAd K ("_law_right", none))))) ∧ (PySem.W.keepIn K (.ref (He.fAd K ("_law_right", none))) = true))
def hB3 (K : PySem.W.Frag) : Bool := decide ((PySem.W.nsIn K mainGlobals "_law_raised" = some (some (.ref (He.fAd K ("_law_raised", none))))) ∧ (PySem.W.keepIn K (.ref (He.fAd K ("_law_raised", none))) = true) ∧ (PySem.W.nsIn K mainGlobals "law" = some (some (.ref (He.fAd K ("law", none))))) ∧ (PySem.W.keepIn K (.ref (He.fAd K ("law", none))) = true) ∧ ((He.Fa.str "NUM" "num").ok K = true) ∧ ((He.Fa.str "SUM" "sum").ok K = true) ∧ ((He.Fa.str "TOP" "top").ok K = true) ∧ ((He.Fa.int "RUNS" (400)).ok K = true) ∧ (PySem.W.excInitIn K (He.ga K "Bare") ([.type "ValueError", .type "Exception", .type "BaseException", .type "object"] : List Value) "ValueError.__new__" = true) ∧ (PySem.W.excOver K (He.ga K "Bare") ([.type "ValueError", .type "Exception", .type "BaseException", .type "object"] : List Value) = true) ∧ (PySem.W.hasDictIn K (He.ga K "Bare") = true) ∧ (PySem.W.findIn K (.ref (He.ga K "Bare")) "__setattr__" = some (some (.builtin "object.__setattr__"))) ∧ (PySem.W.subIn K (.ref (He.ga K "Bare")) (.type "BaseException") = some true) ∧ (PySem.W.typeIn K (.ref (He.ga K "Bare")) = some (.type "type")) ∧ (PySem.W.keepIn K (.ref (He.ga K "Bare")) = true) ∧ (PySem.W.findIn K (.ref (He.ga K "Bare")) "__getattribute__" = some (some (.builtin "BaseException.__getattribute__"))) ∧ (PySem.W.findIn K (.ref (He.ga K "Bare")) "__getattr__" = some none) ∧ (PySem.W.findIn K (.ref (He.ga K "Bare")) "__class__" = some (some (.builtin "object.__class__"))) ∧ (PySem.W.specialIn K (.builtin "object.__class__") "__get__" = some (some (.builtin "getset_descriptor.__get__"))) ∧ (PySem.W.takesIn K (.builtin "object.__class__") = some true) ∧ (PySem.W.mroIn K (He.ga K "Bare") (.type "object") = some true) ∧ (PySem.W.findIn K (.ref (He.ga K "Bare")) "kind" = some none) ∧ (PySem.W.excInitIn K (He.ga K "NoFun") ([.type "ValueError", .type "Exception", .type "BaseException", .type "object"] : List Value) "ValueError.__new__" = true) ∧ (PySem.W.excOver K (He.ga K "NoFun") ([.type "ValueError", .type "Exception", .type "BaseException", .type "object"] : List Value) = true) ∧ (PySem.W.hasDictIn K (He.ga K "NoFun") = true))
def hB4 (K : PySem.W.Frag) : Bool := decide ((PySem.W.findIn K (.ref (He.ga K "NoFun")) "__setattr__" = some (some (.builtin "object.__setattr__"))) ∧ (PySem.W.subIn K (.ref (He.ga K "NoFun")) (.type "BaseException") = some true) ∧ (PySem.W.typeIn K (.ref (He.ga K "NoFun")) = some (.type "type")) ∧ (PySem.W.keepIn K (.ref (He.ga K "NoFun")) = true) ∧ (PySem.W.findIn K (.ref (He.ga K "NoFun")) "__getattribute__" = some (some (.builtin "BaseException.__getattribute__"))) ∧ (PySem.W.findIn K (.ref (He.ga K "NoFun")) "__getattr__" = some none) ∧ (PySem.W.findIn K (.ref (He.ga K "NoFun")) "__class__" = some (some (.builtin "object.__class__"))) ∧ (PySem.W.specialIn K (.builtin "object.__class__") "__get__" = some (some (.builtin "getset_descriptor.__get__"))) ∧ (PySem.W.takesIn K (.builtin "object.__class__") = some true) ∧ (PySem.W.mroIn K (He.ga K "NoFun") (.type "object") = some true) ∧ (PySem.W.findIn K (.ref (He.ga K "NoFun")) "row" = some none) ∧ (PySem.W.excInitIn K (He.ga K "NoFall") ([.type "ValueError", .type "Exception", .type "BaseException", .type "object"] : List Value) "ValueError.__new__" = true) ∧ (PySem.W.excOver K (He.ga K "NoFall") ([.type "ValueError", .type "Exception", .type "BaseException", .type "object"] : List Value) = true) ∧ (PySem.W.hasDictIn K (He.ga K "NoFall") = true) ∧ (PySem.W.findIn K (.ref (He.ga K "NoFall")) "__setattr__" = some (some (.builtin "object.__setattr__"))) ∧ (PySem.W.subIn K (.ref (He.ga K "NoFall")) (.type "BaseException") = some true) ∧ (PySem.W.typeIn K (.ref (He.ga K "NoFall")) = some (.type "type")) ∧ (PySem.W.keepIn K (.ref (He.ga K "NoFall")) = true) ∧ (PySem.W.findIn K (.ref (He.ga K "NoFall")) "__getattribute__" = some (some (.builtin "BaseException.__getattribute__"))) ∧ (PySem.W.findIn K (.ref (He.ga K "NoFall")) "__getattr__" = some none) ∧ (PySem.W.findIn K (.ref (He.ga K "NoFall")) "__class__" = some (some (.builtin "object.__class__"))) ∧ (PySem.W.specialIn K (.builtin "object.__class__") "__get__" = some (some (.builtin "getset_descriptor.__get__"))) ∧ (PySem.W.takesIn K (.builtin "object.__class__") = some true) ∧ (PySem.W.mroIn K (He.ga K "NoFall") (.type "object") = some true) ∧ (PySem.W.findIn K (.ref (He.ga K "NoFall")) "row" = some none))
def hB5 (K : PySem.W.Frag) : Bool := decide ((PySem.W.excInitIn K (He.ga K "TooLong") ([.type "ValueError", .type "Exception", .type "BaseException", .type "object"] : List Value) "ValueError.__new__" = true) ∧ (PySem.W.excOver K (He.ga K "TooLong") ([.type "ValueError", .type "Exception", .type "BaseException", .type "object"] : List Value) = true) ∧ (PySem.W.hasDictIn K (He.ga K "TooLong") = true) ∧ (PySem.W.findIn K (.ref (He.ga K "TooLong")) "__setattr__" = some (some (.builtin "object.__setattr__"))) ∧ (PySem.W.subIn K (.ref (He.ga K "TooLong")) (.type "BaseException") = some true) ∧ (PySem.W.typeIn K (.ref (He.ga K "TooLong")) = some (.type "type")) ∧ (PySem.W.keepIn K (.ref (He.ga K "TooLong")) = true) ∧ (PySem.W.findIn K (.ref (He.ga K "TooLong")) "__getattribute__" = some (some (.builtin "BaseException.__getattribute__"))) ∧ (PySem.W.findIn K (.ref (He.ga K "TooLong")) "__getattr__" = some none) ∧ (PySem.W.findIn K (.ref (He.ga K "TooLong")) "__class__" = some (some (.builtin "object.__class__"))) ∧ (PySem.W.specialIn K (.builtin "object.__class__") "__get__" = some (some (.builtin "getset_descriptor.__get__"))) ∧ (PySem.W.takesIn K (.builtin "object.__class__") = some true) ∧ (PySem.W.mroIn K (He.ga K "TooLong") (.type "object") = some true) ∧ (PySem.W.findIn K (.ref (He.ga K "TooLong")) "most" = some none) ∧ (PySem.W.excInitIn K (He.ga K "NoOrnament") ([.type "ValueError", .type "Exception", .type "BaseException", .type "object"] : List Value) "ValueError.__new__" = true) ∧ (PySem.W.excOver K (He.ga K "NoOrnament") ([.type "ValueError", .type "Exception", .type "BaseException", .type "object"] : List Value) = true) ∧ (PySem.W.hasDictIn K (He.ga K "NoOrnament") = true) ∧ (PySem.W.findIn K (.ref (He.ga K "NoOrnament")) "__setattr__" = some (some (.builtin "object.__setattr__"))) ∧ (PySem.W.subIn K (.ref (He.ga K "NoOrnament")) (.type "BaseException") = some true) ∧ (PySem.W.typeIn K (.ref (He.ga K "NoOrnament")) = some (.type "type")) ∧ (PySem.W.keepIn K (.ref (He.ga K "NoOrnament")) = true) ∧ (PySem.W.findIn K (.ref (He.ga K "NoOrnament")) "__getattribute__" = some (some (.builtin "BaseException.__getattribute__"))) ∧ (PySem.W.findIn K (.ref (He.ga K "NoOrnament")) "__getattr__" = some none) ∧ (PySem.W.findIn K (.ref (He.ga K "NoOrnament")) "__class__" = some (some (.builtin "object.__class__"))) ∧ (PySem.W.specialIn K (.builtin "object.__class__") "__get__" = some (some (.builtin "getset_descriptor.__get__"))))
def hB6 (K : PySem.W.Frag) : Bool := decide ((PySem.W.takesIn K (.builtin "object.__class__") = some true) ∧ (PySem.W.mroIn K (He.ga K "NoOrnament") (.type "object") = some true) ∧ (PySem.W.findIn K (.ref (He.ga K "NoOrnament")) "kind" = some none) ∧ (PySem.W.excInitIn K (He.ga K "NoDress") ([.type "ValueError", .type "Exception", .type "BaseException", .type "object"] : List Value) "ValueError.__new__" = true) ∧ (PySem.W.excOver K (He.ga K "NoDress") ([.type "ValueError", .type "Exception", .type "BaseException", .type "object"] : List Value) = true) ∧ (PySem.W.hasDictIn K (He.ga K "NoDress") = true) ∧ (PySem.W.findIn K (.ref (He.ga K "NoDress")) "__setattr__" = some (some (.builtin "object.__setattr__"))) ∧ (PySem.W.subIn K (.ref (He.ga K "NoDress")) (.type "BaseException") = some true) ∧ (PySem.W.typeIn K (.ref (He.ga K "NoDress")) = some (.type "type")) ∧ (PySem.W.keepIn K (.ref (He.ga K "NoDress")) = true) ∧ (PySem.W.findIn K (.ref (He.ga K "NoDress")) "__getattribute__" = some (some (.builtin "BaseException.__getattribute__"))) ∧ (PySem.W.findIn K (.ref (He.ga K "NoDress")) "__getattr__" = some none) ∧ (PySem.W.findIn K (.ref (He.ga K "NoDress")) "__class__" = some (some (.builtin "object.__class__"))) ∧ (PySem.W.specialIn K (.builtin "object.__class__") "__get__" = some (some (.builtin "getset_descriptor.__get__"))) ∧ (PySem.W.takesIn K (.builtin "object.__class__") = some true) ∧ (PySem.W.mroIn K (He.ga K "NoDress") (.type "object") = some true) ∧ (PySem.W.findIn K (.ref (He.ga K "NoDress")) "row" = some none) ∧ (PySem.W.excInitIn K (He.ga K "NoFilling") ([.type "ValueError", .type "Exception", .type "BaseException", .type "object"] : List Value) "ValueError.__new__" = true) ∧ (PySem.W.excOver K (He.ga K "NoFilling") ([.type "ValueError", .type "Exception", .type "BaseException", .type "object"] : List Value) = true) ∧ (PySem.W.hasDictIn K (He.ga K "NoFilling") = true) ∧ (PySem.W.findIn K (.ref (He.ga K "NoFilling")) "__setattr__" = some (some (.builtin "object.__setattr__"))) ∧ (PySem.W.subIn K (.ref (He.ga K "NoFilling")) (.type "BaseException") = some true) ∧ (PySem.W.typeIn K (.ref (He.ga K "NoFilling")) = some (.type "type")) ∧ (PySem.W.keepIn K (.ref (He.ga K "NoFilling")) = true) ∧ (PySem.W.findIn K (.ref (He.ga K "NoFilling")) "__getattribute__" = some (some (.builtin "BaseException.__getattribute__"))))
def hB7 (K : PySem.W.Frag) : Bool := decide ((PySem.W.findIn K (.ref (He.ga K "NoFilling")) "__getattr__" = some none) ∧ (PySem.W.findIn K (.ref (He.ga K "NoFilling")) "__class__" = some (some (.builtin "object.__class__"))) ∧ (PySem.W.specialIn K (.builtin "object.__class__") "__get__" = some (some (.builtin "getset_descriptor.__get__"))) ∧ (PySem.W.takesIn K (.builtin "object.__class__") = some true) ∧ (PySem.W.mroIn K (He.ga K "NoFilling") (.type "object") = some true) ∧ (PySem.W.findIn K (.ref (He.ga K "NoFilling")) "thing" = some none) ∧ (PySem.W.excInitIn K (He.ga K "Gap") ([.type "ValueError", .type "Exception", .type "BaseException", .type "object"] : List Value) "ValueError.__new__" = true) ∧ (PySem.W.excOver K (He.ga K "Gap") ([.type "ValueError", .type "Exception", .type "BaseException", .type "object"] : List Value) = true) ∧ (PySem.W.hasDictIn K (He.ga K "Gap") = true) ∧ (PySem.W.findIn K (.ref (He.ga K "Gap")) "__setattr__" = some (some (.builtin "object.__setattr__"))) ∧ (PySem.W.subIn K (.ref (He.ga K "Gap")) (.type "BaseException") = some true) ∧ (PySem.W.typeIn K (.ref (He.ga K "Gap")) = some (.type "type")) ∧ (PySem.W.keepIn K (.ref (He.ga K "Gap")) = true) ∧ (PySem.W.findIn K (.ref (He.ga K "Gap")) "__getattribute__" = some (some (.builtin "BaseException.__getattribute__"))) ∧ (PySem.W.findIn K (.ref (He.ga K "Gap")) "__getattr__" = some none) ∧ (PySem.W.findIn K (.ref (He.ga K "Gap")) "__class__" = some (some (.builtin "object.__class__"))) ∧ (PySem.W.specialIn K (.builtin "object.__class__") "__get__" = some (some (.builtin "getset_descriptor.__get__"))) ∧ (PySem.W.takesIn K (.builtin "object.__class__") = some true) ∧ (PySem.W.mroIn K (He.ga K "Gap") (.type "object") = some true) ∧ (PySem.W.findIn K (.ref (He.ga K "Gap")) "row" = some none) ∧ (PySem.W.findIn K (.ref (He.ga K "Gap")) "what" = some none) ∧ (PySem.W.excInitIn K (He.ga K "NoIndex") ([.type "ValueError", .type "Exception", .type "BaseException", .type "object"] : List Value) "ValueError.__new__" = true) ∧ (PySem.W.excOver K (He.ga K "NoIndex") ([.type "ValueError", .type "Exception", .type "BaseException", .type "object"] : List Value) = true) ∧ (PySem.W.hasDictIn K (He.ga K "NoIndex") = true) ∧ (PySem.W.findIn K (.ref (He.ga K "NoIndex")) "__setattr__" = some (some (.builtin "object.__setattr__"))))
def hB8 (K : PySem.W.Frag) : Bool := decide ((PySem.W.subIn K (.ref (He.ga K "NoIndex")) (.type "BaseException") = some true) ∧ (PySem.W.typeIn K (.ref (He.ga K "NoIndex")) = some (.type "type")) ∧ (PySem.W.keepIn K (.ref (He.ga K "NoIndex")) = true) ∧ (PySem.W.findIn K (.ref (He.ga K "NoIndex")) "__getattribute__" = some (some (.builtin "BaseException.__getattribute__"))) ∧ (PySem.W.findIn K (.ref (He.ga K "NoIndex")) "__getattr__" = some none) ∧ (PySem.W.findIn K (.ref (He.ga K "NoIndex")) "__class__" = some (some (.builtin "object.__class__"))) ∧ (PySem.W.specialIn K (.builtin "object.__class__") "__get__" = some (some (.builtin "getset_descriptor.__get__"))) ∧ (PySem.W.takesIn K (.builtin "object.__class__") = some true) ∧ (PySem.W.mroIn K (He.ga K "NoIndex") (.type "object") = some true) ∧ (PySem.W.findIn K (.ref (He.ga K "NoIndex")) "bough" = some none) ∧ (PySem.W.excInitIn K (He.ga K "NoName") ([.type "ValueError", .type "Exception", .type "BaseException", .type "object"] : List Value) "ValueError.__new__" = true) ∧ (PySem.W.excOver K (He.ga K "NoName") ([.type "ValueError", .type "Exception", .type "BaseException", .type "object"] : List Value) = true) ∧ (PySem.W.hasDictIn K (He.ga K "NoName") = true) ∧ (PySem.W.findIn K (.ref (He.ga K "NoName")) "__setattr__" = some (some (.builtin "object.__setattr__"))) ∧ (PySem.W.subIn K (.ref (He.ga K "NoName")) (.type "BaseException") = some true) ∧ (PySem.W.typeIn K (.ref (He.ga K "NoName")) = some (.type "type")) ∧ (PySem.W.keepIn K (.ref (He.ga K "NoName")) = true) ∧ (PySem.W.findIn K (.ref (He.ga K "NoName")) "__getattribute__" = some (some (.builtin "BaseException.__getattribute__"))) ∧ (PySem.W.findIn K (.ref (He.ga K "NoName")) "__getattr__" = some none) ∧ (PySem.W.findIn K (.ref (He.ga K "NoName")) "__class__" = some (some (.builtin "object.__class__"))) ∧ (PySem.W.specialIn K (.builtin "object.__class__") "__get__" = some (some (.builtin "getset_descriptor.__get__"))) ∧ (PySem.W.takesIn K (.builtin "object.__class__") = some true) ∧ (PySem.W.mroIn K (He.ga K "NoName") (.type "object") = some true) ∧ (PySem.W.findIn K (.ref (He.ga K "NoName")) "name" = some none) ∧ (PySem.W.excInitIn K (He.ga K "Taken") ([.type "ValueError", .type "Exception", .type "BaseException", .type "object"] : List Value) "ValueError.__new__" = true))
def hB9 (K : PySem.W.Frag) : Bool := decide ((PySem.W.excOver K (He.ga K "Taken") ([.type "ValueError", .type "Exception", .type "BaseException", .type "object"] : List Value) = true) ∧ (PySem.W.hasDictIn K (He.ga K "Taken") = true) ∧ (PySem.W.findIn K (.ref (He.ga K "Taken")) "__setattr__" = some (some (.builtin "object.__setattr__"))) ∧ (PySem.W.subIn K (.ref (He.ga K "Taken")) (.type "BaseException") = some true) ∧ (PySem.W.typeIn K (.ref (He.ga K "Taken")) = some (.type "type")) ∧ (PySem.W.keepIn K (.ref (He.ga K "Taken")) = true) ∧ (PySem.W.findIn K (.ref (He.ga K "Taken")) "__getattribute__" = some (some (.builtin "BaseException.__getattribute__"))) ∧ (PySem.W.findIn K (.ref (He.ga K "Taken")) "__getattr__" = some none) ∧ (PySem.W.findIn K (.ref (He.ga K "Taken")) "__class__" = some (some (.builtin "object.__class__"))) ∧ (PySem.W.specialIn K (.builtin "object.__class__") "__get__" = some (some (.builtin "getset_descriptor.__get__"))) ∧ (PySem.W.takesIn K (.builtin "object.__class__") = some true) ∧ (PySem.W.mroIn K (He.ga K "Taken") (.type "object") = some true) ∧ (PySem.W.findIn K (.ref (He.ga K "Taken")) "name" = some none) ∧ (PySem.W.excInitIn K (He.ga K "InUse") ([.type "ValueError", .type "Exception", .type "BaseException", .type "object"] : List Value) "ValueError.__new__" = true) ∧ (PySem.W.excOver K (He.ga K "InUse") ([.type "ValueError", .type "Exception", .type "BaseException", .type "object"] : List Value) = true) ∧ (PySem.W.hasDictIn K (He.ga K "InUse") = true) ∧ (PySem.W.findIn K (.ref (He.ga K "InUse")) "__setattr__" = some (some (.builtin "object.__setattr__"))) ∧ (PySem.W.subIn K (.ref (He.ga K "InUse")) (.type "BaseException") = some true) ∧ (PySem.W.typeIn K (.ref (He.ga K "InUse")) = some (.type "type")) ∧ (PySem.W.keepIn K (.ref (He.ga K "InUse")) = true) ∧ (PySem.W.findIn K (.ref (He.ga K "InUse")) "__getattribute__" = some (some (.builtin "BaseException.__getattribute__"))) ∧ (PySem.W.findIn K (.ref (He.ga K "InUse")) "__getattr__" = some none) ∧ (PySem.W.findIn K (.ref (He.ga K "InUse")) "__class__" = some (some (.builtin "object.__class__"))) ∧ (PySem.W.specialIn K (.builtin "object.__class__") "__get__" = some (some (.builtin "getset_descriptor.__get__"))) ∧ (PySem.W.takesIn K (.builtin "object.__class__") = some true))
def hB10 (K : PySem.W.Frag) : Bool := decide ((PySem.W.mroIn K (He.ga K "InUse") (.type "object") = some true) ∧ (PySem.W.findIn K (.ref (He.ga K "InUse")) "name" = some none) ∧ (PySem.W.excInitIn K (He.ga K "NoKind") ([.type "KeyError", .type "LookupError", .type "Exception", .type "BaseException", .type "object"] : List Value) "LookupError.__new__" = true) ∧ (PySem.W.excOver K (He.ga K "NoKind") ([.type "KeyError", .type "LookupError", .type "Exception", .type "BaseException", .type "object"] : List Value) = true) ∧ (PySem.W.hasDictIn K (He.ga K "NoKind") = true) ∧ (PySem.W.findIn K (.ref (He.ga K "NoKind")) "__setattr__" = some (some (.builtin "object.__setattr__"))) ∧ (PySem.W.subIn K (.ref (He.ga K "NoKind")) (.type "BaseException") = some true) ∧ (PySem.W.typeIn K (.ref (He.ga K "NoKind")) = some (.type "type")) ∧ (PySem.W.keepIn K (.ref (He.ga K "NoKind")) = true) ∧ (PySem.W.findIn K (.ref (He.ga K "NoKind")) "__getattribute__" = some (some (.builtin "BaseException.__getattribute__"))) ∧ (PySem.W.findIn K (.ref (He.ga K "NoKind")) "__getattr__" = some none) ∧ (PySem.W.findIn K (.ref (He.ga K "NoKind")) "__class__" = some (some (.builtin "object.__class__"))) ∧ (PySem.W.specialIn K (.builtin "object.__class__") "__get__" = some (some (.builtin "getset_descriptor.__get__"))) ∧ (PySem.W.takesIn K (.builtin "object.__class__") = some true) ∧ (PySem.W.mroIn K (He.ga K "NoKind") (.type "object") = some true) ∧ (PySem.W.findIn K (.ref (He.ga K "NoKind")) "kind" = some none) ∧ (PySem.W.excInitIn K (He.ga K "NoBough") ([.type "KeyError", .type "LookupError", .type "Exception", .type "BaseException", .type "object"] : List Value) "LookupError.__new__" = true) ∧ (PySem.W.excOver K (He.ga K "NoBough") ([.type "KeyError", .type "LookupError", .type "Exception", .type "BaseException", .type "object"] : List Value) = true) ∧ (PySem.W.hasDictIn K (He.ga K "NoBough") = true) ∧ (PySem.W.findIn K (.ref (He.ga K "NoBough")) "__setattr__" = some (some (.builtin "object.__setattr__"))) ∧ (PySem.W.subIn K (.ref (He.ga K "NoBough")) (.type "BaseException") = some true) ∧ (PySem.W.typeIn K (.ref (He.ga K "NoBough")) = some (.type "type")) ∧ (PySem.W.keepIn K (.ref (He.ga K "NoBough")) = true) ∧ (PySem.W.findIn K (.ref (He.ga K "NoBough")) "__getattribute__" = some (some (.builtin "BaseException.__getattribute__"))) ∧ (PySem.W.findIn K (.ref (He.ga K "NoBough")) "__getattr__" = some none))
def hB11 (K : PySem.W.Frag) : Bool := decide ((PySem.W.findIn K (.ref (He.ga K "NoBough")) "__class__" = some (some (.builtin "object.__class__"))) ∧ (PySem.W.specialIn K (.builtin "object.__class__") "__get__" = some (some (.builtin "getset_descriptor.__get__"))) ∧ (PySem.W.takesIn K (.builtin "object.__class__") = some true) ∧ (PySem.W.mroIn K (He.ga K "NoBough") (.type "object") = some true) ∧ (PySem.W.findIn K (.ref (He.ga K "NoBough")) "bough" = some none) ∧ (PySem.W.nsIn K mainGlobals "NoBook" = some (some (.ref (He.ga K "NoBook")))) ∧ (PySem.W.excIn K (He.ga K "NoBook") ([.type "ValueError", .type "Exception", .type "BaseException", .type "object"] : List Value) "ValueError.__new__" = true) ∧ (PySem.W.hasDictIn K (He.ga K "NoBook") = true) ∧ (PySem.W.subIn K (.ref (He.ga K "NoBook")) (.type "BaseException") = some true) ∧ (PySem.W.typeIn K (.ref (He.ga K "NoBook")) = some (.type "type")) ∧ (PySem.W.keepIn K (.ref (He.ga K "NoBook")) = true) ∧ (PySem.W.findIn K (.ref (He.ga K "NoBook")) "__getattribute__" = some (some (.builtin "BaseException.__getattribute__"))) ∧ (PySem.W.findIn K (.ref (He.ga K "NoBook")) "__getattr__" = some none) ∧ (PySem.W.findIn K (.ref (He.ga K "NoBook")) "__class__" = some (some (.builtin "object.__class__"))) ∧ (PySem.W.specialIn K (.builtin "object.__class__") "__get__" = some (some (.builtin "getset_descriptor.__get__"))) ∧ (PySem.W.takesIn K (.builtin "object.__class__") = some true) ∧ (PySem.W.mroIn K (He.ga K "NoBook") (.type "object") = some true) ∧ (PySem.W.nsIn K mainGlobals "NoText" = some (some (.ref (He.ga K "NoText")))) ∧ (PySem.W.excIn K (He.ga K "NoText") ([.type "ValueError", .type "Exception", .type "BaseException", .type "object"] : List Value) "ValueError.__new__" = true) ∧ (PySem.W.hasDictIn K (He.ga K "NoText") = true) ∧ (PySem.W.subIn K (.ref (He.ga K "NoText")) (.type "BaseException") = some true) ∧ (PySem.W.typeIn K (.ref (He.ga K "NoText")) = some (.type "type")) ∧ (PySem.W.keepIn K (.ref (He.ga K "NoText")) = true) ∧ (PySem.W.findIn K (.ref (He.ga K "NoText")) "__getattribute__" = some (some (.builtin "BaseException.__getattribute__"))) ∧ (PySem.W.findIn K (.ref (He.ga K "NoText")) "__getattr__" = some none))
def hB12 (K : PySem.W.Frag) : Bool := decide ((PySem.W.findIn K (.ref (He.ga K "NoText")) "__class__" = some (some (.builtin "object.__class__"))) ∧ (PySem.W.specialIn K (.builtin "object.__class__") "__get__" = some (some (.builtin "getset_descriptor.__get__"))) ∧ (PySem.W.takesIn K (.builtin "object.__class__") = some true) ∧ (PySem.W.mroIn K (He.ga K "NoText") (.type "object") = some true) ∧ (PySem.W.nsIn K mainGlobals "NoBack" = some (some (.ref (He.ga K "NoBack")))) ∧ (PySem.W.excIn K (He.ga K "NoBack") ([.type "ValueError", .type "Exception", .type "BaseException", .type "object"] : List Value) "ValueError.__new__" = true) ∧ (PySem.W.hasDictIn K (He.ga K "NoBack") = true) ∧ (PySem.W.subIn K (.ref (He.ga K "NoBack")) (.type "BaseException") = some true) ∧ (PySem.W.typeIn K (.ref (He.ga K "NoBack")) = some (.type "type")) ∧ (PySem.W.keepIn K (.ref (He.ga K "NoBack")) = true) ∧ (PySem.W.findIn K (.ref (He.ga K "NoBack")) "__getattribute__" = some (some (.builtin "BaseException.__getattribute__"))) ∧ (PySem.W.findIn K (.ref (He.ga K "NoBack")) "__getattr__" = some none) ∧ (PySem.W.findIn K (.ref (He.ga K "NoBack")) "__class__" = some (some (.builtin "object.__class__"))) ∧ (PySem.W.specialIn K (.builtin "object.__class__") "__get__" = some (some (.builtin "getset_descriptor.__get__"))) ∧ (PySem.W.takesIn K (.builtin "object.__class__") = some true) ∧ (PySem.W.mroIn K (He.ga K "NoBack") (.type "object") = some true) ∧ (PySem.W.nsIn K mainGlobals "Unlike" = some (some (.ref (He.ga K "Unlike")))) ∧ (PySem.W.excIn K (He.ga K "Unlike") ([.type "ValueError", .type "Exception", .type "BaseException", .type "object"] : List Value) "ValueError.__new__" = true) ∧ (PySem.W.hasDictIn K (He.ga K "Unlike") = true) ∧ (PySem.W.subIn K (.ref (He.ga K "Unlike")) (.type "BaseException") = some true) ∧ (PySem.W.typeIn K (.ref (He.ga K "Unlike")) = some (.type "type")) ∧ (PySem.W.keepIn K (.ref (He.ga K "Unlike")) = true) ∧ (PySem.W.findIn K (.ref (He.ga K "Unlike")) "__getattribute__" = some (some (.builtin "BaseException.__getattribute__"))) ∧ (PySem.W.findIn K (.ref (He.ga K "Unlike")) "__getattr__" = some none) ∧ (PySem.W.findIn K (.ref (He.ga K "Unlike")) "__class__" = some (some (.builtin "object.__class__"))))
def hB13 (K : PySem.W.Frag) : Bool := decide ((PySem.W.specialIn K (.builtin "object.__class__") "__get__" = some (some (.builtin "getset_descriptor.__get__"))) ∧ (PySem.W.takesIn K (.builtin "object.__class__") = some true) ∧ (PySem.W.mroIn K (He.ga K "Unlike") (.type "object") = some true) ∧ (PySem.W.nsIn K mainGlobals "isinstance" = some none) ∧ (PySem.W.nsIn K mainGlobals "enumerate" = some none) ∧ (PySem.W.nsIn K mainGlobals "range" = some none) ∧ (PySem.W.nsIn K mainGlobals "len" = some none) ∧ (PySem.W.nsIn K mainGlobals "repr" = some none) ∧ (PySem.W.nsIn K mainGlobals "list" = some none) ∧ (PySem.W.nsIn K mainGlobals "sum" = some none) ∧ (PySem.W.nsIn K mainGlobals "ValueError" = some none) ∧ (PySem.W.nsIn K mainGlobals "KeyError" = some none) ∧ (Dk.kitTab K ([(He.ga K "NoBook"), (He.ga K "NoText"), (He.ga K "NoBack"), (He.ga K "Unlike"), (He.ga K "Bare"), (He.ga K "NoFun"), (He.ga K "NoFall"), (He.ga K "TooLong"), (He.ga K "NoOrnament"), (He.ga K "NoDress"), (He.ga K "NoFilling"), (He.ga K "Gap"), (He.ga K "NoIndex"), (He.ga K "NoName"), (He.ga K "Taken"), (He.ga K "InUse"), (He.ga K "NoKind"), (He.ga K "NoBough")] : List Addr) = true) ∧ (Dk.kitRow K ([(He.ga K "NoBook"), (He.ga K "NoText"), (He.ga K "NoBack"), (He.ga K "Unlike"), (He.ga K "Bare"), (He.ga K "NoFun"), (He.ga K "NoFall"), (He.ga K "TooLong"), (He.ga K "NoOrnament"), (He.ga K "NoDress"), (He.ga K "NoFilling"), (He.ga K "Gap"), (He.ga K "NoIndex"), (He.ga K "NoName"), (He.ga K "Taken"), (He.ga K "InUse"), (He.ga K "NoKind"), (He.ga K "NoBough")] : List Addr) (.ref (He.ga K "KindError")) 0 16 = true) ∧ (Dk.kitRow K ([(He.ga K "NoBook"), (He.ga K "NoText"), (He.ga K "NoBack"), (He.ga K "Unlike"), (He.ga K "Bare"), (He.ga K "NoFun"), (He.ga K "NoFall"), (He.ga K "TooLong"), (He.ga K "NoOrnament"), (He.ga K "NoDress"), (He.ga K "NoFilling"), (He.ga K "Gap"), (He.ga K "NoIndex"), (He.ga K "NoName"), (He.ga K "Taken"), (He.ga K "InUse"), (He.ga K "NoKind"), (He.ga K "NoBough")] : List Addr) (.type "ValueError") 0 16 = true) ∧ (Dk.kitRow K ([(He.ga K "NoBook"), (He.ga K "NoText"), (He.ga K "NoBack"), (He.ga K "Unlike"), (He.ga K "Bare"), (He.ga K "NoFun"), (He.ga K "NoFall"), (He.ga K "TooLong"), (He.ga K "NoOrnament"), (He.ga K "NoDress"), (He.ga K "NoFilling"), (He.ga K "Gap"), (He.ga K "NoIndex"), (He.ga K "NoName"), (He.ga K "Taken"), (He.ga K "InUse"), (He.ga K "NoKind"), (He.ga K "NoBough")] : List Addr) (.type "KeyError") 16 18 = true) ∧ (PySem.W.exmOne K (.ref (He.ga K "NoFilling")) (.ref (He.ga K "NoFilling")) = some true) ∧ (PySem.W.exmOne K (.ref (He.ga K "Gap")) (.ref (He.ga K "NoFilling")) = some false) ∧ (PySem.W.exmOne K (.ref (He.ga K "Gap")) (.ref (He.ga K "KindError")) = some true) ∧ (PySem.W.exmOne K (.ref (He.ga K "NoKind")) (.ref (He.ga K "NoFilling")) = some false) ∧ (PySem.W.exmOne K (.ref (He.ga K "NoKind")) (.ref (He.ga K "KindError")) = some false) ∧ (PySem.W.exmOne K (.ref (He.ga K "NoKind")) (.ref (He.ga K "NoKind")) = some true) ∧ (PySem.W.exmOne K (.ref (He.ga K "NoBough")) (.ref (He.ga K "NoFilling")) = some false) ∧ (PySem.W.exmOne K (.ref (He.ga K "NoBough")) (.ref (He.ga K "KindError")) = some false) ∧ (PySem.W.exmOne K (.ref (He.ga K "NoBough")) (.ref (He.ga K "NoKind")) = some false))
def hB14 (K : PySem.W.Frag) : Bool := decide ((PySem.W.exmOne K (.ref (He.ga K "NoBough")) (.ref (He.ga K "NoBough")) = some true) ∧ (PySem.W.specialIn K (.ref (He.ga K "KindError")) "__getattribute__" = some (some (.builtin "type.__getattribute__"))) ∧ (PySem.W.readsIn K (He.ga K "KindError") (.type "type") = true) ∧ (Dk.initVE K (He.ga K "KindError") = true))
def hBs (K : PySem.W.Frag) : Bool := (hB0 K && (hB1 K && (hB2 K && (hB3 K && (hB4 K && (hB5 K && (hB6 K && (hB7 K && (hB8 K && (hB9 K && (hB10 K && (hB11 K && (hB12 K && (hB13 K && (hB14 K)))))))))))))))
def hFn : List He.FnD := [⟨("Bare", some "__init__"), "__init__", "Bare.__init__", defArgs (inClass (hTop 6) 0), defBody (inClass (hTop 6) 0), defScope (inClass (hTop 6) 0)⟩, ⟨("NoFun", some "__init__"), "__init__", "NoFun.__init__", defArgs (inClass (hTop 7) 0), defBody (inClass (hTop 7) 0), defScope (inClass (hTop 7) 0)⟩, ⟨("NoFall", some "__init__"), "__init__", "NoFall.__init__", defArgs (inClass (hTop 8) 0), defBody (inClass (hTop 8) 0), defScope (inClass (hTop 8) 0)⟩, ⟨("TooLong", some "__init__"), "__init__", "TooLong.__init__", defArgs (inClass (hTop 9) 0), defBody (inClass (hTop 9) 0), defScope (inClass (hTop 9) 0)⟩, ⟨("NoOrnament", some "__init__"), "__init__", "NoOrnament.__init__", defArgs (inClass (hTop 10) 0), defBody (inClass (hTop 10) 0), defScope (inClass (hTop 10) 0)⟩, ⟨("NoDress", some "__init__"), "__init__", "NoDress.__init__", defArgs (inClass (hTop 11) 0), defBody (inClass (hTop 11) 0), defScope (inClass (hTop 11) 0)⟩, ⟨("NoFilling", some "__init__"), "__init__", "NoFilling.__init__", defArgs (inClass (hTop 12) 0), defBody (inClass (hTop 12) 0), defScope (inClass (hTop 12) 0)⟩, ⟨("Gap", some "__init__"), "__init__", "Gap.__init__", defArgs (inClass (hTop 17) 0), defBody (inClass (hTop 17) 0), defScope (inClass (hTop 17) 0)⟩, ⟨("NoIndex", some "__init__"), "__init__", "NoIndex.__init__", defArgs (inClass (hTop 13) 0), defBody (inClass (hTop 13) 0), defScope (inClass (hTop 13) 0)⟩, ⟨("NoName", some "__init__"), "__init__", "NoName.__init__", defArgs (inClass (hTop 14) 0), defBody (inClass (hTop 14) 0), defScope (inClass (hTop 14) 0)⟩, ⟨("Taken", some "__init__"), "__init__", "Taken.__init__", defArgs (inClass (hTop 15) 0), defBody (inClass (hTop 15) 0), defScope (inClass (hTop 15) 0)⟩, ⟨("InUse", some "__init__"), "__init__", "InUse.__init__", defArgs (inClass (hTop 16) 0), defBody (inClass (hTop 16) 0), defScope (inClass (hTop 16) 0)⟩, ⟨("NoKind", some "__init__"), "__init__", "NoKind.__init__", defArgs (inClass (hTop 18) 0), defBody (inClass (hTop 18) 0), defScope (inClass (hTop 18) 0)⟩, ⟨("NoBough", some "__init__"), "__init__", "NoBough.__init__", defArgs (inClass (hTop 19) 0), defBody (inClass (hTop 19) 0), defScope (inClass (hTop 19) 0)⟩, ⟨("_law_deck", none), "_law_deck", "_law_deck", defArgs (hTop 25), defBody (hTop 25), defScope (hTop 25)⟩, ⟨("_law_draw", none), "_law_draw", "_law_draw", defArgs (hTop 26), defBody (hTop 26), defScope (hTop 26)⟩, ⟨("_law_pick", none), "_law_pick", "_law_pick", defArgs (hTop 27), defBody (hTop 27), defScope (hTop 27)⟩, ⟨("_law_kinds_of", none), "_law_kinds_of", "_law_kinds_of", defArgs (hTop 28), defBody (hTop 28), defScope (hTop 28)⟩, ⟨("_law_above", none), "_law_above", "_law_above", defArgs (hTop 29), defBody (hTop 29), defScope (hTop 29)⟩, ⟨("_law_made", none), "_law_made", "_law_made", defArgs (hTop 30), defBody (hTop 30), defScope (hTop 30)⟩, ⟨("_law_named", none), "_law_named", "_law_named", defArgs (hTop 31), defBody (hTop 31), defScope (hTop 31)⟩, ⟨("_law_fields", none), "_law_fields", "_law_fields", defArgs (hTop 32), defBody (hTop 32), defScope (hTop 32)⟩, ⟨("_law_right", none), "_law_right", "_law_right", defArgs (hTop 33), defBody (hTop 33), defScope (hTop 33)⟩, ⟨("_law_raised", none), "_law_raised", "_law_raised", defArgs (hTop 34), defBody (hTop 34), defScope (hTop 34)⟩, ⟨("law", none), "law", "law", defArgs (hTop 35), defBody (hTop 35), defScope (hTop 35)⟩]
def hL0 : List PySem.Str := ["KindError", "NoBook", "NoText", "NoBack", "Unlike", "Bare", "NoFun", "NoFall", "TooLong", "NoOrnament", "NoDress", "NoFilling", "NoIndex", "NoName", "Taken", "InUse", "Gap", "NoKind", "NoBough", "NUM", "SUM", "TOP", "RUNS", "_law_deck", "_law_draw", "_law_pick", "_law_kinds_of", "_law_above", "_law_made", "_law_named"]
def hL1 : List PySem.Str := ["_law_fields", "_law_right", "_law_raised"]
def hLoose : List PySem.Str := hL0 ++ hL1
abbrev hR : PySem.W.OpenRow := PySem.W.OpenLaw.row PySem.Challenge.rw_dressedkinds_k06_refusals_made
def hAs : List Addr := mainGlobals :: (List.range 1000).reverse
abbrev hH : PySem.W.Hook := Dk.hookX hAs hBs hFn
set_option maxHeartbeats 0 in
theorem hrun (w : World) : HandSHeadRun.RunEq hR (PySem.W.view hR.prog [35]) hH (Dk.obX hAs hBs hFn) 15000 hLoose w := by
  intro os
  kernel_rfl
end KB
namespace Dk
open PySem PySem.W L2 PySem.Spec
open Builtin Builtin.ObjectAttr
/-- what the written part says of such a class -/
structure OxC (K : PySem.W.Frag) (newId : String) (tl : List Value) (C : Addr) : Prop where
  ob : excInitIn K C tl newId = true
  ov : excOver K C tl = true
  hd : hasDictIn K C = true
  sa : findIn K (.ref C) "__setattr__" = some (some (.builtin "object.__setattr__"))
  exC : subIn K (.ref C) (.type "BaseException") = some true
  tyC : typeIn K (.ref C) = some (.type "type")
  kC : keepIn K (.ref C) = true
section
variable {prog : Program} {w : World} {A : Around} {R : Result → Shared → Prop} {hp : Heap} {g : Array GenState} {d : Drawn} {t : Nat} {os : OsState} {K : Frag} {name : Str} {tk : Tok} {v : Value} {x C : Addr} {fv : Array Value} {iB : String} {tl : List Value}
theorem taker_none (ha : findIn K (.ref C) name = some none) : takerIn K C name = some none := by
  unfold takerIn
  rw [ha]
  rfl
theorem x_set_new (SF : StoreFacts iB tl "object.__setattr__" "object") (X : K.In hp) (hx : hp.get? x = some { cls := .ref C, data := .fields fv }) (ov : excOver K C tl = true) (hdc : hasDictIn K C = true) (ha : findIn K (.ref C) name = some none)
    (hq : ∀ h' tk' dx, (∀ b o, b ≠ x → hp.get? b = some o → h'.get? b = some o) → hp.objs.size ≤ dx → dx ≠ x → h'.get? x = some { cls := .ref C, dict := some dx, data := .fields fv } → h'.Ns1 dx (fun y => if y = name then some v else none) →
      R (.ok (.ret .none)) ⟨h', g, d, tk', os⟩) : codeAny (model prog w) A (.call (.builtin "object.__setattr__") ⟨[.ref x, .str name tk, v], []⟩) R ⟨hp, g, d, t, os⟩ := by
  have I : W.InstAt hp x { cls := .ref C, data := .fields fv } C none := ⟨hx, rfl, rfl, trivial⟩
  have ne : x ≠ hp.objs.size := Nat.ne_of_lt (Heap.lt_size hx)
  obtain ⟨cd, hcd, hh⟩ := any_some hdc
  have Lc : W.Looks (model prog w) hp (classData C) cd := W.looks_clsIn X hcd
  refine osa_openX (s := ⟨hp, g, d, t, os⟩) SF X I ov (taker_none ha) fun b => ?_
  show wpAny _ _ (storeInOwnDict (.ref x) (.ref C) (.str name tk) name v b) _ _ _
  obtain ⟨nm, bs, mro, ns, qn, hd, sn, sb, ab, col, del⟩ := cd
  dsimp only at hh
  subst hh
  unfold storeInOwnDict ownDictForStores
  repeat (first
    | with_reducible refine PySem.HandSPX.store_in_new ?_ ?_
    | with_reducible refine wpAny_loadPart_at hx ?_
    | with_reducible refine Lc.at ?_
    | wp_step)
  · have gd : ((hp.push { cls := .type "dict", data := .dict #[] }).update x fun o => { o with dict := some hp.objs.size }).get? hp.objs.size = some { cls := .type "dict", data := .dict #[] } :=
      (Heap.get?_update_ne _ _ _ _ ne.symm).trans (Heap.get?_push_at rfl rfl)
    exact ⟨_, #[], _, gd, rfl, fun e he => absurd he (by simp), fun _ => rfl⟩
  · intro h' tk' hn' hs
    have hx1 : (hp.push { cls := .type "dict", data := .dict #[] }).get? x = some { cls := .ref C, data := .fields fv } := Heap.get?_push_of_some _ hx
    refine hq h' tk' hp.objs.size (fun b o hb ho => ?_) (Nat.le_refl _) ne.symm ?_ hn'
    · have bn := Nat.ne_of_lt (Heap.lt_size ho)
      exact (hs.2 b bn).trans ((Heap.get?_update_ne _ _ _ _ hb).trans (Heap.get?_push_of_some _ ho))
    · exact (hs.2 x ne).trans (Heap.get?_update_self _ hx1 rfl)
end
section
variable {X : Cx} {pins : List (Addr × Obj)} {σ : St} {H : Hp} {s : Shared} {a C dx : Addr} {f : Str} {y : V} {u : Value} {fs : List (Str × V)} {Q : Unit → Shared → Prop} {E : Value → Shared → Prop} {A : Around} {nB newId iB initId : String} {tl : List Value}
/-- self.f = y, the first one -/
theorem x_ost (B : XB nB newId iB initId tl) (T : OxC X.K newId tl C) (J : Inv X pins σ H s) (e : H a = some (exo a C none)) (hno : findIn X.K (.ref C) f = some none) (ry : RelV y u)
    (h : ∀ dx s', H dx = none → dx ≠ a → Inv X pins σ (upd (upd H dx (exd dx [(f, y)])) a (exo a C (some dx))) s' → Q () s') : wpAny (model X.prog X.w) A (setAttr (.ref a) f u) Q E s := by
  obtain ⟨t1, ho⟩ := exo_at J.hok e
  obtain ⟨hp, g, d, t, os⟩ := s
  refine PySem.W.set_plain J.kIn (od := none) ⟨ho, rfl, rfl, trivial⟩ T.sa ?_
  refine x_set_new B.SF J.kIn ho T.ov T.hd hno fun h' tk' dx k dn dne hx hn => ?_
  have hnd : H dx = none := J.hok.fresh dn
  have nd : ∀ {b : Addr} {o : Obj}, hp.get? b = some o → b ≠ dx := fun {b o} q => Nat.ne_of_lt (Nat.lt_of_lt_of_le (Heap.lt_size q) dn)
  have na : ∀ {b : Addr}, H b = none → b ≠ a := fun {b} n z => by subst z; rw [e] at n; cases n
  have U : Un X.fs [] H (upd (upd H dx (exd dx [(f, y)])) a (exo a C (some dx))) hp h' := by
    refine ⟨fun b o q n _ _ => k b o (na n) q, fun b o q n _ _ => ⟨o.slots, k b o (na n) q⟩, fun b o q n _ => ?_, fun b o q _ => ?_, fun b xs q => ?_, fun b o v q => ?_, fun b ps q => ⟨#[], ?_⟩⟩
    · rw [upd_ne (na n), upd_ne (nd q)]
      exact n
    · by_cases hb : b = a
      · subst hb; exact ⟨_, hx⟩
      · exact ⟨o, k b o hb q⟩
    · rw [upd_ne (at_ne e q exo_tup), upd_ne (ne_of_none q hnd)]
      exact q
    · rw [upd_ne (at_ne e q exo_frz), upd_ne (ne_of_none q hnd)]
      exact q
    · rw [upd_ne (at_ne e q exo_tbl), upd_ne (ne_of_none q hnd), q]
      simp
  refine h dx _ hnd dne (J.un (t' := tk') U fun b o q => ?_)
  by_cases hb : b = a
  · subst hb
    rw [upd_same] at q
    cases q
    exact exo_ok hx
  rw [upd_ne hb] at q
  by_cases hd : b = dx
  · subst hd
    rw [upd_same] at q
    cases q
    exact exd_ok hn (relO_put (fs := []) ry fun g => True.intro)
  rw [upd_ne hd] at q
  refine (J.hok b o q).stay (fun c v hc z => k c v ?_ z) (fun c hc => ?_) fun c xs hc => ?_
  · rcases hc with rfl | hc
    · exact hb
    · exact at_ne e hc exo_own
  · rw [upd_ne (at_ne e hc exo_own), upd_ne (ne_of_none hc hnd)]
    exact hc
  · rw [upd_ne (at_ne e hc exo_tup), upd_ne (ne_of_none hc hnd)]
    exact hc
/-- the base's __init__ -/
theorem x_oinit {us : List Value} {Q : Value → Shared → Prop} (B : XB nB newId iB initId tl) (T : OxC X.K newId tl C) (J : Inv X pins σ H s) (e : H a = some (exo a C none)) (hl : us.length ≤ sizeLine) (h : ∀ s', Inv X pins σ H s' → Q .none s') :
    wpAny (model X.prog X.w) A (call (.builtin initId) (.ref a :: us)) Q E s := by
  obtain ⟨nm, N, qn, bs, bm, hd, sn, sub, ab, col, dd, k0, k1, k2, k3, k5, hC, hT⟩ := excInit_of J.kIn T.ob
  obtain ⟨t1, ho⟩ := exo_at J.hok e
  obtain ⟨hp, g, d, t, os⟩ := s
  refine wpAny_call (x_init B hT hC ho hl fun h' t2 k hx => h _ ?_)
  have J2 := J.write (t' := t) (x := a) (e := a) (o := exo a C none) (by rw [e]; exact True.intro) (.inl rfl) k ⟨_, hx⟩ (exo_ok hx)
  have same : upd H a (exo a C none) = H := funext fun b => by
    by_cases hb : b = a
    · subst hb; rw [upd_same, e]
    · exact upd_ne hb
  rwa [same] at J2
end
/-- B.__init__(self, ..) -/
def tXi (K : PySem.W.Frag) (newId : String) (tl : List Value) (ta : TA) : TE := fun σ H Q => ta σ H fun vs H1 => ∃ (a C : Addr) (ws : List V), vs = .ref a :: ws ∧ ws.length ≤ 1000 ∧ OxC K newId tl C ∧ H1 a = some (exo a C none) ∧ Q .non H1
/-- self.f = e -/
def tXs (K : PySem.W.Frag) (newId : String) (tl : List Value) (f : Str) (to te : TE) : TS := fun D σ H => te σ H fun y H1 => to σ H1 fun x H2 => ∃ a C : Addr, x = .ref a ∧ OxC K newId tl C ∧ findIn K (.ref C) f = some none ∧
  H2 a = some (exo a C none) ∧ ∀ dx, H2 dx = none → dx ≠ a → D.nx σ (upd (upd H2 dx (exd dx [(f, y)])) a (exo a C (some dx)))
section
variable {X : Cx} {o e : Expr} {es : List Expr} {to te : TE} {ta : TA} {f x : Str} {p p' p1 p2 pos : Pos} {nB newId iB initId : String} {tl : List Value} {pl : Sem Bool}
/-- a built-in class's __init__ -/
theorem pe_xinitB (B : XB nB newId iB initId tl) (hg : Gl X x) (hm : X.mg x = none) (hv : bootBuiltins x = some (.type iB)) (ty : typeOf (.type iB) = pure (.type "type")) (stub : Manifest.isStub iB = false) (vV : findCls X.K (.type iB) (.type "type") "__init__" = some (.val (.builtin initId))) (hh : handedIn (.builtin initId) = true) (ha : PA X (e :: es) ta)
    (hn : x ≠ "__name__" := by decide) (hdb : (x == ("__debug__" : Str)) = false := by decide)
    (hc : eval (.Call (.Attribute (.Name x p1) "__init__" p2) (e :: es) [] pos) X.env = (do
      let ov ← eval (.Name x p1) X.env
      standAt p2.atName
      let (f, first) ← holding [ov] (getMethod ov "__init__" pl)
      callWith pos f first (backTo pos (starEach (e :: es) X.env)) (backToKw pos (keywordEach [] X.env))) := by rfl)
    (he : starEach (e :: es) X.env = (false, eval e X.env) :: starEach es X.env := by rfl) (hpl : (backTo pos (starEach es X.env)).any (·.1) = false := by rfl) : PE X (.Call (.Attribute (.Name x p1) "__init__" p2) (e :: es) [] pos) (tXi X.K newId tl ta) := by
  refine ⟨fun pins s σ H Q J h => PySem.W.methodCall_KW (ld_blt J hg hm hv ?_ hn hdb) hc⟩
  obtain ⟨m, fr⟩ := J.fr
  refine PySem.W.method_type fr J.ok.mod.kin ty stub vV hh ?_
  show wpAny _ _ (callWith pos (Value.builtin initId) [] (backTo pos (starEach (e :: es) X.env)) []) _ _ _
  refine PyProof.Rows.callWith_method1 (thn (ha.run pos pins _ σ H _ (J.tok _) h) fun us s1 ⟨vs, H1, J1, r1, a, C, ws, ev, hl, T, ea, q⟩ => ?_) he hpl
  subst ev
  cases r1 with
  | @cons _ u0 _ ur ra rw' =>
    cases (show u0 = Value.ref a from ra)
    have few : ur.length ≤ sizeLine := by rw [← Paired.length rw', sizeLine_eq]; omega
    exact x_oinit B T J1 ea few fun s' J2 => ⟨.non, H1, J2, rfl, q⟩
/-- .. by an own class without an __init__ of its own -/
theorem pe_xinitO {D : Addr} {mc : Value} (B : XB nB newId iB initId tl) (hg : Gl X x) (hm : X.mg x = some (.ref D)) (ga : specialIn X.K (.ref D) "__getattribute__" = some (some (.builtin "type.__getattribute__"))) (rd : readsIn X.K D mc = true) (vV : findCls X.K (.ref D) mc "__init__" = some (.val (.builtin initId))) (hh : handedIn (.builtin initId) = true) (ha : PA X (e :: es) ta)
    (hdb : (x == ("__debug__" : Str)) = false := by decide)
    (hc : eval (.Call (.Attribute (.Name x p1) "__init__" p2) (e :: es) [] pos) X.env = (do
      let ov ← eval (.Name x p1) X.env
      standAt p2.atName
      let (f, first) ← holding [ov] (getMethod ov "__init__" pl)
      callWith pos f first (backTo pos (starEach (e :: es) X.env)) (backToKw pos (keywordEach [] X.env))) := by rfl)
    (he : starEach (e :: es) X.env = (false, eval e X.env) :: starEach es X.env := by rfl) (hpl : (backTo pos (starEach es X.env)).any (·.1) = false := by rfl) : PE X (.Call (.Attribute (.Name x p1) "__init__" p2) (e :: es) [] pos) (tXi X.K newId tl ta) := by
  refine ⟨fun pins s σ H Q J h => PySem.W.methodCall_KW (ld_glob J hg hm ?_ hdb) hc⟩
  refine PySem.W.method_cls J.kIn ga (PySem.W.cls_value J.kIn rd vV hh ?_)
  show wpAny _ _ (callWith pos (Value.builtin initId) [] (backTo pos (starEach (e :: es) X.env)) []) _ _ _
  refine PyProof.Rows.callWith_method1 (thn (ha.run pos pins _ σ H _ (J.tok _) h) fun us s1 ⟨vs, H1, J1, r1, a, C, ws, ev, hl, T, ea, q⟩ => ?_) he hpl
  subst ev
  cases r1 with
  | @cons _ u0 _ ur ra rw' =>
    cases (show u0 = Value.ref a from ra)
    have few : ur.length ≤ sizeLine := by rw [← Paired.length rw', sizeLine_eq]; omega
    exact x_oinit B T J1 ea few fun s' J2 => ⟨.non, H1, J2, rfl, q⟩
theorem ps_xs (B : XB nB newId iB initId tl) (ho : PE X o to) (he : PE X e te) (hs : swapsWith e (some (.Attribute o f p')) pos.line X.env = pure false := by rfl) : PS X (.Assign [.Attribute o f p'] e pos) (tXs X.K newId tl f to te) := by
  refine ⟨fun pins s σ H D J h => plainObj_wpAny_Assign_Attribute (thn (he.run pins s σ H _ J h) fun v s1 ⟨y, H1, J1, r1, q1⟩ => ?_) hs⟩
  refine thn (ho.run pins s1 σ H1 _ J1 q1) fun u s2 ⟨x, H2, J2, r2, a, C, ex, T, hno, ea, q⟩ => ?_
  subst ex
  cases (show u = Value.ref a from r2)
  exact x_ost B T J2 ea hno r1 fun dx s' n ne J3 => ⟨σ, _, J3, q dx n ne⟩
/-- what such an __init__ keeps: one field -/
def spX (C : Addr) (f : Str) : Sp := fun vs H Q _ => ∃ a y, vs = [.ref a, y] ∧ H a = some (exo a C none) ∧ ∀ d, H d = none → d ≠ a → Q .non (upd (upd H d (exd d [(f, y)])) a (exo a C (some d)))
end
end Dk
namespace Dk
open PySem L2
structure DMk (F : Fx) (X : Cx) (e : Expr) (t : DEnv → (Ex → Prop) → Prop) : Prop where
  mono : ∀ ρ (Q Q' : Ex → Prop), (∀ x, Q x → Q' x) → t ρ Q → t ρ Q'
  run : PMk X e (fun σ H Q => ∃ I ρ, At F X.K I ρ σ H ∧ t ρ (finX F.W X.K I H Q))
/-- what is wished of an exception, by the names where it comes -/
abbrev WD := DEnv → Ex → Prop
def LetsS (F : Fx) (K : PySem.W.Frag) (w : WD) (W : WX) : Prop := ∀ I ρ σ H, At F K I ρ σ H → ∀ x, w ρ x → finX F.W K I H (fun cls d H' => W cls d σ H') x
theorem _root_.L2.PMk.imp {X : Cx} {e : Expr} {t u : St → Hp → XK → Prop} (h : PMk X e t) (i : ∀ σ H Q, u σ H Q → t σ H Q) : PMk X e u := fun pins s σ H Q J q => h pins s σ H Q J (i _ _ _ q)
section
variable {F : Fx} {X : Cx} {K : PySem.W.Frag} {I H I' H' : Hp} {ρ : DEnv} {σ : St} {W : WX} {w : WD} {e o : Expr} {es : List Expr} {te to : DT} {t : DEnv → (Ex → Prop) → Prop} {p pos apos : Pos} {x f m : Str} {nB newId iB initId : String} {tl : List Value}
theorem ds_raise (hc : X.calm = true) (tk : Takes X W) (le : LetsS F X.K w W) (h : DMk F X e t) : DSt F X (.Raise (some e) none pos) (fun _ ρ => t ρ (w ρ)) :=
  ⟨fun Z Z' ρ l q => q, (ps_raise hc tk h.run).imp fun Z σ H ⟨I, ρ, A, q⟩ => ⟨I, ρ, A, h.mono _ _ _ (fun x q => le I ρ σ H A x q) q⟩⟩
end
section
variable {F : Fx} {K : PySem.W.Frag} {I H : Hp} {ρ : DEnv} {σ : St}
/-- what the frame's own things hide -/
def baseOf (F : Fx) (H : Hp) : Hp := fun b => if F.B b = none then none else H b
theorem At.rebase (A : At F K I ρ σ H) : At ⟨F.W, baseOf F H, I⟩ K I ρ σ H := by
  refine ⟨⟨Same.refl I, A.st, fun b o e _ => ?_, fun b o e n => n⟩, A.len, fun i e h => ?_, A.dis⟩
  · have e2 : (if F.B b = none then none else H b) = some o := e
    split at e2
    · cases e2
    · exact e2
  · obtain ⟨v, h1, h2⟩ := A.env i e h
    refine ⟨v, h1, ?_⟩
    rcases h2 with h2 | ⟨p, o, e1, w⟩
    · exact .inl h2
    · exact .inr ⟨p, o, e1, w.hp, w.rep, w.ni, w.nm, if_pos w.nb, w.ad⟩
theorem Stp.back {I' H' : Hp} (s0 : Stp F.W F.I0 F.B I H) (s : Stp F.W I (baseOf F H) I' H') : Stp F.W F.I0 F.B I' H' := by
  have see : ∀ b o, F.B b = some o → H b = some o → baseOf F H b = some o := fun b o e h => by
    unfold baseOf
    rw [if_neg (by rw [e]; exact fun z => nomatch z)]
    exact h
  refine ⟨Same.trans s0.i s.i, s.st, fun b o e m => s.h b o (see b o e (s0.h b o e m)) m, fun b o e n => ?_⟩
  by_cases m : F.W.mv b
  · cases q : I' b with
    | none => rfl
    | some u => exact absurd m (s.st.imm b u q)
  · exact s.new b o (see b o e (s0.h b o e m)) (s0.new b o e n)
theorem At.back {I' H' : Hp} {ρ' : DEnv} {σ' : St} (A : At F K I ρ σ H) (A' : At ⟨F.W, baseOf F H, I⟩ K I' ρ' σ' H') : At F K I' ρ' σ' H' := by
  refine ⟨Stp.back A.stp A'.stp, A'.len, fun i e h => ?_, A'.dis⟩
  obtain ⟨v, h1, h2⟩ := A'.env i e h
  refine ⟨v, h1, ?_⟩
  rcases h2 with h2 | ⟨p, o, e1, w⟩
  · exact .inl h2
  refine .inr ⟨p, o, e1, w.hp, w.rep, w.ni, w.nm, ?_, w.ad⟩
  cases q : F.B p with
  | none => rfl
  | some u =>
    have hp := A.stp.h p u q w.nm
    have z : (if F.B p = none then none else H p) = none := w.nb
    rw [if_neg (by rw [q]; exact fun z => nomatch z), hp] at z
    cases z
theorem ends.rebase (A : At F K I ρ σ H) {Z : Ends} : DEnds.le (ends F K I Z) (ends ⟨F.W, baseOf F H, I⟩ K I Z) :=
  ⟨fun ρ' h I' σ' H' s A' => h I' σ' H' s (A.back A'), fun d h v I' H' s r => h v I' H' (Stp.back A.stp s) r, fun ρ' h I' σ' H' s A' => h I' σ' H' s (A.back A'), fun ρ' h I' σ' H' s A' => h I' σ' H' s (A.back A'), fun u h => match u, h with
    | .own ds, h => fun p vs I' H' s hp r => h p vs I' H' (Stp.back A.stp s) hp r
    | .st d ρ', h => fun v I' σ' H' A' r => h v I' σ' H' (A.back A') r⟩
end
end Dk
namespace Dk
open PySem L2 PySem.Spec
/-- a clause: its class, the slot of its name, what its suite does -/
abbrev Cls1 := Value × Option Nat × (Addr → Value → Option Addr → TS)
def endsAs (D : Ends) : Option Nat → Ends
  | none => D
  | some i => { nx := fun σ H => D.nx (σ.set i none) H, rt := D.rt, bk := fun σ H => D.bk (σ.set i none) H, ct := fun σ H => D.ct (σ.set i none) H }
def nameAs (a : Addr) (σ : St) : Option Nat → St
  | none => σ
  | some i => σ.set i (some (.ref a))
def wTry (K : PySem.W.Frag) (Wout : WX) (D : Ends) : List Cls1 → WX
  | [] => Wout
  | (c, i, ts) :: r => fun cls d σ H => ∃ b, PySem.W.exmOne K cls c = some b ∧ (b = true → ∀ a, H a = none → ts a cls d (endsAs D i) (nameAs a σ i) H) ∧ (b = false → wTry K Wout D r cls d σ H)
abbrev SuiteOk (X : Cx) (sts : List Stmt) (ts : Addr → Value → Option Addr → TS) : Prop :=
  ∀ (a : Addr) (oe : Obj) (cls : Value) (d : Option Addr) (pn : List (Addr × Obj)), Zc cls d oe → (∃ vs, oe.data = .fields vs) → PSs (X.suite a ((a, oe) :: pn)) sts (ts a cls d)
inductive HdsS (X : Cx) : List ExceptHandler → List Cls1 → Prop
  | nil : HdsS X [] []
  | one {x : Str} {c : Value} {ts : Addr → Value → Option Addr → TS} {b₀ : Stmt} {suite : List Stmt} {np pos' : Pos} {hds : List ExceptHandler} {l : List Cls1} (hc : Names X x c) (hsu : SuiteOk X (b₀ :: suite) ts) (r : HdsS X hds l) :
      HdsS X (.ExceptHandler (some (.Name x np)) none (b₀ :: suite) pos' :: hds) ((c, none, ts) :: l)
  | as {x n : Str} {i : Nat} {c : Value} {ts : Addr → Value → Option Addr → TS} {b₀ : Stmt} {suite : List Stmt} {np pos' : Pos} {hds : List ExceptHandler} {l : List Cls1} (hc : Names X x c) (hi : X.N[i]? = some n) (hln : X.env.kindOf n = some .local) (hsu : SuiteOk X (b₀ :: suite) ts) (r : HdsS X hds l) :
      HdsS X (.ExceptHandler (some (.Name x np)) (some n) (b₀ :: suite) pos' :: hds) ((c, some i, ts) :: l)
section
variable {X : Cx} {body : List Stmt} {h₀ : ExceptHandler} {hds : List ExceptHandler} {l : List Cls1} {pos : Pos} {tb : WX → TS} {Wout : WX}
theorem ps_tryS (hs : X.stack = X.env :: X.outer) (hf : X.env.frame = some X.env.locals) (hN : X.N.Nodup) (tk : Takes X Wout)
    (hb : ∀ (W : WX) (pn : List (Addr × Obj)) (xe : Value → Shared → Prop), Takes (X.tr pn xe) W → PSs (X.tr pn xe) body (tb W))
    (hh : HdsS X (h₀ :: hds) l) : PS X (.Try body (h₀ :: hds) [] [] pos) (fun D σ H => tb (wTry X.K Wout D l) D σ H) := by
  refine ⟨fun pins s σ H D J h => wpAny_Try_except ?_⟩
  have ok := J.ok
  have frs1 : X.A.frames = some (X.env :: X.outer) := by rw [ok.frames, hs]
  have caught := hb (wTry X.K Wout D l) (X.pn ++ pins) (fun e s1 => wpAny (model X.prog X.w) X.A (noteFrame e X.env) (fun _ s2 => wpAny (model X.prog X.w) X.A (setFlight e none) (fun _ s3 => wpAny (model X.prog X.w) X.A (handleBy e X.env (h₀ :: hds)) (SP X pins D) X.xe s3) X.xe s2) X.xe s1)
  refine wpAny_mono ((caught fun u s' xx => ?_).run [] s σ H D (J.toTry _) h) (fun f s1 hsp => ?_) fun e s1 he => he
  · obtain ⟨a, B, sI, pins', σ', H', cls, d, rfl, J', nb, up, sky, na, os, ag, w⟩ := xx
    have J1 : Inv X pins σ' H' sI := J'.ofTry ok
    rw [hs] at sky
    show wpAny (model X.prog X.w) X.A (noteFrame (.ref a) X.env) _ _ _
    refine Sky.land Zc.steady frs1 hf sky fun h3 fl3 up3 => ?_
    have J3 : Inv X pins σ' H' { s' with heap := h3 } := J1.landed nb fl3.1 (up.trans up3) os ag
    obtain ⟨oe3, vs3, he3, hz3, hd3⟩ := fl3.there
    have off : a ∉ frs (X.env :: X.outer) := fun hm => by
      obtain ⟨_, o', e', hnf⟩ := fl3.2.2.1.mem hm
      rw [he3] at e'
      cases e'
      exact hnf _ hd3
    have nL : a ≠ X.env.locals := fun z => off (List.mem_filterMap.mpr ⟨X.env, List.mem_cons_self, by rw [hf, z]⟩)
    have nF : a ∉ X.fs := fun hm => by
      obtain ⟨e, he, q⟩ := List.mem_filterMap.mp hm
      exact off (List.mem_filterMap.mpr ⟨e, List.mem_cons_of_mem _ he, q⟩)
    have S3 := J3.suite he3 hd3 na nL nF
    have LT : PySem.W.Looks (model X.prog X.w) h3 (typeOf (.ref a)) cls := fun A Q E s k q => wpAny_typeOf_ref (k _ _ he3) (by rw [hz3.1]; exact q)
    have test : ∀ {x : Str} {c : Value} {np : Pos}, Names X x c → ∀ {Q E : Value → Shared → Prop}, Q c { s' with heap := h3 } → wpAny (model X.prog X.w) (X.A.mark (some (.ref a))) (eval (.Name x np) X.env) Q E { s' with heap := h3 } := by
      rintro x c np ⟨hg, hdbg, hm | ⟨hm, hv, hnn⟩⟩ Q E q
      · exact ld_glob (X := X.suite a ((a, oe3) :: (X.pn ++ pins))) S3 hg hm q hdbg
      · exact ld_blt (X := X.suite a ((a, oe3) :: (X.pn ++ pins))) S3 hg hm hv q hnn hdbg
    have go : ∀ {hs2 : List ExceptHandler} {l2 : List Cls1}, HdsS X hs2 l2 → wTry X.K Wout D l2 cls d σ' H' → wpAny (model X.prog X.w) X.A (handleBy (.ref a) X.env hs2) (SP X pins D) X.xe { s' with heap := h3 } := by
      intro hs2 l2 hk
      induction hk with
      | nil =>
        intro w
        refine wpAny_handleBy_nil ?_
        obtain ⟨k1, k2, k3, oe, vs, T, oT, ts', he, hz, hd, h1, hr⟩ := id fl3
        have some1 : ¬ ((Value.ref T == Value.none) = true) := by simp
        unfold PySem.passOn
        refine wpAny_bind (wpAny_field he hd h1 ?_)
        rw [if_neg some1]
        have out : wpAny (model X.prog X.w) X.A (setFlight (.ref a) X.env.frame) (fun _ s4 => wpAny (model X.prog X.w) X.A (throw (.ref a) : Sem Flow) (SP X pins D) X.xe s4) X.xe { s' with heap := h3 } := by
          rw [hf]
          refine HandSPX.setFlight_upZ fl3 fun h4 hh4 up4 => wpAny_throw (tk _ _ ⟨a, B, sI, pins, σ', H', cls, d, rfl, J1, nb, (up.trans up3).trans up4, ?_, na, os, ag, w⟩)
          rw [hs]
          exact .inr (.inr hh4)
        first
          | exact wpAny_bind (wpAny_pure (wpAny_bind out))
          | exact wpAny_bind out
      | @one x c ts b₀ suite np pos' hds3 l3 hc hsu r ih =>
        rintro ⟨b, hb1, yes, no⟩
        refine wpAny_handleBy_cons (codeAny_handlers_test ?_) (by intro q; cases q)
        refine test hc ((PySem.W.exm_one (M := model X.prog X.w) J3.kIn LT hb1).here ?_)
        cases b with
        | false => exact ih (no rfl)
        | true =>
          refine codeAny_handlers_suite (HandSPX.lands_againZ fl3 fun h4 fl4 up4 => ?_)
          have J4 : Inv X pins σ' H' { s' with heap := h4 } := J1.landed nb fl4.1 ((up.trans up3).trans up4) os ag
          obtain ⟨oe4, vs4, he4, hz4, hd4⟩ := fl4.there
          refine wpAny_mono ((hsu a oe4 cls d (X.pn ++ pins) hz4 ⟨_, hd4⟩).run [] _ _ H' _ (J4.suite he4 hd4 na nL nF) (yes rfl a na)) (fun f s6 hsp => ?_) fun _ _ z => False.elim z
          cases f with
          | ret u => obtain ⟨v6, σ6, H6, S6, r6, q6⟩ := hsp; exact ⟨_, _, _, S6.unsuite ok, r6, q6⟩
          | next => obtain ⟨σ6, H6, S6, q6⟩ := hsp; exact ⟨_, _, S6.unsuite ok, q6⟩
          | brk => obtain ⟨σ6, H6, S6, q6⟩ := hsp; exact ⟨_, _, S6.unsuite ok, q6⟩
          | cont => obtain ⟨σ6, H6, S6, q6⟩ := hsp; exact ⟨_, _, S6.unsuite ok, q6⟩
      | @as x n i c ts b₀ suite np pos' hds3 l3 hc hi hln hsu r ih =>
        rintro ⟨b, hb1, yes, no⟩
        refine wpAny_handleBy_cons (codeAny_handlers_test ?_) (by intro q; cases q)
        refine test hc ((PySem.W.exm_one (M := model X.prog X.w) J3.kIn LT hb1).here ?_)
        cases b with
        | false => exact ih (no rfl)
        | true =>
          refine codeAny_handlers_suite_as (HandSPX.lands_againZ fl3 fun h4 fl4 up4 => ?_)
          have J4 : Inv X pins σ' H' { s' with heap := h4 } := J1.landed nb fl4.1 ((up.trans up3).trans up4) os ag
          obtain ⟨oe4, vs4, he4, hz4, hd4⟩ := fl4.there
          refine store_ok (X := X.suite a ((a, oe4) :: (X.pn ++ pins))) (v := .ref a) (J4.suite he4 hd4 na nL nF) hN hi (.inl hln) rfl (fun s5 S5 => ?_) (.inr hln)
          refine wpAny_mono ((hsu a oe4 cls d (X.pn ++ pins) hz4 ⟨_, hd4⟩).run [] s5 _ H' _ S5 (yes rfl a na)) (fun f s6 hsp => ?_) fun _ _ z => False.elim z
          have gone : ∀ {σ6 : St} {H6 : Hp} {Q : Shared → Prop}, Inv (X.suite a ((a, oe4) :: (X.pn ++ pins))) [] σ6 H6 s6 → (∀ s7, Inv X pins (σ6.set i none) H6 s7 → Q s7) →
              wpAny (model X.prog X.w) X.A (do bindName X.env n .none; unbindBehindTheSuite X.env n pos') (fun _ s7 => Q s7) X.xe s6 := fun S6 hq => gone_ok (S6.unsuite ok) hN hi hln hq
          cases f with
          | ret u => obtain ⟨v6, σ6, H6, S6, r6, q6⟩ := hsp; exact gone S6 fun s7 J7 => ⟨_, _, _, J7, r6, q6⟩
          | next => obtain ⟨σ6, H6, S6, q6⟩ := hsp; exact gone S6 fun s7 J7 => ⟨_, _, J7, q6⟩
          | brk => obtain ⟨σ6, H6, S6, q6⟩ := hsp; exact gone S6 fun s7 J7 => ⟨_, _, J7, q6⟩
          | cont => obtain ⟨σ6, H6, S6, q6⟩ := hsp; exact gone S6 fun s7 J7 => ⟨_, _, J7, q6⟩
    exact go hh w
  · cases f with
    | ret u => obtain ⟨v, σ', H', J', r, q⟩ := hsp; exact ⟨v, σ', H', J'.ofTry ok, r, q⟩
    | next => obtain ⟨σ', H', J', q⟩ := hsp; exact wpAny_execs_nil ⟨σ', H', J'.ofTry ok, q⟩
    | brk => obtain ⟨σ', H', J', q⟩ := hsp; exact ⟨σ', H', J'.ofTry ok, q⟩
    | cont => obtain ⟨σ', H', J', q⟩ := hsp; exact ⟨σ', H', J'.ofTry ok, q⟩
end
/-- a clause over data -/
abbrev Cls2 := Value × Option Nat × (Addr → Ex → DTS)
def wipeZ (Z : DEnds) : Option Nat → DEnds
  | none => Z
  | some i => ⟨fun ρ => Z.nx (ρ.set i none), Z.rt, fun ρ => Z.bk (ρ.set i none), fun ρ => Z.ct (ρ.set i none), Z.ro⟩
def nameD (a : Addr) (ρ : DEnv) : Option Nat → DEnv
  | none => ρ
  | some i => ρ.set i (some (.dat (.opq a)))
/-- what the clauses wish of an exception -/
def handD (K : PySem.W.Frag) (w : WD) (Z : DEnds) : List Cls2 → WD
  | [], ρ, x => w ρ x
  | (c, i, ts) :: r, ρ, x => ∃ b, PySem.W.exmOne K x.cls c = some b ∧ (b = true → ∀ a, ts a x (wipeZ Z i) (nameD a ρ i)) ∧ (b = false → handD K w Z r ρ x)
def tSuite (F : Fx) (K : PySem.W.Frag) (ts : Addr → Ex → DTS) (a : Addr) (cls : Value) (d : Option Addr) : TS := fun D σ H => ∃ I ρ x, At F K I ρ σ H ∧ ExRep K I H cls d x ∧ ts a x (ends F K I D) ρ
abbrev SuiteD (F : Fx) (X : Cx) (sts : List Stmt) (ts : Addr → Ex → DTS) : Prop :=
  ∀ (B' I' : Hp) (a : Addr) (oe : Obj) (cls : Value) (d : Option Addr) (pn : List (Addr × Obj)) (x : Ex), Zc cls d oe → (∃ vs, oe.data = .fields vs) → ExRep X.K I' B' cls d x → DSts ⟨F.W, B', I'⟩ (X.suite a ((a, oe) :: pn)) sts (ts a x)
inductive HdsD (F : Fx) (X : Cx) : List ExceptHandler → List Cls2 → Prop
  | nil : HdsD F X [] []
  | one {x : Str} {c : Value} {ts : Addr → Ex → DTS} {b₀ : Stmt} {suite : List Stmt} {np pos' : Pos} {hds : List ExceptHandler} {l : List Cls2} (hc : Names X x c) (hsu : SuiteD F X (b₀ :: suite) ts) (r : HdsD F X hds l) :
      HdsD F X (.ExceptHandler (some (.Name x np)) none (b₀ :: suite) pos' :: hds) ((c, none, ts) :: l)
  | as {x n : Str} {c : Value} {ts : Addr → Ex → DTS} {b₀ : Stmt} {suite : List Stmt} {np pos' : Pos} {hds : List ExceptHandler} {l : List Cls2} (i : Nat) (hc : Names X x c) (hi : X.N[i]? = some n) (hln : X.env.kindOf n = some .local) (hsu : SuiteD F X (b₀ :: suite) ts) (r : HdsD F X hds l) :
      HdsD F X (.ExceptHandler (some (.Name x np)) (some n) (b₀ :: suite) pos' :: hds) ((c, some i, ts) :: l)
section
variable {F : Fx} {X : Cx} {K : PySem.W.Frag} {I H : Hp} {ρ : DEnv} {σ : St}
theorem ends.as {D : Ends} {i : Option Nat} : DEnds.le (wipeZ (ends F K I D) i) (ends F K I (endsAs D i)) := by
  cases i with
  | none => exact DEnds.le.rfl'
  | some i => exact ⟨fun ρ h I' σ H s A => h I' _ H s (A.wipe [i]), fun d h => h, fun ρ h I' σ H s A => h I' _ H s (A.wipe [i]), fun ρ h I' σ H s A => h I' _ H s (A.wipe [i]), fun d h => h⟩
theorem wipeZ.le {Z Z' : DEnds} {i : Option Nat} (l : DEnds.le Z Z') : DEnds.le (wipeZ Z i) (wipeZ Z' i) := by
  cases i with
  | none => exact l
  | some i => exact ⟨fun ρ h => l.nx _ h, l.rt, fun ρ h => l.bk _ h, fun ρ h => l.ct _ h, l.ro⟩
theorem DEnds.le.trans {a b c : DEnds} (l : DEnds.le a b) (m : DEnds.le b c) : DEnds.le a c :=
  ⟨fun _ h => m.nx _ (l.nx _ h), fun _ h => m.rt _ (l.rt _ h), fun _ h => m.bk _ (l.bk _ h), fun _ h => m.ct _ (l.ct _ h), fun _ h => m.ro _ (l.ro _ h)⟩
theorem at_name (A : At F K I ρ σ H) (a : Addr) (i : Option Nat) : At F K I (nameD a ρ i) (nameAs a σ i) H := by
  cases i with
  | none => exact A
  | some i => exact A.set (.opq a)
theorem suite_ok {sts : List Stmt} {ts : Addr → Ex → DTS} (h : SuiteD F X sts ts) : SuiteOk X sts (tSuite F X.K ts) := by
  refine fun a oe cls d pn hz hf => ⟨fun pins s σ H D J ⟨I, ρ, x, A, e, q⟩ => ?_⟩
  have S := h (baseOf F H) I a oe cls d pn x hz hf e
  exact S.run.run pins s σ H D J ⟨I, ρ, A.rebase, S.mono _ _ _ (ends.rebase A) q⟩
def clsR (F : Fx) (K : PySem.W.Frag) (l : List Cls2) : List Cls1 := l.map fun (c, i, ts) => (c, i, tSuite F K ts)
theorem hds_ok {hs : List ExceptHandler} {l : List Cls2} (h : HdsD F X hs l) : HdsS X hs (clsR F X.K l) := by
  induction h with
  | nil => exact .nil
  | one hc hsu r ih => exact .one hc (suite_ok hsu) ih
  | as i hc hi hln hsu r ih => exact .as hc hi hln (suite_ok hsu) ih
theorem hand_run {Wout : WX} {w : WD} {D : Ends} {Z : DEnds} {hs : List ExceptHandler} {l : List Cls2} (h : HdsD F X hs l) (le : LetsS F X.K w Wout) (A : At F X.K I ρ σ H) (lz : DEnds.le Z (ends F X.K I D)) {x : Ex} {cls : Value} {d : Option Addr} (er : ExRep X.K I H cls d x)
    (q : handD X.K w Z l ρ x) : wTry X.K Wout D (clsR F X.K l) cls d σ H := by
  have one : ∀ {c : Value} {i : Option Nat} {ts : Addr → Ex → DTS} {sts : List Stmt} {r : List Cls2}, SuiteD F X sts ts → (handD X.K w Z r ρ x → wTry X.K Wout D (clsR F X.K r) cls d σ H) → handD X.K w Z ((c, i, ts) :: r) ρ x → wTry X.K Wout D (clsR F X.K ((c, i, ts) :: r)) cls d σ H := by
    rintro c i ts sts r hsu ih ⟨b, hb, yes, no⟩
    refine ⟨b, er.1 ▸ hb, fun e a na => ⟨I, _, x, at_name A a i, er, ?_⟩, fun e => ih (no e)⟩
    have S := hsu I I a ⟨cls, d, .fields #[], #[]⟩ cls d [] x ⟨rfl, rfl⟩ ⟨_, rfl⟩ er
    exact S.mono _ _ _ (DEnds.le.trans (wipeZ.le lz) ends.as) (yes e a)
  induction h with
  | nil => exact le I ρ σ H A x q cls d I H A.st.stp er
  | one hc hsu r ih => exact one hsu ih q
  | as i hc hi hln hsu r ih => exact one hsu ih q
variable {Wout : WX} {w : WD} {body : List Stmt} {h₀ : ExceptHandler} {hs : List ExceptHandler} {l : List Cls2} {pos : Pos} {tb : WD → DTS}
/-- try: body / except C as n: .. / except ..; u: what the body's exceptions are wished -/
theorem ds_try (h1 : X.stack = X.env :: X.outer) (h2 : X.env.frame = some X.env.locals) (hN : X.N.Nodup) (tk : Takes X Wout) (le : LetsS F X.K w Wout)
    (hb : ∀ (B' I' : Hp) (W' : WX) (pn : List (Addr × Obj)) (xe : Value → Shared → Prop) (u : WD), Takes (X.tr pn xe) W' → LetsS ⟨F.W, B', I'⟩ X.K u W' → DSts ⟨F.W, B', I'⟩ (X.tr pn xe) body (tb u)) (hh : HdsD F X (h₀ :: hs) l) :
    DSt F X (.Try body (h₀ :: hs) [] [] pos) (fun Z ρ => ∃ (u : WD) (Z' : DEnds), DEnds.le Z' Z ∧ (∀ ρ' x, u ρ' x → handD X.K w Z' l ρ' x) ∧ tb u Z' ρ) := by
  refine ⟨fun Z Z' ρ lz ⟨u, Z1, l1, h, q⟩ => ⟨u, Z1, l1.trans lz, h, q⟩, ⟨fun pins s σ H D J ⟨I, ρ, A, u, Z, lz, h, q⟩ => ?_⟩⟩
  refine (ps_tryS (tb := fun W' D' σ' H' => W' = wTry X.K Wout D (clsR F X.K l) ∧ D' = D ∧ σ' = σ ∧ H' = H) h1 h2 hN tk (fun W' pn xe tk' => ⟨fun pins' s' σ' H' D' J' ⟨eW, eD, es, eH⟩ => ?_⟩) (hds_ok hh)).run pins s σ H D J ⟨rfl, rfl, rfl, rfl⟩
  subst eW eD es eH
  have S := hb (baseOf F H') I _ pn xe u tk' fun I2 ρ2 σ2 H2 A2 x hx cls d I3 H3 s3 er => ?_
  · refine S.run.run pins' s' σ' H' D' J' ⟨I, ρ, A.rebase, S.mono _ _ _ (lz.trans (ends.rebase A)) q⟩
  · have A3 := A.back (A2.step s3)
    have same : Same I I3 := Same.trans A2.stp.i s3.i
    exact hand_run hh le A3 (lz.trans (ends.le same)) er (h _ _ hx)
end
end Dk
namespace Dk
open PySem L2 PySem.Spec
section
variable {X : Cx} {a C D : Addr} {oe : Obj} {cls : Value} {d : Option Addr} {pn : List (Addr × Obj)} {F : Fx} {B' : Hp} {e : Expr} {te : DT} {x : Ex} {f : Str} {pos p q1 q2 : Pos}
theorem ex_at {K : PySem.W.Frag} {I0 I H : Hp} {W : Wd} (er : ExRep K I0 B' cls d x) (s : Same I0 I) (st : StI W I H) : ∀ y, d = some y → ∃ fs, H y = some (.xd fs) := fun y e => by
  rcases er.2 with ⟨_, h⟩ | ⟨dd, fs, h, hi, _⟩
  · rw [h] at e
    cases e
  · rw [h] at e
    cases e
    exact ⟨fs, st.sub _ _ (s _ _ hi)⟩
/-- e.f -/
theorem de_xf (hz : Zc cls d oe) (hf : ∃ vs, oe.data = .fields vs) (er : ExRep X.K F.I0 B' cls d x) (he : DE F (X.suite a ((a, oe) :: pn)) e te) (hb : attributeBase e f X.env (eval e X.env) = eval e X.env := by rfl) :
    DE F (X.suite a ((a, oe) :: pn)) (.Attribute e f pos) (fun ρ Q => ∃ C, x.cls = .ref C ∧ XfC X.K C ∧ PySem.W.findIn X.K (.ref C) f = some none ∧ te ρ fun z => z = .opq a ∧ ∃ y, x.flds.lookup f = some y ∧ Q y) := by
  refine ⟨fun ρ Q Q' k ⟨C, e1, t, n, h⟩ => ⟨C, e1, t, n, he.mono _ _ _ (fun z ⟨ez, y, l, q⟩ => ⟨ez, y, l, k _ q⟩) h⟩, ⟨fun pins s σ H Q J ⟨I, ρ, A, C, e1, t, n, h⟩ => ?_⟩⟩
  refine (pe_xf t n hz hf he.run hb).run pins s σ H Q J (rdE_next he.mono A h fun z v I1 H1 q1 s1 rv => ?_)
  obtain ⟨rfl, y, l, q1⟩ := q1
  cases rv
  rcases er.2 with ⟨h0, _⟩ | ⟨dd, fs, h0, hi, kk, r⟩
  · rw [h0] at l
    cases l
  have same := Same.trans A.stp.i s1.i
  obtain ⟨w, l1, rw1⟩ := lookup_rep kk (r.mono same) l
  exact ⟨rfl, er.1.trans e1, dd, fs, w, h0, s1.st.sub _ _ (same _ _ hi), l1, q1 _ _ _ s1 rw1⟩
/-- what its class says, so that isinstance is answered -/
structure XiC (K : PySem.W.Frag) (D : Addr) : Prop where
  hd : PySem.W.hasDictIn K D = true
  hg : PySem.W.findIn K (.ref D) "__getattribute__" = some (some (.builtin "BaseException.__getattribute__"))
  hk : PySem.W.findIn K (.ref D) "__getattr__" = some none
  hs : PySem.W.subIn K (.ref D) (.type "BaseException") = some true
  ha : PySem.W.findIn K (.ref D) "__class__" = some (some (.builtin "object.__class__"))
  hn : PySem.W.specialIn K (.builtin "object.__class__") "__get__" = some (some (.builtin "getset_descriptor.__get__"))
  ht : PySem.W.takesIn K (.builtin "object.__class__") = some true
  hm : PySem.W.mroIn K D (.type "object") = some true
theorem XiC.xf {K : PySem.W.Frag} {D : Addr} (T : XiC K D) : XfC K D := ⟨T.hg, T.hk, T.hs, T.hd⟩
/-- isinstance of it -/
def rIsX (K : PySem.W.Frag) (D a : Addr) (d : Option Addr) : List V → Hp → VK → Prop := fun xs H Q => ∃ (c : V) (cv : Value) (b : Bool), xs = [.ref a, c] ∧ ClsV c cv ∧ PySem.W.kitOne K (.ref D) cv = some b ∧ (∀ y, d = some y → ∃ fs, H y = some (.xd fs)) ∧ Q (.bl b) H
theorem x_inst {pins : List (Addr × Obj)} {σ : St} {H : Hp} {s : Shared} (hz : Zc (.ref D) d oe) (hf : ∃ vs, oe.data = .fields vs) (J : Inv (X.suite a ((a, oe) :: pn)) pins σ H s) (hd : ∀ y, d = some y → ∃ fs, H y = some (.xd fs)) : ∃ od, PySem.W.InstAt s.heap a oe D od := by
  obtain ⟨ha, _⟩ := J.pin (a, oe) (List.mem_append.mpr (.inl List.mem_cons_self))
  obtain ⟨vs, hv⟩ := hf
  have nc : PySem.W.notCls oe = true := by unfold PySem.W.notCls; rw [hv] <;> rfl
  cases hdd : d with
  | none => exact ⟨none, ha, hz.1, nc, by rw [hz.2, hdd]; trivial⟩
  | some y =>
    obtain ⟨fs, hy⟩ := hd y hdd
    obtain ⟨mA, hns, _⟩ := (show ObjOk X.prog X.w H s.heap y (.xd fs) from J.hok y _ hy)
    obtain ⟨od, ho, _⟩ := lookIn_ns hns
    exact ⟨some od, ha, hz.1, nc, by rw [hz.2, hdd]; exact ho⟩
theorem x_kit {K : PySem.W.Frag} (T : XiC K D) (od : Option Obj) : PySem.W.KitX K (.ref a) (.ref D) (fun h => PySem.W.InstAt h a oe D od) := by
  obtain ⟨cd, hc, _⟩ := PySem.W.any_some T.hd
  exact PySem.W.kitx_exc (by rw [hc]; rfl) T.hg T.hk T.hs T.ha T.hn T.ht T.hm
theorem call_isX (T : XiC X.K D) (hz : Zc (.ref D) d oe) (hf : ∃ vs, oe.data = .fields vs) : CallR (X.suite a ((a, oe) :: pn)) (.builtin "isinstance") (rIsX X.K D a d) := by
  rintro pins s σ H xs us Q J r ⟨c, cv, b, rfl, k, e, hd, q⟩
  obtain ⟨u1, u2, rfl, r1, r2⟩ := vals2 r
  cases (show u1 = Value.ref a from r1)
  cases k.eq r2
  obtain ⟨od, i⟩ := x_inst hz hf J hd
  exact PySem.W.kia_one (x_kit T od) J.kIn i e (fun z => nomatch z) fun tk => ⟨.bl b, H, J.tok tk, rfl, q⟩
/-- names of classes -/
theorem cn_b {X : Cx} {y : Str} {n : String} {pos : Pos} (hm : X.mg y = none) (hv : bootBuiltins y = some (.type n) := by decide +kernel) (hg : Gl X y := by rfl) (hn : y ≠ "__name__" := by decide) (hd : (y == ("__debug__" : Str)) = false := by decide) : PE X (.Name y pos) (tC (.ty n)) := pe_bltn hg hm hv rfl hn hd
theorem cn_o {X : Cx} {y : Str} {C : Addr} {pos : Pos} (hm : X.mg y = some (.ref C)) (hg : Gl X y := by rfl) (hd : (y == ("__debug__" : Str)) = false := by decide) : PE X (.Name y pos) (tC (.ref C)) := pe_glob hg hm rfl hd
/-- isinstance(e, C) -/
theorem de_isX {c : V} {u : Value} {ce : Expr} (hz : Zc cls d oe) (hf : ∃ vs, oe.data = .fields vs) (er : ExRep X.K F.I0 B' cls d x) (hm : X.mg "isinstance" = none) (he : DE F (X.suite a ((a, oe) :: pn)) e te) (hc : PE (X.suite a ((a, oe) :: pn)) ce (tC c)) (k : ClsV c u) (hg : Gl X "isinstance" := by rfl)
    (h1 : starEach [e, ce] X.env = (false, eval e X.env) :: starEach [ce] X.env := by rfl) (h2 : starEach [ce] X.env = (false, eval ce X.env) :: starEach [] X.env := by rfl) (hpl : (backTo pos (starEach [ce] X.env)).any (·.1) = false := by rfl) :
    DE F (X.suite a ((a, oe) :: pn)) (.Call (.Name "isinstance" q1) [e, ce] [] pos) (fun ρ Q => ∃ D b, x.cls = .ref D ∧ XiC X.K D ∧ PySem.W.kitOne X.K (.ref D) u = some b ∧ te ρ fun z => z = .opq a ∧ Q (.bl b)) := by
  refine ⟨fun ρ Q Q' k ⟨D, b, e1, t, ki, h⟩ => ⟨D, b, e1, t, ki, he.mono _ _ _ (fun z ⟨ez, q⟩ => ⟨ez, k _ q⟩) h⟩, ⟨fun pins s σ H Q J ⟨I, ρ, A, D, b, e1, t, ki, h⟩ => ?_⟩⟩
  have hz' : Zc (.ref D) d oe := by rw [← e1, ← er.1]; exact hz
  refine (pe_callB (X := X.suite a ((a, oe) :: pn)) (call_isX t hz' hf) hg hm (by decide +kernel) (pa_cons he.run (pa_cons hc pa_nil h2) h1) (by decide) (by decide) h1 hpl).run pins s σ H Q J ?_
  refine rdE_next he.mono A h fun z v I1 H1 q1 s1 rv => ?_
  obtain ⟨rfl, q1⟩ := q1
  cases rv
  exact ⟨c, u, b, rfl, k, ki, ex_at er (Same.trans A.stp.i s1.i) s1.st, q1 _ _ _ s1 (.bl b)⟩
end
end Dk
namespace Dk
open PySem L2 PySem.Spec
open PyProof.Rows (envOfC)
theorem letsS_none {F : Fx} {K : PySem.W.Frag} {W : WX} : LetsS F K (fun _ _ => False) W := fun _ _ _ _ _ _ h => h.elim
/-- .. without an __init__ of its own, made with a text -/
structure CalN (K : PySem.W.Frag) (mg : Str → Option Value) (x : Str) (C : Addr) : Prop where
  ex : ∃ B newId initId bmB, ExcBaseFacts B newId initId bmB ∧ PySem.W.excIn K C bmB newId = true ∧ mg x = some (.ref C) ∧ PySem.W.keepIn K (.ref C) = true ∧ PySem.W.subIn K (.ref C) (.type "BaseException") = some true ∧ PySem.W.typeIn K (.ref C) = some (.type "type")
theorem ty_KE : typeOf (.type "KeyError") = pure (.type "type") := by kernel_rfl
theorem hh_KE : PySem.W.handedIn (.builtin "KeyError.__init__") = true := by decide +kernel
theorem hh_VE : PySem.W.handedIn (.builtin "ValueError.__init__") = true := by decide +kernel
theorem vv_ke (K : PySem.W.Frag) : PySem.W.findCls K (.type "KeyError") (.type "type") "__init__" = some (.val (.builtin "KeyError.__init__")) := by kernel_rfl
section
variable {P : Program} {w : World} {K : PySem.W.Frag} {mg : Str → Option Value} {base : Heap} {k : Nat}
/-- __init__(self, p): B.__init__(self, 'm'); self.f = p -/
theorem run_xinit {X : Cx} {a C : Addr} {f b p y : Str} {v : V} {H : Hp} {Q : VK} {nB newId iB initId : String} {tl : List Value} {p1 p2 p3 p4 p5 p6 p7 p8 p9 p0 : Pos} {j : Nat} (B : XB nB newId iB initId tl) (T : OxC X.K newId tl C) (hno : PySem.W.findIn X.K (.ref C) f = some none)
    (hcall : ∀ ta, PA X [.Name "self" p3, .Constant (.str y) j p4] ta → PE X (.Call (.Attribute (.Name b p1) "__init__" p2) [.Name "self" p3, .Constant (.str y) j p4] [] p5) (tXi X.K newId tl ta)) (hN : X.N = [Str.ofString "self", p])
    (hv0 : Vis X.env.scope "self") (hv1 : Vis X.env.scope p) (h1 : (p == ("__debug__" : Str)) = false) (h2 : (p == ("__classdict__" : Str)) = false)
    (sw1 : swapsWith (.Call (.Attribute (.Name b p1) "__init__" p2) [.Name "self" p3, .Constant (.str y) j p4] [] p5) none p6.line X.env = pure false)
    (sw2 : swapsWith (.Name p p9) (some (.Attribute (.Name "self" p7) f p8)) p0.line X.env = pure false)
    (hs : starEach [.Name "self" p3, .Constant (.str y) j p4] X.env = (false, eval (.Name "self" p3) X.env) :: starEach [.Constant (.str y) j p4] X.env)
    (hs2 : starEach [.Constant (.str y) j p4] X.env = (false, eval (.Constant (.str y) j p4) X.env) :: starEach [] X.env)
    (ha : H a = some (exo a C none)) (q : ∀ d, H d = none → d ≠ a → Q .non (upd (upd H d (exd d [(f, v)])) a (exo a C (some d)))) :
    ∃ t, PSs X [.Expr (.Call (.Attribute (.Name b p1) "__init__" p2) [.Name "self" p3, .Constant (.str y) j p4] [] p5) p6, .Assign [.Attribute (.Name "self" p7) f p8] (.Name p p9) p0] t ∧
      t { nx := fun _ H' => Q .non H', rt := Q } (L2.start [Str.ofString "self", p] [.ref a, v]) H := by
  have s0 : X.N[0]? = some (Str.ofString "self") := by rw [hN]; rfl
  have s1 : X.N[1]? = some p := by rw [hN]; rfl
  refine ⟨_, pss_cons (ps_expr (hcall _ (pa_cons (pv 0 s0 hv0 (by decide) (by decide)) (pa_cons pe_str pa_nil hs2) hs)) sw1) (pss_one (ps_xs B (pv 0 s0 hv0 (by decide) (by decide)) (pv 1 s1 hv1 h1 h2) sw2)), ?_⟩
  refine ⟨_, rfl, ⟨a, C, _, rfl, by simp, T, ha, ?_⟩⟩
  exact ⟨_, rfl, _, rfl, a, C, rfl, T, hno, ha, q⟩
end
end Dk
namespace Dk
open PySem PySem.W L2 PySem.Spec
open Builtin Builtin.ObjectAttr
section
variable {M : Model} {A : Around} {E : Value → Shared → Prop} {h : Heap} {g : Array GenState} {d : Drawn} {t : Nat} {os : OsState}
variable {nm q : Str} {C N : Addr} {bs bm tl : List Value} {hdct : Bool} {sn : List Str} {sub : List Value} {ab : Bool} {col : Option Bool} {dd : Option Addr} {k0 k1 k2 k3 k5 : Option Value} {nB newId iB initId : String}
theorem xk_check_new (B : XB nB newId iB initId tl) (hT : ∀ X : String, bm.contains (.type X) = tl.contains (.type X)) {rest : List Value} {kw : List (Str × Value)} {Q : Unit → Shared → Prop}
    (hC : h.get? C = some (excClassObj nm q C N bs bm hdct sn sub ab col dd k0 k1 k2 k3 k5 newId)) (hq : Q () ⟨h, g, d, t, os⟩) : wpAny M A (checkBuiltinCall newId ⟨.ref C :: rest, kw⟩) Q E ⟨h, g, d, t, os⟩ := by
  obtain ⟨jd, tl0, F⟩ := B.nw
  have has := x_has (C := C) hT B.hn
  have nostar := F.noStar
  simp only [checkBuiltinCall, F.newKind, F.newSplit, F.newRow]
  repeat (first
    | refine wpAny_loadPart_at hC ?_
    | (refine wpAny_isSubtype_exc hC ?_; rw [has])
    | refine wpAny_staticBase_exc hC ?_
    | refine wpAny_madeBy_exc hC ?_
    | simp only [bne_self_eq_false, Bool.false_eq_true, if_false]
    | wp_step)
  all_goals first
    | exact hq
    | (refine wpAny_onRaise ?_; exact wpAny_pure hq)
theorem xk_check_call {rest : List Value} {kw : List (Str × Value)} {Q : Unit → Shared → Prop} (hC : h.get? C = some (excClassObj nm q C N bs bm hdct sn sub ab col dd k0 k1 k2 k3 k5 newId))
    (hq : Q () ⟨h, g, d, t, os⟩) : wpAny M A (checkBuiltinCall "type.__call__" ⟨.ref C :: rest, kw⟩) Q E ⟨h, g, d, t, os⟩ := by
  have f3 := tc_sub
  have hT : (⟨h, g, d, t, os⟩ : Shared).TypeIs (.ref C) "type" := ⟨_, hC, rfl⟩
  simp only [checkBuiltinCall, tc_kind, tc_split]
  repeat (any_goals (first | assumption | with_reducible refine wpAny_loadPart_at hC ?_ | with_reducible refine wpAny_onRaise ?_ | with_reducible refine wpAny_map ?_ | wp_step))
end
section
variable {prog : Program} {w : World} {A : Around} {E : Value → Shared → Prop} {R : Result → Shared → Prop} {h : Heap} {g : Array GenState} {d : Drawn} {t : Nat} {os : OsState}
variable {nm q : Str} {C N : Addr} {bs bm tl : List Value} {hdct : Bool} {sn : List Str} {sub : List Value} {ab : Bool} {col : Option Bool} {dd : Option Addr} {k0 k1 k2 k3 k5 : Option Value} {nB newId iB initId : String}
theorem xk_new (B : XB nB newId iB initId tl) (hT : ∀ X : String, bm.contains (.type X) = tl.contains (.type X)) {rest : List Value} {kw : List (Str × Value)}
    (hC : h.get? C = some (excClassObj nm q C N bs bm hdct sn sub ab col dd k0 k1 k2 k3 k5 newId)) (hq : R (.ok (.ret (.ref (h.objs.size + 1)))) ⟨xNew h C rest, g, d, t, os⟩) (hrest : rest.length ≤ sizeLine) :
    codeAny (model prog w) A (.builtin newId ⟨.ref C :: rest, kw⟩) R ⟨h, g, d, t, os⟩ := by
  obtain ⟨jd, tl0, F⟩ := B.nw
  have ends := F.ends
  have c1 := x_has (C := C) hT B.hn
  have c2 := x_has (C := C) hT B.hA
  have c3 := x_has (C := C) hT B.hN
  refine codeAny_builtinAt F.entry ?_
  unfold Builtin.«BaseException.__new__»
  refine wpAt_bind ?_
  show wpAt _ _ _ (stack >>= _) _ _ _
  refine wpAt_bind (wpAt_stack fun p below => wpAt_of_wpAny ?_)
  wp_walk
  refine wpAt_of_wpAny ?_
  rw [F.owner]
  repeat (first
    | with_reducible refine wpAny_madeHere_exc F.canon hC ?_
    | with_reducible refine wpAny_loadPart_at hC ?_
    | (with_reducible refine wpAny_isSubtype_exc hC ?_; first | rw [c1] | rw [c2] | rw [c3])
    | wp_step)
  show R _ _
  rw [Heap.size_push]
  exact hq
theorem xk_type_call (B : XB nB newId iB initId tl) (hT : ∀ X : String, bm.contains (.type X) = tl.contains (.type X)) {rest : List Value} {kw : List (Str × Value)} {fI : Addr} {Q : Fin → Shared → Prop}
    (hC : h.get? C = some (excClassObj nm q C N bs bm hdct sn sub ab col dd k0 k1 k2 k3 k5 newId)) (hi : Looks (model prog w) h (typeLookup (.ref C) "__init__") (some (.ref fI)))
    (hb : ∀ self, Looks (model prog w) h (bindSpecial (.ref fI) self) (.ref fI, [self])) (hrest : rest.length ≤ sizeLine)
    (hq : codeAny (model prog w) A (.call (.ref fI) ⟨.ref (h.objs.size + 1) :: rest, kw⟩)
      (fun r s' => match r with | .ok (.ret v) => v = .none ∧ Q (.done (.ret (.ref (h.objs.size + 1)))) s' | .ok _ => False | .error e => E e s') ⟨xNew h C rest, g, d, t, os⟩) :
    wpAny (model prog w) A (Builtin.«type.__call__» ⟨.ref C :: rest, kw⟩) Q E ⟨h, g, d, t, os⟩ := by
  obtain ⟨jd, tl0, F⟩ := B.nw
  repeat (first | with_reducible refine wpAny_loadPart_at hC ?_ | with_reducible refine wpAny_madeBy_exc hC ?_ | wp_step)
  refine codeAny_call_builtin_code (Code.quiet_builtin _ F.quiet) (xk_check_new B hT hC (xk_new B hT hC ?_ hrest))
  show wpAny _ _ _ _ _ _
  have k : ∀ b o, h.get? b = some o → (xNew h C rest).get? b = some o := fun b o e => Heap.get?_push_of_some _ (Heap.get?_push_of_some _ e)
  have at1 : (xNew h C rest).get? (h.objs.size + 1) = some (PySem.HandSPX.excO C h.objs.size) := by heap_get
  have self1 : (Value.ref C :: bm).contains (.ref C) = true := by simp
  have hC1 := k _ _ hC
  have i1 := hi.keeps k
  have b1 := (hb (.ref (h.objs.size + 1))).keeps k
  unfold isInstance
  repeat (first | with_reducible refine wpAny_loadPart_at at1 ?_ | (with_reducible refine wpAny_isSubtype_exc hC1 ?_; rw [self1]) | wp_step)
  show wpAny _ _ (typeLookup (.ref C) _) _ _ _
  refine i1.at (wpAny_holding (wpAny_bind (b1.at (wpAny_bind (wpAny_call (codeAny_mono hq fun r s' z => ?_))))))
  rcases r with e | (v | _ | _ | _) <;> first | exact z | exact z.elim | skip
  obtain ⟨rfl, z⟩ := z
  first
    | exact wpAny_pure (wpAny_pure z)
    | (wp_walk; exact z)
/-- C(..), C's own __init__ at fI -/
theorem xk_call (B : XB nB newId iB initId tl) (hT : ∀ X : String, bm.contains (.type X) = tl.contains (.type X)) {rest : List Value} {kw : List (Str × Value)} {fI : Addr}
    (hC : h.get? C = some (excClassObj nm q C N bs bm hdct sn sub ab col dd k0 k1 k2 k3 k5 newId)) (hi : Looks (model prog w) h (typeLookup (.ref C) "__init__") (some (.ref fI)))
    (hb : ∀ self, Looks (model prog w) h (bindSpecial (.ref fI) self) (.ref fI, [self])) (hrest : rest.length ≤ sizeLine)
    (hq : codeAny (model prog w) (A.under (.builtin "type.__call__" ⟨.ref C :: rest, kw⟩)) (.call (.ref fI) ⟨.ref (h.objs.size + 1) :: rest, kw⟩) (W.InitBack (h.objs.size + 1) R) ⟨xNew h C rest, g, d, t, os⟩) :
    codeAny (model prog w) A (.call (.ref C) ⟨rest, kw⟩) R ⟨h, g, d, t, os⟩ := by
  have f1 := tc_lookup
  have f2 := tc_bind (.ref C)
  have ty : (⟨h, g, d, t, os⟩ : Shared).TypeIs (.ref C) "type" := ⟨_, hC, rfl⟩
  refine codeAny_of_tree ?_
  show wpAny _ _ (callAny (.ref C) _) _ _ _
  repeat (any_goals (first | assumption | with_reducible refine wpAny_loadPart_at hC ?_ | wp_step))
  refine ⟨rfl, codeAny_call_builtin_at (Code.quiet_builtin _ (by decide +kernel)) entry_typeCall (xk_check_call hC (xk_type_call B hT hC hi hb hrest (codeAny_mono hq fun r s' z => ?_)))⟩
  rcases r with e | (v | _ | _ | _) <;> exact z
end
section
variable {X : Cx} {CX : CXT} {k : Nat} {fI C : Addr} {fd : FuncData} {ps : List Str} {sp : Sp} {E : XK} {nB newId iB initId : String} {tl : List Value}
/-- C(..) as a value -/
theorem gn_makeX {pins : List (Addr × Obj)} {σ : St} {H : Hp} {s : Shared} {Q : VK} {us as : List Value} {kw : List (Str × Value)} {vs : List V} (B : XB nB newId iB initId tl) (T : OxC X.K newId tl C)
    (iC : findIn X.K (.ref C) "__init__" = some (some (.ref fI))) (tI : typeIn X.K (.ref fI) = some (.type "function")) (G : GnOk X.prog X.w X.K X.mg X.base CX k fI fd ps sp) (hr : Rm (k + 1) X.A) (hx : Passes CX X (fun _ _ _ => False)) (hl : as.length ≤ sizeLine)
    (hb : ∀ (s' : Shared) (x : Value), X.K.In s'.heap → BindsTo s' fd ⟨x :: as, kw⟩ (ps.zip (x :: us))) (J : Inv X pins σ H s) (r : Vals vs us)
    (h : ∀ x, H x = none → sp (.ref x :: vs) (upd H x (exo x C none)) (fun v H2 => v = .non ∧ Q (.ref x) H2) (fun _ _ _ => False)) : wpAny (model X.prog X.w) X.A (call (.ref C) as kw) (EP X pins σ Q) X.xe s := by
  obtain ⟨nm, N, qn, bs, bm, hd, sn, sub, ab, col, dd, k0, k1, k2, k3, k5, hC, hT⟩ := excInit_of J.kIn T.ob
  obtain ⟨hp, g, dr, tk, os⟩ := s
  have hsz : hp.objs.size ≤ hp.objs.size + 1 := Nat.le_succ _
  have hn : H (hp.objs.size + 1) = none := J.hok.fresh hsz
  have kk : ∀ b o, hp.get? b = some o → (xNew hp C as).get? b = some o := fun b o z => Heap.get?_push_of_some _ (Heap.get?_push_of_some _ z)
  have hget : (xNew hp C as).get? (hp.objs.size + 1) = some (PySem.HandSPX.excO C hp.objs.size) := by heap_get
  have J2 := J.laid (t' := tk) (a := hp.objs.size + 1) (o := exo (hp.objs.size + 1) C none) (h' := xNew hp C as) kk hsz (exo_ok hget)
  have r2 : Vals (V.ref (hp.objs.size + 1) :: vs) (Value.ref (hp.objs.size + 1) :: us) := .cons rfl r
  refine wpAny_call (xk_call B hT hC (PySem.W.looks_findIn J.kIn iC) (fun self => PySem.W.bind_fn J.kIn self tI) hl
    (codeAny_mono (G.go _ X.stack _ _ ⟨Value.ref (hp.objs.size + 1) :: as, kw⟩ _ _ _ (fun _ _ _ => False) (hr.make C as kw) (J2.env0.make C as kw) (hb _ _ J2.kIn) r2 (h _ hn)) fun r s' z => ?_))
  cases r with
  | error er => exact hx pins σ _ _ er s' J2 z
  | ok fl => cases fl with
    | ret u =>
      obtain ⟨v, H', J3, rv, ev, q3⟩ := J2.after z
      subst ev
      exact ⟨rv, V.ref (hp.objs.size + 1), H', J3, rfl, q3⟩
    | next => exact z.elim
    | brk => exact z.elim
    | cont => exact z.elim
end
section
variable {prog : Program} {w : World} {A : Around} {R : Result → Shared → Prop} {hp : Heap} {g : Array GenState} {d : Drawn} {t : Nat} {os : OsState} {K : Frag} {name : Str} {tk : Tok} {v : Value} {x C dx : Addr} {fv : Array Value} {iB : String} {tl : List Value} {m0 : Str → Option Value} {nl : List Str}
theorem x_set_old (SF : StoreFacts iB tl "object.__setattr__" "object") (X : K.In hp) (hx : hp.get? x = some { cls := .ref C, dict := some dx, data := .fields fv }) (hns : hp.Ns1 dx m0) (hw : Within m0 nl) (hz : nl.length ≤ 1000) (ov : excOver K C tl = true) (hdc : hasDictIn K C = true) (ha : findIn K (.ref C) name = some none)
    (hq : ∀ h' tk', (∀ b o, b ≠ dx → hp.get? b = some o → h'.get? b = some o) → h'.Ns1 dx (fun y => if y = name then some v else m0 y) → R (.ok (.ret .none)) ⟨h', g, d, tk', os⟩) :
    codeAny (model prog w) A (.call (.builtin "object.__setattr__") ⟨[.ref x, .str name tk, v], []⟩) R ⟨hp, g, d, t, os⟩ := by
  obtain ⟨oD, esD, epD, hoD, hdD, _⟩ := hns.count hw
  have I : W.InstAt hp x { cls := .ref C, dict := some dx, data := .fields fv } C (some oD) := ⟨hx, rfl, rfl, hoD⟩
  obtain ⟨cd, hcd, hh⟩ := any_some hdc
  have Lc : W.Looks (model prog w) hp (classData C) cd := W.looks_clsIn X hcd
  refine osa_openX (s := ⟨hp, g, d, t, os⟩) SF X I ov (taker_none ha) fun b => ?_
  show wpAny _ _ (storeInOwnDict (.ref x) (.ref C) (.str name tk) name v b) _ _ _
  obtain ⟨nm, bs, mro, ns, qn, hd, sn, sb, ab, col, del⟩ := cd
  dsimp only at hh
  subst hh
  unfold storeInOwnDict ownDictForStores
  repeat (first
    | with_reducible refine PySem.OEX.store_in_old hns hw hz ?_
    | with_reducible refine wpAny_loadPart_at hx ?_
    | with_reducible refine Lc.at ?_
    | wp_step)
  intro h' tk' hn' hs
  exact hq h' tk' (fun b o hb ho => (hs.2 b hb).trans ho) hn'
end
section
variable {X : Cx} {pins : List (Addr × Obj)} {σ : St} {H : Hp} {s : Shared} {a C dx : Addr} {f : Str} {y : V} {u : Value} {fs : List (Str × V)} {Q : Unit → Shared → Prop} {E : Value → Shared → Prop} {A : Around} {nB newId iB initId : String} {tl : List Value}
/-- self.f = y, a further one -/
theorem x_ost_old (B : XB nB newId iB initId tl) (T : OxC X.K newId tl C) (J : Inv X pins σ H s) (e : H a = some (exo a C (some dx))) (ed : H dx = some (exd dx fs)) (hl : fs.length ≤ 900) (hno : findIn X.K (.ref C) f = some none) (ry : RelV y u)
    (h : ∀ s', Inv X pins σ (upd H dx (exd dx ((f, y) :: fs))) s' → Q () s') : wpAny (model X.prog X.w) A (setAttr (.ref a) f u) Q E s := by
  obtain ⟨t1, ho⟩ := exo_at J.hok e
  obtain ⟨mA, hns, rel⟩ := exd_at J.hok ed
  have hw := within_of rel
  obtain ⟨hp, g, d, t, os⟩ := s
  obtain ⟨oD, _, _, hoD, _, _⟩ := hns.count hw
  refine PySem.W.set_plain J.kIn (od := some oD) ⟨ho, rfl, rfl, hoD⟩ T.sa ?_
  refine x_set_old B.SF J.kIn ho hns hw (by rw [List.length_map]; omega) T.ov T.hd hno fun h' tk' k hn => ?_
  have hd : ∃ o, h'.get? dx = some o := by
    obtain ⟨o, _, _, e', _⟩ := hn
    exact ⟨o, e'⟩
  exact h _ (J.write (t' := tk') (x := dx) (e := dx) (o := exd dx ((f, y) :: fs)) (by rw [ed]; exact True.intro) (.inl rfl) k hd (exd_ok hn (relO_put ry rel)))
end
/-- self.f = e, a further one -/
def tXsO (K : PySem.W.Frag) (newId : String) (tl : List Value) (f : Str) (to te : TE) : TS := fun D σ H => te σ H fun y H1 => to σ H1 fun x H2 => ∃ (a C dx : Addr) (fs : List (Str × V)), x = .ref a ∧ OxC K newId tl C ∧ findIn K (.ref C) f = some none ∧
  H2 a = some (exo a C (some dx)) ∧ H2 dx = some (exd dx fs) ∧ fs.length ≤ 900 ∧ D.nx σ (upd H2 dx (exd dx ((f, y) :: fs)))
theorem ps_xsO {X : Cx} {o e : Expr} {to te : TE} {f : Str} {p' pos : Pos} {nB newId iB initId : String} {tl : List Value} (B : XB nB newId iB initId tl) (ho : PE X o to) (he : PE X e te) (hs : swapsWith e (some (.Attribute o f p')) pos.line X.env = pure false := by rfl) : PS X (.Assign [.Attribute o f p'] e pos) (tXsO X.K newId tl f to te) := by
  refine ⟨fun pins s σ H D J h => plainObj_wpAny_Assign_Attribute (thn (he.run pins s σ H _ J h) fun v s1 ⟨y, H1, J1, r1, q1⟩ => ?_) hs⟩
  refine thn (ho.run pins s1 σ H1 _ J1 q1) fun u s2 ⟨x, H2, J2, r2, a, C, dx, fs, ex, T, hno, ea, ed, hl, q⟩ => ?_
  subst ex
  cases (show u = Value.ref a from r2)
  exact x_ost_old B T J2 ea ed hl hno r1 fun s' J3 => ⟨σ, _, J3, q⟩
/-- what an __init__ of own exceptions keeps: its arguments, in fields -/
def spXs (C : Addr) (fs : List Str) : Sp := fun vs H Q _ => ∃ a ys, vs = .ref a :: ys ∧ ys.length = fs.length ∧ H a = some (exo a C none) ∧ ∀ d, H d = none → d ≠ a → Q .non (upd (upd H d (exd d (fs.zip ys).reverse)) a (exo a C (some d)))
theorem spXs_one {C : Addr} {f : Str} {vs : List V} {H : Hp} {Q : VK} {E : XK} (h : spXs C [f] vs H Q E) : spX C f vs H Q E := by
  obtain ⟨a, ys, e, l, ha, q⟩ := h
  match ys, l with
  | [y], _ => exact ⟨a, y, e, ha, q⟩
section
variable {K : PySem.W.Frag}
/-- __init__(self, p, q): B.__init__(self, 'm'); self.f = p; self.g = q -/
theorem run_xinit2 {X : Cx} {a C : Addr} {f f2 b p p' y : Str} {v v2 : V} {H : Hp} {Q : VK} {nB newId iB initId : String} {tl : List Value} {p1 p2 p3 p4 p5 p6 p7 p8 p9 p0 q7 q8 q9 q0 : Pos} {j : Nat} (B : XB nB newId iB initId tl) (T : OxC X.K newId tl C) (hno : PySem.W.findIn X.K (.ref C) f = some none) (hno2 : PySem.W.findIn X.K (.ref C) f2 = some none)
    (hcall : ∀ ta, PA X [.Name "self" p3, .Constant (.str y) j p4] ta → PE X (.Call (.Attribute (.Name b p1) "__init__" p2) [.Name "self" p3, .Constant (.str y) j p4] [] p5) (tXi X.K newId tl ta)) (hN : X.N = [Str.ofString "self", p, p'])
    (hv0 : Vis X.env.scope "self") (hv1 : Vis X.env.scope p) (hv2 : Vis X.env.scope p') (h1 : (p == ("__debug__" : Str)) = false) (h2 : (p == ("__classdict__" : Str)) = false) (h3 : (p' == ("__debug__" : Str)) = false) (h4 : (p' == ("__classdict__" : Str)) = false)
    (sw1 : swapsWith (.Call (.Attribute (.Name b p1) "__init__" p2) [.Name "self" p3, .Constant (.str y) j p4] [] p5) none p6.line X.env = pure false)
    (sw2 : swapsWith (.Name p p9) (some (.Attribute (.Name "self" p7) f p8)) p0.line X.env = pure false)
    (sw3 : swapsWith (.Name p' q9) (some (.Attribute (.Name "self" q7) f2 q8)) q0.line X.env = pure false)
    (hs : starEach [.Name "self" p3, .Constant (.str y) j p4] X.env = (false, eval (.Name "self" p3) X.env) :: starEach [.Constant (.str y) j p4] X.env)
    (hs2 : starEach [.Constant (.str y) j p4] X.env = (false, eval (.Constant (.str y) j p4) X.env) :: starEach [] X.env)
    (ha : H a = some (exo a C none)) (q : ∀ d, H d = none → d ≠ a → Q .non (upd (upd H d (exd d [(f2, v2), (f, v)])) a (exo a C (some d)))) :
    ∃ t, PSs X [.Expr (.Call (.Attribute (.Name b p1) "__init__" p2) [.Name "self" p3, .Constant (.str y) j p4] [] p5) p6, .Assign [.Attribute (.Name "self" p7) f p8] (.Name p p9) p0, .Assign [.Attribute (.Name "self" q7) f2 q8] (.Name p' q9) q0] t ∧
      t { nx := fun _ H' => Q .non H', rt := Q } (L2.start [Str.ofString "self", p, p'] [.ref a, v, v2]) H := by
  have s0 : X.N[0]? = some (Str.ofString "self") := by rw [hN]; rfl
  have s1 : X.N[1]? = some p := by rw [hN]; rfl
  have s2 : X.N[2]? = some p' := by rw [hN]; rfl
  refine ⟨_, pss_cons (ps_expr (hcall _ (pa_cons (pv 0 s0 hv0 (by decide) (by decide)) (pa_cons pe_str pa_nil hs2) hs)) sw1) (pss_cons (ps_xs B (pv 0 s0 hv0 (by decide) (by decide)) (pv 1 s1 hv1 h1 h2) sw2) (pss_one (ps_xsO B (pv 0 s0 hv0 (by decide) (by decide)) (pv 2 s2 hv2 h3 h4) sw3))), ?_⟩
  refine ⟨_, rfl, ⟨a, C, _, rfl, by simp, T, ha, ?_⟩⟩
  refine ⟨_, rfl, _, rfl, a, C, rfl, T, hno, ha, fun d hd ne => ?_⟩
  refine ⟨_, rfl, _, rfl, a, C, d, _, rfl, T, hno2, upd_same, (by rw [upd_ne ne, upd_same]), (by simp), ?_⟩
  have e : upd (upd (upd H d (exd d [(f, v)])) a (exo a C (some d))) d (exd d [(f2, v2), (f, v)]) = upd (upd H d (exd d [(f2, v2), (f, v)])) a (exo a C (some d)) := by
    funext b
    by_cases hb : b = d
    · subst hb; rw [upd_same, upd_ne ne, upd_same]
    · by_cases hba : b = a
      · subst hba; rw [upd_ne hb, upd_same, upd_same]
      · rw [upd_ne hb, upd_ne hba, upd_ne hb, upd_ne hba, upd_ne hb]
  show Q .non _
  rw [e]
  exact q d hd ne
end
/-- C(e, ..): the exception that comes -/
def tXms (C : Addr) (fs : List Str) (ta : TA) : St → Hp → XK → Prop := fun σ H Q => ta σ H fun ys H1 => ys.length = fs.length ∧ ∀ d, H1 d = none → Q (.ref C) (some d) (upd H1 d (.xd (fs.zip ys).reverse))
theorem pmk_xs {X : Cx} {e : Expr} {es : List Expr} {ta : TA} {x : Str} {p pos : Pos} {nB newId iB initId : String} {tl : List Value} {fs : List Str} {CX : CXT} {C fI : Addr} {k : Nat} {fd : FuncData} {ps : List Str} (B : XB nB newId iB initId tl) (T : OxC X.K newId tl C) (iC : findIn X.K (.ref C) "__init__" = some (some (.ref fI))) (tI : typeIn X.K (.ref fI) = some (.type "function"))
    (G : GnOk X.prog X.w X.K X.mg X.base CX k fI fd ps (spXs C fs)) (hr : Rm (k + 1) X.A) (hb : Binds X.K fd ps []) (hx : Passes CX X (fun _ _ _ => False)) (hf : fs.length ≤ 1000) (hg : Gl X x) (hm : X.mg x = some (.ref C)) (ha : PA X (e :: es) ta)
    (hdb : (x == ("__debug__" : Str)) = false := by decide) (hs : starEach (e :: es) X.env = (false, eval e X.env) :: starEach es X.env := by rfl) (hpl : (backTo pos (starEach es X.env)).any (·.1) = false := by rfl) : PMk X (.Call (.Name x p) (e :: es) [] pos) (tXms C fs ta) := by
  intro pins s σ H Q J h
  refine wpAny_Call_Name_kw (ld_glob J hg hm ?_ hdb)
  refine PySem.W.callWith_K (h₀ := X.base) J.ok.mod.kin T.kC (thn (ha.run pos pins s σ H _ J h) fun us s1 ⟨vs, H1, J1, r1, hl, q1⟩ => ⟨J1.kIn, ?_⟩) hs hpl
  show wpAny _ _ (call (.ref C) us) _ _ _
  obtain ⟨nm, N, qn, bs, bm, hd, sn, sub, ab, col, dd, k0, k1, k2, k3, k5, hC, hT⟩ := excInit_of J1.kIn T.ob
  obtain ⟨hp, g, dr, tk, os⟩ := s1
  have hsz : hp.objs.size ≤ hp.objs.size + 1 := Nat.le_succ _
  have hn : H1 (hp.objs.size + 1) = none := J1.hok.fresh hsz
  have kk : ∀ b o, hp.get? b = some o → (xNew hp C us).get? b = some o := fun b o z => Heap.get?_push_of_some _ (Heap.get?_push_of_some _ z)
  have hget : (xNew hp C us).get? (hp.objs.size + 1) = some (PySem.HandSPX.excO C hp.objs.size) := by heap_get
  have J2 := J1.laid (t' := tk) (a := hp.objs.size + 1) (o := exo (hp.objs.size + 1) C none) (h' := xNew hp C us) kk hsz (exo_ok hget)
  have r2 : Vals (V.ref (hp.objs.size + 1) :: vs) (Value.ref (hp.objs.size + 1) :: us) := .cons rfl r1
  have q3 : spXs C fs (V.ref (hp.objs.size + 1) :: vs) (upd H1 (hp.objs.size + 1) (exo (hp.objs.size + 1) C none)) (fun v H2 => v = .non ∧ ∃ d fs, H2 (hp.objs.size + 1) = some (exo (hp.objs.size + 1) C (some d)) ∧ H2 d = some (exd d fs) ∧ H1 d = none ∧
      Q (.ref C) (some d) (upd (del H2 (hp.objs.size + 1)) d (.xd fs))) (fun _ _ _ => False) := by
    refine ⟨_, vs, rfl, hl, upd_same, fun d hd ne => ⟨rfl, d, _, upd_same, by rw [upd_ne ne, upd_same], by rwa [upd_ne ne] at hd, ?_⟩⟩
    have hd1 : H1 d = none := by rwa [upd_ne ne] at hd
    refine cast (congrArg (Q (.ref C) (some d)) (funext fun b => ?_)) (q1 d hd1)
    by_cases hb : b = d
    · subst hb; rw [upd_same, upd_same]
    rw [upd_ne hb, upd_ne hb]
    by_cases ha : b = hp.objs.size + 1
    · subst ha; rw [del_same, hn]
    rw [del_ne ha, upd_ne ha, upd_ne hb, upd_ne ha]
  have b2 := hb _ (Value.ref (hp.objs.size + 1) :: us) J2.kIn (by rw [List.append_nil, ← r2.length]; exact G.lens _ _ _ _ q3)
  rw [List.append_nil] at b2
  refine wpAny_call (x_call B hT hC (PySem.W.looks_findIn J1.kIn iC) (fun self => PySem.W.bind_fn J1.kIn self tI) (by rw [← r1.length, hl, sizeLine_eq]; omega)
    (codeAny_mono (G.go _ X.stack _ _ ⟨Value.ref (hp.objs.size + 1) :: us, []⟩ _ _ _ (fun _ _ _ => False) (hr.make C us []) (J2.env0.make C us []) b2 r2 q3) fun r s' z => ?_))
  cases r with
  | error er => exact hx pins σ _ _ er s' J2 z
  | ok fl => cases fl with
    | ret u' =>
      obtain ⟨v, H2, os2, bare2, un2, hok2, rv, ev, d, fs, ea, ed, hd1, q2⟩ := z
      subst ev
      obtain ⟨h2, g2, d2, t2, os'⟩ := s'
      exact ⟨rv, mk_end (raises_own T.exC T.tyC) J1 hsz kk un2 hok2 os2 bare2 ea ed hd1 q2⟩
    | next => exact z.elim
    | brk => exact z.elim
    | cont => exact z.elim
end Dk
namespace Dk
open PySem L2 PySem.Spec
def gg {α : Type} (r : Bool) (l : List α) : List α := if r then l.reverse else l
theorem gg_len {α : Type} {r : Bool} {l : List α} : (gg r l).length = l.length := by
  unfold gg
  split <;> simp
theorem paired_rev : ∀ {xs : List V} {ys : List Value}, Vals xs ys → Vals xs.reverse ys.reverse
  | _, _, .nil => .nil
  | _, _, .cons h r => by
    rw [List.reverse_cons, List.reverse_cons]
    exact Vals.append (paired_rev r) (.cons h .nil)
theorem gg_vals {r : Bool} {vs : List V} {us : List Value} (h : Vals vs us) : Vals (gg r vs) (gg r us) := by
  unfold gg
  split
  · exact paired_rev h
  · exact h
theorem gg_reps {K : PySem.W.Frag} {I : Hp} {r : Bool} {vs : List V} {ds : List D} (h : Reps K I vs ds) : Reps K I (gg r vs) (gg r ds) := by
  unfold gg
  split
  · exact h.reverse
  · exact h
/-- an own class of exceptions whose __init__ stores its arguments in fields; ks: the names as they are written in calls by names (r: turned about) -/
structure CalX (P : Program) (w : World) (K : PySem.W.Frag) (mg : Str → Option Value) (base : Heap) (k : Nat) (x : Str) (C : Addr) (fs ks : List Str) (r : Bool) : Prop where
  ex : ∃ nB newId iB initId tl fI fd ps, XB nB newId iB initId tl ∧ OxC K newId tl C ∧ PySem.W.findIn K (.ref C) "__init__" = some (some (.ref fI)) ∧ PySem.W.typeIn K (.ref fI) = some (.type "function") ∧ GnOk P w K mg base CX0 k fI fd ps (spXs C fs) ∧ Binds K fd ps [] ∧
    (∀ (s : Shared) (x : Value) (ws : List Value), K.In s.heap → ws.length = ks.length → BindsTo s fd ⟨[x], ks.zip ws⟩ (ps.zip (x :: gg r ws))) ∧ mg x = some (.ref C)
  len : ks.length = fs.length
  few : fs.length ≤ 1000
theorem zip_keys2 {α β : Type} : ∀ {fs : List Str} {ys : List α} {ds : List β}, ys.length = fs.length → ds.length = fs.length → (fs.zip ys).map (·.1) = (fs.zip ds).map (·.1)
  | [], _, _, _, _ => by simp
  | f :: fs, y :: ys, d :: ds, h1, h2 => by
    simp only [List.zip_cons_cons, List.map_cons, List.cons.injEq, true_and]
    exact zip_keys2 (by simpa using h1) (by simpa using h2)
theorem zip_reps2 {K : PySem.W.Frag} {I : Hp} : ∀ {fs : List Str} {ys : List V} {ds : List D}, ys.length = fs.length → Reps K I ys ds → Reps K I ((fs.zip ys).map (·.2)) ((fs.zip ds).map (·.2))
  | [], _, _, h, r => by simp; exact .nil
  | f :: fs, y :: ys, d :: ds, h, .cons a b => by
    simp only [List.zip_cons_cons, List.map_cons]
    exact .cons a (zip_reps2 (by simpa using h) b)
section
variable {F : Fx} {X : Cx} {k : Nat} {x : Str} {C : Addr} {fs ks : List Str} {r : Bool} {e : Expr} {es : List Expr} {kws : List Keyword} {te : DT} {ta tk : DAT} {p p2 pos : Pos} {f y : Str}
theorem makeX_run {I H I2 H2 : Hp} {vs : List V} {ds : List D} {Q : VK} (s2 : Stp F.W I H I2 H2) (rs : Reps X.K I2 vs ds) (l : ds.length = fs.length) (q : fin F X.K I H Q (.exc C (some (fs.zip ds).reverse))) :
    ∀ x, H2 x = none → spXs C fs (.ref x :: vs) (upd H2 x (exo x C none)) (fun v H3 => v = .non ∧ Q (.ref x) H3) (fun _ _ _ => False) := fun x hx => by
  have lv : vs.length = fs.length := by rw [rs.length, l]
  refine ⟨x, vs, rfl, lv, upd_same, fun d hd ne => ⟨rfl, ?_⟩⟩
  have hd2 : H2 d = none := by rwa [upd_ne ne] at hd
  have l1 := s2.st.laid hd2 (exd d (fs.zip vs).reverse)
  have hx1 : upd H2 d (exd d (fs.zip vs).reverse) x = none := by rw [upd_ne (Ne.symm ne)]; exact hx
  have l2 := l1.st.laid hx1 (exo x C (some d))
  have e : upd (upd (upd H2 x (exo x C none)) d (exd d (fs.zip vs).reverse)) x (exo x C (some d)) = upd (upd H2 d (exd d (fs.zip vs).reverse)) x (exo x C (some d)) := by
    funext b
    by_cases hb : b = x
    · subst hb; rw [upd_same, upd_same]
    · rw [upd_ne hb, upd_ne hb]
      by_cases hc : b = d
      · subst hc; rw [upd_same, upd_same]
      · rw [upd_ne hc, upd_ne hc, upd_ne hb]
  rw [e]
  refine q _ _ _ ((s2.trans l1).trans l2) (.exc1 upd_same (by rw [upd_ne ne, upd_same]) ?_ ?_)
  · rw [List.map_reverse, List.map_reverse, zip_keys2 lv l]
  · rw [List.map_reverse, List.map_reverse]
    exact ((zip_reps2 lv rs).mono (Same.trans l1.i l2.i)).reverse
/-- C(e, ..) -/
theorem de_mkX (c : CalX X.prog X.w X.K X.mg X.base k x C fs ks r) (hr : Rm (k + 1) X.A) (ha : DA F X (e :: es) ta) (hg : Gl X x := by rfl) (hdb : (x == ("__debug__" : Str)) = false := by decide)
    (he : starEach (e :: es) X.env = (false, eval e X.env) :: starEach es X.env := by rfl) (hpl : (backTo pos (starEach es X.env)).any (·.1) = false := by rfl) :
    DE F X (.Call (.Name x p) (e :: es) [] pos) (fun ρ Q => ta ρ fun ds => ds.length = fs.length ∧ Q (.exc C (some (fs.zip ds).reverse))) := by
  obtain ⟨nB, newId, iB, initId, tl, fI, fd, ps, B, T, iC, tI, G, hb, hk, hm⟩ := c.ex
  refine ⟨fun ρ Q Q' k h => ha.mono _ _ _ (fun d h => ⟨h.1, k _ h.2⟩) h, ⟨fun pins s σ H Q J ⟨I, ρ, A, h⟩ => ?_⟩⟩
  refine wpAny_Call_Name_kw (ld_glob J hg hm ?_ hdb)
  have run : rdA F X.K ta σ H fun vs H1 => vs.length = fs.length ∧ ∀ x, H1 x = none → spXs C fs (.ref x :: vs) (upd H1 x (exo x C none)) (fun v H3 => v = .non ∧ Q (.ref x) H3) (fun _ _ _ => False) :=
    rdA_next ha.mono A h fun ds vs I1 H1 q s1 rs => ⟨by rw [rs.length]; exact q.1, makeX_run s1 rs q.1 q.2⟩
  refine PySem.W.callWith_K (h₀ := X.base) J.ok.mod.kin T.kC (thn (ha.run.run pos pins s σ H _ J run) fun us s1 ⟨vs, H1, J1, r, l, q⟩ => ⟨J1.kIn, ?_⟩) he hpl
  refine gn_makeX B T iC tI G hr pass0 (by show us.length ≤ sizeLine; rw [← r.length, l, sizeLine_eq]; have := c.few; omega) (fun s' x hk => ?_) J1 r q
  have b := hb s' (x :: us) hk (by rw [List.append_nil, List.length_cons, ← r.length, ← List.length_cons (a := V.ref 0)]; exact G.lens (V.ref 0 :: vs) (upd (fun _ => none) 0 (exo 0 C none)) (fun _ _ => True) (fun _ _ _ => False) ⟨0, vs, rfl, l, upd_same, fun _ _ _ => trivial⟩)
  simpa using b
/-- C(k = e, ..) -/
theorem de_mkXk (c : CalX X.prog X.w X.K X.mg X.base k x C fs ks r) (hr : Rm (k + 1) X.A) (hk : DKw F X kws tk) (hg : Gl X x := by rfl) (hdb : (x == ("__debug__" : Str)) = false := by decide)
    (hall : (backToKw pos (keywordEach kws X.env)).all (·.1.isSome) = true := by rfl) (hks : (backToKw pos (keywordEach kws X.env)).filterMap (·.1) = ks := by rfl)
    (hpl : ((backTo pos (starEach [] X.env)).any (·.1) || (backToKw pos (keywordEach kws X.env)).any (·.1.isNone)) = false := by rfl) :
    DE F X (.Call (.Name x p) [] kws pos) (fun ρ Q => tk ρ fun ds => ds.length = fs.length ∧ Q (.exc C (some (fs.zip (gg r ds)).reverse))) := by
  obtain ⟨nB, newId, iB, initId, tl, fI, fd, ps, B, T, iC, tI, G, hb, hn, hm⟩ := c.ex
  refine ⟨fun ρ Q Q' k h => hk.mono _ _ _ (fun d h => ⟨h.1, k _ h.2⟩) h, ⟨fun pins s σ H Q J ⟨I, ρ, A, h⟩ => ?_⟩⟩
  refine wpAny_Call_Name_kw (ld_glob J hg hm ?_ hdb)
  have run : rdA F X.K tk σ H fun vs H1 => vs.length = fs.length ∧ ∀ x, H1 x = none → spXs C fs (.ref x :: gg r vs) (upd H1 x (exo x C none)) (fun v H3 => v = .non ∧ Q (.ref x) H3) (fun _ _ _ => False) :=
    rdA_next hk.mono A h fun ds vs I1 H1 q s1 rs => ⟨by rw [rs.length]; exact q.1, makeX_run s1 (gg_reps rs) (by rw [gg_len]; exact q.1) q.2⟩
  refine PySem.W.callWith_KW0 (h₀ := X.base) J.ok.mod.kin T.kC hall ?_ hpl
  refine thn (hk.run.run pos pins s σ H _ J run) fun us s1 ⟨vs, H1, J1, rz, l, q⟩ => ⟨J1.kIn, ?_⟩
  rw [hks]
  exact gn_makeX (as := []) B T iC tI G hr pass0 (by simp) (fun s' x hkk => hn s' x us hkk (by rw [← rz.length, l, c.len])) J1 (gg_vals rz) q
/-- C('text'), no __init__ of its own -/
theorem de_mkN (c : CalN X.K X.mg x C) (he : DE F X e te) (hg : Gl X x := by rfl) (hdb : (x == ("__debug__" : Str)) = false := by decide) (hs : starEach [e] X.env = (false, eval e X.env) :: starEach [] X.env := by rfl) :
    DE F X (.Call (.Name x p) [e] [] pos) (fun ρ Q => te ρ fun _ => Q (.exc C none)) := by
  obtain ⟨B, newId, initId, bmB, G, q, hm, kC, sb, ty⟩ := c.ex
  refine ⟨fun ρ Q Q' k h => he.mono _ _ _ (fun d h => k _ h) h, (pe_exc1 G q hm kC hg he.run hs hdb).imp fun σ H Q ⟨I, ρ, A, h⟩ => rdE_next he.mono A h fun d v I1 H1 q s1 rv a ha => ?_⟩
  have l := s1.st.laid ha (ExO (.ref C) a)
  exact q _ _ _ (s1.trans l) (.exc0 upd_same)
/-- raise C(e, ..) -/
theorem dmk_X (c : CalX X.prog X.w X.K X.mg X.base k x C fs ks r) (hr : Rm (k + 1) X.A) (ha : DA F X (e :: es) ta) (hg : Gl X x := by rfl) (hdb : (x == ("__debug__" : Str)) = false := by decide)
    (he : starEach (e :: es) X.env = (false, eval e X.env) :: starEach es X.env := by rfl) (hpl : (backTo pos (starEach es X.env)).any (·.1) = false := by rfl) :
    DMk F X (.Call (.Name x p) (e :: es) [] pos) (fun ρ Q => ta ρ fun ds => ds.length = fs.length ∧ Q ⟨.ref C, (fs.zip ds).reverse⟩) := by
  obtain ⟨nB, newId, iB, initId, tl, fI, fd, ps, B, T, iC, tI, G, hb, hn, hm⟩ := c.ex
  refine ⟨fun ρ Q Q' k h => ha.mono _ _ _ (fun d h => ⟨h.1, k _ h.2⟩) h, (pmk_xs B T iC tI G hr hb pass0 c.few hg hm ha.run hdb he hpl).imp fun σ H Q ⟨I, ρ, A, h⟩ => ?_⟩
  refine rdA_next ha.mono A h fun ds vs I1 H1 q s rs => ⟨by rw [rs.length]; exact q.1, fun dd hd => ?_⟩
  have lv : vs.length = fs.length := by rw [rs.length]; exact q.1
  have l := s.st.laid hd (.xd (fs.zip vs).reverse)
  refine q.2 _ _ _ _ (s.trans l) ⟨rfl, .inr ⟨dd, _, rfl, upd_same, ?_, ?_⟩⟩
  · rw [List.map_reverse, List.map_reverse, zip_keys2 lv q.1]
  · rw [List.map_reverse, List.map_reverse]
    exact ((zip_reps2 lv rs).mono l.i).reverse
end
def ExcAt (H : Hp) (a C : Addr) : Prop := H a = some (ExO (.ref C) a) ∨ ∃ dx fs, H a = some (exo a C (some dx)) ∧ H dx = some (exd dx fs)
theorem Rep.excAt {K : PySem.W.Frag} {I H : Hp} {v : V} {C : Addr} {fs : Option (List (Str × D))} (h : Rep K I v (.exc C fs)) (s : Same I H) : ∃ a, v = .ref a ∧ ExcAt H a C := by
  cases h with
  | exc0 h => exact ⟨_, rfl, .inl (s _ _ h)⟩
  | exc1 h h2 k r => exact ⟨_, rfl, .inr ⟨_, _, s _ _ h, s _ _ h2⟩⟩
section
variable {F : Fx} {X : Cx} {a C : Addr} {pins : List (Addr × Obj)} {σ : St} {H : Hp} {s : Shared} {e : Expr} {te : DT} {f : Str} {pos q1 : Pos}
theorem exc_inst (J : Inv X pins σ H s) (h : ExcAt H a C) : ∃ oe od, PySem.W.InstAt s.heap a oe C od := by
  rcases h with h | ⟨dx, fs, h, h2⟩
  · have x : ObjOk X.prog X.w H s.heap a (ExO (.ref C) a) := J.hok a _ h
    obtain ⟨oe, vs, ho, hz, hd, _⟩ := x.1
    exact ⟨oe, none, ho, hz.1, by unfold PySem.W.notCls; rw [hd] <;> rfl, by rw [hz.2]; trivial⟩
  · obtain ⟨t1, ho⟩ := exo_at J.hok h
    obtain ⟨mA, hns, _⟩ := exd_at J.hok h2
    obtain ⟨od, hod, _⟩ := lookIn_ns hns
    exact ⟨_, some od, ho, rfl, rfl, hod⟩
theorem x_kit2 {K : PySem.W.Frag} {D : Addr} {oe : Obj} (T : XiC K D) (od : Option Obj) : PySem.W.KitX K (.ref a) (.ref D) (fun h => PySem.W.InstAt h a oe D od) := by
  obtain ⟨cd, hc, _⟩ := PySem.W.any_some T.hd
  exact PySem.W.kitx_exc (by rw [hc]; rfl) T.hg T.hk T.hs T.ha T.hn T.ht T.hm
def rIsD (K : PySem.W.Frag) : List V → Hp → VK → Prop := fun xs H Q => ∃ (a D : Addr) (c : V) (cv : Value) (b : Bool), xs = [.ref a, c] ∧ ClsV c cv ∧ ExcAt H a D ∧ XiC K D ∧ PySem.W.kitOne K (.ref D) cv = some b ∧ Q (.bl b) H
theorem call_isD : CallR X (.builtin "isinstance") (rIsD X.K) := by
  rintro pins s σ H xs us Q J r ⟨a, D, c, cv, b, rfl, k, ea, T, e, q⟩
  obtain ⟨u1, u2, rfl, r1, r2⟩ := vals2 r
  cases (show u1 = Value.ref a from r1)
  cases k.eq r2
  obtain ⟨oe, od, i⟩ := exc_inst J ea
  exact PySem.W.kia_one (x_kit2 T od) J.kIn i e (fun z => nomatch z) fun tk => ⟨.bl b, H, J.tok tk, rfl, q⟩
/-- isinstance(e, C) of an own exception -/
theorem de_isD {c : V} {u : Value} {ce : Expr} (hm : X.mg "isinstance" = none) (he : DE F X e te) (hc : PE X ce (tC c)) (k : ClsV c u) (hg : Gl X "isinstance" := by rfl)
    (h1 : starEach [e, ce] X.env = (false, eval e X.env) :: starEach [ce] X.env := by rfl) (h2 : starEach [ce] X.env = (false, eval ce X.env) :: starEach [] X.env := by rfl) (hpl : (backTo pos (starEach [ce] X.env)).any (·.1) = false := by rfl) :
    DE F X (.Call (.Name "isinstance" q1) [e, ce] [] pos) (fun ρ Q => te ρ fun z => ∃ D fs b, z = .exc D fs ∧ XiC X.K D ∧ PySem.W.kitOne X.K (.ref D) u = some b ∧ Q (.bl b)) := by
  refine ⟨fun ρ Q Q' k h => he.mono _ _ _ (fun z ⟨D, fs, b, e, t, ki, q⟩ => ⟨D, fs, b, e, t, ki, k _ q⟩) h, (pe_callB call_isD hg hm (by decide +kernel) (pa_cons he.run (pa_cons hc pa_nil h2) h1) (by decide) (by decide) h1 hpl).imp fun σ H Q ⟨I, ρ, A, h⟩ => ?_⟩
  refine rdE_next he.mono A h fun z v I1 H1 q1 s1 rv => ?_
  obtain ⟨D, fs, b, rfl, T, ki, q1⟩ := q1
  obtain ⟨a, rfl, ea⟩ := rv.excAt s1.st.sub
  exact ⟨a, D, c, u, b, rfl, k, ea, T, ki, q1 _ _ _ s1 (.bl b)⟩
/-- e.f -/
theorem pe_xfd {te : TE} {e : Expr} {n : Str} (he : PE X e te) (hb : attributeBase e n X.env (eval e X.env) = eval e X.env := by rfl) :
    PE X (.Attribute e n pos) (fun σ H Q => te σ H fun x H1 => ∃ (a C dx : Addr) (fs : List (Str × V)) (v : V), x = .ref a ∧ XfC X.K C ∧ PySem.W.findIn X.K (.ref C) n = some none ∧ H1 a = some (exo a C (some dx)) ∧ H1 dx = some (exd dx fs) ∧ fs.lookup n = some v ∧ Q v H1) := by
  refine ⟨fun pins s σ H Q I h => ?_⟩
  refine attr_of hb (thn (he.run pins s σ H _ I h) fun u s1 hh => ?_)
  obtain ⟨x, H1, I1, rx, a, C, dx, fs, v, ex, T, hno, ea, ed, l, q⟩ := hh
  subst ex
  obtain rfl : u = Value.ref a := rx
  obtain ⟨t1, ho⟩ := exo_at I1.hok ea
  obtain ⟨mA, hns, hr⟩ := exd_at I1.hok ed
  obtain ⟨od, hod, hl⟩ := lookIn_ns hns
  obtain ⟨u, hu, ru⟩ := RelO.some_of (v := v) (o := mA n) (by rw [← l]; exact hr n)
  have J : PySem.W.InstAt s1.heap a _ C (some od) := ⟨ho, rfl, rfl, hod⟩
  exact HandSPX.exc_get I1.kIn J T.ga T.gg T.exC (PySem.W.findObj_own T.hdC hno rfl (by rw [hl, hu])) (handed_of ru) ⟨v, H1, I1.tok _, ru, q⟩
def xfldD (K : PySem.W.Frag) (f : Str) (d : D) (Q : D → Prop) : Prop := ∃ C fs y, d = .exc C (some fs) ∧ XfC K C ∧ PySem.W.findIn K (.ref C) f = some none ∧ fs.lookup f = some y ∧ Q y
theorem de_xfd (he : DE F X e te) (hb : attributeBase e f X.env (eval e X.env) = eval e X.env := by rfl) : DE F X (.Attribute e f pos) (fun ρ Q => te ρ fun d => xfldD X.K f d Q) := by
  refine ⟨fun ρ Q Q' k q => he.mono _ _ _ (fun d ⟨C, fs, y, e, t, n, l, q⟩ => ⟨C, fs, y, e, t, n, l, k _ q⟩) q, (pe_xfd he.run hb).imp fun σ H Q ⟨I, ρ, A, q⟩ => rdE_next he.mono A q fun d v I1 H1 q1 s rv => ?_⟩
  obtain ⟨C, fs, y, rfl, t, n, l, q1⟩ := q1
  cases rv with
  | exc1 h h2 kk r =>
    obtain ⟨w, h3, h4⟩ := lookup_rep kk r l
    exact ⟨_, C, _, _, w, rfl, t, n, s.st.sub _ _ h, s.st.sub _ _ h2, h3, q1 _ _ _ s h4⟩
end
end Dk
namespace KB
open PySem L2 Dk
open PyProof.Rows (envOfC)
def top (i : Nat) : Stmt := PySem.Challenge.pw_dressedkinds_k06_refusals_made.main.body.getD i (.Pass ⟨0, 0, 0, 0⟩)
abbrev s__law_kinds_of : Stmt := top 28
theorem sc__law_kinds_of : FnScope ["_law_e", "_law_some"] ["_law_e"] (defScope s__law_kinds_of) := ⟨rfl, rfl, rfl, by decide +kernel, rfl, by decide +kernel, by decide +kernel⟩
theorem bd__law_kinds_of (kV doc pm : Value) (an : Option Addr) (cdv ct : Value) (us : List Value) (hl : us.length = 1) : bindArgs (PySem.W.fnOf "_law_kinds_of" "_law_kinds_of" (defArgs s__law_kinds_of) (defBody s__law_kinds_of) (defScope s__law_kinds_of) .none kV doc pm an cdv ct) ⟨us, []⟩ = pure ((["_law_e"] : List Str).zip us) := by
  match us, hl with
  | [v0], _ => rfl
abbrev s__law_above : Stmt := top 29
theorem sc__law_above : FnScope ["_law_e"] ["_law_e"] (defScope s__law_above) := ⟨rfl, rfl, rfl, by decide +kernel, rfl, by decide +kernel, by decide +kernel⟩
theorem bd__law_above (kV doc pm : Value) (an : Option Addr) (cdv ct : Value) (us : List Value) (hl : us.length = 1) : bindArgs (PySem.W.fnOf "_law_above" "_law_above" (defArgs s__law_above) (defBody s__law_above) (defScope s__law_above) .none kV doc pm an cdv ct) ⟨us, []⟩ = pure ((["_law_e"] : List Str).zip us) := by
  match us, hl with
  | [v0], _ => rfl
abbrev s__law_made : Stmt := top 30
theorem sc__law_made : FnScope ["_law_one", "_law_two", "_law_found"] ["_law_one", "_law_two"] (defScope s__law_made) := ⟨rfl, rfl, rfl, by decide +kernel, rfl, by decide +kernel, by decide +kernel⟩
theorem bd__law_made (kV doc pm : Value) (an : Option Addr) (cdv ct : Value) (us : List Value) (hl : us.length = 2) : bindArgs (PySem.W.fnOf "_law_made" "_law_made" (defArgs s__law_made) (defBody s__law_made) (defScope s__law_made) .none kV doc pm an cdv ct) ⟨us, []⟩ = pure ((["_law_one", "_law_two"] : List Str).zip us) := by
  match us, hl with
  | [v0, v1], _ => rfl
abbrev s__law_named : Stmt := top 31
theorem sc__law_named : FnScope ["_law_one", "_law_two", "_law_found"] ["_law_one", "_law_two"] (defScope s__law_named) := ⟨rfl, rfl, rfl, by decide +kernel, rfl, by decide +kernel, by decide +kernel⟩
theorem bd__law_named (kV doc pm : Value) (an : Option Addr) (cdv ct : Value) (us : List Value) (hl : us.length = 2) : bindArgs (PySem.W.fnOf "_law_named" "_law_named" (defArgs s__law_named) (defBody s__law_named) (defScope s__law_named) .none kV doc pm an cdv ct) ⟨us, []⟩ = pure ((["_law_one", "_law_two"] : List Str).zip us) := by
  match us, hl with
  | [v0, v1], _ => rfl
abbrev s__law_fields : Stmt := top 32
theorem sc__law_fields : FnScope ["_law_rows", "_law_found"] ["_law_rows"] (defScope s__law_fields) := ⟨rfl, rfl, rfl, by decide +kernel, rfl, by decide +kernel, by decide +kernel⟩
theorem bd__law_fields (kV doc pm : Value) (an : Option Addr) (cdv ct : Value) (us : List Value) (hl : us.length = 1) : bindArgs (PySem.W.fnOf "_law_fields" "_law_fields" (defArgs s__law_fields) (defBody s__law_fields) (defScope s__law_fields) .none kV doc pm an cdv ct) ⟨us, []⟩ = pure ((["_law_rows"] : List Str).zip us) := by
  match us, hl with
  | [v0], _ => rfl
def fldN : Nat → List Str
  | 4 => ["kind"]
  | 5 => ["row"]
  | 6 => ["row"]
  | 7 => ["most"]
  | 8 => ["kind"]
  | 9 => ["row"]
  | 10 => ["thing"]
  | 11 => ["row", "what"]
  | 12 => ["bough"]
  | 13 => ["name"]
  | 14 => ["name"]
  | 15 => ["name"]
  | 16 => ["kind"]
  | 17 => ["bough"]
  | _ => []
/-- the classes, numbered as the law numbers them -/
structure TxtX (K : PySem.W.Frag) (cs : Nat → Addr) (ck : Addr) (mg : Str → Option Value) : Prop where
  m_NoBook : mg "NoBook" = some (.ref (cs 0))
  m_NoText : mg "NoText" = some (.ref (cs 1))
  m_NoBack : mg "NoBack" = some (.ref (cs 2))
  m_Unlike : mg "Unlike" = some (.ref (cs 3))
  m_Bare : mg "Bare" = some (.ref (cs 4))
  m_NoFun : mg "NoFun" = some (.ref (cs 5))
  m_NoFall : mg "NoFall" = some (.ref (cs 6))
  m_TooLong : mg "TooLong" = some (.ref (cs 7))
  m_NoOrnament : mg "NoOrnament" = some (.ref (cs 8))
  m_NoDress : mg "NoDress" = some (.ref (cs 9))
  m_NoFilling : mg "NoFilling" = some (.ref (cs 10))
  m_Gap : mg "Gap" = some (.ref (cs 11))
  m_NoIndex : mg "NoIndex" = some (.ref (cs 12))
  m_NoName : mg "NoName" = some (.ref (cs 13))
  m_Taken : mg "Taken" = some (.ref (cs 14))
  m_InUse : mg "InUse" = some (.ref (cs 15))
  m_NoKind : mg "NoKind" = some (.ref (cs 16))
  m_NoBough : mg "NoBough" = some (.ref (cs 17))
  m_KindError : mg "KindError" = some (.ref ck)
  b_ValueError : mg "ValueError" = none
  b_KeyError : mg "KeyError" = none
  b_isinstance : mg "isinstance" = none
  xi : ∀ i, i < 18 → XiC K (cs i)
  kk : ∀ i j, i < 18 → j < 18 → PySem.W.kitOne K (.ref (cs i)) (.ref (cs j)) = some (j == i)
  kd : ∀ i, i < 18 → PySem.W.kitOne K (.ref (cs i)) (.ref ck) = some (decide (i < 16))
  kv : ∀ i, i < 18 → PySem.W.kitOne K (.ref (cs i)) (.type "ValueError") = some (decide (i < 16))
  ke : ∀ i, i < 18 → PySem.W.kitOne K (.ref (cs i)) (.type "KeyError") = some (decide (15 < i))
  nf : ∀ i, i < 18 → ∀ f ∈ fldN i, PySem.W.findIn K (.ref (cs i)) f = some none
def spKindsOf (cs : Nat → Addr) : DSp := ⟨1, fun ds Q _ => ∃ i fs, i < 18 ∧ ds = [.exc (cs i) fs] ∧ Q (.lst ((List.range 18).map fun j => .bl (j == i))), fun ds Q E ⟨_, _, _, e, _⟩ => by rw [e]; rfl, fun ds Q Q' E E' k _ ⟨i, fs, l, e, q⟩ => ⟨i, fs, l, e, k _ q⟩⟩
def spAbove (cs : Nat → Addr) : DSp := ⟨1, fun ds Q _ => ∃ i fs, i < 18 ∧ ds = [.exc (cs i) fs] ∧ Q (.lst [.bl (decide (i < 16)), .bl (decide (i < 16)), .bl (decide (15 < i))]), fun ds Q E ⟨_, _, _, e, _⟩ => by rw [e]; rfl, fun ds Q Q' E E' k _ ⟨i, fs, l, e, q⟩ => ⟨i, fs, l, e, k _ q⟩⟩
/-- what the i-th bears, made of one and two -/
def bears (one two : D) (i : Nat) : Option (List (Str × D)) := if i < 4 then none else some ((fldN i).zip [one, two]).reverse
def madeD (cs : Nat → Addr) (one two : D) (n m : Nat) : D := .lst ((List.range' n m).map fun i => .exc (cs i) (bears one two i))
def spMade (cs : Nat → Addr) (n m : Nat) : DSp := ⟨2, fun ds Q _ => ∃ one two, ds = [one, two] ∧ Q (madeD cs one two n m), fun ds Q E ⟨_, _, e, _⟩ => by rw [e]; rfl, fun ds Q Q' E E' k _ ⟨i, fs, e, q⟩ => ⟨i, fs, e, k _ q⟩⟩
def fieldsD (one two : D) : D := .lst (List.replicate 8 one ++ [two] ++ List.replicate 6 one)
def spFields (cs : Nat → Addr) : DSp := ⟨1, fun ds Q _ => ∃ one two, ds = [madeD cs one two 4 14] ∧ Q (fieldsD one two), fun ds Q E ⟨_, _, e, _⟩ => by rw [e]; rfl, fun ds Q Q' E E' k _ ⟨i, fs, e, q⟩ => ⟨i, fs, e, k _ q⟩⟩
theorem add_ll {x y : List D} {n m : Nat} {Q : D → Prop} (hx : x.length = n) (hy : y.length = m) (h : n + m ≤ 100) (q : Q (.lst (x ++ y))) : addD (.lst x) (.lst y) Q :=
  ⟨by rw [hx, hy, sizeLine_eq]; omega, q⟩
theorem fld_at {K : PySem.W.Frag} {cs : Nat → Addr} {ck : Addr} {mg : Str → Option Value} (TX : TxtX K cs ck mg) {one two : D} (i : Nat) (f : Str) (y : D) (hi : i < 18) (h4 : 4 ≤ i) (hf : f ∈ fldN i) (hl : ((fldN i).zip [one, two]).reverse.lookup f = some y) {Q : D → Prop} (q : Q y) :
    ixD (madeD cs one two 4 14) (.int ((i - 4 : Nat) : Int)) fun d => xfldD K f d Q := by
  have e : ((List.range' 4 14).map fun i => D.exc (cs i) (bears one two i))[i - 4]? = some (.exc (cs i) (some ((fldN i).zip [one, two]).reverse)) := by
    rw [List.getElem?_map, List.getElem?_range' (by omega)]
    show some (D.exc (cs (4 + 1 * (i - 4))) (bears one two (4 + 1 * (i - 4)))) = _
    rw [show 4 + 1 * (i - 4) = i from by omega]
    unfold bears
    rw [if_neg (by omega)]
  exact ⟨_, atI_nat e, _, _, _, rfl, (TX.xi i hi).xf, TX.nf i hi f hf, hl, q⟩
section
variable {P : Program} {w : World} {K : PySem.W.Frag} {cs : Nat → Addr} {ck : Addr} {mg : Str → Option Value} {base : Heap} {W : Wd} {k : Nat} {f : Addr} {fd : FuncData}
theorem ok_kinds_of (TX : TxtX K cs ck mg) (Fn : Fun K "_law_kinds_of" "_law_kinds_of" s__law_kinds_of f fd) : GnOk P w K mg base CX0 (k + 1) f fd ["_law_e"] (spD W K (spKindsOf cs)) := by
  refine Fn.okD sc__law_kinds_of rfl fun cdv A outer s H I ds Q Ed E hr h => ?_
  have hu := hr.units
  obtain ⟨i, fs, hi, rfl, q⟩ := h
  refine ⟨_, (dss_cons (ds_set 1 (de_lst (da_cons (de_isD TX.b_isinstance (de_name 0) (cn_o TX.m_NoBook) (.own _)) (da_cons (de_isD TX.b_isinstance (de_name 0) (cn_o TX.m_NoText) (.own _)) (da_cons (de_isD TX.b_isinstance (de_name 0) (cn_o TX.m_NoBack) (.own _)) (da_cons (de_isD TX.b_isinstance (de_name 0) (cn_o TX.m_Unlike) (.own _)) da_nil))))) sc__law_kinds_of.nd)
  (dss_cons (ds_set 1 (de_add (de_name 1) (de_lst (da_cons (de_isD TX.b_isinstance (de_name 0) (cn_o TX.m_Bare) (.own _)) (da_cons (de_isD TX.b_isinstance (de_name 0) (cn_o TX.m_NoFun) (.own _)) (da_cons (de_isD TX.b_isinstance (de_name 0) (cn_o TX.m_NoFall) (.own _)) (da_cons (de_isD TX.b_isinstance (de_name 0) (cn_o TX.m_TooLong) (.own _)) da_nil)))))) sc__law_kinds_of.nd)
  (dss_cons (ds_set 1 (de_add (de_name 1) (de_lst (da_cons (de_isD TX.b_isinstance (de_name 0) (cn_o TX.m_NoOrnament) (.own _)) (da_cons (de_isD TX.b_isinstance (de_name 0) (cn_o TX.m_NoDress) (.own _)) (da_cons (de_isD TX.b_isinstance (de_name 0) (cn_o TX.m_NoFilling) (.own _)) (da_cons (de_isD TX.b_isinstance (de_name 0) (cn_o TX.m_Gap) (.own _)) da_nil)))))) sc__law_kinds_of.nd)
  (dss_cons (ds_set 1 (de_add (de_name 1) (de_lst (da_cons (de_isD TX.b_isinstance (de_name 0) (cn_o TX.m_NoIndex) (.own _)) (da_cons (de_isD TX.b_isinstance (de_name 0) (cn_o TX.m_NoName) (.own _)) (da_cons (de_isD TX.b_isinstance (de_name 0) (cn_o TX.m_Taken) (.own _)) (da_cons (de_isD TX.b_isinstance (de_name 0) (cn_o TX.m_InUse) (.own _)) da_nil)))))) sc__law_kinds_of.nd)
  (dss_one (ds_ret (de_add (de_name 1) (de_lst (da_cons (de_isD TX.b_isinstance (de_name 0) (cn_o TX.m_NoKind) (.own _)) (da_cons (de_isD TX.b_isinstance (de_name 0) (cn_o TX.m_NoBough) (.own _)) da_nil)))))))))), ?_⟩
  simp only [getD_0, getD_s, set_0, set_s, boolD_bl, intD_int, startD, List.map, List.length_cons, List.length_nil, List.replicate, List.cons_append, List.nil_append, defEnds, wipeD, if_true, if_false, Bool.not_true, Bool.not_false, Bool.false_eq_true]
  repeat (first
    | refine ⟨_, _, _, rfl, TX.xi i hi, TX.kk i _ hi (by decide), ?_⟩
    | refine add_ll rfl rfl (by simp) ?_
    | refine ⟨by decide, ?_⟩)
  exact q
theorem ok_above (TX : TxtX K cs ck mg) (Fn : Fun K "_law_above" "_law_above" s__law_above f fd) : GnOk P w K mg base CX0 (k + 1) f fd ["_law_e"] (spD W K (spAbove cs)) := by
  refine Fn.okD sc__law_above rfl fun cdv A outer s H I ds Q Ed E hr h => ?_
  have hu := hr.units
  obtain ⟨i, fs, hi, rfl, q⟩ := h
  refine ⟨_, (dss_one (ds_ret (de_lst (da_cons (de_isD TX.b_isinstance (de_name 0) (cn_o TX.m_KindError) (.own _)) (da_cons (de_isD TX.b_isinstance (de_name 0) (cn_b (n := "ValueError") TX.b_ValueError) (.ty _)) (da_cons (de_isD TX.b_isinstance (de_name 0) (cn_b (n := "KeyError") TX.b_KeyError) (.ty _)) da_nil)))))), ?_⟩
  simp only [getD_0, getD_s, set_0, set_s, boolD_bl, intD_int, startD, List.map, List.length_cons, List.length_nil, List.replicate, List.cons_append, List.nil_append, defEnds, wipeD, if_true, if_false, Bool.not_true, Bool.not_false, Bool.false_eq_true]
  refine ⟨_, _, _, rfl, TX.xi i hi, TX.kd i hi, ?_⟩
  refine ⟨_, _, _, rfl, TX.xi i hi, TX.kv i hi, ?_⟩
  refine ⟨_, _, _, rfl, TX.xi i hi, TX.ke i hi, ?_⟩
  refine ⟨by decide, ?_⟩
  exact q
theorem ok_made (Fn : Fun K "_law_made" "_law_made" s__law_made f fd) (CN_NoBook : CalN K mg "NoBook" (cs 0)) (CN_NoText : CalN K mg "NoText" (cs 1)) (CN_NoBack : CalN K mg "NoBack" (cs 2)) (CN_Unlike : CalN K mg "Unlike" (cs 3)) (CX_Bare : CalX P w K mg base k "Bare" (cs 4) ["kind"] ["kind"] false) (CX_NoFun : CalX P w K mg base k "NoFun" (cs 5) ["row"] ["row"] false) (CX_NoFall : CalX P w K mg base k "NoFall" (cs 6) ["row"] ["row"] false) (CX_TooLong : CalX P w K mg base k "TooLong" (cs 7) ["most"] ["most"] false) (CX_NoOrnament : CalX P w K mg base k "NoOrnament" (cs 8) ["kind"] ["kind"] false) (CX_NoDress : CalX P w K mg base k "NoDress" (cs 9) ["row"] ["row"] false) (CX_NoFilling : CalX P w K mg base k "NoFilling" (cs 10) ["thing"] ["thing"] false) (CX_Gap : CalX P w K mg base k "Gap" (cs 11) ["row", "what"] ["what", "row"] true) (CX_NoIndex : CalX P w K mg base k "NoIndex" (cs 12) ["bough"] ["bough"] false) (CX_NoName : CalX P w K mg base k "NoName" (cs 13) ["name"] ["name"] false) (CX_Taken : CalX P w K mg base k "Taken" (cs 14) ["name"] ["name"] false) (CX_InUse : CalX P w K mg base k "InUse" (cs 15) ["name"] ["name"] false) (CX_NoKind : CalX P w K mg base k "NoKind" (cs 16) ["kind"] ["kind"] false) (CX_NoBough : CalX P w K mg base k "NoBough" (cs 17) ["bough"] ["bough"] false) : GnOk P w K mg base CX0 (k + 2) f fd ["_law_one", "_law_two"] (spD W K (spMade cs 0 18)) := by
  refine Fn.okD sc__law_made rfl fun cdv A outer s H I ds Q Ed E hr h => ?_
  have hu := hr.units
  obtain ⟨one, two, rfl, q⟩ := h
  refine ⟨_, (dss_cons (ds_set 2 (de_lst (da_cons (de_mkN CN_NoBook de_str) (da_cons (de_mkN CN_NoText de_str) (da_cons (de_mkN CN_NoBack de_str) (da_cons (de_mkN CN_Unlike de_str) (da_cons (de_mkX CX_Bare (hr.mono (by omega)) (da_cons (de_name 0) da_nil)) (da_cons (de_mkX CX_NoFun (hr.mono (by omega)) (da_cons (de_name 0) da_nil)) (da_cons (de_mkX CX_NoFall (hr.mono (by omega)) (da_cons (de_name 0) da_nil)) (da_cons (de_mkX CX_TooLong (hr.mono (by omega)) (da_cons (de_name 0) da_nil)) da_nil))))))))) sc__law_made.nd)
  (dss_cons (ds_set 2 (de_add (de_name 2) (de_lst (da_cons (de_mkX CX_NoOrnament (hr.mono (by omega)) (da_cons (de_name 0) da_nil)) (da_cons (de_mkX CX_NoDress (hr.mono (by omega)) (da_cons (de_name 0) da_nil)) (da_cons (de_mkX CX_NoFilling (hr.mono (by omega)) (da_cons (de_name 0) da_nil)) (da_cons (de_mkX CX_Gap (hr.mono (by omega)) (da_cons (de_name 0) (da_cons (de_name 1) da_nil))) (da_cons (de_mkX CX_NoIndex (hr.mono (by omega)) (da_cons (de_name 0) da_nil)) (da_cons (de_mkX CX_NoName (hr.mono (by omega)) (da_cons (de_name 0) da_nil)) da_nil)))))))) sc__law_made.nd)
  (dss_one (ds_ret (de_add (de_name 2) (de_lst (da_cons (de_mkX CX_Taken (hr.mono (by omega)) (da_cons (de_name 0) da_nil)) (da_cons (de_mkX CX_InUse (hr.mono (by omega)) (da_cons (de_name 0) da_nil)) (da_cons (de_mkX CX_NoKind (hr.mono (by omega)) (da_cons (de_name 0) da_nil)) (da_cons (de_mkX CX_NoBough (hr.mono (by omega)) (da_cons (de_name 0) da_nil)) da_nil)))))))))), ?_⟩
  simp only [getD_0, getD_s, set_0, set_s, boolD_bl, intD_int, startD, List.map, List.length_cons, List.length_nil, List.replicate, List.cons_append, List.nil_append, defEnds, wipeD, if_true, if_false, Bool.not_true, Bool.not_false, Bool.false_eq_true]
  repeat (first
    | refine add_ll rfl rfl (by simp) ?_
    | refine ⟨trivial, ?_⟩
    | refine ⟨by decide, ?_⟩)
  exact q
theorem ok_named (Fn : Fun K "_law_named" "_law_named" s__law_named f fd) (CX_Bare : CalX P w K mg base k "Bare" (cs 4) ["kind"] ["kind"] false) (CX_NoFun : CalX P w K mg base k "NoFun" (cs 5) ["row"] ["row"] false) (CX_NoFall : CalX P w K mg base k "NoFall" (cs 6) ["row"] ["row"] false) (CX_TooLong : CalX P w K mg base k "TooLong" (cs 7) ["most"] ["most"] false) (CX_NoOrnament : CalX P w K mg base k "NoOrnament" (cs 8) ["kind"] ["kind"] false) (CX_NoDress : CalX P w K mg base k "NoDress" (cs 9) ["row"] ["row"] false) (CX_NoFilling : CalX P w K mg base k "NoFilling" (cs 10) ["thing"] ["thing"] false) (CX_Gap : CalX P w K mg base k "Gap" (cs 11) ["row", "what"] ["what", "row"] true) (CX_NoIndex : CalX P w K mg base k "NoIndex" (cs 12) ["bough"] ["bough"] false) (CX_NoName : CalX P w K mg base k "NoName" (cs 13) ["name"] ["name"] false) (CX_Taken : CalX P w K mg base k "Taken" (cs 14) ["name"] ["name"] false) (CX_InUse : CalX P w K mg base k "InUse" (cs 15) ["name"] ["name"] false) (CX_NoKind : CalX P w K mg base k "NoKind" (cs 16) ["kind"] ["kind"] false) (CX_NoBough : CalX P w K mg base k "NoBough" (cs 17) ["bough"] ["bough"] false) : GnOk P w K mg base CX0 (k + 2) f fd ["_law_one", "_law_two"] (spD W K (spMade cs 4 14)) := by
  refine Fn.okD sc__law_named rfl fun cdv A outer s H I ds Q Ed E hr h => ?_
  have hu := hr.units
  obtain ⟨one, two, rfl, q⟩ := h
  refine ⟨_, (dss_cons (ds_set 2 (de_lst (da_cons (de_mkXk CX_Bare (hr.mono (by omega)) (dk_cons (de_name 0) dk_nil)) (da_cons (de_mkXk CX_NoFun (hr.mono (by omega)) (dk_cons (de_name 0) dk_nil)) (da_cons (de_mkXk CX_NoFall (hr.mono (by omega)) (dk_cons (de_name 0) dk_nil)) (da_cons (de_mkXk CX_TooLong (hr.mono (by omega)) (dk_cons (de_name 0) dk_nil)) (da_cons (de_mkXk CX_NoOrnament (hr.mono (by omega)) (dk_cons (de_name 0) dk_nil)) da_nil)))))) sc__law_named.nd)
  (dss_cons (ds_set 2 (de_add (de_name 2) (de_lst (da_cons (de_mkXk CX_NoDress (hr.mono (by omega)) (dk_cons (de_name 0) dk_nil)) (da_cons (de_mkXk CX_NoFilling (hr.mono (by omega)) (dk_cons (de_name 0) dk_nil)) (da_cons (de_mkXk CX_Gap (hr.mono (by omega)) (dk_cons (de_name 1) (dk_cons (de_name 0) dk_nil))) (da_cons (de_mkXk CX_NoIndex (hr.mono (by omega)) (dk_cons (de_name 0) dk_nil)) da_nil)))))) sc__law_named.nd)
  (dss_one (ds_ret (de_add (de_name 2) (de_lst (da_cons (de_mkXk CX_NoName (hr.mono (by omega)) (dk_cons (de_name 0) dk_nil)) (da_cons (de_mkXk CX_Taken (hr.mono (by omega)) (dk_cons (de_name 0) dk_nil)) (da_cons (de_mkXk CX_InUse (hr.mono (by omega)) (dk_cons (de_name 0) dk_nil)) (da_cons (de_mkXk CX_NoKind (hr.mono (by omega)) (dk_cons (de_name 0) dk_nil)) (da_cons (de_mkXk CX_NoBough (hr.mono (by omega)) (dk_cons (de_name 0) dk_nil)) da_nil))))))))))), ?_⟩
  simp only [getD_0, getD_s, set_0, set_s, boolD_bl, intD_int, startD, List.map, List.length_cons, List.length_nil, List.replicate, List.cons_append, List.nil_append, defEnds, wipeD, if_true, if_false, Bool.not_true, Bool.not_false, Bool.false_eq_true]
  repeat (first
    | refine add_ll rfl rfl (by simp) ?_
    | refine ⟨trivial, ?_⟩
    | refine ⟨by decide, ?_⟩)
  exact q
theorem ok_fields (TX : TxtX K cs ck mg) (Fn : Fun K "_law_fields" "_law_fields" s__law_fields f fd) : GnOk P w K mg base CX0 (k + 1) f fd ["_law_rows"] (spD W K (spFields cs)) := by
  refine Fn.okD sc__law_fields rfl fun cdv A outer s H I ds Q Ed E hr h => ?_
  have hu := hr.units
  obtain ⟨one, two, rfl, q⟩ := h
  refine ⟨_, (dss_cons (ds_set 1 (de_lst (da_cons (de_xfd (de_at hu (de_name 0) de_int)) (da_cons (de_xfd (de_at hu (de_name 0) de_int)) (da_cons (de_xfd (de_at hu (de_name 0) de_int)) (da_cons (de_xfd (de_at hu (de_name 0) de_int)) (da_cons (de_xfd (de_at hu (de_name 0) de_int)) (da_cons (de_xfd (de_at hu (de_name 0) de_int)) (da_cons (de_xfd (de_at hu (de_name 0) de_int)) da_nil)))))))) sc__law_fields.nd)
  (dss_cons (ds_set 1 (de_add (de_name 1) (de_lst (da_cons (de_xfd (de_at hu (de_name 0) de_int)) (da_cons (de_xfd (de_at hu (de_name 0) de_int)) (da_cons (de_xfd (de_at hu (de_name 0) de_int)) (da_cons (de_xfd (de_at hu (de_name 0) de_int)) (da_cons (de_xfd (de_at hu (de_name 0) de_int)) (da_cons (de_xfd (de_at hu (de_name 0) de_int)) da_nil)))))))) sc__law_fields.nd)
  (dss_one (ds_ret (de_add (de_name 1) (de_lst (da_cons (de_xfd (de_at hu (de_name 0) de_int)) (da_cons (de_xfd (de_at hu (de_name 0) de_int)) da_nil)))))))), ?_⟩
  simp only [getD_0, getD_s, set_0, set_s, boolD_bl, intD_int, startD, List.map, List.length_cons, List.length_nil, List.replicate, List.cons_append, List.nil_append, defEnds, wipeD, if_true, if_false, Bool.not_true, Bool.not_false, Bool.false_eq_true]
  refine fld_at TX 4 "kind" one (by decide) (by decide) (by decide) rfl ?_
  refine fld_at TX 5 "row" one (by decide) (by decide) (by decide) rfl ?_
  refine fld_at TX 6 "row" one (by decide) (by decide) (by decide) rfl ?_
  refine fld_at TX 7 "most" one (by decide) (by decide) (by decide) rfl ?_
  refine fld_at TX 8 "kind" one (by decide) (by decide) (by decide) rfl ?_
  refine fld_at TX 9 "row" one (by decide) (by decide) (by decide) rfl ?_
  refine fld_at TX 10 "thing" one (by decide) (by decide) (by decide) rfl ?_
  refine ⟨by decide, ?_⟩
  refine fld_at TX 11 "row" one (by decide) (by decide) (by decide) rfl ?_
  refine fld_at TX 11 "what" two (by decide) (by decide) (by decide) rfl ?_
  refine fld_at TX 12 "bough" one (by decide) (by decide) (by decide) rfl ?_
  refine fld_at TX 13 "name" one (by decide) (by decide) (by decide) rfl ?_
  refine fld_at TX 14 "name" one (by decide) (by decide) (by decide) rfl ?_
  refine fld_at TX 15 "name" one (by decide) (by decide) (by decide) rfl ?_
  refine ⟨by decide, ?_⟩
  refine add_ll rfl rfl (by simp) ?_
  refine fld_at TX 16 "kind" one (by decide) (by decide) (by decide) rfl ?_
  refine fld_at TX 17 "bough" one (by decide) (by decide) (by decide) rfl ?_
  refine ⟨by decide, ?_⟩
  refine add_ll rfl rfl (by simp) ?_
  exact q
end
end KB
namespace KB
open PySem L2 Dk
open PyProof.Rows (envOfC)
abbrev s__law_right : Stmt := top 33
theorem sc__law_right : FnScope ["_law_rows", "_law_first", "_law_k", "_law_e", "_law_number", "_law_at"] ["_law_rows", "_law_first"] (defScope s__law_right) := ⟨rfl, rfl, rfl, by decide +kernel, rfl, by decide +kernel, by decide +kernel⟩
theorem bd__law_right (kV doc pm : Value) (an : Option Addr) (cdv ct : Value) (us : List Value) (hl : us.length = 2) : bindArgs (PySem.W.fnOf "_law_right" "_law_right" (defArgs s__law_right) (defBody s__law_right) (defScope s__law_right) .none kV doc pm an cdv ct) ⟨us, []⟩ = pure ((["_law_rows", "_law_first"] : List Str).zip us) := by
  match us, hl with
  | [v0, v1], _ => rfl
def spRightX (cs : Nat → Addr) : DSp := ⟨2, fun ds Q _ => ∃ one two n m, ds = [madeD cs one two n m, .int ((n : Nat) : Int)] ∧ n + m ≤ 18 ∧ Q (.bl true), fun ds Q E ⟨_, _, _, _, e, _⟩ => by rw [e]; rfl, fun ds Q Q' E E' k _ ⟨i, fs, n, m, e, l, q⟩ => ⟨i, fs, n, m, e, l, k _ q⟩⟩
def enumX (cs : Nat → Addr) (one two : D) (n m : Nat) : List D := ((List.range' n m).map fun i => D.exc (cs i) (bears one two i)).mapIdx (fun i d => D.tup [.int (i : Nat), d])
theorem enumX_nth {cs : Nat → Addr} {one two : D} {n m i : Nat} {d : D} {l : List D} (e : d :: l = (enumX cs one two n m).drop i) : i < m ∧ d = .tup [.int (i : Nat), .exc (cs (n + i)) (bears one two (n + i))] ∧ l = (enumX cs one two n m).drop (i + 1) := by
  have hl : (enumX cs one two n m).length = m := by simp [enumX]
  have hi : i < (enumX cs one two n m).length := by
    by_cases hc : i < (enumX cs one two n m).length
    · exact hc
    · rw [List.drop_of_length_le (by omega)] at e; cases e
  rw [List.drop_eq_getElem_cons hi] at e
  obtain ⟨e1, e2⟩ := List.cons.inj e
  refine ⟨by omega, ?_, e2⟩
  rw [e1]
  simp [enumX]
theorem kinds_same : ∀ i, i < 18 → (okE (.lst ((List.range 18).map fun j => .bl (j == i))) && deq (.lst ((List.range 18).map fun j => .bl (j == i))) (.lst ((List.range 18).map fun j => .bl (j == i)))) = true := by decide +kernel
theorem above_same : ∀ i, i < 18 → (okE (.lst [.bl (decide (i < 16)), .bl (decide (i < 16)), .bl (decide (15 < i))]) && deq (.lst [.bl (decide (i < 16)), .bl (decide (i < 16)), .bl (decide (15 < i))]) (.lst [.bl (decide (i < 16)), .bl (decide (i < 16)), .bl (decide (15 < i))])) = true := by decide +kernel
theorem ne_same {d : D} {Q : D → Prop} (h : (okE d && deq d d) = true) (q : Q (.bl false)) : neD d d Q := by
  rw [Bool.and_eq_true] at h
  refine ⟨by unfold canEq; rw [h.1]; simp, ?_⟩
  rw [h.2]
  exact q
section
variable {P : Program} {w : World} {K : PySem.W.Frag} {cs : Nat → Addr} {ck : Addr} {mg : Str → Option Value} {base : Heap} {W : Wd} {k : Nat} {f : Addr} {fd : FuncData}
structure TxtR0 (mg : Str → Option Value) : Prop where
  b_enumerate : mg "enumerate" = none
  b_range : mg "range" = none
  b_isinstance : mg "isinstance" = none
theorem ok_rightX (T : TxtR0 mg) (Fn : Fun K "_law_right" "_law_right" s__law_right f fd) (C__law_kinds_of : Cal P w K mg base CX0 W k "_law_kinds_of" ["_law_e"] (spKindsOf cs)) (C__law_above : Cal P w K mg base CX0 W k "_law_above" ["_law_e"] (spAbove cs)) :
    GnOk P w K mg base CX0 (k + 1) f fd ["_law_rows", "_law_first"] (spD W K (spRightX cs)) := by
  refine Fn.okD sc__law_right rfl fun cdv A outer s H I ds Q Ed E hr h => ?_
  have hu := hr.units
  obtain ⟨one, two, n, m, rfl, l, q⟩ := h
  refine ⟨_, (dss_cons (ds_for PassesOwn.never rfl (di_enum T.b_enumerate (da_cons (de_name 0) da_nil)) (dg_tup (n := 2) rfl (dgs_cons (dg_name 2 sc__law_right.nd) (dgs_cons (dg_name 3 sc__law_right.nd) dgs_nil)))
  (dss_cons (ds_set 4 (de_add (de_name 1) (de_name 2)) sc__law_right.nd)
  (dss_cons (ds_if (dt_c (.ne hu) (de_fn C__law_kinds_of (hr.mono (by omega)) pass0 lets0 (da_cons (de_name 3) da_nil)) (de_lc (own := [("_law_at", 5)]) rfl sc__law_right.nd (di_range1 T.b_range (da_cons de_int da_nil)) (blkOk_by (own := [("_law_at", 5)]) (N := ["_law_rows", "_law_first", "_law_k", "_law_e", "_law_number", "_law_at"]) (sc := defScope s__law_right) (by decide +kernel)) (fun _ _ _ _ _ => (dg_name 5 sc__law_right.nd)) (fun _ _ _ _ _ => dif_nil) (fun _ _ _ _ _ => (de_c (.eq hu) (de_name 5) (de_name 4)))))
  (dss_one (ds_ret de_bl))
  dss_nil)
  (dss_one (ds_if (dt_c (.ne hu) (de_fn C__law_above (hr.mono (by omega)) pass0 lets0 (da_cons (de_name 3) da_nil)) (de_lst (da_cons (de_c .lt (de_name 4) de_int) (da_cons (de_c .lt (de_name 4) de_int) (da_cons (de_c .gt (de_name 4) de_int) da_nil)))))
  (dss_one (ds_ret de_bl))
  dss_nil)))))
  (dss_one (ds_ret de_bl))), ?_⟩
  simp only [getD_0, getD_s, set_0, set_s, boolD_bl, intD_int, startD, List.map, List.length_cons, List.length_nil, List.replicate, List.cons_append, List.nil_append, defEnds, wipeD, if_true, if_false, Bool.not_true, Bool.not_false, Bool.false_eq_true]
  refine ⟨_, rfl, ?_⟩
  refine forD_ind (fun (l : List D) ρ => ∃ (i : Nat) (u2 u3 u4 u5 : Option Ent), l = (enumX cs one two n m).drop i ∧ ρ = [some (.dat (madeD cs one two n m)), some (.dat (.int (n : Nat))), u2, u3, u4, u5]) (fun ρ _ => q) (fun d l ρ R ⟨i, u2, u3, u4, u5, el, e⟩ hR => ?_) _ _ ⟨0, none, none, none, none, rfl, rfl⟩
  subst e
  obtain ⟨hi, ed, el'⟩ := enumX_nth el
  subst ed
  refine ⟨_, rfl, rfl, _, _, rfl, _, _, rfl, rfl, ?_⟩
  simp only [getD_0, getD_s, set_0, set_s, boolD_bl, intD_int, startD, List.map, List.length_cons, List.length_nil, List.replicate, List.cons_append, List.nil_append, defEnds, wipeD, if_true, if_false, Bool.not_true, Bool.not_false, Bool.false_eq_true]
  have hs : n + i < 18 := by omega
  refine ⟨n + i, _, hs, rfl, ?_⟩
  refine ⟨18, rfl, by decide, by decide, by rw [rngD_length, sizeLine_eq]; decide, ?_⟩
  refine lcD_all (fun j : Nat => D.int (0 + (j : Nat))) (fun j => .bl (j == n + i)) (l := List.range 18) (fun j _ R2 S r => ?_) ?_
  · simp only [getD_0, getD_s, set_0, set_s, boolD_bl, intD_int, startD, List.map, List.length_cons, List.length_nil, List.replicate, List.cons_append, List.nil_append, defEnds, wipeD, if_true, if_false, Bool.not_true, Bool.not_false, Bool.false_eq_true]
    rw [eqD_int]
    refine cast (congrArg (fun b => R2 (.bl b)) ?_) r
    rw [Bool.eq_iff_iff]
    simp only [beq_iff_eq, decide_eq_true_eq]
    omega
  refine ne_same (kinds_same _ hs) ?_
  simp only [boolD_bl]
  rw [if_neg (by decide)]
  refine ⟨n + i, _, hs, rfl, ?_⟩
  simp only [getD_0, getD_s, set_0, set_s, boolD_bl, intD_int, startD, List.map, List.length_cons, List.length_nil, List.replicate, List.cons_append, List.nil_append, defEnds, wipeD, if_true, if_false, Bool.not_true, Bool.not_false, Bool.false_eq_true]
  have c1 : decide (((n : Nat) : Int) + (i : Nat) < 16) = decide (n + i < 16) := by
    rw [Bool.eq_iff_iff]
    simp only [decide_eq_true_eq]
    omega
  have c2 : decide ((15 : Int) < ((n : Nat) : Int) + (i : Nat)) = decide (15 < n + i) := by
    rw [Bool.eq_iff_iff]
    simp only [decide_eq_true_eq]
    omega
  have l1 : ∀ {Q : D → Prop}, Q (.bl (decide (n + i < 16))) → ltD (.int (((n : Nat) : Int) + (i : Nat))) (.int 16) Q := fun {Q} h => by
    show Q _
    rw [c1]
    exact h
  have l2 : ∀ {Q : D → Prop}, Q (.bl (decide (15 < n + i))) → gtD (.int (((n : Nat) : Int) + (i : Nat))) (.int 15) Q := fun {Q} h => by
    show Q (.bl (decide ((15 : Int) < ((n : Nat) : Int) + (i : Nat))))
    rw [c2]
    exact h
  refine l1 (l1 (l2 ⟨by decide, ne_same (above_same _ hs) ?_⟩))
  simp only [boolD_bl]
  rw [if_neg (by decide)]
  exact hR _ ⟨i + 1, _, _, _, _, el', rfl⟩
end
end KB
namespace KB
open PySem L2 Dk
open PyProof.Rows (envOfC)
abbrev s__law_raised : Stmt := top 34
theorem sc__law_raised : FnScope ["_law_own_thing", "_law_found", "_law_way", "_law_e"] ["_law_own_thing"] (defScope s__law_raised) := ⟨rfl, rfl, rfl, by decide +kernel, rfl, by decide +kernel, by decide +kernel⟩
theorem bd__law_raised (kV doc pm : Value) (an : Option Addr) (cdv ct : Value) (us : List Value) (hl : us.length = 1) : bindArgs (PySem.W.fnOf "_law_raised" "_law_raised" (defArgs s__law_raised) (defBody s__law_raised) (defScope s__law_raised) .none kV doc pm an cdv ct) ⟨us, []⟩ = pure ((["_law_own_thing"] : List Str).zip us) := by
  match us, hl with
  | [v0], _ => rfl
def raisedD (one : D) : D := .lst [.tup [.str "filling", one], .tup [.str "kind", one, .int 1], .tup [.str "key", .bl true, one], .tup [.str "bough", .bl true, one]]
def spRaised : DSp := ⟨1, fun ds Q _ => ∃ one, ds = [one] ∧ Q (raisedD one), fun ds Q E ⟨_, e, _⟩ => by rw [e]; rfl, fun ds Q Q' E E' k _ ⟨i, e, q⟩ => ⟨i, e, k _ q⟩⟩
/-- which clause takes which -/
structure TxtM (K : PySem.W.Frag) (cs : Nat → Addr) (ck : Addr) : Prop where
  a : PySem.W.exmOne K (.ref (cs 10)) (.ref (cs 10)) = some true
  b1 : PySem.W.exmOne K (.ref (cs 11)) (.ref (cs 10)) = some false
  b2 : PySem.W.exmOne K (.ref (cs 11)) (.ref ck) = some true
  c1 : PySem.W.exmOne K (.ref (cs 16)) (.ref (cs 10)) = some false
  c2 : PySem.W.exmOne K (.ref (cs 16)) (.ref ck) = some false
  c3 : PySem.W.exmOne K (.ref (cs 16)) (.ref (cs 16)) = some true
  d1 : PySem.W.exmOne K (.ref (cs 17)) (.ref (cs 10)) = some false
  d2 : PySem.W.exmOne K (.ref (cs 17)) (.ref ck) = some false
  d3 : PySem.W.exmOne K (.ref (cs 17)) (.ref (cs 16)) = some false
  d4 : PySem.W.exmOne K (.ref (cs 17)) (.ref (cs 17)) = some true
section
variable {P : Program} {w : World} {K : PySem.W.Frag} {cs : Nat → Addr} {ck : Addr} {mg : Str → Option Value} {base : Heap} {W : Wd} {k : Nat} {f : Addr} {fd : FuncData}
theorem ok_raised (T : TxtR0 mg) (TX : TxtX K cs ck mg) (TM : TxtM K cs ck) (Fn : Fun K "_law_raised" "_law_raised" s__law_raised f fd) (CX_NoFilling : CalX P w K mg base k "NoFilling" (cs 10) ["thing"] ["thing"] false) (CX_Gap : CalX P w K mg base k "Gap" (cs 11) ["row", "what"] ["what", "row"] true)
    (CX_NoKind : CalX P w K mg base k "NoKind" (cs 16) ["kind"] ["kind"] false) (CX_NoBough : CalX P w K mg base k "NoBough" (cs 17) ["bough"] ["bough"] false) :
    GnOk P w K mg base CX0 (k + 2) f fd ["_law_own_thing"] (spD W K spRaised) := by
  refine Fn.okD sc__law_raised rfl fun cdv A outer s H I ds Q Ed E hr h => ?_
  have hu := hr.units
  obtain ⟨one, rfl, q⟩ := h
  refine ⟨_, (dss_cons (ds_own 1 da_nil sc__law_raised.nd)
  (dss_cons (ds_for PassesOwn.never rfl (di_range1 T.b_range (da_cons de_int da_nil)) (dg_name 2 sc__law_raised.nd)
  (dss_one (ds_try rfl rfl sc__law_raised.nd takes_none5 letsS_none (fun B' I' W' pn xe u tk le =>
  (dss_cons (ds_if (dt_c (.eq hu) (de_name 2) de_int)
  (dss_one (ds_raise rfl tk le (dmk_X CX_NoFilling (hr.mono (by omega)) (da_cons (de_name 0) da_nil))))
  dss_nil)
  (dss_cons (ds_if (dt_c (.eq hu) (de_name 2) de_int)
  (dss_one (ds_raise rfl tk le (dmk_X CX_Gap (hr.mono (by omega)) (da_cons (de_name 0) (da_cons (de_name 2) da_nil)))))
  dss_nil)
  (dss_cons (ds_if (dt_c (.eq hu) (de_name 2) de_int)
  (dss_one (ds_raise rfl tk le (dmk_X CX_NoKind (hr.mono (by omega)) (da_cons (de_name 0) da_nil))))
  dss_nil)
  (dss_one (ds_raise rfl tk le (dmk_X CX_NoBough (hr.mono (by omega)) (da_cons (de_name 0) da_nil))))))))
  (.as 3 ⟨rfl, by decide, .inl TX.m_NoFilling⟩ rfl rfl (fun B' I' xa oe cls d pn x hz hf er =>
  (dss_one (ds_append 1 (de_tup (da_cons de_str (da_cons (de_xf hz hf er (de_name 3)) da_nil))))))
  (.as 3 ⟨rfl, by decide, .inl TX.m_KindError⟩ rfl rfl (fun B' I' xa oe cls d pn x hz hf er =>
  (dss_one (ds_append 1 (de_tup (da_cons de_str (da_cons (de_xf hz hf er (de_name 3)) (da_cons (de_xf hz hf er (de_name 3)) da_nil)))))))
  (.as 3 ⟨rfl, by decide, .inl TX.m_NoKind⟩ rfl rfl (fun B' I' xa oe cls d pn x hz hf er =>
  (dss_one (ds_append 1 (de_tup (da_cons de_str (da_cons (de_isX hz hf er T.b_isinstance (de_name 3) (cn_b (n := "KeyError") TX.b_KeyError) (.ty _)) (da_cons (de_xf hz hf er (de_name 3)) da_nil)))))))
  (.as 3 ⟨rfl, by decide, .inl TX.m_NoBough⟩ rfl rfl (fun B' I' xa oe cls d pn x hz hf er =>
  (dss_one (ds_append 1 (de_tup (da_cons de_str (da_cons (de_isX hz hf er T.b_isinstance (de_name 3) (cn_b (n := "KeyError") TX.b_KeyError) (.ty _)) (da_cons (de_xf hz hf er (de_name 3)) da_nil)))))))
  .nil)))))))
  (dss_freeze 1
  (dss_one (ds_ret (de_name 1)))))), ?_⟩
  simp only [getD_0, getD_s, set_0, set_s, boolD_bl, intD_int, startD, List.map, List.length_cons, List.length_nil, List.replicate, List.cons_append, List.nil_append, defEnds, wipeD, if_true, if_false, Bool.not_true, Bool.not_false, Bool.false_eq_true]
  refine ⟨Nat.zero_le _, 4, rfl, by decide, by decide, ?_⟩
  rw [show rngD 0 (4 : Int).toNat = [.int 0, .int 1, .int 2, .int 3] from rfl]
  have xf : ∀ i, i < 18 → XfC K (cs i) := fun i hi => (TX.xi i hi).xf
  -- 0
  refine ⟨_, _, DEnds.le.rfl', fun _ _ h => h, ?_⟩
  simp only [getD_0, getD_s, set_0, set_s, boolD_bl, intD_int, startD, List.map, List.length_cons, List.length_nil, List.replicate, List.cons_append, List.nil_append, defEnds, wipeD, if_true, if_false, Bool.not_true, Bool.not_false, Bool.false_eq_true]
  simp only [eqD_int, boolD_bl]
  rw [if_pos (by decide)]
  refine ⟨trivial, true, TM.a, fun _ xa => ?_, fun h => nomatch h⟩
  refine ⟨_, rfl, cs 10, rfl, xf 10 (by decide), TX.nf 10 (by decide) _ (by decide), _, rfl, rfl, one, rfl, (by rw [sizeLine_eq]; decide), (by rw [sizeLine_eq]; simp), ?_⟩
  -- 1
  show forD _ _ _ _ [some (.dat one), some (.own [.tup [.str "filling", one]]), some (.dat (.int 0)), none]
  refine ⟨_, _, DEnds.le.rfl', fun _ _ h => h, ?_⟩
  simp only [getD_0, getD_s, set_0, set_s, boolD_bl, intD_int, startD, List.map, List.length_cons, List.length_nil, List.replicate, List.cons_append, List.nil_append, defEnds, wipeD, if_true, if_false, Bool.not_true, Bool.not_false, Bool.false_eq_true]
  simp only [eqD_int, boolD_bl]
  rw [if_neg (by decide), if_pos (by decide)]
  refine ⟨trivial, false, TM.b1, (fun h => nomatch h), fun _ => ⟨true, TM.b2, fun _ xa => ?_, fun h => nomatch h⟩⟩
  refine ⟨_, rfl, cs 11, rfl, xf 11 (by decide), TX.nf 11 (by decide) _ (by decide), _, rfl, rfl, one, rfl, cs 11, rfl, xf 11 (by decide), TX.nf 11 (by decide) _ (by decide), _, rfl, rfl, .int 1, rfl, (by rw [sizeLine_eq]; decide), (by rw [sizeLine_eq]; simp), ?_⟩
  -- 2
  show forD _ _ _ _ [some (.dat one), some (.own [.tup [.str "filling", one], .tup [.str "kind", one, .int 1]]), some (.dat (.int 1)), none]
  refine ⟨_, _, DEnds.le.rfl', fun _ _ h => h, ?_⟩
  simp only [getD_0, getD_s, set_0, set_s, boolD_bl, intD_int, startD, List.map, List.length_cons, List.length_nil, List.replicate, List.cons_append, List.nil_append, defEnds, wipeD, if_true, if_false, Bool.not_true, Bool.not_false, Bool.false_eq_true]
  simp only [eqD_int, boolD_bl]
  rw [if_neg (by decide), if_neg (by decide), if_pos (by decide)]
  refine ⟨trivial, false, TM.c1, (fun h => nomatch h), fun _ => ⟨false, TM.c2, (fun h => nomatch h), fun _ => ⟨true, TM.c3, fun _ xa => ?_, fun h => nomatch h⟩⟩⟩
  refine ⟨_, rfl, cs 16, true, rfl, TX.xi 16 (by decide), TX.ke 16 (by decide), _, rfl, rfl, cs 16, rfl, xf 16 (by decide), TX.nf 16 (by decide) _ (by decide), _, rfl, rfl, one, rfl, (by rw [sizeLine_eq]; decide), (by rw [sizeLine_eq]; simp), ?_⟩
  -- 3
  show forD _ _ _ _ [some (.dat one), some (.own [.tup [.str "filling", one], .tup [.str "kind", one, .int 1], .tup [.str "key", .bl true, one]]), some (.dat (.int 2)), none]
  refine ⟨_, _, DEnds.le.rfl', fun _ _ h => h, ?_⟩
  simp only [getD_0, getD_s, set_0, set_s, boolD_bl, intD_int, startD, List.map, List.length_cons, List.length_nil, List.replicate, List.cons_append, List.nil_append, defEnds, wipeD, if_true, if_false, Bool.not_true, Bool.not_false, Bool.false_eq_true]
  simp only [eqD_int, boolD_bl]
  rw [if_neg (by decide), if_neg (by decide), if_neg (by decide)]
  refine ⟨trivial, false, TM.d1, (fun h => nomatch h), fun _ => ⟨false, TM.d2, (fun h => nomatch h), fun _ => ⟨false, TM.d3, (fun h => nomatch h), fun _ => ⟨true, TM.d4, fun _ xa => ?_, fun h => nomatch h⟩⟩⟩⟩
  refine ⟨_, rfl, cs 17, true, rfl, TX.xi 17 (by decide), TX.ke 17 (by decide), _, rfl, rfl, cs 17, rfl, xf 17 (by decide), TX.nf 17 (by decide) _ (by decide), _, rfl, rfl, one, rfl, (by rw [sizeLine_eq]; decide), (by rw [sizeLine_eq]; simp), ?_⟩
  exact ⟨_, rfl, trivial, _, rfl, q⟩
end
end KB
namespace KB
open PySem L2 Dk
open PyProof.Rows (envOfC)
abbrev s__law_deck : Stmt := top 25
theorem sc__law_deck : FnScope ["_law_script", "_law_cell"] ["_law_script"] (defScope s__law_deck) := ⟨rfl, rfl, rfl, by decide +kernel, rfl, by decide +kernel, by decide +kernel⟩
theorem bd__law_deck (kV doc pm : Value) (an : Option Addr) (cdv ct : Value) (us : List Value) (hl : us.length = 1) : bindArgs (PySem.W.fnOf "_law_deck" "_law_deck" (defArgs s__law_deck) (defBody s__law_deck) (defScope s__law_deck) .none kV doc pm an cdv ct) ⟨us, []⟩ = pure ((["_law_script"] : List Str).zip us) := by
  match us, hl with
  | [v0], _ => rfl
abbrev s__law_draw : Stmt := top 26
theorem sc__law_draw : FnScope ["_law_deck_here", "_law_own_most", "_law_cell", "_law_number"] ["_law_deck_here", "_law_own_most"] (defScope s__law_draw) := ⟨rfl, rfl, rfl, by decide +kernel, rfl, by decide +kernel, by decide +kernel⟩
theorem bd__law_draw (kV doc pm : Value) (an : Option Addr) (cdv ct : Value) (us : List Value) (hl : us.length = 2) : bindArgs (PySem.W.fnOf "_law_draw" "_law_draw" (defArgs s__law_draw) (defBody s__law_draw) (defScope s__law_draw) .none kV doc pm an cdv ct) ⟨us, []⟩ = pure ((["_law_deck_here", "_law_own_most"] : List Str).zip us) := by
  match us, hl with
  | [v0, v1], _ => rfl
section
variable {P : Program} {w : World} {K : PySem.W.Frag} {mg : Str → Option Value} {base : Heap}
/-- a deck made of the script -/
def spDeck (K : PySem.W.Frag) : Sp := fun vs H Q _ => ∃ (a : Addr) (ns : List Int), vs = [.ref a] ∧ SqL K H a (ns.map V.int) ∧ ns.length ≤ 63 ∧ ∀ p l H', Same H H' → H p = none → H l = none → deckAt p l H' → Q (.ref p) H'
theorem ok_deck {f : Addr} {fd : FuncData} {k : Nat} (Fn : Fun K "_law_deck" "_law_deck" s__law_deck f fd) (mList : mg "list" = none) (mSum : mg "sum" = none) (mLen : mg "len" = none) : FnOk P w K mg base CX0 (k + 1) f fd ["_law_script"] (spDeck K) := by
  refine Fn.ok sc__law_deck (fun vs H Q E h => ?_) (fun cdv A outer s H vs Q E hr h => ?_)
  · obtain ⟨a, ns, rfl, _⟩ := h
    rfl
  obtain ⟨a, ns, rfl, hS, h63, q⟩ := h
  refine ⟨_, pss_one (ps_ret (pe_lst (pa_cons (pe_revL (pe_callTy call_list_of rfl mList (by decide +kernel) (pa_cons (pe_slice sl_list (pv 0) po_none (po_some pe_int)) pa_nil)))
    (pa_cons (pe_op op_add (pe_callB (cr_sum rfl) rfl mSum (by decide +kernel) (pa_cons (pe_lc (own := [("_law_cell", 1)]) (g := gName 1) (tt := tYes) rfl sc__law_deck.nd (pi_list (pe_slice sl_list (pv 0) po_none (po_some pe_int))) (blkOk_by (own := [("_law_cell", 1)]) (N := ["_law_script", "_law_cell"]) (sc := defScope s__law_deck) (by decide +kernel))
        (fun _ _ _ _ _ => pg_name (i := 1) sc__law_deck.nd rfl (Or.inl rfl)) (fun _ _ _ _ _ => pts_nil) (fun _ _ _ _ _ => pe_op op_modN (pv 1) pe_int)) pa_nil))
      (pe_op op_mul pe_int (pe_callB call_len_seq rfl mLen PySem.boot_len (pa_cons (pe_slice sl_list (pv 0) po_none (po_some pe_int)) pa_nil))))
    (pa_cons pe_int pa_nil))))), ?_⟩
  have cut63 : cutV (ns.map V.int) none (some 63) = ns.map V.int := by
    unfold cutV
    rw [HT.sIx_none, List.drop_zero, show HT.sIx (ns.map V.int).length (ns.map V.int).length (some 63) = min 63 (ns.map V.int).length from HT.sIx_nat _ _ 63]
    rw [List.length_map, Nat.min_eq_right h63, Nat.sub_zero, ← List.length_map (f := V.int), List.take_length]
  -- list(script[:63])[::-1]
  refine ⟨_, rfl, 63, rfl, a, _, rfl, hS, fun c nc => ?_⟩
  rw [cut63]
  have s1 : Same H (upd H c (.lst (ns.map V.int))) := Same.laid nc
  refine ⟨c, _, rfl, .inl (.of upd_same), fun d nd => ?_⟩
  have s2 := Same.trans s1 (Same.laid (o := .lst (ns.map V.int)) nd)
  refine ⟨d, _, rfl, .of upd_same, fun l nl => ?_⟩
  have s3 := Same.trans s2 (Same.laid (o := .lst (ns.map V.int).reverse) nl)
  -- sum([cell % 1000003 for cell in script[:63]]) + 7919 * len(script[:63])
  refine ⟨_, rfl, 63, rfl, a, _, rfl, s3.seq hS, fun e ne => ?_⟩
  rw [cut63]
  have s4 := Same.trans s3 (Same.laid (o := .lst (ns.map V.int)) ne)
  refine ⟨e, rfl, ⟨_, .of upd_same⟩, fun D nD => ?_⟩
  generalize hH4 : upd (upd (upd (upd H c (HO.lst (List.map V.int ns))) d (HO.lst (List.map V.int ns))) l (HO.lst (List.map V.int ns).reverse)) e (HO.lst (List.map V.int ns)) = H4 at *
  have e4 : H4 e = some (.lst (ns.map V.int)) := by rw [← hH4]; exact upd_same
  have l4 : H4 l = some (.lst (ns.map V.int).reverse) := by rw [← hH4, upd_ne (ne_of_none upd_same ne)]; exact upd_same
  refine lc_list (K := K) (a := e) (xs := ns.map V.int) (fun i H' => Same H4 H' ∧ H' D = some (.lst ((ns.take i).map fun c => V.int (c.fmod 1000003)))) ⟨Same.laid nD, upd_same⟩ (fun i H' _ h => .of (h.1 _ _ e4)) ?_ ?_
  · intro i x H' hx ⟨sm, hD⟩
    have hi : i < ns.length := by
      have := (List.getElem?_eq_some_iff.mp hx).1
      simpa using this
    have hx' : x = .int ns[i] := by
      rw [List.getElem?_map, List.getElem?_eq_getElem hi] at hx
      exact (Option.some.inj hx).symm
    subst hx'
    refine ⟨rfl, _, rfl, _, _, rfl, rfl, (show (1000003 : Int) ≠ 0 by decide), _, hD, ?_, fun b u eb => ?_, ?_⟩
    · rw [List.length_map, List.length_take]
      exact Nat.lt_of_le_of_lt (Nat.min_le_left _ _) (small1000 (by omega))
    · rw [upd_ne (ne_of_none eb nD)]; exact sm _ _ eb
    · rw [upd_same, List.take_add_one, List.getElem?_eq_getElem hi, List.map_append]
      rfl
  · intro H' ⟨sm, hD⟩
    rw [List.length_map, List.take_length] at hD
    refine ⟨D, ns.map fun c => c.fmod 1000003, rfl, .of (by rw [hD, List.map_map]; rfl), _, rfl, 63, rfl, a, _, rfl, sm.seq (s4.seq hS), fun g ng => ?_⟩
    rw [cut63]
    refine ⟨g, _, rfl, .inl (.of upd_same), _, _, rfl, rfl, (.inl ⟨by decide, by decide⟩), _, _, rfl, rfl, (show 3 ≤ sizeLine by decide), fun p np => ?_⟩
    have s5 : Same H4 (upd (upd H' g (.lst (ns.map V.int))) p (.lst [.ref l, .int ((ns.map fun c => c.fmod 1000003).sum + 7919 * ((ns.map V.int).length : Int)), .int 0])) := Same.trans sm (Same.trans (Same.laid ng) (Same.laid np))
    have np4 : H4 p = none := by
      cases z : H4 p with
      | none => rfl
      | some u => have := Same.trans sm (Same.laid (o := .lst (ns.map V.int)) ng) _ _ z; rw [np] at this; cases this
    refine q p l _ (Same.trans s4 s5) (Same.free s4 np4) (Same.free s2 nl) ⟨ns.reverse, _, 0, upd_same, ?_, by simpa using h63, ?_⟩
    · rw [s5 _ _ l4, List.map_reverse]
    · intro z
      rw [z, l4] at np4
      cases np4
/-- a draw: any number below the most -/
theorem ok_draw {a l : Addr} {f : Addr} {fd : FuncData} {k : Nat} (Fn : Fun K "_law_draw" "_law_draw" s__law_draw f fd) : FnOk P w K mg base CX0 (k + 1) f fd ["_law_deck_here", "_law_own_most"] (spD (DeckW a l) K (spDraw a)) := by
  refine Fn.ok sc__law_draw (fun vs H Q E h => spD_len _ _ _ _ h) (fun cdv A outer s H vs Q E hr h => ?_)
  obtain ⟨I, ds, st, rs, m, rfl, m0, m1, q⟩ := h
  obtain ⟨v1, v2, rfl, r1, r2⟩ := rs.two
  cases r1
  cases r2
  have hu := hr.units
  obtain ⟨ns, sm, t, ha, hl, h63, nal⟩ := deck_of st
  have done : ∀ (v : Int) (ns' : List Int) (sm' t' : Int) (H' : Hp), 0 ≤ v → v < m → ns'.length ≤ 63 → H' a = some (.lst [.ref l, .int sm', .int t']) → H' l = some (.lst (ns'.map V.int)) → (∀ b o, H b = some o → b ≠ a → b ≠ l → H' b = some o) → Q (.int v) H' :=
    fun v ns' sm' t' H' h0 h1 h2 h3 h4 h5 => q v h0 h1 (.int v) I H' (stp_deck st h5 ⟨ns', sm', t', h3, h4, h2, nal⟩) (.int v)
  -- the last three rows
  obtain ⟨t2, d2, r2⟩ : ∃ t2, PSs (cxOf CX0 P w K mg base ["_law_deck_here", "_law_own_most", "_law_cell", "_law_number"] "_law_draw" (defScope s__law_draw) f cdv A outer s H E).nox ((defBody s__law_draw).drop 3) t2 ∧
      ∀ (c : Int) (ns' : List Int) (t' : Int) (H' : Hp), ns'.length ≤ 63 → H' a = some (.lst [.ref l, .int sm, .int t']) → H' l = some (.lst (ns'.map V.int)) → (∀ b o, H b = some o → b ≠ a → b ≠ l → H' b = some o) →
        t2 { nx := fun _ H' => Q .non H', rt := Q } [some (.ref a), some (.int m), some (.int c), none] H' := by
    refine ⟨_, pss_cons (ps_set (i := 3) sc__law_draw.nd rfl (.inl rfl) (pe_op op_mod (pe_op op_mul (pe_op op_add (pe_op op_add (pe_op op_mod (pv 2) pe_int) (pe_op op_mul pe_int (pe_ix ix_list (pv 0) pe_int (fun _ _ => rfl)))) pe_int) pe_int) pe_int))
      (pss_cons (ps_set (i := 3) sc__law_draw.nd rfl (.inl rfl) (pe_op op_mod (pe_op op_add (pe_op op_add (pe_op op_mul (pv 3) (pv 3)) (pe_op op_mul pe_int (pe_ix ix_list (pv 0) pe_int (fun _ _ => rfl)))) pe_int) pe_int))
      (pss_one (ps_ret (pe_op op_mod (pe_op op_fdivW (pe_op op_mod (pe_op op_add (pe_op op_mul (pv 3) (pv 3)) pe_int) pe_int) pe_int) (pv 1))))), fun c ns' t' H' h2 h3 h4 h5 => ?_⟩
    have pos1 : (0 : Int) < 2147483629 := by decide
    refine ⟨_, rfl, _, _, rfl, rfl, pos1, _, rfl, a, _, 2, .int t', rfl, rfl, .of h3, atI_nat (j := 2) rfl, _, _, rfl, rfl, .inl ⟨by decide, by decide⟩, _, _, rfl, rfl, _, _, rfl, rfl, _, _, rfl, rfl, .inr ⟨by decide, by decide⟩, _, _, rfl, rfl, (show (0 : Int) < 2147483647 by decide), ?_⟩
    generalize hx : (c % 2147483629 + 65537 * t' + 11) * 48271 % 2147483647 = x
    have x0 : 0 ≤ x := by rw [← hx]; exact Int.emod_nonneg _ (by decide)
    have x1 : x < 2147483647 := by rw [← hx]; exact Int.emod_lt_of_pos _ (by decide)
    refine ⟨_, rfl, _, rfl, _, _, rfl, rfl, .inl ⟨by omega, by omega⟩, _, rfl, a, _, 2, .int t', rfl, rfl, .of h3, atI_nat (j := 2) rfl, _, _, rfl, rfl, .inl ⟨by decide, by decide⟩, _, _, rfl, rfl, _, _, rfl, rfl, _, _, rfl, rfl, (show (0 : Int) < 2147483587 by decide), ?_⟩
    generalize hy : (x * x + 69621 * t' + 23) % 2147483587 = y
    have y0 : 0 ≤ y := by rw [← hy]; exact Int.emod_nonneg _ (by decide)
    have y1 : y < 2147483587 := by rw [← hy]; exact Int.emod_lt_of_pos _ (by decide)
    refine ⟨_, rfl, _, rfl, _, _, rfl, rfl, .inl ⟨by omega, by omega⟩, _, _, rfl, rfl, _, _, rfl, rfl, (show (0 : Int) < 2147483563 by decide), _, _, rfl, rfl, ⟨by decide, by decide⟩, _, rfl, _, _, rfl, rfl, m0, ?_⟩
    exact done _ ns' sm t' H' (Int.emod_nonneg _ (by omega)) (Int.emod_lt_of_pos _ m0) h2 h3 h4 h5
  refine ⟨_, pss_cons (ps_asg (pe_op op_add (pe_ix ix_list (pv 0) pe_int (fun _ _ => rfl)) pe_int) (pg_sub (pv 0) pe_int set_list))
    (pss_cons (ps_set (i := 2) sc__law_draw.nd rfl (.inl rfl) (pe_ix ix_list (pv 0) pe_int (fun _ _ => rfl)))
    (pss_cons (ps_if (pt_cmpR (op_neD hu) (pe_ix ix_list (pv 0) pe_int (fun _ _ => rfl)) (pe_lst pa_nil) (nomark _))
      (pss_cons (ps_set (i := 2) sc__law_draw.nd rfl (.inl rfl) (pe_bm0 PySem.F.plainAttrs_list PySem.F.slot_list_pop PySem.F.type_list_pop mt_pop (pe_ix ix_list (pv 0) pe_int (fun _ _ => rfl))))
      (pss_one (ps_if (pt_cmpR op_ge (pv 2) (pe_op op_pow pe_int pe_int) (nomark _))
        (pss_cons (ps_expr (pe_bm PySem.F.plainAttrs_list PySem.F.slot_list_append PySem.F.type_list_append mt_append (pe_ix ix_list (pv 0) pe_int (fun _ _ => rfl)) (pa_cons (pe_op op_fdivW (pv 2) (pv 1)) pa_nil)))
        (pss_one (ps_ret (pe_op op_mod (pv 2) (pv 1))))) pss_nil))) pss_nil) d2)), ?_⟩
  -- deck[2] = deck[2] + 1; cell = deck[1]
  refine ⟨_, rfl, a, _, 2, .int t, rfl, rfl, .of ha, atI_nat (j := 2) rfl, _, _, rfl, rfl, _, rfl, a, _, 2, 2, rfl, rfl, ha, rfl, ?_⟩
  refine ⟨_, rfl, a, _, 1, .int sm, rfl, rfl, .of upd_same, atI_nat (j := 1) rfl, ?_⟩
  -- if deck[0] != []
  have hl1 : ∀ o, upd H a o l = some (.lst (ns.map V.int)) := fun o => by rw [upd_ne nal.symm]; exact hl
  refine ⟨_, rfl, a, _, 0, .ref l, rfl, rfl, .of upd_same, atI_nat (j := 0) rfl, Nat.zero_le _, fun p np => ?_⟩
  have npa : a ≠ p := ne_of_none upd_same np
  have npl : l ≠ p := ne_of_none (hl1 _) np
  have ha2 : upd (upd H a (.lst [.ref l, .int sm, .int (t + 1)])) p (.lst []) a = some (.lst [.ref l, .int sm, .int (t + 1)]) := by rw [upd_ne npa, upd_same]
  have hl2 : upd (upd H a (.lst [.ref l, .int sm, .int (t + 1)])) p (.lst []) l = some (.lst (ns.map V.int)) := by rw [upd_ne npl]; exact hl1 _
  have kp2 : ∀ b o, H b = some o → b ≠ a → upd (upd H a (.lst [.ref l, .int sm, .int (t + 1)])) p (.lst []) b = some o := fun b o e nb => by
    have e' : upd H a (.lst [.ref l, .int sm, .int (t + 1)]) b = some o := by rw [upd_ne nb]; exact e
    rw [upd_ne (ne_of_none e' np)]; exact e'
  refine ⟨.list (ns.map .int), .list [], .lst (.of hl2) (dp_ints ns), .lst (.of upd_same) .nil, shaped_ints ns, shaped_ints [], _, rfl, ?_⟩
  rw [eqv_nil]
  refine ite2 (fun hc => ?_) (fun hc => ?_)
  · -- a cell is there
    have hne : ns ≠ [] := by
      rintro rfl
      simp at hc
    obtain ⟨pre, c, rfl⟩ : ∃ pre c, ns = pre ++ [c] := ⟨_, _, (List.dropLast_concat_getLast hne).symm⟩
    have hlen : ((pre ++ [c]).map V.int).length - 1 = pre.length := by simp
    refine ⟨_, rfl, a, _, 0, .ref l, rfl, rfl, .of ha2, atI_nat (j := 0) rfl, .inl ⟨rfl, _, .of hl2⟩, l, _, .int c, rfl, rfl, hl2, ?_, ?_⟩
    · rw [hlen]; simp
    have hd : ((pre ++ [c]).map V.int).dropLast = pre.map V.int := by simp
    rw [hd]
    have ha3 : upd (upd (upd H a (.lst [.ref l, .int sm, .int (t + 1)])) p (.lst [])) l (.lst (pre.map V.int)) a = some (.lst [.ref l, .int sm, .int (t + 1)]) := by rw [upd_ne nal]; exact ha2
    have hpre : pre.length ≤ 62 := by
      have := h63
      simp at this
      omega
    refine ⟨_, rfl, _, _, rfl, rfl, ⟨by decide, by decide, by decide⟩, _, _, rfl, rfl, _, rfl, ?_⟩
    refine ite2 (fun hb => ?_) (fun hb => ?_)
    · -- the rest of it is put back
      refine ⟨_, rfl, a, _, 0, .ref l, rfl, rfl, .of ha3, atI_nat (j := 0) rfl, .inl ⟨rfl, _, .of upd_same⟩, _, rfl, _, rfl, _, _, rfl, rfl, ⟨m0, m1⟩, l, _, _, rfl, rfl, upd_same, ?_, ?_⟩
      · rw [List.length_map]; exact small1000 (by omega)
      · refine ⟨_, rfl, _, rfl, _, _, rfl, rfl, m0, ?_⟩
        refine done _ (pre ++ [c / m]) sm (t + 1) _ (Int.emod_nonneg _ (by omega)) (Int.emod_lt_of_pos _ m0) (by simp; omega) ?_ ?_ fun b o e na nl => ?_
        · rw [upd_ne nal, upd_ne nal]; exact ha2
        · rw [upd_same]; simp
        · rw [upd_ne nl, upd_ne nl]; exact kp2 b o e na
    · exact r2 c pre (t + 1) _ (by omega) ha3 upd_same fun b o e na nl => by rw [upd_ne nl]; exact kp2 b o e na
  · exact r2 sm ns (t + 1) _ h63 ha2 hl2 fun b o e na _ => kp2 b o e na
end
end KB
namespace Dk
open PySem L2 PySem.Spec
section
variable {F : Fx} {X : Cx} {K : PySem.W.Frag} {I H I' H' I2 H2 : Hp} {ρ : DEnv} {σ : St} {e i k v o : Expr} {te ti tk tv to : DT} {x : Str} {p1 pos pos' : Pos} {W : Wd}
theorem de_dict0 : DE F X (.Dict [] [] pos) (fun _ Q => Q (.dic [])) :=
  ⟨fun ρ Q Q' k q => k _ q, pe_dnewK.imp fun σ H Q ⟨I, ρ, A, q⟩ p hp => q _ _ _ (A.st.laid hp _) (.dic upd_same rfl .nil)⟩
end
structure CalMK (P : Program) (w : World) (K : PySem.W.Frag) (mg : Str → Option Value) (base : Heap) (CX : CXT) (W : Wd) (k : Nat) (C : Addr) (m : Str) (ps ks : List Str) (g : {α : Type} → List α → List α → List α) (S : DSp) : Prop where
  ex : ∃ f fd, Cls K C ∧ Meth K C m f ∧ GnOk P w K mg base CX k f fd ps (spD W K S) ∧ KBn K fd ps 1 ks (fun us ws => g us ws) (fun vs zs => g vs zs)
  rel : ∀ {K : PySem.W.Frag} {I : Hp} {us vs : List V} {ds es : List D}, Reps K I us ds → Reps K I vs es → Reps K I (g us vs) (g ds es)
end Dk
namespace KB
open PySem L2 Dk
abbrev Bough := Str × List Str
abbrev Kind := Str × List Bough
def boughD (b : Bough) : D := .tup [.str b.1, .tup (b.2.map D.str)]
def kindD (k : Kind) : D := .tup [.str k.1, .tup (k.2.map boughD)]
def kindsD (ks : List Kind) : D := .tup (ks.map kindD)
def numS : Str := "num"
def signOk (c : Nat) : Bool := decide (97 ≤ c) && decide (c ≤ 122)
def nameOk (x : Str) : Bool := decide (1 ≤ x.length) && (decide (x.length ≤ 8) && (!decide (x = numS) && x.cps.toList.all signOk))
theorem nameOk_split {x : Str} (h : nameOk x = true) : 1 ≤ x.length ∧ x.length ≤ 8 ∧ x ≠ numS ∧ ∀ c ∈ x.cps.toList, 97 ≤ c ∧ c ≤ 122 := by
  unfold nameOk at h
  simp only [Bool.and_eq_true, decide_eq_true_eq, Bool.not_eq_true', decide_eq_false_iff_not, List.all_eq_true] at h
  obtain ⟨a, b, c, d⟩ := h
  refine ⟨a, b, c, fun x hx => ?_⟩
  have := d x hx
  unfold signOk at this
  simpa using this
def kNames (ks : List Kind) : List Str := ks.map (·.1)
def bNames (ks : List Kind) : List Str := ks.flatMap fun k => k.2.map (·.1)
/-- what the fields of a bough weigh -/
def wsum (s : Str → Nat) (fs : List Str) : Nat := ((fs.filter fun f => !decide (f = numS)).map s).sum
structure Good (ks : List Kind) : Prop where
  ne : ks ≠ []
  kn : ∀ k ∈ ks, nameOk k.1 = true
  kb : ∀ k ∈ ks, k.2 ≠ []
  bn : ∀ k ∈ ks, ∀ b ∈ k.2, nameOk b.1 = true
  nd : (kNames ks).Nodup
  bd : (bNames ks).Nodup
  fl : ∀ k ∈ ks, ∀ b ∈ k.2, ∀ f ∈ b.2, f = numS ∨ f ∈ kNames ks
  wf : ∃ r s : Str → Nat, ∀ k ∈ ks, r k.1 < ks.length ∧ s k.1 ≤ 29 ∧ ∃ b ∈ k.2, (∀ f ∈ b.2, f = numS ∨ (f ∈ kNames ks ∧ r f < r k.1)) ∧ 1 + wsum s b.2 ≤ s k.1
  s1 : ks.length ≤ 6
  s2 : ∀ k ∈ ks, k.2.length ≤ 8
  s3 : ∀ k ∈ ks, ∀ b ∈ k.2, b.2.length ≤ 8
theorem strOk_name {x : Str} (h : nameOk x = true) : PyData.strOk x = true := by
  unfold PyData.strOk
  rw [← Array.all_toList, List.all_eq_true]
  intro c hc
  have := (nameOk_split h).2.2.2 c hc
  simp
  omega
theorem okN_name {x : Str} (h : nameOk x = true) : OkN 0 (.str x) := okN_str (strOk_name h)
theorem okN_num : OkN 0 (.str numS) := okN_str (by decide +kernel)
theorem Good.field {ks : List Kind} (g : Good ks) {k : Kind} (hk : k ∈ ks) {b : Bough} (hb : b ∈ k.2) {f : Str} (hf : f ∈ b.2) : OkN 0 (.str f) := by
  rcases g.fl k hk b hb f hf with rfl | h
  · exact okN_num
  · obtain ⟨k', h1, rfl⟩ := List.mem_map.mp h
    exact okN_name (g.kn k' h1)
theorem Good.okBough {ks : List Kind} (g : Good ks) {k : Kind} (hk : k ∈ ks) {b : Bough} (hb : b ∈ k.2) : OkN 2 (boughD b) := okN_tup (k := 1) fun x hx => by
  simp only [List.mem_cons, List.not_mem_nil, or_false] at hx
  rcases hx with rfl | rfl
  · exact (okN_name (g.bn k hk b hb)).mono (by decide)
  · refine okN_tup (k := 0) fun y hy => ?_
    obtain ⟨f, hf, rfl⟩ := List.mem_map.mp hy
    exact g.field hk hb hf
theorem Good.okKind {ks : List Kind} (g : Good ks) {k : Kind} (hk : k ∈ ks) : OkN 4 (kindD k) := okN_tup (k := 3) fun x hx => by
  simp only [List.mem_cons, List.not_mem_nil, or_false] at hx
  rcases hx with rfl | rfl
  · exact (okN_name (g.kn k hk)).mono (by decide)
  · refine okN_tup (k := 2) fun y hy => ?_
    obtain ⟨b, hb, rfl⟩ := List.mem_map.mp hy
    exact g.okBough hk hb
theorem Good.ok {ks : List Kind} (g : Good ks) : OkN 5 (kindsD ks) := okN_tup (k := 4) fun x hx => by
  obtain ⟨k, hk, rfl⟩ := List.mem_map.mp hx
  exact g.okKind hk
end KB
namespace KB
open PySem L2 Dk
def tl (x : Str) : List Nat := x.cps.toList
theorem S_eq (x : Str) : SX.S (tl x) = x := SX.S_tl x
theorem map_S (ys : List Str) : (ys.map tl).map SX.S = ys := by
  rw [List.map_map]
  conv => rhs; rw [← List.map_id ys]
  exact List.map_congr_left fun y _ => S_eq y
/-- letters alone -/
def clean (x : Str) : Prop := x.length ≤ 8 ∧ ∀ c ∈ tl x, 97 ≤ c ∧ c ≤ 122
theorem clean_name {x : Str} (h : nameOk x = true) : clean x := ⟨(nameOk_split h).2.1, (nameOk_split h).2.2.2⟩
theorem clean_num : clean numS := by unfold clean; exact ⟨by decide +kernel, by decide +kernel⟩
theorem Good.cleanF {ks : List Kind} (g : Good ks) {k : Kind} (hk : k ∈ ks) {b : Bough} (hb : b ∈ k.2) : ∀ f ∈ b.1 :: b.2, clean f := fun f hf => by
  rcases List.mem_cons.mp hf with rfl | hf
  · exact clean_name (g.bn k hk b hb)
  · rcases g.fl k hk b hb f hf with rfl | h
    · exact clean_num
    · obtain ⟨k', h1, rfl⟩ := List.mem_map.mp h
      exact clean_name (g.kn k' h1)
theorem len_join {y : Str} {m : Nat} : ∀ {parts : List Str}, (∀ p ∈ parts, p.length ≤ m) → (Txt.join y parts).length ≤ parts.length * (m + y.length) := by
  intro parts h
  have e : (Txt.join y parts).length = (TL.joinL (tl y) (parts.map tl)).length := by
    have : Txt.join y parts = SX.S (TL.joinL (tl y) (parts.map tl)) := by rw [← SX.join_S, S_eq, map_S]
    rw [this, SX.S_len]
  rw [e]
  clear e
  induction parts with
  | nil => simp [TL.joinL]
  | cons p r ih =>
    have hp := h p (by simp)
    have ep : (tl p).length = p.length := by simp [tl, Str.length]
    have ey : (tl y).length = y.length := by simp [tl, Str.length]
    cases r with
    | nil =>
      show (tl p).length ≤ _
      rw [List.length_singleton]
      omega
    | cons q r =>
      have h2 := ih fun z hz => h z (List.mem_cons_of_mem _ hz)
      show (tl p ++ (tl y ++ TL.joinL (tl y) ((q :: r).map tl))).length ≤ _
      rw [List.length_append, List.length_append]
      rw [List.length_cons, Nat.succ_mul]
      omega
end KB
namespace KB
open PySem L2 Dk
/-- may be shown, in at most m signs -/
structure Sh (m : Nat) (d : D) : Prop where
  sh : (toPy d).showable = true
  ln : (shw d).length ≤ m
theorem shownAll_map : ∀ ds : List D, PyData.shownAll (toPys ds) = ds.map shw
  | [] => by simp [toPys, PyData.shownAll]
  | d :: ds => by simp [toPys, PyData.shownAll, shownAll_map ds, shw]
theorem showableAll_of : ∀ {ds : List D}, (∀ d ∈ ds, (toPy d).showable = true) → PyData.showableAll (toPys ds) = true
  | [], _ => by simp [toPys, PyData.showableAll]
  | d :: ds, h => by
    simp only [toPys, PyData.showableAll, Bool.and_eq_true]
    exact ⟨h d (by simp), showableAll_of fun x hx => h x (List.mem_cons_of_mem _ hx)⟩
theorem len_app (a b : Str) : (a ++ b).length = a.length + b.length := by
  show (a.cps ++ b.cps).size = _
  exact Array.size_append
theorem Sh.tup {m n : Nat} {ds : List D} (h : ∀ d ∈ ds, Sh m d) (hn : ds.length ≤ n) : Sh (n * (m + 2) + 3) (.tup ds) where
  sh := by
    simp only [toPy, PyData.showable]
    exact showableAll_of fun d hd => (h d hd).sh
  ln := by
    have e : shw (.tup ds) = (PyData.tuple (toPys ds)).shown := by simp [shw, toPy]
    rw [e, PyData.shown_tuple, shownAll_map, len_app, len_app]
    have h1 := len_join (y := ", ") (m := m) (parts := ds.map shw) fun p hp => by
      obtain ⟨d, hd, rfl⟩ := List.mem_map.mp hp
      exact (h d hd).ln
    rw [TL.join_eq, List.length_map] at h1
    have e2 : (", " : Str).length = 2 := rfl
    rw [e2] at h1
    have h2 : ds.length * (m + 2) ≤ n * (m + 2) := Nat.mul_le_mul_right _ hn
    have e1 : ("(" : Str).length = 1 := rfl
    rw [e1]
    have h3 : (((if (toPys ds).length == 1 then ",)" else ")" : String) : Str)).length ≤ 2 := by split <;> decide
    omega
theorem Sh.lst {m n : Nat} {ds : List D} (h : ∀ d ∈ ds, Sh m d) (hn : ds.length ≤ n) : Sh (n * (m + 2) + 3) (.lst ds) where
  sh := by
    simp only [toPy, PyData.showable]
    exact showableAll_of fun d hd => (h d hd).sh
  ln := by
    have e : shw (.lst ds) = (PyData.list (toPys ds)).shown := by simp [shw, toPy]
    rw [e, PyData.shown_list, shownAll_map, len_app, len_app]
    have h1 := len_join (y := ", ") (m := m) (parts := ds.map shw) fun p hp => by
      obtain ⟨d, hd, rfl⟩ := List.mem_map.mp hp
      exact (h d hd).ln
    rw [TL.join_eq, List.length_map] at h1
    have e2 : (", " : Str).length = 2 := rfl
    rw [e2] at h1
    have h2 : ds.length * (m + 2) ≤ n * (m + 2) := Nat.mul_le_mul_right _ hn
    have e1 : ("[" : Str).length = 1 := rfl
    have e3 : ("]" : Str).length = 1 := rfl
    rw [e1, e3]
    omega
theorem Sh.mono {m n : Nat} {d : D} (h : Sh m d) (l : m ≤ n) : Sh n d := ⟨h.sh, Nat.le_trans h.ln l⟩
theorem Sh.name {x : Str} (h : clean x) : Sh 82 (.str x) where
  sh := by simp [toPy, PyData.showable]
  ln := by
    have e : shw (.str x) = reprText x := by simp [shw, toPy, PyData.shown]
    rw [e]
    have := StrLaws.reprText_len x fun c hc => Nat.lt_of_le_of_lt (h.2 c hc).2 (by decide)
    have := h.1
    omega
theorem Good.sh {ks : List Kind} (g : Good ks) : Sh 130557 (kindsD ks) := by
  refine Sh.tup (m := 21757) (n := 6) (fun d hd => ?_) (by rw [List.length_map]; exact g.s1)
  obtain ⟨k, hk, rfl⟩ := List.mem_map.mp hd
  refine Sh.tup (m := 10875) (n := 2) (fun d hd => ?_) (by simp)
  simp only [List.mem_cons, List.not_mem_nil, or_false] at hd
  rcases hd with rfl | rfl
  · exact (Sh.name (clean_name (g.kn k hk))).mono (by decide)
  refine Sh.tup (m := 1357) (n := 8) (fun d hd => ?_) (by rw [List.length_map]; exact g.s2 k hk)
  obtain ⟨b, hb, rfl⟩ := List.mem_map.mp hd
  refine Sh.tup (m := 675) (n := 2) (fun d hd => ?_) (by simp)
  simp only [List.mem_cons, List.not_mem_nil, or_false] at hd
  rcases hd with rfl | rfl
  · exact (Sh.name (clean_name (g.bn k hk b hb))).mono (by decide)
  refine Sh.tup (m := 82) (n := 8) (fun d hd => ?_) (by rw [List.length_map]; exact g.s3 k hk b hb)
  obtain ⟨f, hf, rfl⟩ := List.mem_map.mp hd
  exact Sh.name (g.cleanF hk hb f (List.mem_cons_of_mem _ hf))
end KB
namespace Dk
open PySem L2 PySem.Spec
def scals (kvs : List (Key × D)) : Bool := kvs.all fun kv => scalD kv.2
def pyE0 : D → PyData
  | .dic kvs => .dict (kvs.map fun kv => (toPy (keyD kv.1), toPy kv.2))
  | d => toPy d
def pyE : D → PyData
  | .dic kvs => .dict (kvs.map fun kv => (toPy (keyD kv.1), toPy kv.2))
  | .tup xs => .tuple (xs.map pyE0)
  | d => toPy d
/-- a plain thing, a dict of plain ones, a tuple of such -/
inductive ShE : D → Prop
  | pl {d : D} : plainD d = true → (∀ xs, d ≠ .tup xs) → ShE d
  | dic {kvs : List (Key × D)} : scals kvs = true → ShE (.dic kvs)
  | two {xs : List D} : (∀ x ∈ xs, plainD x = true) → ShE (.tup xs)
  | tup {xs : List D} : (∀ x ∈ xs, scalD x = true ∨ ∃ kvs, x = .dic kvs ∧ scals kvs = true) → ShE (.tup xs)
section
variable {X : Cx} {pins : List (Addr × Obj)} {σ : St} {I H : Hp} {s : Shared}
theorem pyE0_pl {d : D} (h : plainD d = true) : pyE0 d = toPy d := by
  cases d <;> first | rfl | cases h
end
end Dk
namespace KB
open PySem L2 Dk
theorem ok_app {a b : Str} (h : PyData.strOk a = true) (h' : PyData.strOk b = true) : PyData.strOk (a ++ b) = true := by
  unfold PyData.strOk at h h' ⊢
  show (a.cps ++ b.cps).all _ = true
  rw [Array.all_append, h, h']
  rfl
theorem ok_lit (s : String) : PyData.strOk (Str.ofString s) = true := by
  unfold PyData.strOk
  rw [Str.ofString_eq_toList]
  rw [List.all_toArray, List.all_eq_true]
  intro c hc
  obtain ⟨x, _, rfl⟩ := List.mem_map.mp hc
  have hv : x.val.toNat < 0xd800 ∨ 0xdfff < x.val.toNat ∧ x.val.toNat < 0x110000 := x.valid
  have e : x.toNat = x.val.toNat := rfl
  simp only [decide_eq_true_eq]
  omega
end KB
namespace Dk
open PySem L2
/-- a method of the text called by its object and by names -/
theorem CalMK.of {P : Program} {w : World} {K : PySem.W.Frag} {mg : Str → Option Value} {base : Heap} {CX : CXT} {W : Wd} {k : Nat} {C : Addr} {x m qual : Str} {st : Stmt} {f : Addr} {fd : FuncData} {ps ks : List Str} {S : DSp} (cl : Cls K C) (me : Meth K C m f) (Fn : Fun K x qual st f fd) (G : GnOk P w K mg base CX k f fd ps (spD W K S))
    (h : ∀ (kV doc pm : Value) (an : Option Addr) (cdv ct : Value) (us ws : List Value), us.length = 1 → ws.length = ks.length → bindArgs (PySem.W.fnOf x qual (defArgs st) (defBody st) (defScope st) .none kV doc pm an cdv ct) ⟨us, ks.zip ws⟩ = pure (ps.zip (us ++ ws))) :
    CalMK P w K mg base CX W k C m ps ks (fun us ws => us ++ ws) S := by
  refine ⟨⟨f, fd, cl, me, G, ⟨fun s us ws _ l1 l2 => ?_, fun a b => a.append b⟩⟩, fun a b => a.append b⟩
  obtain ⟨oc, od, kV, doc, pm, an, cdv, ct, osl, rfl, lk, hcd⟩ := Fn.ex
  exact .of_eq (h kV doc pm an cdv ct us ws l1 l2)
end Dk
namespace KB
open PySem L2 Dk
def small (l : List Nat) : Prop := ∀ c ∈ l, c < 0x110000
theorem ok_small {x : Str} : PyData.strOk x = true ↔ small (tl x) := by
  unfold PyData.strOk small tl
  rw [← Array.all_toList, List.all_eq_true]
  simp only [decide_eq_true_eq]
theorem small_char (x : Char) : x.toNat < 0x110000 := by
  have hv : x.val.toNat < 0xd800 ∨ 0xdfff < x.val.toNat ∧ x.val.toNat < 0x110000 := x.valid
  have e : x.toNat = x.val.toNat := rfl
  omega
theorem small_reprChar {q c : Nat} (hc : c < 0x110000) : small (Builtin.Str.reprChar q c) := by
  have hx : ∀ w, small (List.replicate (w - ((Nat.toDigits 16 c).map Char.toNat).length) 48 ++ (Nat.toDigits 16 c).map Char.toNat) := fun w d hd => by
    rcases List.mem_append.mp hd with h | h
    · rw [(List.mem_replicate.mp h).2]; decide
    · obtain ⟨y, _, rfl⟩ := List.mem_map.mp h
      exact small_char y
  have two : ∀ a b : Nat, a < 0x110000 → b < 0x110000 → small [a, b] := fun a b ha hb d hd => by
    simp only [List.mem_cons, List.not_mem_nil, or_false] at hd
    rcases hd with rfl | rfl <;> assumption
  have cat : ∀ {l m : List Nat}, small l → small m → small (l ++ m) := fun hl hm d hd => (List.mem_append.mp hd).elim (hl d) (hm d)
  unfold Builtin.Str.reprChar
  dsimp only
  split
  · exact two _ _ (by decide) hc
  split
  · exact two _ _ (by decide) (by decide)
  split
  · exact two _ _ (by decide) (by decide)
  split
  · exact two _ _ (by decide) (by decide)
  split
  · intro d hd
    have : d = c := by simpa using hd
    omega
  split
  · exact cat (two _ _ (by decide) (by decide)) (hx 2)
  split
  · exact cat (two _ _ (by decide) (by decide)) (hx 4)
  · exact cat (two _ _ (by decide) (by decide)) (hx 8)
theorem small_fold {q : Nat} : ∀ (l : List Nat) (acc : Array Nat), small l → small acc.toList → small (l.foldl (fun out c => out ++ (Builtin.Str.reprChar q c).toArray) acc).toList
  | [], acc, _, h => h
  | c :: r, acc, hl, h => by
    rw [List.foldl_cons]
    refine small_fold r _ (fun d hd => hl d (List.mem_cons_of_mem _ hd)) fun d hd => ?_
    rw [Array.toList_append] at hd
    rcases List.mem_append.mp hd with z | z
    · exact h d z
    · exact small_reprChar (hl c (by simp)) d (by simpa using z)
theorem ok_reprText {x : Str} (h : PyData.strOk x = true) : PyData.strOk (reprText x) = true := by
  rw [ok_small] at h ⊢
  have hq : reprQuote x < 0x110000 := by
    unfold reprQuote
    split <;> decide
  unfold reprText tl
  intro c hc
  rw [Array.toList_push] at hc
  rcases List.mem_append.mp hc with z | z
  · rw [← Array.foldl_toList] at z
    exact small_fold _ _ h (fun d hd => by have : d = reprQuote x := by simpa using hd
                                           omega) c z
  · have : c = reprQuote x := by simpa using z
    omega
theorem ok_join {y : Str} (hy : PyData.strOk y = true) : ∀ {parts : List Str}, (∀ p ∈ parts, PyData.strOk p = true) → PyData.strOk (Str.join y parts) = true := by
  intro parts h
  rw [ok_small]
  show small (TL.tl (Str.join y parts))
  rw [TL.tl_join]
  induction parts with
  | nil => intro c hc; cases hc
  | cons p r ih =>
    have hp := ok_small.mp (h p (by simp))
    cases r with
    | nil => exact hp
    | cons q r =>
      have h2 := ih fun z hz => h z (List.mem_cons_of_mem _ hz)
      show small (TL.tl p ++ (TL.tl y ++ TL.joinL (TL.tl y) ((q :: r).map TL.tl)))
      intro c hc
      rcases List.mem_append.mp hc with z | z
      · exact hp c z
      rcases List.mem_append.mp z with z | z
      · exact ok_small.mp hy c z
      · exact h2 c z
/-- may be shown in at most m signs, k deep at most -/
structure Sn (m k : Nat) (p : PyData) : Prop where
  sh : p.showable = true
  ln : p.shown.length ≤ m
  ok : PyData.strOk p.shown = true
  dp : p.depth ≤ k
theorem Sn.mono {m k m' k' : Nat} {p : PyData} (h : Sn m k p) (a : m ≤ m') (b : k ≤ k') : Sn m' k' p := ⟨h.sh, Nat.le_trans h.ln a, h.ok, Nat.le_trans h.dp b⟩
theorem shownAll_eq : ∀ ps : List PyData, PyData.shownAll ps = ps.map PyData.shown
  | [] => by simp only [PyData.shownAll, List.map_nil]
  | p :: ps => by simp only [PyData.shownAll, List.map_cons, shownAll_eq ps]
theorem sn_all {m k : Nat} : ∀ {ps : List PyData}, (∀ p ∈ ps, Sn m k p) → PyData.showableAll ps = true ∧ PyData.depthAll ps ≤ k
  | [], _ => by simp [PyData.showableAll, PyData.depthAll]
  | p :: ps, h => by
    obtain ⟨a, b⟩ := sn_all fun x hx => h x (List.mem_cons_of_mem _ hx)
    have h1 := h p (by simp)
    simp only [PyData.showableAll, PyData.depthAll, h1.sh, a, Bool.and_self, true_and]
    exact Nat.max_le.mpr ⟨h1.dp, b⟩
theorem sn_join {m k n : Nat} {ps : List PyData} (h : ∀ p ∈ ps, Sn m k p) (hn : ps.length ≤ n) : (Str.join ", " (PyData.shownAll ps)).length ≤ n * (m + 2) ∧ PyData.strOk (Str.join ", " (PyData.shownAll ps)) = true := by
  rw [shownAll_eq]
  refine ⟨?_, ok_join (ok_lit ", ") fun p hp => ?_⟩
  · have h1 := len_join (y := ", ") (m := m) (parts := ps.map PyData.shown) fun p hp => by
      obtain ⟨d, hd, rfl⟩ := List.mem_map.mp hp
      exact (h d hd).ln
    rw [TL.join_eq, List.length_map] at h1
    have e2 : (", " : Str).length = 2 := rfl
    rw [e2] at h1
    exact Nat.le_trans h1 (Nat.mul_le_mul_right _ hn)
  · obtain ⟨d, hd, rfl⟩ := List.mem_map.mp hp
    exact (h d hd).ok
theorem Sn.tuple {m k n : Nat} {ps : List PyData} (h : ∀ p ∈ ps, Sn m k p) (hn : ps.length ≤ n) : Sn (n * (m + 2) + 3) (k + 1) (.tuple ps) := by
  obtain ⟨a, b⟩ := sn_all h
  obtain ⟨c, d⟩ := sn_join h hn
  refine ⟨by simp only [PyData.showable]; exact a, ?_, ?_, by simp only [PyData.depth]; omega⟩
  · rw [PyData.shown_tuple, len_app, len_app]
    have e1 : ("(" : Str).length = 1 := rfl
    have h3 : (((if ps.length == 1 then ",)" else ")" : String) : Str)).length ≤ 2 := by split <;> decide
    omega
  · rw [PyData.shown_tuple]
    exact ok_app (ok_app (ok_lit _) d) (ok_lit _)
theorem Sn.list {m k n : Nat} {ps : List PyData} (h : ∀ p ∈ ps, Sn m k p) (hn : ps.length ≤ n) : Sn (n * (m + 2) + 3) (k + 1) (.list ps) := by
  obtain ⟨a, b⟩ := sn_all h
  obtain ⟨c, d⟩ := sn_join h hn
  refine ⟨by simp only [PyData.showable]; exact a, ?_, ?_, by simp only [PyData.depth]; omega⟩
  · rw [PyData.shown_list, len_app, len_app]
    have e1 : ("[" : Str).length = 1 := rfl
    have e3 : ("]" : Str).length = 1 := rfl
    omega
  · rw [PyData.shown_list]
    exact ok_app (ok_app (ok_lit _) d) (ok_lit _)
theorem Sn.str {m : Nat} {x : Str} (hl : x.length ≤ m) (h : PyData.strOk x = true) : Sn (10 * m + 2) 0 (.str x) := by
  refine ⟨by simp [PyData.showable], ?_, ?_, by simp [PyData.depth]⟩
  · have e : (PyData.str x).shown = reprText x := by simp only [PyData.shown]
    rw [e]
    have := StrLaws.reprText_len x fun c hc => Nat.lt_of_lt_of_le (ok_small.mp h c hc) (by decide)
    omega
  · have e : (PyData.str x).shown = reprText x := by simp only [PyData.shown]
    rw [e]
    exact ok_reprText h
theorem strOk_clean {x : Str} (h : clean x) : PyData.strOk x = true := ok_small.mpr fun c hc => Nat.lt_of_le_of_lt (h.2 c hc).2 (by decide)
theorem Sn.name {x : Str} (h : clean x) : Sn 82 0 (.str x) := Sn.str h.1 (strOk_clean h)
/-- a thing that a book may be asked -/
structure Thing (d : D) : Prop where
  kn : known d = true
  sn : Sn 200000 8 (pyE0 d)
  sh : plainD d = true ∨ ∃ kvs, d = .dic kvs ∧ scals kvs = true
  tx : ∀ x, d = .str x → PyData.strOk x = true
theorem Thing.pl {m k : Nat} {d : D} (kn : known d = true) (pl : plainD d = true) (ns : ∀ x, d ≠ .str x) (h : Sn m k (toPy d)) (a : m ≤ 200000 := by decide) (b : k ≤ 8 := by decide) : Thing d := ⟨kn, by rw [pyE0_pl pl]; exact h.mono a b, .inl pl, fun x e => absurd e (ns x)⟩
theorem Thing.str {m : Nat} {x : Str} (hl : x.length ≤ m) (h : PyData.strOk x = true) (a : m ≤ 1000 := by decide) : Thing (.str x) :=
  ⟨rfl, by rw [pyE0_pl rfl, show toPy (.str x) = .str x from by simp [toPy]]; exact (Sn.str hl h).mono (by omega) (by decide), .inl rfl, fun y e => by cases e; exact h⟩
/-- ("kind", thing) may be shown -/
theorem Thing.two {d : D} (t : Thing d) {x : Str} (h : clean x) : ShE (.tup [.str x, d]) ∧ Sn 400007 9 (pyE (.tup [.str x, d])) := by
  refine ⟨?_, ?_⟩
  · rcases t.sh with pl | ⟨kvs, rfl, sc⟩
    · refine .two fun y hy => ?_
      simp only [List.mem_cons, List.not_mem_nil, or_false] at hy
      rcases hy with rfl | rfl
      · rfl
      · exact pl
    · refine .tup fun y hy => ?_
      simp only [List.mem_cons, List.not_mem_nil, or_false] at hy
      rcases hy with rfl | rfl
      · exact .inl rfl
      · exact .inr ⟨kvs, rfl, sc⟩
  · unfold pyE
    refine Sn.tuple (m := 200000) (n := 2) (k := 8) (fun p hp => ?_) (by simp)
    simp only [List.map_cons, List.map_nil, List.mem_cons, List.not_mem_nil, or_false] at hp
    rcases hp with rfl | rfl
    · have e : pyE0 (.str x) = .str x := by simp [pyE0, toPy]
      rw [e]
      exact (Sn.name h).mono (by decide) (by decide)
    · exact t.sn
end KB
namespace Dk
open PySem L2 PySem.Spec
mutual
def pyF : D → PyData
  | .dic kvs => .dict (pyFk kvs)
  | .tup xs => .tuple (pyFs xs)
  | .lst xs => .list (pyFs xs)
  | .bl b => .bool b
  | .int i => .int i
  | .str x => .str x
  | .non => .none
  | .obj _ _ => .none
  | .opq _ => .none
  | .exc _ _ => .none
  | .ptp _ => .none
  | .dfz _ => .none
def pyFs : List D → List PyData
  | [] => []
  | d :: ds => pyF d :: pyFs ds
def pyFk : List (Key × D) → List (PyData × PyData)
  | [] => []
  | (k, d) :: ds => (toPy (keyD k), pyF d) :: pyFk ds
end
mutual
/-- nothing of an object in it -/
def shF : D → Bool
  | .dic kvs => shFk kvs
  | .tup xs => shFs xs
  | .lst xs => shFs xs
  | .bl _ => true
  | .int _ => true
  | .str _ => true
  | .non => true
  | .obj _ _ => false
  | .opq _ => false
  | .exc _ _ => false
  | .ptp _ => false
  | .dfz _ => false
def shFs : List D → Bool
  | [] => true
  | d :: ds => shF d && shFs ds
def shFk : List (Key × D) → Bool
  | [] => true
  | (_, d) :: ds => shF d && shFk ds
end
section
variable {X : Cx} {pins : List (Addr × Obj)} {σ : St} {I H : Hp} {s : Shared}
/-- what is needed of a thing's text -/
structure Rk (X : Cx) (h : Heap) (u : Value) (p : PyData) : Prop where
  ex : ∃ as bs, Reads h u p as ∧ ReadAtMost h p.depth bs ∧ ReprK X.prog X.w bs h p.depth u p.shown
structure Rks (X : Cx) (h : Heap) (us : List Value) (ps : List PyData) : Prop where
  ex : ∃ as bs, ReadsAll h us ps as ∧ ReadAtMost h (PyData.depthAll ps) bs ∧ ReprAllK X.prog X.w bs h (PyData.depthAll ps) us (PyData.shownAll ps)
theorem Rks.nil {h : Heap} : Rks X h [] [] := ⟨[], [], .nil, fun _ z => (nomatch z), by simp only [PyData.shownAll]; exact .nil⟩
theorem Rks.cons {h : Heap} {u : Value} {us : List Value} {p : PyData} {ps : List PyData} (a : Rk X h u p) (b : Rks X h us ps) : Rks X h (u :: us) (p :: ps) := by
  obtain ⟨as, b1, r1, m1, k1⟩ := a.ex
  obtain ⟨as2, b2, r2, m2, k2⟩ := b.ex
  have le1 : p.depth ≤ PyData.depthAll (p :: ps) := by simp only [PyData.depthAll]; exact Nat.le_max_left _ _
  have le2 : PyData.depthAll ps ≤ PyData.depthAll (p :: ps) := by simp only [PyData.depthAll]; exact Nat.le_max_right _ _
  refine ⟨as ++ as2, b1 ++ b2, .cons r1 r2, (m1.mono le1).append (m2.mono le2), ?_⟩
  simp only [PyData.shownAll]
  exact .cons ((k1.more fun c hc => List.mem_append_left _ hc).level_le le1) (k2.more_le (fun c hc => List.mem_append_right _ hc) le2)
theorem Rk.lst {h : Heap} {a : Addr} {o : Obj} {vs : Array Value} {n : Nat} {ps : List PyData} (ho : h.get? a = some o) (hc : o.cls = .type "list") (hd : o.data = .seq vs n) (k : Rks X h vs.toList ps) : Rk X h (.ref a) (.list ps) := by
  obtain ⟨as, bs, r1, m1, k1⟩ := k.ex
  have r : Reads h (.ref a) (.list ps) _ := .list ho hc hd r1
  have fr : a ∉ bs := not_mem_of_deeper r (by simp only [PyData.depth]; omega) m1
  refine ⟨_, a :: bs, r, ReadAtMost.cons r (by simp only [PyData.depth]; omega) m1, ?_⟩
  simp only [PyData.depth, PyData.shown]
  obtain ⟨l⟩ := vs
  cases l with
  | nil =>
    have r0 : ReadsAll h [] ps _ := r1
    cases r0
    simp only [PyData.shownAll, listText_nil]
    exact ReprK.listEmpty ho hc hd
  | cons x l => exact ReprK.list ho hc hd fr (by simpa using k1.length_eq) (fun i y e => k1.item i y (by simpa using e))
theorem Rk.tup {h : Heap} {a : Addr} {o : Obj} {vs : Array Value} {n : Nat} {ps : List PyData} (ho : h.get? a = some o) (hc : o.cls = .type "tuple") (hd : o.data = .seq vs n) (k : Rks X h vs.toList ps) : Rk X h (.ref a) (.tuple ps) := by
  obtain ⟨as, bs, r1, m1, k1⟩ := k.ex
  have r : Reads h (.ref a) (.tuple ps) _ := .tuple ho hc hd r1
  have fr : a ∉ bs := not_mem_of_deeper r (by simp only [PyData.depth]; omega) m1
  refine ⟨_, a :: bs, r, ReadAtMost.cons r (by simp only [PyData.depth]; omega) m1, ?_⟩
  simp only [PyData.depth, PyData.shown]
  exact ReprK.tuple ho hc hd fr k1
theorem Rk.dic {h : Heap} {a : Addr} {o : Obj} {es : Array DictEntry} {n : Nat} {ps : List (PyData × PyData)} (ho : h.get? a = some o) (hc : o.cls = .type "dict") (hd : o.data = .dict es n) (hs : (a == sysModules) = false)
    (k : Rks X h (es.toList.map (·.key)) (ps.map (·.1))) (k' : Rks X h (es.toList.map (·.val)) (ps.map (·.2))) : Rk X h (.ref a) (.dict ps) := by
  obtain ⟨as, b1, r1, m1, k1⟩ := k.ex
  obtain ⟨as2, b2, r2, m2, k2⟩ := k'.ex
  have r : Reads h (.ref a) (.dict ps) _ := .dict ho hc hd r1 r2
  have m : ReadAtMost h (PyData.depthKv ps) (b1 ++ b2) := (m1.mono (PyData.depthAll_keys_le ps)).append (m2.mono (PyData.depthAll_vals_le ps))
  have fr : a ∉ b1 ++ b2 := not_mem_of_deeper r (by simp only [PyData.depth]; omega) m
  refine ⟨_, a :: (b1 ++ b2), r, ReadAtMost.cons r (by simp only [PyData.depth]; omega) m, ?_⟩
  simp only [PyData.depth, PyData.shown, PyData.shownKv_eq]
  exact ReprK.dict ho hc hd hs fr (ReprEntriesK.of_two es.toList _ _ (k1.more_le (fun c hc => List.mem_append_left _ hc) (PyData.depthAll_keys_le ps)) (k2.more_le (fun c hc => List.mem_append_right _ hc) (PyData.depthAll_vals_le ps)))
mutual
/-- each text in it is short -/
def shortP : PyData → Bool
  | .int i => decide (i.natAbs.log2 < 1920)
  | .str x => decide ((reprText x).length ≤ sizeLine)
  | .tuple xs => shortPs xs
  | .list xs => shortPs xs
  | .dict kvs => shortPk kvs
  | _ => true
def shortPs : List PyData → Bool
  | [] => true
  | x :: xs => shortP x && shortPs xs
def shortPk : List (PyData × PyData) → Bool
  | [] => true
  | (k, x) :: xs => shortP k && (shortP x && shortPk xs)
end
theorem rk_key {h : Heap} {k : Key} {u : Value} (e : keyIs k u = true) (hs : shortP (toPy (keyD k)) = true) : Rk X h u (toPy (keyD k)) := by
  rcases keyIs_shape e with ⟨i, t, rfl, rfl⟩ | ⟨x, t, rfl, rfl⟩
  · simp only [keyD, toPy, shortP, decide_eq_true_eq] at hs ⊢
    exact ⟨[], [], .int i t, (fun _ h => nomatch h), by simp only [PyData.shown]; exact .of_is (ReprIs.int t hs) _ _ _⟩
  · simp only [keyD, toPy, shortP, decide_eq_true_eq] at hs ⊢
    exact ⟨[], [], .str x t, (fun _ h => nomatch h), by simp only [PyData.shown]; exact .of_is (ReprIs.str x t hs) _ _ _⟩
mutual
theorem rk_any (J : Inv X pins σ H s) (st : Same I H) : ∀ (d : D) {v : V} {u : Value}, shF d = true → shortP (pyF d) = true → Rep X.K I v d → RelV v u → Rk X s.heap u (pyF d)
  | .non, _, _, _, _, r, ru => by cases r; cases ru; unfold pyF; exact ⟨[], [], .none, (fun _ h => nomatch h), by simp only [PyData.shown]; exact .of_is ReprIs.none _ _ _⟩
  | .bl b, _, _, _, _, r, ru => by cases r; cases ru; unfold pyF; exact ⟨[], [], .bool b, (fun _ h => nomatch h), by simp only [PyData.shown]; exact .of_is (ReprIs.bool b) _ _ _⟩
  | .int i, _, _, _, hs, r, ru => by
    cases r
    obtain ⟨t, rfl⟩ := ru
    unfold pyF at hs ⊢
    simp only [shortP, decide_eq_true_eq] at hs
    exact ⟨[], [], .int i t, (fun _ h => nomatch h), by simp only [PyData.shown]; exact .of_is (ReprIs.int t hs) _ _ _⟩
  | .str x, _, _, _, hs, r, ru => by
    cases r
    obtain ⟨t, rfl⟩ := ru
    unfold pyF at hs ⊢
    simp only [shortP, decide_eq_true_eq] at hs
    exact ⟨[], [], .str x t, (fun _ h => nomatch h), by simp only [PyData.shown]; exact .of_is (ReprIs.str x t hs) _ _ _⟩
  | .tup xs, v, u, h, hs, r, ru => by
    unfold shF at h
    unfold pyF shortP at hs
    cases r with
    | @tup a vs _ ha rs =>
      cases (show u = Value.ref a from ru)
      obtain ⟨its, rv, ⟨o, ho, hc, n, hd⟩, _⟩ := J.tuple (Same.seqT st ha)
      unfold pyF
      exact .tup ho hc hd (rk_anys J st xs h hs rs rv)
  | .lst xs, v, u, h, hs, r, ru => by
    unfold shF at h
    unfold pyF shortP at hs
    cases r with
    | @lst a vs _ ha rs =>
      cases (show u = Value.ref a from ru)
      obtain ⟨its, rv, pl, _⟩ := J.list (.of (st _ _ ha))
      obtain ⟨o, ho, hc, n, hd⟩ := pl.isList
      unfold pyF
      exact .lst ho hc hd (rk_anys J st xs h hs rs rv)
  | .dic kvs, v, u, h, hs, r, ru => by
    unfold shF at h
    unfold pyF shortP at hs
    cases r with
    | @dic a ws _ ha kk rr =>
      cases (show u = Value.ref a from ru)
      obtain ⟨_, sy, vs, kv, o, es, ep, ho, ex, hd, _, pr, _⟩ := dk_of J.hok (st _ _ ha)
      obtain ⟨h1, h2⟩ := rk_anyk J st kvs h hs kk rr kv pr
      unfold pyF
      exact .dic ho ex.1 hd sy h1 h2
  | .obj _ _, _, _, h, _, _, _ => by unfold shF at h; cases h
  | .opq _, _, _, h, _, _, _ => by unfold shF at h; cases h
  | .exc _ _, _, _, h, _, _, _ => by unfold shF at h; cases h
  | .ptp _, _, _, h, _, _, _ => by unfold shF at h; cases h
  | .dfz _, _, _, h, _, _, _ => by unfold shF at h; cases h
theorem rk_anys (J : Inv X pins σ H s) (st : Same I H) : ∀ (xs : List D) {vs : List V} {us : List Value}, shFs xs = true → shortPs (pyFs xs) = true → Reps X.K I vs xs → Vals vs us → Rks X s.heap us (pyFs xs)
  | [], _, _, _, _, r, ru => by cases r; cases ru; unfold pyFs; exact .nil
  | x :: xs, _, _, h, hs, r, ru => by
    unfold shFs at h
    rw [Bool.and_eq_true] at h
    unfold pyFs shortPs at hs
    rw [Bool.and_eq_true] at hs
    cases r with
    | cons r1 r2 =>
      cases ru with
      | cons u1 u2 =>
        unfold pyFs
        exact .cons (rk_any J st x h.1 hs.1 r1 u1) (rk_anys J st xs h.2 hs.2 r2 u2)
theorem rk_anyk (J : Inv X pins σ H s) (st : Same I H) : ∀ (ds : List (Key × D)) {kvs : List (Key × V)} {vs : List (Key × Value)} {es : List DictEntry}, shFk ds = true → shortPk (pyFk ds) = true → kvs.map (·.1) = ds.map (·.1) → Reps X.K I (kvs.map (·.2)) (ds.map (·.2)) → KV kvs vs → Pairs (mixKind X.prog X.w) es vs →
    Rks X s.heap (es.map (·.key)) ((pyFk ds).map (·.1)) ∧ Rks X s.heap (es.map (·.val)) ((pyFk ds).map (·.2))
  | [], kvs, vs, es, _, _, hk, _, kv, pr => by
    obtain rfl : kvs = [] := by simpa using hk
    cases kv
    cases pr
    unfold pyFk
    exact ⟨.nil, .nil⟩
  | (k, d) :: ds, kvs, vs, es, h, hs, hk, r, kv, pr => by
    unfold shFk at h
    rw [Bool.and_eq_true] at h
    unfold pyFk shortPk at hs
    rw [Bool.and_eq_true, Bool.and_eq_true] at hs
    cases kvs with
    | nil => simp at hk
    | cons p kvs =>
      obtain ⟨k', v⟩ := p
      simp only [List.map_cons, List.cons.injEq] at hk
      obtain ⟨rfl, hk⟩ := hk
      cases r with
      | cons r1 r2 =>
        cases kv with
        | @cons _ q _ qs a b =>
          cases pr with
          | @cons e _ es _ c1 c2 c3 =>
            obtain ⟨h1, h2⟩ := rk_anyk J st ds (kvs := kvs) h.2 hs.2.2 hk r2 b c3
            obtain ⟨ea, ra⟩ := a
            have e1 : keyIs k' e.key = true := by have : keyIs q.1 e.key = true := c1; rwa [← ea] at this
            have e2 : RelV v e.val := by rw [c2]; exact ra
            unfold pyFk
            exact ⟨.cons (rk_key e1 hs.1) h1, .cons (rk_any J st d h.1 hs.2.1 r1 e2) h2⟩
end
end
end Dk
namespace RZ
open PySem
open PySem.Sem (wp)
def SqAt (k : Bool) (h : Heap) (l : Addr) (xs : Array Value) : Prop := if k then h.IsList l xs else h.IsTuple l xs
def ItAt (k : Bool) (h : Heap) (it l : Addr) (n : Nat) : Prop := if k then h.IsListIter it l n else h.IsTupleIter it l n
theorem ItAt.at {k : Bool} {h h' : Heap} {it l : Addr} {n : Nat} (a : ItAt k h it l n) (e : ∀ o, h.get? it = some o → h'.get? it = some o) : ItAt k h' it l n := by
  cases k
  · exact Heap.IsTupleIter.at (show h.IsTupleIter it l n from a) e
  · exact Heap.IsListIter.at (show h.IsListIter it l n from a) e
theorem ItAt.obj {k : Bool} {h : Heap} {it l : Addr} {n : Nat} (a : ItAt k h it l n) : ∃ o, h.get? it = some o ∧ o.data = .fields #[.ref l, .int n 0] := by
  cases k
  · obtain ⟨o, e, _, d⟩ := (show h.IsTupleIter it l n from a)
    exact ⟨o, e, d⟩
  · obtain ⟨o, e, _, d⟩ := (show h.IsListIter it l n from a)
    exact ⟨o, e, d⟩
end RZ
namespace RZ
open PySem
open PySem.Sem (wp)
end RZ
namespace RZ
open PySem
open PySem.Sem (wp)
theorem SqAt.push {k : Bool} {h : Heap} {l : Addr} {xs : Array Value} (a : SqAt k h l xs) (o : Obj) : SqAt k (h.push o) l xs := by
  cases k
  · exact Heap.IsTuple.push (show h.IsTuple l xs from a) _
  · exact Heap.IsList.push (show h.IsList l xs from a) _
end RZ
namespace RZ
open PySem PySem.Spec PyProof.Rows L2
def SqK (K : PySem.W.Frag) (k : Bool) (H : Hp) (a : Addr) (xs : List V) : Prop := if k then SqL K H a xs else SqT K H a xs
theorem SqK.at {X : Cx} {pins : List (Addr × Obj)} {σ : L2.St} {H : Hp} {s : Shared} {k : Bool} {a : Addr} {xs : List V} (h : SqK X.K k H a xs) (I : Inv X pins σ H s) : ∃ its : List Value, Vals xs its ∧ SqAt k s.heap a its.toArray := by
  cases k
  · obtain ⟨its, rv, p, _⟩ := I.tuple (show SqT X.K H a xs from h)
    exact ⟨its, rv, p⟩
  · obtain ⟨its, rv, p, _⟩ := I.list (show SqL X.K H a xs from h)
    exact ⟨its, rv, p.isList⟩
theorem SqK.inj {X : Cx} {pins : List (Addr × Obj)} {σ : L2.St} {H : Hp} {s : Shared} {k : Bool} {a : Addr} {xs ys : List V} (h : SqK X.K k H a xs) (h' : SqK X.K k H a ys) (I : Inv X pins σ H s) : xs = ys := by
  cases k
  · exact I.tuple_inj (show SqT X.K H a xs from h) h'
  · exact I.list_inj (show SqL X.K H a xs from h) h'
theorem SqAt.lt {k : Bool} {h : Heap} {l : Addr} {xs : Array Value} (a : SqAt k h l xs) : l < h.objs.size := by
  cases k
  · obtain ⟨o, e, _⟩ := (show h.IsTuple l xs from a)
    exact Heap.lt_size e
  · obtain ⟨o, e, _⟩ := (show h.IsList l xs from a)
    exact Heap.lt_size e
end RZ
namespace Dk
open PySem L2
open RZ
section
variable {F : Fx} {X : Cx} {K : PySem.W.Frag} {W : Wd} {I : Hp} {e e2 : Expr} {ta : DAT} {p pos : Pos}
/-- what may be zipped -/
def seqD : D → Option (List D)
  | .lst xs => some xs
  | .tup xs => some xs
  | _ => none
def zipGD (st : Bool) (ds : List D) (Q : List D → Prop) : Prop := ∃ d e xs ys, ds = [d, e] ∧ seqD d = some xs ∧ seqD e = some ys ∧ (st = true → xs.length = ys.length) ∧ Q (List.zipWith (fun d e => .tup [d, e]) xs ys)
theorem zipGD.mono {st : Bool} {ds : List D} {Q Q' : List D → Prop} (k : ∀ ds, Q ds → Q' ds) : zipGD st ds Q → zipGD st ds Q' := fun ⟨d, e, xs, ys, a, b, c, l, q⟩ => ⟨d, e, xs, ys, a, b, c, l, k _ q⟩
end
end Dk
namespace Dk
open PySem L2 PySem.Spec
section
variable {X : Cx} {pins : List (Addr × Obj)} {σ : St} {I H : Hp} {s : Shared}
theorem shows_lst {h : Heap} {a : Addr} {o : Obj} {vs : Array Value} {n : Nat} {ps : List PyData} (ho : h.get? a = some o) (hc : o.cls = .type "list") (hd : o.data = .seq vs n) (k : Rks X h vs.toList ps) (hz : (PyData.list ps).shown.length ≤ sizeLine) : ∃ T idr, ShowsBy X.prog X.w h a (.list ps) T idr := by
  obtain ⟨as, bs, r1, m1, k1⟩ := k.ex
  have r : Reads h (.ref a) (.list ps) _ := .list ho hc hd r1
  have fr : a ∉ bs := not_mem_of_deeper r (by simp only [PyData.depth]; omega) m1
  have hz2 : (listText (PyData.shownAll ps)).length ≤ sizeLine := by simpa only [PyData.shown] using hz
  refine ⟨"list", "list.__repr__", F.slot_list_repr.toG, F.slot_list_str, F.slot_list_format, fun s e => ⟨o, e _ _ ho, hc⟩, fun A E s Q hg hu e hQ => ?_⟩
  simp only [PyData.depth] at hu
  simp only [PyData.shown] at hQ
  obtain ⟨l⟩ := vs
  cases l with
  | nil =>
    have r0 : ReadsAll h [] ps _ := r1
    cases r0
    simp only [PyData.shownAll, listText_nil] at hQ
    exact call_list_repr_empty ⟨o, e _ _ ho, hc⟩ (e _ _ ho) hd (hQ s.heap _ _ fun _ _ z => z)
  | cons x l => exact call_list_reprK ho hc hd fr (by simpa using k1.length_eq) (fun i y q => k1.item i y (by simpa using q)) hg (fun b _ => Clear.nil b) hu e hQ hz2
theorem shows_tup {h : Heap} {a : Addr} {o : Obj} {vs : Array Value} {n : Nat} {ps : List PyData} (ho : h.get? a = some o) (hc : o.cls = .type "tuple") (hd : o.data = .seq vs n) (k : Rks X h vs.toList ps) (hz : (PyData.tuple ps).shown.length ≤ sizeLine) : ∃ T idr, ShowsBy X.prog X.w h a (.tuple ps) T idr := by
  obtain ⟨as, bs, r1, m1, k1⟩ := k.ex
  have r : Reads h (.ref a) (.tuple ps) _ := .tuple ho hc hd r1
  have fr : a ∉ bs := not_mem_of_deeper r (by simp only [PyData.depth]; omega) m1
  have hz2 : (tupleText (PyData.shownAll ps)).length ≤ sizeLine := by simpa only [PyData.shown] using hz
  refine ⟨"tuple", "tuple.__repr__", F.slot_tuple_repr, F.slot_tuple_str, F.slot_tuple_format, fun s e => ⟨o, e _ _ ho, hc⟩, fun A E s Q hg hu e hQ => ?_⟩
  simp only [PyData.depth] at hu
  simp only [PyData.shown] at hQ
  exact call_tuple_reprK ho hc hd fr k1 hg (fun b _ => Clear.nil b) hu e hQ hz2
theorem shows_dic {h : Heap} {a : Addr} {o : Obj} {es : Array DictEntry} {n : Nat} {ps : List (PyData × PyData)} (ho : h.get? a = some o) (hc : o.cls = .type "dict") (hd : o.data = .dict es n) (hs : (a == sysModules) = false)
    (k : Rks X h (es.toList.map (·.key)) (ps.map (·.1))) (k' : Rks X h (es.toList.map (·.val)) (ps.map (·.2))) (hz : (PyData.dict ps).shown.length ≤ sizeLine) : ∃ T idr, ShowsBy X.prog X.w h a (.dict ps) T idr := by
  obtain ⟨as, b1, r1, m1, k1⟩ := k.ex
  obtain ⟨as2, b2, r2, m2, k2⟩ := k'.ex
  have r : Reads h (.ref a) (.dict ps) _ := .dict ho hc hd r1 r2
  have m : ReadAtMost h (PyData.depthKv ps) (b1 ++ b2) := (m1.mono (PyData.depthAll_keys_le ps)).append (m2.mono (PyData.depthAll_vals_le ps))
  have fr : a ∉ b1 ++ b2 := not_mem_of_deeper r (by simp only [PyData.depth]; omega) m
  have hz2 : (dictText (PyData.shownKv ps)).length ≤ sizeLine := by simpa only [PyData.shown] using hz
  refine ⟨"dict", "dict.__repr__", F.slot_dict_repr, F.slot_dict_str, F.slot_dict_format, fun s e => ⟨o, e _ _ ho, hc⟩, fun A E s Q hg hu e hQ => ?_⟩
  simp only [PyData.depth] at hu
  simp only [PyData.shown, PyData.shownKv_eq] at hQ
  exact call_dict_reprK ho hc hd hs fr (ReprEntriesK.of_two es.toList _ _ (k1.more_le (fun c hc => List.mem_append_left _ hc) (PyData.depthAll_keys_le ps)) (k2.more_le (fun c hc => List.mem_append_right _ hc) (PyData.depthAll_vals_le ps))) hg (fun b _ => Clear.nil b) hu e hQ (by rw [← PyData.shownKv_eq]; exact hz2)
/-- repr of anything -/
def reprF : List D → (D → Prop) → Prop
  | [d], Q => shF d = true ∧ shortP (pyF d) = true ∧ (pyF d).depth ≤ 62 ∧ (pyF d).shown.length ≤ sizeLine ∧ Q (.str (pyF d).shown)
  | _, _ => False
theorem mono_reprF : MonoN reprF := by
  intro ds Q Q' k h
  unfold reprF at h ⊢
  split at h
  · exact ⟨h.1, h.2.1, h.2.2.1, h.2.2.2.1, k _ h.2.2.2.2⟩
  · exact h.elim
def RReprF (K : PySem.W.Frag) : List V → Hp → VK → Prop := fun xs H Q => ∃ v d I, xs = [v] ∧ Same I H ∧ Rep K I v d ∧ shF d = true ∧ shortP (pyF d) = true ∧ (pyF d).depth ≤ 62 ∧ (pyF d).shown.length ≤ sizeLine ∧ Q (.str (pyF d).shown) H
theorem call_reprF (hg : X.A.guards = some []) (hu : X.A.units + 64 < cLine) : CallR X (.builtin "repr") (RReprF X.K) := by
  rintro pins s σ H xs us Q J r ⟨v, d, I, rfl, st, rp, h0, h1, h2, h3, q⟩
  obtain ⟨u, rfl, ru⟩ := vals1 r
  have fin : ∀ (tk : Nat) (u' : Tok), EP X pins σ Q (.str (pyF d).shown u') { s with toks := tk } := fun tk u' => ⟨.str (pyF d).shown, H, J.tok tk, ⟨u', rfl⟩, q⟩
  have go : ∀ a, u = .ref a → (∃ T idr, ShowsBy X.prog X.w s.heap a (pyF d) T idr) → wpAny (model X.prog X.w) X.A (call (.builtin "repr") [u]) (EP X pins σ Q) X.xe s := by
    rintro a rfl ⟨T, idr, S⟩
    exact call_repr_slot (by omega) (S.typeIs s fun _ _ e => e) S.slotRepr (S.call X.A.in1 X.xe s _ hg (by show X.A.units + 1 + (pyF d).depth < cLine; omega) (fun _ _ e => e) fun h' u tk hk => ⟨_, _, rfl, ⟨.str _, H, J.kept hk, ⟨u, rfl⟩, q⟩⟩)
  cases rp with
  | non => cases ru; exact PySem.P.repr_of_none (by unfold pyF PyData.shown at fin; exact fin _ _)
  | bl b => cases ru; exact PySem.P.repr_of_bool (by unfold pyF PyData.shown at fin; exact fin _ _)
  | int i =>
    obtain ⟨t, rfl⟩ := ru
    unfold pyF at h1 fin
    simp only [shortP, decide_eq_true_eq] at h1
    exact PySem.P.repr_of_int h1 (by unfold PyData.shown at fin; exact fin _ _)
  | str x =>
    obtain ⟨t, rfl⟩ := ru
    unfold pyF PyData.shown at fin h3
    exact PySem.P.repr_of_str (fin _ _) h3
  | @tup a vs xs ha rs =>
    cases (show u = Value.ref a from ru)
    unfold shF at h0
    unfold pyF shortP at h1
    unfold pyF at h3 go
    obtain ⟨its, rv, ⟨o, ho, hc, n, hd⟩, _⟩ := J.tuple (Same.seqT st ha)
    exact go a rfl (shows_tup ho hc hd (rk_anys J st xs h0 h1 rs rv) h3)
  | @lst a vs xs ha rs =>
    cases (show u = Value.ref a from ru)
    unfold shF at h0
    unfold pyF shortP at h1
    unfold pyF at h3 go
    obtain ⟨its, rv, pl, _⟩ := J.list (.of (st _ _ ha))
    obtain ⟨o, ho, hc, n, hd⟩ := pl.isList
    exact go a rfl (shows_lst ho hc hd (rk_anys J st xs h0 h1 rs rv) h3)
  | @dic a ws kvs ha kk rr =>
    cases (show u = Value.ref a from ru)
    unfold shF at h0
    unfold pyF shortP at h1
    unfold pyF at h3 go
    obtain ⟨_, sy, vs, kv, o, es, ep, ho, ex, hd, _, pr, _⟩ := dk_of J.hok (st _ _ ha)
    obtain ⟨k1, k2⟩ := rk_anyk J st kvs h0 h1 kk rr kv pr
    exact go a rfl (shows_dic ho ex.1 hd sy k1 k2 h3)
  | obj _ _ _ => unfold shF at h0; cases h0
  | opq _ => unfold shF at h0; cases h0
  | exc0 _ => unfold shF at h0; cases h0
  | exc1 _ _ _ _ => unfold shF at h0; cases h0
  | dfz _ _ _ => unfold shF at h0; cases h0
  | ptp _ _ _ => unfold shF at h0; cases h0
end
section
variable {F : Fx} {X : Cx} {e a b : Expr} {te ta tb : DT} {t : DAT} {p pos : Pos}
theorem de_reprF (hm : X.mg "repr" = none) (hg : X.A.guards = some []) (hu : X.A.units + 64 < cLine) (ha : DA F X [e] t) (hgl : Gl X "repr" := by rfl) (he : starEach [e] X.env = (false, eval e X.env) :: starEach [] X.env := by rfl) : DE F X (.Call (.Name "repr" p) [e] [] pos) (fun ρ Q => t ρ fun ds => reprF ds Q) := by
  refine de_callB (id := "repr") mono_reprF (fun vs ds I H Q st rs h => ?_) (call_reprF hg hu) hm (by decide +kernel) ha hgl (by decide) (by decide) he rfl
  match ds, rs, h with
  | [], _, h => exact h.elim
  | _ :: _ :: _, _, h => exact h.elim
  | [d], rs, h =>
    obtain ⟨h0, h1, h2, h3, q⟩ := h
    obtain ⟨v, rfl, rv⟩ := rs.one
    exact ⟨v, d, I, rfl, st.sub, rv, h0, h1, h2, h3, q _ _ _ st.stp (.str _)⟩
end
end Dk
namespace KB
open PySem L2 Dk
/-- signs from the blank to ~ -/
def ascii (x : Str) : Bool := x.cps.all fun c => decide (32 ≤ c ∧ c < 127)
def keyOk : Key → Bool
  | .inl i => decide (i.natAbs.log2 < 1900)
  | .inr x => ascii x
def keyWt : Key → Nat
  | .inl i => i.natAbs.log2 + 12
  | .inr x => 10 * x.length + 2
mutual
def gd : D → Bool
  | .dic kvs => gdk kvs
  | .tup xs => gds xs
  | .lst xs => gds xs
  | .bl _ => true
  | .int i => decide (i.natAbs.log2 < 1900)
  | .str x => ascii x
  | .non => true
  | .obj _ _ => false
  | .opq _ => false
  | .exc _ _ => false
  | .ptp _ => false
  | .dfz _ => false
def gds : List D → Bool
  | [] => true
  | d :: ds => gd d && gds ds
def gdk : List (Key × D) → Bool
  | [] => true
  | (k, d) :: ds => keyOk k && (gd d && gdk ds)
end
mutual
def wtD : D → Nat
  | .dic kvs => wtk kvs + 12
  | .tup xs => wts xs + 13
  | .lst xs => wts xs + 13
  | .bl _ => 10
  | .int i => 40 * i.natAbs.log2 + 12
  | .str x => 10 * x.length + 12
  | .non => 10
  | .obj _ _ => 10
  | .opq _ => 10
  | .exc _ _ => 10
  | .ptp _ => 10
  | .dfz _ => 10
def wts : List D → Nat
  | [] => 0
  | d :: ds => wtD d + 2 + wts ds
def wtk : List (Key × D) → Nat
  | [] => 0
  | (k, d) :: ds => keyWt k + 2 + wtD d + 2 + wtk ds
end
def dpD (d : D) : Nat := (pyF d).depth
theorem ascii_ok {x : Str} (h : ascii x = true) : PyData.strOk x = true := by
  unfold ascii at h
  unfold PyData.strOk
  rw [Array.all_eq_true] at h ⊢
  intro i hi
  have := h i hi
  rw [decide_eq_true_eq] at this ⊢
  omega
theorem gds_mem : ∀ {xs : List D}, gds xs = true ↔ ∀ x ∈ xs, gd x = true
  | [] => by simp [gds]
  | x :: xs => by simp [gds, gds_mem (xs := xs)]
theorem shown_join : ∀ ps : List PyData, (∀ p ∈ ps, PyData.strOk p.shown = true) → (Str.join ", " (PyData.shownAll ps)).length ≤ (ps.map fun p => p.shown.length + 2).sum ∧ PyData.strOk (Str.join ", " (PyData.shownAll ps)) = true := by
  intro ps h
  refine ⟨?_, ?_⟩
  · clear h
    induction ps with
    | nil => simp only [PyData.shownAll, List.map_nil, List.sum_nil]; exact Nat.le_refl _
    | cons p r ih =>
      cases r with
      | nil => simp only [PyData.shownAll, List.map_cons, List.map_nil, List.sum_cons, List.sum_nil]; show p.shown.length ≤ _; omega
      | cons q r =>
        simp only [PyData.shownAll, List.map_cons, List.sum_cons] at ih ⊢
        show (p.shown ++ ", " ++ Str.join ", " (q.shown :: PyData.shownAll r)).length ≤ _
        rw [len_app, len_app]
        have e2 : (", " : Str).length = 2 := rfl
        omega
  · rw [shownAll_eq]
    refine ok_join (ok_lit ", ") fun p hp => ?_
    obtain ⟨d, hd, rfl⟩ := List.mem_map.mp hp
    exact h d hd
theorem log_len {i : Int} (h : i.natAbs.log2 < 1900) : (PyData.int i).shown.length ≤ i.natAbs.log2 + 12 ∧ PyData.strOk (PyData.int i).shown = true := by
  have e : (PyData.int i).shown = Str.ofString (toString i) := by simp only [PyData.shown]
  rw [e]
  refine ⟨?_, ok_lit _⟩
  rw [PySem.ofString_length]
  have := PySem.int_text_length_le (a := i) (k := i.natAbs.log2 + 1) (by omega) (by omega)
  omega
mutual
theorem shown_any : ∀ d : D, gd d = true → wtD d ≤ 1000000 → shF d = true ∧ shortP (pyF d) = true ∧ (pyF d).shown.length ≤ wtD d ∧ PyData.strOk (pyF d).shown = true
  | .non, _, _ => by simp only [pyF, shF, shortP, wtD, PyData.shown, true_and]; exact ⟨by decide, ok_lit _⟩
  | .bl b, _, _ => by cases b <;> (simp only [pyF, shF, shortP, wtD, PyData.shown, true_and]; exact ⟨by decide, ok_lit _⟩)
  | .int i, hg, w => by
    simp only [wtD] at w
    simp only [gd, decide_eq_true_eq] at hg
    have h : i.natAbs.log2 < 1900 := hg
    simp only [pyF, shF, shortP, wtD, decide_eq_true_eq, true_and]
    exact ⟨by omega, Nat.le_trans (log_len h).1 (by omega), (log_len h).2⟩
  | .str x, h, w => by
    simp only [gd] at h
    simp only [wtD] at w
    have h2 := Sn.str (m := x.length) (Nat.le_refl _) (ascii_ok h)
    simp only [pyF, shF, shortP, wtD, decide_eq_true_eq, true_and]
    refine ⟨?_, Nat.le_trans h2.ln (by omega), h2.ok⟩
    have := h2.ln
    have e : (PyData.str x).shown = reprText x := by simp only [PyData.shown]
    rw [e] at this
    rw [sizeLine_eq]
    omega
  | .tup xs, h, w => by
    simp only [gd] at h
    simp only [wtD] at w
    obtain ⟨a, b, c, d⟩ := shown_anys xs h (by omega)
    obtain ⟨l, o⟩ := shown_join (pyFs xs) d
    simp only [pyF, shF, shortP, wtD, a, b, true_and]
    rw [PyData.shown_tuple]
    refine ⟨?_, ok_app (ok_app (ok_lit _) o) (ok_lit _)⟩
    rw [len_app, len_app]
    have e1 : ("(" : Str).length = 1 := rfl
    have h3 : (((if (pyFs xs).length == 1 then ",)" else ")" : String) : Str)).length ≤ 2 := by split <;> decide
    omega
  | .lst xs, h, w => by
    simp only [gd] at h
    simp only [wtD] at w
    obtain ⟨a, b, c, d⟩ := shown_anys xs h (by omega)
    obtain ⟨l, o⟩ := shown_join (pyFs xs) d
    simp only [pyF, shF, shortP, wtD, a, b, true_and]
    rw [PyData.shown_list]
    refine ⟨?_, ok_app (ok_app (ok_lit _) o) (ok_lit _)⟩
    rw [len_app, len_app]
    have e1 : ("[" : Str).length = 1 := rfl
    have e3 : ("]" : Str).length = 1 := rfl
    omega
  | .dic kvs, h, w => by
    simp only [gd] at h
    simp only [wtD] at w
    obtain ⟨a, b, c, d⟩ := shown_anyk kvs h (by omega)
    simp only [pyF, shF, shortP, wtD, a, b, true_and]
    rw [PyData.shown_dict]
    refine ⟨?_, ok_app (ok_app (ok_lit _) d) (ok_lit _)⟩
    rw [len_app, len_app]
    have e1 : ("{" : Str).length = 1 := rfl
    have e3 : ("}" : Str).length = 1 := rfl
    omega
  | .obj _ _, h, _ => by simp [gd] at h
  | .opq _, h, _ => by simp [gd] at h
  | .exc _ _, h, _ => by simp [gd] at h
  | .ptp _, h, _ => by simp [gd] at h
  | .dfz _, h, _ => by simp [gd] at h
theorem shown_anys : ∀ xs : List D, gds xs = true → wts xs ≤ 1000000 → shFs xs = true ∧ shortPs (pyFs xs) = true ∧ ((pyFs xs).map fun p => p.shown.length + 2).sum ≤ wts xs ∧ ∀ p ∈ pyFs xs, PyData.strOk p.shown = true
  | [], _, _ => by simp [pyFs, shFs, shortPs, wts]
  | x :: xs, h, w => by
    simp only [gds, Bool.and_eq_true] at h
    simp only [wts] at w
    obtain ⟨a, b, c, d⟩ := shown_any x h.1 (by omega)
    obtain ⟨a', b', c', d'⟩ := shown_anys xs h.2 (by omega)
    simp only [pyFs, shFs, shortPs, wts, a, b, a', b', Bool.and_self, true_and, List.map_cons, List.sum_cons]
    refine ⟨by omega, fun p hp => ?_⟩
    rcases List.mem_cons.mp hp with rfl | hp
    · exact d
    · exact d' p hp
theorem shown_anyk : ∀ ks : List (Key × D), gdk ks = true → wtk ks ≤ 1000000 → shFk ks = true ∧ shortPk (pyFk ks) = true ∧ (Str.join ", " (PyData.shownKv (pyFk ks))).length ≤ wtk ks ∧ PyData.strOk (Str.join ", " (PyData.shownKv (pyFk ks))) = true
  | [], _, _ => by simp only [pyFk, shFk, shortPk, wtk, PyData.shownKv, true_and]; exact ⟨Nat.le_refl _, ok_join (ok_lit _) fun p hp => by cases hp⟩
  | (k, x) :: ks, h, w => by
    simp only [gdk, Bool.and_eq_true] at h
    simp only [wtk] at w
    obtain ⟨a, b, c, d⟩ := shown_any x h.2.1 (by omega)
    obtain ⟨a', b', c', d'⟩ := shown_anyk ks h.2.2 (by omega)
    have key : shortP (toPy (keyD k)) = true ∧ (toPy (keyD k)).shown.length ≤ keyWt k ∧ PyData.strOk (toPy (keyD k)).shown = true := by
      cases k with
      | inl i =>
        have h1 := h.1
        simp only [keyOk, decide_eq_true_eq] at h1
        simp only [keyD, toPy, shortP, keyWt, decide_eq_true_eq]
        exact ⟨by omega, log_len h1⟩
      | inr y =>
        have h1 := h.1
        simp only [keyOk] at h1
        simp only [keyWt] at w
        have h2 := Sn.str (m := y.length) (Nat.le_refl _) (ascii_ok h1)
        simp only [keyD, toPy, shortP, keyWt, decide_eq_true_eq]
        refine ⟨?_, h2.ln, h2.ok⟩
        have := h2.ln
        have e : (PyData.str y).shown = reprText y := by simp only [PyData.shown]
        rw [e] at this
        rw [sizeLine_eq]
        omega
    have one : ((toPy (keyD k)).shown ++ ": " ++ (pyF x).shown).length ≤ keyWt k + 2 + wtD x ∧ PyData.strOk ((toPy (keyD k)).shown ++ ": " ++ (pyF x).shown) = true := by
      refine ⟨?_, ok_app (ok_app key.2.2 (ok_lit _)) d⟩
      rw [len_app, len_app]
      have e2 : (": " : Str).length = 2 := rfl
      have := key.2.1
      omega
    simp only [pyFk, shFk, shortPk, wtk, a, b, a', b', key.1, Bool.and_self, true_and, PyData.shownKv]
    cases ks with
    | nil =>
      simp only [pyFk, PyData.shownKv, wtk]
      exact ⟨Nat.le_trans one.1 (by omega), one.2⟩
    | cons p ks =>
      obtain ⟨k2, x2⟩ := p
      simp only [pyFk, PyData.shownKv] at c' d' ⊢
      have e : ∀ (a b : Str) (r : List Str), Str.join ", " (a :: b :: r) = a ++ ", " ++ Str.join ", " (b :: r) := fun _ _ _ => rfl
      rw [e]
      refine ⟨?_, ok_app (ok_app one.2 (ok_lit _)) d'⟩
      rw [len_app, len_app]
      have e2 : (", " : Str).length = 2 := rfl
      have := one.1
      omega
end
theorem repr_any {d : D} {Q : D → Prop} (h : gd d = true) (w : wtD d ≤ 1000000) (dp : dpD d ≤ 62) (q : Q (.str (pyF d).shown)) : reprF [d] Q := by
  obtain ⟨a, b, c, _⟩ := shown_any d h w
  exact ⟨a, b, dp, Nat.le_trans c (Nat.le_trans w (by rw [sizeLine_eq]; decide)), q⟩
end KB
namespace Dk
open PySem L2 PySem.Spec
end Dk
namespace Dk
open PySem L2 PySem.Spec PyProof.Rows HT
end Dk
namespace KB
open PySem L2 Dk
open PyProof.Rows (envOfC)
abbrev s__law_pick : Stmt := top 27
theorem sc__law_pick : FnScope ["_law_deck_here", "_law_some"] ["_law_deck_here", "_law_some"] (defScope s__law_pick) := ⟨rfl, rfl, rfl, by decide +kernel, rfl, by decide +kernel, by decide +kernel⟩
theorem bd__law_pick (kV doc pm : Value) (an : Option Addr) (cdv ct : Value) (us : List Value) (hl : us.length = 2) : bindArgs (PySem.W.fnOf "_law_pick" "_law_pick" (defArgs s__law_pick) (defBody s__law_pick) (defScope s__law_pick) .none kV doc pm an cdv ct) ⟨us, []⟩ = pure ((["_law_deck_here", "_law_some"] : List Str).zip us) := by
  match us, hl with
  | [v0, v1], _ => rfl
abbrev s_law : Stmt := top 35
theorem sc_law : FnScope ["_law_script", "_law_deck_here", "_law_turn", "_law_some", "_law_one", "_law_two", "_law_made_here", "_law_named_here", "_law_due", "_law_raised_here"] ["_law_script"] (defScope s_law) := ⟨rfl, rfl, rfl, by decide +kernel, rfl, by decide +kernel, by decide +kernel⟩
structure TxtL (K : PySem.W.Frag) (mg : Str → Option Value) : Prop extends TxtR0 mg where
  b_len : mg "len" = none
  b_repr : mg "repr" = none
  g_NUM : ∃ t, mg "NUM" = some (.str "num" t)
  g_SUM : ∃ t, mg "SUM" = some (.str "sum" t)
  g_TOP : ∃ t, mg "TOP" = some (.str "top" t)
  g_RUNS : ∃ t, mg "RUNS" = some (.int 400 t)
def spPick (a : Addr) : DSp where
  n := 2
  f := fun ds Q _ => ∃ xs : List D, ds = [.opq a, .lst xs] ∧ xs ≠ [] ∧ xs.length ≤ 1000000 ∧ ∀ x ∈ xs, Q x
  len := fun ds Q E ⟨m, e, _⟩ => by rw [e]; rfl
  mono := fun ds Q Q' E E' k _ ⟨m, e, h, h2, q⟩ => ⟨m, e, h, h2, fun x hx => k _ (q x hx)⟩
/-- a thing of the row -/
def Few06 (d : D) : Prop := gd d = true ∧ wtD d ≤ 6000 ∧ dpD d ≤ 3
theorem few_int {v : Int} (h0 : 0 ≤ v) (h1 : v < 1000) : Few06 (.int v) := by
  obtain ⟨n, rfl⟩ := Int.eq_ofNat_of_zero_le h0
  have hn : n < 1000 := by omega
  have l : n.log2 < 10 := by
    by_cases hz : n = 0
    · subst hz; decide
    · exact (Nat.log2_lt hz).mpr (by omega)
  refine ⟨?_, ?_, by simp [dpD, pyF, PyData.depth]⟩
  · simp only [gd, decide_eq_true_eq, Int.natAbs_natCast]
    omega
  · simp only [wtD, Int.natAbs_natCast]
    omega
theorem few_all : ∀ x ∈ [D.non, .bl true, .int 0, .int (-1), .int 7, .str "", .str "num", .str "a", .tup [], .tup [.str "a", .tup []], .lst [], .dic [], .lst [.int 1], .int (10 ^ 39)], Few06 x := by
  intro x hx
  have b : [D.non, .bl true, .int 0, .int (-1), .int 7, .str "", .str "num", .str "a", .tup [], .tup [.str "a", .tup []], .lst [], .dic [], .lst [.int 1], .int (10 ^ 39)].all (fun x => gd x && (decide (wtD x ≤ 6000) && decide (dpD x ≤ 3))) = true := by decide +kernel
  have := List.all_eq_true.mp b x hx
  simp only [Bool.and_eq_true, decide_eq_true_eq] at this
  exact this
theorem dp_le {c : Nat} : ∀ {xs : List D}, (∀ x ∈ xs, dpD x ≤ c) → PyData.depthAll (pyFs xs) ≤ c
  | [], _ => by simp [pyFs, PyData.depthAll]
  | x :: xs, h => by
    have h1 : (pyF x).depth ≤ c := h x (by simp)
    have h2 := dp_le (xs := xs) fun y hy => h y (List.mem_cons_of_mem _ hy)
    simp only [pyFs, PyData.depthAll]
    omega
theorem wts_le {c n : Nat} : ∀ {xs : List D}, (∀ x ∈ xs, wtD x ≤ c) → xs.length ≤ n → wts xs ≤ n * (c + 2)
  | [], _, _ => by simp [wts]
  | x :: xs, h, hl => by
    cases n with
    | zero => simp at hl
    | succ n =>
      have h2 := wts_le (xs := xs) (n := n) (fun y hy => h y (List.mem_cons_of_mem _ hy)) (by simpa using hl)
      have := h x (by simp)
      simp only [wts]
      rw [Nat.succ_mul]
      omega
theorem repr_few {xs : List D} {Q : D → Prop} (h : ∀ x ∈ xs, gd x = true ∧ wtD x ≤ 20000 ∧ dpD x ≤ 10) (hl : xs.length ≤ 20) (q : Q (.str (pyF (.lst xs)).shown)) : reprF [.lst xs] Q := by
  refine repr_any (d := .lst xs) (by rw [gd]; exact gds_mem.mpr fun x hx => (h x hx).1) ?_ ?_ q
  · rw [wtD]
    have := wts_le (xs := xs) (c := 20000) (n := 20) (fun x hx => (h x hx).2.1) hl
    omega
  · have := dp_le (xs := xs) (c := 10) fun x hx => (h x hx).2.2
    simp only [dpD, pyF, PyData.depth]
    omega
section
variable {P : Program} {w : World} {K : PySem.W.Frag} {cs : Nat → Addr} {ck : Addr} {C a l : Addr} {mg : Str → Option Value} {base : Heap} {W : Wd} {k : Nat} {f : Addr} {fd : FuncData}
theorem ok_pick (T : TxtL K mg) (Fn : Fun K "_law_pick" "_law_pick" s__law_pick f fd) (C__law_draw : Cal P w K mg base CX0 (DeckW a l) k "_law_draw" ["_law_deck_here", "_law_own_most"] (spDraw a)) : GnOk P w K mg base CX0 (k + 1) f fd ["_law_deck_here", "_law_some"] (spD (DeckW a l) K (spPick a)) := by
  refine Fn.okD sc__law_pick rfl fun cdv A outer s H I ds Q Ed E hr h => ?_
  have hu := hr.units
  obtain ⟨xs, rfl, hne, hl, q⟩ := h
  refine ⟨_, (dss_one (ds_ret (de_at hu (de_name 1) (de_fn C__law_draw (hr.mono (by omega)) pass0 lets0 (da_cons (de_name 0) (da_cons (de_len T.b_len (da_cons (de_name 1) da_nil)) da_nil)))))), ?_⟩
  simp only [getD_0, getD_s, set_0, set_s, boolD_bl, intD_int, startD, List.map, List.length_cons, List.length_nil, List.replicate, List.cons_append, List.nil_append, defEnds, wipeD, if_true, if_false, Bool.not_true, Bool.not_false, Bool.false_eq_true]
  have lp : 0 < xs.length := List.length_pos_iff.mpr hne
  have hlog : (xs.length : Int).natAbs.log2 < 9000 := by
    rw [Int.natAbs_natCast]
    have : xs.length.log2 ≤ xs.length.log2 := Nat.le_refl _
    exact Nat.lt_of_lt_of_le ((Nat.log2_lt (by omega)).mpr (show xs.length < 2 ^ 20 by omega)) (by decide)
  refine ⟨(xs.length : Int), rfl, by omega, hlog, fun v h0 h1 => ?_⟩
  obtain ⟨n, rfl⟩ := Int.eq_ofNat_of_zero_le h0
  have hn : n < xs.length := by omega
  exact ⟨_, atI_nat (List.getElem?_eq_getElem hn), q _ (List.getElem_mem hn)⟩
def spLaw06 (K : PySem.W.Frag) : Sp := fun vs H Q _ => ∃ (a : Addr) (ns : List Int), vs = [.ref a] ∧ SqL K H a (ns.map V.int) ∧ ns.length ≤ 63 ∧ ∀ H', Q (.bl true) H'
theorem ok_law06 (T : TxtL K mg) (Fn : Fun K "law" "law" s_law f fd)
    {fK : Addr} {fdK : FuncData} (GK : GnOk P w K mg base CX0 1 fK fdK ["_law_script"] (KB.spDeck K)) (mK : mg "_law_deck" = some (.ref fK)) (kK : PySem.W.keepIn K (.ref fK) = true) (bK : Binds K fdK ["_law_script"] [])
    (Cdraw : ∀ p l, Cal P w K mg base CX0 (DeckW p l) 4 "_law_draw" ["_law_deck_here", "_law_own_most"] (spDraw p))
    (Cpick : ∀ p l, Cal P w K mg base CX0 (DeckW p l) 5 "_law_pick" ["_law_deck_here", "_law_some"] (spPick p))
    (Cmade : ∀ W, Cal P w K mg base CX0 W 5 "_law_made" ["_law_one", "_law_two"] (spMade cs 0 18))
    (Cnamed : ∀ W, Cal P w K mg base CX0 W 5 "_law_named" ["_law_one", "_law_two"] (spMade cs 4 14))
    (Cfields : ∀ W, Cal P w K mg base CX0 W 5 "_law_fields" ["_law_rows"] (spFields cs))
    (Cright : ∀ W, Cal P w K mg base CX0 W 5 "_law_right" ["_law_rows", "_law_first"] (spRightX cs))
    (Craised : ∀ W, Cal P w K mg base CX0 W 5 "_law_raised" ["_law_own_thing"] spRaised) : GnOk P w K mg base CX0 8 f fd ["_law_script"] (spLaw06 K) := by
  refine Fn.gn sc_law (fun vs H Q E h => ?_) fun cdv A outer s H vs Q E hr h => ?_
  · obtain ⟨a, ns, rfl, _⟩ := h
    rfl
  have hu := hr.units
  obtain ⟨a, ns, rfl, hS, h63, q⟩ := h
  refine ⟨_, PSs.nox (pss_cons (ps_set (i := 1) sc_law.nd rfl (.inl rfl) (gn_call GK (hr.mono (by omega)) rfl mK kK bK .nil pass0 (pa_cons (pv 0) pa_nil) (by decide) rfl rfl)) (pss_any (F := fun i : Addr × Addr × Hp × Hp => ⟨DeckW i.1 i.2.1, i.2.2.1, i.2.2.2⟩) (fun i => by
    have C__law_draw := Cdraw i.1 i.2.1
    have C__law_pick := Cpick i.1 i.2.1
    have C__law_made := Cmade (DeckW i.1 i.2.1)
    have C__law_named := Cnamed (DeckW i.1 i.2.1)
    have C__law_fields := Cfields (DeckW i.1 i.2.1)
    have C__law_right := Cright (DeckW i.1 i.2.1)
    have C__law_raised := Craised (DeckW i.1 i.2.1)
    exact (dss_cons (ds_if (dt_wh (dw_or (dt_c (.ne hu) (de_tup (da_cons (de_gs T.g_NUM) (da_cons (de_gs T.g_SUM) (da_cons (de_gs T.g_TOP) (da_cons (de_gi T.g_RUNS) da_nil))))) (de_tup (da_cons de_str (da_cons de_str (da_cons de_str (da_cons de_int da_nil)))))) (dw_or1 (dt_c (.ne hu) (de_reprF T.b_repr hr.gd hu (da_cons (de_gi T.g_RUNS) da_nil)) de_str))))
  (dss_one (ds_ret de_bl))
  dss_nil)
  (dss_cons (ds_for PassesOwn.never rfl (di_range1 T.b_range (da_cons de_int da_nil)) (dg_name 2 sc_law.nd)
  (dss_cons (ds_set 3 (de_lst (da_cons de_non (da_cons de_bl (da_cons de_int (da_cons (de_neg de_int) (da_cons de_int (da_cons de_str (da_cons de_str (da_cons de_str (da_cons (de_tup da_nil) (da_cons (de_tup (da_cons de_str (da_cons (de_tup da_nil) da_nil))) (da_cons (de_lst da_nil) (da_cons de_dict0 (da_cons (de_lst (da_cons de_int da_nil)) (da_cons (de_pow de_int de_int) (da_cons (de_fn C__law_draw (hr.mono (by omega)) pass0 lets0 (da_cons (de_name 1) (da_cons de_int da_nil))) da_nil)))))))))))))))) sc_law.nd)
  (dss_cons (by first | exact (ds_par (i := 4) (j := 5) rfl sc_law.nd rfl rfl (by decide) rfl rfl (da_cons (de_fn C__law_pick (hr.mono (by omega)) pass0 lets0 (da_cons (de_name 1) (da_cons (de_name 3) da_nil))) (da_cons (de_fn C__law_pick (hr.mono (by omega)) pass0 lets0 (da_cons (de_name 1) (da_cons (de_name 3) da_nil))) da_nil))) | exact (ds_asg (de_tup (da_cons (de_fn C__law_pick (hr.mono (by omega)) pass0 lets0 (da_cons (de_name 1) (da_cons (de_name 3) da_nil))) (da_cons (de_fn C__law_pick (hr.mono (by omega)) pass0 lets0 (da_cons (de_name 1) (da_cons (de_name 3) da_nil))) da_nil))) (dg_tup (n := 2) rfl (dgs_cons (dg_name 4 sc_law.nd) (dgs_cons (dg_name 5 sc_law.nd) dgs_nil)))))
  (dss_cons (by first | exact (ds_par (i := 6) (j := 7) rfl sc_law.nd rfl rfl (by decide) rfl rfl (da_cons (de_fn C__law_made (hr.mono (by omega)) pass0 lets0 (da_cons (de_name 4) (da_cons (de_name 5) da_nil))) (da_cons (de_fn C__law_named (hr.mono (by omega)) pass0 lets0 (da_cons (de_name 4) (da_cons (de_name 5) da_nil))) da_nil))) | exact (ds_asg (de_tup (da_cons (de_fn C__law_made (hr.mono (by omega)) pass0 lets0 (da_cons (de_name 4) (da_cons (de_name 5) da_nil))) (da_cons (de_fn C__law_named (hr.mono (by omega)) pass0 lets0 (da_cons (de_name 4) (da_cons (de_name 5) da_nil))) da_nil))) (dg_tup (n := 2) rfl (dgs_cons (dg_name 6 sc_law.nd) (dgs_cons (dg_name 7 sc_law.nd) dgs_nil)))))
  (dss_cons (ds_if (dt_wh (dw_or (dt_not (dt_val (de_fn C__law_right (hr.mono (by omega)) pass0 lets0 (da_cons (de_name 6) (da_cons de_int da_nil))))) (dw_or1 (dt_not (dt_val (de_fn C__law_right (hr.mono (by omega)) pass0 lets0 (da_cons (de_name 7) (da_cons de_int da_nil))))))))
  (dss_one (ds_ret de_bl))
  dss_nil)
  (dss_cons (ds_set 8 (de_reprF T.b_repr hr.gd hu (da_cons (de_add (de_add (de_mul (de_lst (da_cons (de_name 4) da_nil)) de_int) (de_lst (da_cons (de_name 5) da_nil))) (de_mul (de_lst (da_cons (de_name 4) da_nil)) de_int)) da_nil)) sc_law.nd)
  (dss_cons (ds_if (dt_wh (dw_or (dt_c (.ne hu) (de_reprF T.b_repr hr.gd hu (da_cons (de_fn C__law_fields (hr.mono (by omega)) pass0 lets0 (da_cons (de_slice (de_name 6) (do_some de_int) do_none) da_nil)) da_nil)) (de_name 8)) (dw_or1 (dt_c (.ne hu) (de_reprF T.b_repr hr.gd hu (da_cons (de_fn C__law_fields (hr.mono (by omega)) pass0 lets0 (da_cons (de_name 7) da_nil)) da_nil)) (de_name 8)))))
  (dss_one (ds_ret de_bl))
  dss_nil)
  (dss_cons (ds_set 9 (de_lst (da_cons (de_tup (da_cons de_str (da_cons (de_name 4) da_nil))) (da_cons (de_tup (da_cons de_str (da_cons (de_name 4) (da_cons de_int da_nil)))) (da_cons (de_tup (da_cons de_str (da_cons de_bl (da_cons (de_name 4) da_nil)))) (da_cons (de_tup (da_cons de_str (da_cons de_bl (da_cons (de_name 4) da_nil)))) da_nil))))) sc_law.nd)
  (dss_one (ds_if (dt_c (.ne hu) (de_reprF T.b_repr hr.gd hu (da_cons (de_fn C__law_raised (hr.mono (by omega)) pass0 lets0 (da_cons (de_name 4) da_nil)) da_nil)) (de_reprF T.b_repr hr.gd hu (da_cons (de_name 9) da_nil)))
  (dss_one (ds_ret de_bl))
  dss_nil))))))))))
  (dss_one (ds_ret de_bl))))))), ?_⟩
  refine ⟨_, rfl, a, ns, rfl, hS, h63, fun p l H' sm np nl dk => ?_⟩
  refine ⟨(p, l, H', fun _ => none), fun _ => none, _, at_deck (σ := some (.ref a) :: some (.ref p) :: List.replicate 8 none) 1 dk rfl, ?_⟩
  generalize hZ : ends _ _ _ _ = Z
  have hq : Z.rt (.bl true) := by
    rw [← hZ]
    intro v I' H'' _ rv
    cases rv
    exact q _
  clear hZ
  simp only [getD_0, getD_s, set_0, set_s, boolD_bl, intD_int, startD, List.map, List.length_cons, List.length_nil, List.replicate, List.cons_append, List.nil_append, defEnds, wipeD, if_true, if_false, Bool.not_true, Bool.not_false, Bool.false_eq_true]
  refine ⟨by decide, by decide, ne_same (by decide +kernel) ?_⟩
  simp only [boolD_bl]
  rw [if_neg (by decide)]
  refine repr_any (d := .int 400) (by decide +kernel) (by decide +kernel) (by decide +kernel) ?_
  rw [show (pyF (.int 400)).shown = ("400" : Str) from by decide +kernel]
  rw [neD_str]
  simp only [boolD_bl]
  rw [if_neg (by decide)]
  refine ⟨4, rfl, by decide, by decide, ?_⟩
  refine forD_ind (fun (l : List D) ρ => ∃ (u2 u3 u4 u5 u6 u7 u8 u9 : Option Ent), ρ = [none, some (.dat (.opq p)), u2, u3, u4, u5, u6, u7, u8, u9]) (fun ρ _ => hq) (fun d l ρ R ⟨u2, u3, u4, u5, u6, u7, u8, u9, e⟩ hR => ?_) _ _ ⟨_, _, _, _, _, _, _, _, rfl⟩
  subst e
  simp only [getD_0, getD_s, set_0, set_s, boolD_bl, intD_int, startD, List.map, List.length_cons, List.length_nil, List.replicate, List.cons_append, List.nil_append, defEnds, wipeD, if_true, if_false, Bool.not_true, Bool.not_false, Bool.false_eq_true]
  refine ⟨Nat.zero_le _, Nat.zero_le _, by decide, Nat.zero_le _, by decide, ⟨by decide, by decide, by decide⟩, 1000, rfl, by decide, by decide, fun v v0 v1 => ?_⟩
  have hf : ∀ x ∈ [D.non, .bl true, .int 0, .int (-1), .int 7, .str "", .str "num", .str "a", .tup [], .tup [.str "a", .tup []], .lst [], .dic [], .lst [.int 1], .int (10 ^ (39 : Int).toNat), .int v], Few06 x := fun x hx => by
    rw [show [D.non, .bl true, .int 0, .int (-1), .int 7, .str "", .str "num", .str "a", .tup [], .tup [.str "a", .tup []], .lst [], .dic [], .lst [.int 1], .int (10 ^ (39 : Int).toNat), .int v] = [D.non, .bl true, .int 0, .int (-1), .int 7, .str "", .str "num", .str "a", .tup [], .tup [.str "a", .tup []], .lst [], .dic [], .lst [.int 1], .int (10 ^ 39)] ++ [.int v] from rfl] at hx
    rcases List.mem_append.mp hx with hx | hx
    · exact few_all x hx
    · rw [List.mem_singleton.mp hx]
      exact few_int v0 v1
  refine ⟨by decide, _, rfl, by simp, by simp, fun one h1 => ?_⟩
  refine ⟨_, rfl, by simp, by simp, fun two h2 => ?_⟩
  have f1 := hf one h1
  have f2 := hf two h2
  clear hf h1 h2
  refine ⟨one, two, rfl, one, two, rfl, one, two, rfl, _, _, rfl, one, two, 0, 18, rfl, by decide, ?_⟩
  simp only [boolD_bl]
  rw [if_neg (by decide)]
  refine ⟨one, two, 4, 14, rfl, by decide, ?_⟩
  simp only [boolD_bl]
  rw [if_neg (by decide)]
  refine ⟨by decide, by decide, by decide, by show 8 ≤ sizeLine; decide, by decide, by show 9 ≤ sizeLine; decide, by decide, by decide, by decide, by show 6 ≤ sizeLine; decide, by show 15 ≤ sizeLine; decide, ?_⟩
  simp only [getD_0, getD_s, set_0, set_s, boolD_bl, intD_int, startD, List.map, List.length_cons, List.length_nil, List.replicate, List.cons_append, List.nil_append, defEnds, wipeD, if_true, if_false, Bool.not_true, Bool.not_false, Bool.false_eq_true]
  have rf : ∀ {Q : D → Prop}, Q (.str (pyF (fieldsD one two)).shown) → reprF [fieldsD one two] Q := fun {Q} hQ => by
    refine repr_few (fun x hx => ?_) (by simp) hQ
    have hx : x = one ∨ x = two := by
      simp only [List.mem_append, List.mem_replicate, List.mem_singleton] at hx
      rcases hx with (⟨_, h⟩ | h) | ⟨_, h⟩
      · exact .inl h
      · exact .inr h
      · exact .inl h
    rcases hx with rfl | rfl
    · exact ⟨f1.1, Nat.le_trans f1.2.1 (by decide), Nat.le_trans f1.2.2 (by decide)⟩
    · exact ⟨f2.1, Nat.le_trans f2.2.1 (by decide), Nat.le_trans f2.2.2 (by decide)⟩
  have rr : ∀ {Q : D → Prop}, Q (.str (pyF (raisedD one)).shown) → reprF [raisedD one] Q := fun {Q} hQ => by
    obtain ⟨g1, g2, g3⟩ := f1
    have g3' : (pyF one).depth ≤ 3 := g3
    have s1 : gd (.str "filling") = true ∧ gd (.str "kind") = true ∧ gd (.str "key") = true ∧ gd (.str "bough") = true ∧ gd (.int 1) = true ∧ gd (.bl true) = true := by decide +kernel
    have s2 : wtD (.str "filling") ≤ 100 ∧ wtD (.str "kind") ≤ 100 ∧ wtD (.str "key") ≤ 100 ∧ wtD (.str "bough") ≤ 100 ∧ wtD (.int 1) ≤ 100 ∧ wtD (.bl true) ≤ 100 := by decide +kernel
    obtain ⟨a1, a2, a3, a4, a5, a6⟩ := s1
    obtain ⟨b1, b2, b3, b4, b5, b6⟩ := s2
    refine repr_few (fun x hx => ?_) (by simp) hQ
    simp only [List.mem_cons, List.not_mem_nil, or_false] at hx
    rcases hx with rfl | rfl | rfl | rfl
    · refine ⟨by simp only [gd, gds, Bool.and_eq_true] at *; exact ⟨a1, g1, trivial⟩, by simp only [wtD, wts] at *; omega, by simp only [dpD, pyF, pyFs, PyData.depth, PyData.depthAll]; omega⟩
    · refine ⟨by simp only [gd, gds, Bool.and_eq_true] at *; exact ⟨a2, g1, a5, trivial⟩, by simp only [wtD, wts] at *; omega, by simp only [dpD, pyF, pyFs, PyData.depth, PyData.depthAll]; omega⟩
    · refine ⟨by simp only [gd, gds, Bool.and_eq_true] at *; exact ⟨a3, trivial, g1, trivial⟩, by simp only [wtD, wts] at *; omega, by simp only [dpD, pyF, pyFs, PyData.depth, PyData.depthAll]; omega⟩
    · refine ⟨by simp only [gd, gds, Bool.and_eq_true] at *; exact ⟨a4, trivial, g1, trivial⟩, by simp only [wtD, wts] at *; omega, by simp only [dpD, pyF, pyFs, PyData.depth, PyData.depthAll]; omega⟩
  have no : ∀ {x : Str} {Q : D → Prop}, Q (.bl false) → neD (.str x) (.str x) Q := fun {x Q} hQ => by
    rw [neD_str]
    simpa using hQ
  show reprF [fieldsD one two] _
  refine rf ?_
  show (spFields cs).f [.lst (cutD ((List.range' 0 18).map fun i => D.exc (cs i) (bears one two i)) (some 4) none)] _ _
  rw [show cutD ((List.range' 0 18).map fun i => D.exc (cs i) (bears one two i)) (some 4) none = (List.range' 4 14).map fun i => D.exc (cs i) (bears one two i) from rfl]
  refine ⟨one, two, rfl, rf (no ?_)⟩
  simp only [boolD_bl]
  rw [if_neg (by decide)]
  refine ⟨one, two, rfl, rf (no ?_)⟩
  simp only [boolD_bl]
  rw [if_neg (by decide)]
  refine ⟨by decide, by decide, by decide, by decide, by decide, one, rfl, rr (rr (no ?_))⟩
  simp only [boolD_bl]
  rw [if_neg (by decide)]
  exact hR _ ⟨_, _, _, _, _, _, _, _, rfl⟩
end
end KB
namespace KB
open PySem L2 Dk PySem.Spec
open PyProof.Rows (envOfC)
theorem boot_KE : bootBuiltins "KeyError" = some (.type "KeyError") := by decide +kernel
abbrev s_Bare___init__ : Stmt := inClass (top 6) 0
theorem sc_Bare___init__ : FnScope ["self", "kind"] ["self", "kind"] (defScope s_Bare___init__) := ⟨rfl, rfl, rfl, by decide +kernel, rfl, by decide +kernel, by decide +kernel⟩
theorem bd_Bare___init__ (kV doc pm : Value) (an : Option Addr) (cdv ct : Value) (us : List Value) (hl : us.length = 2) : bindArgs (PySem.W.fnOf "__init__" "Bare.__init__" (defArgs s_Bare___init__) (defBody s_Bare___init__) (defScope s_Bare___init__) .none kV doc pm an cdv ct) ⟨us, []⟩ = pure ((["self", "kind"] : List Str).zip us) := by
  match us, hl with
  | [v0, v1], _ => rfl
abbrev s_NoFun___init__ : Stmt := inClass (top 7) 0
theorem sc_NoFun___init__ : FnScope ["self", "row"] ["self", "row"] (defScope s_NoFun___init__) := ⟨rfl, rfl, rfl, by decide +kernel, rfl, by decide +kernel, by decide +kernel⟩
theorem bd_NoFun___init__ (kV doc pm : Value) (an : Option Addr) (cdv ct : Value) (us : List Value) (hl : us.length = 2) : bindArgs (PySem.W.fnOf "__init__" "NoFun.__init__" (defArgs s_NoFun___init__) (defBody s_NoFun___init__) (defScope s_NoFun___init__) .none kV doc pm an cdv ct) ⟨us, []⟩ = pure ((["self", "row"] : List Str).zip us) := by
  match us, hl with
  | [v0, v1], _ => rfl
abbrev s_NoFall___init__ : Stmt := inClass (top 8) 0
theorem sc_NoFall___init__ : FnScope ["self", "row"] ["self", "row"] (defScope s_NoFall___init__) := ⟨rfl, rfl, rfl, by decide +kernel, rfl, by decide +kernel, by decide +kernel⟩
theorem bd_NoFall___init__ (kV doc pm : Value) (an : Option Addr) (cdv ct : Value) (us : List Value) (hl : us.length = 2) : bindArgs (PySem.W.fnOf "__init__" "NoFall.__init__" (defArgs s_NoFall___init__) (defBody s_NoFall___init__) (defScope s_NoFall___init__) .none kV doc pm an cdv ct) ⟨us, []⟩ = pure ((["self", "row"] : List Str).zip us) := by
  match us, hl with
  | [v0, v1], _ => rfl
abbrev s_TooLong___init__ : Stmt := inClass (top 9) 0
theorem sc_TooLong___init__ : FnScope ["self", "most"] ["self", "most"] (defScope s_TooLong___init__) := ⟨rfl, rfl, rfl, by decide +kernel, rfl, by decide +kernel, by decide +kernel⟩
theorem bd_TooLong___init__ (kV doc pm : Value) (an : Option Addr) (cdv ct : Value) (us : List Value) (hl : us.length = 2) : bindArgs (PySem.W.fnOf "__init__" "TooLong.__init__" (defArgs s_TooLong___init__) (defBody s_TooLong___init__) (defScope s_TooLong___init__) .none kV doc pm an cdv ct) ⟨us, []⟩ = pure ((["self", "most"] : List Str).zip us) := by
  match us, hl with
  | [v0, v1], _ => rfl
abbrev s_NoOrnament___init__ : Stmt := inClass (top 10) 0
theorem sc_NoOrnament___init__ : FnScope ["self", "kind"] ["self", "kind"] (defScope s_NoOrnament___init__) := ⟨rfl, rfl, rfl, by decide +kernel, rfl, by decide +kernel, by decide +kernel⟩
theorem bd_NoOrnament___init__ (kV doc pm : Value) (an : Option Addr) (cdv ct : Value) (us : List Value) (hl : us.length = 2) : bindArgs (PySem.W.fnOf "__init__" "NoOrnament.__init__" (defArgs s_NoOrnament___init__) (defBody s_NoOrnament___init__) (defScope s_NoOrnament___init__) .none kV doc pm an cdv ct) ⟨us, []⟩ = pure ((["self", "kind"] : List Str).zip us) := by
  match us, hl with
  | [v0, v1], _ => rfl
abbrev s_NoDress___init__ : Stmt := inClass (top 11) 0
theorem sc_NoDress___init__ : FnScope ["self", "row"] ["self", "row"] (defScope s_NoDress___init__) := ⟨rfl, rfl, rfl, by decide +kernel, rfl, by decide +kernel, by decide +kernel⟩
theorem bd_NoDress___init__ (kV doc pm : Value) (an : Option Addr) (cdv ct : Value) (us : List Value) (hl : us.length = 2) : bindArgs (PySem.W.fnOf "__init__" "NoDress.__init__" (defArgs s_NoDress___init__) (defBody s_NoDress___init__) (defScope s_NoDress___init__) .none kV doc pm an cdv ct) ⟨us, []⟩ = pure ((["self", "row"] : List Str).zip us) := by
  match us, hl with
  | [v0, v1], _ => rfl
abbrev s_NoFilling___init__ : Stmt := inClass (top 12) 0
theorem sc_NoFilling___init__ : FnScope ["self", "thing"] ["self", "thing"] (defScope s_NoFilling___init__) := ⟨rfl, rfl, rfl, by decide +kernel, rfl, by decide +kernel, by decide +kernel⟩
theorem bd_NoFilling___init__ (kV doc pm : Value) (an : Option Addr) (cdv ct : Value) (us : List Value) (hl : us.length = 2) : bindArgs (PySem.W.fnOf "__init__" "NoFilling.__init__" (defArgs s_NoFilling___init__) (defBody s_NoFilling___init__) (defScope s_NoFilling___init__) .none kV doc pm an cdv ct) ⟨us, []⟩ = pure ((["self", "thing"] : List Str).zip us) := by
  match us, hl with
  | [v0, v1], _ => rfl
abbrev s_Gap___init__ : Stmt := inClass (top 17) 0
theorem sc_Gap___init__ : FnScope ["self", "row", "what"] ["self", "row", "what"] (defScope s_Gap___init__) := ⟨rfl, rfl, rfl, by decide +kernel, rfl, by decide +kernel, by decide +kernel⟩
theorem bd_Gap___init__ (kV doc pm : Value) (an : Option Addr) (cdv ct : Value) (us : List Value) (hl : us.length = 3) : bindArgs (PySem.W.fnOf "__init__" "Gap.__init__" (defArgs s_Gap___init__) (defBody s_Gap___init__) (defScope s_Gap___init__) .none kV doc pm an cdv ct) ⟨us, []⟩ = pure ((["self", "row", "what"] : List Str).zip us) := by
  match us, hl with
  | [v0, v1, v2], _ => rfl
abbrev s_NoIndex___init__ : Stmt := inClass (top 13) 0
theorem sc_NoIndex___init__ : FnScope ["self", "bough"] ["self", "bough"] (defScope s_NoIndex___init__) := ⟨rfl, rfl, rfl, by decide +kernel, rfl, by decide +kernel, by decide +kernel⟩
theorem bd_NoIndex___init__ (kV doc pm : Value) (an : Option Addr) (cdv ct : Value) (us : List Value) (hl : us.length = 2) : bindArgs (PySem.W.fnOf "__init__" "NoIndex.__init__" (defArgs s_NoIndex___init__) (defBody s_NoIndex___init__) (defScope s_NoIndex___init__) .none kV doc pm an cdv ct) ⟨us, []⟩ = pure ((["self", "bough"] : List Str).zip us) := by
  match us, hl with
  | [v0, v1], _ => rfl
abbrev s_NoName___init__ : Stmt := inClass (top 14) 0
theorem sc_NoName___init__ : FnScope ["self", "name"] ["self", "name"] (defScope s_NoName___init__) := ⟨rfl, rfl, rfl, by decide +kernel, rfl, by decide +kernel, by decide +kernel⟩
theorem bd_NoName___init__ (kV doc pm : Value) (an : Option Addr) (cdv ct : Value) (us : List Value) (hl : us.length = 2) : bindArgs (PySem.W.fnOf "__init__" "NoName.__init__" (defArgs s_NoName___init__) (defBody s_NoName___init__) (defScope s_NoName___init__) .none kV doc pm an cdv ct) ⟨us, []⟩ = pure ((["self", "name"] : List Str).zip us) := by
  match us, hl with
  | [v0, v1], _ => rfl
abbrev s_Taken___init__ : Stmt := inClass (top 15) 0
theorem sc_Taken___init__ : FnScope ["self", "name"] ["self", "name"] (defScope s_Taken___init__) := ⟨rfl, rfl, rfl, by decide +kernel, rfl, by decide +kernel, by decide +kernel⟩
theorem bd_Taken___init__ (kV doc pm : Value) (an : Option Addr) (cdv ct : Value) (us : List Value) (hl : us.length = 2) : bindArgs (PySem.W.fnOf "__init__" "Taken.__init__" (defArgs s_Taken___init__) (defBody s_Taken___init__) (defScope s_Taken___init__) .none kV doc pm an cdv ct) ⟨us, []⟩ = pure ((["self", "name"] : List Str).zip us) := by
  match us, hl with
  | [v0, v1], _ => rfl
abbrev s_InUse___init__ : Stmt := inClass (top 16) 0
theorem sc_InUse___init__ : FnScope ["self", "name"] ["self", "name"] (defScope s_InUse___init__) := ⟨rfl, rfl, rfl, by decide +kernel, rfl, by decide +kernel, by decide +kernel⟩
theorem bd_InUse___init__ (kV doc pm : Value) (an : Option Addr) (cdv ct : Value) (us : List Value) (hl : us.length = 2) : bindArgs (PySem.W.fnOf "__init__" "InUse.__init__" (defArgs s_InUse___init__) (defBody s_InUse___init__) (defScope s_InUse___init__) .none kV doc pm an cdv ct) ⟨us, []⟩ = pure ((["self", "name"] : List Str).zip us) := by
  match us, hl with
  | [v0, v1], _ => rfl
abbrev s_NoKind___init__ : Stmt := inClass (top 18) 0
theorem sc_NoKind___init__ : FnScope ["self", "kind"] ["self", "kind"] (defScope s_NoKind___init__) := ⟨rfl, rfl, rfl, by decide +kernel, rfl, by decide +kernel, by decide +kernel⟩
theorem bd_NoKind___init__ (kV doc pm : Value) (an : Option Addr) (cdv ct : Value) (us : List Value) (hl : us.length = 2) : bindArgs (PySem.W.fnOf "__init__" "NoKind.__init__" (defArgs s_NoKind___init__) (defBody s_NoKind___init__) (defScope s_NoKind___init__) .none kV doc pm an cdv ct) ⟨us, []⟩ = pure ((["self", "kind"] : List Str).zip us) := by
  match us, hl with
  | [v0, v1], _ => rfl
abbrev s_NoBough___init__ : Stmt := inClass (top 19) 0
theorem sc_NoBough___init__ : FnScope ["self", "bough"] ["self", "bough"] (defScope s_NoBough___init__) := ⟨rfl, rfl, rfl, by decide +kernel, rfl, by decide +kernel, by decide +kernel⟩
theorem bd_NoBough___init__ (kV doc pm : Value) (an : Option Addr) (cdv ct : Value) (us : List Value) (hl : us.length = 2) : bindArgs (PySem.W.fnOf "__init__" "NoBough.__init__" (defArgs s_NoBough___init__) (defBody s_NoBough___init__) (defScope s_NoBough___init__) .none kV doc pm an cdv ct) ⟨us, []⟩ = pure ((["self", "bough"] : List Str).zip us) := by
  match us, hl with
  | [v0, v1], _ => rfl
section
variable {P : Program} {w : World} {K : PySem.W.Frag} {N D : Addr} {mg : Str → Option Value} {base : Heap} {k : Nat} {f : Addr} {fd : FuncData}
theorem ok_Bare (ox : OxC K "ValueError.__new__" veTl N) (hnokind : PySem.W.findIn K (.ref N) "kind" = some none) (hk : mg "KindError" = some (.ref D)) (ga : PySem.W.specialIn K (.ref D) "__getattribute__" = some (some (.builtin "type.__getattribute__"))) (rd : PySem.W.readsIn K D (.type "type") = true) (vV : PySem.W.findCls K (.ref D) (.type "type") "__init__" = some (.val (.builtin "ValueError.__init__"))) (Fn : Fun K "__init__" "Bare.__init__" s_Bare___init__ f fd) : GnOk P w K mg base CX0 (k + 1) f fd ["self", "kind"] (spX N "kind") := by
  refine Fn.gn sc_Bare___init__ (fun vs H Q E ⟨a, y, e, _⟩ => by rw [e]; rfl) fun cdv A outer s H vs Q E hr ⟨a, y, e, ha, q⟩ => ?_
  subst e
  exact run_xinit xb_ve ox hnokind (fun ta h => pe_xinitO xb_ve rfl hk ga rd vV hh_VE h) rfl (by first | exact Or.inl rfl | exact Or.inr (Or.inl rfl)) (by first | exact Or.inl rfl | exact Or.inr (Or.inl rfl)) (by decide) (by decide) rfl rfl rfl rfl ha q
theorem kn_Bare (Fn : Fun K "__init__" "Bare.__init__" s_Bare___init__ f fd) : ∀ (s : Shared) (x : Value) (ws : List Value), K.In s.heap → ws.length = [("kind" : Str)].length → BindsTo s fd ⟨[x], List.zip [("kind" : Str)] ws⟩ (List.zip [("self" : Str), ("kind" : Str)] (x :: gg false ws)) := by
  intro s x ws _ l
  obtain ⟨oc, od, kV, doc, pm, an, cdv, ct, osl, rfl, lk, hcd⟩ := Fn.ex
  match ws, l with
  | [a], _ => exact .of_eq rfl
theorem ok_NoFun (ox : OxC K "ValueError.__new__" veTl N) (hnorow : PySem.W.findIn K (.ref N) "row" = some none) (hk : mg "KindError" = some (.ref D)) (ga : PySem.W.specialIn K (.ref D) "__getattribute__" = some (some (.builtin "type.__getattribute__"))) (rd : PySem.W.readsIn K D (.type "type") = true) (vV : PySem.W.findCls K (.ref D) (.type "type") "__init__" = some (.val (.builtin "ValueError.__init__"))) (Fn : Fun K "__init__" "NoFun.__init__" s_NoFun___init__ f fd) : GnOk P w K mg base CX0 (k + 1) f fd ["self", "row"] (spX N "row") := by
  refine Fn.gn sc_NoFun___init__ (fun vs H Q E ⟨a, y, e, _⟩ => by rw [e]; rfl) fun cdv A outer s H vs Q E hr ⟨a, y, e, ha, q⟩ => ?_
  subst e
  exact run_xinit xb_ve ox hnorow (fun ta h => pe_xinitO xb_ve rfl hk ga rd vV hh_VE h) rfl (by first | exact Or.inl rfl | exact Or.inr (Or.inl rfl)) (by first | exact Or.inl rfl | exact Or.inr (Or.inl rfl)) (by decide) (by decide) rfl rfl rfl rfl ha q
theorem kn_NoFun (Fn : Fun K "__init__" "NoFun.__init__" s_NoFun___init__ f fd) : ∀ (s : Shared) (x : Value) (ws : List Value), K.In s.heap → ws.length = [("row" : Str)].length → BindsTo s fd ⟨[x], List.zip [("row" : Str)] ws⟩ (List.zip [("self" : Str), ("row" : Str)] (x :: gg false ws)) := by
  intro s x ws _ l
  obtain ⟨oc, od, kV, doc, pm, an, cdv, ct, osl, rfl, lk, hcd⟩ := Fn.ex
  match ws, l with
  | [a], _ => exact .of_eq rfl
theorem ok_NoFall (ox : OxC K "ValueError.__new__" veTl N) (hnorow : PySem.W.findIn K (.ref N) "row" = some none) (hk : mg "KindError" = some (.ref D)) (ga : PySem.W.specialIn K (.ref D) "__getattribute__" = some (some (.builtin "type.__getattribute__"))) (rd : PySem.W.readsIn K D (.type "type") = true) (vV : PySem.W.findCls K (.ref D) (.type "type") "__init__" = some (.val (.builtin "ValueError.__init__"))) (Fn : Fun K "__init__" "NoFall.__init__" s_NoFall___init__ f fd) : GnOk P w K mg base CX0 (k + 1) f fd ["self", "row"] (spX N "row") := by
  refine Fn.gn sc_NoFall___init__ (fun vs H Q E ⟨a, y, e, _⟩ => by rw [e]; rfl) fun cdv A outer s H vs Q E hr ⟨a, y, e, ha, q⟩ => ?_
  subst e
  exact run_xinit xb_ve ox hnorow (fun ta h => pe_xinitO xb_ve rfl hk ga rd vV hh_VE h) rfl (by first | exact Or.inl rfl | exact Or.inr (Or.inl rfl)) (by first | exact Or.inl rfl | exact Or.inr (Or.inl rfl)) (by decide) (by decide) rfl rfl rfl rfl ha q
theorem kn_NoFall (Fn : Fun K "__init__" "NoFall.__init__" s_NoFall___init__ f fd) : ∀ (s : Shared) (x : Value) (ws : List Value), K.In s.heap → ws.length = [("row" : Str)].length → BindsTo s fd ⟨[x], List.zip [("row" : Str)] ws⟩ (List.zip [("self" : Str), ("row" : Str)] (x :: gg false ws)) := by
  intro s x ws _ l
  obtain ⟨oc, od, kV, doc, pm, an, cdv, ct, osl, rfl, lk, hcd⟩ := Fn.ex
  match ws, l with
  | [a], _ => exact .of_eq rfl
theorem ok_TooLong (ox : OxC K "ValueError.__new__" veTl N) (hnomost : PySem.W.findIn K (.ref N) "most" = some none) (hk : mg "KindError" = some (.ref D)) (ga : PySem.W.specialIn K (.ref D) "__getattribute__" = some (some (.builtin "type.__getattribute__"))) (rd : PySem.W.readsIn K D (.type "type") = true) (vV : PySem.W.findCls K (.ref D) (.type "type") "__init__" = some (.val (.builtin "ValueError.__init__"))) (Fn : Fun K "__init__" "TooLong.__init__" s_TooLong___init__ f fd) : GnOk P w K mg base CX0 (k + 1) f fd ["self", "most"] (spX N "most") := by
  refine Fn.gn sc_TooLong___init__ (fun vs H Q E ⟨a, y, e, _⟩ => by rw [e]; rfl) fun cdv A outer s H vs Q E hr ⟨a, y, e, ha, q⟩ => ?_
  subst e
  exact run_xinit xb_ve ox hnomost (fun ta h => pe_xinitO xb_ve rfl hk ga rd vV hh_VE h) rfl (by first | exact Or.inl rfl | exact Or.inr (Or.inl rfl)) (by first | exact Or.inl rfl | exact Or.inr (Or.inl rfl)) (by decide) (by decide) rfl rfl rfl rfl ha q
theorem kn_TooLong (Fn : Fun K "__init__" "TooLong.__init__" s_TooLong___init__ f fd) : ∀ (s : Shared) (x : Value) (ws : List Value), K.In s.heap → ws.length = [("most" : Str)].length → BindsTo s fd ⟨[x], List.zip [("most" : Str)] ws⟩ (List.zip [("self" : Str), ("most" : Str)] (x :: gg false ws)) := by
  intro s x ws _ l
  obtain ⟨oc, od, kV, doc, pm, an, cdv, ct, osl, rfl, lk, hcd⟩ := Fn.ex
  match ws, l with
  | [a], _ => exact .of_eq rfl
theorem ok_NoOrnament (ox : OxC K "ValueError.__new__" veTl N) (hnokind : PySem.W.findIn K (.ref N) "kind" = some none) (hk : mg "KindError" = some (.ref D)) (ga : PySem.W.specialIn K (.ref D) "__getattribute__" = some (some (.builtin "type.__getattribute__"))) (rd : PySem.W.readsIn K D (.type "type") = true) (vV : PySem.W.findCls K (.ref D) (.type "type") "__init__" = some (.val (.builtin "ValueError.__init__"))) (Fn : Fun K "__init__" "NoOrnament.__init__" s_NoOrnament___init__ f fd) : GnOk P w K mg base CX0 (k + 1) f fd ["self", "kind"] (spX N "kind") := by
  refine Fn.gn sc_NoOrnament___init__ (fun vs H Q E ⟨a, y, e, _⟩ => by rw [e]; rfl) fun cdv A outer s H vs Q E hr ⟨a, y, e, ha, q⟩ => ?_
  subst e
  exact run_xinit xb_ve ox hnokind (fun ta h => pe_xinitO xb_ve rfl hk ga rd vV hh_VE h) rfl (by first | exact Or.inl rfl | exact Or.inr (Or.inl rfl)) (by first | exact Or.inl rfl | exact Or.inr (Or.inl rfl)) (by decide) (by decide) rfl rfl rfl rfl ha q
theorem kn_NoOrnament (Fn : Fun K "__init__" "NoOrnament.__init__" s_NoOrnament___init__ f fd) : ∀ (s : Shared) (x : Value) (ws : List Value), K.In s.heap → ws.length = [("kind" : Str)].length → BindsTo s fd ⟨[x], List.zip [("kind" : Str)] ws⟩ (List.zip [("self" : Str), ("kind" : Str)] (x :: gg false ws)) := by
  intro s x ws _ l
  obtain ⟨oc, od, kV, doc, pm, an, cdv, ct, osl, rfl, lk, hcd⟩ := Fn.ex
  match ws, l with
  | [a], _ => exact .of_eq rfl
theorem ok_NoDress (ox : OxC K "ValueError.__new__" veTl N) (hnorow : PySem.W.findIn K (.ref N) "row" = some none) (hk : mg "KindError" = some (.ref D)) (ga : PySem.W.specialIn K (.ref D) "__getattribute__" = some (some (.builtin "type.__getattribute__"))) (rd : PySem.W.readsIn K D (.type "type") = true) (vV : PySem.W.findCls K (.ref D) (.type "type") "__init__" = some (.val (.builtin "ValueError.__init__"))) (Fn : Fun K "__init__" "NoDress.__init__" s_NoDress___init__ f fd) : GnOk P w K mg base CX0 (k + 1) f fd ["self", "row"] (spX N "row") := by
  refine Fn.gn sc_NoDress___init__ (fun vs H Q E ⟨a, y, e, _⟩ => by rw [e]; rfl) fun cdv A outer s H vs Q E hr ⟨a, y, e, ha, q⟩ => ?_
  subst e
  exact run_xinit xb_ve ox hnorow (fun ta h => pe_xinitO xb_ve rfl hk ga rd vV hh_VE h) rfl (by first | exact Or.inl rfl | exact Or.inr (Or.inl rfl)) (by first | exact Or.inl rfl | exact Or.inr (Or.inl rfl)) (by decide) (by decide) rfl rfl rfl rfl ha q
theorem kn_NoDress (Fn : Fun K "__init__" "NoDress.__init__" s_NoDress___init__ f fd) : ∀ (s : Shared) (x : Value) (ws : List Value), K.In s.heap → ws.length = [("row" : Str)].length → BindsTo s fd ⟨[x], List.zip [("row" : Str)] ws⟩ (List.zip [("self" : Str), ("row" : Str)] (x :: gg false ws)) := by
  intro s x ws _ l
  obtain ⟨oc, od, kV, doc, pm, an, cdv, ct, osl, rfl, lk, hcd⟩ := Fn.ex
  match ws, l with
  | [a], _ => exact .of_eq rfl
theorem ok_NoFilling (ox : OxC K "ValueError.__new__" veTl N) (hnothing : PySem.W.findIn K (.ref N) "thing" = some none) (hk : mg "KindError" = some (.ref D)) (ga : PySem.W.specialIn K (.ref D) "__getattribute__" = some (some (.builtin "type.__getattribute__"))) (rd : PySem.W.readsIn K D (.type "type") = true) (vV : PySem.W.findCls K (.ref D) (.type "type") "__init__" = some (.val (.builtin "ValueError.__init__"))) (Fn : Fun K "__init__" "NoFilling.__init__" s_NoFilling___init__ f fd) : GnOk P w K mg base CX0 (k + 1) f fd ["self", "thing"] (spX N "thing") := by
  refine Fn.gn sc_NoFilling___init__ (fun vs H Q E ⟨a, y, e, _⟩ => by rw [e]; rfl) fun cdv A outer s H vs Q E hr ⟨a, y, e, ha, q⟩ => ?_
  subst e
  exact run_xinit xb_ve ox hnothing (fun ta h => pe_xinitO xb_ve rfl hk ga rd vV hh_VE h) rfl (by first | exact Or.inl rfl | exact Or.inr (Or.inl rfl)) (by first | exact Or.inl rfl | exact Or.inr (Or.inl rfl)) (by decide) (by decide) rfl rfl rfl rfl ha q
theorem kn_NoFilling (Fn : Fun K "__init__" "NoFilling.__init__" s_NoFilling___init__ f fd) : ∀ (s : Shared) (x : Value) (ws : List Value), K.In s.heap → ws.length = [("thing" : Str)].length → BindsTo s fd ⟨[x], List.zip [("thing" : Str)] ws⟩ (List.zip [("self" : Str), ("thing" : Str)] (x :: gg false ws)) := by
  intro s x ws _ l
  obtain ⟨oc, od, kV, doc, pm, an, cdv, ct, osl, rfl, lk, hcd⟩ := Fn.ex
  match ws, l with
  | [a], _ => exact .of_eq rfl
theorem ok_Gap (ox : OxC K "ValueError.__new__" veTl N) (hnorow : PySem.W.findIn K (.ref N) "row" = some none) (hnowhat : PySem.W.findIn K (.ref N) "what" = some none) (hk : mg "KindError" = some (.ref D)) (ga : PySem.W.specialIn K (.ref D) "__getattribute__" = some (some (.builtin "type.__getattribute__"))) (rd : PySem.W.readsIn K D (.type "type") = true) (vV : PySem.W.findCls K (.ref D) (.type "type") "__init__" = some (.val (.builtin "ValueError.__init__"))) (Fn : Fun K "__init__" "Gap.__init__" s_Gap___init__ f fd) : GnOk P w K mg base CX0 (k + 1) f fd ["self", "row", "what"] (spXs N ["row", "what"]) := by
  refine Fn.gn sc_Gap___init__ (fun vs H Q E ⟨a, ys, e, l, _⟩ => by rw [e, List.length_cons, l]; rfl) fun cdv A outer s H vs Q E hr ⟨a, ys, e, l, ha, q⟩ => ?_
  subst e
  match ys, l with
  | [y, z], _ => exact run_xinit2 xb_ve ox hnorow hnowhat (fun ta h => pe_xinitO xb_ve rfl hk ga rd vV hh_VE h) rfl (by first | exact Or.inl rfl | exact Or.inr (Or.inl rfl)) (by first | exact Or.inl rfl | exact Or.inr (Or.inl rfl)) (by first | exact Or.inl rfl | exact Or.inr (Or.inl rfl)) (by decide) (by decide) (by decide) (by decide) rfl rfl rfl rfl rfl ha q
theorem kn_Gap (Fn : Fun K "__init__" "Gap.__init__" s_Gap___init__ f fd) : ∀ (s : Shared) (x : Value) (ws : List Value), K.In s.heap → ws.length = [("what" : Str), "row"].length → BindsTo s fd ⟨[x], List.zip [("what" : Str), ("row" : Str)] ws⟩ (List.zip [("self" : Str), ("row" : Str), ("what" : Str)] (x :: gg true ws)) := by
  intro s x ws _ l
  obtain ⟨oc, od, kV, doc, pm, an, cdv, ct, osl, rfl, lk, hcd⟩ := Fn.ex
  match ws, l with
  | [a, b], _ => exact .of_eq rfl
theorem ok_NoIndex (ox : OxC K "ValueError.__new__" veTl N) (hnobough : PySem.W.findIn K (.ref N) "bough" = some none) (hk : mg "KindError" = some (.ref D)) (ga : PySem.W.specialIn K (.ref D) "__getattribute__" = some (some (.builtin "type.__getattribute__"))) (rd : PySem.W.readsIn K D (.type "type") = true) (vV : PySem.W.findCls K (.ref D) (.type "type") "__init__" = some (.val (.builtin "ValueError.__init__"))) (Fn : Fun K "__init__" "NoIndex.__init__" s_NoIndex___init__ f fd) : GnOk P w K mg base CX0 (k + 1) f fd ["self", "bough"] (spX N "bough") := by
  refine Fn.gn sc_NoIndex___init__ (fun vs H Q E ⟨a, y, e, _⟩ => by rw [e]; rfl) fun cdv A outer s H vs Q E hr ⟨a, y, e, ha, q⟩ => ?_
  subst e
  exact run_xinit xb_ve ox hnobough (fun ta h => pe_xinitO xb_ve rfl hk ga rd vV hh_VE h) rfl (by first | exact Or.inl rfl | exact Or.inr (Or.inl rfl)) (by first | exact Or.inl rfl | exact Or.inr (Or.inl rfl)) (by decide) (by decide) rfl rfl rfl rfl ha q
theorem kn_NoIndex (Fn : Fun K "__init__" "NoIndex.__init__" s_NoIndex___init__ f fd) : ∀ (s : Shared) (x : Value) (ws : List Value), K.In s.heap → ws.length = [("bough" : Str)].length → BindsTo s fd ⟨[x], List.zip [("bough" : Str)] ws⟩ (List.zip [("self" : Str), ("bough" : Str)] (x :: gg false ws)) := by
  intro s x ws _ l
  obtain ⟨oc, od, kV, doc, pm, an, cdv, ct, osl, rfl, lk, hcd⟩ := Fn.ex
  match ws, l with
  | [a], _ => exact .of_eq rfl
theorem ok_NoName (ox : OxC K "ValueError.__new__" veTl N) (hnoname : PySem.W.findIn K (.ref N) "name" = some none) (hk : mg "KindError" = some (.ref D)) (ga : PySem.W.specialIn K (.ref D) "__getattribute__" = some (some (.builtin "type.__getattribute__"))) (rd : PySem.W.readsIn K D (.type "type") = true) (vV : PySem.W.findCls K (.ref D) (.type "type") "__init__" = some (.val (.builtin "ValueError.__init__"))) (Fn : Fun K "__init__" "NoName.__init__" s_NoName___init__ f fd) : GnOk P w K mg base CX0 (k + 1) f fd ["self", "name"] (spX N "name") := by
  refine Fn.gn sc_NoName___init__ (fun vs H Q E ⟨a, y, e, _⟩ => by rw [e]; rfl) fun cdv A outer s H vs Q E hr ⟨a, y, e, ha, q⟩ => ?_
  subst e
  exact run_xinit xb_ve ox hnoname (fun ta h => pe_xinitO xb_ve rfl hk ga rd vV hh_VE h) rfl (by first | exact Or.inl rfl | exact Or.inr (Or.inl rfl)) (by first | exact Or.inl rfl | exact Or.inr (Or.inl rfl)) (by decide) (by decide) rfl rfl rfl rfl ha q
theorem kn_NoName (Fn : Fun K "__init__" "NoName.__init__" s_NoName___init__ f fd) : ∀ (s : Shared) (x : Value) (ws : List Value), K.In s.heap → ws.length = [("name" : Str)].length → BindsTo s fd ⟨[x], List.zip [("name" : Str)] ws⟩ (List.zip [("self" : Str), ("name" : Str)] (x :: gg false ws)) := by
  intro s x ws _ l
  obtain ⟨oc, od, kV, doc, pm, an, cdv, ct, osl, rfl, lk, hcd⟩ := Fn.ex
  match ws, l with
  | [a], _ => exact .of_eq rfl
theorem ok_Taken (ox : OxC K "ValueError.__new__" veTl N) (hnoname : PySem.W.findIn K (.ref N) "name" = some none) (hk : mg "KindError" = some (.ref D)) (ga : PySem.W.specialIn K (.ref D) "__getattribute__" = some (some (.builtin "type.__getattribute__"))) (rd : PySem.W.readsIn K D (.type "type") = true) (vV : PySem.W.findCls K (.ref D) (.type "type") "__init__" = some (.val (.builtin "ValueError.__init__"))) (Fn : Fun K "__init__" "Taken.__init__" s_Taken___init__ f fd) : GnOk P w K mg base CX0 (k + 1) f fd ["self", "name"] (spX N "name") := by
  refine Fn.gn sc_Taken___init__ (fun vs H Q E ⟨a, y, e, _⟩ => by rw [e]; rfl) fun cdv A outer s H vs Q E hr ⟨a, y, e, ha, q⟩ => ?_
  subst e
  exact run_xinit xb_ve ox hnoname (fun ta h => pe_xinitO xb_ve rfl hk ga rd vV hh_VE h) rfl (by first | exact Or.inl rfl | exact Or.inr (Or.inl rfl)) (by first | exact Or.inl rfl | exact Or.inr (Or.inl rfl)) (by decide) (by decide) rfl rfl rfl rfl ha q
theorem kn_Taken (Fn : Fun K "__init__" "Taken.__init__" s_Taken___init__ f fd) : ∀ (s : Shared) (x : Value) (ws : List Value), K.In s.heap → ws.length = [("name" : Str)].length → BindsTo s fd ⟨[x], List.zip [("name" : Str)] ws⟩ (List.zip [("self" : Str), ("name" : Str)] (x :: gg false ws)) := by
  intro s x ws _ l
  obtain ⟨oc, od, kV, doc, pm, an, cdv, ct, osl, rfl, lk, hcd⟩ := Fn.ex
  match ws, l with
  | [a], _ => exact .of_eq rfl
theorem ok_InUse (ox : OxC K "ValueError.__new__" veTl N) (hnoname : PySem.W.findIn K (.ref N) "name" = some none) (hk : mg "KindError" = some (.ref D)) (ga : PySem.W.specialIn K (.ref D) "__getattribute__" = some (some (.builtin "type.__getattribute__"))) (rd : PySem.W.readsIn K D (.type "type") = true) (vV : PySem.W.findCls K (.ref D) (.type "type") "__init__" = some (.val (.builtin "ValueError.__init__"))) (Fn : Fun K "__init__" "InUse.__init__" s_InUse___init__ f fd) : GnOk P w K mg base CX0 (k + 1) f fd ["self", "name"] (spX N "name") := by
  refine Fn.gn sc_InUse___init__ (fun vs H Q E ⟨a, y, e, _⟩ => by rw [e]; rfl) fun cdv A outer s H vs Q E hr ⟨a, y, e, ha, q⟩ => ?_
  subst e
  exact run_xinit xb_ve ox hnoname (fun ta h => pe_xinitO xb_ve rfl hk ga rd vV hh_VE h) rfl (by first | exact Or.inl rfl | exact Or.inr (Or.inl rfl)) (by first | exact Or.inl rfl | exact Or.inr (Or.inl rfl)) (by decide) (by decide) rfl rfl rfl rfl ha q
theorem kn_InUse (Fn : Fun K "__init__" "InUse.__init__" s_InUse___init__ f fd) : ∀ (s : Shared) (x : Value) (ws : List Value), K.In s.heap → ws.length = [("name" : Str)].length → BindsTo s fd ⟨[x], List.zip [("name" : Str)] ws⟩ (List.zip [("self" : Str), ("name" : Str)] (x :: gg false ws)) := by
  intro s x ws _ l
  obtain ⟨oc, od, kV, doc, pm, an, cdv, ct, osl, rfl, lk, hcd⟩ := Fn.ex
  match ws, l with
  | [a], _ => exact .of_eq rfl
theorem ok_NoKind (ox : OxC K "LookupError.__new__" keTl N) (hnokind : PySem.W.findIn K (.ref N) "kind" = some none) (hk : mg "KeyError" = none) (Fn : Fun K "__init__" "NoKind.__init__" s_NoKind___init__ f fd) : GnOk P w K mg base CX0 (k + 1) f fd ["self", "kind"] (spX N "kind") := by
  refine Fn.gn sc_NoKind___init__ (fun vs H Q E ⟨a, y, e, _⟩ => by rw [e]; rfl) fun cdv A outer s H vs Q E hr ⟨a, y, e, ha, q⟩ => ?_
  subst e
  exact run_xinit xb_ke ox hnokind (fun ta h => pe_xinitB xb_ke rfl hk boot_KE ty_KE (by decide +kernel) (vv_ke K) hh_KE h) rfl (by first | exact Or.inl rfl | exact Or.inr (Or.inl rfl)) (by first | exact Or.inl rfl | exact Or.inr (Or.inl rfl)) (by decide) (by decide) rfl rfl rfl rfl ha q
theorem kn_NoKind (Fn : Fun K "__init__" "NoKind.__init__" s_NoKind___init__ f fd) : ∀ (s : Shared) (x : Value) (ws : List Value), K.In s.heap → ws.length = [("kind" : Str)].length → BindsTo s fd ⟨[x], List.zip [("kind" : Str)] ws⟩ (List.zip [("self" : Str), ("kind" : Str)] (x :: gg false ws)) := by
  intro s x ws _ l
  obtain ⟨oc, od, kV, doc, pm, an, cdv, ct, osl, rfl, lk, hcd⟩ := Fn.ex
  match ws, l with
  | [a], _ => exact .of_eq rfl
theorem ok_NoBough (ox : OxC K "LookupError.__new__" keTl N) (hnobough : PySem.W.findIn K (.ref N) "bough" = some none) (hk : mg "KeyError" = none) (Fn : Fun K "__init__" "NoBough.__init__" s_NoBough___init__ f fd) : GnOk P w K mg base CX0 (k + 1) f fd ["self", "bough"] (spX N "bough") := by
  refine Fn.gn sc_NoBough___init__ (fun vs H Q E ⟨a, y, e, _⟩ => by rw [e]; rfl) fun cdv A outer s H vs Q E hr ⟨a, y, e, ha, q⟩ => ?_
  subst e
  exact run_xinit xb_ke ox hnobough (fun ta h => pe_xinitB xb_ke rfl hk boot_KE ty_KE (by decide +kernel) (vv_ke K) hh_KE h) rfl (by first | exact Or.inl rfl | exact Or.inr (Or.inl rfl)) (by first | exact Or.inl rfl | exact Or.inr (Or.inl rfl)) (by decide) (by decide) rfl rfl rfl rfl ha q
theorem kn_NoBough (Fn : Fun K "__init__" "NoBough.__init__" s_NoBough___init__ f fd) : ∀ (s : Shared) (x : Value) (ws : List Value), K.In s.heap → ws.length = [("bough" : Str)].length → BindsTo s fd ⟨[x], List.zip [("bough" : Str)] ws⟩ (List.zip [("self" : Str), ("bough" : Str)] (x :: gg false ws)) := by
  intro s x ws _ l
  obtain ⟨oc, od, kV, doc, pm, an, cdv, ct, osl, rfl, lk, hcd⟩ := Fn.ex
  match ws, l with
  | [a], _ => exact .of_eq rfl
end
end KB
namespace Dk
open PySem L2 PySem.Spec PyProof.Rows
section
variable {F : PySem.W.Frag → Bool} {fn : List He.FnD} {K : PySem.W.Frag}
theorem SaysX.fact (c : SaysX F fn K) : F K = true := (He.ba (show (F K && fn.all fun d => (He.Fa.code d.at_ d.qual).ok K) = true from congrArg (fun z : Bool × List He.FnV => z.1) c)).1
theorem SaysX.def_ (c : SaysX F fn K) (i : Nat) {d : He.FnD} (h : fn[i]? = some d := by rfl) :
    ∃ oc od osl kV doc pm an cdv ct, K.lookup (He.fAd K d.at_) = some ⟨oc, od, .func (PySem.W.fnOf d.name d.qual d.params d.body d.scope .none kV doc pm an cdv ct), osl⟩ ∧ PySem.W.codeIn K cdv d.qual = true := by
  have c2 := (He.ba (show (F K && fn.all fun d => (He.Fa.code d.at_ d.qual).ok K) = true from congrArg (fun z : Bool × List He.FnV => z.1) c)).2
  have e : fn.map (fun d => He.fnObs K d.at_) = fn.map He.FnD.val := congrArg (fun z : Bool × List He.FnV => z.2) c
  have e2 : (fn.map fun d => He.fnObs K d.at_)[i]? = (fn.map He.FnD.val)[i]? := by rw [e]
  rw [List.getElem?_map, List.getElem?_map, h] at e2
  exact He.fn_ok (Option.some.inj e2) (List.all_eq_true.mp c2 d (List.mem_of_getElem? h))
end
theorem faS_in {K : PySem.W.Frag} {x z : Str} (c : (He.Fa.str x z).ok K = true) : ∃ t, PySem.W.nsIn K mainGlobals x = some (some (.str z t)) := by
  have c2 : (match PySem.W.nsIn K mainGlobals x with
    | some (some (.str y _)) => decide (y = z)
    | _ => false) = true := c
  cases e : PySem.W.nsIn K mainGlobals x with
  | none => rw [e] at c2; cases c2
  | some o =>
    rw [e] at c2
    cases o with
    | none => cases c2
    | some v =>
      cases v with
      | str y t =>
        have ej : y = z := of_decide_eq_true c2
        exact ⟨t, by rw [ej]⟩
      | _ => cases c2
theorem faI_in {K : PySem.W.Frag} {x : Str} {i : Int} (c : (He.Fa.int x i).ok K = true) : ∃ t, PySem.W.nsIn K mainGlobals x = some (some (.int i t)) := by
  have c2 : (match PySem.W.nsIn K mainGlobals x with
    | some (some (.int j _)) => decide (j = i)
    | _ => false) = true := c
  cases e : PySem.W.nsIn K mainGlobals x with
  | none => rw [e] at c2; cases c2
  | some o =>
    rw [e] at c2
    cases o with
    | none => cases c2
    | some v =>
      cases v with
      | int j t =>
        have ej : j = i := of_decide_eq_true c2
        exact ⟨t, by rw [ej]⟩
      | _ => cases c2
theorem walk_gnE {l : PySem.W.OpenLaw} {n k : Nat} {q : Program} {loose : List Str} {XP : (Str → Option Value) → Heap → Prop} {YP : World → Heap → Prop} {d : DefRec} {x : Str} {sp : PySem.W.Frag → Sp}
    (hn : l.most = some n) (hn2 : n ≤ sizeLine) (hdf : d.params.defaults = []) (room : Room k callerA)
    (F : ∀ (w : World) (mg : Str → Option Value) (fa : Addr) (h : Heap), YP w h → h.Ns mainGlobals mg → mg d.name = some (.ref fa) →
      ∃ (K : PySem.W.Frag) (fd : FuncData), K.In h ∧ (∀ (s : Shared) (u : Value), BindsTo s fd ⟨[u], []⟩ [(x, u)]) ∧ ∀ base : Heap, K.In base → base.Ns mainGlobals mg → GnOk l.prog w K mg base CX0 k fa fd [x] (sp K))
    (says : ∀ (K : PySem.W.Frag) (H : Hp) (a : Addr) (ns : List Int), ns.length ≤ n → SqL K H a (ns.map V.int) → sp K [.ref a] H (fun v _ => v = .bl true) fun _ _ _ => False) :
    PySem.W.WalkO q loose XP YP l.row.toRowW d [] (fun f vs => PySem.call f vs) := by
  refine Att.attach_call hn hdf fun w s0 s1 mg mb fa o pm cd doc a us ns G Y ho hd hcd hmg hobj hints hlen hg => ?_
  obtain ⟨K, fd, KX, hb, hF⟩ := F w mg fa _ Y G.T.g hmg
  exact law_gn KX G.T.g G.T.b G.T.builtins G.T.nolimit hg hobj hints (Nat.le_trans hlen hn2) room hF hb (fun H _ hS => says _ H a ns hlen hS) fun H e s' z => z
end Dk
namespace KB
open PySem L2 Dk PySem.Spec PyProof.Rows
theorem all_mk {l : PySem.W.OpenLaw} {w : World} {K : PySem.W.Frag} {h : Heap} {mg : Str → Option Value} {fa : Addr} (X : K.In h) (G : h.Ns mainGlobals mg) (hfa : mg "law" = some (.ref fa))
    {C_Bare : Addr}
    {C_NoFun : Addr}
    {C_NoFall : Addr}
    {C_TooLong : Addr}
    {C_NoOrnament : Addr}
    {C_NoDress : Addr}
    {C_NoFilling : Addr}
    {C_Gap : Addr}
    {C_NoIndex : Addr}
    {C_NoName : Addr}
    {C_Taken : Addr}
    {C_InUse : Addr}
    {C_NoKind : Addr}
    {C_NoBough : Addr}
    {C_KindError : Addr}
    {f1 : Addr} {od1 an1 : Option Addr} {sl1 : Array (Option Value)} {oc1 kV1 dc1 pm1 cd1 ct1 : Value}
    {f2 : Addr} {od2 an2 : Option Addr} {sl2 : Array (Option Value)} {oc2 kV2 dc2 pm2 cd2 ct2 : Value}
    {f3 : Addr} {od3 an3 : Option Addr} {sl3 : Array (Option Value)} {oc3 kV3 dc3 pm3 cd3 ct3 : Value}
    {f4 : Addr} {od4 an4 : Option Addr} {sl4 : Array (Option Value)} {oc4 kV4 dc4 pm4 cd4 ct4 : Value}
    {f5 : Addr} {od5 an5 : Option Addr} {sl5 : Array (Option Value)} {oc5 kV5 dc5 pm5 cd5 ct5 : Value}
    {f6 : Addr} {od6 an6 : Option Addr} {sl6 : Array (Option Value)} {oc6 kV6 dc6 pm6 cd6 ct6 : Value}
    {f7 : Addr} {od7 an7 : Option Addr} {sl7 : Array (Option Value)} {oc7 kV7 dc7 pm7 cd7 ct7 : Value}
    {f8 : Addr} {od8 an8 : Option Addr} {sl8 : Array (Option Value)} {oc8 kV8 dc8 pm8 cd8 ct8 : Value}
    {f9 : Addr} {od9 an9 : Option Addr} {sl9 : Array (Option Value)} {oc9 kV9 dc9 pm9 cd9 ct9 : Value}
    {f10 : Addr} {od10 an10 : Option Addr} {sl10 : Array (Option Value)} {oc10 kV10 dc10 pm10 cd10 ct10 : Value}
    {f11 : Addr} {od11 an11 : Option Addr} {sl11 : Array (Option Value)} {oc11 kV11 dc11 pm11 cd11 ct11 : Value}
    {f12 : Addr} {od12 an12 : Option Addr} {sl12 : Array (Option Value)} {oc12 kV12 dc12 pm12 cd12 ct12 : Value}
    {f13 : Addr} {od13 an13 : Option Addr} {sl13 : Array (Option Value)} {oc13 kV13 dc13 pm13 cd13 ct13 : Value}
    {f14 : Addr} {od14 an14 : Option Addr} {sl14 : Array (Option Value)} {oc14 kV14 dc14 pm14 cd14 ct14 : Value}
    {f15 : Addr} {od15 an15 : Option Addr} {sl15 : Array (Option Value)} {oc15 kV15 dc15 pm15 cd15 ct15 : Value}
    {f16 : Addr} {od16 an16 : Option Addr} {sl16 : Array (Option Value)} {oc16 kV16 dc16 pm16 cd16 ct16 : Value}
    {f17 : Addr} {od17 an17 : Option Addr} {sl17 : Array (Option Value)} {oc17 kV17 dc17 pm17 cd17 ct17 : Value}
    {f18 : Addr} {od18 an18 : Option Addr} {sl18 : Array (Option Value)} {oc18 kV18 dc18 pm18 cd18 ct18 : Value}
    {f19 : Addr} {od19 an19 : Option Addr} {sl19 : Array (Option Value)} {oc19 kV19 dc19 pm19 cd19 ct19 : Value}
    {f20 : Addr} {od20 an20 : Option Addr} {sl20 : Array (Option Value)} {oc20 kV20 dc20 pm20 cd20 ct20 : Value}
    {f21 : Addr} {od21 an21 : Option Addr} {sl21 : Array (Option Value)} {oc21 kV21 dc21 pm21 cd21 ct21 : Value}
    {f22 : Addr} {od22 an22 : Option Addr} {sl22 : Array (Option Value)} {oc22 kV22 dc22 pm22 cd22 ct22 : Value}
    {f23 : Addr} {od23 an23 : Option Addr} {sl23 : Array (Option Value)} {oc23 kV23 dc23 pm23 cd23 ct23 : Value}
    {f24 : Addr} {od24 an24 : Option Addr} {sl24 : Array (Option Value)} {oc24 kV24 dc24 pm24 cd24 ct24 : Value}
    {f25 : Addr} {od25 an25 : Option Addr} {sl25 : Array (Option Value)} {oc25 kV25 dc25 pm25 cd25 ct25 : Value}
    {t_NUM : Tok}
    {t_SUM : Tok}
    {t_TOP : Tok}
    {t_RUNS : Tok}
    {C_NoBook : Addr}
    {C_NoText : Addr}
    {C_NoBack : Addr}
    {C_Unlike : Addr}
    (aCBare : PySem.W.nsIn K mainGlobals "Bare" = some (some (.ref C_Bare)))
    (aCNoFun : PySem.W.nsIn K mainGlobals "NoFun" = some (some (.ref C_NoFun)))
    (aCNoFall : PySem.W.nsIn K mainGlobals "NoFall" = some (some (.ref C_NoFall)))
    (aCTooLong : PySem.W.nsIn K mainGlobals "TooLong" = some (some (.ref C_TooLong)))
    (aCNoOrnament : PySem.W.nsIn K mainGlobals "NoOrnament" = some (some (.ref C_NoOrnament)))
    (aCNoDress : PySem.W.nsIn K mainGlobals "NoDress" = some (some (.ref C_NoDress)))
    (aCNoFilling : PySem.W.nsIn K mainGlobals "NoFilling" = some (some (.ref C_NoFilling)))
    (aCGap : PySem.W.nsIn K mainGlobals "Gap" = some (some (.ref C_Gap)))
    (aCNoIndex : PySem.W.nsIn K mainGlobals "NoIndex" = some (some (.ref C_NoIndex)))
    (aCNoName : PySem.W.nsIn K mainGlobals "NoName" = some (some (.ref C_NoName)))
    (aCTaken : PySem.W.nsIn K mainGlobals "Taken" = some (some (.ref C_Taken)))
    (aCInUse : PySem.W.nsIn K mainGlobals "InUse" = some (some (.ref C_InUse)))
    (aCNoKind : PySem.W.nsIn K mainGlobals "NoKind" = some (some (.ref C_NoKind)))
    (aCNoBough : PySem.W.nsIn K mainGlobals "NoBough" = some (some (.ref C_NoBough)))
    (aCKindError : PySem.W.nsIn K mainGlobals "KindError" = some (some (.ref C_KindError)))
    (a1 : PySem.W.findIn K (.ref C_Bare) "__init__" = some (some (.ref f1))) (l1 : K.lookup f1 = some ⟨oc1, od1, .func (PySem.W.fnOf "__init__" "Bare.__init__" (defArgs s_Bare___init__) (defBody s_Bare___init__) (defScope s_Bare___init__) .none kV1 dc1 pm1 an1 cd1 ct1), sl1⟩) (c1 : PySem.W.codeIn K cd1 "Bare.__init__" = true) (k1 : PySem.W.keepIn K (.ref f1) = true)
    (i1 : PySem.W.isFn K (.ref f1) = true)
    (a2 : PySem.W.findIn K (.ref C_NoFun) "__init__" = some (some (.ref f2))) (l2 : K.lookup f2 = some ⟨oc2, od2, .func (PySem.W.fnOf "__init__" "NoFun.__init__" (defArgs s_NoFun___init__) (defBody s_NoFun___init__) (defScope s_NoFun___init__) .none kV2 dc2 pm2 an2 cd2 ct2), sl2⟩) (c2 : PySem.W.codeIn K cd2 "NoFun.__init__" = true) (k2 : PySem.W.keepIn K (.ref f2) = true)
    (i2 : PySem.W.isFn K (.ref f2) = true)
    (a3 : PySem.W.findIn K (.ref C_NoFall) "__init__" = some (some (.ref f3))) (l3 : K.lookup f3 = some ⟨oc3, od3, .func (PySem.W.fnOf "__init__" "NoFall.__init__" (defArgs s_NoFall___init__) (defBody s_NoFall___init__) (defScope s_NoFall___init__) .none kV3 dc3 pm3 an3 cd3 ct3), sl3⟩) (c3 : PySem.W.codeIn K cd3 "NoFall.__init__" = true) (k3 : PySem.W.keepIn K (.ref f3) = true)
    (i3 : PySem.W.isFn K (.ref f3) = true)
    (a4 : PySem.W.findIn K (.ref C_TooLong) "__init__" = some (some (.ref f4))) (l4 : K.lookup f4 = some ⟨oc4, od4, .func (PySem.W.fnOf "__init__" "TooLong.__init__" (defArgs s_TooLong___init__) (defBody s_TooLong___init__) (defScope s_TooLong___init__) .none kV4 dc4 pm4 an4 cd4 ct4), sl4⟩) (c4 : PySem.W.codeIn K cd4 "TooLong.__init__" = true) (k4 : PySem.W.keepIn K (.ref f4) = true)
    (i4 : PySem.W.isFn K (.ref f4) = true)
    (a5 : PySem.W.findIn K (.ref C_NoOrnament) "__init__" = some (some (.ref f5))) (l5 : K.lookup f5 = some ⟨oc5, od5, .func (PySem.W.fnOf "__init__" "NoOrnament.__init__" (defArgs s_NoOrnament___init__) (defBody s_NoOrnament___init__) (defScope s_NoOrnament___init__) .none kV5 dc5 pm5 an5 cd5 ct5), sl5⟩) (c5 : PySem.W.codeIn K cd5 "NoOrnament.__init__" = true) (k5 : PySem.W.keepIn K (.ref f5) = true)
    (i5 : PySem.W.isFn K (.ref f5) = true)
    (a6 : PySem.W.findIn K (.ref C_NoDress) "__init__" = some (some (.ref f6))) (l6 : K.lookup f6 = some ⟨oc6, od6, .func (PySem.W.fnOf "__init__" "NoDress.__init__" (defArgs s_NoDress___init__) (defBody s_NoDress___init__) (defScope s_NoDress___init__) .none kV6 dc6 pm6 an6 cd6 ct6), sl6⟩) (c6 : PySem.W.codeIn K cd6 "NoDress.__init__" = true) (k6 : PySem.W.keepIn K (.ref f6) = true)
    (i6 : PySem.W.isFn K (.ref f6) = true)
    (a7 : PySem.W.findIn K (.ref C_NoFilling) "__init__" = some (some (.ref f7))) (l7 : K.lookup f7 = some ⟨oc7, od7, .func (PySem.W.fnOf "__init__" "NoFilling.__init__" (defArgs s_NoFilling___init__) (defBody s_NoFilling___init__) (defScope s_NoFilling___init__) .none kV7 dc7 pm7 an7 cd7 ct7), sl7⟩) (c7 : PySem.W.codeIn K cd7 "NoFilling.__init__" = true) (k7 : PySem.W.keepIn K (.ref f7) = true)
    (i7 : PySem.W.isFn K (.ref f7) = true)
    (a8 : PySem.W.findIn K (.ref C_Gap) "__init__" = some (some (.ref f8))) (l8 : K.lookup f8 = some ⟨oc8, od8, .func (PySem.W.fnOf "__init__" "Gap.__init__" (defArgs s_Gap___init__) (defBody s_Gap___init__) (defScope s_Gap___init__) .none kV8 dc8 pm8 an8 cd8 ct8), sl8⟩) (c8 : PySem.W.codeIn K cd8 "Gap.__init__" = true) (k8 : PySem.W.keepIn K (.ref f8) = true)
    (i8 : PySem.W.isFn K (.ref f8) = true)
    (a9 : PySem.W.findIn K (.ref C_NoIndex) "__init__" = some (some (.ref f9))) (l9 : K.lookup f9 = some ⟨oc9, od9, .func (PySem.W.fnOf "__init__" "NoIndex.__init__" (defArgs s_NoIndex___init__) (defBody s_NoIndex___init__) (defScope s_NoIndex___init__) .none kV9 dc9 pm9 an9 cd9 ct9), sl9⟩) (c9 : PySem.W.codeIn K cd9 "NoIndex.__init__" = true) (k9 : PySem.W.keepIn K (.ref f9) = true)
    (i9 : PySem.W.isFn K (.ref f9) = true)
    (a10 : PySem.W.findIn K (.ref C_NoName) "__init__" = some (some (.ref f10))) (l10 : K.lookup f10 = some ⟨oc10, od10, .func (PySem.W.fnOf "__init__" "NoName.__init__" (defArgs s_NoName___init__) (defBody s_NoName___init__) (defScope s_NoName___init__) .none kV10 dc10 pm10 an10 cd10 ct10), sl10⟩) (c10 : PySem.W.codeIn K cd10 "NoName.__init__" = true) (k10 : PySem.W.keepIn K (.ref f10) = true)
    (i10 : PySem.W.isFn K (.ref f10) = true)
    (a11 : PySem.W.findIn K (.ref C_Taken) "__init__" = some (some (.ref f11))) (l11 : K.lookup f11 = some ⟨oc11, od11, .func (PySem.W.fnOf "__init__" "Taken.__init__" (defArgs s_Taken___init__) (defBody s_Taken___init__) (defScope s_Taken___init__) .none kV11 dc11 pm11 an11 cd11 ct11), sl11⟩) (c11 : PySem.W.codeIn K cd11 "Taken.__init__" = true) (k11 : PySem.W.keepIn K (.ref f11) = true)
    (i11 : PySem.W.isFn K (.ref f11) = true)
    (a12 : PySem.W.findIn K (.ref C_InUse) "__init__" = some (some (.ref f12))) (l12 : K.lookup f12 = some ⟨oc12, od12, .func (PySem.W.fnOf "__init__" "InUse.__init__" (defArgs s_InUse___init__) (defBody s_InUse___init__) (defScope s_InUse___init__) .none kV12 dc12 pm12 an12 cd12 ct12), sl12⟩) (c12 : PySem.W.codeIn K cd12 "InUse.__init__" = true) (k12 : PySem.W.keepIn K (.ref f12) = true)
    (i12 : PySem.W.isFn K (.ref f12) = true)
    (a13 : PySem.W.findIn K (.ref C_NoKind) "__init__" = some (some (.ref f13))) (l13 : K.lookup f13 = some ⟨oc13, od13, .func (PySem.W.fnOf "__init__" "NoKind.__init__" (defArgs s_NoKind___init__) (defBody s_NoKind___init__) (defScope s_NoKind___init__) .none kV13 dc13 pm13 an13 cd13 ct13), sl13⟩) (c13 : PySem.W.codeIn K cd13 "NoKind.__init__" = true) (k13 : PySem.W.keepIn K (.ref f13) = true)
    (i13 : PySem.W.isFn K (.ref f13) = true)
    (a14 : PySem.W.findIn K (.ref C_NoBough) "__init__" = some (some (.ref f14))) (l14 : K.lookup f14 = some ⟨oc14, od14, .func (PySem.W.fnOf "__init__" "NoBough.__init__" (defArgs s_NoBough___init__) (defBody s_NoBough___init__) (defScope s_NoBough___init__) .none kV14 dc14 pm14 an14 cd14 ct14), sl14⟩) (c14 : PySem.W.codeIn K cd14 "NoBough.__init__" = true) (k14 : PySem.W.keepIn K (.ref f14) = true)
    (i14 : PySem.W.isFn K (.ref f14) = true)
    (a15 : PySem.W.nsIn K mainGlobals "_law_deck" = some (some (.ref f15))) (l15 : K.lookup f15 = some ⟨oc15, od15, .func (PySem.W.fnOf "_law_deck" "_law_deck" (defArgs s__law_deck) (defBody s__law_deck) (defScope s__law_deck) .none kV15 dc15 pm15 an15 cd15 ct15), sl15⟩) (c15 : PySem.W.codeIn K cd15 "_law_deck" = true) (k15 : PySem.W.keepIn K (.ref f15) = true)
    (a16 : PySem.W.nsIn K mainGlobals "_law_draw" = some (some (.ref f16))) (l16 : K.lookup f16 = some ⟨oc16, od16, .func (PySem.W.fnOf "_law_draw" "_law_draw" (defArgs s__law_draw) (defBody s__law_draw) (defScope s__law_draw) .none kV16 dc16 pm16 an16 cd16 ct16), sl16⟩) (c16 : PySem.W.codeIn K cd16 "_law_draw" = true) (k16 : PySem.W.keepIn K (.ref f16) = true)
    (a17 : PySem.W.nsIn K mainGlobals "_law_pick" = some (some (.ref f17))) (l17 : K.lookup f17 = some ⟨oc17, od17, .func (PySem.W.fnOf "_law_pick" "_law_pick" (defArgs s__law_pick) (defBody s__law_pick) (defScope s__law_pick) .none kV17 dc17 pm17 an17 cd17 ct17), sl17⟩) (c17 : PySem.W.codeIn K cd17 "_law_pick" = true) (k17 : PySem.W.keepIn K (.ref f17) = true)
    (a18 : PySem.W.nsIn K mainGlobals "_law_kinds_of" = some (some (.ref f18))) (l18 : K.lookup f18 = some ⟨oc18, od18, .func (PySem.W.fnOf "_law_kinds_of" "_law_kinds_of" (defArgs s__law_kinds_of) (defBody s__law_kinds_of) (defScope s__law_kinds_of) .none kV18 dc18 pm18 an18 cd18 ct18), sl18⟩) (c18 : PySem.W.codeIn K cd18 "_law_kinds_of" = true) (k18 : PySem.W.keepIn K (.ref f18) = true)
    (a19 : PySem.W.nsIn K mainGlobals "_law_above" = some (some (.ref f19))) (l19 : K.lookup f19 = some ⟨oc19, od19, .func (PySem.W.fnOf "_law_above" "_law_above" (defArgs s__law_above) (defBody s__law_above) (defScope s__law_above) .none kV19 dc19 pm19 an19 cd19 ct19), sl19⟩) (c19 : PySem.W.codeIn K cd19 "_law_above" = true) (k19 : PySem.W.keepIn K (.ref f19) = true)
    (a20 : PySem.W.nsIn K mainGlobals "_law_made" = some (some (.ref f20))) (l20 : K.lookup f20 = some ⟨oc20, od20, .func (PySem.W.fnOf "_law_made" "_law_made" (defArgs s__law_made) (defBody s__law_made) (defScope s__law_made) .none kV20 dc20 pm20 an20 cd20 ct20), sl20⟩) (c20 : PySem.W.codeIn K cd20 "_law_made" = true) (k20 : PySem.W.keepIn K (.ref f20) = true)
    (a21 : PySem.W.nsIn K mainGlobals "_law_named" = some (some (.ref f21))) (l21 : K.lookup f21 = some ⟨oc21, od21, .func (PySem.W.fnOf "_law_named" "_law_named" (defArgs s__law_named) (defBody s__law_named) (defScope s__law_named) .none kV21 dc21 pm21 an21 cd21 ct21), sl21⟩) (c21 : PySem.W.codeIn K cd21 "_law_named" = true) (k21 : PySem.W.keepIn K (.ref f21) = true)
    (a22 : PySem.W.nsIn K mainGlobals "_law_fields" = some (some (.ref f22))) (l22 : K.lookup f22 = some ⟨oc22, od22, .func (PySem.W.fnOf "_law_fields" "_law_fields" (defArgs s__law_fields) (defBody s__law_fields) (defScope s__law_fields) .none kV22 dc22 pm22 an22 cd22 ct22), sl22⟩) (c22 : PySem.W.codeIn K cd22 "_law_fields" = true) (k22 : PySem.W.keepIn K (.ref f22) = true)
    (a23 : PySem.W.nsIn K mainGlobals "_law_right" = some (some (.ref f23))) (l23 : K.lookup f23 = some ⟨oc23, od23, .func (PySem.W.fnOf "_law_right" "_law_right" (defArgs s__law_right) (defBody s__law_right) (defScope s__law_right) .none kV23 dc23 pm23 an23 cd23 ct23), sl23⟩) (c23 : PySem.W.codeIn K cd23 "_law_right" = true) (k23 : PySem.W.keepIn K (.ref f23) = true)
    (a24 : PySem.W.nsIn K mainGlobals "_law_raised" = some (some (.ref f24))) (l24 : K.lookup f24 = some ⟨oc24, od24, .func (PySem.W.fnOf "_law_raised" "_law_raised" (defArgs s__law_raised) (defBody s__law_raised) (defScope s__law_raised) .none kV24 dc24 pm24 an24 cd24 ct24), sl24⟩) (c24 : PySem.W.codeIn K cd24 "_law_raised" = true) (k24 : PySem.W.keepIn K (.ref f24) = true)
    (a25 : PySem.W.nsIn K mainGlobals "law" = some (some (.ref f25))) (l25 : K.lookup f25 = some ⟨oc25, od25, .func (PySem.W.fnOf "law" "law" (defArgs s_law) (defBody s_law) (defScope s_law) .none kV25 dc25 pm25 an25 cd25 ct25), sl25⟩) (c25 : PySem.W.codeIn K cd25 "law" = true) (k25 : PySem.W.keepIn K (.ref f25) = true)
    (g_NUM : PySem.W.nsIn K mainGlobals "NUM" = some (some (.str "num" t_NUM)))
    (g_SUM : PySem.W.nsIn K mainGlobals "SUM" = some (some (.str "sum" t_SUM)))
    (g_TOP : PySem.W.nsIn K mainGlobals "TOP" = some (some (.str "top" t_TOP)))
    (g_RUNS : PySem.W.nsIn K mainGlobals "RUNS" = some (some (.int (400) t_RUNS)))
    (xoBare : PySem.W.excInitIn K C_Bare veTl "ValueError.__new__" = true) (xvBare : PySem.W.excOver K C_Bare veTl = true) (xdBare : PySem.W.hasDictIn K C_Bare = true) (xsBare : PySem.W.findIn K (.ref C_Bare) "__setattr__" = some (some (.builtin "object.__setattr__"))) (xeBare : PySem.W.subIn K (.ref C_Bare) (.type "BaseException") = some true) (xtBare : PySem.W.typeIn K (.ref C_Bare) = some (.type "type")) (xkBare : PySem.W.keepIn K (.ref C_Bare) = true) (xgBare : PySem.W.findIn K (.ref C_Bare) "__getattribute__" = some (some (.builtin "BaseException.__getattribute__"))) (xhBare : PySem.W.findIn K (.ref C_Bare) "__getattr__" = some none) (xaBare : PySem.W.findIn K (.ref C_Bare) "__class__" = some (some (.builtin "object.__class__"))) (xnBare : PySem.W.specialIn K (.builtin "object.__class__") "__get__" = some (some (.builtin "getset_descriptor.__get__"))) (xjBare : PySem.W.takesIn K (.builtin "object.__class__") = some true) (xmBare : PySem.W.mroIn K C_Bare (.type "object") = some true)
    (nBarekind : PySem.W.findIn K (.ref C_Bare) "kind" = some none)
    (xoNoFun : PySem.W.excInitIn K C_NoFun veTl "ValueError.__new__" = true) (xvNoFun : PySem.W.excOver K C_NoFun veTl = true) (xdNoFun : PySem.W.hasDictIn K C_NoFun = true) (xsNoFun : PySem.W.findIn K (.ref C_NoFun) "__setattr__" = some (some (.builtin "object.__setattr__"))) (xeNoFun : PySem.W.subIn K (.ref C_NoFun) (.type "BaseException") = some true) (xtNoFun : PySem.W.typeIn K (.ref C_NoFun) = some (.type "type")) (xkNoFun : PySem.W.keepIn K (.ref C_NoFun) = true) (xgNoFun : PySem.W.findIn K (.ref C_NoFun) "__getattribute__" = some (some (.builtin "BaseException.__getattribute__"))) (xhNoFun : PySem.W.findIn K (.ref C_NoFun) "__getattr__" = some none) (xaNoFun : PySem.W.findIn K (.ref C_NoFun) "__class__" = some (some (.builtin "object.__class__"))) (xnNoFun : PySem.W.specialIn K (.builtin "object.__class__") "__get__" = some (some (.builtin "getset_descriptor.__get__"))) (xjNoFun : PySem.W.takesIn K (.builtin "object.__class__") = some true) (xmNoFun : PySem.W.mroIn K C_NoFun (.type "object") = some true)
    (nNoFunrow : PySem.W.findIn K (.ref C_NoFun) "row" = some none)
    (xoNoFall : PySem.W.excInitIn K C_NoFall veTl "ValueError.__new__" = true) (xvNoFall : PySem.W.excOver K C_NoFall veTl = true) (xdNoFall : PySem.W.hasDictIn K C_NoFall = true) (xsNoFall : PySem.W.findIn K (.ref C_NoFall) "__setattr__" = some (some (.builtin "object.__setattr__"))) (xeNoFall : PySem.W.subIn K (.ref C_NoFall) (.type "BaseException") = some true) (xtNoFall : PySem.W.typeIn K (.ref C_NoFall) = some (.type "type")) (xkNoFall : PySem.W.keepIn K (.ref C_NoFall) = true) (xgNoFall : PySem.W.findIn K (.ref C_NoFall) "__getattribute__" = some (some (.builtin "BaseException.__getattribute__"))) (xhNoFall : PySem.W.findIn K (.ref C_NoFall) "__getattr__" = some none) (xaNoFall : PySem.W.findIn K (.ref C_NoFall) "__class__" = some (some (.builtin "object.__class__"))) (xnNoFall : PySem.W.specialIn K (.builtin "object.__class__") "__get__" = some (some (.builtin "getset_descriptor.__get__"))) (xjNoFall : PySem.W.takesIn K (.builtin "object.__class__") = some true) (xmNoFall : PySem.W.mroIn K C_NoFall (.type "object") = some true)
    (nNoFallrow : PySem.W.findIn K (.ref C_NoFall) "row" = some none)
    (xoTooLong : PySem.W.excInitIn K C_TooLong veTl "ValueError.__new__" = true) (xvTooLong : PySem.W.excOver K C_TooLong veTl = true) (xdTooLong : PySem.W.hasDictIn K C_TooLong = true) (xsTooLong : PySem.W.findIn K (.ref C_TooLong) "__setattr__" = some (some (.builtin "object.__setattr__"))) (xeTooLong : PySem.W.subIn K (.ref C_TooLong) (.type "BaseException") = some true) (xtTooLong : PySem.W.typeIn K (.ref C_TooLong) = some (.type "type")) (xkTooLong : PySem.W.keepIn K (.ref C_TooLong) = true) (xgTooLong : PySem.W.findIn K (.ref C_TooLong) "__getattribute__" = some (some (.builtin "BaseException.__getattribute__"))) (xhTooLong : PySem.W.findIn K (.ref C_TooLong) "__getattr__" = some none) (xaTooLong : PySem.W.findIn K (.ref C_TooLong) "__class__" = some (some (.builtin "object.__class__"))) (xnTooLong : PySem.W.specialIn K (.builtin "object.__class__") "__get__" = some (some (.builtin "getset_descriptor.__get__"))) (xjTooLong : PySem.W.takesIn K (.builtin "object.__class__") = some true) (xmTooLong : PySem.W.mroIn K C_TooLong (.type "object") = some true)
    (nTooLongmost : PySem.W.findIn K (.ref C_TooLong) "most" = some none)
    (xoNoOrnament : PySem.W.excInitIn K C_NoOrnament veTl "ValueError.__new__" = true) (xvNoOrnament : PySem.W.excOver K C_NoOrnament veTl = true) (xdNoOrnament : PySem.W.hasDictIn K C_NoOrnament = true) (xsNoOrnament : PySem.W.findIn K (.ref C_NoOrnament) "__setattr__" = some (some (.builtin "object.__setattr__"))) (xeNoOrnament : PySem.W.subIn K (.ref C_NoOrnament) (.type "BaseException") = some true) (xtNoOrnament : PySem.W.typeIn K (.ref C_NoOrnament) = some (.type "type")) (xkNoOrnament : PySem.W.keepIn K (.ref C_NoOrnament) = true) (xgNoOrnament : PySem.W.findIn K (.ref C_NoOrnament) "__getattribute__" = some (some (.builtin "BaseException.__getattribute__"))) (xhNoOrnament : PySem.W.findIn K (.ref C_NoOrnament) "__getattr__" = some none) (xaNoOrnament : PySem.W.findIn K (.ref C_NoOrnament) "__class__" = some (some (.builtin "object.__class__"))) (xnNoOrnament : PySem.W.specialIn K (.builtin "object.__class__") "__get__" = some (some (.builtin "getset_descriptor.__get__"))) (xjNoOrnament : PySem.W.takesIn K (.builtin "object.__class__") = some true) (xmNoOrnament : PySem.W.mroIn K C_NoOrnament (.type "object") = some true)
    (nNoOrnamentkind : PySem.W.findIn K (.ref C_NoOrnament) "kind" = some none)
    (xoNoDress : PySem.W.excInitIn K C_NoDress veTl "ValueError.__new__" = true) (xvNoDress : PySem.W.excOver K C_NoDress veTl = true) (xdNoDress : PySem.W.hasDictIn K C_NoDress = true) (xsNoDress : PySem.W.findIn K (.ref C_NoDress) "__setattr__" = some (some (.builtin "object.__setattr__"))) (xeNoDress : PySem.W.subIn K (.ref C_NoDress) (.type "BaseException") = some true) (xtNoDress : PySem.W.typeIn K (.ref C_NoDress) = some (.type "type")) (xkNoDress : PySem.W.keepIn K (.ref C_NoDress) = true) (xgNoDress : PySem.W.findIn K (.ref C_NoDress) "__getattribute__" = some (some (.builtin "BaseException.__getattribute__"))) (xhNoDress : PySem.W.findIn K (.ref C_NoDress) "__getattr__" = some none) (xaNoDress : PySem.W.findIn K (.ref C_NoDress) "__class__" = some (some (.builtin "object.__class__"))) (xnNoDress : PySem.W.specialIn K (.builtin "object.__class__") "__get__" = some (some (.builtin "getset_descriptor.__get__"))) (xjNoDress : PySem.W.takesIn K (.builtin "object.__class__") = some true) (xmNoDress : PySem.W.mroIn K C_NoDress (.type "object") = some true)
    (nNoDressrow : PySem.W.findIn K (.ref C_NoDress) "row" = some none)
    (xoNoFilling : PySem.W.excInitIn K C_NoFilling veTl "ValueError.__new__" = true) (xvNoFilling : PySem.W.excOver K C_NoFilling veTl = true) (xdNoFilling : PySem.W.hasDictIn K C_NoFilling = true) (xsNoFilling : PySem.W.findIn K (.ref C_NoFilling) "__setattr__" = some (some (.builtin "object.__setattr__"))) (xeNoFilling : PySem.W.subIn K (.ref C_NoFilling) (.type "BaseException") = some true) (xtNoFilling : PySem.W.typeIn K (.ref C_NoFilling) = some (.type "type")) (xkNoFilling : PySem.W.keepIn K (.ref C_NoFilling) = true) (xgNoFilling : PySem.W.findIn K (.ref C_NoFilling) "__getattribute__" = some (some (.builtin "BaseException.__getattribute__"))) (xhNoFilling : PySem.W.findIn K (.ref C_NoFilling) "__getattr__" = some none) (xaNoFilling : PySem.W.findIn K (.ref C_NoFilling) "__class__" = some (some (.builtin "object.__class__"))) (xnNoFilling : PySem.W.specialIn K (.builtin "object.__class__") "__get__" = some (some (.builtin "getset_descriptor.__get__"))) (xjNoFilling : PySem.W.takesIn K (.builtin "object.__class__") = some true) (xmNoFilling : PySem.W.mroIn K C_NoFilling (.type "object") = some true)
    (nNoFillingthing : PySem.W.findIn K (.ref C_NoFilling) "thing" = some none)
    (xoGap : PySem.W.excInitIn K C_Gap veTl "ValueError.__new__" = true) (xvGap : PySem.W.excOver K C_Gap veTl = true) (xdGap : PySem.W.hasDictIn K C_Gap = true) (xsGap : PySem.W.findIn K (.ref C_Gap) "__setattr__" = some (some (.builtin "object.__setattr__"))) (xeGap : PySem.W.subIn K (.ref C_Gap) (.type "BaseException") = some true) (xtGap : PySem.W.typeIn K (.ref C_Gap) = some (.type "type")) (xkGap : PySem.W.keepIn K (.ref C_Gap) = true) (xgGap : PySem.W.findIn K (.ref C_Gap) "__getattribute__" = some (some (.builtin "BaseException.__getattribute__"))) (xhGap : PySem.W.findIn K (.ref C_Gap) "__getattr__" = some none) (xaGap : PySem.W.findIn K (.ref C_Gap) "__class__" = some (some (.builtin "object.__class__"))) (xnGap : PySem.W.specialIn K (.builtin "object.__class__") "__get__" = some (some (.builtin "getset_descriptor.__get__"))) (xjGap : PySem.W.takesIn K (.builtin "object.__class__") = some true) (xmGap : PySem.W.mroIn K C_Gap (.type "object") = some true)
    (nGaprow : PySem.W.findIn K (.ref C_Gap) "row" = some none)
    (nGapwhat : PySem.W.findIn K (.ref C_Gap) "what" = some none)
    (xoNoIndex : PySem.W.excInitIn K C_NoIndex veTl "ValueError.__new__" = true) (xvNoIndex : PySem.W.excOver K C_NoIndex veTl = true) (xdNoIndex : PySem.W.hasDictIn K C_NoIndex = true) (xsNoIndex : PySem.W.findIn K (.ref C_NoIndex) "__setattr__" = some (some (.builtin "object.__setattr__"))) (xeNoIndex : PySem.W.subIn K (.ref C_NoIndex) (.type "BaseException") = some true) (xtNoIndex : PySem.W.typeIn K (.ref C_NoIndex) = some (.type "type")) (xkNoIndex : PySem.W.keepIn K (.ref C_NoIndex) = true) (xgNoIndex : PySem.W.findIn K (.ref C_NoIndex) "__getattribute__" = some (some (.builtin "BaseException.__getattribute__"))) (xhNoIndex : PySem.W.findIn K (.ref C_NoIndex) "__getattr__" = some none) (xaNoIndex : PySem.W.findIn K (.ref C_NoIndex) "__class__" = some (some (.builtin "object.__class__"))) (xnNoIndex : PySem.W.specialIn K (.builtin "object.__class__") "__get__" = some (some (.builtin "getset_descriptor.__get__"))) (xjNoIndex : PySem.W.takesIn K (.builtin "object.__class__") = some true) (xmNoIndex : PySem.W.mroIn K C_NoIndex (.type "object") = some true)
    (nNoIndexbough : PySem.W.findIn K (.ref C_NoIndex) "bough" = some none)
    (xoNoName : PySem.W.excInitIn K C_NoName veTl "ValueError.__new__" = true) (xvNoName : PySem.W.excOver K C_NoName veTl = true) (xdNoName : PySem.W.hasDictIn K C_NoName = true) (xsNoName : PySem.W.findIn K (.ref C_NoName) "__setattr__" = some (some (.builtin "object.__setattr__"))) (xeNoName : PySem.W.subIn K (.ref C_NoName) (.type "BaseException") = some true) (xtNoName : PySem.W.typeIn K (.ref C_NoName) = some (.type "type")) (xkNoName : PySem.W.keepIn K (.ref C_NoName) = true) (xgNoName : PySem.W.findIn K (.ref C_NoName) "__getattribute__" = some (some (.builtin "BaseException.__getattribute__"))) (xhNoName : PySem.W.findIn K (.ref C_NoName) "__getattr__" = some none) (xaNoName : PySem.W.findIn K (.ref C_NoName) "__class__" = some (some (.builtin "object.__class__"))) (xnNoName : PySem.W.specialIn K (.builtin "object.__class__") "__get__" = some (some (.builtin "getset_descriptor.__get__"))) (xjNoName : PySem.W.takesIn K (.builtin "object.__class__") = some true) (xmNoName : PySem.W.mroIn K C_NoName (.type "object") = some true)
    (nNoNamename : PySem.W.findIn K (.ref C_NoName) "name" = some none)
    (xoTaken : PySem.W.excInitIn K C_Taken veTl "ValueError.__new__" = true) (xvTaken : PySem.W.excOver K C_Taken veTl = true) (xdTaken : PySem.W.hasDictIn K C_Taken = true) (xsTaken : PySem.W.findIn K (.ref C_Taken) "__setattr__" = some (some (.builtin "object.__setattr__"))) (xeTaken : PySem.W.subIn K (.ref C_Taken) (.type "BaseException") = some true) (xtTaken : PySem.W.typeIn K (.ref C_Taken) = some (.type "type")) (xkTaken : PySem.W.keepIn K (.ref C_Taken) = true) (xgTaken : PySem.W.findIn K (.ref C_Taken) "__getattribute__" = some (some (.builtin "BaseException.__getattribute__"))) (xhTaken : PySem.W.findIn K (.ref C_Taken) "__getattr__" = some none) (xaTaken : PySem.W.findIn K (.ref C_Taken) "__class__" = some (some (.builtin "object.__class__"))) (xnTaken : PySem.W.specialIn K (.builtin "object.__class__") "__get__" = some (some (.builtin "getset_descriptor.__get__"))) (xjTaken : PySem.W.takesIn K (.builtin "object.__class__") = some true) (xmTaken : PySem.W.mroIn K C_Taken (.type "object") = some true)
    (nTakenname : PySem.W.findIn K (.ref C_Taken) "name" = some none)
    (xoInUse : PySem.W.excInitIn K C_InUse veTl "ValueError.__new__" = true) (xvInUse : PySem.W.excOver K C_InUse veTl = true) (xdInUse : PySem.W.hasDictIn K C_InUse = true) (xsInUse : PySem.W.findIn K (.ref C_InUse) "__setattr__" = some (some (.builtin "object.__setattr__"))) (xeInUse : PySem.W.subIn K (.ref C_InUse) (.type "BaseException") = some true) (xtInUse : PySem.W.typeIn K (.ref C_InUse) = some (.type "type")) (xkInUse : PySem.W.keepIn K (.ref C_InUse) = true) (xgInUse : PySem.W.findIn K (.ref C_InUse) "__getattribute__" = some (some (.builtin "BaseException.__getattribute__"))) (xhInUse : PySem.W.findIn K (.ref C_InUse) "__getattr__" = some none) (xaInUse : PySem.W.findIn K (.ref C_InUse) "__class__" = some (some (.builtin "object.__class__"))) (xnInUse : PySem.W.specialIn K (.builtin "object.__class__") "__get__" = some (some (.builtin "getset_descriptor.__get__"))) (xjInUse : PySem.W.takesIn K (.builtin "object.__class__") = some true) (xmInUse : PySem.W.mroIn K C_InUse (.type "object") = some true)
    (nInUsename : PySem.W.findIn K (.ref C_InUse) "name" = some none)
    (xoNoKind : PySem.W.excInitIn K C_NoKind keTl "LookupError.__new__" = true) (xvNoKind : PySem.W.excOver K C_NoKind keTl = true) (xdNoKind : PySem.W.hasDictIn K C_NoKind = true) (xsNoKind : PySem.W.findIn K (.ref C_NoKind) "__setattr__" = some (some (.builtin "object.__setattr__"))) (xeNoKind : PySem.W.subIn K (.ref C_NoKind) (.type "BaseException") = some true) (xtNoKind : PySem.W.typeIn K (.ref C_NoKind) = some (.type "type")) (xkNoKind : PySem.W.keepIn K (.ref C_NoKind) = true) (xgNoKind : PySem.W.findIn K (.ref C_NoKind) "__getattribute__" = some (some (.builtin "BaseException.__getattribute__"))) (xhNoKind : PySem.W.findIn K (.ref C_NoKind) "__getattr__" = some none) (xaNoKind : PySem.W.findIn K (.ref C_NoKind) "__class__" = some (some (.builtin "object.__class__"))) (xnNoKind : PySem.W.specialIn K (.builtin "object.__class__") "__get__" = some (some (.builtin "getset_descriptor.__get__"))) (xjNoKind : PySem.W.takesIn K (.builtin "object.__class__") = some true) (xmNoKind : PySem.W.mroIn K C_NoKind (.type "object") = some true)
    (nNoKindkind : PySem.W.findIn K (.ref C_NoKind) "kind" = some none)
    (xoNoBough : PySem.W.excInitIn K C_NoBough keTl "LookupError.__new__" = true) (xvNoBough : PySem.W.excOver K C_NoBough keTl = true) (xdNoBough : PySem.W.hasDictIn K C_NoBough = true) (xsNoBough : PySem.W.findIn K (.ref C_NoBough) "__setattr__" = some (some (.builtin "object.__setattr__"))) (xeNoBough : PySem.W.subIn K (.ref C_NoBough) (.type "BaseException") = some true) (xtNoBough : PySem.W.typeIn K (.ref C_NoBough) = some (.type "type")) (xkNoBough : PySem.W.keepIn K (.ref C_NoBough) = true) (xgNoBough : PySem.W.findIn K (.ref C_NoBough) "__getattribute__" = some (some (.builtin "BaseException.__getattribute__"))) (xhNoBough : PySem.W.findIn K (.ref C_NoBough) "__getattr__" = some none) (xaNoBough : PySem.W.findIn K (.ref C_NoBough) "__class__" = some (some (.builtin "object.__class__"))) (xnNoBough : PySem.W.specialIn K (.builtin "object.__class__") "__get__" = some (some (.builtin "getset_descriptor.__get__"))) (xjNoBough : PySem.W.takesIn K (.builtin "object.__class__") = some true) (xmNoBough : PySem.W.mroIn K C_NoBough (.type "object") = some true)
    (nNoBoughbough : PySem.W.findIn K (.ref C_NoBough) "bough" = some none)
    (aCNoBook : PySem.W.nsIn K mainGlobals "NoBook" = some (some (.ref C_NoBook))) (xpNoBook : PySem.W.excIn K C_NoBook veTl "ValueError.__new__" = true) (xdNoBook : PySem.W.hasDictIn K C_NoBook = true) (xeNoBook : PySem.W.subIn K (.ref C_NoBook) (.type "BaseException") = some true) (xtNoBook : PySem.W.typeIn K (.ref C_NoBook) = some (.type "type")) (xkNoBook : PySem.W.keepIn K (.ref C_NoBook) = true) (xgNoBook : PySem.W.findIn K (.ref C_NoBook) "__getattribute__" = some (some (.builtin "BaseException.__getattribute__"))) (xhNoBook : PySem.W.findIn K (.ref C_NoBook) "__getattr__" = some none) (xaNoBook : PySem.W.findIn K (.ref C_NoBook) "__class__" = some (some (.builtin "object.__class__"))) (xnNoBook : PySem.W.specialIn K (.builtin "object.__class__") "__get__" = some (some (.builtin "getset_descriptor.__get__"))) (xjNoBook : PySem.W.takesIn K (.builtin "object.__class__") = some true) (xmNoBook : PySem.W.mroIn K C_NoBook (.type "object") = some true)
    (aCNoText : PySem.W.nsIn K mainGlobals "NoText" = some (some (.ref C_NoText))) (xpNoText : PySem.W.excIn K C_NoText veTl "ValueError.__new__" = true) (xdNoText : PySem.W.hasDictIn K C_NoText = true) (xeNoText : PySem.W.subIn K (.ref C_NoText) (.type "BaseException") = some true) (xtNoText : PySem.W.typeIn K (.ref C_NoText) = some (.type "type")) (xkNoText : PySem.W.keepIn K (.ref C_NoText) = true) (xgNoText : PySem.W.findIn K (.ref C_NoText) "__getattribute__" = some (some (.builtin "BaseException.__getattribute__"))) (xhNoText : PySem.W.findIn K (.ref C_NoText) "__getattr__" = some none) (xaNoText : PySem.W.findIn K (.ref C_NoText) "__class__" = some (some (.builtin "object.__class__"))) (xnNoText : PySem.W.specialIn K (.builtin "object.__class__") "__get__" = some (some (.builtin "getset_descriptor.__get__"))) (xjNoText : PySem.W.takesIn K (.builtin "object.__class__") = some true) (xmNoText : PySem.W.mroIn K C_NoText (.type "object") = some true)
    (aCNoBack : PySem.W.nsIn K mainGlobals "NoBack" = some (some (.ref C_NoBack))) (xpNoBack : PySem.W.excIn K C_NoBack veTl "ValueError.__new__" = true) (xdNoBack : PySem.W.hasDictIn K C_NoBack = true) (xeNoBack : PySem.W.subIn K (.ref C_NoBack) (.type "BaseException") = some true) (xtNoBack : PySem.W.typeIn K (.ref C_NoBack) = some (.type "type")) (xkNoBack : PySem.W.keepIn K (.ref C_NoBack) = true) (xgNoBack : PySem.W.findIn K (.ref C_NoBack) "__getattribute__" = some (some (.builtin "BaseException.__getattribute__"))) (xhNoBack : PySem.W.findIn K (.ref C_NoBack) "__getattr__" = some none) (xaNoBack : PySem.W.findIn K (.ref C_NoBack) "__class__" = some (some (.builtin "object.__class__"))) (xnNoBack : PySem.W.specialIn K (.builtin "object.__class__") "__get__" = some (some (.builtin "getset_descriptor.__get__"))) (xjNoBack : PySem.W.takesIn K (.builtin "object.__class__") = some true) (xmNoBack : PySem.W.mroIn K C_NoBack (.type "object") = some true)
    (aCUnlike : PySem.W.nsIn K mainGlobals "Unlike" = some (some (.ref C_Unlike))) (xpUnlike : PySem.W.excIn K C_Unlike veTl "ValueError.__new__" = true) (xdUnlike : PySem.W.hasDictIn K C_Unlike = true) (xeUnlike : PySem.W.subIn K (.ref C_Unlike) (.type "BaseException") = some true) (xtUnlike : PySem.W.typeIn K (.ref C_Unlike) = some (.type "type")) (xkUnlike : PySem.W.keepIn K (.ref C_Unlike) = true) (xgUnlike : PySem.W.findIn K (.ref C_Unlike) "__getattribute__" = some (some (.builtin "BaseException.__getattribute__"))) (xhUnlike : PySem.W.findIn K (.ref C_Unlike) "__getattr__" = some none) (xaUnlike : PySem.W.findIn K (.ref C_Unlike) "__class__" = some (some (.builtin "object.__class__"))) (xnUnlike : PySem.W.specialIn K (.builtin "object.__class__") "__get__" = some (some (.builtin "getset_descriptor.__get__"))) (xjUnlike : PySem.W.takesIn K (.builtin "object.__class__") = some true) (xmUnlike : PySem.W.mroIn K C_Unlike (.type "object") = some true)
    (q1 : PySem.W.nsIn K mainGlobals "isinstance" = some none)
    (q2 : PySem.W.nsIn K mainGlobals "enumerate" = some none)
    (q3 : PySem.W.nsIn K mainGlobals "range" = some none)
    (q4 : PySem.W.nsIn K mainGlobals "len" = some none)
    (q5 : PySem.W.nsIn K mainGlobals "repr" = some none)
    (q6 : PySem.W.nsIn K mainGlobals "list" = some none)
    (q7 : PySem.W.nsIn K mainGlobals "sum" = some none)
    (q8 : PySem.W.nsIn K mainGlobals "ValueError" = some none)
    (q9 : PySem.W.nsIn K mainGlobals "KeyError" = some none)
    (y1 : Dk.kitTab K ([C_NoBook, C_NoText, C_NoBack, C_Unlike, C_Bare, C_NoFun, C_NoFall, C_TooLong, C_NoOrnament, C_NoDress, C_NoFilling, C_Gap, C_NoIndex, C_NoName, C_Taken, C_InUse, C_NoKind, C_NoBough] : List Addr) = true)
    (y2 : Dk.kitRow K ([C_NoBook, C_NoText, C_NoBack, C_Unlike, C_Bare, C_NoFun, C_NoFall, C_TooLong, C_NoOrnament, C_NoDress, C_NoFilling, C_Gap, C_NoIndex, C_NoName, C_Taken, C_InUse, C_NoKind, C_NoBough] : List Addr) (.ref C_KindError) 0 16 = true)
    (y3 : Dk.kitRow K ([C_NoBook, C_NoText, C_NoBack, C_Unlike, C_Bare, C_NoFun, C_NoFall, C_TooLong, C_NoOrnament, C_NoDress, C_NoFilling, C_Gap, C_NoIndex, C_NoName, C_Taken, C_InUse, C_NoKind, C_NoBough] : List Addr) (.type "ValueError") 0 16 = true)
    (y4 : Dk.kitRow K ([C_NoBook, C_NoText, C_NoBack, C_Unlike, C_Bare, C_NoFun, C_NoFall, C_TooLong, C_NoOrnament, C_NoDress, C_NoFilling, C_Gap, C_NoIndex, C_NoName, C_Taken, C_InUse, C_NoKind, C_NoBough] : List Addr) (.type "KeyError") 16 18 = true)
    (y5 : PySem.W.exmOne K (.ref C_NoFilling) (.ref C_NoFilling) = some true)
    (y6 : PySem.W.exmOne K (.ref C_Gap) (.ref C_NoFilling) = some false)
    (y7 : PySem.W.exmOne K (.ref C_Gap) (.ref C_KindError) = some true)
    (y8 : PySem.W.exmOne K (.ref C_NoKind) (.ref C_NoFilling) = some false)
    (y9 : PySem.W.exmOne K (.ref C_NoKind) (.ref C_KindError) = some false)
    (y10 : PySem.W.exmOne K (.ref C_NoKind) (.ref C_NoKind) = some true)
    (y11 : PySem.W.exmOne K (.ref C_NoBough) (.ref C_NoFilling) = some false)
    (y12 : PySem.W.exmOne K (.ref C_NoBough) (.ref C_KindError) = some false)
    (y13 : PySem.W.exmOne K (.ref C_NoBough) (.ref C_NoKind) = some false)
    (y14 : PySem.W.exmOne K (.ref C_NoBough) (.ref C_NoBough) = some true)
    (y15 : PySem.W.specialIn K (.ref C_KindError) "__getattribute__" = some (some (.builtin "type.__getattribute__")))
    (y16 : PySem.W.readsIn K C_KindError (.type "type") = true)
    (y17 : Dk.initVE K C_KindError = true) :
    ∃ fd : FuncData, (∀ (s : Shared) (v : Value), BindsTo s fd ⟨[v], []⟩ [("_law_script", v)]) ∧ ∀ base : Heap, K.In base → base.Ns mainGlobals mg → GnOk l.prog w K mg base CX0 8 fa fd ["_law_script"] (spLaw06 K) := by
  have F_Bare___init__ := fun_mk (st := s_Bare___init__) l1 c1 k1
  have M_Bare___init__ : Meth K C_Bare "__init__" f1 := ⟨a1, i1, k1⟩
  have F_NoFun___init__ := fun_mk (st := s_NoFun___init__) l2 c2 k2
  have M_NoFun___init__ : Meth K C_NoFun "__init__" f2 := ⟨a2, i2, k2⟩
  have F_NoFall___init__ := fun_mk (st := s_NoFall___init__) l3 c3 k3
  have M_NoFall___init__ : Meth K C_NoFall "__init__" f3 := ⟨a3, i3, k3⟩
  have F_TooLong___init__ := fun_mk (st := s_TooLong___init__) l4 c4 k4
  have M_TooLong___init__ : Meth K C_TooLong "__init__" f4 := ⟨a4, i4, k4⟩
  have F_NoOrnament___init__ := fun_mk (st := s_NoOrnament___init__) l5 c5 k5
  have M_NoOrnament___init__ : Meth K C_NoOrnament "__init__" f5 := ⟨a5, i5, k5⟩
  have F_NoDress___init__ := fun_mk (st := s_NoDress___init__) l6 c6 k6
  have M_NoDress___init__ : Meth K C_NoDress "__init__" f6 := ⟨a6, i6, k6⟩
  have F_NoFilling___init__ := fun_mk (st := s_NoFilling___init__) l7 c7 k7
  have M_NoFilling___init__ : Meth K C_NoFilling "__init__" f7 := ⟨a7, i7, k7⟩
  have F_Gap___init__ := fun_mk (st := s_Gap___init__) l8 c8 k8
  have M_Gap___init__ : Meth K C_Gap "__init__" f8 := ⟨a8, i8, k8⟩
  have F_NoIndex___init__ := fun_mk (st := s_NoIndex___init__) l9 c9 k9
  have M_NoIndex___init__ : Meth K C_NoIndex "__init__" f9 := ⟨a9, i9, k9⟩
  have F_NoName___init__ := fun_mk (st := s_NoName___init__) l10 c10 k10
  have M_NoName___init__ : Meth K C_NoName "__init__" f10 := ⟨a10, i10, k10⟩
  have F_Taken___init__ := fun_mk (st := s_Taken___init__) l11 c11 k11
  have M_Taken___init__ : Meth K C_Taken "__init__" f11 := ⟨a11, i11, k11⟩
  have F_InUse___init__ := fun_mk (st := s_InUse___init__) l12 c12 k12
  have M_InUse___init__ : Meth K C_InUse "__init__" f12 := ⟨a12, i12, k12⟩
  have F_NoKind___init__ := fun_mk (st := s_NoKind___init__) l13 c13 k13
  have M_NoKind___init__ : Meth K C_NoKind "__init__" f13 := ⟨a13, i13, k13⟩
  have F_NoBough___init__ := fun_mk (st := s_NoBough___init__) l14 c14 k14
  have M_NoBough___init__ : Meth K C_NoBough "__init__" f14 := ⟨a14, i14, k14⟩
  have F__law_deck := fun_mk (st := s__law_deck) l15 c15 k15
  have m__law_deck := PySem.W.mg_of X G a15
  have F__law_draw := fun_mk (st := s__law_draw) l16 c16 k16
  have m__law_draw := PySem.W.mg_of X G a16
  have F__law_pick := fun_mk (st := s__law_pick) l17 c17 k17
  have m__law_pick := PySem.W.mg_of X G a17
  have F__law_kinds_of := fun_mk (st := s__law_kinds_of) l18 c18 k18
  have m__law_kinds_of := PySem.W.mg_of X G a18
  have F__law_above := fun_mk (st := s__law_above) l19 c19 k19
  have m__law_above := PySem.W.mg_of X G a19
  have F__law_made := fun_mk (st := s__law_made) l20 c20 k20
  have m__law_made := PySem.W.mg_of X G a20
  have F__law_named := fun_mk (st := s__law_named) l21 c21 k21
  have m__law_named := PySem.W.mg_of X G a21
  have F__law_fields := fun_mk (st := s__law_fields) l22 c22 k22
  have m__law_fields := PySem.W.mg_of X G a22
  have F__law_right := fun_mk (st := s__law_right) l23 c23 k23
  have m__law_right := PySem.W.mg_of X G a23
  have F__law_raised := fun_mk (st := s__law_raised) l24 c24 k24
  have m__law_raised := PySem.W.mg_of X G a24
  have F_law := fun_mk (st := s_law) l25 c25 k25
  have m_law := PySem.W.mg_of X G a25
  have g_NUM : ∃ t, mg "NUM" = some (.str "num" t) := ⟨t_NUM, PySem.W.mg_of X G g_NUM⟩
  have g_SUM : ∃ t, mg "SUM" = some (.str "sum" t) := ⟨t_SUM, PySem.W.mg_of X G g_SUM⟩
  have g_TOP : ∃ t, mg "TOP" = some (.str "top" t) := ⟨t_TOP, PySem.W.mg_of X G g_TOP⟩
  have g_RUNS : ∃ t, mg "RUNS" = some (.int (400) t) := ⟨t_RUNS, PySem.W.mg_of X G g_RUNS⟩
  have mC_Bare := PySem.W.mg_of X G aCBare
  have ox_Bare : OxC K "ValueError.__new__" veTl C_Bare := ⟨xoBare, xvBare, xdBare, xsBare, xeBare, xtBare, xkBare⟩
  have xi_Bare : XiC K C_Bare := ⟨xdBare, xgBare, xhBare, xeBare, xaBare, xnBare, xjBare, xmBare⟩
  have mC_NoFun := PySem.W.mg_of X G aCNoFun
  have ox_NoFun : OxC K "ValueError.__new__" veTl C_NoFun := ⟨xoNoFun, xvNoFun, xdNoFun, xsNoFun, xeNoFun, xtNoFun, xkNoFun⟩
  have xi_NoFun : XiC K C_NoFun := ⟨xdNoFun, xgNoFun, xhNoFun, xeNoFun, xaNoFun, xnNoFun, xjNoFun, xmNoFun⟩
  have mC_NoFall := PySem.W.mg_of X G aCNoFall
  have ox_NoFall : OxC K "ValueError.__new__" veTl C_NoFall := ⟨xoNoFall, xvNoFall, xdNoFall, xsNoFall, xeNoFall, xtNoFall, xkNoFall⟩
  have xi_NoFall : XiC K C_NoFall := ⟨xdNoFall, xgNoFall, xhNoFall, xeNoFall, xaNoFall, xnNoFall, xjNoFall, xmNoFall⟩
  have mC_TooLong := PySem.W.mg_of X G aCTooLong
  have ox_TooLong : OxC K "ValueError.__new__" veTl C_TooLong := ⟨xoTooLong, xvTooLong, xdTooLong, xsTooLong, xeTooLong, xtTooLong, xkTooLong⟩
  have xi_TooLong : XiC K C_TooLong := ⟨xdTooLong, xgTooLong, xhTooLong, xeTooLong, xaTooLong, xnTooLong, xjTooLong, xmTooLong⟩
  have mC_NoOrnament := PySem.W.mg_of X G aCNoOrnament
  have ox_NoOrnament : OxC K "ValueError.__new__" veTl C_NoOrnament := ⟨xoNoOrnament, xvNoOrnament, xdNoOrnament, xsNoOrnament, xeNoOrnament, xtNoOrnament, xkNoOrnament⟩
  have xi_NoOrnament : XiC K C_NoOrnament := ⟨xdNoOrnament, xgNoOrnament, xhNoOrnament, xeNoOrnament, xaNoOrnament, xnNoOrnament, xjNoOrnament, xmNoOrnament⟩
  have mC_NoDress := PySem.W.mg_of X G aCNoDress
  have ox_NoDress : OxC K "ValueError.__new__" veTl C_NoDress := ⟨xoNoDress, xvNoDress, xdNoDress, xsNoDress, xeNoDress, xtNoDress, xkNoDress⟩
  have xi_NoDress : XiC K C_NoDress := ⟨xdNoDress, xgNoDress, xhNoDress, xeNoDress, xaNoDress, xnNoDress, xjNoDress, xmNoDress⟩
  have mC_NoFilling := PySem.W.mg_of X G aCNoFilling
  have ox_NoFilling : OxC K "ValueError.__new__" veTl C_NoFilling := ⟨xoNoFilling, xvNoFilling, xdNoFilling, xsNoFilling, xeNoFilling, xtNoFilling, xkNoFilling⟩
  have xi_NoFilling : XiC K C_NoFilling := ⟨xdNoFilling, xgNoFilling, xhNoFilling, xeNoFilling, xaNoFilling, xnNoFilling, xjNoFilling, xmNoFilling⟩
  have mC_Gap := PySem.W.mg_of X G aCGap
  have ox_Gap : OxC K "ValueError.__new__" veTl C_Gap := ⟨xoGap, xvGap, xdGap, xsGap, xeGap, xtGap, xkGap⟩
  have xi_Gap : XiC K C_Gap := ⟨xdGap, xgGap, xhGap, xeGap, xaGap, xnGap, xjGap, xmGap⟩
  have mC_NoIndex := PySem.W.mg_of X G aCNoIndex
  have ox_NoIndex : OxC K "ValueError.__new__" veTl C_NoIndex := ⟨xoNoIndex, xvNoIndex, xdNoIndex, xsNoIndex, xeNoIndex, xtNoIndex, xkNoIndex⟩
  have xi_NoIndex : XiC K C_NoIndex := ⟨xdNoIndex, xgNoIndex, xhNoIndex, xeNoIndex, xaNoIndex, xnNoIndex, xjNoIndex, xmNoIndex⟩
  have mC_NoName := PySem.W.mg_of X G aCNoName
  have ox_NoName : OxC K "ValueError.__new__" veTl C_NoName := ⟨xoNoName, xvNoName, xdNoName, xsNoName, xeNoName, xtNoName, xkNoName⟩
  have xi_NoName : XiC K C_NoName := ⟨xdNoName, xgNoName, xhNoName, xeNoName, xaNoName, xnNoName, xjNoName, xmNoName⟩
  have mC_Taken := PySem.W.mg_of X G aCTaken
  have ox_Taken : OxC K "ValueError.__new__" veTl C_Taken := ⟨xoTaken, xvTaken, xdTaken, xsTaken, xeTaken, xtTaken, xkTaken⟩
  have xi_Taken : XiC K C_Taken := ⟨xdTaken, xgTaken, xhTaken, xeTaken, xaTaken, xnTaken, xjTaken, xmTaken⟩
  have mC_InUse := PySem.W.mg_of X G aCInUse
  have ox_InUse : OxC K "ValueError.__new__" veTl C_InUse := ⟨xoInUse, xvInUse, xdInUse, xsInUse, xeInUse, xtInUse, xkInUse⟩
  have xi_InUse : XiC K C_InUse := ⟨xdInUse, xgInUse, xhInUse, xeInUse, xaInUse, xnInUse, xjInUse, xmInUse⟩
  have mC_NoKind := PySem.W.mg_of X G aCNoKind
  have ox_NoKind : OxC K "LookupError.__new__" keTl C_NoKind := ⟨xoNoKind, xvNoKind, xdNoKind, xsNoKind, xeNoKind, xtNoKind, xkNoKind⟩
  have xi_NoKind : XiC K C_NoKind := ⟨xdNoKind, xgNoKind, xhNoKind, xeNoKind, xaNoKind, xnNoKind, xjNoKind, xmNoKind⟩
  have mC_NoBough := PySem.W.mg_of X G aCNoBough
  have ox_NoBough : OxC K "LookupError.__new__" keTl C_NoBough := ⟨xoNoBough, xvNoBough, xdNoBough, xsNoBough, xeNoBough, xtNoBough, xkNoBough⟩
  have xi_NoBough : XiC K C_NoBough := ⟨xdNoBough, xgNoBough, xhNoBough, xeNoBough, xaNoBough, xnNoBough, xjNoBough, xmNoBough⟩
  have mC_KindError := PySem.W.mg_of X G aCKindError
  have mC_NoBook := PySem.W.mg_of X G aCNoBook
  have cn_NoBook : CalN K mg "NoBook" C_NoBook := ⟨_, _, _, _, PySem.F.excBase_ValueError, xpNoBook, mC_NoBook, xkNoBook, xeNoBook, xtNoBook⟩
  have xi_NoBook : XiC K C_NoBook := ⟨xdNoBook, xgNoBook, xhNoBook, xeNoBook, xaNoBook, xnNoBook, xjNoBook, xmNoBook⟩
  have mC_NoText := PySem.W.mg_of X G aCNoText
  have cn_NoText : CalN K mg "NoText" C_NoText := ⟨_, _, _, _, PySem.F.excBase_ValueError, xpNoText, mC_NoText, xkNoText, xeNoText, xtNoText⟩
  have xi_NoText : XiC K C_NoText := ⟨xdNoText, xgNoText, xhNoText, xeNoText, xaNoText, xnNoText, xjNoText, xmNoText⟩
  have mC_NoBack := PySem.W.mg_of X G aCNoBack
  have cn_NoBack : CalN K mg "NoBack" C_NoBack := ⟨_, _, _, _, PySem.F.excBase_ValueError, xpNoBack, mC_NoBack, xkNoBack, xeNoBack, xtNoBack⟩
  have xi_NoBack : XiC K C_NoBack := ⟨xdNoBack, xgNoBack, xhNoBack, xeNoBack, xaNoBack, xnNoBack, xjNoBack, xmNoBack⟩
  have mC_Unlike := PySem.W.mg_of X G aCUnlike
  have cn_Unlike : CalN K mg "Unlike" C_Unlike := ⟨_, _, _, _, PySem.F.excBase_ValueError, xpUnlike, mC_Unlike, xkUnlike, xeUnlike, xtUnlike⟩
  have xi_Unlike : XiC K C_Unlike := ⟨xdUnlike, xgUnlike, xhUnlike, xeUnlike, xaUnlike, xnUnlike, xjUnlike, xmUnlike⟩
  have b_isinstance := PySem.W.mg_none_of X G q1
  have b_enumerate := PySem.W.mg_none_of X G q2
  have b_range := PySem.W.mg_none_of X G q3
  have b_len := PySem.W.mg_none_of X G q4
  have b_repr := PySem.W.mg_none_of X G q5
  have b_list := PySem.W.mg_none_of X G q6
  have b_sum := PySem.W.mg_none_of X G q7
  have b_ValueError := PySem.W.mg_none_of X G q8
  have b_KeyError := PySem.W.mg_none_of X G q9
  have T : True := ⟨⟩
  have e := hfa.symm.trans m_law
  cases e
  refine ⟨PySem.W.fnOf "law" "law" (defArgs s_law) (defBody s_law) (defScope s_law) .none kV25 dc25 pm25 an25 cd25 ct25, fun s v => .of_eq rfl, fun base _ _ => ?_⟩
  let cs : Nat → Addr := fun i => [C_NoBook, C_NoText, C_NoBack, C_Unlike, C_Bare, C_NoFun, C_NoFall, C_TooLong, C_NoOrnament, C_NoDress, C_NoFilling, C_Gap, C_NoIndex, C_NoName, C_Taken, C_InUse, C_NoKind, C_NoBough].getD i 0
  have T0 : TxtR0 mg := ⟨b_enumerate, b_range, b_isinstance⟩
  have T : TxtL K mg := ⟨T0, b_len, b_repr, g_NUM, g_SUM, g_TOP, g_RUNS⟩
  have xi : ∀ i, i < 18 → XiC K (cs i) := fun i hi => by
    match i, hi with
    | 0, _ => exact xi_NoBook
    | 1, _ => exact xi_NoText
    | 2, _ => exact xi_NoBack
    | 3, _ => exact xi_Unlike
    | 4, _ => exact xi_Bare
    | 5, _ => exact xi_NoFun
    | 6, _ => exact xi_NoFall
    | 7, _ => exact xi_TooLong
    | 8, _ => exact xi_NoOrnament
    | 9, _ => exact xi_NoDress
    | 10, _ => exact xi_NoFilling
    | 11, _ => exact xi_Gap
    | 12, _ => exact xi_NoIndex
    | 13, _ => exact xi_NoName
    | 14, _ => exact xi_Taken
    | 15, _ => exact xi_InUse
    | 16, _ => exact xi_NoKind
    | 17, _ => exact xi_NoBough
    | n + 18, h => exact absurd h (by omega)
  have nf : ∀ i, i < 18 → ∀ f ∈ fldN i, PySem.W.findIn K (.ref (cs i)) f = some none := fun i hi f hf => by
    match i, hi with
    | 0, _ => cases hf
    | 1, _ => cases hf
    | 2, _ => cases hf
    | 3, _ => cases hf
    | 4, _ => cases List.mem_singleton.mp hf; exact nBarekind
    | 5, _ => cases List.mem_singleton.mp hf; exact nNoFunrow
    | 6, _ => cases List.mem_singleton.mp hf; exact nNoFallrow
    | 7, _ => cases List.mem_singleton.mp hf; exact nTooLongmost
    | 8, _ => cases List.mem_singleton.mp hf; exact nNoOrnamentkind
    | 9, _ => cases List.mem_singleton.mp hf; exact nNoDressrow
    | 10, _ => cases List.mem_singleton.mp hf; exact nNoFillingthing
    | 11, _ => rcases List.mem_cons.mp hf with h | h; (cases h; exact nGaprow); (cases List.mem_singleton.mp h; exact nGapwhat)
    | 12, _ => cases List.mem_singleton.mp hf; exact nNoIndexbough
    | 13, _ => cases List.mem_singleton.mp hf; exact nNoNamename
    | 14, _ => cases List.mem_singleton.mp hf; exact nTakenname
    | 15, _ => cases List.mem_singleton.mp hf; exact nInUsename
    | 16, _ => cases List.mem_singleton.mp hf; exact nNoKindkind
    | 17, _ => cases List.mem_singleton.mp hf; exact nNoBoughbough
    | n + 18, h => exact absurd h (by omega)
  have TX : TxtX K cs C_KindError mg := ⟨mC_NoBook, mC_NoText, mC_NoBack, mC_Unlike, mC_Bare, mC_NoFun, mC_NoFall, mC_TooLong, mC_NoOrnament, mC_NoDress, mC_NoFilling, mC_Gap, mC_NoIndex, mC_NoName, mC_Taken, mC_InUse, mC_NoKind, mC_NoBough, mC_KindError, b_ValueError, b_KeyError, b_isinstance, xi, kitTab_of y1 rfl, kitRow_lo y2 rfl, kitRow_lo y3 rfl, kitRow_hi y4 rfl, nf⟩
  have TM : TxtM K cs C_KindError := ⟨y5, y6, y7, y8, y9, y10, y11, y12, y13, y14⟩
  have CX_Bare : ∀ m, CalX l.prog w K mg base (m + 1) "Bare" (cs 4) ["kind"] ["kind"] false := fun m => ⟨⟨_, _, _, _, _, _, _, _, xb_ve, ox_Bare, M_Bare___init__.at_, beq_iff_eq.mp M_Bare___init__.fn, (ok_Bare ox_Bare nBarekind mC_KindError y15 y16 (initVE_of y17) F_Bare___init__).weak fun _ _ _ _ => spXs_one, F_Bare___init__.binds bd_Bare___init__, kn_Bare F_Bare___init__, mC_Bare⟩, rfl, by decide⟩
  have CX_NoFun : ∀ m, CalX l.prog w K mg base (m + 1) "NoFun" (cs 5) ["row"] ["row"] false := fun m => ⟨⟨_, _, _, _, _, _, _, _, xb_ve, ox_NoFun, M_NoFun___init__.at_, beq_iff_eq.mp M_NoFun___init__.fn, (ok_NoFun ox_NoFun nNoFunrow mC_KindError y15 y16 (initVE_of y17) F_NoFun___init__).weak fun _ _ _ _ => spXs_one, F_NoFun___init__.binds bd_NoFun___init__, kn_NoFun F_NoFun___init__, mC_NoFun⟩, rfl, by decide⟩
  have CX_NoFall : ∀ m, CalX l.prog w K mg base (m + 1) "NoFall" (cs 6) ["row"] ["row"] false := fun m => ⟨⟨_, _, _, _, _, _, _, _, xb_ve, ox_NoFall, M_NoFall___init__.at_, beq_iff_eq.mp M_NoFall___init__.fn, (ok_NoFall ox_NoFall nNoFallrow mC_KindError y15 y16 (initVE_of y17) F_NoFall___init__).weak fun _ _ _ _ => spXs_one, F_NoFall___init__.binds bd_NoFall___init__, kn_NoFall F_NoFall___init__, mC_NoFall⟩, rfl, by decide⟩
  have CX_TooLong : ∀ m, CalX l.prog w K mg base (m + 1) "TooLong" (cs 7) ["most"] ["most"] false := fun m => ⟨⟨_, _, _, _, _, _, _, _, xb_ve, ox_TooLong, M_TooLong___init__.at_, beq_iff_eq.mp M_TooLong___init__.fn, (ok_TooLong ox_TooLong nTooLongmost mC_KindError y15 y16 (initVE_of y17) F_TooLong___init__).weak fun _ _ _ _ => spXs_one, F_TooLong___init__.binds bd_TooLong___init__, kn_TooLong F_TooLong___init__, mC_TooLong⟩, rfl, by decide⟩
  have CX_NoOrnament : ∀ m, CalX l.prog w K mg base (m + 1) "NoOrnament" (cs 8) ["kind"] ["kind"] false := fun m => ⟨⟨_, _, _, _, _, _, _, _, xb_ve, ox_NoOrnament, M_NoOrnament___init__.at_, beq_iff_eq.mp M_NoOrnament___init__.fn, (ok_NoOrnament ox_NoOrnament nNoOrnamentkind mC_KindError y15 y16 (initVE_of y17) F_NoOrnament___init__).weak fun _ _ _ _ => spXs_one, F_NoOrnament___init__.binds bd_NoOrnament___init__, kn_NoOrnament F_NoOrnament___init__, mC_NoOrnament⟩, rfl, by decide⟩
  have CX_NoDress : ∀ m, CalX l.prog w K mg base (m + 1) "NoDress" (cs 9) ["row"] ["row"] false := fun m => ⟨⟨_, _, _, _, _, _, _, _, xb_ve, ox_NoDress, M_NoDress___init__.at_, beq_iff_eq.mp M_NoDress___init__.fn, (ok_NoDress ox_NoDress nNoDressrow mC_KindError y15 y16 (initVE_of y17) F_NoDress___init__).weak fun _ _ _ _ => spXs_one, F_NoDress___init__.binds bd_NoDress___init__, kn_NoDress F_NoDress___init__, mC_NoDress⟩, rfl, by decide⟩
  have CX_NoFilling : ∀ m, CalX l.prog w K mg base (m + 1) "NoFilling" (cs 10) ["thing"] ["thing"] false := fun m => ⟨⟨_, _, _, _, _, _, _, _, xb_ve, ox_NoFilling, M_NoFilling___init__.at_, beq_iff_eq.mp M_NoFilling___init__.fn, (ok_NoFilling ox_NoFilling nNoFillingthing mC_KindError y15 y16 (initVE_of y17) F_NoFilling___init__).weak fun _ _ _ _ => spXs_one, F_NoFilling___init__.binds bd_NoFilling___init__, kn_NoFilling F_NoFilling___init__, mC_NoFilling⟩, rfl, by decide⟩
  have CX_Gap : ∀ m, CalX l.prog w K mg base (m + 1) "Gap" (cs 11) ["row", "what"] ["what", "row"] true := fun m => ⟨⟨_, _, _, _, _, _, _, _, xb_ve, ox_Gap, M_Gap___init__.at_, beq_iff_eq.mp M_Gap___init__.fn, ok_Gap ox_Gap nGaprow nGapwhat mC_KindError y15 y16 (initVE_of y17) F_Gap___init__, F_Gap___init__.binds bd_Gap___init__, kn_Gap F_Gap___init__, mC_Gap⟩, rfl, by decide⟩
  have CX_NoIndex : ∀ m, CalX l.prog w K mg base (m + 1) "NoIndex" (cs 12) ["bough"] ["bough"] false := fun m => ⟨⟨_, _, _, _, _, _, _, _, xb_ve, ox_NoIndex, M_NoIndex___init__.at_, beq_iff_eq.mp M_NoIndex___init__.fn, (ok_NoIndex ox_NoIndex nNoIndexbough mC_KindError y15 y16 (initVE_of y17) F_NoIndex___init__).weak fun _ _ _ _ => spXs_one, F_NoIndex___init__.binds bd_NoIndex___init__, kn_NoIndex F_NoIndex___init__, mC_NoIndex⟩, rfl, by decide⟩
  have CX_NoName : ∀ m, CalX l.prog w K mg base (m + 1) "NoName" (cs 13) ["name"] ["name"] false := fun m => ⟨⟨_, _, _, _, _, _, _, _, xb_ve, ox_NoName, M_NoName___init__.at_, beq_iff_eq.mp M_NoName___init__.fn, (ok_NoName ox_NoName nNoNamename mC_KindError y15 y16 (initVE_of y17) F_NoName___init__).weak fun _ _ _ _ => spXs_one, F_NoName___init__.binds bd_NoName___init__, kn_NoName F_NoName___init__, mC_NoName⟩, rfl, by decide⟩
  have CX_Taken : ∀ m, CalX l.prog w K mg base (m + 1) "Taken" (cs 14) ["name"] ["name"] false := fun m => ⟨⟨_, _, _, _, _, _, _, _, xb_ve, ox_Taken, M_Taken___init__.at_, beq_iff_eq.mp M_Taken___init__.fn, (ok_Taken ox_Taken nTakenname mC_KindError y15 y16 (initVE_of y17) F_Taken___init__).weak fun _ _ _ _ => spXs_one, F_Taken___init__.binds bd_Taken___init__, kn_Taken F_Taken___init__, mC_Taken⟩, rfl, by decide⟩
  have CX_InUse : ∀ m, CalX l.prog w K mg base (m + 1) "InUse" (cs 15) ["name"] ["name"] false := fun m => ⟨⟨_, _, _, _, _, _, _, _, xb_ve, ox_InUse, M_InUse___init__.at_, beq_iff_eq.mp M_InUse___init__.fn, (ok_InUse ox_InUse nInUsename mC_KindError y15 y16 (initVE_of y17) F_InUse___init__).weak fun _ _ _ _ => spXs_one, F_InUse___init__.binds bd_InUse___init__, kn_InUse F_InUse___init__, mC_InUse⟩, rfl, by decide⟩
  have CX_NoKind : ∀ m, CalX l.prog w K mg base (m + 1) "NoKind" (cs 16) ["kind"] ["kind"] false := fun m => ⟨⟨_, _, _, _, _, _, _, _, xb_ke, ox_NoKind, M_NoKind___init__.at_, beq_iff_eq.mp M_NoKind___init__.fn, (ok_NoKind ox_NoKind nNoKindkind b_KeyError F_NoKind___init__).weak fun _ _ _ _ => spXs_one, F_NoKind___init__.binds bd_NoKind___init__, kn_NoKind F_NoKind___init__, mC_NoKind⟩, rfl, by decide⟩
  have CX_NoBough : ∀ m, CalX l.prog w K mg base (m + 1) "NoBough" (cs 17) ["bough"] ["bough"] false := fun m => ⟨⟨_, _, _, _, _, _, _, _, xb_ke, ox_NoBough, M_NoBough___init__.at_, beq_iff_eq.mp M_NoBough___init__.fn, (ok_NoBough ox_NoBough nNoBoughbough b_KeyError F_NoBough___init__).weak fun _ _ _ _ => spXs_one, F_NoBough___init__.binds bd_NoBough___init__, kn_NoBough F_NoBough___init__, mC_NoBough⟩, rfl, by decide⟩
  have Cdraw : ∀ k p q, Cal l.prog w K mg base CX0 (DeckW p q) (k + 1) "_law_draw" ["_law_deck_here", "_law_own_most"] (spDraw p) := fun k p q => Cal.of F__law_draw (ok_draw F__law_draw).gn m__law_draw bd__law_draw
  exact ok_law06 (cs := cs) T F_law (ok_deck F__law_deck b_list b_sum b_len).gn m__law_deck F__law_deck.kp (F__law_deck.binds bd__law_deck)
    (Cdraw 3)
    (fun p q => Cal.of F__law_pick (ok_pick T F__law_pick (Cdraw 3 p q)) m__law_pick bd__law_pick)
    (fun W => Cal.of F__law_made (ok_made F__law_made cn_NoBook cn_NoText cn_NoBack cn_Unlike (CX_Bare 2) (CX_NoFun 2) (CX_NoFall 2) (CX_TooLong 2) (CX_NoOrnament 2) (CX_NoDress 2) (CX_NoFilling 2) (CX_Gap 2) (CX_NoIndex 2) (CX_NoName 2) (CX_Taken 2) (CX_InUse 2) (CX_NoKind 2) (CX_NoBough 2)) m__law_made bd__law_made)
    (fun W => Cal.of F__law_named (ok_named F__law_named (CX_Bare 2) (CX_NoFun 2) (CX_NoFall 2) (CX_TooLong 2) (CX_NoOrnament 2) (CX_NoDress 2) (CX_NoFilling 2) (CX_Gap 2) (CX_NoIndex 2) (CX_NoName 2) (CX_Taken 2) (CX_InUse 2) (CX_NoKind 2) (CX_NoBough 2)) m__law_named bd__law_named)
    (fun W => Cal.of F__law_fields (ok_fields TX F__law_fields (k := 4)) m__law_fields bd__law_fields)
    (fun W => Cal.of F__law_right (ok_rightX T0 F__law_right (k := 4) (Cal.of F__law_kinds_of (ok_kinds_of TX F__law_kinds_of (k := 3)) m__law_kinds_of bd__law_kinds_of) (Cal.of F__law_above (ok_above TX F__law_above (k := 3)) m__law_above bd__law_above)) m__law_right bd__law_right)
    (fun W => Cal.of F__law_raised (ok_raised T0 TX TM F__law_raised (CX_NoFilling 2) (CX_Gap 2) (CX_NoKind 2) (CX_NoBough 2)) m__law_raised bd__law_raised)
theorem all_run {l : PySem.W.OpenLaw} {w : World} {K : PySem.W.Frag} {h : Heap} {mg : Str → Option Value} {fa : Addr} (X : K.In h) (G : h.Ns mainGlobals mg) (hfa : mg "law" = some (.ref fa)) (c : Dk.SaysX hBs hFn K) :
    ∃ fd : FuncData, (∀ (s : Shared) (v : Value), BindsTo s fd ⟨[v], []⟩ [("_law_script", v)]) ∧ ∀ base : Heap, K.In base → base.Ns mainGlobals mg → GnOk l.prog w K mg base CX0 8 fa fd ["_law_script"] (spLaw06 K) := by
  have c0 := c.fact
  obtain ⟨b0, c0⟩ := He.ba c0
  obtain ⟨b1, c0⟩ := He.ba c0
  obtain ⟨b2, c0⟩ := He.ba c0
  obtain ⟨b3, c0⟩ := He.ba c0
  obtain ⟨b4, c0⟩ := He.ba c0
  obtain ⟨b5, c0⟩ := He.ba c0
  obtain ⟨b6, c0⟩ := He.ba c0
  obtain ⟨b7, c0⟩ := He.ba c0
  obtain ⟨b8, c0⟩ := He.ba c0
  obtain ⟨b9, c0⟩ := He.ba c0
  obtain ⟨b10, c0⟩ := He.ba c0
  obtain ⟨b11, c0⟩ := He.ba c0
  obtain ⟨b12, c0⟩ := He.ba c0
  obtain ⟨b13, c0⟩ := He.ba c0
  have b14 := c0
  obtain ⟨aCBare, aCNoFun, aCNoFall, aCTooLong, aCNoOrnament, aCNoDress, aCNoFilling, aCGap, aCNoIndex, aCNoName, aCTaken, aCInUse, aCNoKind, aCNoBough, aCKindError, a1, k1, i1, a2, k2, i2, a3, k3, i3, a4⟩ : (PySem.W.nsIn K mainGlobals "Bare" = some (some (.ref (He.ga K "Bare")))) ∧ (PySem.W.nsIn K mainGlobals "NoFun" = some (some (.ref (He.ga K "NoFun")))) ∧ (PySem.W.nsIn K mainGlobals "NoFall" = some (some (.ref (He.ga K "NoFall")))) ∧ (PySem.W.nsIn K mainGlobals "TooLong" = some (some (.ref (He.ga K "TooLong")))) ∧ (PySem.W.nsIn K mainGlobals "NoOrnament" = some (some (.ref (He.ga K "NoOrnament")))) ∧ (PySem.W.nsIn K mainGlobals "NoDress" = some (some (.ref (He.ga K "NoDress")))) ∧ (PySem.W.nsIn K mainGlobals "NoFilling" = some (some (.ref (He.ga K "NoFilling")))) ∧ (PySem.W.nsIn K mainGlobals "Gap" = some (some (.ref (He.ga K "Gap")))) ∧ (PySem.W.nsIn K mainGlobals "NoIndex" = some (some (.ref (He.ga K "NoIndex")))) ∧ (PySem.W.nsIn K mainGlobals "NoName" = some (some (.ref (He.ga K "NoName")))) ∧ (PySem.W.nsIn K mainGlobals "Taken" = some (some (.ref (He.ga K "Taken")))) ∧ (PySem.W.nsIn K mainGlobals "InUse" = some (some (.ref (He.ga K "InUse")))) ∧ (PySem.W.nsIn K mainGlobals "NoKind" = some (some (.ref (He.ga K "NoKind")))) ∧ (PySem.W.nsIn K mainGlobals "NoBough" = some (some (.ref (He.ga K "NoBough")))) ∧ (PySem.W.nsIn K mainGlobals "KindError" = some (some (.ref (He.ga K "KindError")))) ∧ (PySem.W.findIn K (.ref (He.ga K "Bare")) "__init__" = some (some (.ref (He.fAd K ("Bare", some "__init__"))))) ∧ (PySem.W.keepIn K (.ref (He.fAd K ("Bare", some "__init__"))) = true) ∧ (PySem.W.isFn K (.ref (He.fAd K ("Bare", some "__init__"))) = true) ∧ (PySem.W.findIn K (.ref (He.ga K "NoFun")) "__init__" = some (some (.ref (He.fAd K ("NoFun", some "__init__"))))) ∧ (PySem.W.keepIn K (.ref (He.fAd K ("NoFun", some "__init__"))) = true) ∧ (PySem.W.isFn K (.ref (He.fAd K ("NoFun", some "__init__"))) = true) ∧ (PySem.W.findIn K (.ref (He.ga K "NoFall")) "__init__" = some (some (.ref (He.fAd K ("NoFall", some "__init__"))))) ∧ (PySem.W.keepIn K (.ref (He.fAd K ("NoFall", some "__init__"))) = true) ∧ (PySem.W.isFn K (.ref (He.fAd K ("NoFall", some "__init__"))) = true) ∧ (PySem.W.findIn K (.ref (He.ga K "TooLong")) "__init__" = some (some (.ref (He.fAd K ("TooLong", some "__init__"))))) := of_decide_eq_true b0
  obtain ⟨k4, i4, a5, k5, i5, a6, k6, i6, a7, k7, i7, a8, k8, i8, a9, k9, i9, a10, k10, i10, a11, k11, i11, a12, k12⟩ : (PySem.W.keepIn K (.ref (He.fAd K ("TooLong", some "__init__"))) = true) ∧ (PySem.W.isFn K (.ref (He.fAd K ("TooLong", some "__init__"))) = true) ∧ (PySem.W.findIn K (.ref (He.ga K "NoOrnament")) "__init__" = some (some (.ref (He.fAd K ("NoOrnament", some "__init__"))))) ∧ (PySem.W.keepIn K (.ref (He.fAd K ("NoOrnament", some "__init__"))) = true) ∧ (PySem.W.isFn K (.ref (He.fAd K ("NoOrnament", some "__init__"))) = true) ∧ (PySem.W.findIn K (.ref (He.ga K "NoDress")) "__init__" = some (some (.ref (He.fAd K ("NoDress", some "__init__"))))) ∧ (PySem.W.keepIn K (.ref (He.fAd K ("NoDress", some "__init__"))) = true) ∧ (PySem.W.isFn K (.ref (He.fAd K ("NoDress", some "__init__"))) = true) ∧ (PySem.W.findIn K (.ref (He.ga K "NoFilling")) "__init__" = some (some (.ref (He.fAd K ("NoFilling", some "__init__"))))) ∧ (PySem.W.keepIn K (.ref (He.fAd K ("NoFilling", some "__init__"))) = true) ∧ (PySem.W.isFn K (.ref (He.fAd K ("NoFilling", some "__init__"))) = true) ∧ (PySem.W.findIn K (.ref (He.ga K "Gap")) "__init__" = some (some (.ref (He.fAd K ("Gap", some "__init__"))))) ∧ (PySem.W.keepIn K (.ref (He.fAd K ("Gap", some "__init__"))) = true) ∧ (PySem.W.isFn K (.ref (He.fAd K ("Gap", some "__init__"))) = true) ∧ (PySem.W.findIn K (.ref (He.ga K "NoIndex")) "__init__" = some (some (.ref (He.fAd K ("NoIndex", some "__init__"))))) ∧ (PySem.W.keepIn K (.ref (He.fAd K ("NoIndex", some "__init__"))) = true) ∧ (PySem.W.isFn K (.ref (He.fAd K ("NoIndex", some "__init__"))) = true) ∧ (PySem.W.findIn K (.ref (He.ga K "NoName")) "__init__" = some (some (.ref (He.fAd K ("NoName", some "__init__"))))) ∧ (PySem.W.keepIn K (.ref (He.fAd K ("NoName", some "__init__"))) = true) ∧ (PySem.W.isFn K (.ref (He.fAd K ("NoName", some "__init__"))) = true) ∧ (PySem.W.findIn K (.ref (He.ga K "Taken")) "__init__" = some (some (.ref (He.fAd K ("Taken", some "__init__"))))) ∧ (PySem.W.keepIn K (.ref (He.fAd K ("Taken", some "__init__"))) = true) ∧ (PySem.W.isFn K (.ref (He.fAd K ("Taken", some "__init__"))) = true) ∧ (PySem.W.findIn K (.ref (He.ga K "InUse")) "__init__" = some (some (.ref (He.fAd K ("InUse", some "__init__"))))) ∧ (PySem.W.keepIn K (.ref (He.fAd K ("InUse", some "__init__"))) = true) := of_decide_eq_true b1
  obtain ⟨i12, a13, k13, i13, a14, k14, i14, a15, k15, a16, k16, a17, k17, a18, k18, a19, k19, a20, k20, a21, k21, a22, k22, a23, k23⟩ : (PySem.W.isFn K (.ref (He.fAd K ("InUse", some "__init__"))) = true) ∧ (PySem.W.findIn K (.ref (He.ga K "NoKind")) "__init__" = some (some (.ref (He.fAd K ("NoKind", some "__init__"))))) ∧ (PySem.W.keepIn K (.ref (He.fAd K ("NoKind", some "__init__"))) = true) ∧ (PySem.W.isFn K (.ref (He.fAd K ("NoKind", some "__init__"))) = true) ∧ (PySem.W.findIn K (.ref (He.ga K "NoBough")) "__init__" = some (some (.ref (He.fAd K ("NoBough", some "__init__"))))) ∧ (PySem.W.keepIn K (.ref (He.fAd K ("NoBough", some "__init__"))) = true) ∧ (PySem.W.isFn K (.ref (He.fAd K ("NoBough", some "__init__"))) = true) ∧ (PySem.W.nsIn K mainGlobals "_law_deck" = some (some (.ref (He.fAd K ("_law_deck", none))))) ∧ (PySem.W.keepIn K (.ref (He.fAd K ("_law_deck", none))) = true) ∧ (PySem.W.nsIn K mainGlobals "_law_draw" = some (some (.ref (He.fAd K ("_law_draw", none))))) ∧ (PySem.W.keepIn K (.ref (He.fAd K ("_law_draw", none))) = true) ∧ (PySem.W.nsIn K mainGlobals "_law_pick" = some (some (.ref (He.fAd K ("_law_pick", none))))) ∧ (PySem.W.keepIn K (.ref (He.fAd K ("_law_pick", none))) = true) ∧ (PySem.W.nsIn K mainGlobals "_law_kinds_of" = some (some (.ref (He.fAd K ("_law_kinds_of", none))))) ∧ (PySem.W.keepIn K (.ref (He.fAd K ("_law_kinds_of", none))) = true) ∧ (PySem.W.nsIn K mainGlobals "_law_above" = some (some (.ref (He.fAd K ("_law_above", none))))) ∧ (PySem.W.keepIn K (.ref (He.fAd K ("_law_above", none))) = true) ∧ (PySem.W.nsIn K mainGlobals "_law_made" = some (some (.ref (He.fAd K ("_law_made", none))))) ∧ (PySem.W.keepIn K (.ref (He.fAd K ("_law_made", none))) = true) ∧ (PySem.W.nsIn K mainGlobals "_law_named" = some (some (.ref (He.fAd K ("_law_named", none))))) ∧ (PySem.W.keepIn K (.ref (He.fAd K ("_law_named", none))) = true) ∧ (PySem.W.nsIn K mainGlobals "_law_fields" = some (some (.ref (He.fAd K ("_law_fields", none))))) ∧ (PySem.W.keepIn K (.ref (He.fAd K ("_law_fields", none))) = true) ∧ (PySem.W.nsIn K mainGlobals "_law_right" = some (some (.ref (He.fAd K ("_law_right", none))))) ∧ (PySem.W.keepIn K (.ref (He.fAd K ("_law_right", none))) = true) := of_decide_eq_true b2
  obtain ⟨a24, k24, a25, k25, g_NUM, g_SUM, g_TOP, g_RUNS, xoBare, xvBare, xdBare, xsBare, xeBare, xtBare, xkBare, xgBare, xhBare, xaBare, xnBare, xjBare, xmBare, nBarekind, xoNoFun, xvNoFun, xdNoFun⟩ : (PySem.W.nsIn K mainGlobals "_law_raised" = some (some (.ref (He.fAd K ("_law_raised", none))))) ∧ (PySem.W.keepIn K (.ref (He.fAd K ("_law_raised", none))) = true) ∧ (PySem.W.nsIn K mainGlobals "law" = some (some (.ref (He.fAd K ("law", none))))) ∧ (PySem.W.keepIn K (.ref (He.fAd K ("law", none))) = true) ∧ ((He.Fa.str "NUM" "num").ok K = true) ∧ ((He.Fa.str "SUM" "sum").ok K = true) ∧ ((He.Fa.str "TOP" "top").ok K = true) ∧ ((He.Fa.int "RUNS" (400)).ok K = true) ∧ (PySem.W.excInitIn K (He.ga K "Bare") ([.type "ValueError", .type "Exception", .type "BaseException", .type "object"] : List Value) "ValueError.__new__" = true) ∧ (PySem.W.excOver K (He.ga K "Bare") ([.type "ValueError", .type "Exception", .type "BaseException", .type "object"] : List Value) = true) ∧ (PySem.W.hasDictIn K (He.ga K "Bare") = true) ∧ (PySem.W.findIn K (.ref (He.ga K "Bare")) "__setattr__" = some (some (.builtin "object.__setattr__"))) ∧ (PySem.W.subIn K (.ref (He.ga K "Bare")) (.type "BaseException") = some true) ∧ (PySem.W.typeIn K (.ref (He.ga K "Bare")) = some (.type "type")) ∧ (PySem.W.keepIn K (.ref (He.ga K "Bare")) = true) ∧ (PySem.W.findIn K (.ref (He.ga K "Bare")) "__getattribute__" = some (some (.builtin "BaseException.__getattribute__"))) ∧ (PySem.W.findIn K (.ref (He.ga K "Bare")) "__getattr__" = some none) ∧ (PySem.W.findIn K (.ref (He.ga K "Bare")) "__class__" = some (some (.builtin "object.__class__"))) ∧ (PySem.W.specialIn K (.builtin "object.__class__") "__get__" = some (some (.builtin "getset_descriptor.__get__"))) ∧ (PySem.W.takesIn K (.builtin "object.__class__") = some true) ∧ (PySem.W.mroIn K (He.ga K "Bare") (.type "object") = some true) ∧ (PySem.W.findIn K (.ref (He.ga K "Bare")) "kind" = some none) ∧ (PySem.W.excInitIn K (He.ga K "NoFun") ([.type "ValueError", .type "Exception", .type "BaseException", .type "object"] : List Value) "ValueError.__new__" = true) ∧ (PySem.W.excOver K (He.ga K "NoFun") ([.type "ValueError", .type "Exception", .type "BaseException", .type "object"] : List Value) = true) ∧ (PySem.W.hasDictIn K (He.ga K "NoFun") = true) := of_decide_eq_true b3
  obtain ⟨xsNoFun, xeNoFun, xtNoFun, xkNoFun, xgNoFun, xhNoFun, xaNoFun, xnNoFun, xjNoFun, xmNoFun, nNoFunrow, xoNoFall, xvNoFall, xdNoFall, xsNoFall, xeNoFall, xtNoFall, xkNoFall, xgNoFall, xhNoFall, xaNoFall, xnNoFall, xjNoFall, xmNoFall, nNoFallrow⟩ : (PySem.W.findIn K (.ref (He.ga K "NoFun")) "__setattr__" = some (some (.builtin "object.__setattr__"))) ∧ (PySem.W.subIn K (.ref (He.ga K "NoFun")) (.type "BaseException") = some true) ∧ (PySem.W.typeIn K (.ref (He.ga K "NoFun")) = some (.type "type")) ∧ (PySem.W.keepIn K (.ref (He.ga K "NoFun")) = true) ∧ (PySem.W.findIn K (.ref (He.ga K "NoFun")) "__getattribute__" = some (some (.builtin "BaseException.__getattribute__"))) ∧ (PySem.W.findIn K (.ref (He.ga K "NoFun")) "__getattr__" = some none) ∧ (PySem.W.findIn K (.ref (He.ga K "NoFun")) "__class__" = some (some (.builtin "object.__class__"))) ∧ (PySem.W.specialIn K (.builtin "object.__class__") "__get__" = some (some (.builtin "getset_descriptor.__get__"))) ∧ (PySem.W.takesIn K (.builtin "object.__class__") = some true) ∧ (PySem.W.mroIn K (He.ga K "NoFun") (.type "object") = some true) ∧ (PySem.W.findIn K (.ref (He.ga K "NoFun")) "row" = some none) ∧ (PySem.W.excInitIn K (He.ga K "NoFall") ([.type "ValueError", .type "Exception", .type "BaseException", .type "object"] : List Value) "ValueError.__new__" = true) ∧ (PySem.W.excOver K (He.ga K "NoFall") ([.type "ValueError", .type "Exception", .type "BaseException", .type "object"] : List Value) = true) ∧ (PySem.W.hasDictIn K (He.ga K "NoFall") = true) ∧ (PySem.W.findIn K (.ref (He.ga K "NoFall")) "__setattr__" = some (some (.builtin "object.__setattr__"))) ∧ (PySem.W.subIn K (.ref (He.ga K "NoFall")) (.type "BaseException") = some true) ∧ (PySem.W.typeIn K (.ref (He.ga K "NoFall")) = some (.type "type")) ∧ (PySem.W.keepIn K (.ref (He.ga K "NoFall")) = true) ∧ (PySem.W.findIn K (.ref (He.ga K "NoFall")) "__getattribute__" = some (some (.builtin "BaseException.__getattribute__"))) ∧ (PySem.W.findIn K (.ref (He.ga K "NoFall")) "__getattr__" = some none) ∧ (PySem.W.findIn K (.ref (He.ga K "NoFall")) "__class__" = some (some (.builtin "object.__class__"))) ∧ (PySem.W.specialIn K (.builtin "object.__class__") "__get__" = some (some (.builtin "getset_descriptor.__get__"))) ∧ (PySem.W.takesIn K (.builtin "object.__class__") = some true) ∧ (PySem.W.mroIn K (He.ga K "NoFall") (.type "object") = some true) ∧ (PySem.W.findIn K (.ref (He.ga K "NoFall")) "row" = some none) := of_decide_eq_true b4
  obtain ⟨xoTooLong, xvTooLong, xdTooLong, xsTooLong, xeTooLong, xtTooLong, xkTooLong, xgTooLong, xhTooLong, xaTooLong, xnTooLong, xjTooLong, xmTooLong, nTooLongmost, xoNoOrnament, xvNoOrnament, xdNoOrnament, xsNoOrnament, xeNoOrnament, xtNoOrnament, xkNoOrnament, xgNoOrnament, xhNoOrnament, xaNoOrnament, xnNoOrnament⟩ : (PySem.W.excInitIn K (He.ga K "TooLong") ([.type "ValueError", .type "Exception", .type "BaseException", .type "object"] : List Value) "ValueError.__new__" = true) ∧ (PySem.W.excOver K (He.ga K "TooLong") ([.type "ValueError", .type "Exception", .type "BaseException", .type "object"] : List Value) = true) ∧ (PySem.W.hasDictIn K (He.ga K "TooLong") = true) ∧ (PySem.W.findIn K (.ref (He.ga K "TooLong")) "__setattr__" = some (some (.builtin "object.__setattr__"))) ∧ (PySem.W.subIn K (.ref (He.ga K "TooLong")) (.type "BaseException") = some true) ∧ (PySem.W.typeIn K (.ref (He.ga K "TooLong")) = some (.type "type")) ∧ (PySem.W.keepIn K (.ref (He.ga K "TooLong")) = true) ∧ (PySem.W.findIn K (.ref (He.ga K "TooLong")) "__getattribute__" = some (some (.builtin "BaseException.__getattribute__"))) ∧ (PySem.W.findIn K (.ref (He.ga K "TooLong")) "__getattr__" = some none) ∧ (PySem.W.findIn K (.ref (He.ga K "TooLong")) "__class__" = some (some (.builtin "object.__class__"))) ∧ (PySem.W.specialIn K (.builtin "object.__class__") "__get__" = some (some (.builtin "getset_descriptor.__get__"))) ∧ (PySem.W.takesIn K (.builtin "object.__class__") = some true) ∧ (PySem.W.mroIn K (He.ga K "TooLong") (.type "object") = some true) ∧ (PySem.W.findIn K (.ref (He.ga K "TooLong")) "most" = some none) ∧ (PySem.W.excInitIn K (He.ga K "NoOrnament") ([.type "ValueError", .type "Exception", .type "BaseException", .type "object"] : List Value) "ValueError.__new__" = true) ∧ (PySem.W.excOver K (He.ga K "NoOrnament") ([.type "ValueError", .type "Exception", .type "BaseException", .type "object"] : List Value) = true) ∧ (PySem.W.hasDictIn K (He.ga K "NoOrnament") = true) ∧ (PySem.W.findIn K (.ref (He.ga K "NoOrnament")) "__setattr__" = some (some (.builtin "object.__setattr__"))) ∧ (PySem.W.subIn K (.ref (He.ga K "NoOrnament")) (.type "BaseException") = some true) ∧ (PySem.W.typeIn K (.ref (He.ga K "NoOrnament")) = some (.type "type")) ∧ (PySem.W.keepIn K (.ref (He.ga K "NoOrnament")) = true) ∧ (PySem.W.findIn K (.ref (He.ga K "NoOrnament")) "__getattribute__" = some (some (.builtin "BaseException.__getattribute__"))) ∧ (PySem.W.findIn K (.ref (He.ga K "NoOrnament")) "__getattr__" = some none) ∧ (PySem.W.findIn K (.ref (He.ga K "NoOrnament")) "__class__" = some (some (.builtin "object.__class__"))) ∧ (PySem.W.specialIn K (.builtin "object.__class__") "__get__" = some (some (.builtin "getset_descriptor.__get__"))) := of_decide_eq_true b5
  obtain ⟨xjNoOrnament, xmNoOrnament, nNoOrnamentkind, xoNoDress, xvNoDress, xdNoDress, xsNoDress, xeNoDress, xtNoDress, xkNoDress, xgNoDress, xhNoDress, xaNoDress, xnNoDress, xjNoDress, xmNoDress, nNoDressrow, xoNoFilling, xvNoFilling, xdNoFilling, xsNoFilling, xeNoFilling, xtNoFilling, xkNoFilling, xgNoFilling⟩ : (PySem.W.takesIn K (.builtin "object.__class__") = some true) ∧ (PySem.W.mroIn K (He.ga K "NoOrnament") (.type "object") = some true) ∧ (PySem.W.findIn K (.ref (He.ga K "NoOrnament")) "kind" = some none) ∧ (PySem.W.excInitIn K (He.ga K "NoDress") ([.type "ValueError", .type "Exception", .type "BaseException", .type "object"] : List Value) "ValueError.__new__" = true) ∧ (PySem.W.excOver K (He.ga K "NoDress") ([.type "ValueError", .type "Exception", .type "BaseException", .type "object"] : List Value) = true) ∧ (PySem.W.hasDictIn K (He.ga K "NoDress") = true) ∧ (PySem.W.findIn K (.ref (He.ga K "NoDress")) "__setattr__" = some (some (.builtin "object.__setattr__"))) ∧ (PySem.W.subIn K (.ref (He.ga K "NoDress")) (.type "BaseException") = some true) ∧ (PySem.W.typeIn K (.ref (He.ga K "NoDress")) = some (.type "type")) ∧ (PySem.W.keepIn K (.ref (He.ga K "NoDress")) = true) ∧ (PySem.W.findIn K (.ref (He.ga K "NoDress")) "__getattribute__" = some (some (.builtin "BaseException.__getattribute__"))) ∧ (PySem.W.findIn K (.ref (He.ga K "NoDress")) "__getattr__" = some none) ∧ (PySem.W.findIn K (.ref (He.ga K "NoDress")) "__class__" = some (some (.builtin "object.__class__"))) ∧ (PySem.W.specialIn K (.builtin "object.__class__") "__get__" = some (some (.builtin "getset_descriptor.__get__"))) ∧ (PySem.W.takesIn K (.builtin "object.__class__") = some true) ∧ (PySem.W.mroIn K (He.ga K "NoDress") (.type "object") = some true) ∧ (PySem.W.findIn K (.ref (He.ga K "NoDress")) "row" = some none) ∧ (PySem.W.excInitIn K (He.ga K "NoFilling") ([.type "ValueError", .type "Exception", .type "BaseException", .type "object"] : List Value) "ValueError.__new__" = true) ∧ (PySem.W.excOver K (He.ga K "NoFilling") ([.type "ValueError", .type "Exception", .type "BaseException", .type "object"] : List Value) = true) ∧ (PySem.W.hasDictIn K (He.ga K "NoFilling") = true) ∧ (PySem.W.findIn K (.ref (He.ga K "NoFilling")) "__setattr__" = some (some (.builtin "object.__setattr__"))) ∧ (PySem.W.subIn K (.ref (He.ga K "NoFilling")) (.type "BaseException") = some true) ∧ (PySem.W.typeIn K (.ref (He.ga K "NoFilling")) = some (.type "type")) ∧ (PySem.W.keepIn K (.ref (He.ga K "NoFilling")) = true) ∧ (PySem.W.findIn K (.ref (He.ga K "NoFilling")) "__getattribute__" = some (some (.builtin "BaseException.__getattribute__"))) := of_decide_eq_true b6
  obtain ⟨xhNoFilling, xaNoFilling, xnNoFilling, xjNoFilling, xmNoFilling, nNoFillingthing, xoGap, xvGap, xdGap, xsGap, xeGap, xtGap, xkGap, xgGap, xhGap, xaGap, xnGap, xjGap, xmGap, nGaprow, nGapwhat, xoNoIndex, xvNoIndex, xdNoIndex, xsNoIndex⟩ : (PySem.W.findIn K (.ref (He.ga K "NoFilling")) "__getattr__" = some none) ∧ (PySem.W.findIn K (.ref (He.ga K "NoFilling")) "__class__" = some (some (.builtin "object.__class__"))) ∧ (PySem.W.specialIn K (.builtin "object.__class__") "__get__" = some (some (.builtin "getset_descriptor.__get__"))) ∧ (PySem.W.takesIn K (.builtin "object.__class__") = some true) ∧ (PySem.W.mroIn K (He.ga K "NoFilling") (.type "object") = some true) ∧ (PySem.W.findIn K (.ref (He.ga K "NoFilling")) "thing" = some none) ∧ (PySem.W.excInitIn K (He.ga K "Gap") ([.type "ValueError", .type "Exception", .type "BaseException", .type "object"] : List Value) "ValueError.__new__" = true) ∧ (PySem.W.excOver K (He.ga K "Gap") ([.type "ValueError", .type "Exception", .type "BaseException", .type "object"] : List Value) = true) ∧ (PySem.W.hasDictIn K (He.ga K "Gap") = true) ∧ (PySem.W.findIn K (.ref (He.ga K "Gap")) "__setattr__" = some (some (.builtin "object.__setattr__"))) ∧ (PySem.W.subIn K (.ref (He.ga K "Gap")) (.type "BaseException") = some true) ∧ (PySem.W.typeIn K (.ref (He.ga K "Gap")) = some (.type "type")) ∧ (PySem.W.keepIn K (.ref (He.ga K "Gap")) = true) ∧ (PySem.W.findIn K (.ref (He.ga K "Gap")) "__getattribute__" = some (some (.builtin "BaseException.__getattribute__"))) ∧ (PySem.W.findIn K (.ref (He.ga K "Gap")) "__getattr__" = some none) ∧ (PySem.W.findIn K (.ref (He.ga K "Gap")) "__class__" = some (some (.builtin "object.__class__"))) ∧ (PySem.W.specialIn K (.builtin "object.__class__") "__get__" = some (some (.builtin "getset_descriptor.__get__"))) ∧ (PySem.W.takesIn K (.builtin "object.__class__") = some true) ∧ (PySem.W.mroIn K (He.ga K "Gap") (.type "object") = some true) ∧ (PySem.W.findIn K (.ref (He.ga K "Gap")) "row" = some none) ∧ (PySem.W.findIn K (.ref (He.ga K "Gap")) "what" = some none) ∧ (PySem.W.excInitIn K (He.ga K "NoIndex") ([.type "ValueError", .type "Exception", .type "BaseException", .type "object"] : List Value) "ValueError.__new__" = true) ∧ (PySem.W.excOver K (He.ga K "NoIndex") ([.type "ValueError", .type "Exception", .type "BaseException", .type "object"] : List Value) = true) ∧ (PySem.W.hasDictIn K (He.ga K "NoIndex") = true) ∧ (PySem.W.findIn K (.ref (He.ga K "NoIndex")) "__setattr__" = some (some (.builtin "object.__setattr__"))) := of_decide_eq_true b7
  obtain ⟨xeNoIndex, xtNoIndex, xkNoIndex, xgNoIndex, xhNoIndex, xaNoIndex, xnNoIndex, xjNoIndex, xmNoIndex, nNoIndexbough, xoNoName, xvNoName, xdNoName, xsNoName, xeNoName, xtNoName, xkNoName, xgNoName, xhNoName, xaNoName, xnNoName, xjNoName, xmNoName, nNoNamename, xoTaken⟩ : (PySem.W.subIn K (.ref (He.ga K "NoIndex")) (.type "BaseException") = some true) ∧ (PySem.W.typeIn K (.ref (He.ga K "NoIndex")) = some (.type "type")) ∧ (PySem.W.keepIn K (.ref (He.ga K "NoIndex")) = true) ∧ (PySem.W.findIn K (.ref (He.ga K "NoIndex")) "__getattribute__" = some (some (.builtin "BaseException.__getattribute__"))) ∧ (PySem.W.findIn K (.ref (He.ga K "NoIndex")) "__getattr__" = some none) ∧ (PySem.W.findIn K (.ref (He.ga K "NoIndex")) "__class__" = some (some (.builtin "object.__class__"))) ∧ (PySem.W.specialIn K (.builtin "object.__class__") "__get__" = some (some (.builtin "getset_descriptor.__get__"))) ∧ (PySem.W.takesIn K (.builtin "object.__class__") = some true) ∧ (PySem.W.mroIn K (He.ga K "NoIndex") (.type "object") = some true) ∧ (PySem.W.findIn K (.ref (He.ga K "NoIndex")) "bough" = some none) ∧ (PySem.W.excInitIn K (He.ga K "NoName") ([.type "ValueError", .type "Exception", .type "BaseException", .type "object"] : List Value) "ValueError.__new__" = true) ∧ (PySem.W.excOver K (He.ga K "NoName") ([.type "ValueError", .type "Exception", .type "BaseException", .type "object"] : List Value) = true) ∧ (PySem.W.hasDictIn K (He.ga K "NoName") = true) ∧ (PySem.W.findIn K (.ref (He.ga K "NoName")) "__setattr__" = some (some (.builtin "object.__setattr__"))) ∧ (PySem.W.subIn K (.ref (He.ga K "NoName")) (.type "BaseException") = some true) ∧ (PySem.W.typeIn K (.ref (He.ga K "NoName")) = some (.type "type")) ∧ (PySem.W.keepIn K (.ref (He.ga K "NoName")) = true) ∧ (PySem.W.findIn K (.ref (He.ga K "NoName")) "__getattribute__" = some (some (.builtin "BaseException.__getattribute__"))) ∧ (PySem.W.findIn K (.ref (He.ga K "NoName")) "__getattr__" = some none) ∧ (PySem.W.findIn K (.ref (He.ga K "NoName")) "__class__" = some (some (.builtin "object.__class__"))) ∧ (PySem.W.specialIn K (.builtin "object.__class__") "__get__" = some (some (.builtin "getset_descriptor.__get__"))) ∧ (PySem.W.takesIn K (.builtin "object.__class__") = some true) ∧ (PySem.W.mroIn K (He.ga K "NoName") (.type "object") = some true) ∧ (PySem.W.findIn K (.ref (He.ga K "NoName")) "name" = some none) ∧ (PySem.W.excInitIn K (He.ga K "Taken") ([.type "ValueError", .type "Exception", .type "BaseException", .type "object"] : List Value) "ValueError.__new__" = true) := of_decide_eq_true b8
  obtain ⟨xvTaken, xdTaken, xsTaken, xeTaken, xtTaken, xkTaken, xgTaken, xhTaken, xaTaken, xnTaken, xjTaken, xmTaken, nTakenname, xoInUse, xvInUse, xdInUse, xsInUse, xeInUse, xtInUse, xkInUse, xgInUse, xhInUse, xaInUse, xnInUse, xjInUse⟩ : (PySem.W.excOver K (He.ga K "Taken") ([.type "ValueError", .type "Exception", .type "BaseException", .type "object"] : List Value) = true) ∧ (PySem.W.hasDictIn K (He.ga K "Taken") = true) ∧ (PySem.W.findIn K (.ref (He.ga K "Taken")) "__setattr__" = some (some (.builtin "object.__setattr__"))) ∧ (PySem.W.subIn K (.ref (He.ga K "Taken")) (.type "BaseException") = some true) ∧ (PySem.W.typeIn K (.ref (He.ga K "Taken")) = some (.type "type")) ∧ (PySem.W.keepIn K (.ref (He.ga K "Taken")) = true) ∧ (PySem.W.findIn K (.ref (He.ga K "Taken")) "__getattribute__" = some (some (.builtin "BaseException.__getattribute__"))) ∧ (PySem.W.findIn K (.ref (He.ga K "Taken")) "__getattr__" = some none) ∧ (PySem.W.findIn K (.ref (He.ga K "Taken")) "__class__" = some (some (.builtin "object.__class__"))) ∧ (PySem.W.specialIn K (.builtin "object.__class__") "__get__" = some (some (.builtin "getset_descriptor.__get__"))) ∧ (PySem.W.takesIn K (.builtin "object.__class__") = some true) ∧ (PySem.W.mroIn K (He.ga K "Taken") (.type "object") = some true) ∧ (PySem.W.findIn K (.ref (He.ga K "Taken")) "name" = some none) ∧ (PySem.W.excInitIn K (He.ga K "InUse") ([.type "ValueError", .type "Exception", .type "BaseException", .type "object"] : List Value) "ValueError.__new__" = true) ∧ (PySem.W.excOver K (He.ga K "InUse") ([.type "ValueError", .type "Exception", .type "BaseException", .type "object"] : List Value) = true) ∧ (PySem.W.hasDictIn K (He.ga K "InUse") = true) ∧ (PySem.W.findIn K (.ref (He.ga K "InUse")) "__setattr__" = some (some (.builtin "object.__setattr__"))) ∧ (PySem.W.subIn K (.ref (He.ga K "InUse")) (.type "BaseException") = some true) ∧ (PySem.W.typeIn K (.ref (He.ga K "InUse")) = some (.type "type")) ∧ (PySem.W.keepIn K (.ref (He.ga K "InUse")) = true) ∧ (PySem.W.findIn K (.ref (He.ga K "InUse")) "__getattribute__" = some (some (.builtin "BaseException.__getattribute__"))) ∧ (PySem.W.findIn K (.ref (He.ga K "InUse")) "__getattr__" = some none) ∧ (PySem.W.findIn K (.ref (He.ga K "InUse")) "__class__" = some (some (.builtin "object.__class__"))) ∧ (PySem.W.specialIn K (.builtin "object.__class__") "__get__" = some (some (.builtin "getset_descriptor.__get__"))) ∧ (PySem.W.takesIn K (.builtin "object.__class__") = some true) := of_decide_eq_true b9
  obtain ⟨xmInUse, nInUsename, xoNoKind, xvNoKind, xdNoKind, xsNoKind, xeNoKind, xtNoKind, xkNoKind, xgNoKind, xhNoKind, xaNoKind, xnNoKind, xjNoKind, xmNoKind, nNoKindkind, xoNoBough, xvNoBough, xdNoBough, xsNoBough, xeNoBough, xtNoBough, xkNoBough, xgNoBough, xhNoBough⟩ : (PySem.W.mroIn K (He.ga K "InUse") (.type "object") = some true) ∧ (PySem.W.findIn K (.ref (He.ga K "InUse")) "name" = some none) ∧ (PySem.W.excInitIn K (He.ga K "NoKind") ([.type "KeyError", .type "LookupError", .type "Exception", .type "BaseException", .type "object"] : List Value) "LookupError.__new__" = true) ∧ (PySem.W.excOver K (He.ga K "NoKind") ([.type "KeyError", .type "LookupError", .type "Exception", .type "BaseException", .type "object"] : List Value) = true) ∧ (PySem.W.hasDictIn K (He.ga K "NoKind") = true) ∧ (PySem.W.findIn K (.ref (He.ga K "NoKind")) "__setattr__" = some (some (.builtin "object.__setattr__"))) ∧ (PySem.W.subIn K (.ref (He.ga K "NoKind")) (.type "BaseException") = some true) ∧ (PySem.W.typeIn K (.ref (He.ga K "NoKind")) = some (.type "type")) ∧ (PySem.W.keepIn K (.ref (He.ga K "NoKind")) = true) ∧ (PySem.W.findIn K (.ref (He.ga K "NoKind")) "__getattribute__" = some (some (.builtin "BaseException.__getattribute__"))) ∧ (PySem.W.findIn K (.ref (He.ga K "NoKind")) "__getattr__" = some none) ∧ (PySem.W.findIn K (.ref (He.ga K "NoKind")) "__class__" = some (some (.builtin "object.__class__"))) ∧ (PySem.W.specialIn K (.builtin "object.__class__") "__get__" = some (some (.builtin "getset_descriptor.__get__"))) ∧ (PySem.W.takesIn K (.builtin "object.__class__") = some true) ∧ (PySem.W.mroIn K (He.ga K "NoKind") (.type "object") = some true) ∧ (PySem.W.findIn K (.ref (He.ga K "NoKind")) "kind" = some none) ∧ (PySem.W.excInitIn K (He.ga K "NoBough") ([.type "KeyError", .type "LookupError", .type "Exception", .type "BaseException", .type "object"] : List Value) "LookupError.__new__" = true) ∧ (PySem.W.excOver K (He.ga K "NoBough") ([.type "KeyError", .type "LookupError", .type "Exception", .type "BaseException", .type "object"] : List Value) = true) ∧ (PySem.W.hasDictIn K (He.ga K "NoBough") = true) ∧ (PySem.W.findIn K (.ref (He.ga K "NoBough")) "__setattr__" = some (some (.builtin "object.__setattr__"))) ∧ (PySem.W.subIn K (.ref (He.ga K "NoBough")) (.type "BaseException") = some true) ∧ (PySem.W.typeIn K (.ref (He.ga K "NoBough")) = some (.type "type")) ∧ (PySem.W.keepIn K (.ref (He.ga K "NoBough")) = true) ∧ (PySem.W.findIn K (.ref (He.ga K "NoBough")) "__getattribute__" = some (some (.builtin "BaseException.__getattribute__"))) ∧ (PySem.W.findIn K (.ref (He.ga K "NoBough")) "__getattr__" = some none) := of_decide_eq_true b10
  obtain ⟨xaNoBough, xnNoBough, xjNoBough, xmNoBough, nNoBoughbough, aCNoBook, xpNoBook, xdNoBook, xeNoBook, xtNoBook, xkNoBook, xgNoBook, xhNoBook, xaNoBook, xnNoBook, xjNoBook, xmNoBook, aCNoText, xpNoText, xdNoText, xeNoText, xtNoText, xkNoText, xgNoText, xhNoText⟩ : (PySem.W.findIn K (.ref (He.ga K "NoBough")) "__class__" = some (some (.builtin "object.__class__"))) ∧ (PySem.W.specialIn K (.builtin "object.__class__") "__get__" = some (some (.builtin "getset_descriptor.__get__"))) ∧ (PySem.W.takesIn K (.builtin "object.__class__") = some true) ∧ (PySem.W.mroIn K (He.ga K "NoBough") (.type "object") = some true) ∧ (PySem.W.findIn K (.ref (He.ga K "NoBough")) "bough" = some none) ∧ (PySem.W.nsIn K mainGlobals "NoBook" = some (some (.ref (He.ga K "NoBook")))) ∧ (PySem.W.excIn K (He.ga K "NoBook") ([.type "ValueError", .type "Exception", .type "BaseException", .type "object"] : List Value) "ValueError.__new__" = true) ∧ (PySem.W.hasDictIn K (He.ga K "NoBook") = true) ∧ (PySem.W.subIn K (.ref (He.ga K "NoBook")) (.type "BaseException") = some true) ∧ (PySem.W.typeIn K (.ref (He.ga K "NoBook")) = some (.type "type")) ∧ (PySem.W.keepIn K (.ref (He.ga K "NoBook")) = true) ∧ (PySem.W.findIn K (.ref (He.ga K "NoBook")) "__getattribute__" = some (some (.builtin "BaseException.__getattribute__"))) ∧ (PySem.W.findIn K (.ref (He.ga K "NoBook")) "__getattr__" = some none) ∧ (PySem.W.findIn K (.ref (He.ga K "NoBook")) "__class__" = some (some (.builtin "object.__class__"))) ∧ (PySem.W.specialIn K (.builtin "object.__class__") "__get__" = some (some (.builtin "getset_descriptor.__get__"))) ∧ (PySem.W.takesIn K (.builtin "object.__class__") = some true) ∧ (PySem.W.mroIn K (He.ga K "NoBook") (.type "object") = some true) ∧ (PySem.W.nsIn K mainGlobals "NoText" = some (some (.ref (He.ga K "NoText")))) ∧ (PySem.W.excIn K (He.ga K "NoText") ([.type "ValueError", .type "Exception", .type "BaseException", .type "object"] : List Value) "ValueError.__new__" = true) ∧ (PySem.W.hasDictIn K (He.ga K "NoText") = true) ∧ (PySem.W.subIn K (.ref (He.ga K "NoText")) (.type "BaseException") = some true) ∧ (PySem.W.typeIn K (.ref (He.ga K "NoText")) = some (.type "type")) ∧ (PySem.W.keepIn K (.ref (He.ga K "NoText")) = true) ∧ (PySem.W.findIn K (.ref (He.ga K "NoText")) "__getattribute__" = some (some (.builtin "BaseException.__getattribute__"))) ∧ (PySem.W.findIn K (.ref (He.ga K "NoText")) "__getattr__" = some none) := of_decide_eq_true b11
  obtain ⟨xaNoText, xnNoText, xjNoText, xmNoText, aCNoBack, xpNoBack, xdNoBack, xeNoBack, xtNoBack, xkNoBack, xgNoBack, xhNoBack, xaNoBack, xnNoBack, xjNoBack, xmNoBack, aCUnlike, xpUnlike, xdUnlike, xeUnlike, xtUnlike, xkUnlike, xgUnlike, xhUnlike, xaUnlike⟩ : (PySem.W.findIn K (.ref (He.ga K "NoText")) "__class__" = some (some (.builtin "object.__class__"))) ∧ (PySem.W.specialIn K (.builtin "object.__class__") "__get__" = some (some (.builtin "getset_descriptor.__get__"))) ∧ (PySem.W.takesIn K (.builtin "object.__class__") = some true) ∧ (PySem.W.mroIn K (He.ga K "NoText") (.type "object") = some true) ∧ (PySem.W.nsIn K mainGlobals "NoBack" = some (some (.ref (He.ga K "NoBack")))) ∧ (PySem.W.excIn K (He.ga K "NoBack") ([.type "ValueError", .type "Exception", .type "BaseException", .type "object"] : List Value) "ValueError.__new__" = true) ∧ (PySem.W.hasDictIn K (He.ga K "NoBack") = true) ∧ (PySem.W.subIn K (.ref (He.ga K "NoBack")) (.type "BaseException") = some true) ∧ (PySem.W.typeIn K (.ref (He.ga K "NoBack")) = some (.type "type")) ∧ (PySem.W.keepIn K (.ref (He.ga K "NoBack")) = true) ∧ (PySem.W.findIn K (.ref (He.ga K "NoBack")) "__getattribute__" = some (some (.builtin "BaseException.__getattribute__"))) ∧ (PySem.W.findIn K (.ref (He.ga K "NoBack")) "__getattr__" = some none) ∧ (PySem.W.findIn K (.ref (He.ga K "NoBack")) "__class__" = some (some (.builtin "object.__class__"))) ∧ (PySem.W.specialIn K (.builtin "object.__class__") "__get__" = some (some (.builtin "getset_descriptor.__get__"))) ∧ (PySem.W.takesIn K (.builtin "object.__class__") = some true) ∧ (PySem.W.mroIn K (He.ga K "NoBack") (.type "object") = some true) ∧ (PySem.W.nsIn K mainGlobals "Unlike" = some (some (.ref (He.ga K "Unlike")))) ∧ (PySem.W.excIn K (He.ga K "Unlike") ([.type "ValueError", .type "Exception", .type "BaseException", .type "object"] : List Value) "ValueError.__new__" = true) ∧ (PySem.W.hasDictIn K (He.ga K "Unlike") = true) ∧ (PySem.W.subIn K (.ref (He.ga K "Unlike")) (.type "BaseException") = some true) ∧ (PySem.W.typeIn K (.ref (He.ga K "Unlike")) = some (.type "type")) ∧ (PySem.W.keepIn K (.ref (He.ga K "Unlike")) = true) ∧ (PySem.W.findIn K (.ref (He.ga K "Unlike")) "__getattribute__" = some (some (.builtin "BaseException.__getattribute__"))) ∧ (PySem.W.findIn K (.ref (He.ga K "Unlike")) "__getattr__" = some none) ∧ (PySem.W.findIn K (.ref (He.ga K "Unlike")) "__class__" = some (some (.builtin "object.__class__"))) := of_decide_eq_true b12
  obtain ⟨xnUnlike, xjUnlike, xmUnlike, q1, q2, q3, q4, q5, q6, q7, q8, q9, y1, y2, y3, y4, y5, y6, y7, y8, y9, y10, y11, y12, y13⟩ : (PySem.W.specialIn K (.builtin "object.__class__") "__get__" = some (some (.builtin "getset_descriptor.__get__"))) ∧ (PySem.W.takesIn K (.builtin "object.__class__") = some true) ∧ (PySem.W.mroIn K (He.ga K "Unlike") (.type "object") = some true) ∧ (PySem.W.nsIn K mainGlobals "isinstance" = some none) ∧ (PySem.W.nsIn K mainGlobals "enumerate" = some none) ∧ (PySem.W.nsIn K mainGlobals "range" = some none) ∧ (PySem.W.nsIn K mainGlobals "len" = some none) ∧ (PySem.W.nsIn K mainGlobals "repr" = some none) ∧ (PySem.W.nsIn K mainGlobals "list" = some none) ∧ (PySem.W.nsIn K mainGlobals "sum" = some none) ∧ (PySem.W.nsIn K mainGlobals "ValueError" = some none) ∧ (PySem.W.nsIn K mainGlobals "KeyError" = some none) ∧ (Dk.kitTab K ([(He.ga K "NoBook"), (He.ga K "NoText"), (He.ga K "NoBack"), (He.ga K "Unlike"), (He.ga K "Bare"), (He.ga K "NoFun"), (He.ga K "NoFall"), (He.ga K "TooLong"), (He.ga K "NoOrnament"), (He.ga K "NoDress"), (He.ga K "NoFilling"), (He.ga K "Gap"), (He.ga K "NoIndex"), (He.ga K "NoName"), (He.ga K "Taken"), (He.ga K "InUse"), (He.ga K "NoKind"), (He.ga K "NoBough")] : List Addr) = true) ∧ (Dk.kitRow K ([(He.ga K "NoBook"), (He.ga K "NoText"), (He.ga K "NoBack"), (He.ga K "Unlike"), (He.ga K "Bare"), (He.ga K "NoFun"), (He.ga K "NoFall"), (He.ga K "TooLong"), (He.ga K "NoOrnament"), (He.ga K "NoDress"), (He.ga K "NoFilling"), (He.ga K "Gap"), (He.ga K "NoIndex"), (He.ga K "NoName"), (He.ga K "Taken"), (He.ga K "InUse"), (He.ga K "NoKind"), (He.ga K "NoBough")] : List Addr) (.ref (He.ga K "KindError")) 0 16 = true) ∧ (Dk.kitRow K ([(He.ga K "NoBook"), (He.ga K "NoText"), (He.ga K "NoBack"), (He.ga K "Unlike"), (He.ga K "Bare"), (He.ga K "NoFun"), (He.ga K "NoFall"), (He.ga K "TooLong"), (He.ga K "NoOrnament"), (He.ga K "NoDress"), (He.ga K "NoFilling"), (He.ga K "Gap"), (He.ga K "NoIndex"), (He.ga K "NoName"), (He.ga K "Taken"), (He.ga K "InUse"), (He.ga K "NoKind"), (He.ga K "NoBough")] : List Addr) (.type "ValueError") 0 16 = true) ∧ (Dk.kitRow K ([(He.ga K "NoBook"), (He.ga K "NoText"), (He.ga K "NoBack"), (He.ga K "Unlike"), (He.ga K "Bare"), (He.ga K "NoFun"), (He.ga K "NoFall"), (He.ga K "TooLong"), (He.ga K "NoOrnament"), (He.ga K "NoDress"), (He.ga K "NoFilling"), (He.ga K "Gap"), (He.ga K "NoIndex"), (He.ga K "NoName"), (He.ga K "Taken"), (He.ga K "InUse"), (He.ga K "NoKind"), (He.ga K "NoBough")] : List Addr) (.type "KeyError") 16 18 = true) ∧ (PySem.W.exmOne K (.ref (He.ga K "NoFilling")) (.ref (He.ga K "NoFilling")) = some true) ∧ (PySem.W.exmOne K (.ref (He.ga K "Gap")) (.ref (He.ga K "NoFilling")) = some false) ∧ (PySem.W.exmOne K (.ref (He.ga K "Gap")) (.ref (He.ga K "KindError")) = some true) ∧ (PySem.W.exmOne K (.ref (He.ga K "NoKind")) (.ref (He.ga K "NoFilling")) = some false) ∧ (PySem.W.exmOne K (.ref (He.ga K "NoKind")) (.ref (He.ga K "KindError")) = some false) ∧ (PySem.W.exmOne K (.ref (He.ga K "NoKind")) (.ref (He.ga K "NoKind")) = some true) ∧ (PySem.W.exmOne K (.ref (He.ga K "NoBough")) (.ref (He.ga K "NoFilling")) = some false) ∧ (PySem.W.exmOne K (.ref (He.ga K "NoBough")) (.ref (He.ga K "KindError")) = some false) ∧ (PySem.W.exmOne K (.ref (He.ga K "NoBough")) (.ref (He.ga K "NoKind")) = some false) := of_decide_eq_true b13
  obtain ⟨y14, y15, y16, y17⟩ : (PySem.W.exmOne K (.ref (He.ga K "NoBough")) (.ref (He.ga K "NoBough")) = some true) ∧ (PySem.W.specialIn K (.ref (He.ga K "KindError")) "__getattribute__" = some (some (.builtin "type.__getattribute__"))) ∧ (PySem.W.readsIn K (He.ga K "KindError") (.type "type") = true) ∧ (Dk.initVE K (He.ga K "KindError") = true) := of_decide_eq_true b14
  obtain ⟨_, _, _, _, _, _, _, _, _, l1, c1⟩ := c.def_ 0 (d := hFn[0]) rfl
  obtain ⟨_, _, _, _, _, _, _, _, _, l2, c2⟩ := c.def_ 1 (d := hFn[1]) rfl
  obtain ⟨_, _, _, _, _, _, _, _, _, l3, c3⟩ := c.def_ 2 (d := hFn[2]) rfl
  obtain ⟨_, _, _, _, _, _, _, _, _, l4, c4⟩ := c.def_ 3 (d := hFn[3]) rfl
  obtain ⟨_, _, _, _, _, _, _, _, _, l5, c5⟩ := c.def_ 4 (d := hFn[4]) rfl
  obtain ⟨_, _, _, _, _, _, _, _, _, l6, c6⟩ := c.def_ 5 (d := hFn[5]) rfl
  obtain ⟨_, _, _, _, _, _, _, _, _, l7, c7⟩ := c.def_ 6 (d := hFn[6]) rfl
  obtain ⟨_, _, _, _, _, _, _, _, _, l8, c8⟩ := c.def_ 7 (d := hFn[7]) rfl
  obtain ⟨_, _, _, _, _, _, _, _, _, l9, c9⟩ := c.def_ 8 (d := hFn[8]) rfl
  obtain ⟨_, _, _, _, _, _, _, _, _, l10, c10⟩ := c.def_ 9 (d := hFn[9]) rfl
  obtain ⟨_, _, _, _, _, _, _, _, _, l11, c11⟩ := c.def_ 10 (d := hFn[10]) rfl
  obtain ⟨_, _, _, _, _, _, _, _, _, l12, c12⟩ := c.def_ 11 (d := hFn[11]) rfl
  obtain ⟨_, _, _, _, _, _, _, _, _, l13, c13⟩ := c.def_ 12 (d := hFn[12]) rfl
  obtain ⟨_, _, _, _, _, _, _, _, _, l14, c14⟩ := c.def_ 13 (d := hFn[13]) rfl
  obtain ⟨_, _, _, _, _, _, _, _, _, l15, c15⟩ := c.def_ 14 (d := hFn[14]) rfl
  obtain ⟨_, _, _, _, _, _, _, _, _, l16, c16⟩ := c.def_ 15 (d := hFn[15]) rfl
  obtain ⟨_, _, _, _, _, _, _, _, _, l17, c17⟩ := c.def_ 16 (d := hFn[16]) rfl
  obtain ⟨_, _, _, _, _, _, _, _, _, l18, c18⟩ := c.def_ 17 (d := hFn[17]) rfl
  obtain ⟨_, _, _, _, _, _, _, _, _, l19, c19⟩ := c.def_ 18 (d := hFn[18]) rfl
  obtain ⟨_, _, _, _, _, _, _, _, _, l20, c20⟩ := c.def_ 19 (d := hFn[19]) rfl
  obtain ⟨_, _, _, _, _, _, _, _, _, l21, c21⟩ := c.def_ 20 (d := hFn[20]) rfl
  obtain ⟨_, _, _, _, _, _, _, _, _, l22, c22⟩ := c.def_ 21 (d := hFn[21]) rfl
  obtain ⟨_, _, _, _, _, _, _, _, _, l23, c23⟩ := c.def_ 22 (d := hFn[22]) rfl
  obtain ⟨_, _, _, _, _, _, _, _, _, l24, c24⟩ := c.def_ 23 (d := hFn[23]) rfl
  obtain ⟨_, _, _, _, _, _, _, _, _, l25, c25⟩ := c.def_ 24 (d := hFn[24]) rfl
  obtain ⟨_, g_NUM⟩ := Dk.faS_in g_NUM
  obtain ⟨_, g_SUM⟩ := Dk.faS_in g_SUM
  obtain ⟨_, g_TOP⟩ := Dk.faS_in g_TOP
  obtain ⟨_, g_RUNS⟩ := Dk.faI_in g_RUNS
  exact all_mk X G hfa aCBare aCNoFun aCNoFall aCTooLong aCNoOrnament aCNoDress aCNoFilling aCGap aCNoIndex aCNoName aCTaken aCInUse aCNoKind aCNoBough aCKindError a1 l1 c1 k1 i1 a2 l2 c2 k2 i2 a3 l3 c3 k3 i3 a4 l4 c4 k4 i4 a5 l5 c5 k5 i5 a6 l6 c6 k6 i6 a7 l7 c7 k7 i7 a8 l8 c8 k8 i8 a9 l9 c9 k9 i9 a10 l10 c10 k10 i10 a11 l11 c11 k11 i11 a12 l12 c12 k12 i12 a13 l13 c13 k13 i13 a14 l14 c14 k14 i14 a15 l15 c15 k15 a16 l16 c16 k16 a17 l17 c17 k17 a18 l18 c18 k18 a19 l19 c19 k19 a20 l20 c20 k20 a21 l21 c21 k21 a22 l22 c22 k22 a23 l23 c23 k23 a24 l24 c24 k24 a25 l25 c25 k25 g_NUM g_SUM g_TOP g_RUNS xoBare xvBare xdBare xsBare xeBare xtBare xkBare xgBare xhBare xaBare xnBare xjBare xmBare nBarekind xoNoFun xvNoFun xdNoFun xsNoFun xeNoFun xtNoFun xkNoFun xgNoFun xhNoFun xaNoFun xnNoFun xjNoFun xmNoFun nNoFunrow xoNoFall xvNoFall xdNoFall xsNoFall xeNoFall xtNoFall xkNoFall xgNoFall xhNoFall xaNoFall xnNoFall xjNoFall xmNoFall nNoFallrow xoTooLong xvTooLong xdTooLong xsTooLong xeTooLong xtTooLong xkTooLong xgTooLong xhTooLong xaTooLong xnTooLong xjTooLong xmTooLong nTooLongmost xoNoOrnament xvNoOrnament xdNoOrnament xsNoOrnament xeNoOrnament xtNoOrnament xkNoOrnament xgNoOrnament xhNoOrnament xaNoOrnament xnNoOrnament xjNoOrnament xmNoOrnament nNoOrnamentkind xoNoDress xvNoDress xdNoDress xsNoDress xeNoDress xtNoDress xkNoDress xgNoDress xhNoDress xaNoDress xnNoDress xjNoDress xmNoDress nNoDressrow xoNoFilling xvNoFilling xdNoFilling xsNoFilling xeNoFilling xtNoFilling xkNoFilling xgNoFilling xhNoFilling xaNoFilling xnNoFilling xjNoFilling xmNoFilling nNoFillingthing xoGap xvGap xdGap xsGap xeGap xtGap xkGap xgGap xhGap xaGap xnGap xjGap xmGap nGaprow nGapwhat xoNoIndex xvNoIndex xdNoIndex xsNoIndex xeNoIndex xtNoIndex xkNoIndex xgNoIndex xhNoIndex xaNoIndex xnNoIndex xjNoIndex xmNoIndex nNoIndexbough xoNoName xvNoName xdNoName xsNoName xeNoName xtNoName xkNoName xgNoName xhNoName xaNoName xnNoName xjNoName xmNoName nNoNamename xoTaken xvTaken xdTaken xsTaken xeTaken xtTaken xkTaken xgTaken xhTaken xaTaken xnTaken xjTaken xmTaken nTakenname xoInUse xvInUse xdInUse xsInUse xeInUse xtInUse xkInUse xgInUse xhInUse xaInUse xnInUse xjInUse xmInUse nInUsename xoNoKind xvNoKind xdNoKind xsNoKind xeNoKind xtNoKind xkNoKind xgNoKind xhNoKind xaNoKind xnNoKind xjNoKind xmNoKind nNoKindkind xoNoBough xvNoBough xdNoBough xsNoBough xeNoBough xtNoBough xkNoBough xgNoBough xhNoBough xaNoBough xnNoBough xjNoBough xmNoBough nNoBoughbough aCNoBook xpNoBook xdNoBook xeNoBook xtNoBook xkNoBook xgNoBook xhNoBook xaNoBook xnNoBook xjNoBook xmNoBook aCNoText xpNoText xdNoText xeNoText xtNoText xkNoText xgNoText xhNoText xaNoText xnNoText xjNoText xmNoText aCNoBack xpNoBack xdNoBack xeNoBack xtNoBack xkNoBack xgNoBack xhNoBack xaNoBack xnNoBack xjNoBack xmNoBack aCUnlike xpUnlike xdUnlike xeUnlike xtUnlike xkUnlike xgUnlike xhUnlike xaUnlike xnUnlike xjUnlike xmUnlike q1 q2 q3 q4 q5 q6 q7 q8 q9 y1 y2 y3 y4 y5 y6 y7 y8 y9 y10 y11 y12 y13 y14 y15 y16 y17
end KB
open PySem PySem.W PySem.Calls PyProof.Rows
set_option maxRecDepth 100000 in
set_option maxHeartbeats 0 in
theorem PySem.Challenge.cw_dressedkinds_k06_refusals_made_holds : PySem.Challenge.rw_dressedkinds_k06_refusals_made.Holds := by
  w_on; o_law
  refine HandSHeadRun.head_any (r := OpenLaw.row PySem.Challenge.rw_dressedkinds_k06_refusals_made) (q := view (OpenLaw.row PySem.Challenge.rw_dressedkinds_k06_refusals_made).prog [35]) (H := KB.hH) (ob := Dk.obX KB.hAs KB.hBs KB.hFn) (M := 15000) (loose := KB.hLoose) (d := HandSHeadRun.topDef (OpenLaw.row PySem.Challenge.rw_dressedkinds_k06_refusals_made).prog 35) (kwd := []) (fun s => Dk.obX_eq s)
    (by kernel_rfl) (fun s => by kernel_rfl) KB.hrun (by kernel_rfl) (by kernel_rfl) (by kernel_rfl) (by rfl) (by first | assumption | decide +kernel) (by decide +kernel) ⟨rfl, rfl, rfl, rfl, rfl, by decide +kernel⟩ ?hw ?hc
  case hw => w_witness2
  case hc =>
    refine Dk.walk_gnE (l := PySem.Challenge.rw_dressedkinds_k06_refusals_made) (n := 63) (k := 8) (x := "_law_script") (sp := KB.spLaw06) rfl (by decide) (by kernel_rfl) ⟨rfl, by decide, by decide⟩ ?F fun K H a ns hl hS => ⟨a, ns, rfl, hS, hl, fun _ => rfl⟩
    intro w mg fa h Y G hmg0
    obtain ⟨K, KX, c⟩ := Y
    have hmg : mg ("law" : PySem.Str) = some (.ref fa) := by
      have e : (HandSHeadRun.topDef (OpenLaw.row PySem.Challenge.rw_dressedkinds_k06_refusals_made).prog 35).name = ("law" : PySem.Str) := by kernel_rfl
      rw [← e]
      exact hmg0
    obtain ⟨fd, hb, hF⟩ := KB.all_run KX G hmg c
    exact ⟨K, fd, KX, hb, hF⟩
