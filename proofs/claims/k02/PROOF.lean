import PyProof.Rows.All
import Wide.All
import OpenK.AllK
import Wide.FinOn
import HandS.HeadHook1
import HandS.Head2
import HandS.Words
import HandS.WordsExc
import HandS.ForMost
import HandS.ForExc
import HandS.TupAny
import HandS.IsInst
import HandS.Flow
import HandS.Style
import HandS.DictComp
import HandS.Defaults
import HandS.StrMore
import HandS.FStr
import HandS.Zip
import HandS.Conv
import HandS.Wide
import HandS.RaiseMore
import HandS.WideMore
import KE.SortData
import HandS.MakeKwOnly
import KE.GoesSet
import HandS.SetKeys
import HandS.SetBool
import KE.KUnpackStar
import HandS.Deep
import HandS.Strs
import HandS.OwnEq
import HandS.Small
import PyProof.Rows.Range3
import PyProof.StrHeap
import HandS.TupMul
import KE.KExcInit
import KE.KExcIs
import HandS.ExcInit
import HandS.ExcField
import HandS.TryMany
import HandS.ExcOwn
import HandS.ExcBuiltin
import PySem.Challenge.RW_dressedkinds_k02_books_equal_and_shown_p
import HandS.WordsDict
import PyProof.StrBlock2
import PyProof.EqKinds
import PyProof.InstNe
import HandS.JoinGen
import HandS.Codes
import PyProof.StrLawsRepr
import HandS.TryOnly
import KE.SortCalls
import KE.SortKeyed
import PyProof.EqLayable
import HandS.SortOrd
import HandS.SortKw
import HandS.Lambda
import HandS.Nested
import HandS.NestedK
set_option Elab.async false
set_option linter.all false
set_option maxRecDepth 100000
set_option maxHeartbeats 4000000
set_option pp.maxSteps 600
set_option pp.maxSteps 9000
set_option pp.maxSteps 6000
set_option pp.maxSteps 40
namespace Dk
open PySem L2 PySem.Spec PyProof.Rows
/-- asked: facts as one Bool, defs -/
def askX (F : PySem.W.Frag → Bool) (fn : List He.FnD) (K : PySem.W.Frag) : Bool × List He.FnV := (F K && fn.all fun d => (He.Fa.code d.at_ d.qual).ok K, fn.map fun d => He.fnObs K d.at_)
def SaysX (F : PySem.W.Frag → Bool) (fn : List He.FnD) (K : PySem.W.Frag) : Prop := askX F fn K = (true, fn.map He.FnD.val)
def hookX (as : List Addr) (F : PySem.W.Frag → Bool) (fn : List He.FnD) : PySem.W.Hook where
  α := Bool × List He.FnV
  obs := fun s => askX F fn (He.frG s.heap.get? as)
  val := fun _ => (true, fn.map He.FnD.val)
  says := fun _ h => ∃ K : PySem.W.Frag, K.In h ∧ SaysX F fn K
  of := fun _ _ e => ⟨_, He.frG_in, e⟩
  keeps := fun _ _ _ ⟨K, hK, c⟩ k => ⟨K, PySem.W.Frag.In.keeps hK k, c⟩
def obX (as : List Addr) (F : PySem.W.Frag → Bool) (fn : List He.FnD) (s : PySem.W.SharedT) : Bool × List He.FnV := askX F fn (He.frG (HandSHeadRun.getT s) as)
theorem obX_eq {as : List Addr} {F : PySem.W.Frag → Bool} {fn : List He.FnD} (s : PySem.W.SharedT) : obX as F fn s = (hookX as F fn).obs s.abs := by
  have e : HandSHeadRun.getT s = s.abs.heap.get? := funext fun a => HandSHeadRun.getT_eq s a
  unfold obX
  rw [e] <;> rfl
end Dk
namespace Dk
open PySem L2
/-- plain data -/
inductive D where
  | non | bl (b : Bool) | int (i : Int) | str (x : Str)
  | tup (xs : List D) | lst (xs : List D) | dic (kvs : List (Key × D))
  | obj (C : Addr) (fs : List (Str × D)) | opq (a : Addr)
  /-- a dict that is locked: it may be walked -/
  | dfz (kvs : List (Key × D))
  /-- a tuple of which it is known that it bears no dict of attributes -/
  | ptp (xs : List D)
mutual
/-- the value v is the datum d, by the objects that stand still -/
inductive Rep (K : PySem.W.Frag) (I : Hp) : V → D → Prop
  | non : Rep K I .non .non
  | bl (b : Bool) : Rep K I (.bl b) (.bl b)
  | int (i : Int) : Rep K I (.int i) (.int i)
  | str (x : Str) : Rep K I (.str x) (.str x)
  | tup {a : Addr} {vs : List V} {ds : List D} : SqT K I a vs → Reps K I vs ds → Rep K I (.ref a) (.tup ds)
  | lst {a : Addr} {vs : List V} {ds : List D} : I a = some (.lst vs) → Reps K I vs ds → Rep K I (.ref a) (.lst ds)
  | dic {a : Addr} {kvs : List (Key × V)} {ds : List (Key × D)} : I a = some (.dK kvs) → kvs.map (·.1) = ds.map (·.1) → Reps K I (kvs.map (·.2)) (ds.map (·.2)) → Rep K I (.ref a) (.dic ds)
  | obj {a C dx : Addr} {fs : List (Str × V)} {ds : List (Str × D)} : I a = some (.ins C dx fs) → fs.map (·.1) = ds.map (·.1) → Reps K I (fs.map (·.2)) (ds.map (·.2)) → Rep K I (.ref a) (.obj C ds)
  | opq (a : Addr) : Rep K I (.ref a) (.opq a)
  | dfz {a : Addr} {o : Obj} {kvs : List (Key × V)} {ds : List (Key × D)} : I a = some (.frz o (.dK kvs)) → kvs.map (·.1) = ds.map (·.1) → Reps K I (kvs.map (·.2)) (ds.map (·.2)) → Rep K I (.ref a) (.dfz ds)
  | ptp {a : Addr} {o : Obj} {vs : List V} {ds : List D} : I a = some (.frz o (.tup vs)) → o.dict = none → Reps K I vs ds → Rep K I (.ref a) (.ptp ds)
inductive Reps (K : PySem.W.Frag) (I : Hp) : List V → List D → Prop
  | nil : Reps K I [] []
  | cons {v : V} {vs : List V} {d : D} {ds : List D} : Rep K I v d → Reps K I vs ds → Reps K I (v :: vs) (d :: ds)
end
theorem Same.seqT {K : PySem.W.Frag} {H H' : Hp} {a : Addr} {xs : List V} (e : Same H H') (h : SqT K H a xs) : SqT K H' a xs := by
  rcases h with (h | ⟨o, h⟩) | h
  · exact .inl (.inl (e _ _ h))
  · exact .inl (.inr ⟨o, e _ _ h⟩)
  · exact .inr h
mutual
theorem Rep.mono {K : PySem.W.Frag} {I I' : Hp} (s : Same I I') : ∀ {v : V} {d : D}, Rep K I v d → Rep K I' v d
  | _, _, .non => .non
  | _, _, .bl b => .bl b
  | _, _, .int i => .int i
  | _, _, .str x => .str x
  | _, _, .tup h r => .tup (Same.seqT s h) (Reps.mono s r)
  | _, _, .lst h r => .lst (s _ _ h) (Reps.mono s r)
  | _, _, .dic h k r => .dic (s _ _ h) k (Reps.mono s r)
  | _, _, .obj h k r => .obj (s _ _ h) k (Reps.mono s r)
  | _, _, .opq a => .opq a
  | _, _, .dfz h k r => .dfz (s _ _ h) k (Reps.mono s r)
  | _, _, .ptp h k r => .ptp (s _ _ h) k (Reps.mono s r)
theorem Reps.mono {K : PySem.W.Frag} {I I' : Hp} (s : Same I I') : ∀ {vs : List V} {ds : List D}, Reps K I vs ds → Reps K I' vs ds
  | _, _, .nil => .nil
  | _, _, .cons h r => .cons (Rep.mono s h) (Reps.mono s r)
end
section
variable {K : PySem.W.Frag} {I : Hp}
theorem Reps.length {vs : List V} {ds : List D} (h : Reps K I vs ds) : vs.length = ds.length := by
  induction vs generalizing ds with
  | nil => cases h; rfl
  | cons v vs ih => cases h with | cons a b => simp [ih b]
theorem Reps.get {vs : List V} {ds : List D} {i : Nat} {d : D} (h : Reps K I vs ds) (e : ds[i]? = some d) : ∃ v, vs[i]? = some v ∧ Rep K I v d := by
  induction vs generalizing ds i with
  | nil => cases h; simp at e
  | cons v vs ih =>
    cases h with
    | cons a b =>
      cases i with
      | zero => simp at e; subst e; exact ⟨v, rfl, a⟩
      | succ i => simp at e; obtain ⟨w, h1, h2⟩ := ih b e; exact ⟨w, by simpa using h1, h2⟩
theorem Reps.getV {vs : List V} {ds : List D} {i : Nat} {v : V} (h : Reps K I vs ds) (e : vs[i]? = some v) : ∃ d, ds[i]? = some d ∧ Rep K I v d := by
  induction vs generalizing ds i with
  | nil => simp at e
  | cons w vs ih =>
    cases h with
    | cons a b =>
      cases i with
      | zero => simp at e; subst e; exact ⟨_, rfl, a⟩
      | succ i => simp at e; obtain ⟨w, h1, h2⟩ := ih b e; exact ⟨w, by simpa using h1, h2⟩
theorem Reps.append {vs ws : List V} {ds es : List D} (h : Reps K I vs ds) (h' : Reps K I ws es) : Reps K I (vs ++ ws) (ds ++ es) := by
  induction vs generalizing ds with
  | nil => cases h; exact h'
  | cons v vs ih => cases h with | cons a b => exact .cons a (ih b)
theorem Reps.take {vs : List V} {ds : List D} (n : Nat) (h : Reps K I vs ds) : Reps K I (vs.take n) (ds.take n) := by
  induction vs generalizing ds n with
  | nil => cases h; simp; exact .nil
  | cons v vs ih =>
    cases h with
    | cons a b =>
      cases n with
      | zero => exact .nil
      | succ n => exact .cons a (ih n b)
theorem Reps.drop {vs : List V} {ds : List D} (n : Nat) (h : Reps K I vs ds) : Reps K I (vs.drop n) (ds.drop n) := by
  induction vs generalizing ds n with
  | nil => cases h; simp; exact .nil
  | cons v vs ih =>
    cases h with
    | cons a b =>
      cases n with
      | zero => exact .cons a b
      | succ n => exact ih n b
theorem Reps.reverse {vs : List V} {ds : List D} (h : Reps K I vs ds) : Reps K I vs.reverse ds.reverse := by
  induction vs generalizing ds with
  | nil => cases h; exact .nil
  | cons v vs ih => cases h with | cons a b => rw [List.reverse_cons, List.reverse_cons]; exact (ih b).append (.cons a .nil)
theorem Reps.set {vs : List V} {ds : List D} {v : V} {d : D} (i : Nat) (h : Reps K I vs ds) (r : Rep K I v d) : Reps K I (vs.set i v) (ds.set i d) := by
  induction vs generalizing ds i with
  | nil => cases h; exact .nil
  | cons w vs ih =>
    cases h with
    | cons a b =>
      cases i with
      | zero => exact .cons r b
      | succ i => exact .cons a (ih i b)
theorem Reps.cut {vs : List V} {ds : List D} (h : Reps K I vs ds) (lo hi : Option Int) : Reps K I (cutV vs lo hi) ((ds.drop (HT.sIx ds.length 0 lo)).take (HT.sIx ds.length ds.length hi - HT.sIx ds.length 0 lo)) := by
  unfold cutV
  rw [h.length]
  exact (h.drop _).take _
theorem Reps.intsV {ns : List Int} {vs : List V} (h : Reps K I vs (ns.map D.int)) : vs = ns.map V.int := by
  induction ns generalizing vs with
  | nil => cases h; rfl
  | cons n ns ih => cases h with | cons a b => cases a; rw [ih b]; rfl
theorem Reps.strsV {ns : List Str} {vs : List V} (h : Reps K I vs (ns.map D.str)) : vs = ns.map V.str := by
  induction ns generalizing vs with
  | nil => cases h; rfl
  | cons n ns ih => cases h with | cons a b => cases a; rw [ih b]; rfl
theorem Reps.blsV {ns : List Bool} {vs : List V} (h : Reps K I vs (ns.map D.bl)) : vs = ns.map V.bl := by
  induction ns generalizing vs with
  | nil => cases h; rfl
  | cons n ns ih => cases h with | cons a b => cases a; rw [ih b]; rfl
end
/-- code objects and the like stay -/
def SameX (I I' : Hp) : Prop := ∀ b φ, I b = some (.ext φ) → I' b = some (.ext φ)
theorem SameX.of {I I' : Hp} (h : ∀ b u, I b = some u → I' b = some u) : SameX I I' := fun b φ e => h b _ e
theorem SameX.refl (I : Hp) : SameX I I := fun _ _ e => e
structure Wd where
  mv : Addr → Prop
  inv : Hp → Hp → Prop
  frame : ∀ {I I' H H' : Hp}, SameX I I' → (∀ b, mv b → H' b = H b) → inv I H → inv I' H'
  live : ∀ {I H : Hp} {b : Addr}, inv I H → mv b → H b ≠ none
structure StI (W : Wd) (I H : Hp) : Prop where
  sub : Same I H
  imm : ∀ b o, I b = some o → ¬ W.mv b
  inv : W.inv I H
structure Stp (W : Wd) (I H I' H' : Hp) : Prop where
  i : Same I I'
  st : StI W I' H'
  h : ∀ b o, H b = some o → ¬ W.mv b → H' b = some o
  new : ∀ b o, H b = some o → I b = none → I' b = none
section
variable {W : Wd} {I H I' H' I'' H'' : Hp}
theorem StI.stp (s : StI W I H) : Stp W I H I H := ⟨Same.refl I, s, fun _ _ e _ => e, fun _ _ _ e => e⟩
theorem Stp.trans (a : Stp W I H I' H') (b : Stp W I' H' I'' H'') : Stp W I H I'' H'' := by
  refine ⟨Same.trans a.i b.i, b.st, fun c o e m => b.h c o (a.h c o e m) m, fun c o e n => ?_⟩
  by_cases m : W.mv c
  · cases q : I'' c with
    | none => rfl
    | some u => exact absurd m (b.st.imm c u q)
  · exact b.new c o (a.h c o e m) (a.new c o e n)
/-- a new object that stands still from now on -/
theorem StI.laid (s : StI W I H) {p : Addr} (hp : H p = none) (o : HO) : Stp W I H (upd I p o) (upd H p o) := by
  have np : ¬ W.mv p := fun m => s.inv |> fun i => W.live i m hp
  have ni : I p = none := by
    cases q : I p with
    | none => rfl
    | some u => rw [s.sub _ _ q] at hp; cases hp
  refine ⟨fun b u e => ?_, ⟨fun b u e => ?_, fun b u e => ?_, ?_⟩, fun b u e _ => ?_, fun b u e n => ?_⟩
  · rw [upd_ne (ne_of_none e ni)]; exact e
  · by_cases hb : b = p
    · subst hb; rw [upd_same] at e ⊢; exact e
    · rw [upd_ne hb] at e ⊢; exact s.sub _ _ e
  · by_cases hb : b = p
    · subst hb; exact np
    · rw [upd_ne hb] at e; exact s.imm _ _ e
  · exact W.frame (.of fun b u e => by rw [upd_ne (ne_of_none e ni)]; exact e) (fun b m => upd_ne fun z => np (z ▸ m)) s.inv
  · rw [upd_ne (ne_of_none e hp)]; exact e
  · rw [upd_ne (ne_of_none e hp)]; exact n
/-- a new object that may turn (of our own) -/
theorem StI.laidM (s : StI W I H) {p : Addr} (hp : H p = none) (o : HO) : Stp W I H I (upd H p o) := by
  have np : ¬ W.mv p := fun m => s.inv |> fun i => W.live i m hp
  refine ⟨Same.refl I, ⟨fun b u e => ?_, s.imm, W.frame (.refl I) (fun b m => upd_ne fun z => np (z ▸ m)) s.inv⟩, fun b u e _ => ?_, fun b u e n => n⟩
  · rw [upd_ne (ne_of_none (s.sub _ _ e) hp)]; exact s.sub _ _ e
  · rw [upd_ne (ne_of_none e hp)]; exact e
theorem StI.free (s : StI W I H) {p : Addr} (hp : H p = none) : I p = none := by
  cases q : I p with
  | none => rfl
  | some u => rw [s.sub _ _ q] at hp; cases hp
end
inductive Ent where
  | dat (d : D)
  /-- a list of our own, that may grow -/
  | own (ds : List D)
  /-- a dict of our own -/
  | ownD (kvs : List (Key × D))
  /-- an object of our own, as long as its attributes are set -/
  | ownO (q C : Addr) (fs : List (Str × D))
  /-- a dict of our own, at a known place -/
  | ownQ (q : Addr) (kvs : List (Key × D))
  /-- .. locked -/
  | ownF (q : Addr) (kvs : List (Key × D))
  /-- a list of our own, at a known place -/
  | ownL (q : Addr) (ds : List D)
  /-- a dict of our own at a known place, its keys tuples -/
  | ownT (q : Addr) (kvs : List (List Key × D))
/-- the place it must be at -/
def Ent.adr : Ent → Option Addr
  | .ownO q _ _ => some q
  | .ownQ q _ => some q
  | .ownF q _ => some q
  | .ownL q _ => some q
  | .ownT q _ => some q
  | _ => none
abbrev DEnv := List (Option Ent)
/-- a def's frame: the world, the heaps at its entry -/
structure Fx where
  W : Wd
  B : Hp
  I0 : Hp
def Ent.isOwn : Ent → Prop
  | .dat _ => False
  | _ => True
/-- what it is once it stands still -/
def Ent.toD : Ent → D
  | .dat d => d
  | .own ds => .lst ds
  | .ownD ds => .dic ds
  | .ownO _ C fs => .obj C fs
  | .ownQ _ ds => .dic ds
  | .ownF _ ds => .dfz ds
  | .ownL _ ds => .lst ds
  | .ownT q _ => .opq q
def OwnRep (K : PySem.W.Frag) (I : Hp) : Ent → HO → Prop
  | .dat _, _ => False
  | .own ds, o => ∃ vs, o = .lst vs ∧ Reps K I vs ds
  | .ownD ds, o => ∃ kvs, o = .dK kvs ∧ kvs.map (·.1) = ds.map (·.1) ∧ Reps K I (kvs.map (·.2)) (ds.map (·.2))
  | .ownO _ C fs, o => ∃ dx ws, o = .ins C dx ws ∧ ws.map (·.1) = fs.map (·.1) ∧ Reps K I (ws.map (·.2)) (fs.map (·.2))
  | .ownQ _ ds, o => ∃ kvs, o = .dK kvs ∧ kvs.map (·.1) = ds.map (·.1) ∧ Reps K I (kvs.map (·.2)) (ds.map (·.2))
  | .ownF _ ds, o => ∃ f kvs, o = .frz f (.dK kvs) ∧ kvs.map (·.1) = ds.map (·.1) ∧ Reps K I (kvs.map (·.2)) (ds.map (·.2))
  | .ownL _ ds, o => ∃ vs, o = .lst vs ∧ Reps K I vs ds
  | .ownT _ ds, o => ∃ kvs, o = .dT kvs ∧ kvs.map (·.1) = ds.map (·.1) ∧ Reps K I (kvs.map (·.2)) (ds.map (·.2))
theorem OwnRep.mono {K : PySem.W.Frag} {I I' : Hp} (s : Same I I') {e : Ent} {o : HO} (h : OwnRep K I e o) : OwnRep K I' e o := by
  cases e with
  | dat _ => exact h
  | own ds => obtain ⟨vs, q, r⟩ := h; exact ⟨vs, q, r.mono s⟩
  | ownD ds => obtain ⟨vs, q, k, r⟩ := h; exact ⟨vs, q, k, r.mono s⟩
  | ownO _ C fs => obtain ⟨dx, vs, q, k, r⟩ := h; exact ⟨dx, vs, q, k, r.mono s⟩
  | ownQ _ ds => obtain ⟨vs, q, k, r⟩ := h; exact ⟨vs, q, k, r.mono s⟩
  | ownF _ ds => obtain ⟨f, vs, q, k, r⟩ := h; exact ⟨f, vs, q, k, r.mono s⟩
  | ownL _ ds => obtain ⟨vs, q, r⟩ := h; exact ⟨vs, q, r.mono s⟩
  | ownT _ ds => obtain ⟨vs, q, k, r⟩ := h; exact ⟨vs, q, k, r.mono s⟩
theorem OwnRep.rep {K : PySem.W.Frag} {I : Hp} {e : Ent} {o : HO} {p : Addr} (h : OwnRep K I e o) (hp : I p = some o) (ha : ∀ q, e.adr = some q → p = q) : Rep K I (.ref p) e.toD := by
  cases e with
  | dat _ => exact h.elim
  | own ds => obtain ⟨vs, rfl, r⟩ := h; exact .lst hp r
  | ownD ds => obtain ⟨vs, rfl, k, r⟩ := h; exact .dic hp k r
  | ownO _ C fs => obtain ⟨dx, vs, rfl, k, r⟩ := h; exact .obj hp k r
  | ownQ _ ds => obtain ⟨vs, rfl, k, r⟩ := h; exact .dic hp k r
  | ownF _ ds => obtain ⟨f, vs, rfl, k, r⟩ := h; exact .dfz hp k r
  | ownL _ ds => obtain ⟨vs, rfl, r⟩ := h; exact .lst hp r
  | ownT q ds => rw [ha q rfl]; exact .opq q
theorem OwnRep.isOwn {K : PySem.W.Frag} {I : Hp} {e : Ent} {o : HO} (h : OwnRep K I e o) : e.isOwn := by
  cases e <;> first | exact h.elim | trivial
/-- e is held by v: nothing of it stands still -/
structure OwnAt (F : Fx) (K : PySem.W.Frag) (I H : Hp) (e : Ent) (p : Addr) (o : HO) : Prop where
  hp : H p = some o
  rep : OwnRep K I e o
  ni : I p = none
  nm : ¬ F.W.mv p
  nb : F.B p = none
  ad : ∀ q, e.adr = some q → p = q
def EntRep (F : Fx) (K : PySem.W.Frag) (I H : Hp) (e : Ent) (v : V) : Prop :=
  (∃ d, e = .dat d ∧ Rep K I v d) ∨ ∃ p o, v = .ref p ∧ OwnAt F K I H e p o
theorem EntRep.dat {F : Fx} {K : PySem.W.Frag} {I H : Hp} {d : D} {v : V} (h : EntRep F K I H (.dat d) v) : Rep K I v d := by
  rcases h with ⟨d', e, r⟩ | ⟨p, o, _, h⟩
  · cases e; exact r
  · exact h.rep.elim
theorem EntRep.own {F : Fx} {K : PySem.W.Frag} {I H : Hp} {e : Ent} {v : V} (h : EntRep F K I H e v) (o : e.isOwn) : ∃ p u, v = .ref p ∧ OwnAt F K I H e p u := by
  rcases h with ⟨d', rfl, r⟩ | h
  · exact o.elim
  · exact h
structure At (F : Fx) (K : PySem.W.Frag) (I : Hp) (ρ : DEnv) (σ : St) (H : Hp) : Prop where
  stp : Stp F.W F.I0 F.B I H
  len : ρ.length = σ.length
  env : ∀ (i : Nat) e, ρ[i]? = some (some e) → ∃ v, σ[i]? = some (some v) ∧ EntRep F K I H e v
  dis : ∀ (i j : Nat) e e' v, i ≠ j → ρ[i]? = some (some e) → ρ[j]? = some (some e') → e.isOwn → e'.isOwn → σ[i]? = some (some v) → σ[j]? ≠ some (some v)
section
variable {F : Fx} {K : PySem.W.Frag} {I H I' H' : Hp} {ρ : DEnv} {σ : St}
theorem At.st (a : At F K I ρ σ H) : StI F.W I H := a.stp.st
theorem OwnAt.step {e : Ent} {p : Addr} {o : HO} (h : OwnAt F K I H e p o) (s : Stp F.W I H I' H') : OwnAt F K I' H' e p o := ⟨s.h _ _ h.hp h.nm, h.rep.mono s.i, s.new _ _ h.hp h.ni, h.nm, h.nb, h.ad⟩
theorem EntRep.step {e : Ent} {v : V} (h : EntRep F K I H e v) (s : Stp F.W I H I' H') : EntRep F K I' H' e v := by
  rcases h with ⟨d, rfl, r⟩ | ⟨p, o, rfl, h⟩
  · exact .inl ⟨d, rfl, r.mono s.i⟩
  · exact .inr ⟨p, o, rfl, h.step s⟩
theorem At.step (a : At F K I ρ σ H) (s : Stp F.W I H I' H') : At F K I' ρ σ H' :=
  ⟨a.stp.trans s, a.len, fun i e h => let ⟨v, h1, h2⟩ := a.env i e h; ⟨v, h1, h2.step s⟩, a.dis⟩
end
abbrev DT := DEnv → (D → Prop) → Prop
abbrev DB := DEnv → (Bool → Prop) → Prop
def fin (F : Fx) (K : PySem.W.Frag) (I H : Hp) (Q : VK) : D → Prop := fun d => ∀ v I' H', Stp F.W I H I' H' → Rep K I' v d → Q v H'
def finB (F : Fx) (I H : Hp) (Q : Bool → Hp → Prop) : Bool → Prop := fun b => ∀ I' H', Stp F.W I H I' H' → Q b H'
def rdE (F : Fx) (K : PySem.W.Frag) (t : DT) : TE := fun σ H Q => ∃ I ρ, At F K I ρ σ H ∧ t ρ (fin F K I H Q)
def rdT (F : Fx) (K : PySem.W.Frag) (t : DB) : TT := fun σ H Q => ∃ I ρ, At F K I ρ σ H ∧ t ρ (finB F I H Q)
structure DE (F : Fx) (X : Cx) (e : Expr) (t : DT) : Prop where
  mono : ∀ ρ (Q Q' : D → Prop), (∀ d, Q d → Q' d) → t ρ Q → t ρ Q'
  run : PE X e (rdE F X.K t)
structure DTest (F : Fx) (X : Cx) (e : Expr) (t : DB) : Prop where
  mono : ∀ ρ (Q Q' : Bool → Prop), (∀ d, Q d → Q' d) → t ρ Q → t ρ Q'
  run : PT X e (rdT F X.K t)
section
variable {F : Fx} {X : Cx} {K : PySem.W.Frag} {I H : Hp} {ρ : DEnv} {σ : St}
/-- a reading passes on to what follows -/
theorem rdE_next {t : DT} (mono : ∀ ρ (Q Q' : D → Prop), (∀ d, Q d → Q' d) → t ρ Q → t ρ Q') (a : At F K I ρ σ H) {P : D → Prop} {R : V → Hp → Prop} (h : t ρ P)
    (k : ∀ d v I' H', P d → Stp F.W I H I' H' → Rep K I' v d → R v H') : rdE F K t σ H R :=
  ⟨I, ρ, a, mono ρ _ _ (fun d p v I' H' s r => k d v I' H' p s r) h⟩
theorem rdT_next {t : DB} (mono : ∀ ρ (Q Q' : Bool → Prop), (∀ d, Q d → Q' d) → t ρ Q → t ρ Q') (a : At F K I ρ σ H) {P : Bool → Prop} {R : Bool → Hp → Prop} (h : t ρ P)
    (k : ∀ d I' H', P d → Stp F.W I H I' H' → R d H') : rdT F K t σ H R :=
  ⟨I, ρ, a, mono ρ _ _ (fun d p I' H' s => k d I' H' p s) h⟩
/-- the reading of a PE may be strengthened -/
theorem _root_.L2.PE.imp {e : Expr} {t u : TE} (h : PE X e t) (i : ∀ σ H Q, u σ H Q → t σ H Q) : PE X e u := ⟨fun pins s σ H Q J q => h.run pins s σ H Q J (i σ H Q q)⟩
theorem _root_.L2.PT.imp {e : Expr} {t u : TT} (h : PT X e t) (i : ∀ σ H Q, u σ H Q → t σ H Q) : PT X e u := ⟨fun pins s σ H Q J q => h.run pins s σ H Q J (i σ H Q q)⟩
theorem _root_.L2.PS.imp {e : Stmt} {t u : TS} (h : PS X e t) (i : ∀ D σ H, u D σ H → t D σ H) : PS X e u := ⟨fun pins s σ H Q J q => h.run pins s σ H Q J (i Q σ H q)⟩
theorem _root_.L2.PSs.imp {e : List Stmt} {t u : TS} (h : PSs X e t) (i : ∀ D σ H, u D σ H → t D σ H) : PSs X e u := ⟨fun pins s σ H Q J q => h.run pins s σ H Q J (i Q σ H q)⟩
theorem _root_.L2.PA.imp {e : List Expr} {t u : TA} (h : PA X e t) (i : ∀ σ H Q, u σ H Q → t σ H Q) : PA X e u := ⟨fun pos pins s σ H Q J q => h.run pos pins s σ H Q J (i σ H Q q)⟩
end
def getD (ρ : DEnv) (i : Nat) (Q : D → Prop) : Prop := ∃ d, ρ[i]? = some (some (.dat d)) ∧ Q d
section
variable {F : Fx} {X : Cx}
theorem de_name (i : Nat) {x : Str} {pos : Pos} (hN : X.N[i]? = some x := by rfl) (hv : Vis X.env.scope x := by first | exact Or.inl rfl | exact Or.inr (Or.inl rfl) | exact Or.inr (Or.inr rfl)) (hd : (x == ("__debug__" : Str)) = false := by decide)
    (hcd : (x == ("__classdict__" : Str)) = false := by decide) : DE F X (.Name x pos) (fun ρ Q => getD ρ i Q) := by
  refine ⟨fun ρ Q Q' h ⟨d, e, q⟩ => ⟨d, e, h d q⟩, (pv i hN hv hd hcd).imp fun σ H Q ⟨I, ρ, a, d, e, q⟩ => ?_⟩
  obtain ⟨v, h1, h2⟩ := a.env i _ e
  exact ⟨v, h1, q v I H a.st.stp h2.dat⟩
theorem de_const {e : Expr} {v : V} {d : D} (h : PE X e (tC v)) (r : ∀ I, Rep X.K I v d) : DE F X e (fun _ Q => Q d) :=
  ⟨fun _ _ _ h q => h _ q, h.imp fun σ H Q ⟨I, ρ, a, q⟩ => q v I H a.st.stp (r I)⟩
theorem de_int {i : Int} {j : Nat} {pos : Pos} : DE F X (.Constant (.int i) j pos) (fun _ Q => Q (.int i)) := de_const pe_int fun _ => .int i
theorem de_bl {i : Bool} {j : Nat} {pos : Pos} : DE F X (.Constant (.bool i) j pos) (fun _ Q => Q (.bl i)) := de_const pe_bl fun _ => .bl i
theorem de_non {j : Nat} {pos : Pos} : DE F X (.Constant .none j pos) (fun _ Q => Q .non) := de_const pe_non fun _ => .non
theorem de_str {x : Str} {j : Nat} {pos : Pos} : DE F X (.Constant (.str x) j pos) (fun _ Q => Q (.str x)) := de_const pe_str fun _ => .str x
/-- a module's constant -/
theorem de_gstr {x : Str} {y : Str} {u : Value} {pos : Pos} (hg : Gl X x) (hm : X.mg x = some u) (r : RelV (.str y) u) (hd : (x == ("__debug__" : Str)) = false := by decide) : DE F X (.Name x pos) (fun _ Q => Q (.str y)) :=
  de_const (pe_glob hg hm r hd) fun _ => .str y
theorem de_gint {x : Str} {y : Int} {u : Value} {pos : Pos} (hg : Gl X x) (hm : X.mg x = some u) (r : RelV (.int y) u) (hd : (x == ("__debug__" : Str)) = false := by decide) : DE F X (.Name x pos) (fun _ Q => Q (.int y)) :=
  de_const (pe_glob hg hm r hd) fun _ => .int y
end
end Dk
namespace Dk
open PySem L2
mutual
def toPy : D → PyData
  | .bl b => .bool b
  | .int i => .int i
  | .str x => .str x
  | .tup xs => .tuple (toPys xs)
  | .lst xs => .list (toPys xs)
  | .non => .none
  | .dic _ => .none
  | .obj _ _ => .none
  | .opq _ => .none
  | .ptp _ => .none
  | .dfz _ => .none
def toPys : List D → List PyData
  | [] => []
  | d :: ds => toPy d :: toPys ds
end
def keyD : Key → D
  | .inl i => .int i
  | .inr x => .str x
theorem keyD_rep {K : PySem.W.Frag} {I : Hp} {v : V} {k : Key} (r : Rep K I v (keyD k)) : v = kV k := by
  cases k <;> (cases r; rfl)
def lookD (kvs : List (Key × D)) (k : Key) : Option D := (kvs.find? fun kv => decide (kv.1 = k)).map (·.2)
theorem lookD_rep {K : PySem.W.Frag} {I : Hp} {k : Key} : ∀ {kvs : List (Key × V)} {ds : List (Key × D)}, kvs.map (·.1) = ds.map (·.1) → Reps K I (kvs.map (·.2)) (ds.map (·.2)) → (valV kvs k = none ∧ lookD ds k = none) ∨ ∃ v d, valV kvs k = some v ∧ lookD ds k = some d ∧ Rep K I v d
  | [], [], _, _ => .inl ⟨rfl, rfl⟩
  | [], _ :: _, h, _ => by simp at h
  | _ :: _, [], h, _ => by simp at h
  | (i, x) :: kvs, (j, y) :: ds, h, r => by
    simp only [List.map_cons, List.cons.injEq] at h
    obtain ⟨rfl, h⟩ := h
    cases r with
    | cons r1 r2 =>
      by_cases e : i = k
      · exact .inr ⟨x, y, by simp [valV, List.find?_cons, e], by simp [lookD, List.find?_cons, e], r1⟩
      · have e1 : valV ((i, x) :: kvs) k = valV kvs k := by simp [valV, List.find?_cons, e]
        have e2 : lookD ((i, y) :: ds) k = lookD ds k := by simp [lookD, List.find?_cons, e]
        rw [e1, e2]
        exact lookD_rep h r2
mutual
/-- nothing but none, truths, numbers, texts, tuples, lists -/
def plainD : D → Bool
  | .non | .bl _ | .int _ | .str _ => true
  | .tup xs => plainDs xs
  | .lst xs => plainDs xs
  | .dic _ => false
  | .obj _ _ => false
  | .opq _ => false
  | .ptp _ => false
  | .dfz _ => false
def plainDs : List D → Bool
  | [] => true
  | d :: ds => plainD d && plainDs ds
end
def deq (x y : D) : Bool := PyData.eqv (toPy x) (toPy y)
def okE (x : D) : Bool := plainD x && SeqAt.shaped (toPy x)
def scalD : D → Bool
  | .non | .bl _ | .int _ | .str _ => true
  | _ => false
mutual
theorem Rep.dp {K : PySem.W.Frag} {I H : Hp} (s : Same I H) : ∀ {d : D} {v : V}, plainD d = true → Rep K I v d → Dp K H v (toPy d)
  | .non, _, _, h => by cases h; exact .non
  | .bl b, _, _, h => by cases h; exact .bl b
  | .int i, _, _, h => by cases h; exact .int i
  | .str x, _, _, h => by cases h; exact .str x
  | .tup xs, _, p, h => by
    cases h with
    | tup a r => exact .tup (Same.seqT s a) (Reps.dp s (by unfold plainD at p; exact p) r)
  | .lst xs, _, p, h => by
    cases h with
    | lst a r => exact .lst (.of (s _ _ a)) (Reps.dp s (by unfold plainD at p; exact p) r)
  | .dic _, _, p, h => by unfold plainD at p; cases p
  | .obj _ _, _, p, h => by unfold plainD at p; cases p
  | .opq _, _, p, h => by unfold plainD at p; cases p
  | .ptp _, _, p, h => by unfold plainD at p; cases p
  | .dfz _, _, p, h => by unfold plainD at p; cases p
theorem Reps.dp {K : PySem.W.Frag} {I H : Hp} (s : Same I H) : ∀ {ds : List D} {vs : List V}, plainDs ds = true → Reps K I vs ds → DpAll K H vs (toPys ds)
  | [], _, _, h => by cases h; exact .nil
  | d :: ds, _, p, h => by
    cases h with
    | cons a b =>
      unfold plainDs at p
      rw [Bool.and_eq_true] at p
      exact .cons (Rep.dp s p.1 a) (Reps.dp s p.2 b)
end
/-- a truth beside a number -/
def mixD : D → D → Bool
  | .bl _, .int _ => true
  | .int _, .bl _ => true
  | _, _ => false
theorem scal_of {K : PySem.W.Frag} {I : Hp} {v w : V} {d e : D} (h : Rep K I v d) (h' : Rep K I w e) (s : scalD d = true) (s' : scalD e = true) (m : mixD d e = false) : scal v w = true ∧ decide (v = w) = deq d e := by
  cases h with
  | tup _ _ => cases s
  | lst _ _ => cases s
  | dic _ _ _ => cases s
  | obj _ _ _ => cases s
  | opq _ => cases s
  | dfz _ _ _ => cases s
  | ptp _ _ _ => cases s
  | non => cases h' <;> first | (cases s'; done) | exact ⟨rfl, rfl⟩
  | bl b => cases h' <;> first | (cases s'; done) | (cases m; done) | exact ⟨rfl, dec_bl⟩ | exact ⟨rfl, rfl⟩
  | int b => cases h' <;> first | (cases s'; done) | (cases m; done) | exact ⟨rfl, dec_int⟩ | exact ⟨rfl, rfl⟩
  | str b => cases h' <;> first | (cases s'; done) | exact ⟨rfl, dec_str⟩ | exact ⟨rfl, rfl⟩
def LiftR (F : Fx) (K : PySem.W.Frag) (R : R2) (r : D → D → (D → Prop) → Prop) : Prop :=
  ∀ (x y : V) (dx dy : D) (I H : Hp) (Q : VK), StI F.W I H → Rep K I x dx → Rep K I y dy → r dx dy (fin F K I H Q) → R x y H Q
abbrev Mono2 (r : D → D → (D → Prop) → Prop) : Prop := ∀ x y (Q Q' : D → Prop), (∀ d, Q d → Q' d) → r x y Q → r x y Q'
abbrev MonoN (r : List D → (D → Prop) → Prop) : Prop := ∀ x (Q Q' : D → Prop), (∀ d, Q d → Q' d) → r x Q → r x Q'
section
variable {F : Fx} {X : Cx} {K : PySem.W.Frag} {I H I' H' : Hp} {Q : VK} {a b c : Expr} {ta tb tc : DT} {pos : Pos} {R : R2} {r : D → D → (D → Prop) → Prop}
theorem fin.of (q : fin F K I H Q d) (s : Stp F.W I H I' H') : fin F K I' H' Q d := fun v I2 H2 s2 rv => q v I2 H2 (s.trans s2) rv
theorem two_run (mr : Mono2 r) (l : LiftR F X.K R r) (ha : DE F X a ta) (hb : DE F X b tb) {σ : St} (h : rdE F X.K (fun ρ Q => ta ρ fun x => tb ρ fun y => r x y Q) σ H Q) : tOp R (rdE F X.K ta) (rdE F X.K tb) σ H Q := by
  obtain ⟨I, ρ, A, h⟩ := h
  refine rdE_next ha.mono A h fun d v I' H' p s rv => ?_
  refine rdE_next hb.mono (A.step s) p fun e u I2 H2 q s2 ru => ?_
  exact l v u d e I2 H2 Q s2.st (rv.mono s2.i) ru (mr _ _ _ _ (fun z hz => hz.of (s.trans s2)) q)
theorem two_mono (mr : Mono2 r) (ha : DE F X a ta) (hb : DE F X b tb) : ∀ ρ (Q Q' : D → Prop), (∀ d, Q d → Q' d) → (ta ρ fun x => tb ρ fun y => r x y Q) → (ta ρ fun x => tb ρ fun y => r x y Q') :=
  fun ρ Q Q' k h => ha.mono _ _ _ (fun d h => hb.mono _ _ _ (fun e h => mr _ _ _ _ k h) h) h
theorem de_op {op : Operator} (mr : Mono2 r) (ho : OpR X (binaryOp op) R) (l : LiftR F X.K R r) (ha : DE F X a ta) (hb : DE F X b tb) : DE F X (.BinOp a op b pos) (fun ρ Q => ta ρ fun x => tb ρ fun y => r x y Q) :=
  ⟨two_mono mr ha hb, (pe_op ho ha.run hb.run).imp fun σ H Q h => two_run mr l ha hb h⟩
theorem de_cmp {op : CmpOp} (mr : Mono2 r) (ho : OpR X (compareOp op) R) (l : LiftR F X.K R r) (ha : DE F X a ta) (hb : DE F X b tb) (hm : behindInMarks op b = false) : DE F X (.Compare a [op] [b] pos) (fun ρ Q => ta ρ fun x => tb ρ fun y => r x y Q) :=
  ⟨two_mono mr ha hb, (pe_cmpR ho ha.run hb.run hm).imp fun σ H Q h => two_run mr l ha hb h⟩
theorem de_ix (mr : Mono2 r) (ho : IxR X R) (l : LiftR F X.K R r) (ha : DE F X a ta) (hb : DE F X b tb) (hs : PlainIx b := by exact fun _ _ => rfl) : DE F X (.Subscript a b pos) (fun ρ Q => ta ρ fun x => tb ρ fun y => r x y Q) :=
  ⟨two_mono mr ha hb, (pe_ix ho ha.run hb.run hs).imp fun σ H Q h => two_run mr l ha hb h⟩
def boolD (d : D) (Q : Bool → Prop) : Prop := ∃ b, d = .bl b ∧ Q b
theorem boolD.mono {d : D} {Q Q' : Bool → Prop} (k : ∀ b, Q b → Q' b) : boolD d Q → boolD d Q' := fun ⟨b, e, q⟩ => ⟨b, e, k b q⟩
theorem dt_cmp {op : CmpOp} (mr : Mono2 r) (ho : OpR X (compareOp op) R) (l : LiftR F X.K R r) (ha : DE F X a ta) (hb : DE F X b tb) (hm : behindInMarks op b = false) : DTest F X (.Compare a [op] [b] pos) (fun ρ Q => ta ρ fun x => tb ρ fun y => r x y fun z => boolD z Q) := by
  refine ⟨fun ρ Q Q' k h => two_mono mr ha hb _ _ _ (fun d => boolD.mono k) h, (pt_cmpR ho ha.run hb.run hm).imp fun σ H Q ⟨I, ρ, A, h⟩ => ?_⟩
  refine two_run mr l ha hb ⟨I, ρ, A, two_mono mr ha hb _ _ _ (fun d hd => ?_) h⟩
  obtain ⟨b, rfl, q⟩ := hd
  intro v I' H' s rv
  cases rv
  exact ⟨b, rfl, q I' H' s⟩
theorem dt_val (ha : DE F X a ta) (he : ∀ whole, isTrue a X.env whole = (do let v ← whole; standAt a.pos; holding [v] (truthy v)) := by intro _; rfl) : DTest F X a (fun ρ Q => ta ρ fun d => boolD d Q) := by
  refine ⟨fun ρ Q Q' k h => ha.mono _ _ _ (fun d => boolD.mono k) h, (pt_val ha.run he).imp fun σ H Q ⟨I, ρ, A, h⟩ => ?_⟩
  refine rdE_next ha.mono A h fun d v I' H' p s rv => ?_
  obtain ⟨b, rfl, q⟩ := p
  cases rv
  exact ⟨b, rfl, q I' H' s⟩
end
structure DWh (F : Fx) (X : Cx) (e : Expr) (t : DB) : Prop where
  mono : ∀ ρ (Q Q' : Bool → Prop), (∀ d, Q d → Q' d) → t ρ Q → t ρ Q'
  run : PW X e (rdT F X.K t)
section
variable {F : Fx} {X : Cx} {K : PySem.W.Frag} {I H I' H' : Hp} {a b c : Expr} {ta tb tc : DB} {va vb vc : DT} {pos : Pos} {rest : List Expr}
theorem _root_.L2.PW.imp {e : Expr} {t u : TT} (h : PW X e t) (i : ∀ σ H Q, u σ H Q → t σ H Q) : PW X e u := ⟨fun w pins s σ H Q J q => h.run w pins s σ H Q J (i σ H Q q)⟩
theorem finB.of {Q : Bool → Hp → Prop} {d : Bool} (q : finB F I H Q d) (s : Stp F.W I H I' H') : finB F I' H' Q d := fun I2 H2 s2 => q I2 H2 (s.trans s2)
theorem dt_wh (h : DWh F X a ta) : DTest F X a ta := ⟨h.mono, h.run.pt⟩
theorem dt_not (h : DTest F X a ta) : DTest F X (.UnaryOp .Not a pos) (fun ρ Q => ta ρ fun b => Q (!b)) := by
  refine ⟨fun ρ Q Q' k q => h.mono _ _ _ (fun b => k _) q, (pt_not h.run).imp fun σ H Q ⟨I, ρ, A, q⟩ => ?_⟩
  exact rdT_next h.mono A q fun d I' H' p s => p I' H' s
theorem dw_and1 (h : DTest F X a ta) : DWh F X (.BoolOp .And [a] pos) ta := ⟨h.mono, pw_and1 h.run⟩
theorem dw_or1 (h : DTest F X a ta) : DWh F X (.BoolOp .Or [a] pos) ta := ⟨h.mono, pw_or1 h.run⟩
theorem dw_and (h : DTest F X a ta) (h' : DWh F X (.BoolOp .And (b :: rest) pos) tb) : DWh F X (.BoolOp .And (a :: b :: rest) pos) (fun ρ Q => ta ρ fun x => if x = true then tb ρ Q else Q false) := by
  refine ⟨fun ρ Q Q' k q => h.mono _ _ _ (fun b q => ?_) q, (pw_and h.run h'.run).imp fun σ H Q ⟨I, ρ, A, q⟩ => ?_⟩
  · cases b
    · exact k _ q
    · exact h'.mono _ _ _ k q
  · refine rdT_next h.mono A q fun d I' H' p s => ?_
    cases d
    · exact p I' H' s
    · exact rdT_next h'.mono (A.step s) p fun d I2 H2 p s2 => p I2 H2 (s.trans s2)
theorem dw_or (h : DTest F X a ta) (h' : DWh F X (.BoolOp .Or (b :: rest) pos) tb) : DWh F X (.BoolOp .Or (a :: b :: rest) pos) (fun ρ Q => ta ρ fun x => if x = true then Q true else tb ρ Q) := by
  refine ⟨fun ρ Q Q' k q => h.mono _ _ _ (fun b q => ?_) q, (pw_or h.run h'.run).imp fun σ H Q ⟨I, ρ, A, q⟩ => ?_⟩
  · cases b
    · exact h'.mono _ _ _ k q
    · exact k _ q
  · refine rdT_next h.mono A q fun d I' H' p s => ?_
    cases d
    · exact rdT_next h'.mono (A.step s) p fun d I2 H2 p s2 => p I2 H2 (s.trans s2)
    · exact p I' H' s
/-- .. as values -/
theorem de_one {op : BoolOp} (h : DE F X a va) : DE F X (.BoolOp op [a] pos) va := ⟨h.mono, pe_one h.run⟩
theorem de_and (h : DE F X a va) (h' : DE F X (.BoolOp .And (b :: rest) pos) vb) : DE F X (.BoolOp .And (a :: b :: rest) pos) (fun ρ Q => va ρ fun x => boolD x fun k => if k = true then vb ρ Q else Q (.bl false)) := by
  refine ⟨fun ρ Q Q' k q => h.mono _ _ _ (fun b => boolD.mono fun b q => ?_) q, (pe_and h.run h'.run).imp fun σ H Q ⟨I, ρ, A, q⟩ => ?_⟩
  · cases b
    · exact k _ q
    · exact h'.mono _ _ _ k q
  · refine rdE_next h.mono A q fun d v I' H' p s rv => ?_
    obtain ⟨b, rfl, p⟩ := p
    cases rv
    refine ⟨b, rfl, ?_⟩
    cases b
    · exact p _ I' H' s (.bl false)
    · exact rdE_next h'.mono (A.step s) p fun d v I2 H2 p s2 r2 => p v I2 H2 (s.trans s2) r2
theorem de_or (h : DE F X a va) (h' : DE F X (.BoolOp .Or (b :: rest) pos) vb) : DE F X (.BoolOp .Or (a :: b :: rest) pos) (fun ρ Q => va ρ fun x => boolD x fun k => if k = true then Q (.bl true) else vb ρ Q) := by
  refine ⟨fun ρ Q Q' k q => h.mono _ _ _ (fun b => boolD.mono fun b q => ?_) q, (pe_or h.run h'.run).imp fun σ H Q ⟨I, ρ, A, q⟩ => ?_⟩
  · cases b
    · exact h'.mono _ _ _ k q
    · exact k _ q
  · refine rdE_next h.mono A q fun d v I' H' p s rv => ?_
    obtain ⟨b, rfl, p⟩ := p
    cases rv
    refine ⟨b, rfl, ?_⟩
    cases b
    · exact rdE_next h'.mono (A.step s) p fun d v I2 H2 p s2 r2 => p v I2 H2 (s.trans s2) r2
    · exact p _ I' H' s (.bl true)
theorem de_not (h : DE F X a va) : DE F X (.UnaryOp .Not a pos) (fun ρ Q => va ρ fun x => boolD x fun k => Q (.bl (!k))) := by
  refine ⟨fun ρ Q Q' k q => h.mono _ _ _ (fun b => boolD.mono fun b => k _) q, (pe_not h.run).imp fun σ H Q ⟨I, ρ, A, q⟩ => ?_⟩
  refine rdE_next h.mono A q fun d v I' H' p s rv => ?_
  obtain ⟨b, rfl, p⟩ := p
  cases rv
  exact ⟨b, rfl, p _ I' H' s (.bl _)⟩
theorem de_if (hc : DTest F X c tc) (h : DE F X a va) (h' : DE F X b vb) : DE F X (.IfExp c a b pos) (fun ρ Q => tc ρ fun k => if k = true then va ρ Q else vb ρ Q) := by
  refine ⟨fun ρ Q Q' k q => hc.mono _ _ _ (fun b q => ?_) q, (pe_ifExp hc.run h.run h'.run).imp fun σ H Q ⟨I, ρ, A, q⟩ => ?_⟩
  · cases b
    · exact h'.mono _ _ _ k q
    · exact h.mono _ _ _ k q
  · refine rdT_next hc.mono A q fun d I' H' p s => ?_
    cases d
    · exact rdE_next h'.mono (A.step s) p fun d v I2 H2 p s2 r2 => p v I2 H2 (s.trans s2) r2
    · exact rdE_next h.mono (A.step s) p fun d v I2 H2 p s2 r2 => p v I2 H2 (s.trans s2) r2
end
abbrev DAT := DEnv → (List D → Prop) → Prop
def finA (F : Fx) (K : PySem.W.Frag) (I H : Hp) (Q : List V → Hp → Prop) : List D → Prop := fun ds => ∀ vs I' H', Stp F.W I H I' H' → Reps K I' vs ds → Q vs H'
def rdA (F : Fx) (K : PySem.W.Frag) (t : DAT) : TA := fun σ H Q => ∃ I ρ, At F K I ρ σ H ∧ t ρ (finA F K I H Q)
structure DA (F : Fx) (X : Cx) (es : List Expr) (t : DAT) : Prop where
  mono : ∀ ρ (Q Q' : List D → Prop), (∀ d, Q d → Q' d) → t ρ Q → t ρ Q'
  run : PA X es (rdA F X.K t)
section
variable {F : Fx} {X : Cx} {K : PySem.W.Frag} {I H : Hp} {ρ : DEnv} {σ : St} {e : Expr} {es : List Expr} {te : DT} {t : DAT} {pos : Pos}
theorem rdA_next (mono : ∀ ρ (Q Q' : List D → Prop), (∀ d, Q d → Q' d) → t ρ Q → t ρ Q') (a : At F K I ρ σ H) {P : List D → Prop} {R : List V → Hp → Prop} (h : t ρ P)
    (k : ∀ d v I' H', P d → Stp F.W I H I' H' → Reps K I' v d → R v H') : rdA F K t σ H R :=
  ⟨I, ρ, a, mono ρ _ _ (fun d p v I' H' s r => k d v I' H' p s r) h⟩
theorem da_nil : DA F X [] (fun _ Q => Q []) := ⟨fun _ _ _ k q => k _ q, pa_nil.imp fun σ H Q ⟨I, ρ, A, q⟩ => q [] I H A.st.stp .nil⟩
theorem da_cons (h : DE F X e te) (h' : DA F X es t) (hs : starEach (e :: es) X.env = (false, eval e X.env) :: starEach es X.env := by rfl) : DA F X (e :: es) (fun ρ Q => te ρ fun d => t ρ fun ds => Q (d :: ds)) := by
  refine ⟨fun ρ Q Q' k q => h.mono _ _ _ (fun d q => h'.mono _ _ _ (fun ds => k _) q) q, (pa_cons h.run h'.run hs).imp fun σ H Q ⟨I, ρ, A, q⟩ => ?_⟩
  refine rdE_next h.mono A q fun d v I' H' p s rv => ?_
  exact rdA_next h'.mono (A.step s) p fun ds vs I2 H2 p s2 rs => p (v :: vs) I2 H2 (s.trans s2) (.cons (rv.mono s2.i) rs)
theorem de_tup {x1} (h : DA F X es t) : DE F X (.Tuple es x1 pos) (fun ρ Q => t ρ fun ds => ds.length ≤ sizeLine ∧ Q (.tup ds)) := by
  refine ⟨fun ρ Q Q' k q => h.mono _ _ _ (fun d q => ⟨q.1, k _ q.2⟩) q, (pe_tup h.run).imp fun σ H Q ⟨I, ρ, A, q⟩ => ?_⟩
  refine rdA_next h.mono A q fun ds vs I' H' p s rs => ⟨rs.length ▸ p.1, fun a ha => ?_⟩
  have l := s.st.laid ha (.tup vs)
  exact p.2 _ _ _ (s.trans l) (.tup (.of upd_same) (rs.mono l.i))
theorem de_lst (h : DA F X es t) : DE F X (.List es pos) (fun ρ Q => t ρ fun ds => ds.length ≤ sizeLine ∧ Q (.lst ds)) := by
  refine ⟨fun ρ Q Q' k q => h.mono _ _ _ (fun d q => ⟨q.1, k _ q.2⟩) q, (pe_lst h.run).imp fun σ H Q ⟨I, ρ, A, q⟩ => ?_⟩
  refine rdA_next h.mono A q fun ds vs I' H' p s rs => ⟨rs.length ▸ p.1, fun a ha => ?_⟩
  have l := s.st.laid ha (.lst vs)
  exact p.2 _ _ _ (s.trans l) (.lst upd_same (rs.mono l.i))
end
def addD : D → D → (D → Prop) → Prop
  | .int i, .int j, Q => Q (.int (i + j))
  | .str x, .str y, Q => x.length + y.length ≤ sizeLine ∧ Q (.str (x ++ y))
  | .lst x, .lst y, Q => x.length + y.length ≤ sizeLine ∧ Q (.lst (x ++ y))
  | .tup x, .tup y, Q => x.length + y.length ≤ sizeLine ∧ Q (.tup (x ++ y))
  | _, _, _ => False
def subD : D → D → (D → Prop) → Prop
  | .int i, .int j, Q => Q (.int (i - j))
  | _, _, _ => False
def mulD : D → D → (D → Prop) → Prop
  | .int i, .int j, Q => CMul i j ∧ Q (.int (i * j))
  | .lst xs, .int k, Q => -(2 ^ 63) ≤ k ∧ k < 2 ^ 63 ∧ xs.length * k.toNat ≤ sizeLine ∧ Q (.lst (List.replicate k.toNat xs).flatten)
  | _, _, _ => False
def fdivD : D → D → (D → Prop) → Prop
  | .int i, .int j, Q => CDivW i j ∧ Q (.int (i / j))
  | _, _, _ => False
def modD : D → D → (D → Prop) → Prop
  | .int i, .int j, Q => 0 < j ∧ Q (.int (i % j))
  | _, _, _ => False
def ltD : D → D → (D → Prop) → Prop
  | .int i, .int j, Q => Q (.bl (decide (i < j)))
  | .str x, .str y, Q => Q (.bl (decide (x.cps.toList < y.cps.toList)))
  | _, _, _ => False
def leD : D → D → (D → Prop) → Prop
  | .int i, .int j, Q => Q (.bl (decide (i ≤ j)))
  | .str x, .str y, Q => Q (.bl (!decide (y.cps.toList < x.cps.toList)))
  | _, _, _ => False
def gtD : D → D → (D → Prop) → Prop
  | .int i, .int j, Q => Q (.bl (decide (j < i)))
  | .str x, .str y, Q => Q (.bl (decide (y.cps.toList < x.cps.toList)))
  | _, _, _ => False
def geD : D → D → (D → Prop) → Prop
  | .int i, .int j, Q => Q (.bl (decide (j ≤ i)))
  | .str x, .str y, Q => Q (.bl (!decide (x.cps.toList < y.cps.toList)))
  | _, _, _ => False
/-- may be compared -/
def canEq (x y : D) : Bool :=
  (scalD x && scalD y && !mixD x y) || (okE x && okE y)
def eqD (x y : D) (Q : D → Prop) : Prop := canEq x y = true ∧ Q (.bl (deq x y))
def neD (x y : D) (Q : D → Prop) : Prop := canEq x y = true ∧ Q (.bl (!deq x y))
section
variable {F : Fx} {X : Cx} {K : PySem.W.Frag}
theorem mono_add : Mono2 addD := by
  intro x y Q Q' k h
  cases x <;> cases y <;> first | exact h.elim | exact k _ h | exact ⟨h.1, k _ h.2⟩
theorem mono_sub : Mono2 subD := by
  intro x y Q Q' k h
  cases x <;> cases y <;> first | exact h.elim | exact k _ h | exact ⟨h.1, k _ h.2⟩
theorem mono_mul : Mono2 mulD := by
  intro x y Q Q' k h
  cases x <;> cases y <;> first | exact h.elim | exact k _ h | exact ⟨h.1, k _ h.2⟩ | exact ⟨h.1, h.2.1, h.2.2.1, k _ h.2.2.2⟩
theorem mono_fdiv : Mono2 fdivD := by
  intro x y Q Q' k h
  cases x <;> cases y <;> first | exact h.elim | exact k _ h | exact ⟨h.1, k _ h.2⟩
theorem mono_mod : Mono2 modD := by
  intro x y Q Q' k h
  cases x <;> cases y <;> first | exact h.elim | exact k _ h | exact ⟨h.1, k _ h.2⟩
theorem mono_lt : Mono2 ltD := by
  intro x y Q Q' k h
  cases x <;> cases y <;> first | exact h.elim | exact k _ h
theorem mono_le : Mono2 leD := by
  intro x y Q Q' k h
  cases x <;> cases y <;> first | exact h.elim | exact k _ h
theorem mono_gt : Mono2 gtD := by
  intro x y Q Q' k h
  cases x <;> cases y <;> first | exact h.elim | exact k _ h
theorem mono_ge : Mono2 geD := by
  intro x y Q Q' k h
  cases x <;> cases y <;> first | exact h.elim | exact k _ h
theorem mono_eq : Mono2 eqD := fun x y Q Q' k h => ⟨h.1, k _ h.2⟩
theorem mono_ne : Mono2 neD := fun x y Q Q' k h => ⟨h.1, k _ h.2⟩
/-- + -/
def RAdd (K : PySem.W.Frag) : R2 := fun x y H Q => rI0 (fun i j => .int (i + j)) x y H Q ∨ (∃ i j, x = .str i ∧ y = .str j ∧ i.length + j.length ≤ sizeLine ∧ Q (.str (i ++ j)) H) ∨ rCat x y H Q ∨ rCatA K x y H Q
theorem or_add : OpR X (binaryOp .Add) (RAdd X.K) := op_add.or (op_add_str.or (op_cat.or op_catA))
theorem lf_add : LiftR F K (RAdd K) addD := by
  intro x y dx dy I H Q st rx ry h
  cases dx <;> cases dy <;> first | exact h.elim | skip
  · cases rx; cases ry
    exact .inl ⟨_, _, rfl, rfl, h _ I H st.stp (.int _)⟩
  · cases rx; cases ry
    exact .inr (.inl ⟨_, _, rfl, rfl, h.1, h.2 _ I H st.stp (.str _)⟩)
  · cases rx with
    | tup a r =>
      cases ry with
      | tup a' r' =>
        rename_i xs ys p vs q ws
        refine .inr (.inr (.inr ⟨p, q, vs, ws, rfl, rfl, Same.seqT st.sub a, Same.seqT st.sub a', by rw [r.length, r'.length]; exact h.1, fun e => ?_, fun e e' => ?_, fun e e' z hz => ?_⟩))
        · subst e
          cases r
          exact h.2 _ I H st.stp (.tup a' (by simpa using r'))
        · subst e'
          cases r'
          exact h.2 _ I H st.stp (.tup a (by simpa using r))
        · have l := st.laid hz (.tup (vs ++ ws))
          exact h.2 _ _ _ l (.tup (.of upd_same) ((r.append r').mono l.i))
  · cases rx with
    | lst a r =>
      cases ry with
      | lst a' r' =>
        rename_i xs ys p vs q ws
        refine .inr (.inr (.inl ⟨p, q, vs, ws, rfl, rfl, st.sub _ _ a, st.sub _ _ a', by rw [r.length, r'.length]; exact h.1, fun z hz => ?_⟩))
        have l := st.laid hz (.lst (vs ++ ws))
        exact h.2 _ _ _ l (.lst upd_same ((r.append r').mono l.i))
theorem lf_int {R : R2} {r : D → D → (D → Prop) → Prop} {C : Int → Int → Prop} {g : Int → Int → Int} (hR : R = rI C fun i j => .int (g i j)) (hr : ∀ x y Q, r x y Q → ∃ i j, x = .int i ∧ y = .int j ∧ C i j ∧ Q (.int (g i j))) : LiftR F K R r := by
  intro x y dx dy I H Q st rx ry h
  obtain ⟨i, j, rfl, rfl, c, q⟩ := hr _ _ _ h
  cases rx; cases ry
  rw [hR]
  exact ⟨i, j, rfl, rfl, c, q _ I H st.stp (.int _)⟩
theorem lf_sub : LiftR F K (rI0 fun i j => .int (i - j)) subD := by
  intro x y dx dy I H Q st rx ry h
  cases dx <;> cases dy <;> first | exact h.elim | skip
  cases rx; cases ry
  exact ⟨_, _, rfl, rfl, h _ I H st.stp (.int _)⟩
theorem lf_fdiv : LiftR F K (rI CDivW fun i j => .int (i / j)) fdivD := lf_int (C := CDivW) (g := fun i j => i / j) rfl fun x y Q h => by
  cases x <;> cases y <;> first | exact h.elim | exact ⟨_, _, rfl, rfl, h.1, h.2⟩
theorem lf_mod : LiftR F K (rI (fun _ j => 0 < j) fun i j => .int (i % j)) modD := lf_int (C := fun _ j => 0 < j) (g := fun i j => i % j) rfl fun x y Q h => by
  cases x <;> cases y <;> first | exact h.elim | exact ⟨_, _, rfl, rfl, h.1, h.2⟩
theorem Reps.rep {I : Hp} {vs : List V} {ds : List D} (h : Reps K I vs ds) : ∀ n : Nat, Reps K I (List.replicate n vs).flatten (List.replicate n ds).flatten
  | 0 => .nil
  | n + 1 => by rw [List.replicate_succ, List.replicate_succ, List.flatten_cons, List.flatten_cons]; exact h.append (Reps.rep h n)
def RMul : R2 := fun x y H Q => rI CMul (fun i j => .int (i * j)) x y H Q ∨ rRep x y H Q
theorem or_mul : OpR X (binaryOp .Mult) RMul := op_mul.or op_rep
theorem lf_mul : LiftR F K RMul mulD := by
  intro x y dx dy I H Q st rx ry h
  cases dx <;> cases dy <;> first | exact h.elim | skip
  · cases rx; cases ry
    exact .inl ⟨_, _, rfl, rfl, h.1, h.2 _ I H st.stp (.int _)⟩
  · cases ry
    cases rx with
    | lst a r =>
      rename_i xs k p vs
      refine .inr ⟨p, k, vs, rfl, rfl, st.sub _ _ a, h.1, h.2.1, by rw [r.length]; exact h.2.2.1, fun z hz => ?_⟩
      have l := st.laid hz (.lst (List.replicate k.toNat vs).flatten)
      exact h.2.2.2 _ _ _ l (.lst upd_same ((r.rep _).mono l.i))
/-- comparisons -/
theorem lf_cmp {R : R2} {r : D → D → (D → Prop) → Prop} {g : Int → Int → Bool} {g' : Str → Str → Bool} (hR : R = fun x y H Q => rI0 (fun i j => .bl (g i j)) x y H Q ∨ ∃ i j, x = .str i ∧ y = .str j ∧ Q (.bl (g' i j)) H)
    (hr : ∀ x y Q, r x y Q → (∃ i j, x = .int i ∧ y = .int j ∧ Q (.bl (g i j))) ∨ ∃ i j, x = .str i ∧ y = .str j ∧ Q (.bl (g' i j))) : LiftR F K R r := by
  intro x y dx dy I H Q st rx ry h
  rw [hR]
  rcases hr _ _ _ h with ⟨i, j, rfl, rfl, q⟩ | ⟨i, j, rfl, rfl, q⟩
  · cases rx; cases ry
    exact .inl ⟨i, j, rfl, rfl, q _ I H st.stp (.bl _)⟩
  · cases rx; cases ry
    exact .inr ⟨i, j, rfl, rfl, q _ I H st.stp (.bl _)⟩
def RLt : R2 := fun x y H Q => rI0 (fun i j => .bl (decide (i < j))) x y H Q ∨ ∃ i j, x = .str i ∧ y = .str j ∧ Q (.bl (decide (i.cps.toList < j.cps.toList))) H
def RLe : R2 := fun x y H Q => rI0 (fun i j => .bl (decide (i ≤ j))) x y H Q ∨ ∃ i j, x = .str i ∧ y = .str j ∧ Q (.bl (!decide (j.cps.toList < i.cps.toList))) H
def RGt : R2 := fun x y H Q => rI0 (fun i j => .bl (decide (j < i))) x y H Q ∨ ∃ i j, x = .str i ∧ y = .str j ∧ Q (.bl (decide (j.cps.toList < i.cps.toList))) H
def RGe : R2 := fun x y H Q => rI0 (fun i j => .bl (decide (j ≤ i))) x y H Q ∨ ∃ i j, x = .str i ∧ y = .str j ∧ Q (.bl (!decide (i.cps.toList < j.cps.toList))) H
theorem or_lt : OpR X (compareOp .Lt) RLt := op_lt.or op_lt_str
theorem or_le : OpR X (compareOp .LtE) RLe := op_le.or op_le_str
theorem or_gt : OpR X (compareOp .Gt) RGt := op_gt.or op_gt_str
theorem or_ge : OpR X (compareOp .GtE) RGe := op_ge.or op_ge_str
theorem lf_lt : LiftR F K RLt ltD := lf_cmp rfl fun x y Q h => by cases x <;> cases y <;> first | exact h.elim | exact .inl ⟨_, _, rfl, rfl, h⟩ | exact .inr ⟨_, _, rfl, rfl, h⟩
theorem lf_le : LiftR F K RLe leD := lf_cmp rfl fun x y Q h => by cases x <;> cases y <;> first | exact h.elim | exact .inl ⟨_, _, rfl, rfl, h⟩ | exact .inr ⟨_, _, rfl, rfl, h⟩
theorem lf_gt : LiftR F K RGt gtD := lf_cmp rfl fun x y Q h => by cases x <;> cases y <;> first | exact h.elim | exact .inl ⟨_, _, rfl, rfl, h⟩ | exact .inr ⟨_, _, rfl, rfl, h⟩
theorem lf_ge : LiftR F K RGe geD := lf_cmp rfl fun x y Q h => by cases x <;> cases y <;> first | exact h.elim | exact .inl ⟨_, _, rfl, rfl, h⟩ | exact .inr ⟨_, _, rfl, rfl, h⟩
/-- ==, != -/
def REq (K : PySem.W.Frag) : R2 := fun x y H Q => rEq x y H Q ∨ rEqD K x y H Q
def RNe (K : PySem.W.Frag) : R2 := fun x y H Q => rNe x y H Q ∨ rNeD K x y H Q
theorem or_eq (hu : X.A.units + 64 < cLine) : OpR X (compareOp .Eq) (REq X.K) := op_eq.or (op_eqD hu)
theorem or_ne (hu : X.A.units + 64 < cLine) : OpR X (compareOp .NotEq) (RNe X.K) := op_ne.or (op_neD hu)
theorem can_scal {I : Hp} {x y : V} {dx dy : D} (rx : Rep K I x dx) (ry : Rep K I y dy) (h : canEq x' y' = true) (ex : x' = dx) (ey : y' = dy) : (scal x y = true ∧ decide (x = y) = deq dx dy) ∨ (okE dx = true ∧ okE dy = true) := by
  subst ex ey
  unfold canEq at h
  rw [Bool.or_eq_true] at h
  rcases h with h | h
  · left
    rw [Bool.and_eq_true, Bool.and_eq_true] at h
    obtain ⟨⟨s1, s2⟩, s3⟩ := h
    exact scal_of rx ry s1 s2 (by simpa using s3)
  · rw [Bool.and_eq_true] at h
    exact .inr h
theorem okE_split {d : D} (h : okE d = true) : plainD d = true ∧ SeqAt.shaped (toPy d) = true := by
  unfold okE at h
  rw [Bool.and_eq_true] at h
  exact h
theorem lf_eq : LiftR F K (REq K) eqD := by
  intro x y dx dy I H Q st rx ry h
  rcases can_scal rx ry h.1 rfl rfl with ⟨s, e⟩ | ⟨s, s'⟩
  · exact .inl ⟨s, by rw [e]; exact h.2 _ I H st.stp (.bl _)⟩
  · exact .inr ⟨_, _, rx.dp st.sub (okE_split s).1, ry.dp st.sub (okE_split s').1, (okE_split s).2, (okE_split s').2, h.2 _ I H st.stp (.bl _)⟩
theorem lf_ne : LiftR F K (RNe K) neD := by
  intro x y dx dy I H Q st rx ry h
  rcases can_scal rx ry h.1 rfl rfl with ⟨s, e⟩ | ⟨s, s'⟩
  · exact .inl ⟨s, by rw [e]; exact h.2 _ I H st.stp (.bl _)⟩
  · exact .inr ⟨_, _, rx.dp st.sub (okE_split s).1, ry.dp st.sub (okE_split s').1, (okE_split s).2, (okE_split s').2, h.2 _ I H st.stp (.bl _)⟩
end
section
variable {F : Fx} {X : Cx} {a b c : Expr} {ta tb tc : DT} {pos : Pos}
theorem de_add (ha : DE F X a ta) (hb : DE F X b tb) : DE F X (.BinOp a .Add b pos) (fun ρ Q => ta ρ fun x => tb ρ fun y => addD x y Q) := de_op mono_add or_add lf_add ha hb
theorem de_sub (ha : DE F X a ta) (hb : DE F X b tb) : DE F X (.BinOp a .Sub b pos) (fun ρ Q => ta ρ fun x => tb ρ fun y => subD x y Q) := de_op mono_sub op_sub lf_sub ha hb
theorem de_mul (ha : DE F X a ta) (hb : DE F X b tb) : DE F X (.BinOp a .Mult b pos) (fun ρ Q => ta ρ fun x => tb ρ fun y => mulD x y Q) := de_op mono_mul or_mul lf_mul ha hb
theorem de_fdiv (ha : DE F X a ta) (hb : DE F X b tb) : DE F X (.BinOp a .FloorDiv b pos) (fun ρ Q => ta ρ fun x => tb ρ fun y => fdivD x y Q) := de_op mono_fdiv op_fdivW lf_fdiv ha hb
theorem de_mod (ha : DE F X a ta) (hb : DE F X b tb) : DE F X (.BinOp a .Mod b pos) (fun ρ Q => ta ρ fun x => tb ρ fun y => modD x y Q) := de_op mono_mod op_mod lf_mod ha hb
/-- comparisons by their sign -/
inductive Cmp (X : Cx) : CmpOp → R2 → (D → D → (D → Prop) → Prop) → Prop
  | lt : Cmp X .Lt RLt ltD
  | le : Cmp X .LtE RLe leD
  | gt : Cmp X .Gt RGt gtD
  | ge : Cmp X .GtE RGe geD
  | eq (hu : X.A.units + 64 < cLine) : Cmp X .Eq (REq X.K) eqD
  | ne (hu : X.A.units + 64 < cLine) : Cmp X .NotEq (RNe X.K) neD
theorem Cmp.mono {op : CmpOp} {R : R2} {r} (h : Cmp X op R r) : Mono2 r := by
  cases h
  · exact mono_lt
  · exact mono_le
  · exact mono_gt
  · exact mono_ge
  · exact mono_eq
  · exact mono_ne
theorem Cmp.op {op : CmpOp} {R : R2} {r} (h : Cmp X op R r) : OpR X (compareOp op) R := by
  cases h with
  | lt => exact or_lt
  | le => exact or_le
  | gt => exact or_gt
  | ge => exact or_ge
  | eq hu => exact or_eq hu
  | ne hu => exact or_ne hu
theorem Cmp.lf {op : CmpOp} {R : R2} {r} (h : Cmp X op R r) : LiftR F X.K R r := by
  cases h
  · exact lf_lt
  · exact lf_le
  · exact lf_gt
  · exact lf_ge
  · exact lf_eq
  · exact lf_ne
theorem de_c {op : CmpOp} {R : R2} {r} (h : Cmp X op R r) (ha : DE F X a ta) (hb : DE F X b tb) (hm : behindInMarks op b = false := by first | exact nomark _ | rfl) : DE F X (.Compare a [op] [b] pos) (fun ρ Q => ta ρ fun x => tb ρ fun y => r x y Q) := de_cmp h.mono h.op h.lf ha hb hm
theorem dt_c {op : CmpOp} {R : R2} {r} (h : Cmp X op R r) (ha : DE F X a ta) (hb : DE F X b tb) (hm : behindInMarks op b = false := by first | exact nomark _ | rfl) : DTest F X (.Compare a [op] [b] pos) (fun ρ Q => ta ρ fun x => tb ρ fun y => r x y fun z => boolD z Q) := dt_cmp h.mono h.op h.lf ha hb hm
end
end Dk
namespace Dk
open PySem L2
open PyProof.Rows (envOfC)
structure Rm (k : Nat) (A : Around) : Prop where
  room : Room k A
  gd : A.guards = some []
theorem Rm.mono {j k : Nat} {A : Around} (r : Rm k A) (h : j ≤ k) : Rm j A := ⟨r.room.mono h, r.gd⟩
theorem Rm.deeper {k : Nat} {A : Around} (r : Rm (k + 1) A) (env : Env) : Rm k (A.deeper env) := ⟨r.room.deeper env, r.gd⟩
theorem Rm.units {k : Nat} {A : Around} (r : Rm k A) : A.units + 64 < cLine := r.room.units
section
variable {P : Program} {w : World} {K : PySem.W.Frag} {mg : Str → Option Value} {base : Heap} {CX : CXT} {k j : Nat} {f : Addr} {fd : FuncData} {N ps : List Str} {sp sp' : Sp}
structure GnOk (P : Program) (w : World) (K : PySem.W.Frag) (mg : Str → Option Value) (base : Heap) (CX : CXT) (k : Nat) (f : Addr) (fd : FuncData) (ps : List Str) (sp : Sp) : Prop where
  lens : ∀ vs H Q E, sp vs H Q E → vs.length = ps.length
  go : ∀ (A : Around) (below : List Env) (s : Shared) (H : Hp) (given : Args) (us : List Value) (vs : List V) (Q : VK) (E : XK), Rm k A → Env0 P w K mg base A below s H → BindsTo s fd given (ps.zip us) → Vals vs us → sp vs H Q E → codeAny (model P w) A (.call (.ref f) given) (CR CX below P w H s Q E) s
theorem GnOk.mono (F : GnOk P w K mg base CX j f fd ps sp) (h : j ≤ k) : GnOk P w K mg base CX k f fd ps sp := ⟨F.lens, fun A o s H g us vs Q E hr => F.go A o s H g us vs Q E (hr.mono h)⟩
theorem GnOk.weak (F : GnOk P w K mg base CX k f fd ps sp) (h : ∀ vs H Q E, sp' vs H Q E → sp vs H Q E) : GnOk P w K mg base CX k f fd ps sp' :=
  ⟨fun vs H Q E q => F.lens vs H Q E (h _ _ _ _ q), fun A o s H g us vs Q E hr he hb hv q => F.go A o s H g us vs Q E hr he hb hv (h _ _ _ _ q)⟩
theorem _root_.L2.FnOk.gn (F : FnOk P w K mg base CX k f fd ps sp) : GnOk P w K mg base CX k f fd ps sp := ⟨F.len, fun A o s H g us vs Q E hr => F.run A o s H g us vs Q E hr.room⟩
/-- a def by its body -/
theorem gn_of {name qual : Str} {params : Arguments} {body : List Stmt} {scope : Scope} {dV kV doc pm cdv ct oc : Value} {an od : Option Addr} {osl : Array (Option Value)}
    (hlk : K.lookup f = some ⟨oc, od, .func (PySem.W.fnOf name qual params body scope dV kV doc pm an cdv ct), osl⟩) (hcode : PySem.W.codeIn K cdv qual = true) (Sc : FnScope N ps scope) (hlen : ∀ vs H Q E, sp vs H Q E → vs.length = ps.length)
    (hb : ∀ (A : Around) (below : List Env) (s : Shared) (H : Hp) (vs : List V) (Q : VK) (E : XK), Rm k (A.deeper (envOfC qual scope s.heap.objs.size f cdv)) → sp vs H Q E →
      ∃ t, PSs (cxOf CX P w K mg base N qual scope f cdv A below s H E) body t ∧ t { nx := fun _ H' => Q .non H', rt := Q } (L2.start N vs) H) :
    GnOk P w K mg base CX (k + 1) f (PySem.W.fnOf name qual params body scope dV kV doc pm an cdv ct) ps sp := by
  refine ⟨hlen, fun A below s H given us vs Q E hr e0 hbnd rv hs => ?_⟩
  have hvs := hlen _ _ _ _ hs
  have hK : K.In s.heap := e0.mod.kin.keeps fun b o e => (e0.bs b o e).1
  have hLim : s.heap.NoLimit := e0.mod.nolimit.keeps fun b o e => (e0.bs b o e).1
  have kinds : ∀ y ∈ ps.zip us, scope.names.lookup y.1 = some .local ∨ (scope.names.lookup y.1 = some .cell ∧ ((cellsFrom (s.heap.objs.size + 1) scope.names []).lookup y.1).isSome = true) := by
    rintro ⟨n, v⟩ hy
    rcases Sc.par n (List.of_mem_zip hy).1 with q | q
    · left; exact q
    · right; exact ⟨q, PySem.W.cellsFrom_some _ _ _ (.inl q)⟩
  refine codeAny_call_function hr.room.depth (hK _ _ hlk) rfl Sc.co Sc.gen rfl (PySem.W.codeRec_of hK hcode) (hbnd _ _ _ _ (wpAny_newFunctionEnv_cells Sc.kind kinds fun env he s1 x => ?_))
  subst he
  refine ⟨hLim.keeps x.toInCall.keep, codeAny_func ?_⟩
  obtain ⟨t, h1, h2⟩ := hb A below s H vs Q E (hr.deeper _) hs
  have J : Inv (cxOf CX P w K mg base N qual scope f cdv A below s H E) [] (L2.start N vs) H s1 := inv_start Sc hr.room.hd e0 hvs rv x
  have done : ∀ {σ' : St} {H' : Hp} {v : V} {u : Value} {s' : Shared}, Inv (cxOf CX P w K mg base N qual scope f cdv A below s H E) [] σ' H' s' → RelV v u → Q v H' → CE below P w H s Q u s' := fun {σ' H' v u s'} J rv q => ⟨v, H', J.os, J.bare, J.base, J.hok, rv, q⟩
  refine wpAny_mono (h1.run [] s1 (L2.start N vs) H _ J h2) (fun fl s' h => ?_) fun e s' h => h
  cases fl with
  | next => obtain ⟨σ', H', J', q⟩ := h; exact done (v := V.non) (u := Value.none) J' rfl q
  | ret u => obtain ⟨v, σ', H', J', rv', q⟩ := h; exact done J' rv' q
  | brk => obtain ⟨_, _, _, q⟩ := h; exact q.elim
  | cont => obtain ⟨_, _, _, q⟩ := h; exact q.elim
end
section
variable {X : Cx} {CX : CXT} {k n : Nat} {f : Addr} {fd : FuncData} {ps ks : List Str} {sp : Sp} {E : XK} {ds : List Value} {dvs : List V} {g : List Value → List Value → List Value} {gV : List V → List V → List V}
theorem gn_go {pins : List (Addr × Obj)} {σ : St} {H : Hp} {s : Shared} {Q : VK} {us as : List Value} {kw : List (Str × Value)} {vs : List V} (F : GnOk X.prog X.w X.K X.mg X.base CX k f fd ps sp) (hr : Rm k X.A) (hx : Passes CX X E) (J : Inv X pins σ H s)
    (hb : BindsTo s fd ⟨as, kw⟩ (ps.zip us)) (r : Vals vs us) (h : sp vs H Q E) : wpAny (model X.prog X.w) X.A (call (.ref f) as kw) (EP X pins σ Q) X.xe s := by
  refine wpAny_call (codeAny_mono (F.go X.A X.stack s H _ us vs Q E hr J.env0 hb r h) fun r s' q => ?_)
  cases r with
  | error e => exact hx pins σ H s e s' J q
  | ok fl => cases fl with
    | ret u => exact J.after q
    | next => exact q.elim
    | brk => exact q.elim
    | cont => exact q.elim
theorem gn_pos {pins : List (Addr × Obj)} {σ : St} {H : Hp} {s : Shared} {Q : VK} {us : List Value} {vs : List V} (F : GnOk X.prog X.w X.K X.mg X.base CX k f fd ps sp) (hr : Rm k X.A) (hb : Binds X.K fd ps ds) (hd : Vals dvs ds) (hx : Passes CX X E)
    (J : Inv X pins σ H s) (r : Vals vs us) (h : sp (vs ++ dvs) H Q E) : wpAny (model X.prog X.w) X.A (call (.ref f) us) (EP X pins σ Q) X.xe s := by
  have r2 : Vals (vs ++ dvs) (us ++ ds) := r.append hd
  exact gn_go F hr hx J (hb s us J.kIn (r2.length.symm.trans (F.lens _ _ _ _ h))) r2 h
variable {x : Str} {p pos : Pos} {e : Expr} {es : List Expr} {kws : List Keyword} {t tk : TA}
theorem gn_call (F : GnOk X.prog X.w X.K X.mg X.base CX k f fd ps sp) (hr : Rm k X.A) (hg : Gl X x) (hm : X.mg x = some (.ref f)) (hkp : PySem.W.keepIn X.K (.ref f) = true) (hb : Binds X.K fd ps ds) (hd : Vals dvs ds) (hx : Passes CX X E) (ha : PA X (e :: es) t)
    (hdb : (x == ("__debug__" : Str)) = false) (he : starEach (e :: es) X.env = (false, eval e X.env) :: starEach es X.env) (hpl : (backTo pos (starEach es X.env)).any (·.1) = false) : PE X (.Call (.Name x p) (e :: es) [] pos) (tCall sp dvs E t) :=
  ⟨fun pins s σ H Q J h => wpAny_Call_Name_kw (ld_glob J hg hm (PySem.W.callWith_K (h₀ := X.base) J.ok.mod.kin hkp (thn (ha.run pos pins s σ H _ J h) fun us s1 ⟨vs, H1, J1, r, q⟩ => ⟨J1.kIn, gn_pos F hr hb hd hx J1 r q⟩) he hpl) hdb)⟩
theorem gn_call0 (F : GnOk X.prog X.w X.K X.mg X.base CX k f fd ps sp) (hr : Rm k X.A) (hg : Gl X x) (hm : X.mg x = some (.ref f)) (hkp : PySem.W.keepIn X.K (.ref f) = true) (hb : Binds X.K fd ps ds) (hd : Vals dvs ds) (hx : Passes CX X E)
    (hdb : (x == ("__debug__" : Str)) = false) : PE X (.Call (.Name x p) [] [] pos) (tCall sp dvs E tNil) :=
  ⟨fun pins s σ H Q J h => wpAny_Call_Name_kw (ld_glob J hg hm (PySem.W.callWith_K0 J.kIn hkp (gn_pos (us := []) F hr hb hd hx J .nil h)) hdb)⟩
end
end Dk
namespace Dk
open PySem L2
open PyProof.Rows (envOfC)
/-- an exception: its class, its fields -/
structure Ex where
  cls : Value
  flds : List (Str × D)
def ExRep (K : PySem.W.Frag) (I H : Hp) (cls : Value) (d : Option Addr) (x : Ex) : Prop :=
  cls = x.cls ∧ ((x.flds = [] ∧ d = none) ∨ ∃ dd fs, d = some dd ∧ I dd = some (.xd fs) ∧ fs.map (·.1) = x.flds.map (·.1) ∧ Reps K I (fs.map (·.2)) (x.flds.map (·.2)))
def finX (W : Wd) (K : PySem.W.Frag) (I H : Hp) (E : XK) : Ex → Prop := fun x => ∀ cls d I' H', Stp W I H I' H' → ExRep K I' H' cls d x → E cls d H'
structure DSp where
  n : Nat
  f : List D → (D → Prop) → (Ex → Prop) → Prop
  len : ∀ ds Q E, f ds Q E → ds.length = n
  mono : ∀ ds (Q Q' : D → Prop) (E E' : Ex → Prop), (∀ d, Q d → Q' d) → (∀ x, E x → E' x) → f ds Q E → f ds Q' E'
def spD (W : Wd) (K : PySem.W.Frag) (S : DSp) : Sp := fun vs H Q E => ∃ I ds, StI W I H ∧ Reps K I vs ds ∧ S.f ds (fin ⟨W, H, I⟩ K I H Q) (finX W K I H E)
theorem spD_len {W : Wd} {K : PySem.W.Frag} {S : DSp} : ∀ vs H Q E, spD W K S vs H Q E → vs.length = S.n := fun vs H Q E ⟨I, ds, _, r, h⟩ => r.length.trans (S.len _ _ _ h)
section
variable {F : Fx} {X : Cx} {K : PySem.W.Frag} {I H : Hp} {ρ : DEnv} {σ : St} {CX : CXT} {k : Nat} {f C : Addr} {fd : FuncData} {ps : List Str} {S : DSp} {E : XK} {x m : Str} {p pos apos : Pos} {e o : Expr} {es : List Expr} {ta : DT} {t : DAT}
def Lets (F : Fx) (K : PySem.W.Frag) (Ed : Ex → Prop) (E : XK) : Prop := ∀ I H, Stp F.W F.I0 F.B I H → ∀ x, Ed x → finX F.W K I H E x
theorem lets0 : Lets F K (fun _ => False) E := fun _ _ _ _ h => h.elim
theorem call_run {Ed : Ex → Prop} (le : Lets F K Ed E) (mono : ∀ ρ (Q Q' : List D → Prop), (∀ d, Q d → Q' d) → t ρ Q → t ρ Q') {Q : VK} (h : rdE F K (fun ρ Q => t ρ fun ds => S.f ds Q Ed) σ H Q) : rdA F K t σ H fun vs H1 => spD F.W K S vs H1 Q E := by
  obtain ⟨I, ρ, A, h⟩ := h
  refine rdA_next mono A h fun ds vs I' H' p s rs => ?_
  refine ⟨I', ds, s.st, rs, S.mono _ _ _ _ _ (fun d q v I2 H2 s2 rv => q v I2 H2 (s.trans s2) rv) (le I' H' (A.stp.trans s)) p⟩
theorem de_call {Ed : Ex → Prop} (Fn : GnOk X.prog X.w X.K X.mg X.base CX k f fd ps (spD F.W X.K S)) (hr : Rm k X.A) (hm : X.mg x = some (.ref f)) (hk : PySem.W.keepIn X.K (.ref f) = true) (hb : Binds X.K fd ps []) (hx : Passes CX X E) (le : Lets F X.K Ed E) (ha : DA F X (e :: es) t)
    (hg : Gl X x := by rfl) (hdb : (x == ("__debug__" : Str)) = false := by decide) (he : starEach (e :: es) X.env = (false, eval e X.env) :: starEach es X.env := by rfl) (hpl : (backTo pos (starEach es X.env)).any (·.1) = false := by rfl) :
    DE F X (.Call (.Name x p) (e :: es) [] pos) (fun ρ Q => t ρ fun ds => S.f ds Q Ed) := by
  refine ⟨fun ρ Q Q' k h => ha.mono _ _ _ (fun d h => S.mono _ _ _ _ _ k (fun _ h => h) h) h, (gn_call Fn hr hg hm hk hb .nil hx ha.run hdb he hpl).imp fun σ H Q h => ?_⟩
  have h := call_run le ha.mono h
  show rdA F X.K t σ H fun vs H1 => spD F.W X.K S (vs ++ []) H1 Q E
  simpa using h
theorem de_call0 {Ed : Ex → Prop} (Fn : GnOk X.prog X.w X.K X.mg X.base CX k f fd ps (spD F.W X.K S)) (hr : Rm k X.A) (hm : X.mg x = some (.ref f)) (hk : PySem.W.keepIn X.K (.ref f) = true) (hb : Binds X.K fd ps []) (hx : Passes CX X E) (le : Lets F X.K Ed E)
    (hg : Gl X x := by rfl) (hdb : (x == ("__debug__" : Str)) = false := by decide) : DE F X (.Call (.Name x p) [] [] pos) (fun ρ Q => S.f [] Q Ed) := by
  refine ⟨fun ρ Q Q' k h => S.mono _ _ _ _ _ k (fun _ h => h) h, (gn_call0 Fn hr hg hm hk hb .nil hx hdb).imp fun σ H Q ⟨I, ρ, A, h⟩ => ?_⟩
  refine ⟨I, [], A.st, .nil, S.mono _ _ _ _ _ (fun d q v I2 H2 s2 rv => q v I2 H2 s2 rv) (le I H A.stp) h⟩
/-- a built-in function, by its rule over data -/
def LiftC (F : Fx) (K : PySem.W.Frag) (R : List V → Hp → VK → Prop) (r : List D → (D → Prop) → Prop) : Prop :=
  ∀ (vs : List V) (ds : List D) (I H : Hp) (Q : VK), StI F.W I H → Reps K I vs ds → r ds (fin F K I H Q) → R vs H Q
variable {R : List V → Hp → VK → Prop} {r : List D → (D → Prop) → Prop} {id T : String}
theorem blt_run (mr : MonoN r) (l : LiftC F K R r) (mono : ∀ ρ (Q Q' : List D → Prop), (∀ d, Q d → Q' d) → t ρ Q → t ρ Q') {Q : VK} (h : rdE F K (fun ρ Q => t ρ fun ds => r ds Q) σ H Q) : rdA F K t σ H fun vs H1 => R vs H1 Q := by
  obtain ⟨I, ρ, A, h⟩ := h
  exact rdA_next mono A h fun ds vs I' H' p s rs => l vs ds I' H' Q s.st rs (mr _ _ _ (fun d q => q.of s) p)
theorem de_callB (mr : MonoN r) (l : LiftC F X.K R r) (hc : CallR X (.builtin id) R) (hm : X.mg x = none) (hv : bootBuiltins x = some (.builtin id)) (ha : DA F X (e :: es) t) (hg : Gl X x := by rfl) (hn : x ≠ "__name__" := by decide) (hdb : (x == ("__debug__" : Str)) = false := by decide)
    (he : starEach (e :: es) X.env = (false, eval e X.env) :: starEach es X.env := by rfl) (hpl : (backTo pos (starEach es X.env)).any (·.1) = false := by rfl) : DE F X (.Call (.Name x p) (e :: es) [] pos) (fun ρ Q => t ρ fun ds => r ds Q) :=
  ⟨fun ρ Q Q' k h => ha.mono _ _ _ (fun d h => mr _ _ _ k h) h, (pe_callB hc hg hm hv ha.run hn hdb he hpl).imp fun σ H Q h => blt_run mr l ha.mono h⟩
theorem de_callT (mr : MonoN r) (l : LiftC F X.K R r) (hc : CallR X (.type T) R) (hm : X.mg x = none) (hv : bootBuiltins x = some (.type T)) (ha : DA F X (e :: es) t) (hg : Gl X x := by rfl) (hn : x ≠ "__name__" := by decide) (hdb : (x == ("__debug__" : Str)) = false := by decide)
    (he : starEach (e :: es) X.env = (false, eval e X.env) :: starEach es X.env := by rfl) (hpl : (backTo pos (starEach es X.env)).any (·.1) = false := by rfl) : DE F X (.Call (.Name x p) (e :: es) [] pos) (fun ρ Q => t ρ fun ds => r ds Q) :=
  ⟨fun ρ Q Q' k h => ha.mono _ _ _ (fun d h => mr _ _ _ k h) h, (pe_callTy hc hg hm hv ha.run hn hdb he hpl).imp fun σ H Q h => blt_run mr l ha.mono h⟩
end
/-- other ways back: a list of our own; a thing, and what is held by then -/
inductive Ret where
  | own (ds : List D)
  | st (d : D) (ρ : DEnv)
structure DEnds where
  nx : DEnv → Prop
  rt : D → Prop
  bk : DEnv → Prop
  ct : DEnv → Prop
  ro : Ret → Prop
structure DEnds.le (a b : DEnds) : Prop where
  nx : ∀ ρ, a.nx ρ → b.nx ρ
  rt : ∀ d, a.rt d → b.rt d
  bk : ∀ ρ, a.bk ρ → b.bk ρ
  ct : ∀ ρ, a.ct ρ → b.ct ρ
  ro : ∀ ds, a.ro ds → b.ro ds
abbrev DTS := DEnds → DEnv → Prop
def ends (F : Fx) (K : PySem.W.Frag) (I0 : Hp) (Z : Ends) : DEnds where
  nx := fun ρ => ∀ I σ H, Same I0 I → At F K I ρ σ H → Z.nx σ H
  rt := fun d => ∀ v I H, Stp F.W F.I0 F.B I H → Rep K I v d → Z.rt v H
  bk := fun ρ => ∀ I σ H, Same I0 I → At F K I ρ σ H → Z.bk σ H
  ct := fun ρ => ∀ I σ H, Same I0 I → At F K I ρ σ H → Z.ct σ H
  ro := fun r => match r with
    | .own ds => ∀ p vs I H, Stp F.W F.I0 F.B I H → H p = none → Reps K I vs ds → Z.rt (.ref p) (upd H p (.lst vs))
    | .st d ρ => ∀ v I σ H, At F K I ρ σ H → Rep K I v d → Z.rt v H
def rdS (F : Fx) (K : PySem.W.Frag) (t : DTS) : TS := fun Z σ H => ∃ I ρ, At F K I ρ σ H ∧ t (ends F K I Z) ρ
structure DSt (F : Fx) (X : Cx) (st : Stmt) (t : DTS) : Prop where
  mono : ∀ Z Z' ρ, DEnds.le Z Z' → t Z ρ → t Z' ρ
  run : PS X st (rdS F X.K t)
structure DSts (F : Fx) (X : Cx) (st : List Stmt) (t : DTS) : Prop where
  mono : ∀ Z Z' ρ, DEnds.le Z Z' → t Z ρ → t Z' ρ
  run : PSs X st (rdS F X.K t)
theorem DEnds.le.rfl' {Z : DEnds} : DEnds.le Z Z := ⟨fun _ h => h, fun _ h => h, fun _ h => h, fun _ h => h, fun _ h => h⟩
theorem ends.le {F : Fx} {K : PySem.W.Frag} {I I' : Hp} {Z : Ends} (s : Same I I') : DEnds.le (ends F K I Z) (ends F K I' Z) :=
  ⟨fun _ h J σ H s' => h J σ H (Same.trans s s'), fun _ h => h, fun _ h J σ H s' => h J σ H (Same.trans s s'), fun _ h J σ H s' => h J σ H (Same.trans s s'), fun _ h => h⟩
theorem DEnds.le.withNx {Z Z' : DEnds} (l : DEnds.le Z Z') {a b : DEnv → Prop} (h : ∀ ρ, a ρ → b ρ) : DEnds.le { Z with nx := a } { Z' with nx := b } := ⟨h, l.rt, l.bk, l.ct, l.ro⟩
section
variable {F : Fx} {X : Cx} {K : PySem.W.Frag} {I H I' H' : Hp} {ρ : DEnv} {σ : St} {st : Stmt} {sts : List Stmt} {e c : Expr} {te : DT} {tc : DB} {t u : DTS} {pos : Pos}
theorem dss_nil : DSts F X [] (fun Z ρ => Z.nx ρ) := ⟨fun Z Z' ρ l h => l.nx _ h, pss_nil.imp fun Z σ H ⟨I, ρ, A, h⟩ => h I σ H (Same.refl I) A⟩
theorem dss_cons (h : DSt F X st t) (h' : DSts F X sts u) : DSts F X (st :: sts) (fun Z ρ => t { Z with nx := u Z } ρ) := by
  refine ⟨fun Z Z' ρ l q => h.mono _ _ _ (l.withNx fun ρ => h'.mono _ _ _ l) q, (pss_cons h.run h'.run).imp fun Z σ H ⟨I, ρ, A, q⟩ => ⟨I, ρ, A, h.mono { ends F X.K I Z with nx := u (ends F X.K I Z) } _ _ ⟨fun ρ q I σ H s A => ⟨I, ρ, A, h'.mono _ _ _ (ends.le s) q⟩, fun d q => q, fun ρ q => q, fun ρ q => q, fun d q => q⟩ q⟩⟩
theorem dss_one (h : DSt F X st t) : DSts F X [st] t := ⟨h.mono, pss_one h.run⟩
theorem ds_ret (h : DE F X e te) : DSt F X (.Return (some e) pos) (fun Z ρ => te ρ Z.rt) :=
  ⟨fun Z Z' ρ l q => h.mono _ _ _ l.rt q, (ps_ret h.run).imp fun Z σ H ⟨I, ρ, A, q⟩ => rdE_next h.mono A q fun d v I' H' p s rv => p v I' H' (A.stp.trans s) rv⟩
theorem ds_expr (h : DE F X e te) (hs : swapsWith e none pos.line X.env = pure false := by rfl) : DSt F X (.Expr e pos) (fun Z ρ => te ρ fun _ => Z.nx ρ) :=
  ⟨fun Z Z' ρ l q => h.mono _ _ _ (fun _ q => l.nx _ q) q, (ps_expr h.run hs).imp fun Z σ H ⟨I, ρ, A, q⟩ => rdE_next h.mono A q fun d v I' H' p s rv => p I' σ H' s.i (A.step s)⟩
theorem ds_if {a b : List Stmt} (hc : DTest F X c tc) (ha : DSts F X a t) (hb : DSts F X b u) : DSt F X (.If c a b pos) (fun Z ρ => tc ρ fun k => if k = true then t Z ρ else u Z ρ) := by
  refine ⟨fun Z Z' ρ l q => hc.mono _ _ _ (fun k q => ?_) q, (ps_if hc.run ha.run hb.run).imp fun Z σ H ⟨I, ρ, A, q⟩ => rdT_next hc.mono A q fun k I' H' p s => ?_⟩
  · cases k
    · exact hb.mono _ _ _ l q
    · exact ha.mono _ _ _ l q
  · cases k
    · exact ⟨I', ρ, A.step s, hb.mono _ _ _ (ends.le s.i) p⟩
    · exact ⟨I', ρ, A.step s, ha.mono _ _ _ (ends.le s.i) p⟩
end
abbrev DGT := D → DEnv → (DEnv → Prop) → Prop
/-- σ' is σ but for the slots of js -/
def Only (js : List Nat) (σ σ' : St) : Prop := σ'.length = σ.length ∧ ∀ i, i ∉ js → σ'[i]? = σ[i]?
def rdG (F : Fx) (K : PySem.W.Frag) (js : List Nat) (g : DGT) : TG := fun v σ H Q => ∃ I ρ d, At F K I ρ σ H ∧ Rep K I v d ∧ g d ρ fun ρ' => ∀ I' σ' H', At F K I' ρ' σ' H' → Stp F.W I H I' H' → Only js σ σ' → Q σ' H'
/-- what is own in ρ' was so in ρ, off the slots of js -/
def Kept (js : List Nat) (ρ ρ' : DEnv) : Prop := ∀ (j : Nat) (e : Ent), ρ'[j]? = some (some e) → e.isOwn → j ∉ js ∧ ρ[j]? = some (some e)
structure DG (F : Fx) (X : Cx) (e : Expr) (js : List Nat) (g : DGT) : Prop where
  mono : ∀ d ρ (Q Q' : DEnv → Prop), (∀ ρ, Q ρ → Q' ρ) → g d ρ Q → g d ρ Q'
  keeps : ∀ d ρ (Q : DEnv → Prop), g d ρ Q → g d ρ fun ρ' => Q ρ' ∧ Kept js ρ ρ'
  run : PG X e (rdG F X.K js g)
abbrev DGTs := List D → DEnv → (DEnv → Prop) → Prop
def rdGs (F : Fx) (K : PySem.W.Frag) (js : List Nat) (g : DGTs) : TGs := fun v σ H Q => ∃ I ρ d, At F K I ρ σ H ∧ Reps K I v d ∧ g d ρ fun ρ' => ∀ I' σ' H', At F K I' ρ' σ' H' → Stp F.W I H I' H' → Only js σ σ' → Q σ' H'
structure DGs (F : Fx) (X : Cx) (e : List Expr) (js : List Nat) (g : DGTs) : Prop where
  mono : ∀ d ρ (Q Q' : DEnv → Prop), (∀ ρ, Q ρ → Q' ρ) → g d ρ Q → g d ρ Q'
  keeps : ∀ d ρ (Q : DEnv → Prop), g d ρ Q → g d ρ fun ρ' => Q ρ' ∧ Kept js ρ ρ'
  run : PGs X e (rdGs F X.K js g)
section
variable {F : Fx} {X : Cx} {K : PySem.W.Frag} {I H I' H' : Hp} {ρ : DEnv} {σ : St} {st : Stmt} {e tg : Expr} {es : List Expr} {te : DT} {g : DGT} {gs : DGTs} {pos : Pos}
theorem _root_.L2.PG.imp {e : Expr} {t u : TG} (h : PG X e t) (i : ∀ v σ H Q, u v σ H Q → t v σ H Q) : PG X e u := ⟨fun pins s σ H v w Q J r q => h.run pins s σ H v w Q J r (i v σ H Q q)⟩
theorem _root_.L2.PGs.imp {e : List Expr} {t u : TGs} (h : PGs X e t) (i : ∀ v σ H Q, u v σ H Q → t v σ H Q) : PGs X e u := ⟨fun pins s σ H v w Q J r q => h.run pins s σ H v w Q J r (i v σ H Q q)⟩
theorem set_at {ρ : DEnv} {i j : Nat} {x : Option Ent} {e : Ent} (h : (ρ.set i x)[j]? = some (some e)) : (i = j ∧ x = some e) ∨ (i ≠ j ∧ ρ[j]? = some (some e)) := by
  by_cases hij : i = j
  · subst hij
    left
    rw [List.getElem?_set] at h
    simp at h
    exact ⟨rfl, h.2⟩
  · rw [List.getElem?_set_ne hij] at h
    exact .inr ⟨hij, h⟩
theorem At.set (a : At F K I ρ σ H) {i : Nat} {v : V} {d : D} (r : Rep K I v d) : At F K I (ρ.set i (some (.dat d))) (σ.set i (some v)) H := by
  refine ⟨a.stp, by simp [a.len], fun j e h => ?_, fun j l e e' w hjl h1 h2 o1 o2 hw => ?_⟩
  · rcases set_at h with ⟨rfl, q⟩ | ⟨hij, q⟩
    · cases q
      have hi : i < ρ.length := by
        have := (List.getElem?_eq_some_iff.mp h).1
        simpa using this
      exact ⟨v, by rw [List.getElem?_set]; simp [← a.len, hi], .inl ⟨_, rfl, r⟩⟩
    · obtain ⟨w, h1, h2⟩ := a.env j e q
      exact ⟨w, by rw [List.getElem?_set_ne hij]; exact h1, h2⟩
  · rcases set_at h1 with ⟨rfl, q⟩ | ⟨hij, q⟩
    · cases q; exact o1.elim
    · rcases set_at h2 with ⟨rfl, q'⟩ | ⟨hil, q'⟩
      · cases q'; exact o2.elim
      · rw [List.getElem?_set_ne hij] at hw
        rw [List.getElem?_set_ne hil]
        exact a.dis j l e e' w hjl q q' o1 o2 hw
theorem dg_name {x : Str} (i : Nat) (hN : X.N.Nodup) (hi : X.N[i]? = some x := by rfl) (hx : Loc X.env.scope x := by first | exact Or.inl rfl | exact Or.inr rfl) (hf : X.fn x = true ∨ X.env.scope.names.lookup x = some .local := by first | exact .inl rfl | exact .inr rfl | assumption) : DG F X (.Name x pos) [i] (fun d ρ Q => Q (ρ.set i (some (.dat d)))) :=
  ⟨fun d ρ Q Q' k q => k _ q, fun d ρ Q q => ⟨q, fun j e hj ho => by
    rcases set_at hj with ⟨_, z⟩ | ⟨hij, z⟩
    · cases z; exact ho.elim
    · exact ⟨by simp [Ne.symm hij], z⟩⟩, (pg_name hN hi hx hf).imp fun v σ H Q ⟨I, ρ, d, A, r, q⟩ => q I _ H (A.set r) A.st.stp ⟨by simp, fun j hj => List.getElem?_set_ne (fun e => hj (by simp [e]))⟩⟩
theorem dgs_nil : DGs F X [] [] (fun ds ρ Q => ds = [] ∧ Q ρ) := by
  refine ⟨fun d ρ Q Q' k q => ⟨q.1, k _ q.2⟩, fun d ρ Q q => ⟨q.1, q.2, fun j e hj ho => ⟨by simp, hj⟩⟩, pgs_nil.imp fun v σ H Q ⟨I, ρ, d, A, r, e, q⟩ => ?_⟩
  subst e
  cases r
  exact ⟨rfl, q I _ H A A.st.stp ⟨rfl, fun _ _ => rfl⟩⟩
theorem dgs_cons {js ks : List Nat} (h : DG F X e js g) (h' : DGs F X es ks gs) (hs : (assignEach (e :: es) X.env).map (·.2) = assign e X.env :: (assignEach es X.env).map (·.2) := by rfl) : DGs F X (e :: es) (js ++ ks) (fun ds ρ Q => ∃ d r, ds = d :: r ∧ g d ρ fun ρ' => gs r ρ' Q) := by
  refine ⟨fun d ρ Q Q' k ⟨x, r, e, q⟩ => ⟨x, r, e, h.mono _ _ _ _ (fun ρ q => h'.mono _ _ _ _ k q) q⟩, fun d ρ Q ⟨x, r, e, q⟩ => ⟨x, r, e, h.mono _ _ _ _ (fun ρ1 ⟨q, k1⟩ => h'.mono _ _ _ _ (fun ρ2 ⟨q, k2⟩ => ⟨q, fun j e hj ho => have ⟨a, b⟩ := k2 j e hj ho; have ⟨c, d⟩ := k1 j e b ho; ⟨fun z => (List.mem_append.mp z).elim c a, d⟩⟩) (h'.keeps _ _ _ q)) (h.keeps _ _ _ q)⟩, (pgs_cons h.run h'.run hs).imp fun v σ H Q ⟨I, ρ, d, A, rv, x, r, e, q⟩ => ?_⟩
  subst e
  cases rv with
  | cons r1 r2 =>
    refine ⟨_, _, rfl, I, ρ, x, A, r1, h.mono _ _ _ _ (fun ρ' q I' σ' H' A' s o => ?_) q⟩
    exact ⟨I', ρ', r, A', r2.mono s.i, h'.mono _ _ _ _ (fun ρ2 q I2 σ2 H2 A2 s2 o2 => q I2 σ2 H2 A2 (s.trans s2) ⟨o2.1.trans o.1, fun j hj => (o2.2 j fun z => hj (List.mem_append_right _ z)).trans (o.2 j fun z => hj (List.mem_append_left _ z))⟩) q⟩
theorem dg_tup {n k : Nat} {js : List Nat} (hc : X.calm = true) (h : DGs F X es js gs) (hn : (assignEach es X.env).length = n := by rfl) (hst : (assignEach es X.env).findIdx? (·.1) = none := by rfl) : DG F X (.Tuple es k pos) js (fun d ρ Q => ∃ ds, d = .tup ds ∧ ds.length = n ∧ gs ds ρ Q) := by
  refine ⟨fun d ρ Q Q' k ⟨ds, e, l, q⟩ => ⟨ds, e, l, h.mono _ _ _ _ k q⟩, fun d ρ Q ⟨ds, e, l, q⟩ => ⟨ds, e, l, h.keeps _ _ _ q⟩, (pg_tup hc h.run hn hst).imp fun v σ H Q ⟨I, ρ, d, A, r, ds, e, l, q⟩ => ?_⟩
  subst e
  cases r with
  | tup a rs => exact ⟨_, _, rfl, Same.seqT A.st.sub a, by rw [rs.length]; exact l, I, ρ, ds, A, rs, q⟩
/-- target = value -/
theorem ds_asg {js : List Nat} (he : DE F X e te) (hg : DG F X tg js g) (hs : swapsWithSole [tg] e pos.line X.env = pure false := by rfl) (hw : swappedStores [tg] e X.env = pure none := by rfl) (h1 : (assignEach [tg] X.env).map (·.2) = [assign tg X.env] := by rfl) : DSt F X (.Assign [tg] e pos) (fun Z ρ => te ρ fun d => g d ρ Z.nx) := by
  refine ⟨fun Z Z' ρ l q => he.mono _ _ _ (fun d q => hg.mono _ _ _ _ l.nx q) q, (ps_asg he.run hg.run hs hw h1).imp fun Z σ H ⟨I, ρ, A, q⟩ => rdE_next he.mono A q fun d v I' H' p s rv => ?_⟩
  exact ⟨I', ρ, d, A.step s, rv, hg.mono _ _ _ _ (fun ρ2 q I2 σ2 H2 A2 s2 _ => q I2 σ2 H2 (Same.trans s.i s2.i) A2) p⟩
theorem ds_set {x : Str} {pos' : Pos} (i : Nat) (he : DE F X e te) (hN : X.N.Nodup) (hi : X.N[i]? = some x := by rfl) (hx : Loc X.env.scope x := by first | exact Or.inl rfl | exact Or.inr rfl) (hs : swapsWith e (some (.Name x pos')) pos.line X.env = pure false := by rfl)
    (hf : X.fn x = true ∨ X.env.scope.names.lookup x = some .local := by first | exact .inl rfl | exact .inr rfl | assumption) : DSt F X (.Assign [.Name x pos'] e pos) (fun Z ρ => te ρ fun d => Z.nx (ρ.set i (some (.dat d)))) := by
  refine ⟨fun Z Z' ρ l q => he.mono _ _ _ (fun d q => l.nx _ q) q, (ps_set hN hi hx he.run hs hf).imp fun Z σ H ⟨I, ρ, A, q⟩ => rdE_next he.mono A q fun d v I' H' p s rv => ?_⟩
  exact p I' _ H' s.i ((A.step s).set rv)
/-- a, b = x, y -/
theorem ds_par {i j : Nat} {x y : Str} {a b : Expr} {ta : DAT} {px py pt : Pos} {kt k2 pt2} (hc : X.calm = true) (hN : X.N.Nodup) (hi : X.N[i]? = some x) (hj : X.N[j]? = some y) (hij : i ≠ j) (hkx : X.env.scope.names.lookup x = some .local) (hky : X.env.scope.names.lookup y = some .local)
    (ha : DA F X [a, b] ta) (hsw : swappedStores [.Tuple [.Name x px, .Name y py] kt pt] (.Tuple [a, b] k2 pt2) X.env = pure (some [x, y]) := by rfl) (hs : swapsWithSole [.Tuple [.Name x px, .Name y py] kt pt] (.Tuple [a, b] k2 pt2) pos.line X.env = pure false := by rfl) : DSt F X (.Assign [.Tuple [.Name x px, .Name y py] kt pt] (.Tuple [a, b] k2 pt2) pos) (fun Z ρ => ta ρ fun ds => ∃ d e, ds = [d, e] ∧ Z.nx ((ρ.set i (some (.dat d))).set j (some (.dat e)))) := by
  refine ⟨fun Z Z' ρ l q => ha.mono _ _ _ (fun d ⟨x, y, e, q⟩ => ⟨x, y, e, l.nx _ q⟩) q, (ps_par hc hN hi hj hij hkx hky ha.run hsw hs).imp fun Z σ H ⟨I, ρ, A, q⟩ => rdA_next ha.mono A q fun ds vs I' H' p s rs => ?_⟩
  obtain ⟨d, e, rfl, q⟩ := p
  cases rs with
  | cons r1 r2 =>
    cases r2 with
    | cons r2 r3 =>
      cases r3
      exact ⟨_, _, rfl, q I' _ H' s.i (((A.step s).set r1).set r2)⟩
end
def startD (N : List Str) (ds : List D) : DEnv := ds.map (fun d => some (Ent.dat d)) ++ List.replicate (N.length - ds.length) none
theorem at_start {W : Wd} {K : PySem.W.Frag} {I H : Hp} {N : List Str} {vs : List V} {ds : List D} (s : StI W I H) (r : Reps K I vs ds) : At ⟨W, H, I⟩ K I (startD N ds) (L2.start N vs) H := by
  refine ⟨s.stp, by simp [startD, L2.start, r.length], fun i e h => ?_, fun i j e e' v hij h1 h2 o1 => ?_⟩
  · unfold startD at h
    by_cases hi : i < ds.length
    · rw [List.getElem?_append_left (by simpa using hi), List.getElem?_map] at h
      cases q : ds[i]? with
      | none => rw [q] at h; cases h
      | some d =>
        rw [q] at h
        cases h
        obtain ⟨v, h1, h2⟩ := r.get q
        refine ⟨v, ?_, .inl ⟨_, rfl, h2⟩⟩
        unfold L2.start
        rw [List.getElem?_append_left (by simpa [r.length] using hi), List.getElem?_map, h1]
        rfl
    · rw [List.getElem?_append_right (by simpa using hi), List.getElem?_replicate] at h
      split at h <;> cases h
  · unfold startD at h1
    by_cases hi : i < ds.length
    · rw [List.getElem?_append_left (by simpa using hi), List.getElem?_map] at h1
      cases q : ds[i]? with
      | none => rw [q] at h1; cases h1
      | some d => rw [q] at h1; cases h1; exact o1.elim
    · rw [List.getElem?_append_right (by simpa using hi), List.getElem?_replicate] at h1
      split at h1 <;> cases h1
def defEnds (Q : D → Prop) : DEnds := ⟨fun _ => Q .non, Q, fun _ => False, fun _ => False, fun _ => False⟩
section
variable {P : Program} {w : World} {K : PySem.W.Frag} {mg : Str → Option Value} {base : Heap}
theorem body_run {F : Fx} {X : Cx} {t : DTS} {body : List Stmt} {N : List Str} {vs : List V} {ds : List D} {Q : VK} {H I : Hp} {W : Wd} (hF : F = ⟨W, H, I⟩) (h : DSts F X body t) (s : StI W I H) (r : Reps X.K I vs ds) (q : t (defEnds (fin F X.K I H Q)) (startD N ds)) :
    rdS F X.K t { nx := fun _ H' => Q .non H', rt := Q } (L2.start N vs) H := by
  subst hF
  exact ⟨I, _, at_start s r, h.mono (defEnds (fin ⟨W, H, I⟩ X.K I H Q)) _ _ ⟨fun ρ q I' σ' H' s A => q _ I' H' A.stp .non, fun d q v I' H' s r => q v I' H' s r, fun _ q => q.elim, fun _ q => q.elim, fun _ q => q.elim⟩ q⟩
/-- a def of the text whose promise may lean on the guards -/
theorem _root_.L2.Fun.gn {CX : CXT} {x qual : Str} {st : Stmt} {f : Addr} {fd : FuncData} {N ps : List Str} {k : Nat} {sp : Sp} (Fn : Fun K x qual st f fd) (Sc : FnScope N ps (defScope st)) (hlen : ∀ vs H Q E, sp vs H Q E → vs.length = ps.length)
    (hb : ∀ (cdv : Value) (A : Around) (below : List Env) (s : Shared) (H : Hp) (vs : List V) (Q : VK) (E : XK), Rm k (A.deeper (envOfC qual (defScope st) s.heap.objs.size f cdv)) → sp vs H Q E →
      ∃ t, PSs (cxOf CX P w K mg base N qual (defScope st) f cdv A below s H E) (defBody st) t ∧ t { nx := fun _ H' => Q .non H', rt := Q } (L2.start N vs) H) : GnOk P w K mg base CX (k + 1) f fd ps sp := by
  obtain ⟨oc, od, kV, doc, pm, an, cdv, ct, osl, rfl, lk, hcd⟩ := Fn.ex
  exact gn_of lk hcd Sc hlen (hb cdv)
/-- a def that lets no exception out -/
theorem _root_.L2.Fun.okD {W : Wd} {S : DSp} {x qual : Str} {st : Stmt} {f : Addr} {fd : FuncData} {N ps : List Str} {k : Nat} (Fn : Fun K x qual st f fd) (Sc : FnScope N ps (defScope st)) (hn : S.n = ps.length)
    (hbody : ∀ (cdv : Value) (A : Around) (outer : List Env) (s : Shared) (H I : Hp) (ds : List D) (Q : D → Prop) (Ed : Ex → Prop) (E : XK), Rm k (A.deeper (envOfC qual (defScope st) s.heap.objs.size f cdv)) → S.f ds Q Ed →
      ∃ t, DSts ⟨W, H, I⟩ (cxOf CX0 P w K mg base N qual (defScope st) f cdv A outer s H E).nox (defBody st) t ∧ t (defEnds Q) (startD N ds)) : GnOk P w K mg base CX0 (k + 1) f fd ps (spD W K S) := by
  refine Fn.gn Sc (fun vs H Q E h => (spD_len _ _ _ _ h).trans hn) fun cdv A outer s H vs Q E hr ⟨I, ds, si, r, h⟩ => ?_
  obtain ⟨t, h1, h2⟩ := hbody cdv A outer s H I ds _ _ E hr h
  exact ⟨_, h1.run.nox, body_run rfl h1 si r h2⟩
end
end Dk
namespace Dk
open PySem L2
open PyProof.Rows (envOfC)
open RZ (ItzT pi_zipA iZipA)
structure JRep (W : Wd) (K : PySem.W.Frag) (J : It) (I : Hp) (ds : List D) : Prop where
  go : ∀ (i : Nat) I2 H2, Same I I2 → StI W I2 H2 → i < ds.length → J.go i H2
  yld : ∀ (i : Nat) I2 H2 x H3, i < ds.length → Same I I2 → StI W I2 H2 → J.yld i H2 x H3 → ∃ d I3, ds[i]? = some d ∧ Stp W I2 H2 I3 H3 ∧ Rep K I3 x d
  stop : ∀ I2 H2, Same I I2 → StI W I2 H2 → J.stop ds.length H2
def finI (F : Fx) (K : PySem.W.Frag) (I H : Hp) (R : It → Hp → Prop) : List D → Prop := fun ds => ∀ J I' H', Stp F.W I H I' H' → JRep F.W K J I' ds → R J H'
def rdI (F : Fx) (K : PySem.W.Frag) (t : DAT) : TI := fun σ H R => ∃ I ρ, At F K I ρ σ H ∧ t ρ (finI F K I H R)
structure DI (F : Fx) (X : Cx) (tg e : Expr) (t : DAT) : Prop where
  mono : ∀ ρ (Q Q' : List D → Prop), (∀ d, Q d → Q' d) → t ρ Q → t ρ Q'
  run : PI X tg e (rdI F X.K t)
section
variable {F : Fx} {X : Cx} {K : PySem.W.Frag} {W : Wd} {I H : Hp} {ρ : DEnv} {σ : St} {tg e e2 : Expr} {te tb : DT} {ta : DAT} {p pos : Pos}
theorem _root_.L2.PI.imp {t u : TI} (h : PI X tg e t) (i : ∀ σ H R, u σ H R → t σ H R) : PI X tg e u := ⟨fun pins s σ H R J q => h.run pins s σ H R J (i σ H R q)⟩
theorem jr_list {a : Addr} {vs : List V} {ds : List D} (h : I a = some (.lst vs)) (r : Reps K I vs ds) : JRep W K (Itl K a) I ds where
  go := fun i I2 H2 s st hi => by
    have hv : i < vs.length := by rw [r.length]; exact hi
    exact ⟨vs, vs[i], .of (st.sub _ _ (s _ _ h)), by simp [hv]⟩
  yld := fun i I2 H2 x H3 hi s st ⟨e, y⟩ => by
    subst e
    obtain ⟨d, h1, h2⟩ := (r.mono s).getV (y vs (.of (st.sub _ _ (s _ _ h))))
    exact ⟨d, I2, h1, st.stp, h2⟩
  stop := fun I2 H2 s st => ⟨vs, .of (st.sub _ _ (s _ _ h)), by rw [r.length]; exact Nat.le_refl _⟩
theorem jr_tup {a : Addr} {vs : List V} {ds : List D} (h : SqT K I a vs) (r : Reps K I vs ds) : JRep W K (Itt K a) I ds where
  go := fun i I2 H2 s st hi => by
    have hv : i < vs.length := by rw [r.length]; exact hi
    exact ⟨vs, vs[i], Same.seqT (Same.trans s st.sub) h, by simp [hv]⟩
  yld := fun i I2 H2 x H3 hi s st ⟨e, y⟩ => by
    subst e
    obtain ⟨d, h1, h2⟩ := (r.mono s).getV (y vs (Same.seqT (Same.trans s st.sub) h))
    exact ⟨d, I2, h1, st.stp, h2⟩
  stop := fun I2 H2 s st => ⟨vs, Same.seqT (Same.trans s st.sub) h, by rw [r.length]; exact Nat.le_refl _⟩
def rngD (lo : Int) (n : Nat) : List D := (List.range n).map fun i => D.int (lo + (i : Nat))
theorem rngD_length (lo : Int) (n : Nat) : (rngD lo n).length = n := by simp [rngD]
theorem jr_range {lo : Int} {n : Nat} : JRep W K (Itr lo n) I (rngD lo n) where
  go := fun i I2 H2 s st hi => by rw [rngD_length] at hi; exact hi
  yld := fun i I2 H2 x H3 hi s st ⟨e, y⟩ => by
    subst e y
    refine ⟨.int (lo + i), I2, ?_, st.stp, .int _⟩
    rw [rngD_length] at hi
    unfold rngD
    rw [List.getElem?_map, List.getElem?_range hi]
    rfl
  stop := fun I2 H2 s st => by show n ≤ _; rw [rngD_length]; exact Nat.le_refl _
def sgnD (x : Str) : List D := x.cps.toList.map fun c => D.str ⟨#[c]⟩
theorem jr_str {x : Str} : JRep W K (Its x) I (sgnD x) where
  go := fun i I2 H2 s st hi => by show i < x.cps.size; simpa [sgnD] using hi
  yld := fun i I2 H2 v H3 hi s st ⟨e, c, hc, y⟩ => by
    subst e y
    refine ⟨.str ⟨#[c]⟩, I2, ?_, st.stp, .str _⟩
    unfold sgnD
    rw [List.getElem?_map, Array.getElem?_toList, hc]
    rfl
  stop := fun I2 H2 s st => by show x.cps.size ≤ _; simp [sgnD]
theorem jr_keys {a : Addr} {o : Obj} {ws : List (Key × V)} {kvs : List (Key × D)} (h : I a = some (.frz o (.dK ws))) (k : ws.map (·.1) = kvs.map (·.1)) : JRep W K (Itk a o ws) I (kvs.map fun kv => keyD kv.1) where
  go := fun i I2 H2 s st hi => ⟨st.sub _ _ (s _ _ h), by have := congrArg List.length k; simp at this hi; omega⟩
  yld := fun i I2 H2 x H3 hi s st ⟨e, key, v, hk, y⟩ => by
    subst e y
    have e2 : (kvs.map (·.1))[i]? = some key := by rw [← k, List.getElem?_map, hk]; rfl
    refine ⟨keyD key, I2, ?_, st.stp, ?_⟩
    · rw [List.getElem?_map] at e2 ⊢
      cases q : kvs[i]? with
      | none => rw [q] at e2; cases e2
      | some p => rw [q] at e2; cases e2; rfl
    · cases key with
      | inl n => exact .int n
      | inr n => exact .str n
  stop := fun I2 H2 s st => ⟨st.sub _ _ (s _ _ h), by have := congrArg List.length k; simp at this ⊢; omega⟩
/-- a list, a tuple, a text, whichever comes -/
def iVal (K : PySem.W.Frag) (te : TE) : TI := fun σ H R => te σ H fun x H1 => (∃ a xs, x = .ref a ∧ SqL K H1 a xs ∧ R (Itl K a) H1) ∨ (∃ a xs, x = .ref a ∧ SqT K H1 a xs ∧ R (Itt K a) H1) ∨ (∃ z, x = .str z ∧ R (Its z) H1) ∨ ∃ d o kvs, x = .ref d ∧ H1 d = some (.frz o (.dK kvs)) ∧ R (Itk d o kvs) H1
theorem pi_val {e : Expr} {t : TE} (h : PE X e t) : PI X tg e (iVal X.K t) := by
  refine ⟨fun pn s0 σ0 H0 R0 J0 q0 => thn (h.run pn s0 σ0 H0 _ J0 q0) fun u s1 hu => ?_⟩
  obtain ⟨x, H1, J1, ru, c⟩ := hu
  rcases c with ⟨a, xs, rfl, hx, q⟩ | ⟨a, xs, rfl, hx, q⟩ | ⟨z, rfl, q⟩ | ⟨d, o, kvs, rfl, hd, q⟩
  · cases ru
    obtain ⟨its, _, pl, _⟩ := J1.list hx
    exact PySem.wpAny_pyIter_list pl.isList (pi_one (tk := s1.toks) J1 _ (turn_list a _) ⟨_, Heap.get?_push_size _ rfl, rfl, rfl⟩ q)
  · cases ru
    obtain ⟨its, _, pl, _⟩ := J1.tuple hx
    exact PySem.wpAny_pyIter_tuple (show s1.heap.IsTuple a its.toArray from pl) (pi_one (tk := s1.toks) J1 _ (turn_tuple a _) ⟨_, Heap.get?_push_size _ rfl, rfl, rfl⟩ q)
  · obtain ⟨t, rfl⟩ := ru
    cases hz : z.cps.all (· < 128)
    · exact PySem.wpAny_pyIter_wide hz (pi_one (tk := s1.toks) J1 _ (turn_str _ z t _ (.inr rfl)) ⟨_, Heap.get?_push_size _ rfl, rfl, rfl⟩ q)
    · exact PySem.wpAny_pyIter_ascii hz (pi_one (tk := s1.toks) J1 _ (turn_str _ z t _ (.inl rfl)) ⟨_, Heap.get?_push_size _ rfl, rfl, rfl⟩ q)
  · cases ru
    obtain ⟨hs, hgd, hx, es, ep, vs, hdt, hsz, kv, hm⟩ := J1.frzK hd
    refine iter_keys hs hgd hx hdt (pi_one (tk := s1.toks) J1 _ (turn_keys _ hdt) ⟨_, Heap.get?_push_size _ rfl, rfl, ?_⟩ q)
    rw [hsz]
    rfl
/-- what a for may walk -/
def itemsD : D → (List D → Prop) → Prop
  | .lst ds, Q => Q ds
  | .tup ds, Q => Q ds
  | .str x, Q => Q (sgnD x)
  | .dfz kvs, Q => Q (kvs.map fun kv => keyD kv.1)
  | _, _ => False
theorem itemsD.mono {d : D} {Q Q' : List D → Prop} (k : ∀ ds, Q ds → Q' ds) (h : itemsD d Q) : itemsD d Q' := by
  cases d <;> first | exact h.elim | exact k _ h
theorem di_seq (he : DE F X e te) : DI F X tg e (fun ρ Q => te ρ fun d => itemsD d Q) := by
  refine ⟨fun ρ Q Q' k q => he.mono _ _ _ (fun d => itemsD.mono k) q, (pi_val he.run).imp fun σ H R ⟨I, ρ, A, q⟩ => rdE_next he.mono A q fun d v I' H' p s rv => ?_⟩
  cases rv with
  | tup a r => exact .inr (.inl ⟨_, _, rfl, Same.seqT s.st.sub a, p _ _ _ s (jr_tup a r)⟩)
  | lst a r => exact .inl ⟨_, _, rfl, .of (s.st.sub _ _ a), p _ _ _ s (jr_list a r)⟩
  | str x => exact .inr (.inr (.inl ⟨_, rfl, p _ _ _ s jr_str⟩))
  | dfz a k r => exact .inr (.inr (.inr ⟨_, _, _, rfl, s.st.sub _ _ a, p _ _ _ s (jr_keys a k)⟩))
  | ptp _ _ _ => exact p.elim
  | non => exact p.elim
  | bl b => exact p.elim
  | int b => exact p.elim
  | dic _ _ _ => exact p.elim
  | obj _ _ _ => exact p.elim
  | opq _ => exact p.elim
theorem di_range1 (hm : X.mg "range" = none) (ha : DA F X [e] ta) (hg : Gl X "range" := by rfl) (hs : starEach [e] X.env = [(false, eval e X.env)] := by rfl) : DI F X tg (.Call (.Name "range" p) [e] [] pos) (fun ρ Q => ta ρ fun ds => ∃ j : Int, ds = [.int j] ∧ -(2 ^ 62) ≤ j ∧ j < 2 ^ 62 ∧ Q (rngD 0 j.toNat)) := by
  refine ⟨fun ρ Q Q' k q => ha.mono _ _ _ (fun ds ⟨j, e, a, b, q⟩ => ⟨j, e, a, b, k _ q⟩) q, (pi_range1 hg hm ha.run hs).imp fun σ H R ⟨I, ρ, A, q⟩ => rdA_next ha.mono A q fun ds vs I' H' p s rs => ?_⟩
  obtain ⟨j, rfl, a, b, q⟩ := p
  cases rs with
  | cons r1 r2 =>
    cases r2
    cases r1
    exact ⟨j, rfl, a, b, q _ _ _ s jr_range⟩
def zipD : List D → (List D → Prop) → Prop
  | [.lst xs, .lst ys], Q => Q (List.zipWith (fun d e => .tup [d, e]) xs ys)
  | [.tup xs, .tup ys], Q => Q (List.zipWith (fun d e => .tup [d, e]) xs ys)
  | _, _ => False
theorem zipD.mono {ds : List D} {Q Q' : List D → Prop} (k : ∀ ds, Q ds → Q' ds) (h : zipD ds Q) : zipD ds Q' := by
  unfold zipD at h ⊢
  split at h <;> first | exact k _ h | exact h.elim
end
def forD (g : DGT) (tb : DTS) (Z : DEnds) : List D → DEnv → Prop
  | [], ρ => Z.nx ρ
  | d :: ds, ρ => g d ρ fun ρ2 => tb { Z with nx := forD g tb Z ds, ct := forD g tb Z ds, bk := Z.nx } ρ2
theorem forD.mono {F : Fx} {X : Cx} {tg : Expr} {js : List Nat} {g : DGT} {body : List Stmt} {tb : DTS} (hg : DG F X tg js g) (hb : DSts F X body tb) {Z Z' : DEnds} (l : DEnds.le Z Z') : ∀ (ds : List D) (ρ : DEnv), forD g tb Z ds ρ → forD g tb Z' ds ρ
  | [], ρ, h => l.nx _ h
  | d :: ds, ρ, h => hg.mono _ _ _ _ (fun ρ2 q => hb.mono { Z with nx := forD g tb Z ds, ct := forD g tb Z ds, bk := Z.nx } _ _ ⟨forD.mono hg hb l ds, l.rt, l.nx, forD.mono hg hb l ds, l.ro⟩ q) h
section
variable {F : Fx} {X : Cx} {tg iter c : Expr} {js : List Nat} {g : DGT} {body : List Stmt} {tb : DTS} {ti : DAT} {tc : DB} {pos : Pos}
theorem ds_for (hp : PassesOwn (model X.prog X.w) X.A X.env X.xe) (hc : X.calm = true) (hi : DI F X tg iter ti) (hg : DG F X tg js g) (hb : DSts F X body tb) (hs : ∀ x, foldedSetIterable iter X.env x = pure x := by intro _; rfl) : DSt F X (.For tg iter body [] pos) (fun Z ρ => ti ρ fun ds => forD g tb Z ds ρ) := by
  refine ⟨fun Z Z' ρ l q => hi.mono _ _ _ (fun ds => forD.mono hg hb l ds ρ) q, (ps_for hp hc hi.run hg.run hb.run hs).imp fun Z σ H ⟨I, ρ, A, q⟩ => ?_⟩
  refine ⟨I, ρ, A, hi.mono _ _ _ (fun ds q J I' H' s jr => ?_) q⟩
  refine ⟨fun i m σ' H2 => m = ds.length - i ∧ i ≤ ds.length ∧ ∃ I2 ρ2, At F X.K I2 ρ2 σ' H2 ∧ Same I' I2 ∧ forD g tb (ends F X.K I' Z) (ds.drop i) ρ2, ⟨ds.length, by simp, Nat.zero_le _, I', ρ, A.step s, Same.refl _, by simpa using forD.mono hg hb (ends.le s.i) ds ρ q⟩, ?_⟩
  rintro i m σ' H2 ⟨rfl, hi', I2, ρ2, A2, s2, q2⟩
  by_cases hlt : i < ds.length
  · refine .inr ⟨jr.go i I2 H2 s2 A2.st hlt, fun σ3 H3 => ∃ I3 ρ3, At F X.K I3 ρ3 σ3 H3 ∧ Same I' I3 ∧ forD g tb (ends F X.K I' Z) (ds.drop (i + 1)) ρ3, fun σ3 H3 ⟨I3, ρ3, A3, s3, q3⟩ => ⟨ds.length - (i + 1), by omega, rfl, hlt, I3, ρ3, A3, s3, q3⟩, fun x H3 y => ?_⟩
    obtain ⟨d, I3, hd, st3, rx⟩ := jr.yld i I2 H2 x H3 hlt s2 A2.st y
    rw [List.drop_eq_getElem_cons hlt] at q2
    have hd' : ds[i] = d := by
      rw [List.getElem?_eq_getElem hlt] at hd
      exact Option.some.inj hd
    rw [hd'] at q2
    refine ⟨I3, ρ2, d, A2.step st3, rx, hg.mono _ _ _ _ (fun ρ4 q4 I4 σ4 H4 A4 s4 _ => ?_) q2⟩
    have s4' : Same I' I4 := Same.trans (Same.trans s2 st3.i) s4.i
    refine ⟨I4, ρ4, A4, hb.mono { ends F X.K I' Z with nx := forD g tb (ends F X.K I' Z) (ds.drop (i + 1)), ct := forD g tb (ends F X.K I' Z) (ds.drop (i + 1)), bk := (ends F X.K I' Z).nx } _ _ ⟨fun ρ5 q5 I5 σ5 H5 s5 A5 => ⟨I5, ρ5, A5, Same.trans s4' s5, q5⟩, fun d q => q, fun ρ5 q5 I5 σ5 H5 s5 A5 => q5 I5 σ5 H5 (Same.trans s4' s5) A5, fun ρ5 q5 I5 σ5 H5 s5 A5 => ⟨I5, ρ5, A5, Same.trans s4' s5, q5⟩, fun d q => q⟩ q4⟩
  · have e : i = ds.length := by omega
    subst e
    rw [List.drop_length] at q2
    exact .inl ⟨jr.stop I2 H2 s2 A2.st, q2 _ _ _ s2 A2⟩
def whileD (tc : DB) (tb : DTS) (Z : DEnds) (ρ : DEnv) : Prop := ∃ P : Nat → DEnv → Prop, (∃ m, P m ρ) ∧ ∀ m ρ, P m ρ → tc ρ fun b => if b = true then tb { Z with nx := fun ρ' => ∃ m', m' < m ∧ P m' ρ', ct := fun ρ' => ∃ m', m' < m ∧ P m' ρ', bk := Z.nx } ρ else Z.nx ρ
theorem ds_while (hp : PassesOwn (model X.prog X.w) X.A X.env X.xe) (hc : DTest F X c tc) (hb : DSts F X body tb) : DSt F X (.While c body [] pos) (whileD tc tb) := by
  refine ⟨fun Z Z' ρ l ⟨P, h0, hs⟩ => ⟨P, h0, fun m ρ p => hc.mono _ _ _ (fun b q => ?_) (hs m ρ p)⟩, (ps_while hp hc.run hb.run).imp fun Z σ H ⟨I, ρ, A, P, ⟨m, p⟩, hs⟩ => ?_⟩
  · cases b
    · exact l.nx _ q
    · exact hb.mono { Z with nx := fun ρ' => ∃ m', m' < m ∧ P m' ρ', ct := fun ρ' => ∃ m', m' < m ∧ P m' ρ', bk := Z.nx } _ _ ⟨fun _ h => h, l.rt, l.nx, fun _ h => h, l.ro⟩ q
  · refine ⟨fun m σ' H2 => ∃ I2 ρ2, At F X.K I2 ρ2 σ' H2 ∧ Same I I2 ∧ P m ρ2, ⟨m, I, ρ, A, Same.refl _, p⟩, fun m σ' H2 ⟨I2, ρ2, A2, s2, p2⟩ => ?_⟩
    refine rdT_next hc.mono A2 (hs m ρ2 p2) fun b I3 H3 q s => ?_
    have s3 : Same I I3 := Same.trans s2 s.i
    cases b
    · exact q _ _ _ s3 (A2.step s)
    · refine ⟨fun σ' H' => ∃ m', m' < m ∧ ∃ I4 ρ4, At F X.K I4 ρ4 σ' H' ∧ Same I I4 ∧ P m' ρ4, fun σ' H' h => h, I3, ρ2, A2.step s, hb.mono { ends F X.K I Z with nx := fun ρ' => ∃ m', m' < m ∧ P m' ρ', ct := fun ρ' => ∃ m', m' < m ∧ P m' ρ', bk := (ends F X.K I Z).nx } _ _ ?_ q⟩
      exact ⟨fun ρ' ⟨m', l, p'⟩ I4 σ4 H4 s4 A4 => ⟨m', l, I4, ρ', A4, Same.trans s3 s4, p'⟩, fun d q => q, fun ρ' q I4 σ4 H4 s4 A4 => q I4 σ4 H4 (Same.trans s3 s4) A4, fun ρ' ⟨m', l, p'⟩ I4 σ4 H4 s4 A4 => ⟨m', l, I4, ρ', A4, Same.trans s3 s4, p'⟩, fun d q => q⟩
end
end Dk
namespace Dk
open PySem L2
open PyProof.Rows (envOfC)
def wipeD (ρ : DEnv) : List Nat → DEnv
  | [] => ρ
  | v :: vs => (wipeD ρ vs).set v none
theorem wipeD_length (ρ : DEnv) : ∀ vs : List Nat, (wipeD ρ vs).length = ρ.length
  | [] => rfl
  | v :: vs => by unfold wipeD; rw [List.length_set, wipeD_length ρ vs]
theorem wipeD_some {ρ : DEnv} {i : Nat} {e : Ent} : ∀ {vs : List Nat}, (wipeD ρ vs)[i]? = some (some e) → ρ[i]? = some (some e) ∧ i ∉ vs
  | [], h => ⟨h, by simp⟩
  | v :: vs, h => by
    unfold wipeD at h
    rcases set_at h with ⟨_, q⟩ | ⟨hn, q⟩
    · cases q
    · obtain ⟨h1, h2⟩ := wipeD_some q
      exact ⟨h1, by simp [Ne.symm hn, h2]⟩
theorem wipe_at {σ : St} : ∀ {vs : List Nat} {i : Nat}, i ∈ vs → (wipe σ vs)[i]? ≠ some none → i ≥ σ.length
  | [], _, h, _ => by simp at h
  | v :: vs, i, h, hn => by
    unfold wipe at hn
    by_cases e : v = i
    · subst e
      rw [List.getElem?_set] at hn
      simp at hn
      rw [wipe_length] at hn
      exact hn
    · rw [List.getElem?_set_ne e] at hn
      exact wipe_at (by simpa [Ne.symm e] using h) hn
theorem wipe_only {σ σ' : St} {js vs : List Nat} (o : Only js σ σ') (h : ∀ j ∈ js, j ∈ vs) : wipe σ' vs = wipe σ vs := by
  have hl := o.1
  apply List.ext_getElem?
  intro i
  by_cases hi : i ∈ vs
  · by_cases hlt : i < σ.length
    · have a : (wipe σ vs)[i]? = some none := Classical.byContradiction fun z => absurd (wipe_at hi z) (by omega)
      have b : (wipe σ' vs)[i]? = some none := Classical.byContradiction fun z => absurd (wipe_at hi z) (by omega)
      rw [a, b]
    · rw [List.getElem?_eq_none (by rw [wipe_length]; omega), List.getElem?_eq_none (by rw [wipe_length]; omega)]
  · rw [wipe_out hi, wipe_out hi]
    exact o.2 i fun z => hi (h i z)
theorem wipe_wipe (σ : St) (vs : List Nat) : wipe (wipe σ vs) vs = wipe σ vs := by
  apply List.ext_getElem?
  intro i
  by_cases hi : i ∈ vs
  · by_cases hlt : i < σ.length
    · have a : (wipe σ vs)[i]? = some none := Classical.byContradiction fun z => absurd (wipe_at hi z) (by omega)
      have b : (wipe (wipe σ vs) vs)[i]? = some none := Classical.byContradiction fun z => absurd (wipe_at hi z) (by rw [wipe_length]; omega)
      rw [a, b]
    · rw [List.getElem?_eq_none (by rw [wipe_length, wipe_length]; omega), List.getElem?_eq_none (by rw [wipe_length]; omega)]
  · rw [wipe_out hi]
section
variable {F : Fx} {K : PySem.W.Frag} {I H I' H' : Hp} {ρ : DEnv} {σ : St}
theorem At.wipe (a : At F K I ρ σ H) (vs : List Nat) : At F K I (wipeD ρ vs) (wipe σ vs) H := by
  refine ⟨a.stp, by rw [wipeD_length, wipe_length]; exact a.len, fun i e h => ?_, fun i j e e' v hij h1 h2 o1 o2 hv => ?_⟩
  · obtain ⟨h1, h2⟩ := wipeD_some h
    obtain ⟨v, h3, h4⟩ := a.env i e h1
    exact ⟨v, by rw [wipe_out h2]; exact h3, h4⟩
  · obtain ⟨h3, h4⟩ := wipeD_some h1
    obtain ⟨h5, h6⟩ := wipeD_some h2
    rw [wipe_out h4] at hv
    rw [wipe_out h6]
    exact a.dis i j e e' v hij h3 h5 o1 o2 hv
/-- D is no list of a slot's own -/
def Apart (ρ : DEnv) (σ : St) (D : Addr) : Prop := ∀ (i : Nat) e, ρ[i]? = some (some e) → e.isOwn → σ[i]? ≠ some (some (.ref D))
theorem At.apart (a : At F K I ρ σ H) {D : Addr} (h : H D = none) : Apart ρ σ D := fun i e he o hv => by
  obtain ⟨v, h1, h2⟩ := a.env i e he
  rw [hv] at h1
  cases h1
  obtain ⟨p, u, q, w⟩ := h2.own o
  cases q
  rw [w.hp] at h
  cases h
theorem At.write (a : At F K I ρ σ H) {D : Addr} (o : HO) (hI : I D = none) (hm : ¬ F.W.mv D) (hB : F.B D = none) (hp : Apart ρ σ D) : At F K I ρ σ (upd H D o) := by
  refine ⟨⟨a.stp.i, ⟨fun b u e => ?_, a.st.imm, F.W.frame (.refl _) (fun b m => upd_ne fun z => hm (z ▸ m)) a.st.inv⟩, fun b u e m => ?_, a.stp.new⟩, a.len, fun i e h => ?_, a.dis⟩
  · rw [upd_ne (ne_of_none e hI)]; exact a.st.sub _ _ e
  · rw [upd_ne (ne_of_none e hB)]; exact a.stp.h _ _ e m
  · obtain ⟨v, h1, h2⟩ := a.env i e h
    refine ⟨v, h1, ?_⟩
    rcases h2 with ⟨d, rfl, r⟩ | ⟨p, u, rfl, w⟩
    · exact .inl ⟨d, rfl, r⟩
    · exact .inr ⟨p, u, rfl, by rw [upd_ne fun z => by subst z; exact hp i _ h w.rep.isOwn h1]; exact w.hp, w.rep, w.ni, w.nm, w.nb, w.ad⟩
theorem Stp.write {W : Wd} (s : Stp W I H I' H') {D : Addr} (o : HO) (hI : I' D = none) (hm : ¬ W.mv D) (hn : H D = none) : Stp W I H I' (upd H' D o) := by
  refine ⟨s.i, ⟨fun b u e => ?_, s.st.imm, W.frame (.refl _) (fun b m => upd_ne fun z => hm (z ▸ m)) s.st.inv⟩, fun b u e m => ?_, s.new⟩
  · rw [upd_ne (ne_of_none e hI)]; exact s.st.sub _ _ e
  · rw [upd_ne (ne_of_none e hn)]; exact s.h _ _ e m
/-- what was made since stands still from now on -/
theorem Stp.freeze {W : Wd} (s : Stp W I H I' H') {D : Addr} {o : HO} (hI : I' D = none) (hm : ¬ W.mv D) (hn : H D = none) (hD : H' D = some o) : Stp W I H (upd I' D o) H' := by
  refine ⟨fun b u e => ?_, ⟨fun b u e => ?_, fun b u e => ?_, W.frame (.of fun b u e => by rw [upd_ne (ne_of_none e hI)]; exact e) (fun _ _ => rfl) s.st.inv⟩, s.h, fun b u e n => ?_⟩
  · have e' := s.i _ _ e
    rw [upd_ne (ne_of_none e' hI)]; exact e'
  · by_cases hb : b = D
    · subst hb; rw [upd_same] at e; cases e; exact hD
    · rw [upd_ne hb] at e; exact s.st.sub _ _ e
  · by_cases hb : b = D
    · subst hb; exact hm
    · rw [upd_ne hb] at e; exact s.st.imm _ _ e
  · rw [upd_ne (ne_of_none e hn)]; exact s.new _ _ e n
theorem Same.laid {I : Hp} {D : Addr} {o : HO} (h : I D = none) : Same I (upd I D o) := fun b u e => by rw [upd_ne (ne_of_none e h)]; exact e
end
/-- a comprehension's tests -/
structure DIfs (F : Fx) (X : Cx) (ifs : List Expr) (t : DB) : Prop where
  mono : ∀ ρ (Q Q' : Bool → Prop), (∀ d, Q d → Q' d) → t ρ Q → t ρ Q'
  run : PTs X ifs (rdT F X.K t)
theorem _root_.L2.PTs.imp {X : Cx} {ifs : List Expr} {t u : TT} (h : PTs X ifs t) (i : ∀ σ H Q, u σ H Q → t σ H Q) : PTs X ifs u := ⟨fun pins s σ H Q J q => h.run pins s σ H Q J (i σ H Q q)⟩
theorem dif_nil {F : Fx} {X : Cx} : DIfs F X [] (fun _ Q => Q true) := ⟨fun _ _ _ k q => k _ q, pts_nil.imp fun σ H Q ⟨I, ρ, A, q⟩ => q I H A.st.stp⟩
theorem dif_one {F : Fx} {X : Cx} {c : Expr} {t : DB} (h : DTest F X c t) : DIfs F X [c] t := ⟨h.mono, pts_one h.run⟩
def lcD (g : DGT) (tc : DB) (te : DT) (ρ : DEnv) : List D → (List D → Prop) → Prop
  | [], Q => Q []
  | d :: ds, Q => g d ρ fun ρ2 => tc ρ2 fun b => if b = true then te ρ2 fun y => lcD g tc te ρ ds fun ys => Q (y :: ys) else lcD g tc te ρ ds Q
section
variable {F : Fx} {X Y : Cx} {elt tg iter : Expr} {ifs : List Expr} {scope : Scope} {own : List (Str × Nat)} {pos : Pos} {ti : DAT} {js : List Nat} {g : DGT} {tc : DB} {te : DT}
theorem lcD.mono (hg : DG F Y tg js g) (ht : DIfs F Y ifs tc) (he : DE F Y elt te) (ρ : DEnv) : ∀ (ds : List D) (Q Q' : List D → Prop), (∀ ys, Q ys → Q' ys) → lcD g tc te ρ ds Q → lcD g tc te ρ ds Q'
  | [], Q, Q', k, h => k _ h
  | d :: ds, Q, Q', k, h => hg.mono _ _ _ _ (fun ρ2 q => ht.mono _ _ _ (fun b q => by
      cases b
      · exact lcD.mono hg ht he ρ ds _ _ k q
      · exact he.mono _ _ _ (fun y q => lcD.mono hg ht he ρ ds _ _ (fun ys => k _) q) q) q) h
/-- the reading of the block -/
theorem lc_run {vs : List Nat} {K : PySem.W.Frag} (hgm : ∀ d ρ (Q Q' : DEnv → Prop), (∀ ρ, Q ρ → Q' ρ) → g d ρ Q → g d ρ Q') (htm : ∀ ρ (Q Q' : Bool → Prop), (∀ d, Q d → Q' d) → tc ρ Q → tc ρ Q') (hem : ∀ ρ (Q Q' : D → Prop), (∀ d, Q d → Q' d) → te ρ Q → te ρ Q')
    (him : ∀ ρ (Q Q' : List D → Prop), (∀ d, Q d → Q' d) → ti ρ Q → ti ρ Q') (hjs : ∀ j ∈ js, j ∈ vs) {σ : St} {H : Hp} {Q : VK} {I : Hp} {ρ : DEnv} (A : At F K I ρ σ H) {P : List D → Prop}
    (q : ti ρ fun ds => ds.length ≤ sizeLine ∧ lcD g tc te (wipeD ρ vs) ds P) (hP : ∀ ys, P ys → ∀ p I' H', Stp F.W I H I' H' → H p = none → I' p = none → F.B p = none → ¬ F.W.mv p → (∃ ws, H' p = some (.lst ws) ∧ Reps K I' ws ys) → Q (.ref p) H') :
    tLc (rdI F K ti) (rdG F K js g) (rdT F K tc) (rdE F K te) vs σ H Q := by
  refine ⟨I, ρ, A, him _ _ _ (fun ds q J I1 H1 s jr E hE => ?_) q⟩
  obtain ⟨hl, q⟩ := q
  have A1 := (A.step s).wipe vs
  have hp : Apart (wipeD ρ vs) (wipe σ vs) E := A1.apart hE
  have hI1 : I1 E = none := s.st.free hE
  have hm : ¬ F.W.mv E := fun m => F.W.live s.st.inv m hE
  have hB : F.B E = none := by
    cases z : F.B E with
    | none => rfl
    | some u => have := A1.stp.h _ _ z hm; rw [hE] at this; cases this
  have hHE : H E = none := by
    cases z : H E with
    | none => rfl
    | some u => have := s.h _ _ z hm; rw [hE] at this; cases this
  refine ⟨fun i m H2 => m = ds.length - i ∧ i ≤ ds.length ∧ ∃ I2 ws ys, At F K I2 (wipeD ρ vs) (wipe σ vs) H2 ∧ Stp F.W I1 H1 I2 H2 ∧ H2 E = some (.lst ws) ∧ I2 E = none ∧ Reps K I2 ws ys ∧ ws.length ≤ i ∧ lcD g tc te (wipeD ρ vs) (ds.drop i) (fun zs => P (ys ++ zs)),
    ⟨ds.length, by simp, Nat.zero_le _, I1, [], [], A1.write _ hI1 hm hB hp, s.st.stp.write _ hI1 hm hE, upd_same, hI1, .nil, Nat.zero_le _, by simpa using q⟩, ?_⟩
  rintro i m H2 ⟨rfl, hi, I2, ws, ys, A2, s2, h2, n2, r2, l2, q2⟩
  by_cases hlt : i < ds.length
  · refine .inr ⟨jr.go i I2 H2 s2.i A2.st hlt, fun H3 => ∃ I3 ws3 ys3, At F K I3 (wipeD ρ vs) (wipe σ vs) H3 ∧ Stp F.W I1 H1 I3 H3 ∧ H3 E = some (.lst ws3) ∧ I3 E = none ∧ Reps K I3 ws3 ys3 ∧ ws3.length ≤ i + 1 ∧ lcD g tc te (wipeD ρ vs) (ds.drop (i + 1)) (fun zs => P (ys3 ++ zs)),
      fun H3 h => ⟨ds.length - (i + 1), by omega, rfl, hlt, h⟩, fun x H3 y => ?_⟩
    obtain ⟨d, I3, hd, st3, rx⟩ := jr.yld i I2 H2 x H3 hlt s2.i A2.st y
    rw [List.drop_eq_getElem_cons hlt] at q2
    rw [List.getElem?_eq_getElem hlt] at hd
    rw [Option.some.inj hd] at q2
    refine ⟨I3, wipeD ρ vs, d, A2.step st3, rx, hgm _ _ _ _ (fun ρ4 q4 I4 σ4 H4 A4 st4 o4 => ⟨(wipe_only o4 hjs).trans (wipe_wipe σ vs), ?_⟩) q2⟩
    refine rdT_next htm A4 q4 fun b I5 H5 q5 st5 => ?_
    have s25 : Stp F.W I2 H2 I5 H5 := (st3.trans st4).trans st5
    cases b
    · exact ⟨I5, ws, ys, A2.step s25, s2.trans s25, s25.h _ _ h2 hm, s25.new _ _ h2 n2, r2.mono s25.i, by omega, q5⟩
    · refine rdE_next hem (A4.step st5) q5 fun y' v I6 H6 q6 st6 rv => ?_
      have s26 : Stp F.W I2 H2 I6 H6 := s25.trans st6
      have n6 := s26.new _ _ h2 n2
      refine ⟨ws, s26.h _ _ h2 hm, by omega, I6, ws ++ [v], ys ++ [y'], (A2.step s26).write _ n6 hm hB hp, (s2.trans s26).write _ n6 hm hE, upd_same, n6, (r2.mono s26.i).append (.cons rv .nil), by simp; omega, ?_⟩
      simpa using q6
  · have e : i = ds.length := by omega
    subst e
    rw [List.drop_length] at q2
    refine .inl ⟨jr.stop I2 H2 s2.i A2.st, hP ys (by simpa [lcD] using q2) E I2 H2 (s.trans s2) hHE n2 hB hm ⟨ws, h2, r2⟩⟩
theorem de_lc (hc : X.calm = true) (hN : X.N.Nodup) (hi : DI F X tg iter ti) (ok : BlkOk X.N X.env.scope scope own)
    (hg : ∀ (s : Shared) (H : Hp) (C : Addr) (cl : List (Str × Addr)) (fp : List Addr), DG F (X.blk s H scope (compEnvC scope cl C X.env) fp) tg js g)
    (ht : ∀ (s : Shared) (H : Hp) (C : Addr) (cl : List (Str × Addr)) (fp : List Addr), DIfs F (X.blk s H scope (compEnvC scope cl C X.env) fp) ifs tc)
    (he : ∀ (s : Shared) (H : Hp) (C : Addr) (cl : List (Str × Addr)) (fp : List Addr), DE F (X.blk s H scope (compEnvC scope cl C X.env) fp) elt te)
    (hjs : ∀ j ∈ js, j ∈ own.map (·.2) := by decide) (hs : ∀ x, foldedSetIterable iter X.env x = pure x := by intro _; rfl) :
    DE F X (.ListComp elt [⟨tg, iter, ifs, 0⟩] scope pos) (fun ρ Q => ti ρ fun ds => ds.length ≤ sizeLine ∧ lcD g tc te (wipeD ρ (own.map (·.2))) ds fun ys => Q (.lst ys)) := by
  have g0 := hg X.s_0 X.H_0 0 [] []
  have t0 := ht X.s_0 X.H_0 0 [] []
  have e0 := he X.s_0 X.H_0 0 [] []
  refine ⟨fun ρ Q Q' k q => hi.mono _ _ _ (fun ds q => ⟨q.1, lcD.mono g0 t0 e0 _ _ _ _ (fun ys => k _) q.2⟩) q, (pe_lc (g := rdG F X.K js g) (tt := rdT F X.K tc) (te := rdE F X.K te) hc hN hi.run ok (fun s H C cl fp => (hg s H C cl fp).run) (fun s H C cl fp => (ht s H C cl fp).run) (fun s H C cl fp => (he s H C cl fp).run) hs).imp fun σ H Q ⟨I, ρ, A, q⟩ => ?_⟩
  refine lc_run g0.mono t0.mono e0.mono hi.mono hjs A q fun ys q p I' H' s hp ip bp mp ⟨ws, h, r⟩ => ?_
  exact q _ _ _ (s.freeze ip mp hp h) (.lst upd_same (r.mono (Same.laid ip)))
/-- y = [..]: the list stands still -/
theorem ds_setLc {i : Nat} {y : Str} {py spos : Pos} (hc : X.calm = true) (hN : X.N.Nodup) (hy : X.N[i]? = some y) (hyl : X.env.scope.names.lookup y = some .local)
    (hsw : swapsWith (.ListComp elt [⟨tg, iter, ifs, 0⟩] scope pos) (some (.Name y py)) spos.line X.env = pure true) (hi : DI F X tg iter ti) (ok : BlkOk X.N X.env.scope scope own)
    (hg : ∀ (s : Shared) (H : Hp) (C : Addr) (cl : List (Str × Addr)) (fp : List Addr), DG F (X.blk s H scope (compEnvC scope cl C X.env) fp) tg js g)
    (ht : ∀ (s : Shared) (H : Hp) (C : Addr) (cl : List (Str × Addr)) (fp : List Addr), DIfs F (X.blk s H scope (compEnvC scope cl C X.env) fp) ifs tc)
    (he : ∀ (s : Shared) (H : Hp) (C : Addr) (cl : List (Str × Addr)) (fp : List Addr), DE F (X.blk s H scope (compEnvC scope cl C X.env) fp) elt te)
    (hjs : ∀ j ∈ js, j ∈ own.map (·.2) := by decide) (hs : ∀ x, foldedSetIterable iter X.env x = pure x := by intro _; rfl) :
    DSt F X (.Assign [.Name y py] (.ListComp elt [⟨tg, iter, ifs, 0⟩] scope pos) spos) (fun Z ρ => ti ρ fun ds => ds.length ≤ sizeLine ∧ lcD g tc te (wipeD ρ (own.map (·.2))) ds fun ys => Z.nx (ρ.set i (some (.dat (.lst ys))))) := by
  have g0 := hg X.s_0 X.H_0 0 [] []
  have t0 := ht X.s_0 X.H_0 0 [] []
  have e0 := he X.s_0 X.H_0 0 [] []
  refine ⟨fun Z Z' ρ l q => hi.mono _ _ _ (fun ds q => ⟨q.1, lcD.mono g0 t0 e0 _ _ _ _ (fun ys => l.nx _) q.2⟩) q, (ps_setLc (g := rdG F X.K js g) (tt := rdT F X.K tc) (te := rdE F X.K te) hc hN hy hyl hsw hi.run ok (fun s H C cl fp => (hg s H C cl fp).run) (fun s H C cl fp => (ht s H C cl fp).run) (fun s H C cl fp => (he s H C cl fp).run) hs).imp fun Z σ H ⟨I, ρ, A, q⟩ => ?_⟩
  refine lc_run g0.mono t0.mono e0.mono hi.mono hjs A q fun ys q p I' H' s hp ip bp mp ⟨ws, h, r⟩ => ?_
  have s' := s.freeze ip mp hp h
  exact q _ _ _ s'.i ((A.step s').set (.lst upd_same (r.mono (Same.laid ip))))
end
end Dk
namespace Dk
open PySem L2
def ixD : D → D → (D → Prop) → Prop
  | .lst xs, .int i, Q => ∃ d, atI xs i = some d ∧ Q d
  | .tup xs, .int i, Q => ∃ d, atI xs i = some d ∧ Q d
  | .str z, .int i, Q => z.length ≤ sizeLine ∧ ∃ c, atI z.cps.toList i = some c ∧ Q (.str ⟨#[c]⟩)
  | .dic kvs, y, Q => ∃ k d, y = keyD k ∧ lookD kvs k = some d ∧ Q d
  | .dfz kvs, y, Q => ∃ k d, y = keyD k ∧ lookD kvs k = some d ∧ Q d
  | _, _, _ => False
theorem mono_ix : Mono2 ixD := by
  intro x y Q Q' k h
  cases x <;> cases y <;> first | exact h.elim | (obtain ⟨d, e, q⟩ := h; exact ⟨d, e, k _ q⟩) | (obtain ⟨l, d, e, q⟩ := h; exact ⟨l, d, e, k _ q⟩) | (obtain ⟨l, d, e, e2, q⟩ := h; exact ⟨l, d, e, e2, k _ q⟩)
def rIxG (K : PySem.W.Frag) : R2 := fun x y H Q => rIx K x y H Q ∨ ∃ a v, x = .ref a ∧ DGet H a y (some v) ∧ Q v H
theorem ix_dict {X : Cx} (hu : X.A.units + 64 < cLine) : IxR X (fun x y H Q => ∃ a v, x = .ref a ∧ DGet H a y (some v) ∧ Q v H) := by
  intro value slice pins s σ H x y v u Q J rx ry h hs
  obtain ⟨a, w, rfl, g, q⟩ := h
  cases rx
  exact PyProof.Rows.tail_any (dict_typeIs J g) PySem.F.slot_dict_getitem.lookup (d_getItem (by omega) J g ry fun w' s3 J3 rw' => ⟨w, H, J3, rw', q⟩) hs
theorem ix_all {X : Cx} (hu : X.A.units + 64 < cLine) : IxR X (rIxG X.K) := ix_seq.or (ix_dict hu)
theorem Reps.atI {K : PySem.W.Frag} {I : Hp} {vs : List V} {ds : List D} {i : Int} {d : D} (r : Reps K I vs ds) (h : atI ds i = some d) : ∃ v, L2.atI vs i = some v ∧ Rep K I v d := by
  unfold L2.atI at h ⊢
  rw [r.length]
  cases e : ixN ds.length i with
  | none => rw [e] at h; cases h
  | some j =>
    rw [e] at h
    obtain ⟨v, h1, h2⟩ := r.get (show ds[j]? = some d from h)
    exact ⟨v, h1, h2⟩
section
variable {F : Fx} {X : Cx} {K : PySem.W.Frag} {I H : Hp} {a b e : Expr} {ta tb te : DT} {pos p2 : Pos}
theorem lf_ix : LiftR F K (rIxG K) ixD := by
  intro x y dx dy I H Q st rx ry h
  cases dx with
  | dic kvs =>
    obtain ⟨k, d, rfl, e, q⟩ := h
    cases rx with
    | @dic p ws _ a kk r =>
      rcases lookD_rep (k := k) kk r with ⟨_, z⟩ | ⟨v, d', h1, h2, h3⟩
      · rw [e] at z; cases z
      · rw [e] at h2
        cases h2
        refine .inr ⟨p, v, rfl, .inl ⟨ws, k, .of (st.sub _ _ a), keyD_rep ry, h1.symm⟩, q _ I H st.stp h3⟩
  | dfz kvs =>
    obtain ⟨k, d, rfl, e, q⟩ := h
    cases rx with
    | @dfz p _ ws _ a kk r =>
      rcases lookD_rep (k := k) kk r with ⟨_, z⟩ | ⟨v, d', h1, h2, h3⟩
      · rw [e] at z; cases z
      · rw [e] at h2
        cases h2
        refine .inr ⟨p, v, rfl, .inl ⟨ws, k, .inr ⟨_, st.sub _ _ a⟩, keyD_rep ry, h1.symm⟩, q _ I H st.stp h3⟩
  | str z =>
    cases dy <;> first | exact h.elim | skip
    cases rx; cases ry
    obtain ⟨l, c, e, q⟩ := h
    exact .inl (.inr (.inr ⟨_, _, c, rfl, rfl, l, e, q _ I H st.stp (.str _)⟩))
  | tup xs =>
    cases dy <;> first | exact h.elim | skip
    cases ry
    cases rx with
    | tup a r =>
      obtain ⟨d, e, q⟩ := h
      obtain ⟨v, h1, h2⟩ := r.atI e
      exact .inl (.inr (.inl ⟨_, _, _, v, rfl, rfl, Same.seqT st.sub a, h1, q _ I H st.stp h2⟩))
  | lst xs =>
    cases dy <;> first | exact h.elim | skip
    cases ry
    cases rx with
    | lst a r =>
      obtain ⟨d, e, q⟩ := h
      obtain ⟨v, h1, h2⟩ := r.atI e
      exact .inl (.inl ⟨_, _, _, v, rfl, rfl, .of (st.sub _ _ a), h1, q _ I H st.stp h2⟩)
  | _ => cases dy <;> exact h.elim
theorem de_at (hu : X.A.units + 64 < cLine) (ha : DE F X a ta) (hb : DE F X b tb) (hs : PlainIx b := by exact fun _ _ => rfl) : DE F X (.Subscript a b pos) (fun ρ Q => ta ρ fun x => tb ρ fun y => ixD x y Q) := de_ix mono_ix (ix_all hu) lf_ix ha hb hs
/-- parts of a slice -/
abbrev DOT := DEnv → (Option Int → Prop) → Prop
def rdO (F : Fx) (K : PySem.W.Frag) (t : DOT) : TO := fun σ H Q => ∃ I ρ, At F K I ρ σ H ∧ t ρ fun o => ∀ I' H', Stp F.W I H I' H' → Q o H'
structure DO (F : Fx) (X : Cx) (e : Option Expr) (t : DOT) : Prop where
  mono : ∀ ρ (Q Q' : Option Int → Prop), (∀ d, Q d → Q' d) → t ρ Q → t ρ Q'
  run : PO X e (rdO F X.K t)
theorem _root_.L2.PO.imp {e : Option Expr} {t u : TO} (h : PO X e t) (i : ∀ σ H Q, u σ H Q → t σ H Q) : PO X e u := ⟨fun pins s σ H Q J q => h.run pins s σ H Q J (i σ H Q q)⟩
theorem do_none : DO F X none (fun _ Q => Q none) := ⟨fun _ _ _ k q => k _ q, po_none.imp fun σ H Q ⟨I, ρ, A, q⟩ => q I H A.st.stp⟩
def intD (d : D) (Q : Int → Prop) : Prop := ∃ i, d = .int i ∧ Q i
theorem do_some (h : DE F X e te) : DO F X (some e) (fun ρ Q => te ρ fun d => intD d fun i => Q (some i)) := by
  refine ⟨fun _ _ _ k q => h.mono _ _ _ (fun d ⟨i, e, q⟩ => ⟨i, e, k _ q⟩) q, (po_some h.run).imp fun σ H Q ⟨I, ρ, A, q⟩ => rdE_next h.mono A q fun d v I' H' p s rv => ?_⟩
  obtain ⟨i, rfl, p⟩ := p
  cases rv
  exact ⟨i, rfl, p I' H' s⟩
def cutD (xs : List D) (lo hi : Option Int) : List D := (xs.drop (HT.sIx xs.length 0 lo)).take (HT.sIx xs.length xs.length hi - HT.sIx xs.length 0 lo)
def sliceD : D → Option Int → Option Int → (D → Prop) → Prop
  | .lst xs, lo, hi, Q => Q (.lst (cutD xs lo hi))
  | .tup xs, lo, hi, Q => Q (.tup (cutD xs lo hi))
  | .str z, lo, hi, Q => z.length ≤ sizeLine ∧ Q (.str (cutS z lo hi))
  | _, _, _, _ => False
theorem sliceD.mono {d : D} {lo hi : Option Int} {Q Q' : D → Prop} (k : ∀ d, Q d → Q' d) (h : sliceD d lo hi Q) : sliceD d lo hi Q' := by
  cases d <;> first | exact h.elim | exact k _ h | exact ⟨h.1, k _ h.2⟩
theorem de_slice {lo hi : Option Expr} {tl th : DOT} (he : DE F X e te) (hl : DO F X lo tl) (hh : DO F X hi th) : DE F X (.Subscript e (.Slice lo hi none p2) pos) (fun ρ Q => te ρ fun d => tl ρ fun l => th ρ fun u => sliceD d l u Q) := by
  refine ⟨fun ρ Q Q' k q => he.mono _ _ _ (fun d q => hl.mono _ _ _ (fun l q => hh.mono _ _ _ (fun u => sliceD.mono k) q) q) q, (pe_slice (sl_list.or (sl_tupA.or sl_str)) he.run hl.run hh.run).imp fun σ H Q ⟨I, ρ, A, q⟩ => rdE_next he.mono A q fun d v I1 H1 q1 s1 rv => ?_⟩
  refine ⟨I1, ρ, A.step s1, hl.mono _ _ _ (fun l q2 I2 H2 s2 => ?_) q1⟩
  refine ⟨I2, ρ, (A.step s1).step s2, hh.mono _ _ _ (fun u q3 I3 H3 s3 => ?_) q2⟩
  have s := (s1.trans s2).trans s3
  have rv := rv.mono (Same.trans s2.i s3.i)
  cases rv with
  | @lst q zs es a r =>
    refine .inl ⟨_, _, rfl, .of (s3.st.sub _ _ a), fun p hp => ?_⟩
    have l' := s3.st.laid hp (.lst (cutV zs l u))
    exact q3 _ _ _ (s.trans l') (.lst upd_same ((r.cut l u).mono l'.i))
  | @tup q zs es a r =>
    refine .inr (.inl ⟨_, _, rfl, Same.seqT s3.st.sub a, fun hw => ?_, fun hw p hp => ?_⟩)
    · have e : cutD es l u = es := by
        unfold cutD
        rw [← r.length, hw.1, hw.2, Nat.sub_zero, List.drop_zero, r.length, List.take_length]
      have q3 : fin F X.K I H Q (.tup (cutD es l u)) := q3
      rw [e] at q3
      exact q3 _ _ _ s (.tup a r)
    · have l' := s3.st.laid hp (.tup (cutV zs l u))
      exact q3 _ _ _ (s.trans l') (.tup (.of upd_same) ((r.cut l u).mono l'.i))
  | str z => exact .inr (.inr ⟨_, rfl, q3.1, q3.2 _ _ _ s (.str _)⟩)
  | non => exact q3.elim
  | bl _ => exact q3.elim
  | int _ => exact q3.elim
  | dic _ _ _ => exact q3.elim
  | obj _ _ _ => exact q3.elim
  | opq _ => exact q3.elim
  | dfz _ _ _ => exact q3.elim
  | ptp _ _ _ => exact q3.elim
end
def lenD : List D → (D → Prop) → Prop
  | [.lst xs], Q => Q (.int xs.length)
  | [.tup xs], Q => Q (.int xs.length)
  | [.str z], Q => z.length ≤ sizeLine ∧ Q (.int z.length)
  | _, _ => False
def allD : List D → (D → Prop) → Prop
  | [.lst xs], Q => ∃ ns : List Bool, xs = ns.map D.bl ∧ Q (.bl (ns.all id))
  | _, _ => False
def anyD : List D → (D → Prop) → Prop
  | [.lst xs], Q => ∃ ns : List Bool, xs = ns.map D.bl ∧ Q (.bl (ns.any id))
  | _, _ => False
def listD : List D → (D → Prop) → Prop
  | [.lst xs], Q => Q (.lst xs)
  | [.tup xs], Q => Q (.lst xs)
  | _, _ => False
def tupleD : List D → (D → Prop) → Prop
  | [.lst xs], Q => Q (.tup xs)
  | [.tup xs], Q => Q (.tup xs)
  | _, _ => False
section
variable {F : Fx} {X : Cx} {K : PySem.W.Frag}
theorem Reps.one {I : Hp} {vs : List V} {d : D} (h : Reps K I vs [d]) : ∃ v, vs = [v] ∧ Rep K I v d := by
  cases h with
  | cons a b => cases b; exact ⟨_, rfl, a⟩
theorem Reps.two {I : Hp} {vs : List V} {d e : D} (h : Reps K I vs [d, e]) : ∃ v w, vs = [v, w] ∧ Rep K I v d ∧ Rep K I w e := by
  cases h with
  | cons a b =>
    obtain ⟨w, rfl, r⟩ := b.one
    exact ⟨_, _, rfl, a, r⟩
theorem mono_lenD : MonoN lenD := by
  intro ds Q Q' k h
  unfold lenD at h ⊢
  split at h <;> first | exact h.elim | exact k _ h | exact ⟨h.1, k _ h.2⟩ | (obtain ⟨n, e, q⟩ := h; exact ⟨n, e, k _ q⟩) | (obtain ⟨n, e, l, q⟩ := h; exact ⟨n, e, l, k _ q⟩)
theorem mono_allD : MonoN allD := by
  intro ds Q Q' k h
  unfold allD at h ⊢
  split at h <;> first | exact h.elim | exact k _ h | exact ⟨h.1, k _ h.2⟩ | (obtain ⟨n, e, q⟩ := h; exact ⟨n, e, k _ q⟩) | (obtain ⟨n, e, l, q⟩ := h; exact ⟨n, e, l, k _ q⟩)
theorem mono_anyD : MonoN anyD := by
  intro ds Q Q' k h
  unfold anyD at h ⊢
  split at h <;> first | exact h.elim | exact k _ h | exact ⟨h.1, k _ h.2⟩ | (obtain ⟨n, e, q⟩ := h; exact ⟨n, e, k _ q⟩) | (obtain ⟨n, e, l, q⟩ := h; exact ⟨n, e, l, k _ q⟩)
theorem mono_tupleD : MonoN tupleD := by
  intro ds Q Q' k h
  unfold tupleD at h ⊢
  split at h <;> first | exact h.elim | exact k _ h | exact ⟨h.1, k _ h.2⟩ | (obtain ⟨n, e, q⟩ := h; exact ⟨n, e, k _ q⟩) | (obtain ⟨n, e, l, q⟩ := h; exact ⟨n, e, l, k _ q⟩)
theorem lc_len : LiftC F K (fun xs H Q => ∃ x n, xs = [x] ∧ LenV K x H n ∧ Q (.int n) H) lenD := by
  intro vs ds I H Q st rs h
  unfold lenD at h
  split at h
  · obtain ⟨v, rfl, r⟩ := rs.one
    cases r with
    | lst a r => exact ⟨_, _, rfl, .inl ⟨_, .of (st.sub _ _ a), r.length.symm⟩, h _ I H st.stp (.int _)⟩
  · obtain ⟨v, rfl, r⟩ := rs.one
    cases r with
    | tup a r => exact ⟨_, _, rfl, .inr ⟨_, Same.seqT st.sub a, r.length.symm⟩, h _ I H st.stp (.int _)⟩
  · obtain ⟨v, rfl, r⟩ := rs.one
    cases r
    exact ⟨_, _, rfl, ⟨h.1, rfl⟩, h.2 _ I H st.stp (.int _)⟩
  · exact h.elim
theorem lc_all : LiftC F K (rAll K) allD := by
  intro vs ds I H Q st rs h
  unfold allD at h
  split at h
  · obtain ⟨v, rfl, r⟩ := rs.one
    obtain ⟨ns, rfl, q⟩ := h
    cases r with
    | lst a r => exact ⟨_, ns, rfl, r.blsV ▸ .of (st.sub _ _ a), q _ I H st.stp (.bl _)⟩
  · exact h.elim
theorem lc_any : LiftC F K (rAny K) anyD := by
  intro vs ds I H Q st rs h
  unfold anyD at h
  split at h
  · obtain ⟨v, rfl, r⟩ := rs.one
    obtain ⟨ns, rfl, q⟩ := h
    cases r with
    | lst a r => exact ⟨_, ns, rfl, r.blsV ▸ .of (st.sub _ _ a), q _ I H st.stp (.bl _)⟩
  · exact h.elim
theorem lc_list : LiftC F K (fun xs H Q => ∃ p ys, xs = [.ref p] ∧ (SqL K H p ys ∨ SqT K H p ys) ∧ ∀ l, H l = none → Q (.ref l) (upd H l (.lst ys))) listD := by
  intro vs ds I H Q st rs h
  unfold listD at h
  split at h
  · obtain ⟨v, rfl, r⟩ := rs.one
    cases r with
    | @lst q zs es a r =>
      refine ⟨_, _, rfl, .inl (.of (st.sub _ _ a)), fun p hp => ?_⟩
      have l := st.laid hp (.lst zs)
      exact h _ _ _ l (.lst upd_same (r.mono l.i))
  · obtain ⟨v, rfl, r⟩ := rs.one
    cases r with
    | @tup q zs es a r =>
      refine ⟨_, _, rfl, .inr (Same.seqT st.sub a), fun p hp => ?_⟩
      have l := st.laid hp (.lst zs)
      exact h _ _ _ l (.lst upd_same (r.mono l.i))
  · exact h.elim
theorem lc_tuple : LiftC F K (fun xs H Q => ∃ p ys, xs = [.ref p] ∧ ((SqL K H p ys ∧ ∀ l, H l = none → Q (.ref l) (upd H l (.tup ys))) ∨ (SqT K H p ys ∧ Q (.ref p) H))) tupleD := by
  intro vs ds I H Q st rs h
  unfold tupleD at h
  split at h
  · obtain ⟨v, rfl, r⟩ := rs.one
    cases r with
    | @lst q zs es a r =>
      refine ⟨_, _, rfl, .inl ⟨.of (st.sub _ _ a), fun p hp => ?_⟩⟩
      have l := st.laid hp (.tup zs)
      exact h _ _ _ l (.tup (.of upd_same) (r.mono l.i))
  · obtain ⟨v, rfl, r⟩ := rs.one
    cases r with
    | tup a r => exact ⟨_, _, rfl, .inr ⟨Same.seqT st.sub a, h _ _ _ st.stp (.tup a r)⟩⟩
  · exact h.elim
variable {p pos : Pos} {e e2 : Expr} {es : List Expr} {t : DAT} {te : DT}
theorem de_len (hm : X.mg "len" = none) (ha : DA F X [e] t) (hg : Gl X "len" := by rfl) (he : starEach [e] X.env = (false, eval e X.env) :: starEach [] X.env := by rfl) : DE F X (.Call (.Name "len" p) [e] [] pos) (fun ρ Q => t ρ fun ds => lenD ds Q) := de_callB mono_lenD lc_len call_len hm PySem.boot_len ha hg (by decide) (by decide) he rfl
theorem de_all (hc : X.calm = true) (hm : X.mg "all" = none) (ha : DA F X [e] t) (hg : Gl X "all" := by rfl) (he : starEach [e] X.env = (false, eval e X.env) :: starEach [] X.env := by rfl) : DE F X (.Call (.Name "all" p) [e] [] pos) (fun ρ Q => t ρ fun ds => allD ds Q) := de_callB mono_allD lc_all (cr_all hc) hm (by decide +kernel) ha hg (by decide) (by decide) he rfl
theorem de_any (hc : X.calm = true) (hm : X.mg "any" = none) (ha : DA F X [e] t) (hg : Gl X "any" := by rfl) (he : starEach [e] X.env = (false, eval e X.env) :: starEach [] X.env := by rfl) : DE F X (.Call (.Name "any" p) [e] [] pos) (fun ρ Q => t ρ fun ds => anyD ds Q) := de_callB mono_anyD lc_any (cr_any hc) hm (by decide +kernel) ha hg (by decide) (by decide) he rfl
theorem de_tuple (hm : X.mg "tuple" = none) (ha : DA F X [e] t) (hg : Gl X "tuple" := by rfl) (he : starEach [e] X.env = (false, eval e X.env) :: starEach [] X.env := by rfl) : DE F X (.Call (.Name "tuple" p) [e] [] pos) (fun ρ Q => t ρ fun ds => tupleD ds Q) := de_callT mono_tupleD lc_tuple call_tuple_of hm (by decide +kernel) ha hg (by decide) (by decide) he rfl
end
end Dk
namespace Dk
open PySem L2
section
variable {F : Fx} {X : Cx} {K : PySem.W.Frag} {I H I' H' : Hp} {ρ : DEnv} {σ : St} {e : Expr} {es : List Expr} {te : DT} {ta : DAT} {t : DTS} {sts : List Stmt} {pos : Pos}
theorem At.newOwn (a : At F K I ρ σ H) {i : Nat} {p : Addr} {en : Ent} {o : HO} (hp : H p = none) (r : OwnRep K I en o) (ad : ∀ q, en.adr = some q → p = q := by intro _ h; cases h) : At F K I (ρ.set i (some en)) (σ.set i (some (.ref p))) (upd H p o) := by
  have hm : ¬ F.W.mv p := fun m => F.W.live a.st.inv m hp
  have hI := a.st.free hp
  have hB : F.B p = none := by
    cases z : F.B p with
    | none => rfl
    | some u => have := a.stp.h _ _ z hm; rw [hp] at this; cases this
  have ap := a.apart hp
  have w := a.write o hI hm hB ap
  refine ⟨w.stp, by simp [a.len], fun j e h => ?_, fun j l e e' v hjl h1 h2 o1 o2 hv => ?_⟩
  · rcases set_at h with ⟨rfl, q⟩ | ⟨hij, q⟩
    · cases q
      have hi : i < ρ.length := by simpa using (List.getElem?_eq_some_iff.mp h).1
      exact ⟨.ref p, by rw [List.getElem?_set]; simp [← a.len, hi], .inr ⟨p, o, rfl, upd_same, r, hI, hm, hB, ad⟩⟩
    · obtain ⟨v, h1, h2⟩ := w.env j e q
      exact ⟨v, by rw [List.getElem?_set_ne hij]; exact h1, h2⟩
  · rcases set_at h1 with ⟨rfl, q⟩ | ⟨hij, q⟩
    · cases q
      have hi : i < ρ.length := by simpa using (List.getElem?_eq_some_iff.mp h1).1
      have hv' : v = .ref p := by
        rw [List.getElem?_set] at hv
        simp [← a.len, hi] at hv
        exact hv.symm
      subst hv'
      rcases set_at h2 with ⟨rfl, q'⟩ | ⟨hil, q'⟩
      · exact absurd rfl hjl
      · rw [List.getElem?_set_ne hil]
        exact ap l e' q' o2
    · rcases set_at h2 with ⟨rfl, q'⟩ | ⟨hil, q'⟩
      · cases q'
        rw [List.getElem?_set_ne hij] at hv
        intro z
        have hi : i < ρ.length := by simpa using (List.getElem?_eq_some_iff.mp h2).1
        rw [List.getElem?_set] at z
        simp [← a.len, hi] at z
        subst z
        exact ap j e q o1 hv
      · rw [List.getElem?_set_ne hij] at hv
        rw [List.getElem?_set_ne hil]
        exact a.dis j l e e' v hjl q q' o1 o2 hv
theorem OwnAt.other {e : Ent} {p q : Addr} {o u : HO} (h : OwnAt F K I H e p o) (n : p ≠ q) : OwnAt F K I (upd H q u) e p o := ⟨by rw [upd_ne n]; exact h.hp, h.rep, h.ni, h.nm, h.nb, h.ad⟩
/-- .. turned -/
theorem At.turnOwn (a : At F K I ρ σ H) {i : Nat} {en : Ent} (h : ρ[i]? = some (some en)) (ho : en.isOwn) : ∃ p o, σ[i]? = some (some (.ref p)) ∧ OwnAt F K I H en p o ∧ ∀ en' o', OwnRep K I en' o' → (∀ q, en'.adr = some q → p = q) → At F K I (ρ.set i (some en')) σ (upd H p o') := by
  obtain ⟨v, h1, h2⟩ := a.env i _ h
  obtain ⟨p, o, rfl, w⟩ := h2.own ho
  refine ⟨p, o, h1, w, fun en' o' rw' ad => ?_⟩
  refine ⟨⟨a.stp.i, ⟨fun c u e => ?_, a.st.imm, F.W.frame (.refl _) (fun c hm => upd_ne fun z => w.nm (z ▸ hm)) a.st.inv⟩, fun c u e hm => ?_, a.stp.new⟩, by simp [a.len], fun j e hj => ?_, fun j l e e' v hjl h3 h4 o1 o2 hv => ?_⟩
  · rw [upd_ne (ne_of_none e w.ni)]; exact a.st.sub _ _ e
  · rw [upd_ne (ne_of_none e w.nb)]; exact a.stp.h _ _ e hm
  · rcases set_at hj with ⟨rfl, q⟩ | ⟨hij, q⟩
    · cases q
      exact ⟨.ref p, h1, .inr ⟨p, o', rfl, upd_same, rw', w.ni, w.nm, w.nb, ad⟩⟩
    · obtain ⟨u, h3, h4⟩ := a.env j e q
      refine ⟨u, h3, ?_⟩
      rcases h4 with ⟨d, rfl, r⟩ | ⟨p', o2, rfl, w'⟩
      · exact .inl ⟨d, rfl, r⟩
      · exact .inr ⟨p', o2, rfl, w'.other fun z => by subst z; exact a.dis i j _ _ _ hij h q ho w'.rep.isOwn h1 h3⟩
  · have back : ∀ (k : Nat) (f : Ent), (ρ.set i (some en'))[k]? = some (some f) → f.isOwn → ∃ f', ρ[k]? = some (some f') ∧ f'.isOwn := fun k f hk hf => by
      rcases set_at hk with ⟨rfl, _⟩ | ⟨_, q⟩
      · exact ⟨_, h, ho⟩
      · exact ⟨f, q, hf⟩
    obtain ⟨f, q1, p1⟩ := back j e h3 o1
    obtain ⟨f', q2, p2⟩ := back l e' h4 o2
    exact a.dis j l f f' v hjl q1 q2 p1 p2 hv
/-- .. it stands still from now on -/
theorem At.freeze (a : At F K I ρ σ H) {i : Nat} {en : Ent} (h : ρ[i]? = some (some en)) (ho : en.isOwn) : ∃ p o, σ[i]? = some (some (.ref p)) ∧ OwnAt F K I H en p o ∧ Same I (upd I p o) ∧ At F K (upd I p o) (ρ.set i (some (.dat en.toD))) σ H := by
  obtain ⟨v, h1, h2⟩ := a.env i _ h
  obtain ⟨p, o, rfl, w⟩ := h2.own ho
  have s : Same I (upd I p o) := Same.laid w.ni
  refine ⟨p, o, h1, w, s, a.stp.freeze w.ni w.nm w.nb w.hp, by simp [a.len], fun j e hj => ?_, fun j l e e' v hjl h3 h4 o1 o2 hv => ?_⟩
  · rcases set_at hj with ⟨rfl, q⟩ | ⟨hij, q⟩
    · cases q
      exact ⟨.ref p, h1, .inl ⟨_, rfl, (w.rep.mono s).rep upd_same w.ad⟩⟩
    · obtain ⟨u, h3, h4⟩ := a.env j e q
      refine ⟨u, h3, ?_⟩
      rcases h4 with ⟨d, rfl, r⟩ | ⟨p', o2, rfl, w'⟩
      · exact .inl ⟨d, rfl, r.mono s⟩
      · exact .inr ⟨p', o2, rfl, w'.hp, w'.rep.mono s, by rw [upd_ne fun z => by subst z; exact a.dis i j _ _ _ hij h q ho w'.rep.isOwn h1 h3]; exact w'.ni, w'.nm, w'.nb, w'.ad⟩
  · have back : ∀ (k : Nat) (f : Ent), (ρ.set i (some (.dat en.toD)))[k]? = some (some f) → f.isOwn → ρ[k]? = some (some f) := fun k f hk hf => by
      rcases set_at hk with ⟨rfl, q⟩ | ⟨_, q⟩
      · cases q; exact hf.elim
      · exact q
    exact a.dis j l e e' v hjl (back j e h3 o1) (back l e' h4 o2) o1 o2 hv
/-- x = [..], to grow -/
theorem ds_own {x : Str} {pos' p2 : Pos} (i : Nat) (ha : DA F X es ta) (hN : X.N.Nodup) (hi : X.N[i]? = some x := by rfl) (hx : Loc X.env.scope x := by first | exact Or.inl rfl | exact Or.inr rfl) (hs : swapsWith (.List es p2) (some (.Name x pos')) pos.line X.env = pure false := by rfl)
    (hf : X.fn x = true ∨ X.env.scope.names.lookup x = some .local := by first | exact .inl rfl | exact .inr rfl | assumption) : DSt F X (.Assign [.Name x pos'] (.List es p2) pos) (fun Z ρ => ta ρ fun ds => ds.length ≤ sizeLine ∧ Z.nx (ρ.set i (some (.own ds)))) := by
  refine ⟨fun Z Z' ρ l q => ha.mono _ _ _ (fun d q => ⟨q.1, l.nx _ q.2⟩) q, (ps_set hN hi hx (pe_lst ha.run) hs hf).imp fun Z σ H ⟨I, ρ, A, q⟩ => rdA_next ha.mono A q fun ds vs I' H' p s rs => ⟨rs.length ▸ p.1, fun a hz => ?_⟩⟩
  exact p.2 I' _ _ s.i ((A.step s).newOwn hz ⟨_, rfl, rs⟩)
/-- x.append(e) -/
theorem ds_append {x : Str} {p1 p2 p3 : Pos} (i : Nat) (he : DE F X e te) (hN : X.N[i]? = some x := by rfl) (hv : Vis X.env.scope x := by first | exact Or.inl rfl | exact Or.inr (Or.inl rfl) | exact Or.inr (Or.inr rfl)) (hd : (x == ("__debug__" : Str)) = false := by decide)
    (hcd : (x == ("__classdict__" : Str)) = false := by decide) (hsw : swapsWith (.Call (.Attribute (.Name x p1) "append" p2) [e] [] p3) none pos.line X.env = pure false := by rfl) (hbase : attributeBase (.Name x p1) "append" X.env (eval (.Name x p1) X.env) = eval (.Name x p1) X.env := by rfl)
    (hfew : ((backTo p3 (starEach [e] X.env)).all (fun x => !x.1) && (backToKw p3 (keywordEach [] X.env)).all (fun x => x.1.isSome) && decide ([e].length + ([] : List Keyword).length + (if ([] : List Keyword).isEmpty then 0 else 1) < 30)) = true := by rfl)
    (hline : (p2.endLine == p3.line) = true := by rfl) (hst : starEach [e] X.env = (false, eval e X.env) :: starEach [] X.env := by rfl) (hpl : (backTo p3 (starEach [] X.env)).any (·.1) = false := by rfl) :
    DSt F X (.Expr (.Call (.Attribute (.Name x p1) "append" p2) [e] [] p3) pos) (fun Z ρ => ∃ xs, ρ[i]? = some (some (.own xs)) ∧ te ρ fun d => xs.length < sizeLine ∧ Z.nx (ρ.set i (some (.own (xs ++ [d]))))) := by
  refine ⟨fun Z Z' ρ l ⟨xs, h, q⟩ => ⟨xs, h, he.mono _ _ _ (fun d q => ⟨q.1, l.nx _ q.2⟩) q⟩,
    (ps_expr (pe_bm PySem.F.plainAttrs_list PySem.F.slot_list_append PySem.F.type_list_append mt_append (pv i hN hv hd hcd) (pa_cons he.run pa_nil hst) hbase hfew hline hst hpl) hsw).imp fun Z σ H ⟨I, ρ, A, q⟩ => ?_⟩
  obtain ⟨xs, hx, q⟩ := q
  obtain ⟨p, o, h1, w, _⟩ := A.turnOwn hx trivial
  obtain ⟨vs, rfl, _⟩ := w.rep
  refine ⟨_, h1, .inl ⟨rfl, vs, .of w.hp⟩, rdE_next he.mono A q fun d v I' H' q' s rv => ?_⟩
  have A' := A.step s
  obtain ⟨p', o', h1', w', turn⟩ := A'.turnOwn hx trivial
  obtain ⟨ws, rfl, r⟩ := w'.rep
  rw [h1] at h1'
  cases h1'
  exact ⟨p, ws, v, rfl, rfl, w'.hp, by rw [r.length]; exact q'.1, q'.2 I' σ _ s.i (turn _ _ ⟨_, rfl, r.append (.cons rv .nil)⟩ (by intro _ h; cases h))⟩
/-- what a slot holds, own or not -/
def ownOf (ρ : DEnv) (i : Nat) (Q : Ent → Prop) : Prop := ∃ en, ρ[i]? = some (some en) ∧ en.isOwn ∧ Q en
/-- from here on x only stands -/
theorem dss_freeze (i : Nat) (h : DSts F X sts t) : DSts F X sts (fun Z ρ => ownOf ρ i fun en => t Z (ρ.set i (some (.dat en.toD)))) := by
  refine ⟨fun Z Z' ρ l ⟨xs, e, o, q⟩ => ⟨xs, e, o, h.mono _ _ _ l q⟩, h.run.imp fun Z σ H ⟨I, ρ, A, en, e, o, q⟩ => ?_⟩
  obtain ⟨p, vs, _, _, s, A'⟩ := A.freeze e o
  exact ⟨_, _, A', h.mono _ _ _ (ends.le s) q⟩
theorem OwnRep.noext {K : PySem.W.Frag} {I : Hp} {e : Ent} {o : HO} (h : OwnRep K I e o) : ∀ φ, o ≠ .ext φ := by
  intro φ z
  subst z
  cases e with
  | dat _ => exact h
  | own _ => exact nomatch h.choose_spec.1
  | ownD _ => exact nomatch h.choose_spec.1
  | ownO _ _ _ => exact nomatch h.choose_spec.choose_spec.1
  | ownQ _ _ => exact nomatch h.choose_spec.1
  | ownF _ _ => exact nomatch h.choose_spec.choose_spec.1
  | ownL _ _ => exact nomatch h.choose_spec.1
  | ownT _ _ => exact nomatch h.choose_spec.1
theorem lend_step {p : Addr} {o : HO} (n : I p = none) (hp : H p = some o) (hx : ∀ φ, o ≠ .ext φ) (s2 : Stp F.W (upd I p o) H I' H') : Stp F.W I H (fun b => if b = p then none else I' b) H' := by
  have np : ∀ b u, I b = some u → b ≠ p := fun b u e => ne_of_none e n
  have s := Same.laid (o := o) n
  refine ⟨fun c u e => ?_, ⟨fun c u e => ?_, fun c u e => ?_, F.W.frame (fun c φ e => ?_) (fun _ _ => rfl) s2.st.inv⟩, s2.h, fun c u e z => ?_⟩
  · rw [if_neg (np c u e)]; exact s2.i _ _ (s _ _ e)
  · split at e
    · cases e
    · exact s2.st.sub _ _ e
  · split at e
    · cases e
    · exact s2.st.imm _ _ e
  · rw [if_neg fun z => hx φ (by rw [z, s2.i p o upd_same] at e; exact Option.some.inj e)]; exact e
  · by_cases hc : c = p
    · rw [if_pos hc]
    · rw [if_neg hc]; exact s2.new _ _ e (by rw [upd_ne hc]; exact z)
/-- x is read in an expression whose value holds nothing of it -/
theorem de_lend (i : Nat) (h : DE F X e te) : DE F X e (fun ρ Q => ownOf ρ i fun en => te (ρ.set i (some (.dat en.toD))) fun d => scalD d = true ∧ Q d) := by
  refine ⟨fun ρ Q Q' k ⟨xs, e, o, q⟩ => ⟨xs, e, o, h.mono _ _ _ (fun d q => ⟨q.1, k _ q.2⟩) q⟩, h.run.imp fun σ H Q ⟨I, ρ, A, en, e, o, q⟩ => ?_⟩
  obtain ⟨p, u, _, w, s, A'⟩ := A.freeze e o
  refine ⟨_, _, A', h.mono _ _ _ (fun d ⟨sc, q⟩ v I2 H2 s2 rv => q v _ H2 (lend_step w.ni w.hp w.rep.noext s2) ?_) q⟩
  cases rv <;> first | (cases sc; done) | constructor
theorem dt_lend (i : Nat) {tc : DB} (h : DTest F X e tc) : DTest F X e (fun ρ Q => ownOf ρ i fun en => tc (ρ.set i (some (.dat en.toD))) Q) := by
  refine ⟨fun ρ Q Q' k ⟨xs, e, o, q⟩ => ⟨xs, e, o, h.mono _ _ _ k q⟩, h.run.imp fun σ H Q ⟨I, ρ, A, en, e, o, q⟩ => ?_⟩
  obtain ⟨p, u, _, w, s, A'⟩ := A.freeze e o
  exact ⟨_, _, A', h.mono _ _ _ (fun d q I2 H2 s2 => q _ H2 (lend_step w.ni w.hp w.rep.noext s2)) q⟩
end
def tyN : D → Option String
  | .non => some "NoneType"
  | .bl _ => some "bool"
  | .int _ => some "int"
  | .str _ => some "str"
  | .tup _ => some "tuple"
  | .lst _ => some "list"
  | .dic _ => some "dict"
  | .dfz _ => some "dict"
  | _ => none
def isTup : D → Bool | .tup _ => true | _ => false
def isStr : D → Bool | .str _ => true | _ => false
/-- a built-in kind of value -/
def known (d : D) : Bool := (tyN d).isSome
structure IsT (T : String) (p : D → Bool) : Prop where
  k : ∀ d t, tyN d = some t → kitB t T = some (p d)
theorem is_tup : IsT "tuple" isTup := ⟨fun d t h => by cases d <;> first | (cases h; done) | (cases h; exact (show kitB _ _ = some true by decide +kernel)) | (cases h; exact (show kitB _ _ = some false by decide +kernel))⟩
theorem is_str : IsT "str" isStr := ⟨fun d t h => by cases d <;> first | (cases h; done) | (cases h; exact (show kitB _ _ = some true by decide +kernel)) | (cases h; exact (show kitB _ _ = some false by decide +kernel))⟩
section
variable {F : Fx} {X : Cx} {K : PySem.W.Frag} {I H : Hp} {e : Expr} {te : DT} {T : String} {p : D → Bool} {x : Str} {q1 q2 pos : Pos}
theorem Rep.ty {v : V} {d : D} {t : String} (s : Same I H) (r : Rep K I v d) (h : tyN d = some t) : TyX K H v (.type t) := by
  cases r with
  | non => cases h; exact .base .non
  | bl b => cases h; exact .base (.bl b)
  | int b => cases h; exact .base (.int b)
  | str b => cases h; exact .base (.str b)
  | tup a r =>
    cases h
    rcases Same.seqT s a with (a | ⟨o, a⟩) | ⟨o, its, n, a, c, _⟩
    · exact .base (.tup a)
    · exact .fTuple a
    · exact .kTuple a c
  | lst a r => cases h; exact .base (.lst (s _ _ a))
  | dic a _ r => cases h; exact .base (.dK (s _ _ a))
  | obj _ _ _ => cases h
  | opq _ => cases h
  | dfz a _ r => cases h; exact .fDict (s _ _ a)
  | ptp _ _ _ => cases h
theorem de_isi (hT : IsT T p) (hm : X.mg "isinstance" = none) (hx : X.mg x = none) (hv : bootBuiltins x = some (.type T)) (he : DE F X e te) (hg : Gl X "isinstance" := by rfl) (hgx : Gl X x := by rfl) (hn : x ≠ "__name__" := by decide) (hdb : (x == ("__debug__" : Str)) = false := by decide)
    (h1 : starEach [e, .Name x q2] X.env = (false, eval e X.env) :: starEach [.Name x q2] X.env := by rfl) (h2 : starEach [Expr.Name x q2] X.env = (false, eval (.Name x q2) X.env) :: starEach [] X.env := by rfl) (hpl : (backTo pos (starEach [Expr.Name x q2] X.env)).any (·.1) = false := by rfl) :
    DE F X (.Call (.Name "isinstance" q1) [e, .Name x q2] [] pos) (fun ρ Q => te ρ fun d => known d = true ∧ Q (.bl (p d))) := by
  refine ⟨fun ρ Q Q' k q => he.mono _ _ _ (fun d q => ⟨q.1, k _ q.2⟩) q, (pe_callB call_isi hg hm (by decide +kernel) (pa_cons he.run (pa_cons (pe_bltn (v := .ty T) hgx hx hv rfl hn hdb) pa_nil h2) h1) (by decide) (by decide) h1 hpl).imp fun σ H Q ⟨I, ρ, A, q⟩ => ?_⟩
  refine rdE_next he.mono A q fun d v I' H' q' s rv => ?_
  obtain ⟨kn, q'⟩ := q'
  unfold known at kn
  obtain ⟨t, ht⟩ := Option.isSome_iff_exists.mp kn
  exact ⟨v, .ty T, .type t, .type T, p d, rfl, .ty T, rv.ty s.st.sub ht, kit_ty (hT.k d t ht), q' _ _ _ s (.bl _)⟩
end
def strD (x : D) (Q : Str → Prop) : Prop := ∃ a, x = .str a ∧ Q a
theorem strD.mono {x : D} {Q Q' : Str → Prop} (k : ∀ a, Q a → Q' a) (h : strD x Q) : strD x Q' := let ⟨a, e, q⟩ := h; ⟨a, e, k a q⟩
section
variable {F : Fx} {X : Cx} {K : PySem.W.Frag} {o e : Expr} {to te : DT} {apos pos : Pos} {R : V → List V → Hp → VK → Prop}
/-- s.m(e), by values -/
theorem m1_run {r : Str → D → (D → Prop) → Prop} (mr : ∀ a y (Q Q' : D → Prop), (∀ d, Q d → Q' d) → r a y Q → r a y Q') (l : ∀ a (y : V) (dy : D) (I H : Hp) (Q : VK), StI F.W I H → Rep X.K I y dy → r a dy (fin F X.K I H Q) → R (.str a) [y] H Q)
    (ho : DE F X o to) (he : DE F X e te) {σ : St} {H : Hp} {Q : VK} (h : rdE F X.K (fun ρ Q => to ρ fun x => strD x fun a => te ρ fun y => r a y Q) σ H Q) : tM1 R (rdE F X.K to) (rdE F X.K te) σ H Q := by
  obtain ⟨I, ρ, A, h⟩ := h
  refine rdE_next ho.mono A h fun d v I1 H1 q1 s1 r1 => ?_
  obtain ⟨a, rfl, q1⟩ := q1
  cases r1
  refine ⟨⟨a, rfl⟩, rdE_next he.mono (A.step s1) q1 fun y w I2 H2 q2 s2 r2 => ?_⟩
  exact l a w y I2 H2 Q s2.st r2 (mr _ _ _ _ (fun z hz => hz.of (s1.trans s2)) q2)
theorem m1_mono {r : Str → D → (D → Prop) → Prop} (mr : ∀ a y (Q Q' : D → Prop), (∀ d, Q d → Q' d) → r a y Q → r a y Q') (ho : DE F X o to) (he : DE F X e te) :
    ∀ ρ (Q Q' : D → Prop), (∀ d, Q d → Q' d) → (to ρ fun x => strD x fun a => te ρ fun y => r a y Q) → (to ρ fun x => strD x fun a => te ρ fun y => r a y Q') :=
  fun ρ Q Q' k h => ho.mono _ _ _ (fun d h => h.mono fun a h => he.mono _ _ _ (fun y h => mr _ _ _ _ k h) h) h
def joinD (a : Str) (y : D) (Q : D → Prop) : Prop := ∃ ys : List Str, (y = .lst (ys.map D.str) ∨ y = .tup (ys.map D.str)) ∧ (ys.map (·.length)).sum + ys.length * a.length ≤ 16777216 ∧ Q (.str (Txt.join a ys))
theorem mono_join : ∀ a y (Q Q' : D → Prop), (∀ d, Q d → Q' d) → joinD a y Q → joinD a y Q' := fun a y Q Q' k ⟨ys, h2, h3, q⟩ => ⟨ys, h2, h3, k _ q⟩
theorem de_join (ho : DE F X o to) (he : DE F X e te) (hs : starEach [e] X.env = [(false, eval e X.env)] := by rfl) (hbase : attributeBase o "join" X.env (eval o X.env) = eval o X.env := by rfl) (hline : (apos.endLine == pos.line) = true := by rfl) :
    DE F X (.Call (.Attribute o "join" apos) [e] [] pos) (fun ρ Q => to ρ fun x => strD x fun a => te ρ fun y => joinD a y Q) := by
  refine ⟨m1_mono mono_join ho he, (pe_join ho.run he.run hs hbase hline).imp fun σ H Q q => m1_run mono_join (fun a y dy I H Q st ry h => ?_) ho he q⟩
  obtain ⟨ys, h1, h2, q⟩ := h
  rcases h1 with rfl | rfl
  · cases ry with
    | lst b r => exact ⟨a, _, ys, rfl, rfl, .inl (r.strsV ▸ .of (st.sub _ _ b)), h2, q _ _ _ st.stp (.str _)⟩
  · cases ry with
    | tup b r => exact ⟨a, _, ys, rfl, rfl, .inr (r.strsV ▸ Same.seqT st.sub b), h2, q _ _ _ st.stp (.str _)⟩
/-- s.index(y), found -/
def sidxD (a : Str) (y : D) (Q : D → Prop) : Prop := ∃ b k, y = .str b ∧ Txt.index0 a b = some k ∧ Q (.int (k : Nat))
theorem de_sindex {W : WX} (hc : X.calm = true) (tk : Takes X W) (ho : DE F X o to) (he : DE F X e te) (hbase : attributeBase o "index" X.env (eval o X.env) = eval o X.env := by rfl)
    (hfew : ((backTo pos (starEach [e] X.env)).all (fun x => !x.1) && (backToKw pos (keywordEach [] X.env)).all (fun x => x.1.isSome) && decide ([e].length + ([] : List Keyword).length + (if ([] : List Keyword).isEmpty then 0 else 1) < 30)) = true := by rfl)
    (hline : (apos.endLine == pos.line) = true := by rfl) (hs : starEach [e] X.env = (false, eval e X.env) :: starEach [] X.env := by rfl) (hplain : (backTo pos (starEach [] X.env)).any (·.1) = false := by rfl) :
    DE F X (.Call (.Attribute o "index" apos) [e] [] pos) (fun ρ Q => to ρ fun x => strD x fun a => te ρ fun y => sidxD a y Q) := by
  refine ⟨m1_mono (fun a y Q Q' k ⟨b, j, h1, h2, q⟩ => ⟨b, j, h1, h2, k _ q⟩) ho he, (pe_bmS PySem.F.plainAttrs_str PySem.F.slot_str_index PySem.F.type_str_index (mt_indexX hc tk) ho.run (pa_cons he.run pa_nil hs) hbase hfew hline hs hplain).imp fun σ H Q ⟨I, ρ, A, h⟩ => ?_⟩
  refine rdE_next ho.mono A h fun d v I1 H1 q1 s1 r1 => ?_
  obtain ⟨a, rfl, q1⟩ := q1
  cases r1
  refine ⟨rfl, rdE_next he.mono (A.step s1) q1 fun y w I2 H2 q2 s2 r2 => ?_⟩
  obtain ⟨b, k, rfl, hk, q2⟩ := q2
  cases r2
  refine ⟨a, b, rfl, rfl, fun k' hk' => ?_, fun z => by rw [hk] at z; cases z⟩
  rw [hk] at hk'
  cases hk'
  exact q2 _ _ _ (s1.trans s2) (.int _)
end
end Dk
namespace Dk
open PySem L2
structure Cal (P : Program) (w : World) (K : PySem.W.Frag) (mg : Str → Option Value) (base : Heap) (CX : CXT) (W : Wd) (k : Nat) (x : Str) (ps : List Str) (S : DSp) : Prop where
  ex : ∃ f fd, GnOk P w K mg base CX k f fd ps (spD W K S) ∧ mg x = some (.ref f) ∧ PySem.W.keepIn K (.ref f) = true ∧ Binds K fd ps []
/-- .. by keywords alone: ks their names as written, g their order -/
structure CalK (P : Program) (w : World) (K : PySem.W.Frag) (mg : Str → Option Value) (base : Heap) (CX : CXT) (W : Wd) (k : Nat) (x : Str) (ps ks : List Str) (g : {α : Type} → List α → List α) (S : DSp) : Prop where
  ex : ∃ f fd, GnOk P w K mg base CX k f fd ps (spD W K S) ∧ mg x = some (.ref f) ∧ PySem.W.keepIn K (.ref f) = true ∧ KBn K fd ps 0 ks (fun _ ws => g ws) (fun _ zs => g zs)
  rel : ∀ {K : PySem.W.Frag} {I : Hp} {vs : List V} {ds : List D}, Reps K I vs ds → Reps K I (g vs) (g ds)
structure DKw (F : Fx) (X : Cx) (kws : List Keyword) (t : DAT) : Prop where
  mono : ∀ ρ (Q Q' : List D → Prop), (∀ d, Q d → Q' d) → t ρ Q → t ρ Q'
  run : PK X kws (rdA F X.K t)
section
variable {F : Fx} {X : Cx} {K : PySem.W.Frag} {CX : CXT} {W : Wd} {k : Nat} {x nm : Str} {ps ks : List Str} {S : DSp} {E : XK} {p pos kpos : Pos} {e : Expr} {es : List Expr} {t tk : DAT} {te : DT} {Ed : Ex → Prop} {kws : List Keyword} {g : {α : Type} → List α → List α}
theorem _root_.L2.PK.imp {t u : TA} (h : PK X kws t) (i : ∀ σ H Q, u σ H Q → t σ H Q) : PK X kws u := ⟨fun pos pins s σ H Q J q => h.run pos pins s σ H Q J (i σ H Q q)⟩
theorem dk_nil : DKw F X [] (fun _ Q => Q []) := ⟨fun _ _ _ k q => k _ q, pk_nil.imp fun σ H Q ⟨I, ρ, A, q⟩ => q [] I H A.st.stp .nil⟩
theorem dk_cons (h : DE F X e te) (h' : DKw F X kws t) : DKw F X (⟨nm, e, kpos⟩ :: kws) (fun ρ Q => te ρ fun d => t ρ fun ds => Q (d :: ds)) := by
  refine ⟨fun ρ Q Q' k q => h.mono _ _ _ (fun d q => h'.mono _ _ _ (fun ds => k _) q) q, (pk_cons h.run h'.run).imp fun σ H Q ⟨I, ρ, A, q⟩ => ?_⟩
  refine rdE_next h.mono A q fun d v I' H' p s rv => ?_
  exact rdA_next h'.mono (A.step s) p fun ds vs I2 H2 p s2 rs => p (v :: vs) I2 H2 (s.trans s2) (.cons (rv.mono s2.i) rs)
theorem de_fn (C : Cal X.prog X.w X.K X.mg X.base CX F.W k x ps S) (hr : Rm k X.A) (hx : Passes CX X E) (le : Lets F X.K Ed E) (ha : DA F X (e :: es) t)
    (hg : Gl X x := by rfl) (hdb : (x == ("__debug__" : Str)) = false := by decide) (he : starEach (e :: es) X.env = (false, eval e X.env) :: starEach es X.env := by rfl) (hpl : (backTo pos (starEach es X.env)).any (·.1) = false := by rfl) :
    DE F X (.Call (.Name x p) (e :: es) [] pos) (fun ρ Q => t ρ fun ds => S.f ds Q Ed) := by
  obtain ⟨f, fd, h1, h2, h3, h4⟩ := C.ex
  exact de_call h1 hr h2 h3 h4 hx le ha hg hdb he hpl
theorem de_fn0 (C : Cal X.prog X.w X.K X.mg X.base CX F.W k x ps S) (hr : Rm k X.A) (hx : Passes CX X E) (le : Lets F X.K Ed E)
    (hg : Gl X x := by rfl) (hdb : (x == ("__debug__" : Str)) = false := by decide) : DE F X (.Call (.Name x p) [] [] pos) (fun ρ Q => S.f [] Q Ed) := by
  obtain ⟨f, fd, h1, h2, h3, h4⟩ := C.ex
  exact de_call0 h1 hr h2 h3 h4 hx le hg hdb
end
theorem pss_any {X : Cx} {sts : List Stmt} {ι : Type} {F : ι → Fx} {t : ι → DTS} (h : ∀ i, DSts (F i) X sts (t i)) : PSs X sts (fun Z σ H => ∃ i, rdS (F i) X.K (t i) Z σ H) := ⟨fun pins s σ H Z J ⟨i, q⟩ => (h i).run.run pins s σ H Z J q⟩
section
variable {P : Program} {w : World} {K : PySem.W.Frag} {mg : Str → Option Value} {base : Heap} {CX : CXT} {W : Wd} {k : Nat} {x qual : Str} {st : Stmt} {f : Addr} {fd : FuncData} {ps ks : List Str} {S : DSp} {g : {α : Type} → List α → List α}
theorem Cal.of (Fn : Fun K x qual st f fd) (G : GnOk P w K mg base CX k f fd ps (spD W K S)) (m : mg x = some (.ref f))
    (h : ∀ (kV doc pm : Value) (an : Option Addr) (cdv ct : Value) (us : List Value), us.length = ps.length → bindArgs (PySem.W.fnOf x qual (defArgs st) (defBody st) (defScope st) .none kV doc pm an cdv ct) ⟨us, []⟩ = pure (ps.zip us)) : Cal P w K mg base CX W k x ps S :=
  ⟨f, fd, G, m, Fn.kp, Fn.binds h⟩
theorem CalK.of (Fn : Fun K x qual st f fd) (G : GnOk P w K mg base CX k f fd ps (spD W K S)) (m : mg x = some (.ref f)) (rV : ∀ {vs : List V} {us : List Value}, Vals vs us → Vals (g vs) (g us)) (rD : ∀ {K : PySem.W.Frag} {I : Hp} {vs : List V} {ds : List D}, Reps K I vs ds → Reps K I (g vs) (g ds))
    (h : ∀ (kV doc pm : Value) (an : Option Addr) (cdv ct : Value) (ws : List Value), ws.length = ks.length → bindArgs (PySem.W.fnOf x qual (defArgs st) (defBody st) (defScope st) .none kV doc pm an cdv ct) ⟨[], ks.zip ws⟩ = pure (ps.zip (g ws))) : CalK P w K mg base CX W k x ps ks g S := by
  refine ⟨⟨f, fd, G, m, Fn.kp, ⟨fun s us ws _ l1 l2 => ?_, fun _ r => rV r⟩⟩, rD⟩
  obtain ⟨oc, od, kV, doc, pm, an, cdv, ct, osl, rfl, lk, hcd⟩ := Fn.ex
  obtain rfl : us = [] := List.length_eq_zero_iff.mp l1
  exact .of_eq (h kV doc pm an cdv ct ws l2)
end
/-- what a draw tells: any number below the most -/
def spDraw (a : Addr) : DSp where
  n := 2
  f := fun ds Q _ => ∃ m : Int, ds = [.opq a, .int m] ∧ 0 < m ∧ m.natAbs.log2 < 9000 ∧ ∀ v : Int, 0 ≤ v → v < m → Q (.int v)
  len := fun ds Q E ⟨m, e, _⟩ => by rw [e]; rfl
  mono := fun ds Q Q' E E' k _ ⟨m, e, h, h', q⟩ => ⟨m, e, h, h', fun v a b => k _ (q v a b)⟩
theorem shaped_ints (ns : List Int) : SeqAt.shaped (.list (ns.map .int)) = true := by
  have h1 : ∀ ns : List Int, PyData.canLayAll0 (ns.map .int) = true := fun ns => by
    induction ns with
    | nil => simp [PyData.canLayAll0]
    | cons n ns ih => simp [PyData.canLayAll0, PyData.canLay0, ih]
  have h2 : ∀ ns : List Int, PyData.depthAll (ns.map .int) = 0 := PySem.W.depth_ints
  unfold SeqAt.shaped
  simp [PyData.canLay0, PyData.depth, h1, h2]
theorem dp_ints {K : PySem.W.Frag} {H : Hp} : ∀ ns : List Int, DpAll K H (ns.map V.int) (ns.map PyData.int)
  | [] => .nil
  | n :: ns => .cons (.int n) (dp_ints ns)
theorem eqv_nil (ns : List Int) : PyData.eqv (.list (ns.map .int)) (.list []) = ns.isEmpty := by
  cases ns <;> simp [PyData.eqv, PyData.eqvAll]
end Dk
namespace Dk
open PySem L2
def deckAt (a l : Addr) (H : Hp) : Prop := ∃ (ns : List Int) (s t : Int), H a = some (.lst [.ref l, .int s, .int t]) ∧ H l = some (.lst (ns.map V.int)) ∧ ns.length ≤ 63 ∧ a ≠ l
def DeckW (a l : Addr) : Wd where
  mv := fun b => b = a ∨ b = l
  inv := fun _ => deckAt a l
  frame := fun {I I' H H'} _ h ⟨ns, s, t, h1, h2, h3⟩ => ⟨ns, s, t, by rw [h a (.inl rfl)]; exact h1, by rw [h l (.inr rfl)]; exact h2, h3⟩
  live := fun {I H b} ⟨ns, s, t, h1, h2, h3⟩ m => by
    rcases m with rfl | rfl
    · rw [h1]; exact fun z => nomatch z
    · rw [h2]; exact fun z => nomatch z
theorem stp_deck {a l : Addr} {I H H' : Hp} (s : StI (DeckW a l) I H) (h : ∀ b o, H b = some o → b ≠ a → b ≠ l → H' b = some o) (d : deckAt a l H') : Stp (DeckW a l) I H I H' := by
  refine ⟨Same.refl I, ⟨fun b o e => ?_, s.imm, d⟩, fun b o e m => h b o e (fun z => m (.inl z)) (fun z => m (.inr z)), fun b o e n => n⟩
  have m := s.imm b o e
  exact h b o (s.sub b o e) (fun z => m (.inl z)) (fun z => m (.inr z))
theorem deck_of {a l : Addr} {I H : Hp} (s : StI (DeckW a l) I H) : deckAt a l H := s.inv
/-- the world of a deck, at the def that has made it -/
theorem at_deck {K : PySem.W.Frag} {a l : Addr} {H : Hp} {σ : St} (i : Nat) (d : deckAt a l H) (hi : σ[i]? = some (some (.ref a))) : At ⟨DeckW a l, H, fun _ => none⟩ K (fun _ => none) ((List.replicate σ.length none).set i (some (.dat (.opq a)))) σ H := by
  refine ⟨⟨fun b o e => (nomatch (show (none : Option HO) = some o from e)), ⟨fun b o e => (nomatch (show (none : Option HO) = some o from e)), fun b o e => (nomatch (show (none : Option HO) = some o from e)), d⟩, fun b o e _ => e, fun b o e n => n⟩, by simp, fun j e h => ?_, fun j j' e e' v hj h1 h2 o1 => ?_⟩
  · rcases set_at h with ⟨rfl, q⟩ | ⟨_, q⟩
    · cases q
      exact ⟨_, hi, .inl ⟨_, rfl, .opq a⟩⟩
    · rw [List.getElem?_replicate] at q
      split at q <;> cases q
  · rcases set_at h1 with ⟨rfl, q⟩ | ⟨_, q⟩
    · cases q
      exact o1.elim
    · rw [List.getElem?_replicate] at q
      split at q <;> cases q
end Dk
namespace Dk
open PySem L2
/-- how it is written -/
def shw (d : D) : Str := (toPy d).shown
def reprD : List D → (D → Prop) → Prop
  | [d], Q => plainD d = true ∧ (toPy d).showable = true ∧ (toPy d).depth ≤ 50 ∧ (shw d).length ≤ sizeLine ∧ Q (.str (shw d))
  | _, _ => False
theorem mono_reprD : MonoN reprD := by
  intro ds Q Q' k h
  unfold reprD at h ⊢
  split at h
  · exact ⟨h.1, h.2.1, h.2.2.1, h.2.2.2.1, k _ h.2.2.2.2⟩
  · exact h.elim
mutual
theorem noDict : ∀ {d : D}, plainD d = true → (toPy d).hasDict = false
  | .non, _ => by simp only [toPy, PyData.hasDict]
  | .bl _, _ => by simp only [toPy, PyData.hasDict]
  | .int _, _ => by simp only [toPy, PyData.hasDict]
  | .str _, _ => by simp only [toPy, PyData.hasDict]
  | .tup xs, h => by
    simp only [toPy, PyData.hasDict]
    exact noDicts (by unfold plainD at h; exact h)
  | .lst xs, h => by
    simp only [toPy, PyData.hasDict]
    exact noDicts (by unfold plainD at h; exact h)
  | .dic _, h => by simp [plainD] at h
  | .obj _ _, h => by simp [plainD] at h
  | .opq _, h => by simp [plainD] at h
  | .ptp _, h => by simp [plainD] at h
  | .dfz _, h => by simp [plainD] at h
theorem noDicts : ∀ {ds : List D}, plainDs ds = true → PyData.hasDictAll (toPys ds) = false
  | [], _ => by simp only [toPys, PyData.hasDictAll]
  | d :: ds, h => by
    unfold plainDs at h
    rw [Bool.and_eq_true] at h
    simp only [toPys, PyData.hasDictAll, noDict h.1, noDicts h.2, Bool.or_self]
end
section
variable {F : Fx} {X : Cx} {e : Expr} {t : DAT} {p pos : Pos}
theorem call_reprP (hg : X.A.guards = some []) (hu : X.A.units + 64 < cLine) : CallR X (.builtin "repr") (fun xs H Q => ∃ v d, xs = [v] ∧ Dp X.K H v d ∧ d.showable = true ∧ d.hasDict = false ∧ d.depth ≤ 50 ∧ d.shown.length ≤ sizeLine ∧ Q (.str d.shown) H) := by
  intro pins s σ H xs us Q J r h
  obtain ⟨v, d, rfl, hd, h1, h2, h3, h4, q⟩ := h
  obtain ⟨u, rfl, ru⟩ := vals1 r
  have fin : ∀ (tk : Nat) (u' : Tok), EP X pins σ Q (.str d.shown u') { s with toks := tk } := fun tk u' => ⟨.str d.shown, H, J.tok tk, ⟨u', rfl⟩, q⟩
  obtain ⟨as, rd⟩ := Dp.reads J _ _ _ hd ru
  cases hd with
  | non => cases ru; exact PySem.P.repr_of_none (by unfold PyData.shown at fin; exact fin _ _)
  | bl b => cases ru; exact PySem.P.repr_of_bool (by unfold PyData.shown at fin; exact fin _ _)
  | int i =>
    obtain ⟨t, rfl⟩ := ru
    have hz : i.natAbs.log2 < 1920 := by simpa [PyData.showable] using h1
    exact PySem.P.repr_of_int hz (by unfold PyData.shown at fin; exact fin _ _)
  | str x =>
    obtain ⟨t, rfl⟩ := ru
    unfold PyData.shown at fin h4
    exact PySem.P.repr_of_str (fin _ _) h4
  | lst a r' =>
    cases ru
    exact repr_of_reads' rd h1 (PyData.noDict_hsm h2) hg (by omega) (fun b o e => e) (fun h' u tk hk => ⟨.str _, H, J.kept hk, ⟨u, rfl⟩, q⟩) h4
  | tup a r' =>
    cases ru
    exact repr_of_reads' rd h1 (PyData.noDict_hsm h2) hg (by omega) (fun b o e => e) (fun h' u tk hk => ⟨.str _, H, J.kept hk, ⟨u, rfl⟩, q⟩) h4
theorem de_repr (hm : X.mg "repr" = none) (hg : X.A.guards = some []) (hu : X.A.units + 64 < cLine) (ha : DA F X [e] t) (hgl : Gl X "repr" := by rfl) (he : starEach [e] X.env = (false, eval e X.env) :: starEach [] X.env := by rfl) : DE F X (.Call (.Name "repr" p) [e] [] pos) (fun ρ Q => t ρ fun ds => reprD ds Q) := by
  refine de_callB (id := "repr") mono_reprD (fun vs ds I H Q st rs h => ?_) (call_reprP hg hu) hm (by decide +kernel) ha hgl (by decide) (by decide) he rfl
  unfold reprD at h
  split at h
  · obtain ⟨pl, sh, dp, l, q⟩ := h
    obtain ⟨v, rfl, rv⟩ := rs.one
    exact ⟨v, _, rfl, rv.dp st.sub pl, sh, noDict pl, dp, l, q _ _ _ st.stp (.str _)⟩
  · exact h.elim
/-- a constant of the module -/
theorem de_gs {x y : Str} {pos : Pos} (h : ∃ t, X.mg x = some (.str y t)) (hg : Gl X x := by rfl) (hd : (x == ("__debug__" : Str)) = false := by decide) : DE F X (.Name x pos) (fun _ Q => Q (.str y)) := by
  obtain ⟨t, e⟩ := h
  exact de_gstr hg e ⟨t, rfl⟩ hd
theorem de_gi {x : Str} {y : Int} {pos : Pos} (h : ∃ t, X.mg x = some (.int y t)) (hg : Gl X x := by rfl) (hd : (x == ("__debug__" : Str)) = false := by decide) : DE F X (.Name x pos) (fun _ Q => Q (.int y)) := by
  obtain ⟨t, e⟩ := h
  exact de_gint hg e ⟨t, rfl⟩ hd
end
theorem getD_0 {d : D} {ρ : DEnv} {Q : D → Prop} : getD (some (.dat d) :: ρ) 0 Q = Q d := by simp [getD]
theorem getD_s {x : Option Ent} {ρ : DEnv} {n : Nat} {Q : D → Prop} : getD (x :: ρ) (n + 1) Q = getD ρ n Q := by simp [getD]
theorem set_0 {x y : Option Ent} {ρ : DEnv} : (x :: ρ).set 0 y = y :: ρ := rfl
theorem set_s {x y : Option Ent} {ρ : DEnv} {n : Nat} : (x :: ρ).set (n + 1) y = x :: ρ.set n y := rfl
theorem forD_ind {g : DGT} {tb : DTS} {Z : DEnds} (P : List D → DEnv → Prop) (h0 : ∀ ρ, P [] ρ → Z.nx ρ) (h1 : ∀ d ds ρ (R : DEnv → Prop), P (d :: ds) ρ → (∀ ρ', P ds ρ' → R ρ') → g d ρ fun ρ2 => tb { Z with nx := R, ct := R, bk := Z.nx } ρ2) : ∀ (ds : List D) (ρ : DEnv), P ds ρ → forD g tb Z ds ρ
  | [], ρ, h => h0 ρ h
  | d :: ds, ρ, h => h1 d ds ρ (forD g tb Z ds) h fun ρ' h' => forD_ind P h0 h1 ds ρ' h'
theorem eqD_int {x y : Int} {Q : D → Prop} : eqD (.int x) (.int y) Q = Q (.bl (decide (x = y))) := by
  have e : deq (.int x) (.int y) = decide (x = y) := by simp [deq, toPy, PyData.eqv]; rfl
  simp [eqD, canEq, scalD, mixD, e]
theorem neD_int {x y : Int} {Q : D → Prop} : neD (.int x) (.int y) Q = Q (.bl (!decide (x = y))) := by
  have e : deq (.int x) (.int y) = decide (x = y) := by simp [deq, toPy, PyData.eqv]; rfl
  simp [neD, canEq, scalD, mixD, e]
theorem eqD_str {x y : Str} {Q : D → Prop} : eqD (.str x) (.str y) Q = Q (.bl (decide (x = y))) := by
  have e : deq (.str x) (.str y) = decide (x = y) := by simp [deq, toPy, PyData.eqv]; rfl
  simp [eqD, canEq, scalD, mixD, e]
theorem neD_str {x y : Str} {Q : D → Prop} : neD (.str x) (.str y) Q = Q (.bl (!decide (x = y))) := by
  have e : deq (.str x) (.str y) = decide (x = y) := by simp [deq, toPy, PyData.eqv]; rfl
  simp [neD, canEq, scalD, mixD, e]
theorem boolD_bl {b : Bool} {Q : Bool → Prop} : boolD (.bl b) Q = Q b := by simp [boolD]
theorem intD_int {i : Int} {Q : Int → Prop} : intD (.int i) Q = Q i := by simp [intD]
structure OkN (k : Nat) (d : D) : Prop where
  pl : plainD d = true
  cl : (toPy d).canLay0 = true
  dp : (toPy d).depth ≤ k
theorem OkN.mono {j k : Nat} {d : D} (h : OkN j d) (l : j ≤ k) : OkN k d := ⟨h.pl, h.cl, Nat.le_trans h.dp l⟩
theorem okN_str {x : Str} (h : PyData.strOk x = true) : OkN 0 (.str x) := ⟨rfl, by simp [toPy, PyData.canLay0, h], by simp [toPy, PyData.depth]⟩
theorem okNs {k : Nat} : ∀ {xs : List D}, (∀ x ∈ xs, OkN k x) → plainDs xs = true ∧ PyData.canLayAll0 (toPys xs) = true ∧ PyData.depthAll (toPys xs) ≤ k
  | [], _ => by simp [plainDs, toPys, PyData.canLayAll0, PyData.depthAll]
  | x :: xs, h => by
    have h1 := h x (by simp)
    obtain ⟨a, b, c⟩ := okNs fun y hy => h y (List.mem_cons_of_mem _ hy)
    simp only [plainDs, toPys, PyData.canLayAll0, PyData.depthAll, h1.pl, h1.cl, a, b, Bool.and_self, true_and]
    exact Nat.max_le.mpr ⟨h1.dp, c⟩
theorem okN_tup {k : Nat} {xs : List D} (h : ∀ x ∈ xs, OkN k x) : OkN (k + 1) (.tup xs) := by
  obtain ⟨a, b, c⟩ := okNs h
  exact ⟨by simp [plainD, a], by simp [toPy, PyData.canLay0, b], by simp [toPy, PyData.depth]; exact c⟩
theorem okN_lst {k : Nat} {xs : List D} (h : ∀ x ∈ xs, OkN k x) : OkN (k + 1) (.lst xs) := by
  obtain ⟨a, b, c⟩ := okNs h
  exact ⟨by simp [plainD, a], by simp [toPy, PyData.canLay0, b], by simp [toPy, PyData.depth]; exact c⟩
theorem OkN.okE {k : Nat} {d : D} (h : OkN k d) (l : k ≤ 64) : Dk.okE d = true := by
  unfold Dk.okE SeqAt.shaped
  simp only [h.pl, h.cl, Bool.and_self, Bool.true_and, decide_eq_true_eq]
  exact Nat.le_trans h.dp l
theorem OkN.eqD {k : Nat} {d : D} {Q : D → Prop} (h : OkN k d) (l : k ≤ 64) (q : Q (.bl true)) : Dk.eqD d d Q := by
  have e : deq d d = true := SeqAt.eqv_refl _ h.cl
  refine ⟨by simp [canEq, h.okE l], ?_⟩
  rw [e]
  exact q
/-- a comprehension over a list of things, each taken or left -/
theorem lcD_map {α : Type} {g : DGT} {tc : DB} {te : DT} {ρ : DEnv} (f h : α → D) (p : α → Bool) {Q : List D → Prop} : ∀ {l : List α}, (∀ a ∈ l, ∀ (R : D → Prop) (S : Prop), (p a = true → R (h a)) → (p a = false → S) → g (f a) ρ fun ρ2 => tc ρ2 fun b => if b = true then te ρ2 R else S) → Q ((l.filter p).map h) → lcD g tc te ρ (l.map f) Q := by
  intro l
  induction l generalizing Q with
  | nil => intro _ q; exact q
  | cons a l ih =>
    intro hs q
    refine hs a (by simp) _ _ (fun e => ?_) fun e => ?_
    · refine ih (fun b hb => hs b (List.mem_cons_of_mem _ hb)) ?_
      rw [List.filter_cons_of_pos e] at q
      exact q
    · refine ih (fun b hb => hs b (List.mem_cons_of_mem _ hb)) ?_
      rw [List.filter_cons_of_neg (by simp [e])] at q
      exact q
theorem lcD_all {α : Type} {g : DGT} {tc : DB} {te : DT} {ρ : DEnv} (f h : α → D) {Q : List D → Prop} {l : List α} (hs : ∀ a ∈ l, ∀ (R : D → Prop) (S : Prop), R (h a) → g (f a) ρ fun ρ2 => tc ρ2 fun b => if b = true then te ρ2 R else S) (q : Q (l.map h)) : lcD g tc te ρ (l.map f) Q :=
  lcD_map f h (fun _ => true) (fun a ha R S r _ => hs a ha R S (r rfl)) (by rw [List.filter_eq_self.mpr (by simp)]; exact q)
end Dk
namespace Dk
open PySem L2 PySem.Spec PyProof.Rows
theorem law_gn {P : Program} {w : World} {K : PySem.W.Frag} {mg mb : Str → Option Value} {CX : CXT} {k : Nat} {fa a : Addr} {fd : FuncData} {x : Str} {sp : Sp} {s1 : Shared} {us : List Value} {ns : List Int}
    (inK : K.In s1.heap) (inM : s1.heap.Ns mainGlobals mg) (inB : s1.heap.Ns builtinsNs mb) (boots : ∀ x : Str, x ≠ "__name__" → mb x = bootBuiltins x) (noLim : s1.heap.NoLimit) (noGen : s1.gens = #[])
    (isL : s1.heap.get? a = some { cls := .type "list", data := .seq us.toArray }) (its0 : IntsAre us ns) (small : ns.length ≤ sizeLine) (room : Room k callerA)
    (F : ∀ base : Heap, K.In base → base.Ns mainGlobals mg → GnOk P w K mg base CX k fa fd [x] sp) (binds : ∀ (s : Shared) (u : Value), BindsTo s fd ⟨[u], []⟩ [(x, u)])
    (says : ∀ H : Hp, L2.Only H → SqL K H a (ns.map V.int) → sp [.ref a] H (fun v _ => v = .bl true) fun _ _ _ => False) (lets : ∀ H e s', CX [] H s1 (fun _ _ _ => False) e s' → False) :
    codeAny (model P w) callerA (.call (.ref fa) ⟨[.ref a], []⟩) (fun r s' => r = .ok (.ret (.bool true)) ∧ OldK s1.heap s'.heap ∧ s'.os = s1.os ∧ AllBare s'.gens) s1 := by
  have vals := vals_ints its0
  -- a heap that tells of the script, or of nothing
  have main : ∀ H : Hp, L2.Only H → SqL K H a (ns.map V.int) → HOk P w H s1.heap → (∀ b, H b ≠ none → b = a ∧ K.lookup b = none) →
      codeAny (model P w) callerA (.call (.ref fa) ⟨[.ref a], []⟩) (fun r s' => r = .ok (.ret (.bool true)) ∧ OldK s1.heap s'.heap ∧ s'.os = s1.os ∧ AllBare s'.gens) s1 := by
    intro H only sq ok few
    have dict_out : ∀ {b : Addr} {m : Str → Option Value}, s1.heap.Ns b m → (hidT s1.heap H).Ns b m := by
      rintro b m ⟨o, es, ep, e1, e2, e3⟩
      refine ⟨o, es, ep, hidT_get e1 ?_, e2, e3⟩
      rcases hb : H b with _ | u
      · rfl
      · obtain ⟨rfl, _⟩ := few b (by rw [hb]; simp)
        rw [isL] at e1
        cases e1
        exact Data.noConfusion e2
    have inK' : K.In (hidT s1.heap H) := fun b o e => hidT_get (inK b o e) (by
      rcases hb : H b with _ | u
      · rfl
      · have := (few b (by rw [hb]; simp)).2
        rw [this] at e
        cases e)
    obtain ⟨mc, lim1, lim2⟩ := noLim
    have env : Env0 P w K mg (hidT s1.heap H) callerA [] s1 H := { frames := rfl, mod := ⟨inK', dict_out inM, ⟨mb, dict_out inB, boots⟩, ⟨mc, dict_out lim1, lim2⟩⟩, bs := fun b o e => of_hidT e, bsz := Nat.le_of_eq (hidT_size _ _), funs := trivial, frf := (by simp [frs]), hok := ok, bare := .of_eq noGen }
    refine codeAny_mono ((F _ inK' (dict_out inM)).go callerA [] s1 H ⟨[.ref a], []⟩ [.ref a] [.ref a] _ _ ⟨room, rfl⟩ env (binds s1 (.ref a)) (.cons rfl .nil) (says H only sq)) fun r s' q => ?_
    match r, q with
    | .error e, q => exact (lets H e s' q).elim
    | .ok .next, q => exact q.elim
    | .ok .brk, q => exact q.elim
    | .ok .cont, q => exact q.elim
    | .ok (.ret u), ⟨v, H2, os, bare, un, ok2, rel, q⟩ =>
      have q : v = .bl true := q
      subst q
      obtain rfl : u = Value.bool true := rel
      refine ⟨rfl, OldK.of_keep fun b o e => ?_, os, bare⟩
      rcases only b with z | ⟨ob, xs, z⟩
      · exact un.keep b o e z (by simp [frs]) (by simp)
      · obtain ⟨e1, _⟩ := ok b _ z
        obtain ⟨e2, _⟩ := ok2 b _ (un.frzs b ob _ z)
        rw [e1] at e
        cases e
        exact e2
  rcases hk : K.lookup a with _ | o
  · -- the script stands beside the module's objects
    have told : ∀ b u, (if b = a then some (HO.frz { cls := .type "list", data := .seq us.toArray } (.lst (ns.map V.int))) else none) = some u → b = a ∧ u = HO.frz { cls := .type "list", data := .seq us.toArray } (.lst (ns.map V.int)) := fun b u z => by
      split at z
      · exact ⟨by assumption, (Option.some.inj z).symm⟩
      · cases z
    refine main (fun b => if b = a then some (.frz { cls := .type "list", data := .seq us.toArray } (.lst (ns.map V.int))) else none) (fun b => ?_) (.inl (.inr ⟨_, if_pos rfl⟩)) (fun b u z => ?_) fun b z => ?_
    · by_cases hb : b = a
      · right; exact ⟨_, _, if_pos hb⟩
      · left; exact if_neg hb
    · obtain ⟨rfl, rfl⟩ := told b u z
      exact ⟨isL, by rw [List.length_map]; exact small, us, _, vals, isL⟩
    · rcases hb : (if b = a then some (HO.frz { cls := .type "list", data := .seq us.toArray } (.lst (ns.map V.int))) else none) with _ | u
      · exact absurd hb z
      · obtain ⟨rfl, _⟩ := told b u hb
        exact ⟨rfl, hk⟩
  · -- it is one of them
    have e := inK a o hk
    rw [isL] at e
    cases e
    exact main (fun _ => none) (fun _ => .inl rfl) (.inr ⟨_, us.toArray, _, hk, rfl, rfl, rfl, by rw [List.size_toArray, its0.length]; exact small, by simpa using vals⟩) (fun b u z => (nomatch (show (none : Option HO) = some u from z))) fun b z => absurd rfl z
end Dk
namespace Dk
open PySem L2 PySem.Spec PyProof.Rows
/-- all tests of a clause -/
def tests (ifs : List Expr) (env : Env) : Sem Bool := forIn ifs true fun c r => if r = true then do let ok ← isTrue c env (eval c env); pure (ForInStep.yield ok) else pure (ForInStep.yield r)
/-- what follows the k-th clause's tests -/
def behind (e : Expr) (gens : List Comprehension) (emit : Sem Unit) (k : Nat) (acc : Value) (env : Env) (next : Sem Fin) : Sem Fin :=
  match gens[k + 1]? with
  | none => do
    emit
    next
  | some g => do
    let x ← eval g.iter env
    standAt g.iter.pos
    let y ← foldedSetIterable g.iter env x
    let it ← holding [y] (pyIter y)
    let _ ← runOwn (.compStart e (k + 1) it acc env) env
    next
/-- a comprehension: its clauses, what it does with an element -/
structure IsCp (e : Expr) (gens : List Comprehension) (emit : Value → Env → Sem Unit) : Prop where
  cl : clausesOf e = gens
  fl : ∀ (k : Nat) (it acc : Value) (env : Env), (Code.compLoop e k it acc env).isFrame = false ∧ (Code.compStart e k it acc env).isFrame = false
  un : ∀ (A : Around) (k : Nat) (it acc : Value) (env : Env), A.under (.compLoop e k it acc env) = A ∧ A.under (.compStart e k it acc env) = A
  turn : ∀ (k : Nat) (tg iter : Expr) (ifs : List Expr) (it acc : Value) (env : Env), gens[k]? = some ⟨tg, iter, ifs, 0⟩ → (∀ g, gens[k + 1]? = some g → g.is_async = 0) → compTurn e k it acc env = (do
    standAt iter.pos
    match ← pyNext it with
    | none => pure (.done .next)
    | some v => do
      letOwnedTupleGo tg it v
      assign tg env v
      let ok ← tests ifs env
      if ok then behind e gens (emit acc env) k acc env (again (.compLoop e k it acc env))
      else again (.compLoop e k it acc env))
theorem cp_list (elt : Expr) (gens : List Comprehension) (scope : Scope) (pos : Pos) : IsCp (.ListComp elt gens scope pos) gens (fun acc env => do let _ ← call (.builtin "list.append") [acc, ← eval elt env]) := by
  refine ⟨rfl, fun _ _ _ _ => ⟨rfl, rfl⟩, fun _ _ _ _ _ => ⟨rfl, rfl⟩, fun k tg iter ifs it acc env hg hn => ?_⟩
  unfold compTurn behind tests
  simp only [hg]
  cases h : gens[k + 1]? with
  | none => rfl
  | some g => 
    have := hn g h
    simp only [this]
    rfl
theorem cp_set (elt : Expr) (gens : List Comprehension) (scope : Scope) (pos : Pos) : IsCp (.SetComp elt gens scope pos) gens (fun acc env => do let v ← eval elt env; standAt elt.pos; let _ ← call (.builtin "set.add") [acc, v]) := by
  refine ⟨rfl, fun _ _ _ _ => ⟨rfl, rfl⟩, fun _ _ _ _ _ => ⟨rfl, rfl⟩, fun k tg iter ifs it acc env hg hn => ?_⟩
  unfold compTurn behind tests
  simp only [hg]
  cases h : gens[k + 1]? with
  | none => rfl
  | some g => 
    have := hn g h
    simp only [this]
    rfl
theorem cp_dict (kx vx : Expr) (gens : List Comprehension) (scope : Scope) (pos : Pos) : IsCp (.DictComp kx vx gens scope pos) gens (fun acc env => do
    let kv ← eval kx env
    let vv ← holding [kv] (eval vx env)
    match acc with
    | .ref d => do
      standAt { kx.pos with endLine := vx.pos.endLine, endCol := vx.pos.endCol }
      holding [kv, vv] (dictSet d kv vv)
    | _ => unsupported "internal:dictcomp") := by
  refine ⟨rfl, fun _ _ _ _ => ⟨rfl, rfl⟩, fun _ _ _ _ _ => ⟨rfl, rfl⟩, fun k tg iter ifs it acc env hg hn => ?_⟩
  unfold compTurn behind tests
  simp only [hg]
  cases h : gens[k + 1]? with
  | none => rfl
  | some g => 
    have := hn g h
    simp only [this]
    rfl
/-- it runs on to what comes next, in a state that the post tells -/
def Onward (M : Model) (A : Around) (bh : Sem Fin → Sem Fin) (post : Shared → Prop) (s : Shared) : Prop :=
  ∀ (next : Sem Fin) (Q : Fin → Shared → Prop) (E : Value → Shared → Prop), (∀ s', post s' → wpAny M A next Q E s') → wpAny M A (bh next) Q E s
section
variable {prog : Program} {w : World} {A : Around} {R : Result → Shared → Prop} {s : Shared} {e tg iter : Expr} {ifs : List Expr} {gens : List Comprehension} {emit : Value → Env → Sem Unit} {k : Nat} {it acc : Value} {env : Env}
theorem cp_loop (c : IsCp e gens emit) (hg : gens[k]? = some ⟨tg, iter, ifs, 0⟩) (hn : ∀ g, gens[k + 1]? = some g → g.is_async = 0) (I : Nat → Shared → Prop)
    (turn : ∀ n s, I n s → wpAny (model prog w) A (pyNext it) (fun r s1 => match r with
      | none => R (.ok .next) s1
      | some v => wpAny (model prog w) A (letOwnedTupleGo tg it v) (fun _ s2 => wpAny (model prog w) A (assign tg env v) (fun _ s3 => wpAny (model prog w) A (tests ifs env) (fun b s4 =>
          if b = true then Onward (model prog w) A (behind e gens (emit acc env) k acc env) (fun s5 => ∃ m, m < n ∧ I m s5) s4 else ∃ m, m < n ∧ I m s4) (fun _ _ => False) s3) (fun _ _ => False) s2) (fun _ _ => False) s1) (fun _ _ => False) s)
    (n : Nat) (h : I n s) : codeAny (model prog w) A (.compLoop e k it acc env) R s := by
  refine codeAny_loop rfl I (fun n s hI => ?_) n h
  have ed : (model prog w).den (.compLoop e k it acc env) = (compTurn e k it acc env).onRaise (fun x => do noteFrame x env; theTreesLotGoes x) := by
    show (if (Code.compLoop e k it acc env).isFrame = true then _ else _) = _
    rw [if_neg (by rw [(c.fl k it acc env).1]; exact Bool.false_ne_true)]
  rw [ed, (c.un A k it acc env).1]
  refine wpAny_noted ?_
  rw [c.turn k tg iter ifs it acc env hg hn]
  refine wpAny_bind (wpAny_standAt (wpAny_bind (thnF (turn n s hI) fun r s1 h1 => ?_)))
  cases r with
  | none => exact wpAny_pure h1
  | some v =>
    refine wpAny_bind (thnF h1 fun _ s2 h2 => wpAny_bind (thnF h2 fun _ s3 h3 => wpAny_bind (thnF h3 fun b s4 h4 => ?_)))
    cases b with
    | false => exact wpAny_pure ⟨rfl, h4⟩
    | true => exact h4 _ _ _ fun s5 h5 => wpAny_pure ⟨rfl, h5⟩
theorem cp_start (c : IsCp e gens emit) (hg : gens[k]? = some ⟨tg, iter, ifs, 0⟩) (h0 : codeAny (model prog w) A (.compLoop e k it acc env) R s)
    (h : wpAny (model prog w) A (pyIter it) (fun it' s' => codeAny (model prog w) A (.compLoop e k it' acc env) R s') (fun _ _ => False) s) : codeAny (model prog w) A (.compStart e k it acc env) R s := by
  refine codeAny_of_tree ?_
  have ed : (model prog w).den (.compStart e k it acc env) = (compStart e k it acc env).onRaise (fun x => do noteFrame x env; standAt theWindowsPlace) := by
    show (if (Code.compStart e k it acc env).isFrame = true then _ else _) = _
    rw [if_neg (by rw [(c.fl k it acc env).2]; exact Bool.false_ne_true)]
  rw [ed, (c.un A k it acc env).2]
  refine wpAny_notedAt ?_
  unfold compStart
  rw [c.cl, hg]
  show wpAny _ _ (ask >>= _) _ _ s
  refine wpAny_bind (wpAny_askSetting (wpAny_ite ?_))
  split
  · first
      | exact wpAny_bind (wpAny_pure (wpAny_pure (And.intro rfl h0)))
      | exact wpAny_pure (And.intro rfl h0)
  · first
      | exact wpAny_bind (wpAny_rule (wpAny_bind (wpAny_standAt (wpAny_bind (thnF h fun it' s' h' => wpAny_pure (And.intro rfl h'))))))
      | (refine wpAny_bind (wpAny_rule ?_); show wpAny _ _ (standAt iter.pos >>= _) _ _ s; exact wpAny_bind (wpAny_standAt (wpAny_bind (thnF h fun it' s' h' => wpAny_pure (And.intro rfl h')))))
end
abbrev TN := L2.St → Hp → (Hp → Prop) → Prop
/-- what is done with an element, to the object at D -/
structure Emit (Y : Cx) (em : Sem Unit) (T : TN) : Prop where
  run : ∀ (pins : List (Addr × Obj)) (s : Shared) (σ : L2.St) (H : Hp) (Nx : Hp → Prop), Inv Y pins σ H s → T σ H Nx → wpAny (model Y.prog Y.w) Y.A em (fun _ s' => ∃ H', Inv Y pins σ H' s' ∧ Nx H') (fun _ _ => False) s
/-- the clauses behind the k-th; vs: the slots that they store in -/
structure Nest (Y : Cx) (e : Expr) (gens : List Comprehension) (em : Sem Unit) (k : Nat) (D : Addr) (vs : List Nat) (T : TN) : Prop where
  run : ∀ (pins : List (Addr × Obj)) (s : Shared) (σ : L2.St) (H : Hp) (Nx : Hp → Prop), Inv Y pins σ H s → T σ H Nx → Onward (model Y.prog Y.w) Y.A (behind e gens em k (.ref D) Y.env) (fun s' => ∃ H', Inv Y pins (wipe σ vs) H' s' ∧ Nx H') s
section
variable {Y : Cx} {e tg iter : Expr} {ifs : List Expr} {gens : List Comprehension} {em : Sem Unit} {emit : Value → Env → Sem Unit} {k : Nat} {D : Addr} {vs vs' : List Nat} {T T' : TN} {wi : TI} {g : TG} {tt : TT}
theorem nest_nil (hk : gens[k + 1]? = none) (h : Emit Y em T) : Nest Y e gens em k D [] T := by
  refine ⟨fun pins s σ H Nx J q next Q E hn => ?_⟩
  unfold behind
  rw [hk]
  exact wpAny_bind (thnF (h.run pins s σ H Nx J q) fun _ s' h' => hn s' h')
/-- one loop of a clause, over an iterator that has come -/
def tLoop (vs : List Nat) (g : TG) (tt : TT) (T' : TN) (J : It) (σ : L2.St) (H4 : Hp) (Nx : Hp → Prop) : Prop :=
  ∃ W : Nat → Nat → Hp → Prop, (∃ m, W 0 m H4) ∧ ∀ i m H, W i m H → (J.stop i H ∧ Nx H) ∨ (J.go i H ∧ ∃ N1 : Hp → Prop, (∀ H', N1 H' → ∃ m', m' < m ∧ W (i + 1) m' H') ∧
    ∀ x H', J.yld i H x H' → g x (wipe σ vs) H' fun σ2 H2 => wipe σ2 vs = wipe σ vs ∧ tt σ2 H2 fun b H3 => if b = true then T' σ2 H3 N1 else N1 H3)
theorem nest_loop {R : Result → Shared → Prop} {s : Shared} {pins : List (Addr × Obj)} {σ : L2.St} {H : Hp} {Nx : Hp → Prop} {J : It} {fp : List Addr} {it : Addr} {tn : Nat → Heap → Prop} (hx : ∀ e s, ¬ Y.xe e s) (hc : Y.calm = true) (c : IsCp e gens emit) (hk : gens[k]? = some ⟨tg, iter, ifs, 0⟩) (hn : ∀ g, gens[k + 1]? = some g → g.is_async = 0)
    (hg : PG Y tg g) (ht : PTs Y ifs tt) (h : Nest Y e gens (emit (.ref D) Y.env) k D vs' T') (hv : ∀ i ∈ vs', i ∈ vs) (I : Inv Y pins σ H s) (Tu : Turn Y.prog Y.w Y.K tg J fp it tn) (st : tn 0 s.heap) (f : ∀ b ∈ fp, FpOk Y pins H b) (q : tLoop vs g tt T' J σ H Nx)
    (hR : ∀ s' H', Inv Y pins (wipe σ vs) H' s' → Nx H' → R (.ok .next) s') : codeAny (model Y.prog Y.w) Y.A (.compLoop e k (.ref it) (.ref D) Y.env) R s := by
  obtain ⟨W, ⟨m0, w0⟩, turn⟩ := q
  have stat : ∀ {H' : Hp}, (∀ b ∈ fp, H' b = none) → ∀ b ∈ fp, FpOk Y pins H' b := fun hn b hb => ⟨hn b hb, (f b hb).2⟩
  refine cp_loop c hk hn (fun n s' => ∃ i H', Inv Y pins (wipe σ vs) H' s' ∧ tn i s'.heap ∧ (∀ b ∈ fp, H' b = none) ∧ W i n H') ?_ m0 ⟨0, H, I.weak (wipe_length _ _) (fun j v e => (wipe_some e).1), st, fun b hb => (f b hb).1, w0⟩
  rintro n s1 ⟨i, H1, I1, st1, n1, w1⟩
  rcases turn i n H1 w1 with ⟨stop, nx⟩ | ⟨go, N1, hN, step⟩
  · refine thnF (Tu.done Y rfl rfl rfl hc i _ s1 (wipe σ vs) H1 (fun _ _ => False) I1 (stat n1) st1 stop) fun r s2 ⟨hr, I2⟩ => ?_
    subst hr
    exact hR s2 H1 I2 nx
  · refine thnF (Tu.item Y rfl rfl rfl hc i _ s1 (wipe σ vs) H1 (fun _ _ => False) I1 (stat n1) st1 go) fun r s2 ⟨u, hr, h2⟩ => ?_
    subst hr
    refine thnF h2 fun _ s3 ⟨x, H3, I3, r3, y3, st3, n3⟩ => ?_
    have I3' := I3.pinned (stat n3) (Tu.obj _ _ st3)
    refine wpAny_mono (hg.run _ s3 (wipe σ vs) H3 x u _ I3' r3 (step x H3 y3)) (fun _ s4 ⟨σ4, H4, I4, hw4, q4⟩ => ?_) fun e s' z => hx e s' z
    refine wpAny_mono (ht.run _ s4 σ4 H4 _ I4 q4) (fun b s5 ⟨H5, I5, q5⟩ => ?_) fun e s' z => hx e s' z
    have fin : ∀ {σ' : L2.St} {s' : Shared} {H' : Hp}, Inv Y (pins ++ pinsAt fp s3.heap) σ' H' s' → wipe σ' vs = wipe σ vs → N1 H' → ∃ m, m < n ∧ ∃ i H', Inv Y pins (wipe σ vs) H' s' ∧ tn i s'.heap ∧ (∀ b ∈ fp, H' b = none) ∧ W i m H' := fun {σ' s' H'} I' hw nx => by
      obtain ⟨m', hm, w'⟩ := hN H' nx
      have pin' : ∀ b ∈ fp, ∀ o, s3.heap.get? b = some o → s'.heap.get? b = some o ∧ H' b = none := fun b hb o e =>
        let z := I'.pin (b, o) (List.mem_append_right _ (List.mem_append_right _ (mem_pinsAt hb e)))
        ⟨z.1, z.2.1⟩
      refine ⟨m', hm, i + 1, H', I'.unpinned.weak (by rw [← hw, wipe_length]) (fun j v e => by rw [← hw] at e; exact (wipe_some e).1), Tu.keep _ _ _ st3 fun b hb o e => (pin' b hb o e).1, fun b hb => ?_, w'⟩
      obtain ⟨o, e, _⟩ := Tu.obj _ _ st3 b hb
      exact (pin' b hb o e).2
    cases b with
    | false =>
      simp only [Bool.false_eq_true, if_false] at q5 ⊢
      exact fin I5 hw4 q5
    | true =>
      simp only [if_true] at q5 ⊢
      intro next Q E hnext
      refine h.run _ s5 σ4 H5 N1 I5 q5 next Q E fun s6 ⟨H6, I6, nx⟩ => hnext s6 (fin I6 ?_ nx)
      rw [← hw4]
      apply List.ext_getElem?
      intro j
      by_cases hj : j ∈ vs
      · by_cases hlt : j < σ4.length
        · rw [Classical.byContradiction fun z => absurd (wipe_at hj z) (by rw [wipe_length]; omega), Classical.byContradiction fun z => absurd (wipe_at hj z) (by omega)]
        · rw [List.getElem?_eq_none (by rw [wipe_length, wipe_length]; omega), List.getElem?_eq_none (by rw [wipe_length]; omega)]
      · rw [wipe_out hj, wipe_out hj, wipe_out fun z => hj (hv j z)]
theorem nest_cons (hx : ∀ e s, ¬ Y.xe e s) (hc : Y.calm = true) (c : IsCp e gens emit) (hk : gens[k + 1]? = some ⟨tg, iter, ifs, 0⟩) (hn : ∀ g, gens[k + 1 + 1]? = some g → g.is_async = 0) (hi : PI Y tg iter wi) (hg : PG Y tg g) (ht : PTs Y ifs tt)
    (h : Nest Y e gens (emit (.ref D) Y.env) (k + 1) D vs' T') (hv : ∀ i ∈ vs', i ∈ vs) (hs : ∀ x, foldedSetIterable iter Y.env x = pure x) :
    Nest Y e gens (emit (.ref D) Y.env) k D vs (fun σ H Nx => wi σ H fun J H4 => tLoop vs g tt T' J σ H4 Nx) := by
  refine ⟨fun pins s σ H Nx I q next Q E hnext => ?_⟩
  unfold behind
  rw [hk]
  refine wpAny_bind (wpAny_mono (hi.run pins s σ H _ I q) (fun x s1 h1 => ?_) fun e s' z => (hx e s' z).elim)
  refine wpAny_bind (wpAny_standAt (wpAny_bind (wpAny_of_eq (hs x) (wpAny_bind (wpAny_holding (wpAny_mono h1 (fun itv s2 h2 => ?_) fun e s' z => (hx e s' z).elim))))))
  obtain ⟨it, fp, tn, J, H2, rfl, I2, Tu, st2, f2, q2⟩ := h2
  refine wpAny_bind (wpAny_runOwn ?_)
  rw [Around.mark_none]
  have loop := nest_loop (R := fun r s' => match r with
    | .ok _ => ∃ H', Inv Y pins (wipe σ vs) H' s' ∧ Nx H'
    | .error _ => False) hx hc c hk hn hg ht h hv I2 Tu st2 f2 q2 fun s' H' I' nx => ⟨H', I', nx⟩
  refine codeAny_mono (cp_start c hk loop (Tu.self Y.A 0 _ _ _ st2 loop)) fun r s' hr => ?_
  cases r with
  | ok f => exact hnext s' hr
  | error e => exact hr.elim
end
/-- a comprehension as a value: o0 the new object, T what follows the first clause's tests -/
def tCp (o0 : Addr → HO) (wi : TI) (vs : List Nat) (g : TG) (tt : TT) (T : Addr → TN) : TE := fun σ H Q => wi σ H fun J H1 => ∀ D, H1 D = none → tLoop vs g tt (T D) J σ (upd H1 D (o0 D)) fun H' => Q (.ref D) H'
section
variable {X : Cx} {e tg iter : Expr} {ifs : List Expr} {rest : List Comprehension} {emit : Value → Env → Sem Unit} {vs' : List Nat} {T : Addr → TN} {wi : TI} {g : TG} {tt : TT} {scope : Scope} {own : List (Str × Nat)} {ob0 : Obj} {o0 : Addr → HO} {newAcc : Sem Value}
theorem cp_core {pins : List (Addr × Obj)} {s : Shared} {σ : L2.St} {H : Hp} {Q : VK} {pos' : Pos} {use : Option (Value → Sem Unit)} {Qf : Value → Shared → Prop}
    (c : IsCp e (⟨tg, iter, ifs, 0⟩ :: rest) emit) (hnw : ∀ {A : Around} {E : Value → Shared → Prop} {Q : Value → Shared → Prop} {s : Shared}, Q (.ref s.heap.objs.size) { s with heap := s.heap.push ob0 } → wpAny (model X.prog X.w) A newAcc Q E s)
    (hob : ∀ (pins : List (Addr × Obj)) (σ : L2.St) (H : Hp) (s : Shared), Inv X pins σ H s → ObjOk X.prog X.w (upd H s.heap.objs.size (o0 s.heap.objs.size)) (s.heap.push ob0) s.heap.objs.size (o0 s.heap.objs.size))
    (hc : X.calm = true) (hN : X.N.Nodup) (I : Inv X pins σ H s) (hi : PI X tg iter wi) (ok : BlkOk X.N X.env.scope scope own) (hrest : ∀ g ∈ rest, g.is_async = 0) (hv : ∀ i ∈ vs', i ∈ own.map (·.2))
    (hg : ∀ (s : Shared) (H : Hp) (C : Addr) (cl : List (Str × Addr)) (fp : List Addr), PG (X.blk s H scope (compEnvC scope cl C X.env) fp) tg g) (ht : ∀ (s : Shared) (H : Hp) (C : Addr) (cl : List (Str × Addr)) (fp : List Addr), PTs (X.blk s H scope (compEnvC scope cl C X.env) fp) ifs tt)
    (hb : ∀ (s : Shared) (H : Hp) (C : Addr) (cl : List (Str × Addr)) (fp : List Addr) (D : Addr), Nest (X.blk s H scope (compEnvC scope cl C X.env) fp) e (⟨tg, iter, ifs, 0⟩ :: rest) (emit (.ref D) (compEnvC scope cl C X.env)) 0 D vs' (T D))
    (hs : ∀ x, foldedSetIterable iter X.env x = pure x) (h : tCp o0 wi (own.map (·.2)) g tt T σ H Q)
    (hRR : ∀ D C s' m H', Inv X pins σ H' s' → Q (.ref D) H' → s'.heap.Ns C m → FpOk X pins H' C → compPost (model X.prog X.w) X.A X.xe use Qf (.ref D) C (.ok .next) s') :
    wpAny (model X.prog X.w) X.A (comprehension e scope X.env pos' newAcc false (eval iter X.env) use) Qf X.xe s := by
  have hfree : ∀ y ∈ scope.names, y.2 = .free → ∃ c, X.env.cells.lookup y.1 = some c := fun y hy e => (ok.free y hy e).elim (fun k => I.ok.has _ (.inl k)) fun k => I.ok.has _ (.inr k)
  refine wpAny_comprehension_free (use := use) c.cl hs (closure_ok hfree) ok.kind (fun y hy e => by rw [ok.uniq y hy, e]) (thn (hi.run pins s σ H _ I h) fun xv s1 hx => thn hx fun itv s2 h2 => ?_)
  obtain ⟨it, fp, tn, J, H2, rfl, I2, Tu, st2, f2, q⟩ := h2
  refine hnw (newEnv_comp ?_)
  generalize hD : s2.heap.objs.size = D
  have hDn : H2 D = none := I2.hok.fresh (Nat.le_of_eq hD)
  have q := q D hDn
  generalize hs3 : ({ s2 with heap := s2.heap.push ob0 } : Shared) = s3
  have I3 : Inv X pins σ (upd H2 D (o0 D)) s3 := by
    subst hs3 hD
    exact I2.laid (t' := s2.toks) (fun b o e => Heap.get?_push_of_some _ e) (Nat.le_refl _) (hob _ _ _ _ I2)
  have h3 : s3.heap = s2.heap.push ob0 := by rw [← hs3]
  have f3 : ∀ b ∈ fp, FpOk X pins (upd H2 D (o0 D)) b ∧ b < s3.heap.objs.size := fun b hb => by
    obtain ⟨o, e, _⟩ := Tu.obj _ _ st2 b hb
    have hlt := Heap.lt_size e
    refine ⟨⟨?_, (f2 b hb).2⟩, by rw [h3, Heap.size_push]; exact Nat.lt_succ_of_lt hlt⟩
    rw [upd_ne (by rw [← hD]; exact Nat.ne_of_lt hlt)]
    exact (f2 b hb).1
  have st3 : tn 0 s3.heap := Tu.keep _ _ _ st2 fun b _ o e => by rw [h3]; exact Heap.get?_push_of_some _ e
  have I4 := block_start I3 ok hN f3
  have pg := hg s3 (upd H2 D (o0 D)) s3.heap.objs.size (cellsFrom (s3.heap.objs.size + 1) scope.names (cloFrom X.env.cells scope.names [])) fp
  have pt := ht s3 (upd H2 D (o0 D)) s3.heap.objs.size (cellsFrom (s3.heap.objs.size + 1) scope.names (cloFrom X.env.cells scope.names [])) fp
  have pb := hb s3 (upd H2 D (o0 D)) s3.heap.objs.size (cellsFrom (s3.heap.objs.size + 1) scope.names (cloFrom X.env.cells scope.names [])) fp D
  show codeAny _ _ (.compStart e 0 (.ref it) (.ref D) (compEnvC scope (cellsFrom (s3.heap.objs.size + 1) scope.names (cloFrom X.env.cells scope.names [])) s3.heap.objs.size X.env)) (compPost (model X.prog X.w) X.A X.xe use Qf (.ref D) s3.heap.objs.size) { s3 with heap := pushCells (s3.heap.push { cls := .type "dict", data := .dict #[] }) scope.names }
  have nfp : ∀ b ∈ fp, (upd H2 D (o0 D)) b = none := fun b hb => (f3 b hb).1.1
  generalize hce : compEnvC scope (cellsFrom (s3.heap.objs.size + 1) scope.names (cloFrom X.env.cells scope.names [])) s3.heap.objs.size X.env = ce at I4 pg pt pb ⊢
  have cL : ce.locals = s3.heap.objs.size := by subst hce; rfl
  generalize hH3 : upd H2 D (o0 D) = H3 at I3 I4 pg pt pb q nfp f3
  generalize hs4 : ({ s3 with heap := pushCells (s3.heap.push { cls := .type "dict", data := .dict #[] }) scope.names } : Shared) = s4 at I4 ⊢
  have st4 : tn 0 s4.heap := Tu.keep _ _ _ st3 fun b _ o e => by rw [← hs4]; exact pushCells_keeps _ _ _ _ (Heap.get?_push_of_some _ e)
  have stat : ∀ b ∈ fp, FpOk (X.blk s3 H3 scope ce fp) [] H3 b := fun b hb =>
    ⟨nfp b hb, (I4.ok.exf b hb).1, I4.ok.exfs b hb, .inl hb, fun x c e => (I4.ok.exf b hb).2 x c e, fun p hp => absurd (show p ∈ ([] : List (Addr × Obj)) ++ [] from hp) (by simp)⟩
  have loop := nest_loop (Y := X.blk s3 H3 scope ce fp) (k := 0) (D := D) (pins := []) (vs := own.map (·.2)) (σ := wipe σ (own.map (·.2))) (H := H3) (Nx := fun H' => Q (.ref D) H') (J := J) (fp := fp) (it := it) (tn := tn) (s := s4) (R := compPost (model X.prog X.w) X.A X.xe use Qf (.ref D) s3.heap.objs.size) (fun _ _ z => z) hc c rfl (fun g hg => hrest g (List.mem_of_getElem? (by simpa using hg))) pg pt pb hv I4 Tu st4 stat
    (by
      obtain ⟨W, w0, turn⟩ := q
      exact ⟨W, w0, fun i m H w => by rw [wipe_wipe]; exact turn i m H w⟩)
    fun s' H' I6 qq => by
      have I7 : Inv X pins σ H' s' := I3.call' (ch := fp) I6.os I6.base I6.hok I6.bare fun b hb => ⟨(f3 b hb).1.2.2.2.1, (f3 b hb).1.2.1, (f3 b hb).1.2.2.2.2.1, (f3 b hb).1.2.2.2.2.2⟩
      have nC : H' s3.heap.objs.size = none := by
        have z : H' ce.locals = none := I6.free
        rw [cL] at z
        exact z
      obtain ⟨m, hn, _⟩ := I6.loc
      have hn : s'.heap.Ns ce.locals m := hn
      rw [cL] at hn
      exact hRR D s3.heap.objs.size s' m H' I7 qq hn (I3.fpOk (Nat.le_refl _) nC)
  exact cp_start c rfl loop (Tu.self X.A 0 _ _ _ st4 loop)
end
end Dk
namespace Dk
open PySem L2
/-- all but the object at D -/
def dropA (H : Hp) (D : Addr) : Hp := fun b => if b = D then none else H b
theorem dropA_ne {H : Hp} {D b : Addr} (h : b ≠ D) : dropA H D b = H b := if_neg h
theorem dropA_at {H : Hp} {D b : Addr} {o : HO} (h : dropA H D b = some o) : b ≠ D ∧ H b = some o := by
  unfold dropA at h
  split at h
  · cases h
  · exact ⟨by assumption, h⟩
section
variable {W : Wd} {I H I' H' : Hp} {D : Addr} {F : Fx} {K : PySem.W.Frag} {ρ : DEnv} {σ : L2.St}
theorem StI.drop (s : StI W I H) (n : I D = none) (m : ¬ W.mv D) : StI W I (dropA H D) :=
  ⟨fun b o e => by rw [dropA_ne (ne_of_none e n)]; exact s.sub b o e, s.imm, W.frame (.refl _) (fun b hb => dropA_ne fun z => m (z ▸ hb)) s.inv⟩
theorem Stp.dropR (s : Stp W I (dropA H D) I' H') (n : I' D = none) (m : ¬ W.mv D) : Stp W I (dropA H D) I' (dropA H' D) :=
  ⟨s.i, s.st.drop n m, fun b o e k => by rw [dropA_ne (dropA_at e).1]; exact s.h b o e k, fun b o e k => s.new b o e k⟩
theorem Stp.dropL (s : Stp W I H I' H') (n : I' D = none) (m : ¬ W.mv D) : Stp W I (dropA H D) I' (dropA H' D) :=
  ⟨s.i, s.st.drop n m, fun b o e k => by rw [dropA_ne (dropA_at e).1]; exact s.h b o (dropA_at e).2 k, fun b o e k => s.new b o (dropA_at e).2 k⟩
theorem Stp.intro (s : Stp W I (dropA H D) I' (dropA H' D)) : Stp W I (dropA H D) I' H' := by
  refine ⟨s.i, ⟨fun b o e => (dropA_at (s.st.sub b o e)).2, s.st.imm, ?_⟩, fun b o e k => (dropA_at (s.h b o e k)).2, s.new⟩
  refine W.frame (.refl _) (fun b hb => ?_) s.st.inv
  by_cases hd : b = D
  · exact absurd (show dropA H' D b = none from if_pos hd) (W.live s.st.inv hb)
  · exact (dropA_ne hd).symm
/-- the object at D is written, still no one's -/
structure InD (F : Fx) (I H : Hp) (ρ : DEnv) (σ : L2.St) (D : Addr) : Prop where
  ni : I D = none
  nm : ¬ F.W.mv D
  nb : F.B D = none
  ap : Apart ρ σ D
theorem At.drop (a : At F K I ρ σ H) (d : InD F I H ρ σ D) : At F K I ρ σ (dropA H D) := by
  refine ⟨⟨a.stp.i, a.st.drop d.ni d.nm, fun b o e k => by rw [dropA_ne (ne_of_none e d.nb)]; exact a.stp.h b o e k, a.stp.new⟩, a.len, fun i e h => ?_, a.dis⟩
  obtain ⟨v, h1, h2⟩ := a.env i e h
  refine ⟨v, h1, ?_⟩
  rcases h2 with ⟨x, rfl, r⟩ | ⟨p, o, rfl, w⟩
  · exact .inl ⟨x, rfl, r⟩
  · exact .inr ⟨p, o, rfl, by rw [dropA_ne fun z => by subst z; exact d.ap i _ h w.rep.isOwn h1]; exact w.hp, w.rep, w.ni, w.nm, w.nb, w.ad⟩
theorem InD.step (d : InD F I H ρ σ D) (s : I' D = none) : InD F I' H' ρ σ D := ⟨s, d.nm, d.nb, d.ap⟩
theorem Apart.wipe (h : Apart ρ σ D) (vs : List Nat) : Apart (wipeD ρ vs) (wipe σ vs) D := fun i e he o hv => by
  obtain ⟨h1, h2⟩ := wipeD_some he
  exact h i e h1 o (wipe_some hv).1
theorem Apart.kept {ρ' : DEnv} {σ' : L2.St} {js : List Nat} (h : Apart ρ σ D) (k : Kept js ρ ρ') (o : Only js σ σ') : Apart ρ' σ' D := fun i e he ow hv => by
  obtain ⟨h1, h2⟩ := k i e he ow
  exact h i e h2 ow ((o.2 i h1).symm.trans hv)
end
/-- what is told of the object at D: β its state -/
abbrev HoldsD (β : Type) := Addr → PySem.W.Frag → Hp → HO → β → Prop
abbrev DNT (β : Type) := DEnv → β → (β → Prop) → Prop
def finN {β : Type} (F : Fx) (K : PySem.W.Frag) (Hd : HoldsD β) (D : Addr) (I H : Hp) (Nx : Hp → Prop) : β → Prop :=
  fun b => ∀ I' H' o, Stp F.W I (dropA H D) I' H' → H' D = some o → I' D = none → Hd D K I' o b → Nx H'
/-- the reading t stands for the raw reading T -/
def NSays {β : Type} (F : Fx) (K : PySem.W.Frag) (Hd : HoldsD β) (D : Addr) (t : DNT β) (T : TN) : Prop :=
  ∀ (I H : Hp) (ρ : DEnv) (σ : L2.St) (o : HO) (b : β) (Nx : Hp → Prop), At F K I ρ σ H → InD F I H ρ σ D → H D = some o → Hd D K I o b → t ρ b (finN F K Hd D I H Nx) → T σ H Nx
structure DNest (F : Fx) (Y : Cx) (e : Expr) (gens : List Comprehension) (emit : Value → Env → Sem Unit) (k : Nat) (vs : List Nat) {β : Type} (Hd : HoldsD β) (t : DNT β) : Prop where
  mono : ∀ ρ b (Q Q' : β → Prop), (∀ b, Q b → Q' b) → t ρ b Q → t ρ b Q'
  run : ∀ D, ∃ T, Nest Y e gens (emit (.ref D) Y.env) k D vs T ∧ NSays F Y.K Hd D t T
structure DEmit (F : Fx) (Y : Cx) (emit : Value → Env → Sem Unit) {β : Type} (Hd : HoldsD β) (t : DNT β) : Prop where
  mono : ∀ ρ b (Q Q' : β → Prop), (∀ b, Q b → Q' b) → t ρ b Q → t ρ b Q'
  run : ∀ D, ∃ T, Emit Y (emit (.ref D) Y.env) T ∧ NSays F Y.K Hd D t T
def loopD {β : Type} (g : DGT) (tc : DB) (t : DNT β) (ρ : DEnv) : List D → β → (β → Prop) → Prop
  | [], b, Q => Q b
  | d :: ds, b, Q => g d ρ fun ρ2 => tc ρ2 fun c => if c = true then t ρ2 b fun b' => loopD g tc t ρ ds b' Q else loopD g tc t ρ ds b Q
section
variable {F : Fx} {X Y : Cx} {K : PySem.W.Frag} {e tg iter : Expr} {ifs : List Expr} {gens rest : List Comprehension} {emit : Value → Env → Sem Unit} {k : Nat} {vs vs' js : List Nat} {β : Type} {Hd : HoldsD β} {t : DNT β} {ti : DAT} {g : DGT} {tc : DB}
theorem loopD.mono (hgm : ∀ d ρ (Q Q' : DEnv → Prop), (∀ ρ, Q ρ → Q' ρ) → g d ρ Q → g d ρ Q') (htm : ∀ ρ (Q Q' : Bool → Prop), (∀ d, Q d → Q' d) → tc ρ Q → tc ρ Q') (hm : ∀ ρ b (Q Q' : β → Prop), (∀ b, Q b → Q' b) → t ρ b Q → t ρ b Q') (ρ : DEnv) :
    ∀ (ds : List D) (b : β) (Q Q' : β → Prop), (∀ b, Q b → Q' b) → loopD g tc t ρ ds b Q → loopD g tc t ρ ds b Q'
  | [], b, Q, Q', k, h => k _ h
  | d :: ds, b, Q, Q', k, h => hgm _ _ _ _ (fun ρ2 q => htm _ _ _ (fun c q => by
      cases c
      · exact loopD.mono hgm htm hm ρ ds b _ _ k q
      · exact hm _ _ _ _ (fun b' => loopD.mono hgm htm hm ρ ds b' _ _ k) q) q) h
theorem dn_nil (hk : gens[k + 1]? = none) (h : DEmit F Y emit Hd t) : DNest F Y e gens emit k [] Hd t :=
  ⟨h.mono, fun D => let ⟨T, h1, h2⟩ := h.run D; ⟨T, nest_nil hk h1, h2⟩⟩
theorem loop_run {J : It} {I H : Hp} {ρ : DEnv} {σ : L2.St} {o : HO} {b : β} {D : Addr} {Nx : Hp → Prop} {T : TN} {ds : List Dk.D} (Hmono : ∀ D K I I' o b, Same I I' → Hd D K I o b → Hd D K I' o b)
    (hgm : DG F Y tg js g) (htm : ∀ ρ (Q Q' : Bool → Prop), (∀ d, Q d → Q' d) → tc ρ Q → tc ρ Q') (tm : ∀ ρ b (Q Q' : β → Prop), (∀ b, Q b → Q' b) → t ρ b Q → t ρ b Q') (says : NSays F K Hd D t T) (hjs : ∀ j ∈ js, j ∈ vs)
    (jr : JRep F.W K J I ds) (A : At F K I ρ σ H) (d : InD F I H ρ σ D) (hD : H D = some o) (hb : Hd D K I o b) (q : loopD g tc t (wipeD ρ vs) ds b (finN F K Hd D I H Nx)) :
    tLoop vs (rdG F K js g) (rdT F K tc) T J σ H Nx := by
  have s0 : Stp F.W I (dropA H D) I H := Stp.intro (A.st.drop d.ni d.nm).stp
  refine ⟨fun i m H2 => m = ds.length - i ∧ i ≤ ds.length ∧ ∃ I2 o2 b2, Stp F.W I (dropA H D) I2 H2 ∧ H2 D = some o2 ∧ I2 D = none ∧ Hd D K I2 o2 b2 ∧ loopD g tc t (wipeD ρ vs) (ds.drop i) b2 (finN F K Hd D I H Nx), ⟨ds.length, by simp, Nat.zero_le _, I, o, b, s0, hD, d.ni, hb, by simpa using q⟩, ?_⟩
  rintro i m H2 ⟨rfl, hi, I2, o2, b2, s2, hD2, n2, hb2, q2⟩
  have A0 := (A.drop d).wipe vs
  by_cases hlt : i < ds.length
  · refine .inr ⟨jr.go i I2 H2 s2.i s2.st hlt, fun H3 => ∃ I3 o3 b3, Stp F.W I (dropA H D) I3 H3 ∧ H3 D = some o3 ∧ I3 D = none ∧ Hd D K I3 o3 b3 ∧ loopD g tc t (wipeD ρ vs) (ds.drop (i + 1)) b3 (finN F K Hd D I H Nx), fun H3 h => ⟨ds.length - (i + 1), by omega, rfl, hlt, h⟩, fun x H3 y => ?_⟩
    obtain ⟨dx, I3, hd, s3, rx⟩ := jr.yld i I2 H2 x H3 hlt s2.i s2.st y
    rw [List.drop_eq_getElem_cons hlt] at q2
    have hdx : ds[i] = dx := by
      rw [List.getElem?_eq_getElem hlt] at hd
      exact Option.some.inj hd
    rw [hdx] at q2
    -- step over the turn's start
    have n3 : I3 D = none := s3.new D o2 hD2 n2
    have s23 : Stp F.W I (dropA H D) I3 H3 := Stp.intro ((s2.dropR n2 d.nm).trans (s3.dropL n3 d.nm))
    have A3 : At F K I3 (wipeD ρ vs) (wipe σ vs) H3 := A0.step s23
    have q2 : g dx (wipeD ρ vs) fun ρ2 => tc ρ2 fun c => if c = true then t ρ2 b2 fun b' => loopD g tc t (wipeD ρ vs) (ds.drop (i + 1)) b' (finN F K Hd D I H Nx) else loopD g tc t (wipeD ρ vs) (ds.drop (i + 1)) b2 (finN F K Hd D I H Nx) := q2
    refine ⟨I3, wipeD ρ vs, dx, A3, rx, hgm.mono _ _ _ _ (fun ρ4 ⟨q4, kp⟩ I4 σ4 H4 A4 s4 o4 => ⟨?_, ?_⟩) (hgm.keeps _ _ _ q2)⟩
    · rw [wipe_only o4 hjs, wipe_wipe]
    have d4 : H4 D = some o2 := s4.h _ _ (s3.h _ _ hD2 d.nm) d.nm
    have n4 : I4 D = none := s4.new _ _ (s3.h _ _ hD2 d.nm) n3
    have s24 : Stp F.W I (dropA H D) I4 H4 := Stp.intro ((s23.dropR n3 d.nm).trans (s4.dropL n4 d.nm))
    refine ⟨I4, ρ4, A4, htm _ _ _ (fun c q5 I5 H5 s5 => ?_) q4⟩
    have d5 : H5 D = some o2 := s5.h _ _ d4 d.nm
    have n5 : I5 D = none := s5.new _ _ d4 n4
    have s25 : Stp F.W I (dropA H D) I5 H5 := Stp.intro ((s24.dropR n4 d.nm).trans (s5.dropL n5 d.nm))
    have hb5 : Hd D K I5 o2 b2 := Hmono _ _ _ _ _ _ (Same.trans s3.i (Same.trans s4.i s5.i)) hb2
    cases c with
    | false => exact ⟨I5, o2, b2, s25, d5, n5, hb5, q5⟩
    | true =>
      refine says I5 H5 ρ4 σ4 o2 b2 _ (A4.step s5) ⟨n5, d.nm, d.nb, (d.ap.wipe vs).kept kp o4⟩ d5 hb5 (tm _ _ _ _ (fun b6 q6 I6 H6 o6 s6 d6 n6 hb6 => ?_) q5)
      exact ⟨I6, o6, b6, Stp.intro ((s25.dropR n5 d.nm).trans (s6.dropR n6 d.nm)), d6, n6, hb6, q6⟩
  · have e : i = ds.length := by omega
    subst e
    rw [List.drop_length] at q2
    have q2 : finN F K Hd D I H Nx b2 := q2
    exact .inl ⟨jr.stop I2 H2 s2.i s2.st, q2 I2 H2 o2 s2 hD2 n2 hb2⟩
theorem DI.raw (hi : DI F Y tg iter ti) : PI Y tg iter (rdI F Y.K ti) := hi.run
theorem dn_cons (hx : ∀ e s, ¬ Y.xe e s) (hc : Y.calm = true) (c : IsCp e gens emit) (hk : gens[k + 1]? = some ⟨tg, iter, ifs, 0⟩) (hn : ∀ g, gens[k + 1 + 1]? = some g → g.is_async = 0) (Hmono : ∀ D K I I' o b, Same I I' → Hd D K I o b → Hd D K I' o b)
    (hi : DI F Y tg iter ti) (hg : DG F Y tg js g) (ht : DIfs F Y ifs tc) (h : DNest F Y e gens emit (k + 1) vs' Hd t) (hs : ∀ x, foldedSetIterable iter Y.env x = pure x) :
    DNest F Y e gens emit k (js ++ vs') Hd (fun ρ b Q => ti ρ fun ds => loopD g tc t (wipeD ρ (js ++ vs')) ds b Q) := by
  refine ⟨fun ρ b Q Q' k q => hi.mono _ _ _ (fun ds => loopD.mono hg.mono ht.mono h.mono _ ds b _ _ k) q, fun D => ?_⟩
  obtain ⟨T, h1, h2⟩ := h.run D
  refine ⟨_, nest_cons hx hc c hk hn hi.run hg.run ht.run h1 (vs := js ++ vs') (fun i hi => List.mem_append_right _ hi) hs, fun I H ρ σ o b Nx A d hD hb q => ?_⟩
  refine ⟨I, ρ, A, hi.mono _ _ _ (fun ds q J I' H' s jr => ?_) q⟩
  have hD' := s.h _ _ hD d.nm
  have n' := s.new _ _ hD d.ni
  refine loop_run Hmono hg ht.mono h.mono h2 (fun j hj => List.mem_append_left _ hj) jr (A.step s) ⟨n', d.nm, d.nb, d.ap⟩ hD' (Hmono _ _ _ _ _ _ s.i hb) (loopD.mono hg.mono ht.mono h.mono _ _ _ _ _ (fun b2 q2 I2 H2 o2 s2 d2 n2 hb2 => q2 I2 H2 o2 (Stp.intro ((s.dropL n' d.nm).trans (s2.dropR n2 d.nm))) d2 n2 hb2) q)
end
def HdL : HoldsD (List D) := fun _ K I o ds => ∃ vs, o = .lst vs ∧ Reps K I vs ds
def HdK : HoldsD (List (Key × D)) := fun _ K I o ds => ∃ kvs, o = .dK kvs ∧ kvs.map (·.1) = ds.map (·.1) ∧ Reps K I (kvs.map (·.2)) (ds.map (·.2))
theorem HdL.mono : ∀ (D : Addr) (K : PySem.W.Frag) (I I' : Hp) (o : HO) (b : List Dk.D), Same I I' → HdL D K I o b → HdL D K I' o b := fun D K I I' o b s ⟨vs, e, r⟩ => ⟨vs, e, r.mono s⟩
theorem HdK.mono : ∀ (D : Addr) (K : PySem.W.Frag) (I I' : Hp) (o : HO) (b : List (Key × Dk.D)), Same I I' → HdK D K I o b → HdK D K I' o b := fun D K I I' o b s ⟨vs, e, k, r⟩ => ⟨vs, e, k, r.mono s⟩
def putD (kvs : List (Key × D)) (k : Key) (d : D) : List (Key × D) :=
  if (kvs.any fun kv => decide (kv.1 = k)) = true then kvs.map fun kv => if kv.1 = k then (kv.1, d) else kv else kvs ++ [(k, d)]
theorem any_keys {α : Type} (k : Key) (kvs : List (Key × α)) : (kvs.any fun kv => decide (kv.1 = k)) = (kvs.map (·.1)).any fun j => decide (j = k) := by
  rw [List.any_map]
  rfl
theorem putD_rep {K : PySem.W.Frag} {I : Hp} {v : V} {d : D} {k : Key} (rv : Rep K I v d) {kvs : List (Key × V)} {ds : List (Key × D)} (h : kvs.map (·.1) = ds.map (·.1)) (r : Reps K I (kvs.map (·.2)) (ds.map (·.2))) :
    (putK kvs k v).map (·.1) = (putD ds k d).map (·.1) ∧ Reps K I ((putK kvs k v).map (·.2)) ((putD ds k d).map (·.2)) := by
  have e : (kvs.any fun kv => decide (kv.1 = k)) = ds.any fun kv => decide (kv.1 = k) := by rw [any_keys, any_keys, h]
  unfold putK putD
  rw [e]
  split
  · have m : ∀ {kvs : List (Key × V)} {ds : List (Key × D)}, kvs.map (·.1) = ds.map (·.1) → Reps K I (kvs.map (·.2)) (ds.map (·.2)) →
        ((kvs.map fun kv => if kv.1 = k then (kv.1, v) else kv).map (·.1) = (ds.map fun kv => if kv.1 = k then (kv.1, d) else kv).map (·.1) ∧ Reps K I ((kvs.map fun kv => if kv.1 = k then (kv.1, v) else kv).map (·.2)) ((ds.map fun kv => if kv.1 = k then (kv.1, d) else kv).map (·.2))) := by
      intro kvs
      induction kvs with
      | nil => intro ds h _; cases ds with | nil => exact ⟨rfl, .nil⟩ | cons _ _ => simp at h
      | cons p kvs ih =>
        intro ds h r
        cases ds with
        | nil => simp at h
        | cons q ds =>
          obtain ⟨i, x⟩ := p
          obtain ⟨j, y⟩ := q
          simp only [List.map_cons, List.cons.injEq] at h
          obtain ⟨rfl, h⟩ := h
          cases r with
          | cons r1 r2 =>
            obtain ⟨a, b⟩ := ih h r2
            by_cases e : i = k
            · simp only [List.map_cons, e, if_true]
              exact ⟨by rw [a], .cons rv b⟩
            · simp only [List.map_cons, e, if_false]
              exact ⟨by rw [a], .cons r1 b⟩
    exact m h r
  · simp only [List.map_append, h]
    exact ⟨rfl, r.append (.cons rv .nil)⟩
section
variable {F : Fx} {Y : Cx} {elt kx vx : Expr} {te tk tv : DT}
theorem dm_list (hx : ∀ e s, ¬ Y.xe e s) (h : DE F Y elt te) : DEmit F Y (fun acc env => do let _ ← call (.builtin "list.append") [acc, ← eval elt env]) HdL (fun ρ b Q => te ρ fun y => b.length < sizeLine ∧ Q (b ++ [y])) := by
  refine ⟨fun ρ b Q Q' k q => h.mono _ _ _ (fun d q => ⟨q.1, k _ q.2⟩) q, fun D => ⟨fun σ H Nx => rdE F Y.K te σ H fun y H2 => ∃ acc, H2 D = some (.lst acc) ∧ acc.length < sizeLine ∧ Nx (upd H2 D (.lst (acc ++ [y]))), ⟨fun pins s σ H Nx J q => ?_⟩, ?_⟩⟩
  · refine wpAny_bind (wpAny_mono (h.run.run pins s σ H _ J q) (fun u s2 ⟨y, H2, J2, ry, acc, hD, hz, nx⟩ => ?_) fun e s' z => (hx e s' z).elim)
    exact wpAny_bind (app_ok J2 hD hz ry fun s3 J3 => wpAny_pure ⟨_, J3, nx⟩)
  · rintro I H ρ σ o b Nx A d hD ⟨vs, rfl, r⟩ q
    refine rdE_next h.mono A q fun y v I2 H2 q2 s rv => ?_
    refine ⟨vs, s.h _ _ hD d.nm, by rw [r.length]; exact q2.1, q2.2 I2 _ _ ?_ upd_same (s.new _ _ hD d.ni) ⟨_, rfl, (r.mono s.i).append (.cons rv .nil)⟩⟩
    have n2 := s.new _ _ hD d.ni
    refine Stp.intro ?_
    have e : dropA (upd H2 D (.lst (vs ++ [v]))) D = dropA H2 D := by
      funext b
      unfold dropA
      split
      · rfl
      · rw [upd_ne (by assumption)]
    rw [e]
    exact s.dropL n2 d.nm
theorem drop_upd {H : Hp} {D : Addr} {o : HO} : dropA (upd H D o) D = dropA H D := by
  funext b
  unfold dropA
  split
  · rfl
  · rw [upd_ne (by assumption)]
theorem dm_dict (hx : ∀ e s, ¬ Y.xe e s) (hk : DE F Y kx tk) (hv : DE F Y vx tv) : DEmit F Y (fun acc env => do
    let kv ← eval kx env
    let vv ← holding [kv] (eval vx env)
    match acc with
    | .ref d => do
      standAt { kx.pos with endLine := vx.pos.endLine, endCol := vx.pos.endCol }
      holding [kv, vv] (dictSet d kv vv)
    | _ => unsupported "internal:dictcomp") HdK (fun ρ b Q => tk ρ fun y => tv ρ fun z => ∃ k, y = keyD k ∧ b.length < sizeLine ∧ Q (putD b k z)) := by
  refine ⟨fun ρ b Q Q' k q => hk.mono _ _ _ (fun d q => hv.mono _ _ _ (fun z ⟨k0, e, l, q⟩ => ⟨k0, e, l, k _ q⟩) q) q,
    fun D => ⟨fun σ H Nx => rdE F Y.K tk σ H fun y H2 => ∃ I2 ρ2, At F Y.K I2 ρ2 σ H2 ∧ tv ρ2 (fin F Y.K I2 H2 fun z H3 => ∃ kvs k, y = kV k ∧ H3 D = some (.dK kvs) ∧ kvs.length < sizeLine ∧ Nx (upd H3 D (.dK (putK kvs k z)))), ⟨fun pins s σ H Nx J q => ?_⟩, ?_⟩⟩
  · refine wpAny_bind (wpAny_mono (hk.run.run pins s σ H _ J q) (fun u s2 ⟨y, H2, J2, ry, q2⟩ => ?_) fun e s' z => (hx e s' z).elim)
    refine wpAny_bind (wpAny_holding (wpAny_mono (hv.run.run pins s2 σ H2 _ J2 q2) (fun u2 s3 ⟨z, H3, J3, rz, kvs, k, e, hD, hz, nx⟩ => ?_) fun e s' z => (hx e s' z).elim))
    subst e
    exact wpAny_bind (wpAny_standAt (wpAny_holding (d_dictSet J3 hD hz ry rz fun s4 J4 => ⟨_, J4, nx⟩)))
  · rintro I H ρ σ o b Nx A d hD ⟨kvs, rfl, kk, r⟩ q
    refine rdE_next hk.mono A q fun y v I2 H2 q2 s rv => ⟨I2, ρ, A.step s, hv.mono _ _ _ (fun z q3 v3 I3 H3 s3 rz => ?_) q2⟩
    obtain ⟨k0, rfl, l, q3⟩ := q3
    have st := s.trans s3
    have n3 := st.new _ _ hD d.ni
    have ll : kvs.length = b.length := by simpa using congrArg List.length kk
    obtain ⟨a1, a2⟩ := putD_rep (k := k0) rz kk (r.mono st.i)
    refine ⟨kvs, k0, keyD_rep rv, st.h _ _ hD d.nm, by omega, q3 I3 _ _ (Stp.intro ?_) upd_same n3 ⟨_, rfl, a1, a2⟩⟩
    rw [drop_upd]
    exact st.dropL n3 d.nm
end
def rdN {β : Type} (F : Fx) (K : PySem.W.Frag) (Hd : HoldsD β) (D : Addr) (t : DNT β) : TN := fun σ H Nx => ∃ I ρ o b, At F K I ρ σ H ∧ InD F I H ρ σ D ∧ H D = some o ∧ Hd D K I o b ∧ t ρ b (finN F K Hd D I H Nx)
theorem DNest.nest {F : Fx} {Y : Cx} {e : Expr} {gens : List Comprehension} {emit : Value → Env → Sem Unit} {k : Nat} {vs : List Nat} {β : Type} {Hd : HoldsD β} {t : DNT β} (h : DNest F Y e gens emit k vs Hd t) (D : Addr) : Nest Y e gens (emit (.ref D) Y.env) k D vs (rdN F Y.K Hd D t) := by
  obtain ⟨T, h1, h2⟩ := h.run D
  exact ⟨fun pins s σ H Nx J ⟨I, ρ, o, b, A, d, hD, hb, q⟩ => h1.run pins s σ H Nx J (h2 I H ρ σ o b Nx A d hD hb q)⟩
theorem rdN_says {F : Fx} {K : PySem.W.Frag} {β : Type} {Hd : HoldsD β} {D : Addr} {t : DNT β} : NSays F K Hd D t (rdN F K Hd D t) := fun I H ρ σ o b Nx A d hD hb q => ⟨I, ρ, o, b, A, d, hD, hb, q⟩
section
variable {F : Fx} {X : Cx} {K : PySem.W.Frag} {e elt kx vx tg iter : Expr} {ifs : List Expr} {rest : List Comprehension} {emit : Value → Env → Sem Unit} {vs' js : List Nat} {β : Type} {Hd : HoldsD β} {t : DNT β} {ti : DAT} {g : DGT} {tc : DB} {scope : Scope} {own : List (Str × Nat)} {ob0 : Obj} {o0 : Addr → HO} {newAcc : Sem Value} {pos pos' spos : Pos}
/-- the reading of the whole -/
theorem cp_read {σ : L2.St} {H : Hp} {Q Q1 : VK} {b0 : β} {vs : List Nat} {fd : β → (D → Prop) → Prop} (Hmono : ∀ D K I I' o b, Same I I' → Hd D K I o b → Hd D K I' o b) (him : ∀ ρ (Q Q' : List D → Prop), (∀ d, Q d → Q' d) → ti ρ Q → ti ρ Q') (hgm : DG F X tg js g) (htm : ∀ ρ (Q Q' : Bool → Prop), (∀ d, Q d → Q' d) → tc ρ Q → tc ρ Q')
    (tm : ∀ ρ b (Q Q' : β → Prop), (∀ b, Q b → Q' b) → t ρ b Q → t ρ b Q') (hjs : ∀ j ∈ js, j ∈ vs) (h0 : ∀ D I, Hd D K I (o0 D) b0) (q : rdE F K (fun ρ Q => ti ρ fun ds => loopD g tc t (wipeD ρ vs) ds b0 fun b => fd b Q) σ H Q)
    (hfin : ∀ (D : Addr) (I H : Hp) (o : HO) (b : β), I D = none → ¬ F.W.mv D → H D = some o → Hd D K I o b → StI F.W I H → fd b (fun d => ∀ v I' H', Stp F.W I H I' H' ∨ (I' = upd I D o ∧ H' = H) → Rep K I' v d → Q v H') → Q1 (.ref D) H)
    (hfm : ∀ b (Q Q' : D → Prop), (∀ d, Q d → Q' d) → fd b Q → fd b Q') :
    tCp o0 (rdI F K ti) vs (rdG F K js g) (rdT F K tc) (fun D => rdN F K Hd D t) σ H Q1 := by
  obtain ⟨I, ρ, A, q⟩ := q
  refine ⟨I, ρ, A, him _ _ _ (fun ds q J I1 H1 s1 jr D hD => ?_) q⟩
  have A1 := A.step s1
  have m1 : ¬ F.W.mv D := fun m => F.W.live s1.st.inv m hD
  have n1 := s1.st.free hD
  have b1 : F.B D = none := by
    cases z : F.B D with
    | none => rfl
    | some u => have := A1.stp.h _ _ z m1; rw [hD] at this; cases this
  have ap := A1.apart hD
  have A2 := A1.write (o0 D) n1 m1 b1 ap
  have hn : H D = none := by
    cases z : H D with
    | none => rfl
    | some u => have := s1.h _ _ z m1; rw [hD] at this; cases this
  refine loop_run Hmono hgm htm tm rdN_says hjs ?_ A2 ⟨n1, m1, b1, ap⟩ upd_same (h0 D I1) (loopD.mono hgm.mono htm tm _ _ _ _ _ (fun b qb I2 H2 o2 s2 d2 n2 hb2 => ?_) q)
  · exact jr
  · have sd : dropA (upd H1 D (o0 D)) D = H1 := by
      rw [drop_upd]
      funext c
      unfold dropA
      split
      · rw [(by assumption : c = D), hD]
      · rfl
    rw [sd] at s2
    refine hfin D I2 H2 o2 b n2 m1 d2 hb2 s2.st (hfm _ _ _ (fun d qd v I' H' st rv => ?_) qb)
    rcases st with st | ⟨rfl, rfl⟩
    · exact qd v I' H' ((s1.trans s2).trans st) rv
    · exact qd v _ _ ((s1.trans s2).freeze n2 m1 hn d2) rv
theorem pe_cp {wi : TI} {gg : TG} {tt : TT} {T : Addr → TN} (hev : eval e X.env = comprehension e scope X.env pos' newAcc false (eval iter X.env)) (c : IsCp e (⟨tg, iter, ifs, 0⟩ :: rest) emit)
    (hnw : ∀ {A : Around} {E : Value → Shared → Prop} {Q : Value → Shared → Prop} {s : Shared}, Q (.ref s.heap.objs.size) { s with heap := s.heap.push ob0 } → wpAny (model X.prog X.w) A newAcc Q E s)
    (hob : ∀ (pins : List (Addr × Obj)) (σ : L2.St) (H : Hp) (s : Shared), Inv X pins σ H s → ObjOk X.prog X.w (upd H s.heap.objs.size (o0 s.heap.objs.size)) (s.heap.push ob0) s.heap.objs.size (o0 s.heap.objs.size))
    (hc : X.calm = true) (hN : X.N.Nodup) (hi : PI X tg iter wi) (ok : BlkOk X.N X.env.scope scope own) (hrest : ∀ g ∈ rest, g.is_async = 0) (hv : ∀ i ∈ vs', i ∈ own.map (·.2))
    (hg : ∀ (s : Shared) (H : Hp) (C : Addr) (cl : List (Str × Addr)) (fp : List Addr), PG (X.blk s H scope (compEnvC scope cl C X.env) fp) tg gg) (ht : ∀ (s : Shared) (H : Hp) (C : Addr) (cl : List (Str × Addr)) (fp : List Addr), PTs (X.blk s H scope (compEnvC scope cl C X.env) fp) ifs tt)
    (hb : ∀ (s : Shared) (H : Hp) (C : Addr) (cl : List (Str × Addr)) (fp : List Addr) (D : Addr), Nest (X.blk s H scope (compEnvC scope cl C X.env) fp) e (⟨tg, iter, ifs, 0⟩ :: rest) (emit (.ref D) (compEnvC scope cl C X.env)) 0 D vs' (T D))
    (hs : ∀ x, foldedSetIterable iter X.env x = pure x) : PE X e (tCp o0 wi (own.map (·.2)) gg tt T) := by
  refine ⟨fun pins s σ H Q I h => ?_⟩
  rw [hev]
  refine cp_core c hnw hob hc hN I hi ok hrest hv hg ht hb hs h fun D C s' m H' I' q hn f => ⟨m, hn, fun h'' sb => ?_⟩
  obtain ⟨f0, f1, f2, f3, f4, f5⟩ := f
  exact ⟨.ref D, H', I'.turned (t' := s'.toks) (fun b o hb e => (sb.2 b hb).trans e) f0 f1 f3 f4 f5, rfl, q⟩
theorem ps_setCp {wi : TI} {gg : TG} {tt : TT} {T : Addr → TN} {i : Nat} {y : Str} {py : Pos} (hev : evalThenUse e X.env (assign (.Name y py) X.env) = (do let _ ← comprehension e scope X.env pos' newAcc false (eval iter X.env) (some (assign (.Name y py) X.env)))) (c : IsCp e (⟨tg, iter, ifs, 0⟩ :: rest) emit)
    (hnw : ∀ {A : Around} {E : Value → Shared → Prop} {Q : Value → Shared → Prop} {s : Shared}, Q (.ref s.heap.objs.size) { s with heap := s.heap.push ob0 } → wpAny (model X.prog X.w) A newAcc Q E s)
    (hob : ∀ (pins : List (Addr × Obj)) (σ : L2.St) (H : Hp) (s : Shared), Inv X pins σ H s → ObjOk X.prog X.w (upd H s.heap.objs.size (o0 s.heap.objs.size)) (s.heap.push ob0) s.heap.objs.size (o0 s.heap.objs.size))
    (hc : X.calm = true) (hN : X.N.Nodup) (hy : X.N[i]? = some y) (hyl : X.env.scope.names.lookup y = some .local) (hsw : swapsWith e (some (.Name y py)) spos.line X.env = pure true)
    (hi : PI X tg iter wi) (ok : BlkOk X.N X.env.scope scope own) (hrest : ∀ g ∈ rest, g.is_async = 0) (hv : ∀ i ∈ vs', i ∈ own.map (·.2))
    (hg : ∀ (s : Shared) (H : Hp) (C : Addr) (cl : List (Str × Addr)) (fp : List Addr), PG (X.blk s H scope (compEnvC scope cl C X.env) fp) tg gg) (ht : ∀ (s : Shared) (H : Hp) (C : Addr) (cl : List (Str × Addr)) (fp : List Addr), PTs (X.blk s H scope (compEnvC scope cl C X.env) fp) ifs tt)
    (hb : ∀ (s : Shared) (H : Hp) (C : Addr) (cl : List (Str × Addr)) (fp : List Addr) (D : Addr), Nest (X.blk s H scope (compEnvC scope cl C X.env) fp) e (⟨tg, iter, ifs, 0⟩ :: rest) (emit (.ref D) (compEnvC scope cl C X.env)) 0 D vs' (T D))
    (hs : ∀ x, foldedSetIterable iter X.env x = pure x) : PS X (.Assign [.Name y py] e spos) (tAsg (tCp o0 wi (own.map (·.2)) gg tt T) (gName i)) := by
  refine ⟨fun pins s σ H Z I h => ?_⟩
  rw [exec_Assign_Name_used _ _ _ _ hsw, hev]
  refine wpAny_bind (wpAny_standAt (wpAny_bind ?_))
  have h : tCp o0 wi (own.map (·.2)) gg tt T σ H (fun x H1 => gName i x σ H1 Z.nx) := h
  refine wpAny_bind (thn (cp_core (Qf := fun _ s' => SP X pins Z .next s') c hnw hob hc hN I hi ok hrest hv hg ht hb hs h fun L C s' m H' I' q hn f => ?_) fun _ s' hq => wpAny_pure (wpAny_pure hq))
  show wpAny _ _ (assign (.Name y py) X.env (.ref L)) _ _ _
  refine wpAny_assign_Name (store_ok2 (v := V.ref L) I' hN hy (.inl hyl) rfl (fun s2 I2 ⟨a, sb, ha⟩ => ?_) (.inr hyl))
  obtain ⟨f0, f1, f2, f3, f4, f5⟩ := f
  have ne : C ≠ a := by
    rcases ha with z | z
    · rw [z]; exact f1
    · intro e; exact f4 y a z e.symm
  exact ⟨m, hn.sameBut sb ne, fun h3 sb3 => ⟨_, H', I2.turned (t' := s2.toks) (fun b o hb e => (sb3.2 b hb).trans e) f0 f1 f3 f4 f5, q⟩⟩
theorem nw_list {M : Model} {A : Around} {E : Value → Shared → Prop} {Q : Value → Shared → Prop} {s : Shared} (h : Q (.ref s.heap.objs.size) { s with heap := s.heap.push { cls := .type "list", data := .seq ([] : List Value).toArray } }) : wpAny M A (newList []) Q E s :=
  wpAny_newObj_type h (by show 0 ≤ sizeLine; decide)
theorem ob_list (pins : List (Addr × Obj)) (σ : L2.St) (H : Hp) (s : Shared) (I : Inv X pins σ H s) : ObjOk X.prog X.w (upd H s.heap.objs.size (.lst [])) (s.heap.push { cls := .type "list", data := .seq ([] : List Value).toArray }) s.heap.objs.size (.lst []) := ⟨Nat.zero_le _, [], 0, .nil, Heap.get?_push_size _ rfl⟩
theorem nw_dict {M : Model} {A : Around} {E : Value → Shared → Prop} {Q : Value → Shared → Prop} {s : Shared} (h : Q (.ref s.heap.objs.size) { s with heap := s.heap.push { cls := .type "dict", data := .dict #[] } }) : wpAny M A newDict Q E s :=
  wpAny_newObj_type h
theorem ob_dict (pins : List (Addr × Obj)) (σ : L2.St) (H : Hp) (s : Shared) (I : Inv X pins σ H s) : ObjOk X.prog X.w (upd H s.heap.objs.size (.dK [])) (s.heap.push { cls := .type "dict", data := .dict #[] }) s.heap.objs.size (.dK []) := dk_empty s.heap I.big
theorem rd_cpL {σ : L2.St} {H : Hp} {Q : VK} {vs : List Nat} {t : DNT (List D)} (him : ∀ ρ (Q Q' : List D → Prop), (∀ d, Q d → Q' d) → ti ρ Q → ti ρ Q') (hgm : DG F X tg js g) (htm : ∀ ρ (Q Q' : Bool → Prop), (∀ d, Q d → Q' d) → tc ρ Q → tc ρ Q') (tm : ∀ ρ b (Q Q' : List D → Prop), (∀ b, Q b → Q' b) → t ρ b Q → t ρ b Q')
    (hjs : ∀ j ∈ js, j ∈ vs) (q : rdE F K (fun ρ Q => ti ρ fun ds => loopD g tc t (wipeD ρ vs) ds [] fun ys => Q (.lst ys)) σ H Q) : tCp (fun _ => .lst []) (rdI F K ti) vs (rdG F K js g) (rdT F K tc) (fun D => rdN F K HdL D t) σ H Q :=
  cp_read (fd := fun ys Q => Q (.lst ys)) HdL.mono him hgm htm tm hjs (fun D I => ⟨[], rfl, .nil⟩) q (fun D I H o b n m hD hb st h => by
    obtain ⟨ws, rfl, r⟩ := hb
    exact h _ _ _ (.inr ⟨rfl, rfl⟩) (.lst upd_same (r.mono (Same.laid n)))) fun b Q Q' k h => k _ h
theorem rd_cpD {σ : L2.St} {H : Hp} {Q : VK} {vs : List Nat} {t : DNT (List (Key × D))} (him : ∀ ρ (Q Q' : List D → Prop), (∀ d, Q d → Q' d) → ti ρ Q → ti ρ Q') (hgm : DG F X tg js g) (htm : ∀ ρ (Q Q' : Bool → Prop), (∀ d, Q d → Q' d) → tc ρ Q → tc ρ Q') (tm : ∀ ρ b (Q Q' : List (Key × D) → Prop), (∀ b, Q b → Q' b) → t ρ b Q → t ρ b Q')
    (hjs : ∀ j ∈ js, j ∈ vs) (q : rdE F K (fun ρ Q => ti ρ fun ds => loopD g tc t (wipeD ρ vs) ds [] fun ys => Q (.dic ys)) σ H Q) : tCp (fun _ => .dK []) (rdI F K ti) vs (rdG F K js g) (rdT F K tc) (fun D => rdN F K HdK D t) σ H Q :=
  cp_read (fd := fun ys Q => Q (.dic ys)) HdK.mono him hgm htm tm hjs (fun D I => ⟨[], rfl, rfl, .nil⟩) q (fun D I H o b n m hD hb st h => by
    obtain ⟨ws, rfl, k, r⟩ := hb
    exact h _ _ _ (.inr ⟨rfl, rfl⟩) (.dic upd_same k (r.mono (Same.laid n)))) fun b Q Q' k h => k _ h
abbrev AllBlk (X : Cx) (scope : Scope) (p : Cx → Prop) : Prop := ∀ (s : Shared) (H : Hp) (C : Addr) (cl : List (Str × Addr)) (fp : List Addr), p (X.blk s H scope (compEnvC scope cl C X.env) fp)
theorem AllBlk.one {scope : Scope} {p : Cx → Prop} (h : AllBlk X scope p) : p (X.blk X.s_0 X.H_0 scope (compEnvC scope [] 0 X.env) []) := h _ _ _ _ _
/-- [.. for .. in .. ..] -/
theorem de_cpL {t : DNT (List D)} (hc : X.calm = true) (hN : X.N.Nodup) (hi : DI F X tg iter ti) (ok : BlkOk X.N X.env.scope scope own) (hg : AllBlk X scope fun Y => DG F Y tg js g) (ht : AllBlk X scope fun Y => DIfs F Y ifs tc)
    (hb : AllBlk X scope fun Y => DNest F Y (.ListComp elt (⟨tg, iter, ifs, 0⟩ :: rest) scope pos) (⟨tg, iter, ifs, 0⟩ :: rest) (fun acc env => do let _ ← call (.builtin "list.append") [acc, ← eval elt env]) 0 vs' HdL t)
    (hjs : ∀ j ∈ js ++ vs', j ∈ own.map (·.2) := by decide) (hrest : (rest.all fun g => g.is_async == 0) = true := by rfl) (hs : ∀ x, foldedSetIterable iter X.env x = pure x := by intro _; rfl) :
    DE F X (.ListComp elt (⟨tg, iter, ifs, 0⟩ :: rest) scope pos) (fun ρ Q => ti ρ fun ds => loopD g tc t (wipeD ρ (own.map (·.2))) ds [] fun ys => Q (.lst ys)) := by
  have hr : ∀ g ∈ rest, g.is_async = 0 := fun g h => by simpa using List.all_eq_true.mp hrest g h
  have g1 := hg.one
  have t1 := ht.one
  have b1 := hb.one
  refine ⟨fun ρ Q Q' k q => hi.mono _ _ _ (fun ds => loopD.mono g1.mono t1.mono b1.mono _ ds _ _ _ fun ys => k _) q, (pe_cp (o0 := fun _ => .lst []) (gg := rdG F X.K js g) (tt := rdT F X.K tc) (T := fun D => rdN F X.K HdL D t) rfl (cp_list _ _ _ _) nw_list ob_list hc hN hi.run ok hr (fun j hj => hjs j (List.mem_append_right _ hj)) (fun s H C cl fp => (hg s H C cl fp).run) (fun s H C cl fp => (ht s H C cl fp).run) (fun s H C cl fp D => (hb s H C cl fp).nest D) hs).imp fun σ H Q q => ?_⟩
  exact rd_cpL hi.mono g1 t1.mono b1.mono (fun j hj => hjs j (List.mem_append_left _ hj)) q
theorem ds_setCpL {t : DNT (List D)} {i : Nat} {y : Str} {py : Pos} (hc : X.calm = true) (hN : X.N.Nodup) (hy : X.N[i]? = some y) (hyl : X.env.scope.names.lookup y = some .local) (hsw : swapsWith (.ListComp elt (⟨tg, iter, ifs, 0⟩ :: rest) scope pos) (some (.Name y py)) spos.line X.env = pure true)
    (hi : DI F X tg iter ti) (ok : BlkOk X.N X.env.scope scope own) (hg : AllBlk X scope fun Y => DG F Y tg js g) (ht : AllBlk X scope fun Y => DIfs F Y ifs tc)
    (hb : AllBlk X scope fun Y => DNest F Y (.ListComp elt (⟨tg, iter, ifs, 0⟩ :: rest) scope pos) (⟨tg, iter, ifs, 0⟩ :: rest) (fun acc env => do let _ ← call (.builtin "list.append") [acc, ← eval elt env]) 0 vs' HdL t)
    (hjs : ∀ j ∈ js ++ vs', j ∈ own.map (·.2) := by decide) (hrest : (rest.all fun g => g.is_async == 0) = true := by rfl) (hs : ∀ x, foldedSetIterable iter X.env x = pure x := by intro _; rfl) :
    DSt F X (.Assign [.Name y py] (.ListComp elt (⟨tg, iter, ifs, 0⟩ :: rest) scope pos) spos) (fun Z ρ => ti ρ fun ds => loopD g tc t (wipeD ρ (own.map (·.2))) ds [] fun ys => Z.nx (ρ.set i (some (.dat (.lst ys))))) := by
  have hr : ∀ g ∈ rest, g.is_async = 0 := fun g h => by simpa using List.all_eq_true.mp hrest g h
  have g1 := hg.one
  have t1 := ht.one
  have b1 := hb.one
  refine ⟨fun Z Z' ρ l q => hi.mono _ _ _ (fun ds => loopD.mono g1.mono t1.mono b1.mono _ ds _ _ _ fun ys => l.nx _) q, (ps_setCp (o0 := fun _ => .lst []) (gg := rdG F X.K js g) (tt := rdT F X.K tc) (T := fun D => rdN F X.K HdL D t) rfl (cp_list _ _ _ _) nw_list ob_list hc hN hy hyl hsw hi.run ok hr (fun j hj => hjs j (List.mem_append_right _ hj)) (fun s H C cl fp => (hg s H C cl fp).run) (fun s H C cl fp => (ht s H C cl fp).run) (fun s H C cl fp D => (hb s H C cl fp).nest D) hs).imp fun Z σ H ⟨I, ρ, A, q⟩ => ?_⟩
  refine rd_cpL (Q := fun x H1 => gName i x σ H1 Z.nx) hi.mono g1 t1.mono b1.mono (fun j hj => hjs j (List.mem_append_left _ hj)) ⟨I, ρ, A, hi.mono _ _ _ (fun ds => loopD.mono g1.mono t1.mono b1.mono _ ds _ _ _ fun ys q v I' H' s rv => ?_) q⟩
  exact q I' _ H' s.i ((A.step s).set rv)
/-- {k: v for .. in .. ..} -/
theorem de_cpD {t : DNT (List (Key × D))} (hc : X.calm = true) (hN : X.N.Nodup) (hi : DI F X tg iter ti) (ok : BlkOk X.N X.env.scope scope own) (hg : AllBlk X scope fun Y => DG F Y tg js g) (ht : AllBlk X scope fun Y => DIfs F Y ifs tc)
    (hb : AllBlk X scope fun Y => DNest F Y (.DictComp kx vx (⟨tg, iter, ifs, 0⟩ :: rest) scope pos) (⟨tg, iter, ifs, 0⟩ :: rest) (fun acc env => do
      let kv ← eval kx env
      let vv ← holding [kv] (eval vx env)
      match acc with
      | .ref d => do
        standAt { kx.pos with endLine := vx.pos.endLine, endCol := vx.pos.endCol }
        holding [kv, vv] (dictSet d kv vv)
      | _ => unsupported "internal:dictcomp") 0 vs' HdK t)
    (hjs : ∀ j ∈ js ++ vs', j ∈ own.map (·.2) := by decide) (hrest : (rest.all fun g => g.is_async == 0) = true := by rfl) (hs : ∀ x, foldedSetIterable iter X.env x = pure x := by intro _; rfl) :
    DE F X (.DictComp kx vx (⟨tg, iter, ifs, 0⟩ :: rest) scope pos) (fun ρ Q => ti ρ fun ds => loopD g tc t (wipeD ρ (own.map (·.2))) ds [] fun ys => Q (.dic ys)) := by
  have hr : ∀ g ∈ rest, g.is_async = 0 := fun g h => by simpa using List.all_eq_true.mp hrest g h
  have g1 := hg.one
  have t1 := ht.one
  have b1 := hb.one
  refine ⟨fun ρ Q Q' k q => hi.mono _ _ _ (fun ds => loopD.mono g1.mono t1.mono b1.mono _ ds _ _ _ fun ys => k _) q, (pe_cp (o0 := fun _ => .dK []) (gg := rdG F X.K js g) (tt := rdT F X.K tc) (T := fun D => rdN F X.K HdK D t) rfl (cp_dict _ _ _ _ _) nw_dict ob_dict hc hN hi.run ok hr (fun j hj => hjs j (List.mem_append_right _ hj)) (fun s H C cl fp => (hg s H C cl fp).run) (fun s H C cl fp => (ht s H C cl fp).run) (fun s H C cl fp D => (hb s H C cl fp).nest D) hs).imp fun σ H Q q => ?_⟩
  exact rd_cpD hi.mono g1 t1.mono b1.mono (fun j hj => hjs j (List.mem_append_left _ hj)) q
end
end Dk
namespace Dk
open PySem L2
def hasK (ks : List Key) (j : Key) : Bool := ks.any fun x => decide (x = j)
def HdS (P : Program) (w : World) : HoldsD (List Key) := fun D _ _ o ks => o = SetK P w D (hasK ks) ks.length
theorem HdS.mono {P : Program} {w : World} : ∀ (D : Addr) (K : PySem.W.Frag) (I I' : Hp) (o : HO) (b : List Key), Same I I' → HdS P w D K I o b → HdS P w D K I' o b := fun D K I I' o b s h => h
def addK (ks : List Key) (k : Key) : List Key := if hasK ks k = true then ks else ks ++ [k]
theorem addK_mem {ks : List Key} {k : Key} : hasK (addK ks k) = fun j => hasK ks j || decide (j = k) := by
  funext j
  unfold addK
  split
  · by_cases h : j = k
    · subst h; simp; assumption
    · simp [h]
  · have e : decide (k = j) = decide (j = k) := decide_eq_decide.mpr ⟨Eq.symm, Eq.symm⟩
    simp [hasK, List.any_append, e]
theorem addK_len {ks : List Key} {k : Key} : (addK ks k).length = if hasK ks k = true then ks.length else ks.length + 1 := by
  unfold addK
  split <;> simp
section
variable {F : Fx} {X Y : Cx} {K : PySem.W.Frag} {elt tg iter : Expr} {ifs : List Expr} {rest : List Comprehension} {te : DT} {vs' js : List Nat} {t : DNT (List Key)} {ti : DAT} {g : DGT} {tc : DB} {scope : Scope} {own : List (Str × Nat)} {p pos pos2 : Pos}
theorem dm_set (hx : ∀ e s, ¬ Y.xe e s) (h : DE F Y elt te) : DEmit F Y (fun acc env => do let v ← eval elt env; standAt elt.pos; let _ ← call (.builtin "set.add") [acc, v]) (HdS Y.prog Y.w) (fun ρ b Q => te ρ fun y => ∃ k, y = keyD k ∧ b.length < 4000 ∧ Q (addK b k)) := by
  refine ⟨fun ρ b Q Q' k q => h.mono _ _ _ (fun d ⟨k0, e, l, q⟩ => ⟨k0, e, l, k _ q⟩) q, fun D => ⟨fun σ H Nx => rdE F Y.K te σ H fun y H2 => ∃ k S n, y = kV k ∧ H2 D = some (SetK Y.prog Y.w D S n) ∧ n + 1 < scanBound ∧ Nx (upd H2 D (SetK Y.prog Y.w D (fun j => S j || decide (j = k)) (if S k = true then n else n + 1))), ⟨fun pins s σ H Nx J q => ?_⟩, ?_⟩⟩
  · refine wpAny_bind (wpAny_mono (h.run.run pins s σ H _ J q) (fun u s2 ⟨y, H2, J2, ry, k, S, n, e, hD, room, nx⟩ => ?_) fun e s' z => (hx e s' z).elim)
    subst e
    refine wpAny_bind (wpAny_standAt (wpAny_bind (wpAny_mono (mt_saddK pins s2 σ H2 (.ref D) [kV k] (.ref D) [u] (fun _ H3 => Nx H3) J2 rfl (.cons ry .nil) ⟨D, k, S, n, rfl, rfl, hD, room, nx⟩) (fun _ s3 ⟨_, H3, J3, _, nx3⟩ => wpAny_pure ⟨H3, J3, nx3⟩) fun e s' z => (hx e s' z).elim)))
  · rintro I H ρ σ o b Nx A d hD rfl q
    refine rdE_next h.mono A q fun y v I2 H2 q2 s rv => ?_
    obtain ⟨k, rfl, l, q2⟩ := q2
    have n2 := s.new _ _ hD d.ni
    refine ⟨k, _, _, keyD_rep rv, s.h _ _ hD d.nm, by unfold scanBound; omega, q2 I2 _ _ (Stp.intro ?_) upd_same n2 ?_⟩
    · rw [drop_upd]; exact s.dropL n2 d.nm
    · show SetK _ _ _ _ _ = SetK _ _ _ _ _
      rw [addK_mem, addK_len]
theorem call_lenK : CallR X (.builtin "len") (fun xs H Q => ∃ a S n, xs = [.ref a] ∧ H a = some (SetK X.prog X.w a S n) ∧ Q (.int (n : Nat)) H) := by
  intro pins s σ H xs us Q J r h
  obtain ⟨a, S, n, rfl, ha, q⟩ := h
  obtain ⟨u, rfl, ru⟩ := vals1 r
  cases ru
  obtain ⟨o, es, ep, t, ho, hex, hd, _, _, hb, hf, rfl⟩ := setK_get J ha
  refine call_len_set ho hex hd hf ?_ ⟨.int _, H, J.tok _, ⟨_, rfl⟩, q⟩
  have : scanBound = 4096 := rfl
  omega
theorem ob_set (pins : List (Addr × Obj)) (σ : L2.St) (H : Hp) (s : Shared) (I : Inv X pins σ H s) : ObjOk X.prog X.w (upd H s.heap.objs.size (SetK X.prog X.w s.heap.objs.size (fun _ => false) 0)) (s.heap.push { cls := .type "set", dict := none, data := .set #[] 0 (.fresh 0 0 (!X.w.params.followText "set-order")) }) s.heap.objs.size (SetK X.prog X.w s.heap.objs.size (fun _ => false) 0) :=
  setK_new ⟨_, #[], 0, _, Heap.get?_push_size _ rfl, ⟨rfl, rfl, rfl⟩, rfl, (fun e he => by simp at he), (fun k => by simp), (by decide), (by rfl), rfl⟩
theorem nw_set {P : Program} {w : World} {A : Around} {E : Value → Shared → Prop} {Q : Value → Shared → Prop} {s : Shared} (h : Q (.ref s.heap.objs.size) { s with heap := s.heap.push { cls := .type "set", dict := none, data := .set #[] 0 (.fresh 0 0 (!w.params.followText "set-order")) } }) : wpAny (model P w) A (newSet (.type "set")) Q E s := PpSet.newSet_ok h
/-- len({.. for .. in ..}) -/
theorem de_lenSc (hm : X.mg "len" = none) (hc : X.calm = true) (hN : X.N.Nodup) (hi : DI F X tg iter ti) (ok : BlkOk X.N X.env.scope scope own) (hg : AllBlk X scope fun Y => DG F Y tg js g) (ht : AllBlk X scope fun Y => DIfs F Y ifs tc)
    (hb : AllBlk X scope fun Y => DNest F Y (.SetComp elt (⟨tg, iter, ifs, 0⟩ :: rest) scope pos) (⟨tg, iter, ifs, 0⟩ :: rest) (fun acc env => do let v ← eval elt env; standAt elt.pos; let _ ← call (.builtin "set.add") [acc, v]) 0 vs' (HdS Y.prog Y.w) t)
    (hgl : Gl X "len" := by rfl) (hjs : ∀ j ∈ js ++ vs', j ∈ own.map (·.2) := by decide) (hrest : (rest.all fun g => g.is_async == 0) = true := by rfl) (hs : ∀ x, foldedSetIterable iter X.env x = pure x := by intro _; rfl)
    (hst : starEach [Expr.SetComp elt (⟨tg, iter, ifs, 0⟩ :: rest) scope pos] X.env = (false, eval (.SetComp elt (⟨tg, iter, ifs, 0⟩ :: rest) scope pos) X.env) :: starEach [] X.env := by rfl) :
    DE F X (.Call (.Name "len" p) [.SetComp elt (⟨tg, iter, ifs, 0⟩ :: rest) scope pos] [] pos2) (fun ρ Q => ti ρ fun ds => loopD g tc t (wipeD ρ (own.map (·.2))) ds [] fun ks => Q (.int ks.length)) := by
  have hr : ∀ g ∈ rest, g.is_async = 0 := fun g h => by simpa using List.all_eq_true.mp hrest g h
  have g1 := hg.one
  have t1 := ht.one
  have b1 := hb.one
  refine ⟨fun ρ Q Q' k q => hi.mono _ _ _ (fun ds => loopD.mono g1.mono t1.mono b1.mono _ ds _ _ _ fun ys => k _) q, (pe_callB call_lenK hgl hm (by decide +kernel) (pa_cons (pe_cp (o0 := fun D => SetK X.prog X.w D (fun _ => false) 0) (gg := rdG F X.K js g) (tt := rdT F X.K tc) (T := fun D => rdN F X.K (HdS X.prog X.w) D t) rfl (cp_set _ _ _ _) nw_set ob_set hc hN hi.run ok hr (fun j hj => hjs j (List.mem_append_right _ hj)) (fun s H C cl fp => (hg s H C cl fp).run) (fun s H C cl fp => (ht s H C cl fp).run) (fun s H C cl fp D => (hb s H C cl fp).nest D) hs) pa_nil hst) (by decide) (by decide) hst rfl).imp fun σ H Q q => ?_⟩
  refine cp_read (b0 := ([] : List Key)) (Hd := HdS X.prog X.w) (o0 := fun D => SetK X.prog X.w D (fun _ => false) 0) (Q1 := fun v H1 => ∃ a S n, [v] = [V.ref a] ∧ H1 a = some (SetK X.prog X.w a S n) ∧ Q (.int (n : Nat)) H1) (fd := fun ks Q => Q (.int (ks.length : Nat))) HdS.mono hi.mono g1 t1.mono b1.mono (fun j hj => hjs j (List.mem_append_left _ hj)) (fun D I => rfl) q (fun D I H o b n m hD hb st h => ?_) fun b Q Q' k h => k _ h
  obtain rfl := hb
  exact ⟨D, _, _, rfl, hD, h _ _ _ (.inl st.stp) (.int _)⟩
end
end Dk
namespace Dk
open PySem L2
/-- is the text a a part of z -/
def subS (a z : Str) : Bool := !(Builtin.Str.occurrences z a 0 z.length 1).isEmpty
theorem subS_one (c : Nat) (z : Str) : subS ⟨#[c]⟩ z = decide (c ∈ z.cps.toList) := PySem.StrLaws.found_one z c
def flip (n b : Bool) : Bool := if n = true then !b else b
def inD (n : Bool) (x : D) (y : D) (Q : D → Prop) : Prop := match y with
  | .str z => ∃ a, x = .str a ∧ Q (.bl (flip n (subS a z)))
  | .lst ys => okE x = true ∧ okE (.lst ys) = true ∧ Q (.bl (flip n (ys.any fun z => deq z x)))
  | .tup ys => ∃ a, ∃ ss : List Str, x = .str a ∧ ys = ss.map D.str ∧ Q (.bl (flip n (ss.any fun s => s == a)))
  | .dic kvs => ∃ k, x = keyD k ∧ Q (.bl (flip n (lookD kvs k).isSome))
  | .dfz kvs => ∃ k, x = keyD k ∧ Q (.bl (flip n (lookD kvs k).isSome))
  | _ => False
theorem mono_in (n : Bool) : Mono2 (inD n) := by
  intro x y Q Q' k h
  cases y <;> first | exact h.elim | (obtain ⟨a, e, q⟩ := h; exact ⟨a, e, k _ q⟩) | (obtain ⟨a, e, e2, e3, q⟩ := h; exact ⟨a, e, e2, e3, k _ q⟩)
def RIn (K : PySem.W.Frag) (n : Bool) : R2 := fun x y H Q => (∃ i j, x = .str i ∧ y = .str j ∧ Q (.bl (flip n (subS i j))) H) ∨ (∃ d ds, Dp K H x d ∧ Dp K H y (.list ds) ∧ SeqAt.shaped d = true ∧ SeqAt.shaped (.list ds) = true ∧ Q (.bl (flip n (ds.any fun z => PyData.eqv z d))) H) ∨ rIn K n x y H Q ∨ ∃ a o, y = .ref a ∧ DGet H a x o ∧ Q (.bl (flip n o.isSome)) H
section
variable {F : Fx} {X : Cx} {K : PySem.W.Frag} {a b c : Expr} {ta tb tc : DT} {pos : Pos}
theorem or_in (hu : X.A.units + 66 < cLine) : OpR X (compareOp .In) (RIn X.K false) := by
  refine op_in_str.or ((op_inD (by omega)).or (op_in_seq.or ?_))
  intro pins s σ H x y v u Q J rx ry h
  obtain ⟨a, o, rfl, g, q⟩ := h
  cases ry
  exact d_in (by omega) J g rx fun s3 J3 => ⟨.bl o.isSome, H, J3, rfl, q⟩
theorem or_notin (hu : X.A.units + 66 < cLine) : OpR X (compareOp .NotIn) (RIn X.K true) := by
  refine op_notin_str.or ((op_notInD (by omega)).or (op_notIn_seq.or ?_))
  intro pins s σ H x y v u Q J rx ry h
  obtain ⟨a, o, rfl, g, q⟩ := h
  cases ry
  exact d_notIn (by omega) J g rx fun s3 J3 => ⟨.bl (!o.isSome), H, J3, rfl, q⟩
theorem toPys_map : ∀ ds : List D, toPys ds = ds.map toPy
  | [] => rfl
  | d :: ds => by simp only [toPys, List.map_cons, toPys_map ds]
theorem lf_in (n : Bool) : LiftR F K (RIn K n) (inD n) := by
  intro x y dx dy I H Q st rx ry h
  cases ry with
  | str z =>
    obtain ⟨a, rfl, q⟩ := h
    cases rx
    exact .inl ⟨_, _, rfl, rfl, q _ I H st.stp (.bl _)⟩
  | @lst p vs ys a r =>
    obtain ⟨ox, oy, q⟩ := h
    have q := q _ I H st.stp (.bl _)
    refine .inr (.inl ⟨toPy dx, ys.map toPy, rx.dp st.sub (okE_split ox).1, ?_, (okE_split ox).2, ?_, ?_⟩)
    · have := (Rep.lst a r).dp st.sub (okE_split oy).1
      unfold toPy at this
      rwa [toPys_map] at this
    · have := (okE_split oy).2
      unfold toPy at this
      rwa [toPys_map] at this
    · rw [List.any_map]
      exact q
  | @tup p vs ys a r =>
    obtain ⟨z, ss, rfl, rfl, q⟩ := h
    cases rx
    have q := q _ I H st.stp (.bl _)
    rw [r.strsV] at a
    refine .inr (.inr (.inl ⟨p, ss.map V.str, rfl, .inr (Same.seqT st.sub a), rfl, flat_strs ss, ?_⟩))
    have e : inV (.str z) (ss.map V.str) = ss.any fun s => s == z := by
      unfold inV
      rw [List.any_map]
      rfl
    rw [e]
    exact q
  | @dic p ws kvs a kk r =>
    obtain ⟨k, rfl, q⟩ := h
    have q := q _ I H st.stp (.bl _)
    refine .inr (.inr (.inr ⟨p, valV ws k, rfl, .inl ⟨ws, k, .of (st.sub _ _ a), keyD_rep rx, rfl⟩, ?_⟩))
    rcases lookD_rep (k := k) kk r with ⟨h1, h2⟩ | ⟨v, d, h1, h2, _⟩
    · rw [h1]; rw [h2] at q; exact q
    · rw [h1]; rw [h2] at q; exact q
  | @dfz p f ws kvs a kk r =>
    obtain ⟨k, rfl, q⟩ := h
    have q := q _ I H st.stp (.bl _)
    refine .inr (.inr (.inr ⟨p, valV ws k, rfl, .inl ⟨ws, k, .inr ⟨_, st.sub _ _ a⟩, keyD_rep rx, rfl⟩, ?_⟩))
    rcases lookD_rep (k := k) kk r with ⟨h1, h2⟩ | ⟨v, d, h1, h2, _⟩
    · rw [h1]; rw [h2] at q; exact q
    · rw [h1]; rw [h2] at q; exact q
  | _ => exact h.elim
theorem de_in (hu : X.A.units + 66 < cLine) (ha : DE F X a ta) (hb : DE F X b tb) (hm : behindInMarks .In b = false := by first | exact nomark _ | rfl) : DE F X (.Compare a [.In] [b] pos) (fun ρ Q => ta ρ fun x => tb ρ fun y => inD false x y Q) := de_cmp (mono_in _) (or_in hu) (lf_in _) ha hb hm
theorem dt_notin (hu : X.A.units + 66 < cLine) (ha : DE F X a ta) (hb : DE F X b tb) (hm : behindInMarks .NotIn b = false := by first | exact nomark _ | rfl) : DTest F X (.Compare a [.NotIn] [b] pos) (fun ρ Q => ta ρ fun x => tb ρ fun y => inD true x y fun z => boolD z Q) := dt_cmp (mono_in _) (or_notin hu) (lf_in _) ha hb hm
theorem dt_chain {op op' : CmpOp} {R R' : R2} {r r'} (h : Cmp X op R r) (h' : Cmp X op' R' r') (ha : DE F X a ta) (hb : DE F X b tb) (hc : DE F X c tc) (hm : lastMarks [op, op'] [b, c] = false := by with_unfolding_all rfl) :
    DTest F X (.Compare a [op, op'] [b, c] pos) (fun ρ Q => ta ρ fun x => tb ρ fun y => r x y fun z => boolD z fun k => if k = true then tc ρ fun w => r' y w fun z => boolD z Q else Q false) := by
  refine ⟨fun ρ Q Q' k q => ha.mono _ _ _ (fun x q => hb.mono _ _ _ (fun y q => h.mono _ _ _ _ (fun z q => q.mono fun b q => by
      cases b
      · exact k _ q
      · exact hc.mono _ _ _ (fun w => h'.mono _ _ _ _ fun z => boolD.mono k) q) q) q) q, (pt_chain h.op h'.op ha.run hb.run hc.run hm).imp fun σ H Q ⟨I, ρ, A, q⟩ => ?_⟩
  · refine rdE_next ha.mono A q fun x v I1 H1 q1 s1 rx => rdE_next hb.mono (A.step s1) q1 fun y u I2 H2 q2 s2 ry => ?_
    refine h.lf v u x y I2 H2 _ s2.st (rx.mono s2.i) ry (h.mono _ _ _ _ (fun z qz => ?_) q2)
    obtain ⟨k, rfl, qz⟩ := qz
    intro w I3 H3 s3 rw'
    cases rw'
    refine ⟨k, rfl, ?_⟩
    cases k
    · exact ⟨false, rfl, qz I3 H3 ((s1.trans s2).trans s3)⟩
    · refine rdE_next hc.mono (((A.step s1).step s2).step s3) qz fun w u' I4 H4 q4 s4 rw' => ?_
      refine h'.lf u u' y w I4 H4 _ s4.st ((ry.mono s3.i).mono s4.i) rw' (h'.mono _ _ _ _ (fun z hz => ?_) q4)
      obtain ⟨b, rfl, qb⟩ := hz
      intro w2 I5 H5 s5 r5
      cases r5
      exact ⟨b, rfl, qb I5 H5 ((((s1.trans s2).trans s3).trans s4).trans s5)⟩
end
end Dk
namespace Dk
open PySem L2
abbrev DTS2 := DEnv → (D → DEnv → Prop) → Prop
abbrev DATS := DEnv → (List D → DEnv → Prop) → Prop
/-- held in a slot -/
def heldIn (ρ : DEnv) (σ : St) (p : Addr) : Prop := ∃ (i : Nat) (e : Ent), ρ[i]? = some (some e) ∧ e.isOwn ∧ σ[i]? = some (some (V.ref p))
/-- what is held may have turned, nothing else -/
structure Moved (F : Fx) (σ : St) (ρ : DEnv) (I H : Hp) (ρ' : DEnv) (I' H' : Hp) : Prop where
  i : Same I I'
  kp : ∀ p o, H p = some o → I p = none → ¬ F.W.mv p → ¬ heldIn ρ σ p → H' p = some o ∧ I' p = none
  sub : ∀ (i : Nat) (e : Ent), ρ'[i]? = some (some e) → e.isOwn → ∃ e0, ρ[i]? = some (some e0) ∧ e0.isOwn
theorem Moved.refl {F : Fx} {σ : St} {ρ : DEnv} {I H : Hp} : Moved F σ ρ I H ρ I H := ⟨Same.refl I, fun _ _ e n _ _ => ⟨e, n⟩, fun _ e h o => ⟨e, h, o⟩⟩
theorem Moved.of {F : Fx} {σ : St} {ρ : DEnv} {I H I' H' : Hp} (s : Stp F.W I H I' H') : Moved F σ ρ I H ρ I' H' := ⟨s.i, fun p o e n m _ => ⟨s.h _ _ e m, s.new _ _ e n⟩, fun _ e h o => ⟨e, h, o⟩⟩
theorem Moved.trans {F : Fx} {σ : St} {ρ ρ' ρ'' : DEnv} {I H I' H' I'' H'' : Hp} (a : Moved F σ ρ I H ρ' I' H') (b : Moved F σ ρ' I' H' ρ'' I'' H'') : Moved F σ ρ I H ρ'' I'' H'' :=
  ⟨Same.trans a.i b.i, fun p o e n m nh => let ⟨e1, n1⟩ := a.kp p o e n m nh; b.kp p o e1 n1 m fun ⟨i, e, h, ho, hs⟩ => nh (let ⟨e0, h0, o0⟩ := a.sub i e h ho; ⟨i, e0, h0, o0, hs⟩),
    fun i e h o => let ⟨e1, h1, o1⟩ := b.sub i e h o; a.sub i e1 h1 o1⟩
def rdES (F : Fx) (K : PySem.W.Frag) (t : DTS2) : TE := fun σ H Q => ∃ I ρ, At F K I ρ σ H ∧ t ρ fun d ρ' => ∀ v I' H', Moved F σ ρ I H ρ' I' H' → At F K I' ρ' σ H' → Rep K I' v d → Q v H'
def rdAS (F : Fx) (K : PySem.W.Frag) (t : DATS) : TA := fun σ H Q => ∃ I ρ, At F K I ρ σ H ∧ t ρ fun ds ρ' => ∀ vs I' H', Moved F σ ρ I H ρ' I' H' → At F K I' ρ' σ H' → Reps K I' vs ds → Q vs H'
structure DES (F : Fx) (X : Cx) (e : Expr) (t : DTS2) : Prop where
  mono : ∀ ρ (Q Q' : D → DEnv → Prop), (∀ d ρ, Q d ρ → Q' d ρ) → t ρ Q → t ρ Q'
  run : PE X e (rdES F X.K t)
structure DAS (F : Fx) (X : Cx) (es : List Expr) (t : DATS) : Prop where
  mono : ∀ ρ (Q Q' : List D → DEnv → Prop), (∀ d ρ, Q d ρ → Q' d ρ) → t ρ Q → t ρ Q'
  run : PA X es (rdAS F X.K t)
section
variable {F : Fx} {X : Cx} {K : PySem.W.Frag} {I H I' H' : Hp} {ρ : DEnv} {σ : St} {e : Expr} {es : List Expr} {te : DT} {ts : DTS2} {ta : DATS} {x : Str} {p1 p2 p3 pos pos' : Pos}
theorem des_of (h : DE F X e te) : DES F X e (fun ρ Q => te ρ fun d => Q d ρ) :=
  ⟨fun ρ Q Q' k q => h.mono _ _ _ (fun d => k d ρ) q, h.run.imp fun σ H Q ⟨I, ρ, A, q⟩ => rdE_next h.mono A q fun d v I' H' p s rv => p v I' H' (.of s) (A.step s) rv⟩
theorem des_pop (i : Nat) (hN : X.N[i]? = some x := by rfl) (hv : Vis X.env.scope x := by first | exact Or.inl rfl | exact Or.inr (Or.inl rfl) | exact Or.inr (Or.inr rfl)) (hd : (x == ("__debug__" : Str)) = false := by decide) (hcd : (x == ("__classdict__" : Str)) = false := by decide)
    (hbase : attributeBase (.Name x p1) "pop" X.env (eval (.Name x p1) X.env) = eval (.Name x p1) X.env := by rfl) (hline : (p2.endLine == p3.line) = true := by rfl) :
    DES F X (.Call (.Attribute (.Name x p1) "pop" p2) [] [] p3) (fun ρ Q => ∃ xs d, ρ[i]? = some (some (.own (xs ++ [d]))) ∧ Q d (ρ.set i (some (.own xs)))) := by
  refine ⟨fun ρ Q Q' k ⟨xs, d, e, q⟩ => ⟨xs, d, e, k _ _ q⟩, (pe_bm0 PySem.F.plainAttrs_list PySem.F.slot_list_pop PySem.F.type_list_pop mt_pop (pv i hN hv hd hcd) hbase hline).imp fun σ H Q ⟨I, ρ, A, xs, d, hx, q⟩ => ?_⟩
  obtain ⟨p, o, h1, w, turn⟩ := A.turnOwn hx trivial
  obtain ⟨vs, rfl, r⟩ := w.rep
  have hl := r.length
  have hn : vs ≠ [] := by rintro rfl; simp at hl
  obtain ⟨us, u, rfl⟩ : ∃ us u, vs = us ++ [u] := ⟨_, _, (List.dropLast_concat_getLast hn).symm⟩
  have hl2 : us.length = xs.length := by simpa using hl
  have r1 : Reps X.K I us xs := by
    have := r.take us.length
    rwa [List.take_left' rfl, List.take_left' hl2.symm] at this
  have r2 : Rep X.K I u d := by
    have := r.drop us.length
    rw [List.drop_left' rfl, List.drop_left' hl2.symm] at this
    cases this with
    | cons a b => exact a
  refine ⟨_, h1, .inl ⟨rfl, _, .of w.hp⟩, p, _, u, rfl, rfl, w.hp, by simp, ?_⟩
  rw [List.dropLast_concat]
  have mv : Moved F σ ρ I H (ρ.set i (some (.own xs))) I (upd H p (.lst us)) := by
    refine ⟨Same.refl I, fun b w e n m nh => ⟨?_, n⟩, fun k e hk ho => ?_⟩
    · rw [upd_ne fun z => nh ⟨i, _, hx, trivial, by rw [z]; exact h1⟩]; exact e
    · rcases set_at hk with ⟨rfl, _⟩ | ⟨_, q⟩
      · exact ⟨_, hx, trivial⟩
      · exact ⟨e, q, ho⟩
  exact q u I _ mv (turn _ _ ⟨us, rfl, r1⟩ (by intro _ h; cases h)) r2
theorem das_nil : DAS F X [] (fun ρ Q => Q [] ρ) := ⟨fun ρ Q Q' k q => k _ _ q, pa_nil.imp fun σ H Q ⟨I, ρ, A, q⟩ => q [] I H .refl A .nil⟩
theorem das_cons (h : DES F X e ts) (h' : DAS F X es ta) (hs : starEach (e :: es) X.env = (false, eval e X.env) :: starEach es X.env := by rfl) : DAS F X (e :: es) (fun ρ Q => ts ρ fun d ρ1 => ta ρ1 fun ds ρ2 => Q (d :: ds) ρ2) := by
  refine ⟨fun ρ Q Q' k q => h.mono _ _ _ (fun d ρ1 q => h'.mono _ _ _ (fun ds ρ2 => k _ _) q) q, (pa_cons h.run h'.run hs).imp fun σ H Q ⟨I, ρ, A, q⟩ => ?_⟩
  refine ⟨I, ρ, A, h.mono _ _ _ (fun d ρ1 q v I1 H1 s1 A1 rv => ?_) q⟩
  exact ⟨I1, ρ1, A1, h'.mono _ _ _ (fun ds ρ2 q vs I2 H2 s2 A2 rs => q (v :: vs) I2 H2 (s1.trans s2) A2 (.cons (rv.mono s2.i) rs)) q⟩
theorem des_tup {k : Nat} (h : DAS F X es ta) : DES F X (.Tuple es k pos) (fun ρ Q => ta ρ fun ds ρ' => ds.length ≤ sizeLine ∧ Q (.tup ds) ρ') := by
  refine ⟨fun ρ Q Q' k q => h.mono _ _ _ (fun d ρ q => ⟨q.1, k _ _ q.2⟩) q, (pe_tup h.run).imp fun σ H Q ⟨I, ρ, A, q⟩ => ⟨I, ρ, A, h.mono _ _ _ (fun ds ρ' q vs I' H' s A' rs => ⟨rs.length ▸ q.1, fun a ha => ?_⟩) q⟩⟩
  have l := A'.st.laid ha (.tup vs)
  exact q.2 _ _ _ (s.trans (.of l)) (A'.step l) (.tup (.of upd_same) (rs.mono l.i))
/-- x = [..] of our own -/
theorem ds_ownS {p2 : Pos} (i : Nat) (ha : DAS F X es ta) (hN : X.N.Nodup) (hi : X.N[i]? = some x := by rfl) (hx : Loc X.env.scope x := by first | exact Or.inl rfl | exact Or.inr rfl) (hs : swapsWith (.List es p2) (some (.Name x pos')) pos.line X.env = pure false := by rfl)
    (hf : X.fn x = true ∨ X.env.scope.names.lookup x = some .local := by first | exact .inl rfl | exact .inr rfl | assumption) : DSt F X (.Assign [.Name x pos'] (.List es p2) pos) (fun Z ρ => ta ρ fun ds ρ' => ds.length ≤ sizeLine ∧ Z.nx (ρ'.set i (some (.own ds)))) := by
  refine ⟨fun Z Z' ρ l q => ha.mono _ _ _ (fun d ρ q => ⟨q.1, l.nx _ q.2⟩) q, (ps_set hN hi hx (pe_lst ha.run) hs hf).imp fun Z σ H ⟨I, ρ, A, q⟩ => ⟨I, ρ, A, ha.mono _ _ _ (fun ds ρ' q vs I' H' s A' rs => ⟨rs.length ▸ q.1, fun a hz => ?_⟩) q⟩⟩
  exact q.2 I' _ _ s.i (A'.newOwn hz ⟨_, rfl, rs⟩)
/-- x.append(e) -/
theorem ds_appendS (i : Nat) (he : DES F X e ts) (hN : X.N[i]? = some x := by rfl) (hv : Vis X.env.scope x := by first | exact Or.inl rfl | exact Or.inr (Or.inl rfl) | exact Or.inr (Or.inr rfl)) (hd : (x == ("__debug__" : Str)) = false := by decide)
    (hcd : (x == ("__classdict__" : Str)) = false := by decide) (hsw : swapsWith (.Call (.Attribute (.Name x p1) "append" p2) [e] [] p3) none pos.line X.env = pure false := by rfl) (hbase : attributeBase (.Name x p1) "append" X.env (eval (.Name x p1) X.env) = eval (.Name x p1) X.env := by rfl)
    (hfew : ((backTo p3 (starEach [e] X.env)).all (fun x => !x.1) && (backToKw p3 (keywordEach [] X.env)).all (fun x => x.1.isSome) && decide ([e].length + ([] : List Keyword).length + (if ([] : List Keyword).isEmpty then 0 else 1) < 30)) = true := by rfl)
    (hline : (p2.endLine == p3.line) = true := by rfl) (hst : starEach [e] X.env = (false, eval e X.env) :: starEach [] X.env := by rfl) (hpl : (backTo p3 (starEach [] X.env)).any (·.1) = false := by rfl) :
    DSt F X (.Expr (.Call (.Attribute (.Name x p1) "append" p2) [e] [] p3) pos) (fun Z ρ => ∃ xs, ρ[i]? = some (some (.own xs)) ∧ ts ρ fun d ρ' => ∃ ys, ρ'[i]? = some (some (.own ys)) ∧ ys.length < sizeLine ∧ Z.nx (ρ'.set i (some (.own (ys ++ [d]))))) := by
  refine ⟨fun Z Z' ρ l ⟨xs, h, q⟩ => ⟨xs, h, he.mono _ _ _ (fun d ρ ⟨ys, h, q⟩ => ⟨ys, h, q.1, l.nx _ q.2⟩) q⟩,
    (ps_expr (pe_bm PySem.F.plainAttrs_list PySem.F.slot_list_append PySem.F.type_list_append mt_append (pv i hN hv hd hcd) (pa_cons he.run pa_nil hst) hbase hfew hline hst hpl) hsw).imp fun Z σ H ⟨I, ρ, A, q⟩ => ?_⟩
  obtain ⟨xs, hx, q⟩ := q
  obtain ⟨p, o, h1, w, _⟩ := A.turnOwn hx trivial
  obtain ⟨vs, rfl, _⟩ := w.rep
  refine ⟨_, h1, .inl ⟨rfl, vs, .of w.hp⟩, I, ρ, A, he.mono _ _ _ (fun d ρ' q' v I' H' s A' rv => ?_) q⟩
  obtain ⟨ys, hy, hl, q'⟩ := q'
  obtain ⟨p', o', h1', w', turn⟩ := A'.turnOwn hy trivial
  obtain ⟨ws, rfl, r⟩ := w'.rep
  rw [h1] at h1'
  cases h1'
  exact ⟨p, ws, v, rfl, rfl, w'.hp, by rw [r.length]; exact hl, q' I' σ _ s.i (turn _ _ ⟨_, rfl, r.append (.cons rv .nil)⟩ (by intro _ h; cases h))⟩
end
end Dk
namespace Dk
open PySem L2
section
variable {F : Fx} {X : Cx} {K : PySem.W.Frag} {I H I' H' : Hp} {ρ : DEnv} {σ : St} {e i : Expr} {te ti : DT} {x : Str} {p1 p2 pos pos' : Pos}
/-- x = {} -/
theorem ds_ownD (i : Nat) (hN : X.N.Nodup) (hi : X.N[i]? = some x := by rfl) (hx : Loc X.env.scope x := by first | exact Or.inl rfl | exact Or.inr rfl) (hs : swapsWith (.Dict [] [] p2) (some (.Name x pos')) pos.line X.env = pure false := by rfl)
    (hf : X.fn x = true ∨ X.env.scope.names.lookup x = some .local := by first | exact .inl rfl | exact .inr rfl | assumption) : DSt F X (.Assign [.Name x pos'] (.Dict [] [] p2) pos) (fun Z ρ => Z.nx (ρ.set i (some (.ownD [])))) := by
  refine ⟨fun Z Z' ρ l q => l.nx _ q, (ps_set hN hi hx pe_dnewK hs hf).imp fun Z σ H ⟨I, ρ, A, q⟩ a hz => ?_⟩
  exact q I _ _ (Same.refl I) (A.newOwn hz ⟨[], rfl, rfl, .nil⟩)
/-- x[k] = e -/
theorem ds_dput (j : Nat) (hu : X.A.units + 64 < cLine) (hk : DE F X i ti) (he : DE F X e te) (hN : X.N[j]? = some x := by rfl) (hv : Vis X.env.scope x := by first | exact Or.inl rfl | exact Or.inr (Or.inl rfl) | exact Or.inr (Or.inr rfl)) (hd : (x == ("__debug__" : Str)) = false := by decide)
    (hcd : (x == ("__classdict__" : Str)) = false := by decide) (hs : swapsWith e (some (.Subscript (.Name x p1) i pos')) pos.line X.env = pure false := by rfl) :
    DSt F X (.Assign [.Subscript (.Name x p1) i pos'] e pos) (fun Z ρ => te ρ fun d => ∃ kvs, ρ[j]? = some (some (.ownD kvs)) ∧ ti ρ fun y => ∃ k, y = keyD k ∧ kvs.length < sizeLine ∧ Z.nx (ρ.set j (some (.ownD (putD kvs k d))))) := by
  refine ⟨fun Z Z' ρ l q => he.mono _ _ _ (fun d ⟨kvs, h, q⟩ => ⟨kvs, h, hk.mono _ _ _ (fun y ⟨k, e, l', q⟩ => ⟨k, e, l', l.nx _ q⟩) q⟩) q, (ps_dput (by omega) (pv j hN hv hd hcd) hk.run he.run hs).imp fun Z σ H ⟨I, ρ, A, q⟩ => ?_⟩
  refine rdE_next he.mono A q fun d v I1 H1 q1 s1 rv => ?_
  obtain ⟨kvs, hx, q1⟩ := q1
  have A1 := A.step s1
  obtain ⟨p, o, h1, w, _⟩ := A1.turnOwn hx trivial
  obtain ⟨ws, rfl, _, _⟩ := w.rep
  refine ⟨_, h1, rdE_next hk.mono A1 q1 fun y u I2 H2 q2 s2 ry => ?_⟩
  obtain ⟨k, rfl, hl, q2⟩ := q2
  have A2 := A1.step s2
  obtain ⟨p', o', h1', w', turn⟩ := A2.turnOwn hx trivial
  obtain ⟨us, rfl, kk, r⟩ := w'.rep
  rw [h1] at h1'
  cases h1'
  obtain ⟨a1, a2⟩ := putD_rep (k := k) (rv.mono s2.i) kk r
  have ll : us.length = kvs.length := by simpa using congrArg List.length kk
  refine ⟨p, _, rfl, .inl ⟨us, k, w'.hp, keyD_rep ry, by omega, rfl⟩, q2 I2 σ _ (Same.trans s1.i s2.i) (turn _ _ ⟨_, rfl, a1, a2⟩ (by intro _ h; cases h))⟩
end
end Dk
namespace Dk
open PySem L2
open PyProof.Rows (envOfC)
def fldD (C : Addr) (f : Str) (d : D) (Q : D → Prop) : Prop := ∃ fs x, d = .obj C fs ∧ fs.lookup f = some x ∧ Q x
theorem lookup_rep {K : PySem.W.Frag} {I : Hp} {f : Str} {d : D} : ∀ {ws : List (Str × V)} {fs : List (Str × D)}, ws.map (·.1) = fs.map (·.1) → Reps K I (ws.map (·.2)) (fs.map (·.2)) → fs.lookup f = some d → ∃ v, ws.lookup f = some v ∧ Rep K I v d
  | [], [], _, _, h => by simp at h
  | [], _ :: _, h, _, _ => by simp at h
  | _ :: _, [], h, _, _ => by simp at h
  | (i, x) :: ws, (j, y) :: fs, h, r, e => by
    simp only [List.map_cons, List.cons.injEq] at h
    obtain ⟨rfl, h⟩ := h
    cases r with
    | cons r1 r2 =>
      rw [List.lookup_cons] at e ⊢
      cases hb : f == i with
      | true => rw [hb] at e; cases e; exact ⟨_, rfl, r1⟩
      | false => rw [hb] at e; exact lookup_rep h r2 e
/-- a field put -/
def putFD (f : Str) (v : D) : List (Str × D) → List (Str × D)
  | [] => [(f, v)]
  | (g, x) :: r => if g = f then (g, v) :: r else (g, x) :: putFD f v r
theorem putF_rep {K : PySem.W.Frag} {I : Hp} {f : Str} {v : V} {d : D} (rv : Rep K I v d) : ∀ {ws : List (Str × V)} {fs : List (Str × D)}, ws.map (·.1) = fs.map (·.1) → Reps K I (ws.map (·.2)) (fs.map (·.2)) → (putF f v ws).map (·.1) = (putFD f d fs).map (·.1) ∧ Reps K I ((putF f v ws).map (·.2)) ((putFD f d fs).map (·.2))
  | [], [], _, _ => ⟨rfl, .cons rv .nil⟩
  | [], _ :: _, h, _ => by simp at h
  | _ :: _, [], h, _ => by simp at h
  | (i, x) :: ws, (j, y) :: fs, h, r => by
    simp only [List.map_cons, List.cons.injEq] at h
    obtain ⟨rfl, h⟩ := h
    cases r with
    | cons r1 r2 =>
      obtain ⟨a, b⟩ := putF_rep rv h r2
      unfold putF putFD
      by_cases e : i = f
      · rw [if_pos e, if_pos e]
        exact ⟨by simp [h], .cons rv r2⟩
      · rw [if_neg e, if_neg e]
        exact ⟨by simp [a], .cons r1 b⟩
section
variable {F : Fx} {X : Cx} {K : PySem.W.Frag} {I H I' H' : Hp} {ρ : DEnv} {σ : St} {e o : Expr} {te to : DT} {C : Addr} {f m x : Str} {p p1 pos pos' apos : Pos}
theorem de_fld (c : Cls X.K C) (n : NoAttr X.K C f) (he : DE F X e te) (hb : attributeBase e f X.env (eval e X.env) = eval e X.env := by rfl) : DE F X (.Attribute e f pos) (fun ρ Q => te ρ fun d => fldD C f d Q) := by
  refine ⟨fun ρ Q Q' k q => he.mono _ _ _ (fun d ⟨fs, x, e, l, q⟩ => ⟨fs, x, e, l, k _ q⟩) q, (pe_fld he.run hb).imp fun σ H Q ⟨I, ρ, A, q⟩ => rdE_next he.mono A q fun d v I1 H1 q1 s rv => ?_⟩
  obtain ⟨fs, x, rfl, l, q1⟩ := q1
  cases rv with
  | @obj a _ dx ws _ ha kk r =>
    obtain ⟨w, h1, h2⟩ := lookup_rep kk r l
    exact ⟨a, C, dx, ws, w, rfl, s.st.sub _ _ ha, c, n, h1, q1 _ _ _ s h2⟩
/-- self.f = e -/
theorem ds_setA (j : Nat) (he : DE F X e te) (hN : X.N[j]? = some x := by rfl) (hv : Vis X.env.scope x := by first | exact Or.inl rfl | exact Or.inr (Or.inl rfl) | exact Or.inr (Or.inr rfl)) (hd : (x == ("__debug__" : Str)) = false := by decide)
    (hcd : (x == ("__classdict__" : Str)) = false := by decide) (hs : swapsWith e (some (.Attribute (.Name x p1) f pos')) pos.line X.env = pure false := by rfl) (cl : Cls X.K C) (n : NoAttr X.K C f) :
    DSt F X (.Assign [.Attribute (.Name x p1) f pos'] e pos) (fun Z ρ => te ρ fun d => ∃ q fs, ρ[j]? = some (some (.ownO q C fs)) ∧ fs.length < 1000 ∧ Z.nx (ρ.set j (some (.ownO q C (putFD f d fs))))) := by
  refine ⟨fun Z Z' ρ l q => he.mono _ _ _ (fun d ⟨q0, fs, h, hl, q⟩ => ⟨q0, fs, h, hl, l.nx _ q⟩) q, (ps_fld (pv j hN hv hd hcd) he.run hs).imp fun Z σ H ⟨I, ρ, A, q⟩ => rdE_next he.mono A q fun d v I1 H1 q1 s rv => ?_⟩
  obtain ⟨q0, fs, hx, hl, q1⟩ := q1
  have A1 := A.step s
  obtain ⟨p, o, h1, w, turn⟩ := A1.turnOwn hx trivial
  have hpq : p = q0 := w.ad _ rfl
  obtain ⟨dx, ws, rfl, kk, r⟩ := w.rep
  obtain ⟨a1, a2⟩ := putF_rep (f := f) rv kk r
  have ll : ws.length = fs.length := by simpa using congrArg List.length kk
  refine ⟨_, h1, p, C, dx, ws, rfl, w.hp, cl, n, by omega, q1 I1 σ _ s.i (turn (.ownO q0 C (putFD f d fs)) _ ⟨dx, _, rfl, a1, a2⟩ fun q h => ?_)⟩
  cases h
  exact hpq
end
theorem Rm.make {k : Nat} {A : Around} (r : Rm (k + 1) A) (C : Addr) (us : List Value) (kw : List (Str × Value)) : Rm k (A.under (.builtin "type.__call__" ⟨.ref C :: us, kw⟩)) := by
  refine ⟨r.room.make C us kw, ?_⟩
  show pushGuards (Code.guards (.builtin "type.__call__" ⟨.ref C :: us, kw⟩)) A.guards = some []
  have e : Code.guards (.builtin "type.__call__" ⟨.ref C :: us, kw⟩) = [] := by
    have g : Code.isGuard (.builtin "type.__call__" ⟨.ref C :: us, kw⟩) = false := show guardIds.contains "type.__call__" = false by decide +kernel
    unfold Code.guards
    rw [g]
    rfl
  rw [e]
  exact r.gd
section
variable {X : Cx} {CX : CXT} {k : Nat} {f C : Addr} {fd : FuncData} {ps ks : List Str} {sp : Sp} {E : XK}
theorem gn_make {pins : List (Addr × Obj)} {σ : St} {H : Hp} {s : Shared} {Q : VK} {us as : List Value} {kw : List (Str × Value)} {vs : List V} (M : Mk X.K C f) (F : GnOk X.prog X.w X.K X.mg X.base CX k f fd ps sp) (hr : Rm (k + 1) X.A) (hx : Passes CX X E)
    (hb : ∀ (s' : Shared) (x : Value), X.K.In s'.heap → BindsTo s' fd ⟨x :: as, kw⟩ (ps.zip (x :: us))) (J : Inv X pins σ H s) (r : Vals vs us)
    (h : ∀ x dx, H x = none → H dx = none → dx ≠ x → sp (.ref x :: vs) (upd (upd H dx (.own x)) x (.ins C dx [])) (fun v H2 => v = .non ∧ Q (.ref x) H2) E) : wpAny (model X.prog X.w) X.A (call (.ref C) as kw) (EP X pins σ Q) X.xe s := by
  have q := h (s.heap.objs.size + 1) s.heap.objs.size (J.hok.fresh (Nat.le_succ _)) (J.hok.fresh (Nat.le_refl _)) (Nat.ne_of_lt (Nat.lt_succ_self _))
  have J2 := Inv.made (C := C) J
  refine wpAny_call (make_map (f := f) J.kIn M.makes M.init (beq_iff_eq.mp M.fn) (codeAny_mono (F.go _ X.stack _ _ ⟨Value.ref (s.heap.objs.size + 1) :: as, kw⟩ (Value.ref (s.heap.objs.size + 1) :: us) _ _ E (hr.make C as kw) (J2.env0.make C as kw) (hb _ _ J2.kIn) (.cons (show RelV (.ref (s.heap.objs.size + 1)) (.ref (s.heap.objs.size + 1)) from rfl) r) q) fun r s' z => ?_))
  cases r with
  | error e => exact hx pins σ _ _ e s' J2 z
  | ok fl => cases fl with
    | ret u =>
      obtain ⟨v, H', J3, rv, ev, q3⟩ := J2.after z
      subst ev
      exact ⟨rv, V.ref (s.heap.objs.size + 1), H', J3, rfl, q3⟩
    | next => exact z.elim
    | brk => exact z.elim
    | cont => exact z.elim
end
/-- what __init__ promises: the object that comes of it -/
def spInit (W : Wd) (K : PySem.W.Frag) (C : Addr) (S : DSp) : Sp := fun vs H Q E => ∃ x dx us I ds, vs = .ref x :: us ∧ H x = some (.ins C dx []) ∧ I x = none ∧ ¬ W.mv x ∧ StI W I H ∧ Reps K I us ds ∧
  S.f ds (fun d => ∀ I' H', Stp W I (dropA H x) I' H' → Rep K I' (.ref x) d → Q .non H') fun e => ∀ cls d I' H', Stp W I (dropA H x) I' H' → ExRep K I' H' cls d e → E cls d H'
def initEnds (x C : Addr) (Q : D → Prop) : DEnds := ⟨fun ρ => ∃ fs, ρ[0]? = some (some (.ownO x C fs)) ∧ Q (.obj C fs), fun _ => False, fun _ => False, fun _ => False, fun _ => False⟩
def startI (N : List Str) (x C : Addr) (ds : List D) : DEnv := some (.ownO x C []) :: (ds.map (fun d => some (Ent.dat d)) ++ List.replicate (N.length - (ds.length + 1)) none)
theorem at_startI {W : Wd} {K : PySem.W.Frag} {I H : Hp} {N : List Str} {us : List V} {ds : List D} {x dx C : Addr} (s : StI W I H) (hx : H x = some (.ins C dx [])) (ni : I x = none) (nm : ¬ W.mv x) (r : Reps K I us ds) :
    At ⟨W, dropA H x, I⟩ K I (startI N x C ds) (L2.start N (.ref x :: us)) H := by
  refine ⟨⟨Same.refl I, s, fun b o e _ => (dropA_at e).2, fun b o e n => n⟩, by simp [startI, L2.start, r.length], fun i e h => ?_, fun i j e e' v hij h1 h2 o1 o2 hv => ?_⟩
  · unfold startI at h
    cases i with
    | zero =>
      simp only [List.getElem?_cons_zero, Option.some.injEq] at h
      subst h
      exact ⟨.ref x, by simp [L2.start], .inr ⟨x, _, rfl, hx, ⟨dx, [], rfl, rfl, .nil⟩, ni, nm, if_pos rfl, fun q h => by cases h; rfl⟩⟩
    | succ i =>
      rw [List.getElem?_cons_succ] at h
      by_cases hi : i < ds.length
      · rw [List.getElem?_append_left (by simpa using hi), List.getElem?_map] at h
        cases q : ds[i]? with
        | none => rw [q] at h; cases h
        | some d =>
          rw [q] at h
          cases h
          obtain ⟨v, h1, h2⟩ := r.get q
          refine ⟨v, ?_, .inl ⟨_, rfl, h2⟩⟩
          unfold L2.start
          rw [List.map_cons, List.cons_append, List.getElem?_cons_succ, List.getElem?_append_left (by simpa [r.length] using hi), List.getElem?_map, h1]
          rfl
      · rw [List.getElem?_append_right (by simpa using hi), List.getElem?_replicate] at h
        split at h <;> cases h
  · have only : ∀ (i : Nat) (e : Ent), (startI N x C ds)[i]? = some (some e) → e.isOwn → i = 0 := fun i e h o => by
      cases i with
      | zero => rfl
      | succ i =>
        unfold startI at h
        rw [List.getElem?_cons_succ] at h
        by_cases hi : i < ds.length
        · rw [List.getElem?_append_left (by simpa using hi), List.getElem?_map] at h
          cases q : ds[i]? with
          | none => rw [q] at h; cases h
          | some d => rw [q] at h; cases h; exact o.elim
        · rw [List.getElem?_append_right (by simpa using hi), List.getElem?_replicate] at h
          split at h <;> cases h
    exact absurd ((only i e h1 o1).trans (only j e' h2 o2).symm) hij
/-- a class that may be called -/
structure CalC (P : Program) (w : World) (K : PySem.W.Frag) (mg : Str → Option Value) (base : Heap) (CX : CXT) (W : Wd) (k : Nat) (x : Str) (C : Addr) (ps : List Str) (S : DSp) : Prop where
  ex : ∃ f fd, Mk K C f ∧ GnOk P w K mg base CX k f fd ps (spInit W K C S) ∧ mg x = some (.ref C) ∧ Binds K fd ps [] ∧ ps.length = S.n + 1
section
variable {F : Fx} {X : Cx} {CX : CXT} {k : Nat} {x : Str} {C : Addr} {ps : List Str} {S : DSp} {E : XK} {p pos : Pos} {e : Expr} {es : List Expr} {t : DAT} {Ed : Ex → Prop}
theorem new_run {W : Wd} {K : PySem.W.Frag} {I H : Hp} {x dx : Addr} {o : HO} (s : StI W I H) (hx : H x = none) (hd : H dx = none) (ne : dx ≠ x) : I x = none ∧ ¬ W.mv x ∧ StI W I (upd (upd H dx (.own x)) x o) ∧ ∀ I' H', Stp W I (dropA (upd (upd H dx (.own x)) x o) x) I' H' → Stp W I H I' H' := by
  have s1 := s.laidM hd (.own x)
  have hx1 : upd H dx (.own x) x = none := by rw [upd_ne (Ne.symm ne)]; exact hx
  have s2 := s1.st.laidM hx1 o
  refine ⟨s.free hx, fun m => W.live s.inv m hx, s2.st, fun I' H' st => ⟨st.i, st.st, fun b u e m => ?_, fun b u e n => ?_⟩⟩
  · have hb : b ≠ x := ne_of_none e hx
    exact st.h b u (by rw [dropA_ne hb]; exact s2.h _ _ (s1.h _ _ e m) m) m
  · have hb : b ≠ x := ne_of_none e hx
    exact st.new b u (by rw [dropA_ne hb, upd_ne hb, upd_ne (ne_of_none e hd)]; exact e) n
theorem de_make (c : CalC X.prog X.w X.K X.mg X.base CX F.W k x C ps S) (hr : Rm (k + 1) X.A) (hx : Passes CX X E) (le : Lets F X.K Ed E) (ha : DA F X (e :: es) t)
    (hg : Gl X x := by rfl) (hdb : (x == ("__debug__" : Str)) = false := by decide) (he : starEach (e :: es) X.env = (false, eval e X.env) :: starEach es X.env := by rfl) (hpl : (backTo pos (starEach es X.env)).any (·.1) = false := by rfl) :
    DE F X (.Call (.Name x p) (e :: es) [] pos) (fun ρ Q => t ρ fun ds => S.f ds Q Ed) := by
  obtain ⟨f, fd, M, G, hm, hb, hl⟩ := c.ex
  refine ⟨fun ρ Q Q' k h => ha.mono _ _ _ (fun d h => S.mono _ _ _ _ _ k (fun _ h => h) h) h, ⟨fun pins s σ H Q J ⟨I, ρ, A, h⟩ => ?_⟩⟩
  refine wpAny_Call_Name_kw (ld_glob J hg hm ?_ hdb)
  have run : rdA F X.K t σ H fun vs H1 => vs.length + 1 = ps.length ∧ ∀ x dx, H1 x = none → H1 dx = none → dx ≠ x → spInit F.W X.K C S (.ref x :: vs) (upd (upd H1 dx (.own x)) x (.ins C dx [])) (fun v H2 => v = .non ∧ Q (.ref x) H2) E := by
    refine rdA_next ha.mono A h fun ds vs I1 H1 q s1 rs => ⟨by rw [rs.length, S.len _ _ _ q, hl], fun x dx hx hd ne => ?_⟩
    obtain ⟨ni, nm, st, back⟩ := new_run (K := X.K) (o := .ins C dx []) s1.st hx hd ne
    refine ⟨x, dx, vs, I1, ds, rfl, upd_same, ni, nm, st, rs, S.mono _ _ _ _ _ (fun d q I' H' s' rv => ⟨rfl, q _ I' H' (s1.trans (back I' H' s')) rv⟩) (fun ex q cls d I' H' s' rv => ?_) q⟩
    exact le I1 H1 (A.stp.trans s1) ex q cls d I' H' (back I' H' s') rv
  refine PySem.W.callWith_K (h₀ := X.base) J.ok.mod.kin M.kp (thn (ha.run.run pos pins s σ H _ J run) fun us s1 ⟨vs, H1, J1, r, l, q⟩ => ⟨J1.kIn, ?_⟩) he hpl
  exact gn_make M G hr hx (fun s' x hk => by have := hb s' (x :: us) hk (by rw [List.append_nil, List.length_cons, ← r.length]; exact l); simpa using this) J1 r q
end
end Dk
namespace Dk
open PySem L2
structure CalM (P : Program) (w : World) (K : PySem.W.Frag) (mg : Str → Option Value) (base : Heap) (CX : CXT) (W : Wd) (k : Nat) (C : Addr) (m : Str) (ps : List Str) (S : DSp) : Prop where
  ex : ∃ f fd, Cls K C ∧ Meth K C m f ∧ GnOk P w K mg base CX k f fd ps (spD W K S) ∧ Binds K fd ps [] ∧ ps.length = S.n
section
variable {F : Fx} {X : Cx} {K : PySem.W.Frag} {CX : CXT} {k : Nat} {x m : Str} {C : Addr} {ps : List Str} {S : DSp} {E : XK} {p pos apos : Pos} {o e : Expr} {es : List Expr} {to : DT} {t : DAT} {Ed : Ex → Prop} {pl : Sem Bool}
def maxLD : List D → (D → Prop) → Prop
  | [.lst xs], Q => ∃ ns : List Int, xs = ns.map D.int ∧ ns ≠ [] ∧ ∀ m, m ∈ ns → (∀ y ∈ ns, y ≤ m) → Q (.int m)
  | _, _ => False
theorem mono_maxL : MonoN maxLD := by
  intro ds Q Q' k h
  unfold maxLD at h ⊢
  split at h
  · obtain ⟨ns, a, b, c⟩ := h; exact ⟨ns, a, b, fun m h1 h2 => k _ (c m h1 h2)⟩
  · exact h.elim
theorem de_maxL (hc : X.calm = true) (hm : X.mg "max" = none) (ha : DA F X [e] t) (hg : Gl X "max" := by rfl) (he : starEach [e] X.env = (false, eval e X.env) :: starEach [] X.env := by rfl) : DE F X (.Call (.Name "max" p) [e] [] pos) (fun ρ Q => t ρ fun ds => maxLD ds Q) := by
  refine de_callB (id := "max") mono_maxL (fun vs ds I H Q st rs h => ?_) (cr_max hc) hm (by decide +kernel) ha hg (by decide) (by decide) he rfl
  unfold maxLD at h
  split at h
  · obtain ⟨ns, rfl, hn, q⟩ := h
    obtain ⟨v, rfl, rv⟩ := rs.one
    cases rv with
    | @lst a ws _ ha' r =>
      rw [r.intsV] at ha'
      exact ⟨a, ns, rfl, .of (st.sub _ _ ha'), List.length_pos_iff.mpr hn, fun m h1 h2 => q m h1 h2 _ I H st.stp (.int _)⟩
  · exact h.elim
end
end Dk
namespace Dk
open PySem L2
open PyProof.Rows (envOfC)
abbrev DTO := DEnv → (List D → Prop) → Prop
def finO (F : Fx) (K : PySem.W.Frag) (I H : Hp) (Q : VK) : List D → Prop := fun ds => ∀ p vs I' H', Stp F.W I H I' H' → H' p = none → Reps K I' vs ds → Q (.ref p) (upd H' p (.lst vs))
def rdO' (F : Fx) (K : PySem.W.Frag) (t : DTO) : TE := fun σ H Q => ∃ I ρ, At F K I ρ σ H ∧ t ρ (finO F K I H Q)
structure DEO (F : Fx) (X : Cx) (e : Expr) (t : DTO) : Prop where
  mono : ∀ ρ (Q Q' : List D → Prop), (∀ d, Q d → Q' d) → t ρ Q → t ρ Q'
  run : PE X e (rdO' F X.K t)
section
variable {F : Fx} {X : Cx} {K : PySem.W.Frag} {I H I' H' : Hp} {ρ : DEnv} {σ : St} {a b e : Expr} {es : List Expr} {ta tb te : DT} {t : DTO} {x : Str} {p p2 pos pos' : Pos}
/-- x = a list of our own -/
theorem ds_setO (i : Nat) (he : DEO F X e t) (hN : X.N.Nodup) (hi : X.N[i]? = some x := by rfl) (hx : Loc X.env.scope x := by first | exact Or.inl rfl | exact Or.inr rfl) (hs : swapsWith e (some (.Name x pos')) pos.line X.env = pure false := by rfl)
    (hf : X.fn x = true ∨ X.env.scope.names.lookup x = some .local := by first | exact .inl rfl | exact .inr rfl | assumption) : DSt F X (.Assign [.Name x pos'] e pos) (fun Z ρ => t ρ fun ds => Z.nx (ρ.set i (some (.own ds)))) := by
  refine ⟨fun Z Z' ρ l q => he.mono _ _ _ (fun d q => l.nx _ q) q, (ps_set hN hi hx he.run hs hf).imp fun Z σ H ⟨I, ρ, A, q⟩ => ⟨I, ρ, A, he.mono _ _ _ (fun ds q p vs I' H' s hp rs => ?_) q⟩⟩
  exact q I' _ _ s.i ((A.step s).newOwn hp ⟨_, rfl, rs⟩)
theorem ds_retO (he : DEO F X e t) : DSt F X (.Return (some e) pos) (fun Z ρ => t ρ fun ds => Z.ro (.own ds)) :=
  ⟨fun Z Z' ρ l q => he.mono _ _ _ (fun ds => l.ro _) q, (ps_ret he.run).imp fun Z σ H ⟨I, ρ, A, q⟩ => ⟨I, ρ, A, he.mono _ _ _ (fun ds q p vs I' H' s hp rs => q p vs I' H' (A.stp.trans s) hp rs) q⟩⟩
def catD (x y : D) (Q : List D → Prop) : Prop := ∃ xs ys, x = .lst xs ∧ y = .lst ys ∧ xs.length + ys.length ≤ sizeLine ∧ Q (xs ++ ys)
theorem deo_add (ha : DE F X a ta) (hb : DE F X b tb) : DEO F X (.BinOp a .Add b pos) (fun ρ Q => ta ρ fun x => tb ρ fun y => catD x y Q) := by
  refine ⟨fun ρ Q Q' k h => ha.mono _ _ _ (fun d h => hb.mono _ _ _ (fun e ⟨xs, ys, e1, e2, l, q⟩ => ⟨xs, ys, e1, e2, l, k _ q⟩) h) h, (pe_op op_cat ha.run hb.run).imp fun σ H Q ⟨I, ρ, A, q⟩ => rdE_next ha.mono A q fun x v I1 H1 q1 s1 rx => rdE_next hb.mono (A.step s1) q1 fun y u I2 H2 q2 s2 ry => ?_⟩
  obtain ⟨xs, ys, rfl, rfl, l, q2⟩ := q2
  have rx := rx.mono s2.i
  cases rx with
  | @lst p vs _ a r =>
    cases ry with
    | @lst q ws _ a' r' => exact ⟨p, q, vs, ws, rfl, rfl, s2.st.sub _ _ a, s2.st.sub _ _ a', by rw [r.length, r'.length]; exact l, fun z hz => q2 z _ I2 H2 (s1.trans s2) hz (r.append r')⟩
def cutLD (d : D) (lo hi : Option Int) (Q : List D → Prop) : Prop := ∃ xs, d = .lst xs ∧ Q (cutD xs lo hi)
theorem deo_slice {lo hi : Option Expr} {tl th : DOT} (he : DE F X e te) (hl : DO F X lo tl) (hh : DO F X hi th) : DEO F X (.Subscript e (.Slice lo hi none p2) pos) (fun ρ Q => te ρ fun d => tl ρ fun l => th ρ fun u => cutLD d l u Q) := by
  refine ⟨fun ρ Q Q' k q => he.mono _ _ _ (fun d q => hl.mono _ _ _ (fun l q => hh.mono _ _ _ (fun u ⟨xs, e, q⟩ => ⟨xs, e, k _ q⟩) q) q) q, (pe_slice sl_list he.run hl.run hh.run).imp fun σ H Q ⟨I, ρ, A, q⟩ => rdE_next he.mono A q fun d v I1 H1 q1 s1 rv => ?_⟩
  refine ⟨I1, ρ, A.step s1, hl.mono _ _ _ (fun l q2 I2 H2 s2 => ?_) q1⟩
  refine ⟨I2, ρ, (A.step s1).step s2, hh.mono _ _ _ (fun u q3 I3 H3 s3 => ?_) q2⟩
  obtain ⟨xs, rfl, q3⟩ := q3
  have s := (s1.trans s2).trans s3
  have rv := rv.mono (Same.trans s2.i s3.i)
  cases rv with
  | @lst q zs _ a r => exact ⟨q, zs, rfl, .of (s3.st.sub _ _ a), fun p hp => q3 p _ I3 H3 s hp (r.cut l u)⟩
end
structure DSpO where
  n : Nat
  f : List D → (List D → Prop) → Prop
  len : ∀ ds Q, f ds Q → ds.length = n
  mono : ∀ ds (Q Q' : List D → Prop), (∀ d, Q d → Q' d) → f ds Q → f ds Q'
def spO (W : Wd) (K : PySem.W.Frag) (S : DSpO) : Sp := fun vs H Q _ => ∃ I ds, StI W I H ∧ Reps K I vs ds ∧ S.f ds (finO ⟨W, H, I⟩ K I H Q)
def retO (Q : List D → Prop) : Ret → Prop
  | .own ds => Q ds
  | .st _ _ => False
def ownEnds (Q : List D → Prop) : DEnds := ⟨fun _ => False, fun _ => False, fun _ => False, fun _ => False, retO Q⟩
section
variable {P : Program} {w : World} {K : PySem.W.Frag} {mg : Str → Option Value} {base : Heap}
theorem _root_.L2.Fun.okO {W : Wd} {S : DSpO} {x qual : Str} {st : Stmt} {f : Addr} {fd : FuncData} {N ps : List Str} {k : Nat} (Fn : Fun K x qual st f fd) (Sc : FnScope N ps (defScope st)) (hn : S.n = ps.length)
    (hbody : ∀ (cdv : Value) (A : Around) (outer : List Env) (s : Shared) (H I : Hp) (ds : List D) (Q : List D → Prop) (E : XK), Rm k (A.deeper (envOfC qual (defScope st) s.heap.objs.size f cdv)) → S.f ds Q →
      ∃ t, DSts ⟨W, H, I⟩ (cxOf CX0 P w K mg base N qual (defScope st) f cdv A outer s H E).nox (defBody st) t ∧ t (ownEnds Q) (startD N ds)) : GnOk P w K mg base CX0 (k + 1) f fd ps (spO W K S) := by
  refine Fn.gn Sc (fun vs H Q E ⟨I, ds, _, r, h⟩ => r.length.trans ((S.len _ _ h).trans hn)) fun cdv A outer s H vs Q E hr ⟨I, ds, si, r, h⟩ => ?_
  obtain ⟨t, h1, h2⟩ := hbody cdv A outer s H I ds _ E hr h
  exact ⟨_, h1.run.nox, I, _, at_start si r, h1.mono (ownEnds (finO ⟨W, H, I⟩ K I H Q)) _ _ ⟨fun _ q => q.elim, fun _ q => q.elim, fun _ q => q.elim, fun _ q => q.elim, fun r q => match r, q with | .own ds, q => q | .st _ _, q => q.elim⟩ h2⟩
end
structure CalO (P : Program) (w : World) (K : PySem.W.Frag) (mg : Str → Option Value) (base : Heap) (W : Wd) (k : Nat) (x : Str) (ps : List Str) (S : DSpO) : Prop where
  ex : ∃ f fd, GnOk P w K mg base CX0 k f fd ps (spO W K S) ∧ mg x = some (.ref f) ∧ PySem.W.keepIn K (.ref f) = true ∧ Binds K fd ps []
theorem CalO.of {P : Program} {w : World} {K : PySem.W.Frag} {mg : Str → Option Value} {base : Heap} {W : Wd} {k : Nat} {x qual : Str} {st : Stmt} {f : Addr} {fd : FuncData} {ps : List Str} {S : DSpO} (Fn : Fun K x qual st f fd) (G : GnOk P w K mg base CX0 k f fd ps (spO W K S)) (m : mg x = some (.ref f))
    (h : ∀ (kV doc pm : Value) (an : Option Addr) (cdv ct : Value) (us : List Value), us.length = ps.length → bindArgs (PySem.W.fnOf x qual (defArgs st) (defBody st) (defScope st) .none kV doc pm an cdv ct) ⟨us, []⟩ = pure (ps.zip us)) : CalO P w K mg base W k x ps S :=
  ⟨f, fd, G, m, Fn.kp, Fn.binds h⟩
/-- .. as plain data -/
def DSpO.dat (S : DSpO) : DSp := ⟨S.n, fun ds Q _ => S.f ds fun es => Q (.lst es), fun ds Q _ h => S.len _ _ h, fun ds Q Q' _ _ k _ h => S.mono _ _ _ (fun d => k _) h⟩
theorem CalO.cal {P : Program} {w : World} {K : PySem.W.Frag} {mg : Str → Option Value} {base : Heap} {W : Wd} {k : Nat} {x : Str} {ps : List Str} {S : DSpO} (c : CalO P w K mg base W k x ps S) : Cal P w K mg base CX0 W k x ps S.dat := by
  obtain ⟨f, fd, G, h2, h3, h4⟩ := c.ex
  refine ⟨f, fd, G.weak fun vs H Q E ⟨I, ds, st, r, h⟩ => ⟨I, ds, st, r, S.mono _ _ _ (fun es q p us I' H' s hp rs => ?_) h⟩, h2, h3, h4⟩
  have l := s.st.laid hp (.lst us)
  exact q _ _ _ (s.trans l) (.lst upd_same (rs.mono l.i))
section
variable {F : Fx} {X : Cx} {k : Nat} {x : Str} {ps : List Str} {S : DSpO} {p pos : Pos} {e : Expr} {es : List Expr} {t : DAT}
theorem deo_fn (C : CalO X.prog X.w X.K X.mg X.base F.W k x ps S) (hr : Rm k X.A) (ha : DA F X (e :: es) t)
    (hg : Gl X x := by rfl) (hdb : (x == ("__debug__" : Str)) = false := by decide) (he : starEach (e :: es) X.env = (false, eval e X.env) :: starEach es X.env := by rfl) (hpl : (backTo pos (starEach es X.env)).any (·.1) = false := by rfl) :
    DEO F X (.Call (.Name x p) (e :: es) [] pos) (fun ρ Q => t ρ fun ds => S.f ds Q) := by
  obtain ⟨f, fd, h1, h2, h3, h4⟩ := C.ex
  refine ⟨fun ρ Q Q' k h => ha.mono _ _ _ (fun d h => S.mono _ _ _ k h) h, (gn_call h1 hr hg h2 h3 h4 .nil (pass0 (X := X)) ha.run hdb he hpl).imp fun σ H Q ⟨I, ρ, A, h⟩ => ?_⟩
  show rdA F X.K t σ H fun vs H1 => spO F.W X.K S (vs ++ []) H1 Q E0
  refine rdA_next ha.mono A h fun ds vs I' H' q s rs => ?_
  rw [List.append_nil]
  exact ⟨I', ds, s.st, rs, S.mono _ _ _ (fun es q p us I2 H2 s2 hp r2 => q p us I2 H2 (s.trans s2) hp r2) q⟩
end
section
variable {F : Fx} {X : Cx} {a b : Expr} {ta : DT} {tb : DTO} {px py pt pos : Pos} {x y : Str}
/-- a, b = x, y: the second one a list of our own -/
theorem ds_parO {i j : Nat} {kt k2 pt2} (hc : X.calm = true) (hN : X.N.Nodup) (hi : X.N[i]? = some x) (hj : X.N[j]? = some y) (hij : i ≠ j) (hkx : X.env.scope.names.lookup x = some .local) (hky : X.env.scope.names.lookup y = some .local)
    (ha : DE F X a ta) (hb : DEO F X b tb) (hs1 : starEach [a, b] X.env = (false, eval a X.env) :: starEach [b] X.env := by rfl) (hs2 : starEach [b] X.env = (false, eval b X.env) :: starEach [] X.env := by rfl)
    (hsw : swappedStores [.Tuple [.Name x px, .Name y py] kt pt] (.Tuple [a, b] k2 pt2) X.env = pure (some [x, y]) := by rfl) (hs : swapsWithSole [.Tuple [.Name x px, .Name y py] kt pt] (.Tuple [a, b] k2 pt2) pos.line X.env = pure false := by rfl) : DSt F X (.Assign [.Tuple [.Name x px, .Name y py] kt pt] (.Tuple [a, b] k2 pt2) pos) (fun Z ρ => ta ρ fun d => tb ρ fun es => Z.nx ((ρ.set i (some (.dat d))).set j (some (.own es)))) := by
  refine ⟨fun Z Z' ρ l q => ha.mono _ _ _ (fun d q => hb.mono _ _ _ (fun es q => l.nx _ q) q) q, (ps_par hc hN hi hj hij hkx hky (pa_cons ha.run (pa_cons hb.run pa_nil hs2) hs1) hsw hs).imp fun Z σ H ⟨I, ρ, A, q⟩ => ?_⟩
  refine rdE_next ha.mono A q fun d v I1 H1 q1 s1 rv => ⟨I1, ρ, A.step s1, hb.mono _ _ _ (fun es q p vs I2 H2 s2 hp rs => ?_) q1⟩
  have A2 := ((A.step s1).step s2).set (i := i) (rv.mono s2.i)
  exact ⟨_, _, rfl, q I2 _ _ (Same.trans s1.i s2.i) (A2.newOwn hp ⟨_, rfl, rs⟩)⟩
end
/-- a loop that adds some to a list at each turn -/
theorem loopD_app {α : Type} {g : DGT} {tc : DB} {t : DNT (List D)} {ρ : DEnv} (f : α → D) (out : α → List D) (N : Nat) : ∀ {l : List α} {b : List D} {Q : List D → Prop}, (∀ a ∈ l, ∀ (b : List D) (R : List D → Prop) (S : Prop), b.length + (out a).length ≤ N → R (b ++ out a) → g (f a) ρ fun ρ2 => tc ρ2 fun c => if c = true then t ρ2 b R else S) →
    b.length + (l.flatMap out).length ≤ N → Q (b ++ l.flatMap out) → loopD g tc t ρ (l.map f) b Q := by
  intro l
  induction l with
  | nil => intro b Q _ _ q; simpa [loopD] using q
  | cons a l ih =>
    intro b Q hs hl q
    rw [List.flatMap_cons, List.length_append] at hl
    rw [List.flatMap_cons, ← List.append_assoc] at q
    exact hs a (by simp) b _ _ (by omega) (ih (fun x hx => hs x (List.mem_cons_of_mem _ hx)) (by rw [List.length_append]; omega) q)
/-- a comprehension within another one -/
def nestSc (sc0 csc : Scope) : Scope := relabel csc (PyProof.Rows.envOfC "" sc0 0 0 .none)
theorem blkOk_nest {X : Cx} {s : Shared} {H : Hp} {csc c2 : Scope} {cl : List (Str × Addr)} {C : Addr} {fp : List Addr} {N : List Str} {own : List (Str × Nat)} (sc0 : Scope) (h0 : X.env.scope = sc0) (h : blkC N (nestSc sc0 csc) c2 own = true) : BlkOk N (X.blk s H csc (compEnvC csc cl C X.env) fp).env.scope c2 own := by
  subst h0
  exact blkOk_by h
/-- .. that puts new ones in a dict at each turn -/
theorem loopD_put {α : Type} {g : DGT} {tc : DB} {t : DNT (List (Key × D))} {ρ : DEnv} (f : α → D) (out : α → List (Key × D)) (N : Nat) : ∀ {l : List α} {b : List (Key × D)} {Q : List (Key × D) → Prop}, (∀ a ∈ l, ∀ (b : List (Key × D)) (R : List (Key × D) → Prop) (S : Prop), b.length + (out a).length ≤ N → ((b ++ out a).map (·.1)).Nodup → R (b ++ out a) → g (f a) ρ fun ρ2 => tc ρ2 fun c => if c = true then t ρ2 b R else S) →
    b.length + (l.flatMap out).length ≤ N → ((b ++ l.flatMap out).map (·.1)).Nodup → Q (b ++ l.flatMap out) → loopD g tc t ρ (l.map f) b Q := by
  intro l
  induction l with
  | nil => intro b Q _ _ _ q; simpa [loopD] using q
  | cons a l ih =>
    intro b Q hs hl hn q
    rw [List.flatMap_cons, List.length_append] at hl
    rw [List.flatMap_cons, ← List.append_assoc] at q hn
    refine hs a (by simp) b _ _ (by omega) ?_ (ih (fun x hx => hs x (List.mem_cons_of_mem _ hx)) (by rw [List.length_append]; omega) hn q)
    rw [List.map_append] at hn
    exact (List.nodup_append.mp hn).1
theorem putD_new {b : List (Key × D)} {k : Key} {d : D} (h : ((b ++ [(k, d)]).map (·.1)).Nodup) : putD b k d = b ++ [(k, d)] := by
  unfold putD
  rw [if_neg]
  rw [Bool.not_eq_true, List.any_eq_false]
  intro x hx
  rw [decide_eq_true_eq]
  intro e
  rw [List.map_append, List.nodup_append] at h
  exact h.2.2 x.1 (List.mem_map_of_mem hx) k (by simp) e
end Dk
namespace Dk
open PySem L2
/-- a list of drawn things -/
theorem lcD_any {β : Type} {g : DGT} {tc : DB} {te : DT} {ρ : DEnv} (g' : β → D) (p : β → Prop) : ∀ {l : List D} {Q : List D → Prop}, (∀ a ∈ l, ∀ (R : D → Prop) (S : Prop), (∀ b, p b → R (g' b)) → g a ρ fun ρ2 => tc ρ2 fun b => if b = true then te ρ2 R else S) →
    (∀ bs : List β, bs.length = l.length → (∀ b ∈ bs, p b) → Q (bs.map g')) → lcD g tc te ρ l Q := by
  intro l
  induction l with
  | nil => intro Q _ q; exact q [] rfl (by simp)
  | cons a l ih =>
    intro Q hs q
    refine hs a (by simp) _ _ fun b hb => ih (fun x hx => hs x (List.mem_cons_of_mem _ hx)) fun bs hl hp => q (b :: bs) (by simp [hl]) fun y hy => ?_
    rcases List.mem_cons.mp hy with rfl | hy
    · exact hb
    · exact hp y hy
def txt (l : List Nat) : Str := ⟨l.toArray⟩
theorem txt_app (a b : List Nat) : txt a ++ txt b = txt (a ++ b) := by
  show Str.mk (a.toArray ++ b.toArray) = Str.mk (a ++ b).toArray
  rw [List.append_toArray]
theorem txt_len (l : List Nat) : (txt l).length = l.length := by
  show l.toArray.size = _
  simp
theorem txt_list (l : List Nat) : (txt l).cps.toList = l := by simp [txt]
theorem txt_inj {a b : List Nat} (h : txt a = txt b) : a = b := by
  have := congrArg (fun z => z.cps.toList) h
  simpa [txt] using this
theorem join_txt (l : List Nat) : Txt.join "" (l.map fun c => txt [c]) = txt l := by
  show Builtin.Str.glued "" _ = _
  rw [StrLaws.glued_eq_join]
  induction l with
  | nil => rfl
  | cons c r ih =>
    cases r with
    | nil => rfl
    | cons d r =>
      rw [List.map_cons, List.map_cons]
      show txt [c] ++ "" ++ Str.join "" (txt [d] :: r.map fun c => txt [c]) = _
      rw [List.map_cons] at ih
      rw [ih]
      have : (txt [c] ++ "" : Str) = txt [c] := by
        show txt [c] ++ txt [] = _
        rw [txt_app]; rfl
      rw [this, txt_app]
      rfl
theorem cut_txt_to (l : List Nat) (k : Nat) : cutS (txt l) none (some (k : Int)) = txt (l.take k) := by
  unfold cutS txt
  congr 2
  rw [HT.sIx_none, HT.sIx_nat, List.drop_zero, Nat.sub_zero]
  show List.take (min k l.toArray.size) l.toArray.toList = _
  simp
theorem cut_txt (l : List Nat) (a b : Nat) : cutS (txt l) (some (a : Int)) (some (b : Int)) = txt ((l.drop a).take (b - a)) := by
  unfold cutS txt
  congr 2
  rw [HT.sIx_nat, HT.sIx_nat]
  show List.take (min b l.toArray.size - min a l.toArray.size) (List.drop (min a l.toArray.size) l.toArray.toList) = _
  simp only [List.size_toArray]
  by_cases h : a ≤ l.length
  · rw [Nat.min_eq_left h]
    by_cases h2 : b ≤ l.length
    · rw [Nat.min_eq_left h2]
    · rw [Nat.min_eq_right (by omega), List.take_of_length_le (by simp), List.take_of_length_le (by simp; omega)]
  · rw [Nat.min_eq_right (by omega : l.length ≤ a), List.drop_of_length_le (by simp), List.drop_of_length_le (by omega : l.length ≤ a)]
    simp
section
variable {F : Fx} {X : Cx} {a b : Expr} {ta : DT} {tb : DTO} {px py pt pos : Pos} {x y : Str}
/-- a, b = x, y: the second one a list of our own; one of the names is held by a comprehension -/
theorem ds_parOc {i j : Nat} {kt k2 pt2} (hc : X.calm = true) (hN : X.N.Nodup) (hi : X.N[i]? = some x) (hj : X.N[j]? = some y) (hij : i ≠ j) (hkx : Loc X.env.scope x) (hky : Loc X.env.scope y)
    (hfx : X.fn x = true ∨ X.env.scope.names.lookup x = some .local) (hfy : X.fn y = true ∨ X.env.scope.names.lookup y = some .local)
    (ha : DE F X a ta) (hb : DEO F X b tb) (hs1 : starEach [a, b] X.env = (false, eval a X.env) :: starEach [b] X.env := by rfl) (hs2 : starEach [b] X.env = (false, eval b X.env) :: starEach [] X.env := by rfl)
    (hsw : swappedStores [.Tuple [.Name x px, .Name y py] kt pt] (.Tuple [a, b] k2 pt2) X.env = pure none := by rfl) (hs : swapsWithSole [.Tuple [.Name x px, .Name y py] kt pt] (.Tuple [a, b] k2 pt2) pos.line X.env = pure false := by rfl)
    (h1 : (assignEach [.Tuple [.Name x px, .Name y py] kt pt] X.env).map (·.2) = [assign (.Tuple [.Name x px, .Name y py] kt pt) X.env] := by rfl)
    (hn : (assignEach [.Name x px, .Name y py] X.env).length = 2 := by rfl) (hst : (assignEach [.Name x px, .Name y py] X.env).findIdx? (·.1) = none := by rfl)
    (hg1 : (assignEach [.Name x px, .Name y py] X.env).map (·.2) = assign (.Name x px) X.env :: (assignEach [.Name y py] X.env).map (·.2) := by rfl) (hg2 : (assignEach [.Name y py] X.env).map (·.2) = assign (.Name y py) X.env :: (assignEach [] X.env).map (·.2) := by rfl) :
    DSt F X (.Assign [.Tuple [.Name x px, .Name y py] kt pt] (.Tuple [a, b] k2 pt2) pos) (fun Z ρ => ta ρ fun d => tb ρ fun es => Z.nx ((ρ.set i (some (.dat d))).set j (some (.own es)))) := by
  refine ⟨fun Z Z' ρ l q => ha.mono _ _ _ (fun d q => hb.mono _ _ _ (fun es q => l.nx _ q) q) q, (ps_asg (pe_tup (pa_cons ha.run (pa_cons hb.run pa_nil hs2) hs1)) (pg_tup (n := 2) hc (pgs_cons (pg_name hN hi hkx hfx) (pgs_cons (pg_name hN hj hky hfy) pgs_nil hg2) hg1) hn hst) hs hsw h1).imp fun Z σ H ⟨I, ρ, A, q⟩ => ?_⟩
  refine rdE_next ha.mono A q fun d v I1 H1 q1 s1 rv => ⟨I1, ρ, A.step s1, hb.mono _ _ _ (fun es q p vs I2 H2 s2 hp rs => ?_) q1⟩
  have A2 := ((A.step s1).step s2).set (i := i) (rv.mono s2.i)
  have A3 := A2.newOwn (i := j) (en := .own es) hp ⟨_, rfl, rs⟩
  refine ⟨show 2 ≤ sizeLine by decide, fun t ht => ?_⟩
  have st := A3.st.laidM ht (.tup [v, .ref p])
  exact ⟨t, _, rfl, .of upd_same, rfl, _, _, rfl, _, _, rfl, rfl, q I2 _ _ (Same.trans s1.i s2.i) (A3.step st)⟩
end
end Dk
namespace Dk
open PySem L2
def fill : List (Key × Option D) → List Addr → List (Key × D)
  | [], _ => []
  | (k, some d) :: r, bs => (k, d) :: fill r bs
  | (k, none) :: r, b :: bs => (k, .opq b) :: fill r bs
  | (k, none) :: r, [] => (k, .non) :: fill r []
/-- what the pairs of a display leave: ws the values, bs the empty dicts among them -/
structure Made (F : Fx) (K : PySem.W.Frag) (I H I' H' : Hp) (its : List (Key × Option D)) (kvs : List (Key × V)) (bs : List Addr) : Prop where
  stp : Stp F.W I H I' H'
  keys : kvs.map (·.1) = its.map (·.1)
  reps : Reps K I' (kvs.map (·.2)) ((fill its bs).map (·.2))
  len : bs.length = (its.filter (·.2.isNone)).length
  nd : bs.Nodup
  fresh : ∀ b ∈ bs, H b = none ∧ H' b = some (.dK []) ∧ I' b = none
end Dk
namespace Dk
open PySem L2
open PyProof.Rows (envOfC)
theorem Rm.in1 {k : Nat} {A : Around} (r : Rm (k + 1) A) : Rm k A.in1 := ⟨r.room.in1, r.gd⟩
section
variable {X : Cx} {CX : CXT} {k : Nat} {f C : Addr} {fd : FuncData} {ps : List Str} {sp : Sp} {E : XK} {pins : List (Addr × Obj)} {σ : St} {H : Hp} {s : Shared} {A : Around}
/-- a def called at a place below -/
theorem gn_at {Q : VK} {us : List Value} {vs : List V} (F : GnOk X.prog X.w X.K X.mg X.base CX k f fd ps sp) (hr : Rm k A) (hfr : A.frames = X.A.frames) (hb : Binds X.K fd ps []) (hx : Passes CX X E) (J : Inv X pins σ H s) (r : Vals vs us) (h : sp vs H Q E) :
    wpAny (model X.prog X.w) A (call (.ref f) us) (EP X pins σ Q) X.xe s := by
  have e0 : Env0 X.prog X.w X.K X.mg X.base A X.stack s H := by
    have e := J.env0
    exact ⟨by rw [hfr]; exact e.frames, e.mod, e.bs, e.bsz, e.funs, e.frf, e.hok, e.bare⟩
  have hl := F.lens _ _ _ _ h
  refine wpAny_call (codeAny_mono (F.go A X.stack s H ⟨us, []⟩ us vs Q E hr e0 (by
    have := hb s us J.kIn (by rw [List.append_nil, ← r.length]; exact hl)
    simpa using this) r h) fun r s' hq => ?_)
  cases r with
  | error e => exact hx pins σ H s e s' J hq
  | ok fl =>
    cases fl with
    | ret w =>
      obtain ⟨z, H', I', rz, q⟩ := J.after hq
      exact ⟨z, H', I', rz, q⟩
    | next => exact False.elim hq
    | brk => exact False.elim hq
    | cont => exact False.elim hq
theorem special_own {M : Model} {Q : Option Value → Shared → Prop} {E : Value → Shared → Prop} {K : PySem.W.Frag} {a : Addr} {ox : Obj} {od : Option Obj} {name : Str} {args : List Value} (Z : K.In s.heap) (I : PySem.W.InstAt s.heap a ox C od) (hm : PySem.W.findIn K (.ref C) name = some (some (.ref f))) (hf : PySem.W.isFn K (.ref f) = true)
    (q : wpAny M A (call (.ref f) (.ref a :: args)) (fun v s' => Q (some v) s') E s) : wpAny M A (callSpecial? (.ref a) name args) Q E s := by
  unfold callSpecial? specialOf
  refine wpAny_bind (wpAny_bind (I.type.here ((PySem.W.looks_findIn Z hm).here ?_)))
  refine wpAny_holding ?_
  refine wpAny_bind ((PySem.W.bind_fn Z _ (beq_iff_eq.mp hf)).here ?_)
  exact wpAny_bind (wpAny_mono q (fun v s' z => wpAny_pure z) fun _ _ z => z)
theorem _root_.L2.Inv.inst {a dx : Addr} {fs : List (Str × V)} (J : Inv X pins σ H s) (h : H a = some (.ins C dx fs)) : ∃ ox od, PySem.W.InstAt s.heap a ox C od := by
  obtain ⟨mA, O, _⟩ := ins_get J.hok h
  obtain ⟨od, I, _⟩ := O.look
  exact ⟨_, od, I⟩
/-- len(o) -/
theorem len_ins {Q : Value → Shared → Prop} {P : Program} {w : World} {E : Value → Shared → Prop} {K : PySem.W.Frag} {a : Addr} {ox : Obj} {od : Option Obj} (Z : K.In s.heap) (I : PySem.W.InstAt s.heap a ox C od) (hm : PySem.W.findIn K (.ref C) "__len__" = some (some (.ref f))) (hf : PySem.W.isFn K (.ref f) = true)
    (hcall : wpAny (model P w) A.in1 (call (.ref f) [.ref a]) (fun r s' => ∃ n u, r = .int n u ∧ 0 ≤ n ∧ n < 2 ^ 63 ∧ Q (.int n s'.toks) { s' with toks := s'.toks + 1 }) E s) : wpAny (model P w) A (call (.builtin "len") [.ref a]) Q E s := by
  refine Calls.call_function_entry kind_len plain_len entry_len (args_len1 _) ?_
  unfold Builtin.«len»
  refine wpAny_bind (m := oneArg "len" _) (wpAny_pure ?_)
  refine wpAny_bind (m := callSpecial? (.ref a) (Str.ofString "__len__")) (special_own Z I hm hf (wpAny_mono hcall (fun r s' hr => ?_) fun _ _ y => y))
  obtain ⟨n, u, rfl, h0, h1, hq⟩ := hr
  refine wpAny_bind (wpAny_holding (wpAny_pure ?_))
  refine wpAny_bind (wpAny_letGo ?_)
  show wpAny _ _ (if n < 0 then _ else _) _ _ _
  rw [if_neg (by omega)]
  show wpAny _ _ (if n ≥ 2 ^ 63 then _ else _) _ _ _
  rw [if_neg (by omega)]
  exact wpAny_bind (wpAny_mkInt (wpAny_pure ⟨_, rfl, hq⟩))
theorem strOf_ins {Q : Value → Shared → Prop} {P : Program} {w : World} {E : Value → Shared → Prop} {K : PySem.W.Frag} {a : Addr} {ox : Obj} {od : Option Obj} (hu : A.units + 1 < cLine) (Z : K.In s.heap) (I : PySem.W.InstAt s.heap a ox C od) (hm : PySem.W.findIn K (.ref C) "__str__" = some (some (.ref f))) (hf : PySem.W.isFn K (.ref f) = true)
    (hcall : wpAny (model P w) A (call (.ref f) [.ref a]) (fun r s' => ∃ x t, r = .str x t ∧ Q r s') E s) : wpAny (model P w) A (Builtin.Str.strOf (.ref a)) Q E s := by
  unfold Builtin.Str.strOf
  rw [show Builtin.Str.isExactStr (.ref a) = false from rfl]
  refine wpAny_bind (m := cRoomFor _ _) (wpAny_cRoomFor (by omega) ?_)
  refine wpAny_bind (m := callSpecial? _ (Str.ofString "__str__")) (special_own Z I hm hf (wpAny_mono hcall (fun r s' hr => ?_) fun _ _ y => y))
  obtain ⟨x, t, rfl, hq⟩ := hr
  exact wpAny_pure hq
/-- str(o) -/
theorem str_ins {Q : Value → Shared → Prop} {P : Program} {w : World} {E : Value → Shared → Prop} {K : PySem.W.Frag} {a : Addr} {ox : Obj} {od : Option Obj} (hu : A.units + 4 < cLine) (Z : K.In s.heap) (I : PySem.W.InstAt s.heap a ox C od) (hm : PySem.W.findIn K (.ref C) "__str__" = some (some (.ref f))) (hf : PySem.W.isFn K (.ref f) = true)
    (hcall : wpAny (model P w) A.in1.in1 (call (.ref f) [.ref a]) (fun r s' => ∃ x t, r = .str x t ∧ Q r s') E s) : wpAny (model P w) A (call (.type "str") [.ref a]) Q E s := by
  refine callType_newIn (S := fun A' R s' => A' = A.in1 ∧ s' = s ∧ wpAny (model P w) A'.in1 (Builtin.Str.strOf (.ref a)) (fun r s' => R (.ok (.ret r)) s') (fun e s' => R (.error e) s') s') F.called_str (by decide) (F.typeCall_str_1 _) (F.newCall_str_1 _) (fun obj => F.args_object_init_2 obj _) F.entry_str_new ?_ ?_
  · refine MeetsIn.of_wp fun A' R s' ⟨_, _, h⟩ => ?_
    rw [str_new_tree (.ref a)]
    refine wpAny_bind (wpAny_pure ?_)
    refine wpAny_bind (wpAny_of_eq isSubtype_str_str ?_)
    exact wpAny_bind (wpAny_mono h (fun r s' h' => wpAny_pure ⟨_, rfl, h'⟩) fun _ _ e => e)
  · refine ⟨rfl, rfl, strOf_ins (by show A.units + 1 + 1 + 1 < cLine; omega) Z I hm hf (wpAny_mono hcall (fun r s' hr => ?_) fun _ _ e => e)⟩
    obtain ⟨x, t, rfl, hq⟩ := hr
    exact ⟨x, t, rfl, typeIs_str _ _ _, hq⟩
end
end Dk
namespace Dk
open PySem L2
def objD (C : Addr) (d : D) (P : Prop) : Prop := ∃ fs, d = .obj C fs ∧ P
theorem objD.mono {C : Addr} {d : D} {P P' : Prop} (k : P → P') : objD C d P → objD C d P' := fun ⟨fs, e, p⟩ => ⟨fs, e, k p⟩
/-- what a method of one's own class tells of o -/
def ROwn (W : Wd) (K : PySem.W.Frag) (C : Addr) (S : DSp) (T : V → Hp → VK → Prop) : List V → Hp → VK → Prop := fun vs H Q => ∃ a dx fs, vs = [.ref a] ∧ H a = some (.ins C dx fs) ∧ spD W K S [.ref a] H (fun v H' => T v H' Q) (fun _ _ _ => False)
/-- .. over data -/
def rOwn (C : Addr) (S : DSp) (t : D → (D → Prop) → Prop) : List D → (D → Prop) → Prop := fun ds Q => ∃ d, ds = [d] ∧ objD C d (S.f [d] (fun r => t r Q) fun _ => False)
theorem mono_rOwn {C : Addr} {S : DSp} {t : D → (D → Prop) → Prop} (m : ∀ r (Q Q' : D → Prop), (∀ d, Q d → Q' d) → t r Q → t r Q') : MonoN (rOwn C S t) := by
  rintro ds Q Q' k ⟨d, e, h⟩
  exact ⟨d, e, h.mono (S.mono _ _ _ _ _ (fun r => m r _ _ k) (fun _ h => h))⟩
theorem Rep.ins {K : PySem.W.Frag} {I : Hp} {v : V} {C : Addr} {fs : List (Str × D)} (r : Rep K I v (.obj C fs)) : ∃ a dx ws, v = .ref a ∧ I a = some (.ins C dx ws) := by
  cases r with
  | @obj a C dx ws ds h _ _ => exact ⟨a, dx, ws, rfl, h⟩
theorem lift_rOwn {F : Fx} {K : PySem.W.Frag} {C : Addr} {S : DSp} {T : V → Hp → VK → Prop} {t : D → (D → Prop) → Prop} (l : ∀ v d I H (Q : VK), StI F.W I H → Rep K I v d → t d (fin F K I H Q) → T v H Q) (m : ∀ r (Q Q' : D → Prop), (∀ d, Q d → Q' d) → t r Q → t r Q') : LiftC F K (ROwn F.W K C S T) (rOwn C S t) := by
  rintro vs ds I H Q st rs ⟨d, rfl, fs, rfl, h⟩
  obtain ⟨v, rfl, rv⟩ := rs.one
  obtain ⟨a, dx, ws, rfl, hi⟩ := rv.ins
  refine ⟨a, dx, ws, rfl, st.sub _ _ hi, I, _, st, .cons rv .nil, S.mono _ _ _ _ _ (fun r h v' I' H' s r' => ?_) (fun _ h => h.elim) h⟩
  exact l v' r I' H' Q s.st r' (m _ _ _ (fun d q => fin.of q s) h)
section
variable {F : Fx} {X : Cx} {K : PySem.W.Frag} {k : Nat} {C : Addr} {S : DSp} {ps : List Str} {e a b : Expr} {te ta tb : DT} {t : DAT} {p pos q1 q2 : Pos} {T : V → Hp → VK → Prop} {m x : Str}
theorem own_run {A : Around} {pins : List (Addr × Obj)} {σ : St} {H : Hp} {s : Shared} {Q : VK} (c : CalM X.prog X.w X.K X.mg X.base CX0 F.W k C m ps S) {ad : Addr} (hr : Rm k A) (hfr : A.frames = X.A.frames) (J : Inv X pins σ H s) (h : spD F.W X.K S [.ref ad] H Q (fun _ _ _ => False)) :
    ∃ f, PySem.W.findIn X.K (.ref C) m = some (some (.ref f)) ∧ PySem.W.isFn X.K (.ref f) = true ∧ wpAny (model X.prog X.w) A (call (.ref f) [.ref ad]) (EP X pins σ Q) X.xe s := by
  obtain ⟨f, fd, cl, me, G, B, _⟩ := c.ex
  exact ⟨f, me.at_, me.fn, gn_at G hr hfr B pass0 J (.cons (show RelV (.ref ad) (.ref ad) from rfl) .nil) h⟩
def tLen (v : V) (H : Hp) (Q : VK) : Prop := ∃ n : Nat, v = .int n ∧ n ≤ 1000000 ∧ Q (.int n) H
def tLenD (r : D) (Q : D → Prop) : Prop := ∃ n : Nat, r = .int n ∧ n ≤ 1000000 ∧ Q (.int n)
theorem cr_lenO (c : CalM X.prog X.w X.K X.mg X.base CX0 F.W k C "__len__" ps S) (hr : Rm (k + 1) X.A) : CallR X (.builtin "len") (ROwn F.W X.K C S tLen) := by
  intro pins s σ H xs us Q J r h
  obtain ⟨ad, dx, fs, rfl, hi, h⟩ := h
  obtain ⟨u, rfl, ru⟩ := vals1 r
  cases ru
  obtain ⟨ox, od, I⟩ := J.inst hi
  obtain ⟨f, h1, h2, h3⟩ := own_run c hr.in1 rfl J h
  refine len_ins J.kIn I h1 h2 (wpAny_mono h3 (fun u s' z => ?_) fun _ _ e => e)
  obtain ⟨v, H', J', rv, n, rfl, hn, q⟩ := z
  obtain ⟨tk, rfl⟩ := rv
  exact ⟨n, tk, rfl, by omega, by omega, .int n, H', J'.tok _, ⟨_, rfl⟩, q⟩
theorem de_lenO (c : CalM X.prog X.w X.K X.mg X.base CX0 F.W k C "__len__" ps S) (hr : Rm (k + 1) X.A) (hm : X.mg "len" = none) (ha : DA F X [e] t) (hg : Gl X "len" := by rfl) (he : starEach [e] X.env = (false, eval e X.env) :: starEach [] X.env := by rfl) : DE F X (.Call (.Name "len" p) [e] [] pos) (fun ρ Q => t ρ fun ds => rOwn C S tLenD ds Q) := by
  have m : ∀ r (Q Q' : D → Prop), (∀ d, Q d → Q' d) → tLenD r Q → tLenD r Q' := fun r Q Q' k ⟨n, e, hn, q⟩ => ⟨n, e, hn, k _ q⟩
  refine de_callB (id := "len") (mono_rOwn m) (lift_rOwn (T := tLen) (fun v d I H Q st r ⟨n, e, hn, q⟩ => ?_) m) (cr_lenO c hr) hm (by decide +kernel) ha hg (by decide) (by decide) he rfl
  subst e
  cases r
  exact ⟨n, rfl, hn, q _ _ _ st.stp (.int _)⟩
def tStr (v : V) (H : Hp) (Q : VK) : Prop := ∃ x, v = .str x ∧ Q (.str x) H
def tStrD (r : D) (Q : D → Prop) : Prop := ∃ x, r = .str x ∧ Q (.str x)
theorem tStrD.mono : ∀ r (Q Q' : D → Prop), (∀ d, Q d → Q' d) → tStrD r Q → tStrD r Q' := fun r Q Q' k ⟨n, e, q⟩ => ⟨n, e, k _ q⟩
theorem tStr.lift {v : V} {d : D} {I H : Hp} {Q : VK} (st : StI F.W I H) (r : Rep K I v d) (h : tStrD d (fin F K I H Q)) : tStr v H Q := by
  obtain ⟨x, rfl, q⟩ := h
  cases r
  exact ⟨x, rfl, q _ _ _ st.stp (.str _)⟩
theorem cr_strO (c : CalM X.prog X.w X.K X.mg X.base CX0 F.W k C "__str__" ps S) (hr : Rm (k + 2) X.A) (hu : X.A.units + 64 < cLine) : CallR X (.type "str") (ROwn F.W X.K C S tStr) := by
  intro pins s σ H xs us Q J r h
  obtain ⟨ad, dx, fs, rfl, hi, h⟩ := h
  obtain ⟨u, rfl, ru⟩ := vals1 r
  cases ru
  obtain ⟨ox, od, I⟩ := J.inst hi
  obtain ⟨f, h1, h2, h3⟩ := own_run c hr.in1.in1 rfl J h
  refine str_ins (by omega) J.kIn I h1 h2 (wpAny_mono h3 (fun u s' z => ?_) fun _ _ e => e)
  obtain ⟨v, H', J', rv, x, rfl, q⟩ := z
  obtain ⟨tk, rfl⟩ := rv
  exact ⟨x, tk, rfl, .str x, H', J', ⟨_, rfl⟩, q⟩
theorem de_strO (c : CalM X.prog X.w X.K X.mg X.base CX0 F.W k C "__str__" ps S) (hr : Rm (k + 2) X.A) (hu : X.A.units + 64 < cLine) (hm : X.mg "str" = none) (ha : DA F X [e] t) (hg : Gl X "str" := by rfl) (he : starEach [e] X.env = (false, eval e X.env) :: starEach [] X.env := by rfl) : DE F X (.Call (.Name "str" p) [e] [] pos) (fun ρ Q => t ρ fun ds => rOwn C S tStrD ds Q) :=
  de_callT (T := "str") (mono_rOwn tStrD.mono) (lift_rOwn (T := tStr) (fun v d I H Q st r h => tStr.lift st r h) tStrD.mono) (cr_strO c hr hu) hm (by decide +kernel) ha hg (by decide) (by decide) he rfl
/-- the class's way to be shown in an f-string -/
structure Fmt (K : PySem.W.Frag) (C : Addr) : Prop where
  fm : PySem.W.findIn K (.ref C) "__format__" = some (some (.builtin "object.__format__"))
  ob : PySem.W.subIn K (.ref C) (.type "object") = some true
abbrev DJT := DEnv → (Str → Prop) → Prop
/-- the parts of an f-string, one behind the other -/
structure DJ (F : Fx) (X : Cx) (es : List Expr) (ts : List TE) (t : Str → DJT) : Prop where
  mono : ∀ acc ρ (Q Q' : Str → Prop), (∀ x, Q x → Q' x) → t acc ρ Q → t acc ρ Q'
  pj : PJ X es ts
  run : ∀ (I : Hp) (ρ : DEnv) (σ : St) (H : Hp) (acc : Str) (P : Str → Prop) (R : Str → Hp → Prop), At F X.K I ρ σ H → t acc ρ P → (∀ x I' H', P x → Stp F.W I H I' H' → R x H') → tJs ts acc σ H R
theorem dj_nil : DJ F X [] [] (fun acc _ Q => Q acc) := ⟨fun acc ρ Q Q' k q => k _ q, .nil, fun I ρ σ H acc P R A q k => k acc I H q A.st.stp⟩
theorem dj_cons {es : List Expr} {ts : List TE} {t : Str → DJT} (he : DE F X e te) (h : DJ F X es ts t) : DJ F X (e :: es) (rdE F X.K te :: ts) (fun acc ρ Q => te ρ fun d => ∃ y, d = .str y ∧ (acc ++ y).length ≤ sizeLine ∧ t (acc ++ y) ρ Q) := by
  refine ⟨fun acc ρ Q Q' k q => he.mono _ _ _ (fun d ⟨y, e, l, q⟩ => ⟨y, e, l, h.mono _ _ _ _ k q⟩) q, .cons he.run h.pj, fun I ρ σ H acc P R A q k => ?_⟩
  show rdE F X.K te σ H _
  refine rdE_next he.mono A q fun d v I1 H1 ⟨y, e, l, q1⟩ s1 rv => ?_
  subst e
  cases rv
  exact ⟨y, rfl, l, h.run I1 ρ σ H1 _ P _ (A.step s1) q1 fun x I' H' p s2 => k x I' H' p (s1.trans s2)⟩
theorem de_joined {es : List Expr} {ts : List TE} {t : Str → DJT} (h : DJ F X (a :: b :: es) ts t) : DE F X (.JoinedStr (a :: b :: es) pos) (fun ρ Q => t Str.empty ρ fun x => Q (.str x)) :=
  ⟨fun ρ Q Q' k q => h.mono _ _ _ _ (fun x => k _) q, (pe_joined h.pj).imp fun σ H Q ⟨I, ρ, A, q⟩ => h.run I ρ σ H _ _ _ A q fun x I' H' q s => q _ _ _ s (.str _)⟩
structure Isi (K : PySem.W.Frag) (C : Addr) : Prop where
  cl : Cls K C
  ha : PySem.W.findIn K (.ref C) "__class__" = some (some (.builtin "object.__class__"))
  hn : PySem.W.specialIn K (.builtin "object.__class__") "__get__" = some (some (.builtin "getset_descriptor.__get__"))
  ht : PySem.W.takesIn K (.builtin "object.__class__") = some true
  hm : PySem.W.mroIn K C (.type "object") = some true
end
end Dk
namespace Dk
open PySem L2
end Dk
namespace Dk
open PySem PySem.Spec PyProof.Rows L2
theorem tuple_mul1 (l : Addr) (items : Array Value) (n : Nat) (u : Tok) :
    Meets (Builtin.«tuple.__mul__» ⟨[.ref l, .int 1 u], []⟩) (fun _ R s => (∃ dd sl, s.heap.get? l = some { cls := .type "tuple", dict := dd, data := .seq items n, slots := sl }) ∧ ∀ tk, R (.ok (.ret (Value.ref l))) { s with toks := tk }) :=
  .of_wp fun prog w A R s h => by
    obtain ⟨hp, g, d, tk, os⟩ := s
    obtain ⟨⟨dd, sl, hl⟩, h⟩ := h
    have f1 := AutoSeq1.idx_int
    have c1 : (items.isEmpty || (1 : Int) == 1) = true := by simp
    wp_walk using wpAny_loadPart' hl
    repeat (first
      | (refine wpAny_ite_true (decide_eq_true (by rw [c1])) ?_; wp_walk using wpAny_loadPart' hl)
      | (rw [if_pos c1]; wp_walk using wpAny_loadPart' hl))
    exact ⟨_, rfl, h _⟩
theorem tuple_mul0 (l : Addr) (items : Array Value) (n : Nat) (u : Tok) (hne : items.isEmpty = false) :
    Meets (Builtin.«tuple.__mul__» ⟨[.ref l, .int 0 u], []⟩) (fun _ R s => (∃ dd sl, s.heap.get? l = some { cls := .type "tuple", dict := dd, data := .seq items n, slots := sl }) ∧ R (.ok (.ret (Value.ref s.heap.objs.size))) { s with heap := s.heap.push { cls := Value.type "tuple", data := Data.seq #[] }, toks := s.toks }) :=
  .of_wp fun prog w A R s h => by
    obtain ⟨hp, g, d, tk, os⟩ := s
    obtain ⟨⟨dd, sl, hl⟩, h⟩ := h
    have f1 := AutoSeq1.idx_int
    have c1 : (items.isEmpty || (0 : Int) == 1) = false := by rw [hne]; rfl
    have c2 : (decide ((0 : Int) ≤ 0) || items.isEmpty) = true := by simp
    wp_walk using wpAny_loadPart' hl
    repeat (first
      | (refine wpAny_ite_false (decide_eq_false (by rw [c1]; exact Bool.false_ne_true)) ?_; wp_walk using wpAny_loadPart' hl)
      | (rw [if_neg (by rw [c1]; exact Bool.false_ne_true)]; wp_walk using wpAny_loadPart' hl)
      | (refine wpAny_ite_true (decide_eq_true (by rw [c2])) ?_; wp_walk using wpAny_loadPart' hl)
      | (rw [if_pos c2]; wp_walk using wpAny_loadPart' hl))
    exact ⟨_, rfl, h⟩
/-- xs * k, k a small number -/
def rRepA (K : PySem.W.Frag) : R2 := fun x y H Q => ∃ (l : Addr) (k : Nat) (xs : List V), x = .ref l ∧ y = .int k ∧ SqT K H l xs ∧ xs ≠ [] ∧ k ≤ 1000 ∧ xs.length ≤ 1000 ∧ ((k = 1 ∧ Q (.ref l) H) ∨ (k ≠ 1 ∧ ∀ p, H p = none → Q (.ref p) (upd H p (.tup (List.replicate k xs).flatten))))
section
variable {X : Cx}
theorem op_repA : OpR X (binaryOp .Mult) (rRepA X.K) := by
  intro pins s σ H x y v u Q I rx ry h
  obtain ⟨l, k, xs, rfl, rfl, hT, hne, h2, hz, q⟩ := h
  by_cases hk : 2 ≤ k
  · refine op_repT pins s σ H _ _ v u Q I rx ry ⟨l, (k : Int), xs, rfl, rfl, hT, hne, by omega, by omega, hz, ?_⟩
    rcases q with ⟨e, _⟩ | ⟨_, q⟩
    · omega
    · exact q
  cases rx
  obtain ⟨t, rfl⟩ := ry
  obtain ⟨its, r, ⟨⟨cls, dd, data, sl⟩, ho, hc, n, hd⟩, hs⟩ := I.tuple hT
  simp only at hc hd
  subst hc hd
  have hle : its.length = xs.length := r.length.symm
  have hn : its ≠ [] := fun e => hne (by
    rw [e] at hle
    exact List.eq_nil_of_length_eq_zero hle.symm)
  have hi : its.toArray.isEmpty = false := by
    cases its with
    | nil => exact absurd rfl hn
    | cons a b => rfl
  rcases q with ⟨rfl, q⟩ | ⟨h1, q⟩
  · refine wpAny_binaryOp_repeat_ref (T := "tuple") (U := "int") (by decide) ⟨_, ho, rfl⟩ (fun s' => typeIs_int s' _ t) noFill_tuple_mul F.fills_int_mul F.slot_int_rmul repeat_tuple F.slot_int_index.lookup
      (call_meets F.slot_int_rmul (typeIs_int s _ t) F.entry_int_rmul (F.args_int_rmul_2 _ _) (int_rmul_tuple _ t l its.toArray n dd sl)
        ⟨ho, rfl, ⟨_, ho, rfl⟩, call_meets F.slot_tuple_mul ⟨_, ho, rfl⟩ F.entry_tuple_mul (F.args_tuple_mul_2 _ _) (tuple_mul1 l its.toArray n t) ⟨⟨dd, sl, ho⟩, fun tk => ?_⟩⟩)
    exact ⟨.ref l, H, I.tok tk, rfl, q⟩
  · obtain rfl : k = 0 := by omega
    refine wpAny_binaryOp_repeat_ref (T := "tuple") (U := "int") (by decide) ⟨_, ho, rfl⟩ (fun s' => typeIs_int s' _ t) noFill_tuple_mul F.fills_int_mul F.slot_int_rmul repeat_tuple F.slot_int_index.lookup
      (call_meets F.slot_int_rmul (typeIs_int s _ t) F.entry_int_rmul (F.args_int_rmul_2 _ _) (int_rmul_tuple _ t l its.toArray n dd sl)
        ⟨ho, rfl, ⟨_, ho, rfl⟩, call_meets F.slot_tuple_mul ⟨_, ho, rfl⟩ F.entry_tuple_mul (F.args_tuple_mul_2 _ _) (tuple_mul0 l its.toArray n t hi) ⟨⟨dd, sl, ho⟩, ?_⟩⟩)
    refine ⟨.ref s.heap.objs.size, _, I.laid (t' := s.toks) (o := .tup []) (fun b ob q => Heap.get?_push_of_some _ q) (Nat.le_refl _) ?_, rfl, by simpa using q _ (I.hok.fresh (Nat.le_refl _))⟩
    exact ⟨Nat.zero_le _, [], .nil, IsTup.new _ _⟩
end
def mulTD (x y : D) (Q : D → Prop) : Prop := ∃ (xs : List D) (k : Nat), x = .tup xs ∧ y = .int k ∧ xs ≠ [] ∧ k ≤ 1000 ∧ xs.length ≤ 1000 ∧ Q (.tup (List.replicate k xs).flatten)
section
variable {F : Fx} {X : Cx} {K : PySem.W.Frag} {a b : Expr} {ta tb : DT} {pos : Pos}
theorem mono_mulT : Mono2 mulTD := fun x y Q Q' k ⟨xs, n, h1, h2, h3, h4, h5, q⟩ => ⟨xs, n, h1, h2, h3, h4, h5, k _ q⟩
theorem lf_mulT : LiftR F K (rRepA K) mulTD := by
  rintro x y dx dy I H Q st rx ry ⟨xs, n, rfl, rfl, h3, h4, h5, q⟩
  cases ry
  cases rx with
  | @tup l vs ds hT r =>
    refine ⟨l, n, vs, rfl, rfl, Same.seqT st.sub hT, fun e => h3 ?_, h4, by rw [r.length]; exact h5, ?_⟩
    · have := r.length
      rw [e] at this
      exact List.eq_nil_of_length_eq_zero this.symm
    · by_cases h1 : n = 1
      · subst h1
        refine .inl ⟨rfl, q _ _ _ st.stp ?_⟩
        have e : (List.replicate 1 xs).flatten = xs := by simp
        rw [e]
        exact .tup hT r
      · refine .inr ⟨h1, fun p hp => ?_⟩
        have l' := st.laid hp (.tup (List.replicate n vs).flatten)
        exact q _ _ _ l' (.tup (.of upd_same) ((r.rep n).mono l'.i))
theorem de_mulT (ha : DE F X a ta) (hb : DE F X b tb) : DE F X (.BinOp a .Mult b pos) (fun ρ Q => ta ρ fun x => tb ρ fun y => mulTD x y Q) := de_op mono_mulT op_repA lf_mulT ha hb
end
end Dk
namespace Dk
open PySem PySem.W L2
open Builtin Builtin.ObjectAttr
structure XB (nB newId iB initId : String) (tl : List Value) : Prop where
  nw : ∃ jd tl0, ExcBaseFacts nB newId jd tl0
  slot : Slot iB "__init__" initId
  entry : entryFor table initId = some Builtin.«BaseException.__init__»
  kind : builtinKind initId = some .slot
  split : splitId initId = some (iB, "__init__")
  sig : Manifest.signature? initId = some ⟨.positional, "*", iB, .self, [⟨"args", .varPos, false⟩]⟩
  star : (iB != "*") = true
  hn : tl.contains (.type nB) = true
  hi : tl.contains (.type iB) = true
  hA : tl.contains (.type "AttributeError") = false
  hN : tl.contains (.type "NameError") = false
  hO : tl.contains (.type "object") = true
  SF : StoreFacts iB tl "object.__setattr__" "object"
abbrev veTl : List Value := [.type "ValueError", .type "Exception", .type "BaseException", .type "object"]
theorem xb_ve : XB "ValueError" "ValueError.__new__" "ValueError" "ValueError.__init__" veTl where
  nw := ⟨_, _, PySem.F.excBase_ValueError⟩
  slot := PySem.F.excBase_ValueError.init
  entry := PySem.F.excBase_ValueError.initEntry
  kind := PySem.F.excBase_ValueError.initKind
  split := PySem.F.excBase_ValueError.initSplit
  sig := PySem.F.excBase_ValueError.initRow
  star := PySem.F.excBase_ValueError.noStar
  hn := by decide +kernel
  hi := by decide +kernel
  hA := by decide +kernel
  hN := by decide +kernel
  hO := by decide +kernel
  SF := PySem.F.store_ValueError
section
variable {M : Model} {A : Around} {E : Value → Shared → Prop} {h : Heap} {g : Array GenState} {d : Drawn} {t : Nat} {os : OsState}
variable {nm q : Str} {C N : Addr} {bs bm tl : List Value} {hdct : Bool} {sn : List Str} {sub : List Value} {ab : Bool} {col : Option Bool} {dd : Option Addr} {k0 k1 k2 k3 k5 : Option Value} {nB newId iB initId : String}
theorem x_has (hT : ∀ X : String, bm.contains (.type X) = tl.contains (.type X)) {X : String} {b : Bool} (h : tl.contains (.type X) = b) : (Value.ref C :: bm).contains (.type X) = b := by
  rw [List.contains_cons, hT, h]
  rfl
theorem x_check_new (B : XB nB newId iB initId tl) (hT : ∀ X : String, bm.contains (.type X) = tl.contains (.type X)) {rest : List Value} {Q : Unit → Shared → Prop}
    (hC : h.get? C = some (excClassObj nm q C N bs bm hdct sn sub ab col dd k0 k1 k2 k3 k5 newId)) (hq : Q () ⟨h, g, d, t, os⟩) : wpAny M A (checkBuiltinCall newId ⟨.ref C :: rest, []⟩) Q E ⟨h, g, d, t, os⟩ := by
  obtain ⟨jd, tl0, F⟩ := B.nw
  have has := x_has (C := C) hT B.hn
  have nostar := F.noStar
  simp only [checkBuiltinCall, F.newKind, F.newSplit, F.newRow]
  repeat (first
    | refine wpAny_loadPart_at hC ?_
    | (refine wpAny_isSubtype_exc hC ?_; rw [has])
    | refine wpAny_staticBase_exc hC ?_
    | refine wpAny_madeBy_exc hC ?_
    | simp only [bne_self_eq_false, Bool.false_eq_true, if_false]
    | wp_step)
  exact hq
theorem x_check_init (B : XB nB newId iB initId tl) (hT : ∀ X : String, bm.contains (.type X) = tl.contains (.type X)) {e : Addr} {oe : Obj} {rest : List Value} {Q : Unit → Shared → Prop}
    (hC : h.get? C = some (excClassObj nm q C N bs bm hdct sn sub ab col dd k0 k1 k2 k3 k5 newId)) (he : h.get? e = some oe) (hcls : oe.cls = .ref C) (hq : Q () ⟨h, g, d, t, os⟩) : wpAny M A (checkBuiltinCall initId ⟨.ref e :: rest, []⟩) Q E ⟨h, g, d, t, os⟩ := by
  have has := x_has (C := C) hT B.hi
  have nostar := B.star
  simp only [checkBuiltinCall, B.kind, B.split, B.sig]
  repeat (first
    | (with_reducible refine wpAny_loadPart_at he ?_; rw [hcls])
    | with_reducible refine wpAny_loadPart_at hC ?_
    | (with_reducible refine wpAny_isSubtype_exc hC ?_; rw [has])
    | wp_step)
  refine wpAny_onRaise ?_
  have cs := fun a b n => check_star_args "*" iB a b .self n
  show wpAny _ _ (Bind.check _ _ _ _ []) _ _ _
  rw [cs]
  exact wpAny_pure hq
end
section
variable {prog : Program} {w : World} {A : Around} {E : Value → Shared → Prop} {R : Result → Shared → Prop} {h : Heap} {g : Array GenState} {d : Drawn} {t : Nat} {os : OsState}
variable {nm q : Str} {C N : Addr} {bs bm tl : List Value} {hdct : Bool} {sn : List Str} {sub : List Value} {ab : Bool} {col : Option Bool} {dd : Option Addr} {k0 k1 k2 k3 k5 : Option Value} {nB newId iB initId : String}
/-- the new record and its args -/
abbrev xNew (h : Heap) (C : Addr) (rest : List Value) : Heap := (h.push (PySem.W.kdv_tup rest)).push (PySem.HandSPX.excO C h.objs.size)
theorem x_new (B : XB nB newId iB initId tl) (hT : ∀ X : String, bm.contains (.type X) = tl.contains (.type X)) {rest : List Value}
    (hC : h.get? C = some (excClassObj nm q C N bs bm hdct sn sub ab col dd k0 k1 k2 k3 k5 newId)) (hq : R (.ok (.ret (.ref (h.objs.size + 1)))) ⟨xNew h C rest, g, d, t, os⟩) (hrest : rest.length ≤ sizeLine) :
    codeAny (model prog w) A (.builtin newId ⟨.ref C :: rest, []⟩) R ⟨h, g, d, t, os⟩ := by
  obtain ⟨jd, tl0, F⟩ := B.nw
  have ends := F.ends
  have c1 := x_has (C := C) hT B.hn
  have c2 := x_has (C := C) hT B.hA
  have c3 := x_has (C := C) hT B.hN
  refine codeAny_builtinAt F.entry ?_
  unfold Builtin.«BaseException.__new__»
  refine wpAt_bind ?_
  show wpAt _ _ _ (stack >>= _) _ _ _
  refine wpAt_bind (wpAt_stack fun p below => wpAt_of_wpAny ?_)
  wp_walk
  refine wpAt_of_wpAny ?_
  rw [F.owner]
  repeat (first
    | with_reducible refine wpAny_madeHere_exc F.canon hC ?_
    | with_reducible refine wpAny_loadPart_at hC ?_
    | (with_reducible refine wpAny_isSubtype_exc hC ?_; first | rw [c1] | rw [c2] | rw [c3])
    | wp_step)
  show R _ _
  rw [Heap.size_push]
  exact hq
theorem x_type_call (B : XB nB newId iB initId tl) (hT : ∀ X : String, bm.contains (.type X) = tl.contains (.type X)) {rest : List Value} {fI : Addr} {Q : Fin → Shared → Prop}
    (hC : h.get? C = some (excClassObj nm q C N bs bm hdct sn sub ab col dd k0 k1 k2 k3 k5 newId)) (hi : Looks (model prog w) h (typeLookup (.ref C) "__init__") (some (.ref fI)))
    (hb : ∀ self, Looks (model prog w) h (bindSpecial (.ref fI) self) (.ref fI, [self])) (hrest : rest.length ≤ sizeLine)
    (hq : codeAny (model prog w) A (.call (.ref fI) ⟨.ref (h.objs.size + 1) :: rest, []⟩)
      (fun r s' => match r with | .ok (.ret v) => v = .none ∧ Q (.done (.ret (.ref (h.objs.size + 1)))) s' | .ok _ => False | .error e => E e s') ⟨xNew h C rest, g, d, t, os⟩) :
    wpAny (model prog w) A (Builtin.«type.__call__» ⟨.ref C :: rest, []⟩) Q E ⟨h, g, d, t, os⟩ := by
  obtain ⟨jd, tl0, F⟩ := B.nw
  repeat (first | with_reducible refine wpAny_loadPart_at hC ?_ | with_reducible refine wpAny_madeBy_exc hC ?_ | wp_step)
  refine codeAny_call_builtin_code (Code.quiet_builtin _ F.quiet) (x_check_new B hT hC (x_new B hT hC ?_ hrest))
  show wpAny _ _ _ _ _ _
  have k : ∀ b o, h.get? b = some o → (xNew h C rest).get? b = some o := fun b o e => Heap.get?_push_of_some _ (Heap.get?_push_of_some _ e)
  have at1 : (xNew h C rest).get? (h.objs.size + 1) = some (PySem.HandSPX.excO C h.objs.size) := by heap_get
  have self1 : (Value.ref C :: bm).contains (.ref C) = true := by simp
  have hC1 := k _ _ hC
  have i1 := hi.keeps k
  have b1 := (hb (.ref (h.objs.size + 1))).keeps k
  unfold isInstance
  repeat (first | with_reducible refine wpAny_loadPart_at at1 ?_ | (with_reducible refine wpAny_isSubtype_exc hC1 ?_; rw [self1]) | wp_step)
  show wpAny _ _ (typeLookup (.ref C) _) _ _ _
  refine i1.at (wpAny_holding (wpAny_bind (b1.at (wpAny_bind (wpAny_call (codeAny_mono hq fun r s' z => ?_))))))
  rcases r with e | (v | _ | _ | _) <;> first | exact z | exact z.elim | skip
  obtain ⟨rfl, z⟩ := z
  first
    | exact wpAny_pure (wpAny_pure z)
    | (wp_walk; exact z)
/-- C(..), C's own __init__ at fI -/
theorem x_call (B : XB nB newId iB initId tl) (hT : ∀ X : String, bm.contains (.type X) = tl.contains (.type X)) {rest : List Value} {fI : Addr}
    (hC : h.get? C = some (excClassObj nm q C N bs bm hdct sn sub ab col dd k0 k1 k2 k3 k5 newId)) (hi : Looks (model prog w) h (typeLookup (.ref C) "__init__") (some (.ref fI)))
    (hb : ∀ self, Looks (model prog w) h (bindSpecial (.ref fI) self) (.ref fI, [self])) (hrest : rest.length ≤ sizeLine)
    (hq : codeAny (model prog w) (A.under (.builtin "type.__call__" ⟨.ref C :: rest, []⟩)) (.call (.ref fI) ⟨.ref (h.objs.size + 1) :: rest, []⟩) (W.InitBack (h.objs.size + 1) R) ⟨xNew h C rest, g, d, t, os⟩) :
    codeAny (model prog w) A (.call (.ref C) ⟨rest, []⟩) R ⟨h, g, d, t, os⟩ := by
  have f1 := tc_lookup
  have f2 := tc_bind (.ref C)
  have ty : (⟨h, g, d, t, os⟩ : Shared).TypeIs (.ref C) "type" := ⟨_, hC, rfl⟩
  refine codeAny_of_tree ?_
  show wpAny _ _ (callAny (.ref C) _) _ _ _
  repeat (any_goals (first | assumption | with_reducible refine wpAny_loadPart_at hC ?_ | wp_step))
  refine ⟨rfl, codeAny_call_builtin_at (Code.quiet_builtin _ (by decide +kernel)) entry_typeCall (wpAny_check_type_call_sub hC (x_type_call B hT hC hi hb hrest (codeAny_mono hq fun r s' z => ?_)))⟩
  rcases r with e | (v | _ | _ | _) <;> exact z
/-- iB.__init__(e, ..) -/
theorem x_init (B : XB nB newId iB initId tl) (hT : ∀ X : String, bm.contains (.type X) = tl.contains (.type X)) {e t0 : Addr} {rest : List Value}
    (hC : h.get? C = some (excClassObj nm q C N bs bm hdct sn sub ab col dd k0 k1 k2 k3 k5 newId)) (he : h.get? e = some (PySem.HandSPX.excO C t0)) (hrest : rest.length ≤ sizeLine)
    (hq : ∀ h' t1, (∀ b o, b ≠ e → h.get? b = some o → h'.get? b = some o) → h'.get? e = some (PySem.HandSPX.excO C t1) → R (.ok (.ret .none)) ⟨h', g, d, t, os⟩) :
    codeAny (model prog w) A (.call (.builtin initId) ⟨.ref e :: rest, []⟩) R ⟨h, g, d, t, os⟩ := by
  refine codeAny_call_builtin B.slot.plain B.entry (x_check_init B hT hC he rfl ?_)
  wp_walk
  have he2 := Heap.get?_push_of_some (PySem.W.kdv_tup rest) he
  refine hq _ h.objs.size (fun b o hb ho => (Heap.get?_update_other _ _ (Ne.symm hb)).trans (Heap.get?_push_of_some _ ho)) ?_
  exact (Heap.get?_update_self _ he2 rfl).trans rfl
end
end Dk
namespace Dk
open PySem PySem.W
def initVE (K : Frag) (D : Addr) : Bool := match findCls K (.ref D) (.type "type") "__init__" with
  | some (.val v) => v == .builtin "ValueError.__init__"
  | _ => false
theorem initVE_of {K : Frag} {D : Addr} (h : initVE K D = true) : findCls K (.ref D) (.type "type") "__init__" = some (.val (.builtin "ValueError.__init__")) := by
  unfold initVE at h
  split at h
  · rename_i v e
    rw [e, eq_of_beq h]
  · cases h
end Dk
namespace KB
open PySem L2 Dk PySem.Spec PyProof.Rows
def hTop (i : Nat) : Stmt := PySem.Challenge.pw_dressedkinds_k02_books_equal_and_shown_p.main.body.getD i (.Pass ⟨0, 0, 0, 0⟩)
def hB0 (K : PySem.W.Frag) : Bool := decide ((PySem.W.nsIn K mainGlobals "Book" = some (some (.ref (He.ga K "Book")))) ∧ (PySem.W.nsIn K mainGlobals "Bare" = some (some (.ref (He.ga K "Bare")))) ∧ (PySem.W.nsIn K mainGlobals "Gap" = some (some (.ref (He.ga K "Gap")))) ∧ (PySem.W.nsIn K mainGlobals "InUse" = some (some (.ref (He.ga K "InUse")))) ∧ (PySem.W.nsIn K mainGlobals "NoBack" = some (some (.ref (He.ga K "NoBack")))) ∧ (PySem.W.nsIn K mainGlobals "NoDress" = some (some (.ref (He.ga K "NoDress")))) ∧ (PySem.W.nsIn K mainGlobals "NoFall" = some (some (.ref (He.ga K "NoFall")))) ∧ (PySem.W.nsIn K mainGlobals "NoFilling" = some (some (.ref (He.ga K "NoFilling")))) ∧ (PySem.W.nsIn K mainGlobals "NoFun" = some (some (.ref (He.ga K "NoFun")))) ∧ (PySem.W.nsIn K mainGlobals "NoIndex" = some (some (.ref (He.ga K "NoIndex")))) ∧ (PySem.W.nsIn K mainGlobals "NoName" = some (some (.ref (He.ga K "NoName")))) ∧ (PySem.W.nsIn K mainGlobals "NoOrnament" = some (some (.ref (He.ga K "NoOrnament")))) ∧ (PySem.W.nsIn K mainGlobals "NoText" = some (some (.ref (He.ga K "NoText")))) ∧ (PySem.W.nsIn K mainGlobals "Taken" = some (some (.ref (He.ga K "Taken")))) ∧ (PySem.W.nsIn K mainGlobals "TooLong" = some (some (.ref (He.ga K "TooLong")))) ∧ (PySem.W.nsIn K mainGlobals "Unlike" = some (some (.ref (He.ga K "Unlike")))) ∧ (PySem.W.nsIn K mainGlobals "KindError" = some (some (.ref (He.ga K "KindError")))) ∧ (PySem.W.nsIn K mainGlobals "is_name" = some (some (.ref (He.fAd K ("is_name", none))))) ∧ (PySem.W.keepIn K (.ref (He.fAd K ("is_name", none))) = true) ∧ (PySem.W.nsIn K mainGlobals "is_bough" = some (some (.ref (He.fAd K ("is_bough", none))))) ∧ (PySem.W.keepIn K (.ref (He.fAd K ("is_bough", none))) = true) ∧ (PySem.W.nsIn K mainGlobals "is_kind" = some (some (.ref (He.fAd K ("is_kind", none))))) ∧ (PySem.W.keepIn K (.ref (He.fAd K ("is_kind", none))) = true) ∧ (PySem.W.nsIn K mainGlobals "are_unlike" = some (some (.ref (He.fAd K ("are_unlike", none))))) ∧ (PySem.W.keepIn K (.ref (He.fAd K ("are_unlike", none))) = true))
def hB1 (K : PySem.W.Frag) : Bool := decide ((PySem.W.nsIn K mainGlobals "is_kinds" = some (some (.ref (He.fAd K ("is_kinds", none))))) ∧ (PySem.W.keepIn K (.ref (He.fAd K ("is_kinds", none))) = true) ∧ (PySem.W.nsIn K mainGlobals "with_worths" = some (some (.ref (He.fAd K ("with_worths", none))))) ∧ (PySem.W.keepIn K (.ref (He.fAd K ("with_worths", none))) = true) ∧ (PySem.W.nsIn K mainGlobals "kind_text" = some (some (.ref (He.fAd K ("kind_text", none))))) ∧ (PySem.W.keepIn K (.ref (He.fAd K ("kind_text", none))) = true) ∧ (PySem.W.findIn K (.ref (He.ga K "Book")) "__init__" = some (some (.ref (He.fAd K ("Book", some "__init__"))))) ∧ (PySem.W.keepIn K (.ref (He.fAd K ("Book", some "__init__"))) = true) ∧ (PySem.W.isFn K (.ref (He.fAd K ("Book", some "__init__"))) = true) ∧ (PySem.W.findIn K (.ref (He.ga K "Book")) "__eq__" = some (some (.ref (He.fAd K ("Book", some "__eq__"))))) ∧ (PySem.W.keepIn K (.ref (He.fAd K ("Book", some "__eq__"))) = true) ∧ (PySem.W.isFn K (.ref (He.fAd K ("Book", some "__eq__"))) = true) ∧ (PySem.W.findIn K (.ref (He.ga K "Book")) "__len__" = some (some (.ref (He.fAd K ("Book", some "__len__"))))) ∧ (PySem.W.keepIn K (.ref (He.fAd K ("Book", some "__len__"))) = true) ∧ (PySem.W.isFn K (.ref (He.fAd K ("Book", some "__len__"))) = true) ∧ (PySem.W.findIn K (.ref (He.ga K "Book")) "__str__" = some (some (.ref (He.fAd K ("Book", some "__str__"))))) ∧ (PySem.W.keepIn K (.ref (He.fAd K ("Book", some "__str__"))) = true) ∧ (PySem.W.isFn K (.ref (He.fAd K ("Book", some "__str__"))) = true) ∧ (PySem.W.findIn K (.ref (He.ga K "Book")) "__repr__" = some (some (.ref (He.fAd K ("Book", some "__repr__"))))) ∧ (PySem.W.keepIn K (.ref (He.fAd K ("Book", some "__repr__"))) = true) ∧ (PySem.W.isFn K (.ref (He.fAd K ("Book", some "__repr__"))) = true) ∧ (PySem.W.findIn K (.ref (He.ga K "Bare")) "__init__" = some (some (.ref (He.fAd K ("Bare", some "__init__"))))) ∧ (PySem.W.keepIn K (.ref (He.fAd K ("Bare", some "__init__"))) = true) ∧ (PySem.W.isFn K (.ref (He.fAd K ("Bare", some "__init__"))) = true) ∧ (PySem.W.nsIn K mainGlobals "_law_deck" = some (some (.ref (He.fAd K ("_law_deck", none))))))
def hB2 (K : PySem.W.Frag) : Bool := decide ((PySem.W.keepIn K (.ref (He.fAd K ("_law_deck", none))) = true) ∧ (PySem.W.nsIn K mainGlobals "_law_draw" = some (some (.ref (He.fAd K ("_law_draw", none))))) ∧ (PySem.W.keepIn K (.ref (He.fAd K ("_law_draw", none))) = true) ∧ (PySem.W.nsIn K mainGlobals "_law_pick" = some (some (.ref (He.fAd K ("_law_pick", none))))) ∧ (PySem.W.keepIn K (.ref (He.fAd K ("_law_pick", none))) = true) ∧ (PySem.W.nsIn K mainGlobals "_law_names" = some (some (.ref (He.fAd K ("_law_names", none))))) ∧ (PySem.W.keepIn K (.ref (He.fAd K ("_law_names", none))) = true) ∧ (PySem.W.nsIn K mainGlobals "_law_letters" = some (some (.ref (He.fAd K ("_law_letters", none))))) ∧ (PySem.W.keepIn K (.ref (He.fAd K ("_law_letters", none))) = true) ∧ (PySem.W.nsIn K mainGlobals "_law_kinds" = some (some (.ref (He.fAd K ("_law_kinds", none))))) ∧ (PySem.W.keepIn K (.ref (He.fAd K ("_law_kinds", none))) = true) ∧ (PySem.W.nsIn K mainGlobals "_law_great_kinds" = some (some (.ref (He.fAd K ("_law_great_kinds", none))))) ∧ (PySem.W.keepIn K (.ref (He.fAd K ("_law_great_kinds", none))) = true) ∧ (PySem.W.nsIn K mainGlobals "_law_any_kinds" = some (some (.ref (He.fAd K ("_law_any_kinds", none))))) ∧ (PySem.W.keepIn K (.ref (He.fAd K ("_law_any_kinds", none))) = true) ∧ (PySem.W.nsIn K mainGlobals "_law_alike" = some (some (.ref (He.fAd K ("_law_alike", none))))) ∧ (PySem.W.keepIn K (.ref (He.fAd K ("_law_alike", none))) = true) ∧ (PySem.W.nsIn K mainGlobals "_law_fresh" = some (some (.ref (He.fAd K ("_law_fresh", none))))) ∧ (PySem.W.keepIn K (.ref (He.fAd K ("_law_fresh", none))) = true) ∧ (PySem.W.nsIn K mainGlobals "_law_others" = some (some (.ref (He.fAd K ("_law_others", none))))) ∧ (PySem.W.keepIn K (.ref (He.fAd K ("_law_others", none))) = true) ∧ (PySem.W.nsIn K mainGlobals "_law_with_worths" = some (some (.ref (He.fAd K ("_law_with_worths", none))))) ∧ (PySem.W.keepIn K (.ref (He.fAd K ("_law_with_worths", none))) = true) ∧ (PySem.W.nsIn K mainGlobals "_law_bare_heard" = some (some (.ref (He.fAd K ("_law_bare_heard", none))))) ∧ (PySem.W.keepIn K (.ref (He.fAd K ("_law_bare_heard", none))) = true))
def hB3 (K : PySem.W.Frag) : Bool := decide ((PySem.W.nsIn K mainGlobals "_law_bare_right" = some (some (.ref (He.fAd K ("_law_bare_right", none))))) ∧ (PySem.W.keepIn K (.ref (He.fAd K ("_law_bare_right", none))) = true) ∧ (PySem.W.nsIn K mainGlobals "_law_row_right" = some (some (.ref (He.fAd K ("_law_row_right", none))))) ∧ (PySem.W.keepIn K (.ref (He.fAd K ("_law_row_right", none))) = true) ∧ (PySem.W.nsIn K mainGlobals "law" = some (some (.ref (He.fAd K ("law", none))))) ∧ (PySem.W.keepIn K (.ref (He.fAd K ("law", none))) = true) ∧ ((He.Fa.str "LETTERS" "abcdefghijklmnopqrstuvwxyz").ok K = true) ∧ ((He.Fa.int "LONGEST" (8)).ok K = true) ∧ ((He.Fa.str "NUM" "num").ok K = true) ∧ (PySem.W.nsIn K mainGlobals "isinstance" = some none) ∧ (PySem.W.nsIn K mainGlobals "str" = some none) ∧ (PySem.W.nsIn K mainGlobals "tuple" = some none) ∧ (PySem.W.nsIn K mainGlobals "len" = some none) ∧ (PySem.W.nsIn K mainGlobals "all" = some none) ∧ (PySem.W.nsIn K mainGlobals "any" = some none) ∧ (PySem.W.nsIn K mainGlobals "range" = some none) ∧ (PySem.W.nsIn K mainGlobals "sum" = some none) ∧ (PySem.W.nsIn K mainGlobals "min" = some none) ∧ (PySem.W.nsIn K mainGlobals "max" = some none) ∧ (PySem.W.nsIn K mainGlobals "int" = some none) ∧ (PySem.W.nsIn K mainGlobals "repr" = some none) ∧ (PySem.W.nsIn K mainGlobals "list" = some none) ∧ (PySem.W.nsIn K mainGlobals "sorted" = some none) ∧ (PySem.W.nsIn K mainGlobals "zip" = some none) ∧ (PySem.W.plainGet K (He.ga K "Book") Str.empty = true))
def hB4 (K : PySem.W.Frag) : Bool := decide ((PySem.W.hasDictIn K (He.ga K "Book") = true) ∧ (PySem.W.plainOver K (He.ga K "Book") = true) ∧ (PySem.W.findIn K (.ref (He.ga K "Book")) "__setattr__" = some (some (.builtin "object.__setattr__"))) ∧ (PySem.W.makesIn K (He.ga K "Book") = true) ∧ (PySem.W.keepIn K (.ref (He.ga K "Book")) = true) ∧ (PySem.W.findIn K (.ref (He.ga K "Book")) "__format__" = some (some (.builtin "object.__format__"))) ∧ (PySem.W.subIn K (.ref (He.ga K "Book")) (.type "object") = some true) ∧ (PySem.W.findIn K (.ref (He.ga K "Book")) "__class__" = some (some (.builtin "object.__class__"))) ∧ (PySem.W.specialIn K (.builtin "object.__class__") "__get__" = some (some (.builtin "getset_descriptor.__get__"))) ∧ (PySem.W.takesIn K (.builtin "object.__class__") = some true) ∧ (PySem.W.mroIn K (He.ga K "Book") (.type "object") = some true) ∧ (PySem.W.findIn K (.ref (He.ga K "Book")) "kinds" = some none) ∧ (PySem.W.findIn K (.ref (He.ga K "Book")) "names_by" = some none) ∧ (PySem.W.findIn K (.ref (He.ga K "Book")) "kinds_by" = some none) ∧ (PySem.W.findIn K (.ref (He.ga K "Book")) "fields_by" = some none) ∧ (PySem.W.excInitIn K (He.ga K "Bare") ([.type "ValueError", .type "Exception", .type "BaseException", .type "object"] : List Value) "ValueError.__new__" = true) ∧ (PySem.W.excOver K (He.ga K "Bare") ([.type "ValueError", .type "Exception", .type "BaseException", .type "object"] : List Value) = true) ∧ (PySem.W.hasDictIn K (He.ga K "Bare") = true) ∧ (PySem.W.findIn K (.ref (He.ga K "Bare")) "__setattr__" = some (some (.builtin "object.__setattr__"))) ∧ (PySem.W.subIn K (.ref (He.ga K "Bare")) (.type "BaseException") = some true) ∧ (PySem.W.typeIn K (.ref (He.ga K "Bare")) = some (.type "type")) ∧ (PySem.W.keepIn K (.ref (He.ga K "Bare")) = true) ∧ (PySem.W.findIn K (.ref (He.ga K "Bare")) "__getattribute__" = some (some (.builtin "BaseException.__getattribute__"))) ∧ (PySem.W.findIn K (.ref (He.ga K "Bare")) "__getattr__" = some none) ∧ (PySem.W.findIn K (.ref (He.ga K "Bare")) "__class__" = some (some (.builtin "object.__class__"))))
def hB5 (K : PySem.W.Frag) : Bool := decide ((PySem.W.specialIn K (.builtin "object.__class__") "__get__" = some (some (.builtin "getset_descriptor.__get__"))) ∧ (PySem.W.takesIn K (.builtin "object.__class__") = some true) ∧ (PySem.W.mroIn K (He.ga K "Bare") (.type "object") = some true) ∧ (PySem.W.findIn K (.ref (He.ga K "Bare")) "kind" = some none) ∧ (PySem.W.nsIn K mainGlobals "NoBook" = some (some (.ref (He.ga K "NoBook")))) ∧ (PySem.W.excIn K (He.ga K "NoBook") ([.type "ValueError", .type "Exception", .type "BaseException", .type "object"] : List Value) "ValueError.__new__" = true) ∧ (PySem.W.hasDictIn K (He.ga K "NoBook") = true) ∧ (PySem.W.subIn K (.ref (He.ga K "NoBook")) (.type "BaseException") = some true) ∧ (PySem.W.typeIn K (.ref (He.ga K "NoBook")) = some (.type "type")) ∧ (PySem.W.keepIn K (.ref (He.ga K "NoBook")) = true) ∧ (PySem.W.findIn K (.ref (He.ga K "NoBook")) "__getattribute__" = some (some (.builtin "BaseException.__getattribute__"))) ∧ (PySem.W.findIn K (.ref (He.ga K "NoBook")) "__getattr__" = some none) ∧ (PySem.W.findIn K (.ref (He.ga K "NoBook")) "__class__" = some (some (.builtin "object.__class__"))) ∧ (PySem.W.specialIn K (.builtin "object.__class__") "__get__" = some (some (.builtin "getset_descriptor.__get__"))) ∧ (PySem.W.takesIn K (.builtin "object.__class__") = some true) ∧ (PySem.W.mroIn K (He.ga K "NoBook") (.type "object") = some true) ∧ (PySem.W.nsIn K mainGlobals "ValueError" = some none) ∧ (PySem.W.nsIn K mainGlobals "bool" = some none) ∧ (PySem.W.exmOne K (.ref (He.ga K "Bare")) (.ref (He.ga K "KindError")) = some true) ∧ (PySem.W.kitAny K (.ref (He.ga K "Bare")) [.ref (He.ga K "Gap"), .ref (He.ga K "InUse"), .ref (He.ga K "NoBack"), .ref (He.ga K "NoBook"), .ref (He.ga K "NoDress"), .ref (He.ga K "NoFall"), .ref (He.ga K "NoFilling"), .ref (He.ga K "NoFun"), .ref (He.ga K "NoIndex"), .ref (He.ga K "NoName")] = some false) ∧ (PySem.W.kitAny K (.ref (He.ga K "Bare")) [.ref (He.ga K "NoOrnament"), .ref (He.ga K "NoText"), .ref (He.ga K "Taken"), .ref (He.ga K "TooLong"), .ref (He.ga K "Unlike")] = some false) ∧ (PySem.W.kitOne K (.ref (He.ga K "Bare")) (.ref (He.ga K "Bare")) = some true) ∧ (PySem.W.kitOne K (.ref (He.ga K "Bare")) (.type "ValueError") = some true) ∧ (PySem.W.specialIn K (.ref (He.ga K "KindError")) "__getattribute__" = some (some (.builtin "type.__getattribute__"))) ∧ (PySem.W.readsIn K (He.ga K "KindError") (.type "type") = true))
def hB6 (K : PySem.W.Frag) : Bool := decide ((Dk.initVE K (He.ga K "KindError") = true) ∧ (PySem.W.findIn K (.ref (He.ga K "Book")) "__ne__" = some (some (.builtin "object.__ne__"))) ∧ (((["NoneType", "bool", "int", "str", "list", "tuple", "dict"] : List String).all fun T => decide (PySem.W.subIn K (.ref (He.ga K "Book")) (.type T) = some false)) = true) ∧ (((["NoneType", "bool", "int", "str", "list", "tuple", "dict"] : List String).all fun T => decide (PySem.W.subIn K (.type T) (.ref (He.ga K "Book")) = some false)) = true) ∧ (((["NoneType", "bool", "int", "str", "list", "tuple", "dict"] : List String).all fun T => decide (PySem.W.kitOne K (.type T) (.ref (He.ga K "Book")) = some false)) = true) ∧ (PySem.W.findIn K (.ref (He.ga K "Book")) "__bool__" = some none))
def hBs (K : PySem.W.Frag) : Bool := (hB0 K && (hB1 K && (hB2 K && (hB3 K && (hB4 K && (hB5 K && (hB6 K)))))))
def hFn : List He.FnD := [⟨("is_name", none), "is_name", "is_name", defArgs (hTop 24), defBody (hTop 24), defScope (hTop 24)⟩, ⟨("is_bough", none), "is_bough", "is_bough", defArgs (hTop 26), defBody (hTop 26), defScope (hTop 26)⟩, ⟨("is_kind", none), "is_kind", "is_kind", defArgs (hTop 27), defBody (hTop 27), defScope (hTop 27)⟩, ⟨("are_unlike", none), "are_unlike", "are_unlike", defArgs (hTop 28), defBody (hTop 28), defScope (hTop 28)⟩, ⟨("is_kinds", none), "is_kinds", "is_kinds", defArgs (hTop 29), defBody (hTop 29), defScope (hTop 29)⟩, ⟨("with_worths", none), "with_worths", "with_worths", defArgs (hTop 30), defBody (hTop 30), defScope (hTop 30)⟩, ⟨("kind_text", none), "kind_text", "kind_text", defArgs (hTop 31), defBody (hTop 31), defScope (hTop 31)⟩, ⟨("Book", some "__init__"), "__init__", "Book.__init__", defArgs (inClass (hTop 32) 0), defBody (inClass (hTop 32) 0), defScope (inClass (hTop 32) 0)⟩, ⟨("Book", some "__eq__"), "__eq__", "Book.__eq__", defArgs (inClass (hTop 32) 1), defBody (inClass (hTop 32) 1), defScope (inClass (hTop 32) 1)⟩, ⟨("Book", some "__len__"), "__len__", "Book.__len__", defArgs (inClass (hTop 32) 2), defBody (inClass (hTop 32) 2), defScope (inClass (hTop 32) 2)⟩, ⟨("Book", some "__str__"), "__str__", "Book.__str__", defArgs (inClass (hTop 32) 3), defBody (inClass (hTop 32) 3), defScope (inClass (hTop 32) 3)⟩, ⟨("Book", some "__repr__"), "__repr__", "Book.__repr__", defArgs (inClass (hTop 32) 4), defBody (inClass (hTop 32) 4), defScope (inClass (hTop 32) 4)⟩, ⟨("Bare", some "__init__"), "__init__", "Bare.__init__", defArgs (inClass (hTop 7) 0), defBody (inClass (hTop 7) 0), defScope (inClass (hTop 7) 0)⟩, ⟨("_law_deck", none), "_law_deck", "_law_deck", defArgs (hTop 34), defBody (hTop 34), defScope (hTop 34)⟩, ⟨("_law_draw", none), "_law_draw", "_law_draw", defArgs (hTop 35), defBody (hTop 35), defScope (hTop 35)⟩, ⟨("_law_pick", none), "_law_pick", "_law_pick", defArgs (hTop 36), defBody (hTop 36), defScope (hTop 36)⟩, ⟨("_law_names", none), "_law_names", "_law_names", defArgs (hTop 37), defBody (hTop 37), defScope (hTop 37)⟩, ⟨("_law_letters", none), "_law_letters", "_law_letters", defArgs (hTop 38), defBody (hTop 38), defScope (hTop 38)⟩, ⟨("_law_kinds", none), "_law_kinds", "_law_kinds", defArgs (hTop 39), defBody (hTop 39), defScope (hTop 39)⟩, ⟨("_law_great_kinds", none), "_law_great_kinds", "_law_great_kinds", defArgs (hTop 40), defBody (hTop 40), defScope (hTop 40)⟩, ⟨("_law_any_kinds", none), "_law_any_kinds", "_law_any_kinds", defArgs (hTop 41), defBody (hTop 41), defScope (hTop 41)⟩, ⟨("_law_alike", none), "_law_alike", "_law_alike", defArgs (hTop 42), defBody (hTop 42), defScope (hTop 42)⟩, ⟨("_law_fresh", none), "_law_fresh", "_law_fresh", defArgs (hTop 43), defBody (hTop 43), defScope (hTop 43)⟩, ⟨("_law_others", none), "_law_others", "_law_others", defArgs (hTop 44), defBody (hTop 44), defScope (hTop 44)⟩, ⟨("_law_with_worths", none), "_law_with_worths", "_law_with_worths", defArgs (hTop 45), defBody (hTop 45), defScope (hTop 45)⟩, ⟨("_law_bare_heard", none), "_law_bare_heard", "_law_bare_heard", defArgs (hTop 46), defBody (hTop 46), defScope (hTop 46)⟩, ⟨("_law_bare_right", none), "_law_bare_right", "_law_bare_right", defArgs (hTop 47), defBody (hTop 47), defScope (hTop 47)⟩, ⟨("_law_row_right", none), "_law_row_right", "_law_row_right", defArgs (hTop 48), defBody (hTop 48), defScope (hTop 48)⟩, ⟨("law", none), "law", "law", defArgs (hTop 49), defBody (hTop 49), defScope (hTop 49)⟩]
def hL0 : List PySem.Str := ["_wall", "KindError", "NoBook", "NoText", "NoBack", "Unlike", "Bare", "NoFun", "NoFall", "TooLong", "NoOrnament", "NoDress", "NoFilling", "NoIndex", "NoName", "Taken", "InUse", "Gap", "NoKind", "NUM", "LETTERS", "LONGEST", "is_name", "is_bough", "is_kind", "are_unlike", "is_kinds", "with_worths", "kind_text", "Book"]
def hL1 : List PySem.Str := ["_law_deck", "_law_draw", "_law_pick", "_law_names", "_law_letters", "_law_kinds", "_law_great_kinds", "_law_any_kinds", "_law_alike", "_law_fresh", "_law_others", "_law_with_worths", "_law_bare_heard", "_law_bare_right", "_law_row_right"]
def hLoose : List PySem.Str := hL0 ++ hL1
abbrev hR : PySem.W.OpenRow := PySem.W.OpenLaw.row PySem.Challenge.rw_dressedkinds_k02_books_equal_and_shown_p
def hAs : List Addr := mainGlobals :: (List.range 1000).reverse
abbrev hH : PySem.W.Hook := Dk.hookX hAs hBs hFn
set_option maxHeartbeats 0 in
theorem hrun (w : World) : HandSHeadRun.RunEq hR (PySem.W.view hR.prog [49]) hH (Dk.obX hAs hBs hFn) 15000 hLoose w := by
  intro os
  kernel_rfl
end KB
namespace KB
open PySem L2 Dk
abbrev Bough := Str × List Str
abbrev Kind := Str × List Bough
def boughD (b : Bough) : D := .tup [.str b.1, .tup (b.2.map D.str)]
def kindD (k : Kind) : D := .tup [.str k.1, .tup (k.2.map boughD)]
def kindsD (ks : List Kind) : D := .tup (ks.map kindD)
def numS : Str := "num"
def signOk (c : Nat) : Bool := decide (97 ≤ c) && decide (c ≤ 122)
def nameOk (x : Str) : Bool := decide (1 ≤ x.length) && (decide (x.length ≤ 8) && (!decide (x = numS) && x.cps.toList.all signOk))
theorem nameOk_split {x : Str} (h : nameOk x = true) : 1 ≤ x.length ∧ x.length ≤ 8 ∧ x ≠ numS ∧ ∀ c ∈ x.cps.toList, 97 ≤ c ∧ c ≤ 122 := by
  unfold nameOk at h
  simp only [Bool.and_eq_true, decide_eq_true_eq, Bool.not_eq_true', decide_eq_false_iff_not, List.all_eq_true] at h
  obtain ⟨a, b, c, d⟩ := h
  refine ⟨a, b, c, fun x hx => ?_⟩
  have := d x hx
  unfold signOk at this
  simpa using this
def kNames (ks : List Kind) : List Str := ks.map (·.1)
def bNames (ks : List Kind) : List Str := ks.flatMap fun k => k.2.map (·.1)
def fNames (ks : List Kind) : List Str := ks.flatMap fun k => k.2.flatMap fun b => b.2
/-- what the fields of a bough weigh -/
def wsum (s : Str → Nat) (fs : List Str) : Nat := ((fs.filter fun f => !decide (f = numS)).map s).sum
structure Good (ks : List Kind) : Prop where
  ne : ks ≠ []
  kn : ∀ k ∈ ks, nameOk k.1 = true
  kb : ∀ k ∈ ks, k.2 ≠ []
  bn : ∀ k ∈ ks, ∀ b ∈ k.2, nameOk b.1 = true
  nd : (kNames ks).Nodup
  bd : (bNames ks).Nodup
  fl : ∀ k ∈ ks, ∀ b ∈ k.2, ∀ f ∈ b.2, f = numS ∨ f ∈ kNames ks
  wf : ∃ r s : Str → Nat, ∀ k ∈ ks, r k.1 < ks.length ∧ s k.1 ≤ 29 ∧ ∃ b ∈ k.2, (∀ f ∈ b.2, f = numS ∨ (f ∈ kNames ks ∧ r f < r k.1)) ∧ 1 + wsum s b.2 ≤ s k.1
  s1 : ks.length ≤ 6
  s2 : ∀ k ∈ ks, k.2.length ≤ 8
  s3 : ∀ k ∈ ks, ∀ b ∈ k.2, b.2.length ≤ 8
theorem Good.wf0 {ks : List Kind} (g : Good ks) : ∃ r : Str → Nat, ∀ k ∈ ks, r k.1 < ks.length ∧ ∃ b ∈ k.2, ∀ f ∈ b.2, f = numS ∨ (f ∈ kNames ks ∧ r f < r k.1) :=
  let ⟨r, s, h⟩ := g.wf
  ⟨r, fun k hk => let ⟨h1, h2, b, hb, h3, h4⟩ := h k hk; ⟨h1, b, hb, h3⟩⟩
theorem strOk_name {x : Str} (h : nameOk x = true) : PyData.strOk x = true := by
  unfold PyData.strOk
  rw [← Array.all_toList, List.all_eq_true]
  intro c hc
  have := (nameOk_split h).2.2.2 c hc
  simp
  omega
theorem okN_name {x : Str} (h : nameOk x = true) : OkN 0 (.str x) := okN_str (strOk_name h)
theorem okN_num : OkN 0 (.str numS) := okN_str (by decide +kernel)
theorem Good.field {ks : List Kind} (g : Good ks) {k : Kind} (hk : k ∈ ks) {b : Bough} (hb : b ∈ k.2) {f : Str} (hf : f ∈ b.2) : OkN 0 (.str f) := by
  rcases g.fl k hk b hb f hf with rfl | h
  · exact okN_num
  · obtain ⟨k', h1, rfl⟩ := List.mem_map.mp h
    exact okN_name (g.kn k' h1)
theorem Good.okBough {ks : List Kind} (g : Good ks) {k : Kind} (hk : k ∈ ks) {b : Bough} (hb : b ∈ k.2) : OkN 2 (boughD b) := okN_tup (k := 1) fun x hx => by
  simp only [List.mem_cons, List.not_mem_nil, or_false] at hx
  rcases hx with rfl | rfl
  · exact (okN_name (g.bn k hk b hb)).mono (by decide)
  · refine okN_tup (k := 0) fun y hy => ?_
    obtain ⟨f, hf, rfl⟩ := List.mem_map.mp hy
    exact g.field hk hb hf
theorem Good.okKind {ks : List Kind} (g : Good ks) {k : Kind} (hk : k ∈ ks) : OkN 4 (kindD k) := okN_tup (k := 3) fun x hx => by
  simp only [List.mem_cons, List.not_mem_nil, or_false] at hx
  rcases hx with rfl | rfl
  · exact (okN_name (g.kn k hk)).mono (by decide)
  · refine okN_tup (k := 2) fun y hy => ?_
    obtain ⟨b, hb, rfl⟩ := List.mem_map.mp hy
    exact g.okBough hk hb
theorem Good.ok {ks : List Kind} (g : Good ks) : OkN 5 (kindsD ks) := okN_tup (k := 4) fun x hx => by
  obtain ⟨k, hk, rfl⟩ := List.mem_map.mp hx
  exact g.okKind hk
theorem deq_strs (x y : Str) : deq (.str x) (.str y) = decide (x = y) := by simp [deq, toPy, PyData.eqv]; rfl
theorem in_abc {c : Nat} : subS ⟨#[c]⟩ "abcdefghijklmnopqrstuvwxyz" = signOk c := by
  rw [subS_one]
  have e : ("abcdefghijklmnopqrstuvwxyz" : Str).cps.toList = (List.range 26).map (97 + ·) := by decide +kernel
  rw [e]
  unfold signOk
  by_cases h : 97 ≤ c ∧ c ≤ 122
  · have : c ∈ (List.range 26).map (97 + ·) := List.mem_map.mpr ⟨c - 97, List.mem_range.mpr (by omega), by omega⟩
    simp [this, h.1, h.2]
  · have : c ∉ (List.range 26).map (97 + ·) := by
      intro hc
      obtain ⟨d, h1, h2⟩ := List.mem_map.mp hc
      have := List.mem_range.mp h1
      omega
    simp only [this, decide_false]
    symm
    rw [Bool.and_eq_false_iff]
    by_cases h1 : 97 ≤ c
    · right; simp; omega
    · left; simp; omega
theorem in_names {xs : List Str} {f : Str} (ok : ∀ x ∈ xs, OkN 0 (.str x)) (hf : OkN 0 (.str f)) {Q : D → Prop} (q : Q (.bl (decide (f ∈ xs)))) : inD false (.str f) (.lst (xs.map D.str)) Q := by
  refine ⟨hf.okE (by decide), (okN_lst (k := 0) fun x hx => ?_).okE (by decide), ?_⟩
  · obtain ⟨y, hy, rfl⟩ := List.mem_map.mp hx
    exact ok y hy
  · have e : ((xs.map D.str).any fun z => deq z (.str f)) = decide (f ∈ xs) := by
      rw [List.any_map, List.any_eq]
      congr 1
      simp only [Function.comp_apply, deq_strs, decide_eq_true_eq, eq_iff_iff]
      exact ⟨fun ⟨x, h1, h2⟩ => h2 ▸ h1, fun h => ⟨f, h, rfl⟩⟩
    rw [e]
    exact q
/-- the names of a dict -/
def hasN (kvs : List (Key × D)) (f : Str) : Bool := (lookD kvs (.inr f)).isSome
theorem hasN_put (kvs : List (Key × D)) (n : Str) (d : D) (f : Str) : hasN (putD kvs (.inr n) d) f = (hasN kvs f || decide (f = n)) := by
  have main : ∀ kvs : List (Key × D), (lookD (putD kvs (.inr n) d) (.inr f)).isSome = ((lookD kvs (.inr f)).isSome || decide (f = n)) := by
    intro kvs
    have any_iff : ∀ (l : List (Key × D)) (k : Key), (lookD l k).isSome = l.any fun kv => decide (kv.1 = k) := by
      intro l k
      unfold lookD
      rw [Option.isSome_map, Bool.eq_iff_iff, List.find?_isSome, List.any_eq_true]
    rw [any_iff, any_iff]
    unfold putD
    split
    · rename_i hc
      have e : ((kvs.map fun kv => if kv.1 = .inr n then (kv.1, d) else kv).any fun kv => decide (kv.1 = (.inr f : Key))) = kvs.any fun kv => decide (kv.1 = (.inr f : Key)) := by
        rw [List.any_map]
        congr 1
        funext kv
        simp only [Function.comp_apply]
        split <;> rfl
      rw [e]
      by_cases hf : f = n
      · subst hf; rw [hc]; simp
      · simp [hf]
    · rw [List.any_append]
      congr 1
      simp only [List.any_cons, List.any_nil, Bool.or_false]
      rw [decide_eq_decide]
      exact ⟨fun h => (Sum.inr.inj h).symm, fun h => by rw [h]⟩
  exact main kvs
end KB
namespace KB
open PySem L2 Dk
open PyProof.Rows (envOfC)
def top (i : Nat) : Stmt := PySem.Challenge.pw_dressedkinds_k02_books_equal_and_shown_p.main.body.getD i (.Pass ⟨0, 0, 0, 0⟩)
abbrev s_is_name : Stmt := top 24
theorem sc_is_name : FnScope ["thing", "sign"] ["thing"] (defScope s_is_name) := ⟨rfl, rfl, rfl, by decide +kernel, rfl, by decide +kernel, by decide +kernel⟩
theorem bd_is_name (kV doc pm : Value) (an : Option Addr) (cdv ct : Value) (us : List Value) (hl : us.length = 1) : bindArgs (PySem.W.fnOf "is_name" "is_name" (defArgs s_is_name) (defBody s_is_name) (defScope s_is_name) .none kV doc pm an cdv ct) ⟨us, []⟩ = pure ((["thing"] : List Str).zip us) := by
  match us, hl with
  | [v0], _ => rfl
abbrev s_is_bough : Stmt := top 26
theorem sc_is_bough : FnScope ["thing", "field"] ["thing"] (defScope s_is_bough) := ⟨rfl, rfl, rfl, by decide +kernel, rfl, by decide +kernel, by decide +kernel⟩
theorem bd_is_bough (kV doc pm : Value) (an : Option Addr) (cdv ct : Value) (us : List Value) (hl : us.length = 1) : bindArgs (PySem.W.fnOf "is_bough" "is_bough" (defArgs s_is_bough) (defBody s_is_bough) (defScope s_is_bough) .none kV doc pm an cdv ct) ⟨us, []⟩ = pure ((["thing"] : List Str).zip us) := by
  match us, hl with
  | [v0], _ => rfl
abbrev s_is_kind : Stmt := top 27
theorem sc_is_kind : FnScope ["thing", "bough"] ["thing"] (defScope s_is_kind) := ⟨rfl, rfl, rfl, by decide +kernel, rfl, by decide +kernel, by decide +kernel⟩
theorem bd_is_kind (kV doc pm : Value) (an : Option Addr) (cdv ct : Value) (us : List Value) (hl : us.length = 1) : bindArgs (PySem.W.fnOf "is_kind" "is_kind" (defArgs s_is_kind) (defBody s_is_kind) (defScope s_is_kind) .none kV doc pm an cdv ct) ⟨us, []⟩ = pure ((["thing"] : List Str).zip us) := by
  match us, hl with
  | [v0], _ => rfl
abbrev s_are_unlike : Stmt := top 28
theorem sc_are_unlike : FnScope ["names", "name"] ["names"] (defScope s_are_unlike) := ⟨rfl, rfl, rfl, by decide +kernel, rfl, by decide +kernel, by decide +kernel⟩
theorem bd_are_unlike (kV doc pm : Value) (an : Option Addr) (cdv ct : Value) (us : List Value) (hl : us.length = 1) : bindArgs (PySem.W.fnOf "are_unlike" "are_unlike" (defArgs s_are_unlike) (defBody s_are_unlike) (defScope s_are_unlike) .none kV doc pm an cdv ct) ⟨us, []⟩ = pure ((["names"] : List Str).zip us) := by
  match us, hl with
  | [v0], _ => rfl
abbrev s_is_kinds : Stmt := top 29
theorem sc_is_kinds : FnScope ["thing", "kind", "names", "name", "boughs", "bough", "fields", "some", "field"] ["thing"] (defScope s_is_kinds) := ⟨rfl, rfl, rfl, by decide +kernel, rfl, by decide +kernel, by decide +kernel⟩
theorem bd_is_kinds (kV doc pm : Value) (an : Option Addr) (cdv ct : Value) (us : List Value) (hl : us.length = 1) : bindArgs (PySem.W.fnOf "is_kinds" "is_kinds" (defArgs s_is_kinds) (defBody s_is_kinds) (defScope s_is_kinds) .none kV doc pm an cdv ct) ⟨us, []⟩ = pure ((["thing"] : List Str).zip us) := by
  match us, hl with
  | [v0], _ => rfl
abbrev s_with_worths : Stmt := top 30
theorem sc_with_worths : FnScope ["kinds", "found", "turn", "name", "boughs", "field", "bough", "fields"] ["kinds"] (defScope s_with_worths) := ⟨rfl, rfl, rfl, by decide +kernel, rfl, by decide +kernel, by decide +kernel⟩
theorem bd_with_worths (kV doc pm : Value) (an : Option Addr) (cdv ct : Value) (us : List Value) (hl : us.length = 1) : bindArgs (PySem.W.fnOf "with_worths" "with_worths" (defArgs s_with_worths) (defBody s_with_worths) (defScope s_with_worths) .none kV doc pm an cdv ct) ⟨us, []⟩ = pure ((["kinds"] : List Str).zip us) := by
  match us, hl with
  | [v0], _ => rfl
structure TxtB (K : PySem.W.Frag) (C : Addr) (mg : Str → Option Value) : Prop where
  g_LETTERS : ∃ t, mg "LETTERS" = some (.str "abcdefghijklmnopqrstuvwxyz" t)
  g_LONGEST : ∃ t, mg "LONGEST" = some (.int 8 t)
  g_NUM : ∃ t, mg "NUM" = some (.str "num" t)
  b_isinstance : mg "isinstance" = none
  b_str : mg "str" = none
  b_tuple : mg "tuple" = none
  b_len : mg "len" = none
  b_all : mg "all" = none
  b_any : mg "any" = none
  b_range : mg "range" = none
  b_sum : mg "sum" = none
  b_min : mg "min" = none
  b_max : mg "max" = none
  b_int : mg "int" = none
  b_repr : mg "repr" = none
  b_list : mg "list" = none
  b_sorted : mg "sorted" = none
  b_zip : mg "zip" = none
  cl_Book : Cls K C
  na_Book_kinds : NoAttr K C "kinds"
  na_Book_names_by : NoAttr K C "names_by"
  na_Book_kinds_by : NoAttr K C "kinds_by"
  na_Book_fields_by : NoAttr K C "fields_by"
def spOne (R : D → Prop) : DSp where
  n := 1
  f := fun ds Q _ => ∃ x, ds = [x] ∧ R x ∧ Q (.bl true)
  len := fun ds Q E ⟨m, e, _⟩ => by rw [e]; rfl
  mono := fun ds Q Q' E E' k _ ⟨m, e, h, q⟩ => ⟨m, e, h, k _ q⟩
def spIsName : DSp := spOne fun d => ∃ x, d = .str x ∧ nameOk x = true
def spIsBough : DSp := spOne fun d => ∃ b : Bough, d = boughD b ∧ nameOk b.1 = true ∧ b.2.length ≤ 8
def spIsKind : DSp := spOne fun d => ∃ k : Kind, d = kindD k ∧ nameOk k.1 = true ∧ k.2 ≠ [] ∧ k.2.length ≤ 8 ∧ (∀ b ∈ k.2, nameOk b.1 = true ∧ b.2.length ≤ 8) ∧ OkN 4 (kindD k)
def spUnlike : DSp := spOne fun d => ∃ xs : List Str, d = .lst (xs.map D.str) ∧ xs.Nodup ∧ xs.length ≤ 1000
section
variable {P : Program} {w : World} {K : PySem.W.Frag} {C : Addr} {mg : Str → Option Value} {base : Heap} {W : Wd} {k : Nat} {f : Addr} {fd : FuncData}
theorem all_true {α : Type} (l : List α) : ∃ ns : List Bool, (l.map fun _ => D.bl true) = ns.map D.bl ∧ ns.all id = true := ⟨l.map fun _ => true, by rw [List.map_map]; rfl, by simp⟩
theorem ok_is_name (T : TxtB K C mg) (Fn : Fun K "is_name" "is_name" s_is_name f fd) : GnOk P w K mg base CX0 (k + 1) f fd ["thing"] (spD W K spIsName) := by
  refine Fn.okD sc_is_name rfl fun cdv A outer s H I ds Q Ed E hr h => ?_
  have hu := hr.units
  have hu2 : (A.deeper (envOfC "is_name" (defScope s_is_name) s.heap.objs.size f cdv)).units + 66 < cLine := by have := hr.room.un; omega
  obtain ⟨_, rfl, ⟨x, rfl, hx⟩, q⟩ := h
  refine ⟨_, (dss_cons (ds_if (dt_wh (dw_or (dt_not (dt_val (de_isi is_str T.b_isinstance T.b_str (by decide +kernel) (de_name 0)))) (dw_or (dt_not (dt_chain .le .le de_int (de_len T.b_len (da_cons (de_name 0) da_nil)) (de_gi T.g_LONGEST))) (dw_or1 (dt_c (.eq hu) (de_name 0) (de_gs T.g_NUM))))))
  (dss_one (ds_ret de_bl))
  dss_nil)
  (dss_one (ds_ret (de_all rfl T.b_all (da_cons (de_lc (own := [("sign", 1)]) rfl sc_is_name.nd (di_seq (de_name 0)) (blkOk_by (own := [("sign", 1)]) (N := ["thing", "sign"]) (sc := defScope s_is_name) (by decide +kernel)) (fun _ _ _ _ _ => (dg_name 1 sc_is_name.nd)) (fun _ _ _ _ _ => dif_nil) (fun _ _ _ _ _ => (de_in hu2 (de_name 1) (de_gs T.g_LETTERS)))) da_nil))))), ?_⟩
  obtain ⟨h1, h2, h3, h4⟩ := nameOk_split hx
  have hl : x.length ≤ sizeLine := Nat.le_trans h2 (by decide)
  simp only [getD_0, getD_s, set_0, set_s, boolD_bl, intD_int, startD, List.map, List.length_cons, List.length_nil, List.replicate, List.cons_append, List.nil_append, defEnds]
  refine ⟨rfl, ?_⟩
  simp only [isStr, Bool.not_true, Bool.false_eq_true, if_false, lenD, leD]
  refine ⟨hl, ?_⟩
  simp only [getD_0, getD_s, set_0, set_s, boolD_bl, intD_int, startD, List.map, List.length_cons, List.length_nil, List.replicate, List.cons_append, List.nil_append, defEnds]
  rw [if_pos (by simp; omega), if_neg (by simp; omega)]
  simp only [eqD_str, getD_0, getD_s, set_0, set_s, boolD_bl, intD_int, startD, List.map, List.length_cons, List.length_nil, List.replicate, List.cons_append, List.nil_append, defEnds]
  rw [if_neg (by rw [decide_eq_true_eq]; exact h3)]
  simp only [itemsD]
  have e : sgnD x = x.cps.toList.map fun c => D.str ⟨#[c]⟩ := rfl
  rw [e]
  refine ⟨by rw [List.length_map]; exact hl, lcD_all (fun c => D.str ⟨#[c]⟩) (fun _ => .bl true) (fun c hc R S r => ?_) ?_⟩
  · simp only [wipeD, getD_0, getD_s, set_0, set_s, boolD_bl, intD_int, startD, List.map, List.length_cons, List.length_nil, List.replicate, List.cons_append, List.nil_append, defEnds, if_true]
    refine ⟨_, rfl, ?_⟩
    rw [in_abc]
    have : signOk c = true := by have := h4 c hc; unfold signOk; simp [this]
    rw [this]
    exact r
  · obtain ⟨ns, e1, e2⟩ := all_true x.cps.toList
    exact ⟨ns, e1, by rw [e2]; exact q⟩
theorem ok_is_bough (T : TxtB K C mg) (Fn : Fun K "is_bough" "is_bough" s_is_bough f fd) (C_is_name : Cal P w K mg base CX0 W k "is_name" ["thing"] spIsName) : GnOk P w K mg base CX0 (k + 1) f fd ["thing"] (spD W K spIsBough) := by
  refine Fn.okD sc_is_bough rfl fun cdv A outer s H I ds Q Ed E hr h => ?_
  have hu := hr.units
  obtain ⟨_, rfl, ⟨b, rfl, hb, h8⟩, q⟩ := h
  refine ⟨_, (dss_cons (ds_if (dt_wh (dw_or (dt_not (dt_val (de_isi is_tup T.b_isinstance T.b_tuple (by decide +kernel) (de_name 0)))) (dw_or (dt_c (.ne hu) (de_len T.b_len (da_cons (de_name 0) da_nil)) de_int) (dw_or (dt_not (dt_val (de_fn C_is_name (hr.mono (by omega)) pass0 lets0 (da_cons (de_at hu (de_name 0) de_int) da_nil)))) (dw_or1 (dt_not (dt_val (de_isi is_tup T.b_isinstance T.b_tuple (by decide +kernel) (de_at hu (de_name 0) de_int)))))))))
  (dss_one (ds_ret de_bl))
  dss_nil)
  (dss_one (ds_ret (de_all rfl T.b_all (da_cons (de_lc (own := [("field", 1)]) rfl sc_is_bough.nd (di_seq (de_at hu (de_name 0) de_int)) (blkOk_by (own := [("field", 1)]) (N := ["thing", "field"]) (sc := defScope s_is_bough) (by decide +kernel)) (fun _ _ _ _ _ => (dg_name 1 sc_is_bough.nd)) (fun _ _ _ _ _ => dif_nil) (fun _ _ _ _ _ => (de_isi is_str T.b_isinstance T.b_str (by decide +kernel) (de_name 1)))) da_nil))))), ?_⟩
  simp only [getD_0, getD_s, set_0, set_s, boolD_bl, intD_int, startD, List.map, List.length_cons, List.length_nil, List.replicate, List.cons_append, List.nil_append, defEnds, boughD]
  refine ⟨rfl, ?_⟩
  simp only [isTup, Bool.not_true, Bool.false_eq_true, if_false, lenD]
  simp only [neD_int, getD_0, getD_s, set_0, set_s, boolD_bl, intD_int, startD, List.map, List.length_cons, List.length_nil, List.replicate, List.cons_append, List.nil_append, defEnds, Bool.not_true, Bool.false_eq_true, if_false]
  rw [if_neg (by decide)]
  refine ⟨_, rfl, _, rfl, ⟨_, rfl, hb⟩, ?_⟩
  simp only [getD_0, getD_s, set_0, set_s, boolD_bl, intD_int, startD, List.map, List.length_cons, List.length_nil, List.replicate, List.cons_append, List.nil_append, defEnds, Bool.not_true, Bool.false_eq_true, if_false]
  refine ⟨_, rfl, rfl, ?_⟩
  simp only [isTup, Bool.not_true, Bool.false_eq_true, if_false]
  refine ⟨_, rfl, ?_⟩
  simp only [itemsD]
  refine ⟨Nat.le_trans (by rw [List.length_map]; exact h8) (by decide), lcD_all D.str (fun _ => .bl true) (fun c hc R S r => ?_) ?_⟩
  · simp only [wipeD, getD_0, getD_s, set_0, set_s, boolD_bl, intD_int, startD, List.map, List.length_cons, List.length_nil, List.replicate, List.cons_append, List.nil_append, defEnds, if_true]
    exact ⟨rfl, r⟩
  · obtain ⟨ns, e1, e2⟩ := all_true b.2
    exact ⟨ns, e1, by rw [e2]; exact q⟩
theorem ok_is_kind (T : TxtB K C mg) (Fn : Fun K "is_kind" "is_kind" s_is_kind f fd) (C_is_name : Cal P w K mg base CX0 W k "is_name" ["thing"] spIsName) (C_is_bough : Cal P w K mg base CX0 W k "is_bough" ["thing"] spIsBough) : GnOk P w K mg base CX0 (k + 1) f fd ["thing"] (spD W K spIsKind) := by
  refine Fn.okD sc_is_kind rfl fun cdv A outer s H I ds Q Ed E hr h => ?_
  have hu := hr.units
  obtain ⟨_, rfl, ⟨a, rfl, ha, hne, h8, hb, okk⟩, q⟩ := h
  refine ⟨_, (dss_cons (ds_if (dt_wh (dw_or (dt_not (dt_val (de_isi is_tup T.b_isinstance T.b_tuple (by decide +kernel) (de_name 0)))) (dw_or (dt_c (.ne hu) (de_len T.b_len (da_cons (de_name 0) da_nil)) de_int) (dw_or (dt_not (dt_val (de_fn C_is_name (hr.mono (by omega)) pass0 lets0 (da_cons (de_at hu (de_name 0) de_int) da_nil)))) (dw_or1 (dt_not (dt_val (de_isi is_tup T.b_isinstance T.b_tuple (by decide +kernel) (de_at hu (de_name 0) de_int)))))))))
  (dss_one (ds_ret de_bl))
  dss_nil)
  (dss_one (ds_ret (de_and (de_c (.ne hu) (de_at hu (de_name 0) de_int) (de_tup da_nil)) (de_one (de_all rfl T.b_all (da_cons (de_lc (own := [("bough", 1)]) rfl sc_is_kind.nd (di_seq (de_at hu (de_name 0) de_int)) (blkOk_by (own := [("bough", 1)]) (N := ["thing", "bough"]) (sc := defScope s_is_kind) (by decide +kernel)) (fun _ _ _ _ _ => (dg_name 1 sc_is_kind.nd)) (fun _ _ _ _ _ => dif_nil) (fun _ _ _ _ _ => (de_fn C_is_bough (hr.mono (by omega)) pass0 lets0 (da_cons (de_name 1) da_nil)))) da_nil))))))), ?_⟩
  simp only [getD_0, getD_s, set_0, set_s, boolD_bl, intD_int, startD, List.map, List.length_cons, List.length_nil, List.replicate, List.cons_append, List.nil_append, defEnds, kindD]
  refine ⟨rfl, ?_⟩
  simp only [isTup, Bool.not_true, Bool.false_eq_true, if_false, lenD]
  simp only [neD_int, getD_0, getD_s, set_0, set_s, boolD_bl, intD_int, startD, List.map, List.length_cons, List.length_nil, List.replicate, List.cons_append, List.nil_append, defEnds, Bool.not_true, Bool.false_eq_true, if_false]
  rw [if_neg (by decide)]
  refine ⟨_, rfl, _, rfl, ⟨_, rfl, ha⟩, ?_⟩
  simp only [getD_0, getD_s, set_0, set_s, boolD_bl, intD_int, startD, List.map, List.length_cons, List.length_nil, List.replicate, List.cons_append, List.nil_append, defEnds, Bool.not_true, Bool.false_eq_true, if_false]
  refine ⟨_, rfl, rfl, ?_⟩
  simp only [isTup, Bool.not_true, Bool.false_eq_true, if_false]
  refine ⟨_, rfl, by decide, ?_⟩
  have okt : OkN 3 (.tup (a.2.map boughD)) := by
    have p := okk.pl
    have c := okk.cl
    have d := okk.dp
    simp only [kindD, toPy, toPys, plainD, plainDs, PyData.canLay0, PyData.canLayAll0, PyData.depth, PyData.depthAll, Bool.and_eq_true] at p c d
    exact ⟨p.2.1, by simpa [toPy, PyData.canLay0] using c.2.1, by simp only [toPy, PyData.depth]; omega⟩
  have e0 : deq (.tup (a.2.map boughD)) (.tup []) = false := by
    cases hq : a.2 with
    | nil => exact absurd hq hne
    | cons x xs => simp [deq, toPy, toPys, PyData.eqv, PyData.eqvAll]
  refine ⟨?_, ?_⟩
  · unfold canEq
    rw [okt.okE (by decide), (okN_tup (k := 0) (xs := []) (by simp)).okE (by decide)]
    simp
  rw [e0]
  simp only [getD_0, getD_s, set_0, set_s, boolD_bl, intD_int, startD, List.map, List.length_cons, List.length_nil, List.replicate, List.cons_append, List.nil_append, defEnds, Bool.not_false, if_true]
  refine ⟨_, rfl, ?_⟩
  simp only [itemsD]
  refine ⟨Nat.le_trans (by rw [List.length_map]; exact h8) (by decide), lcD_all boughD (fun _ => .bl true) (fun b hbm R S r => ?_) ?_⟩
  · simp only [wipeD, getD_0, getD_s, set_0, set_s, boolD_bl, intD_int, startD, List.map, List.length_cons, List.length_nil, List.replicate, List.cons_append, List.nil_append, defEnds, if_true]
    exact ⟨_, rfl, ⟨b, rfl, (hb b hbm).1, (hb b hbm).2⟩, r⟩
  · obtain ⟨ns, e1, e2⟩ := all_true a.2
    exact ⟨ns, e1, by rw [e2]; exact q⟩
theorem addK_nodup (xs : List Str) : ∀ (pre : List Str), (pre ++ xs).Nodup → (xs.map Sum.inr).foldl addK (pre.map (Sum.inr : Str → Key)) = (pre ++ xs).map Sum.inr := by
  induction xs with
  | nil => intro pre _; simp
  | cons x xs ih =>
    intro pre h
    have hx : x ∉ pre := by
      rw [List.nodup_append] at h
      exact fun hm => h.2.2 x hm x (by simp) rfl
    have e : addK (pre.map Sum.inr) (Sum.inr x : Key) = (pre ++ [x]).map Sum.inr := by
      unfold addK
      rw [if_neg]
      · simp
      · unfold hasK
        rw [List.any_map, Bool.not_eq_true, List.any_eq_false]
        intro y hy
        simp only [Function.comp_apply, decide_eq_true_eq]
        exact fun z => hx (Sum.inr.inj z ▸ hy)
    rw [List.map_cons, List.foldl_cons, e, ih (pre ++ [x]) (by simpa using h)]
    simp
theorem ok_are_unlike (T : TxtB K C mg) (Fn : Fun K "are_unlike" "are_unlike" s_are_unlike f fd) : GnOk P w K mg base CX0 (k + 1) f fd ["names"] (spD W K spUnlike) := by
  refine Fn.okD sc_are_unlike rfl fun cdv A outer s H I ds Q Ed E hr h => ?_
  have hu := hr.units
  obtain ⟨_, rfl, ⟨xs, rfl, hn, hl⟩, q⟩ := h
  refine ⟨_, (dss_one (ds_ret (de_c (.eq hu) (de_lenSc (own := [("name", 1)]) T.b_len rfl sc_are_unlike.nd (di_seq (de_name 0)) (blkOk_by (own := [("name", 1)]) (N := ["names", "name"]) (sc := defScope s_are_unlike) (by decide +kernel)) (fun _ _ _ _ _ => (dg_name 1 sc_are_unlike.nd)) (fun _ _ _ _ _ => dif_nil) (fun _ _ _ _ _ => (dn_nil rfl (dm_set (fun _ _ z => z) (de_name 1))))) (de_len T.b_len (da_cons (de_name 0) da_nil))))), ?_⟩
  simp only [getD_0, getD_s, set_0, set_s, boolD_bl, intD_int, startD, List.map, List.length_cons, List.length_nil, List.replicate, List.cons_append, List.nil_append, defEnds, itemsD, wipeD]
  have run : ∀ (ys pre : List Str) (R : List Key → Prop), (pre ++ ys).Nodup → (pre ++ ys).length ≤ 1000 → R ((pre ++ ys).map Sum.inr) → loopD (fun d ρ Q => Q (List.set ρ 1 (some (Ent.dat d)))) (fun x Q => Q true) (fun ρ b Q => getD ρ 1 fun y => ∃ k, y = keyD k ∧ b.length < 4000 ∧ Q (addK b k)) [some (Ent.dat (D.lst (xs.map D.str))), none] (ys.map D.str) (pre.map (Sum.inr : Str → Key)) R := by
    intro ys
    induction ys with
    | nil => intro pre R _ _ q; simpa [loopD] using q
    | cons y ys ih =>
      intro pre R hn hl q
      have e : addK (pre.map Sum.inr) (Sum.inr y : Key) = (pre ++ [y]).map Sum.inr := addK_nodup [y] pre (by
        have : (pre ++ [y] ++ ys).Nodup := by simpa using hn
        exact (List.nodup_append.mp this).1)
      simp only [List.map_cons, loopD, getD_0, getD_s, set_0, set_s, boolD_bl, intD_int, startD, List.map, List.length_cons, List.length_nil, List.replicate, List.cons_append, List.nil_append, defEnds, if_true]
      refine ⟨.inr y, rfl, by rw [List.length_map]; simp at hl; omega, ?_⟩
      rw [e]
      exact ih (pre ++ [y]) R (by simpa using hn) (by simpa using hl) (by simpa using q)
  refine run xs [] _ (by simpa using hn) (by simpa using hl) ?_
  simp only [lenD, List.length_map, List.nil_append, eqD_int, decide_true]
  exact q
end
end KB
namespace KB
open PySem L2 Dk
open PyProof.Rows (envOfC)
end KB
namespace KB
open PySem L2 Dk
open PyProof.Rows (envOfC)
def fieldsOk (kvs : List (Key × D)) (b : Bough) : Bool := b.2.all fun f => decide (f = numS) || hasN kvs f
theorem hasN_in {kvs : List (Key × D)} {f : Str} {Q : D → Prop} : inD false (.str f) (.dic kvs) Q ↔ Q (.bl (hasN kvs f)) := by
  refine ⟨fun ⟨k, e, q⟩ => ?_, fun q => ⟨.inr f, rfl, q⟩⟩
  cases k with
  | inl _ => cases e
  | inr g => cases e; exact q
theorem len_put {kvs : List (Key × D)} {k : Key} {d : D} : (putD kvs k d).length ≤ kvs.length + 1 := by
  unfold putD
  split
  · rw [List.length_map]; omega
  · simp
end KB
namespace KB
open PySem L2 Dk
open PyProof.Rows (envOfC)
abbrev s_Book___init__ : Stmt := inClass (top 32) 0
theorem sc_Book___init__ : FnScope ["self", "kinds", "founded", "name", "boughs", "bough", "fields"] ["self", "kinds"] (defScope s_Book___init__) := ⟨rfl, rfl, rfl, by decide +kernel, rfl, by decide +kernel, by decide +kernel⟩
theorem bd_Book___init__ (kV doc pm : Value) (an : Option Addr) (cdv ct : Value) (us : List Value) (hl : us.length = 2) : bindArgs (PySem.W.fnOf "__init__" "Book.__init__" (defArgs s_Book___init__) (defBody s_Book___init__) (defScope s_Book___init__) .none kV doc pm an cdv ct) ⟨us, []⟩ = pure ((["self", "kinds"] : List Str).zip us) := by
  match us, hl with
  | [v0, v1], _ => rfl
def namesBy (ks : List Kind) : List (Key × D) := ks.map fun k => (.inr k.1, .tup (k.2.map fun b => .str b.1))
def kindsBy (ks : List Kind) : List (Key × D) := ks.flatMap fun k => k.2.map fun b => (.inr b.1, .str k.1)
def fieldsBy (ks : List Kind) : List (Key × D) := ks.flatMap fun k => k.2.map fun b => (.inr b.1, .tup (b.2.map D.str))
theorem namesBy_keys {ks : List Kind} : (namesBy ks).map (·.1) = (kNames ks).map Sum.inr := by unfold namesBy kNames; rw [List.map_map, List.map_map]; rfl
theorem kindsBy_keys {ks : List Kind} : (kindsBy ks).map (·.1) = (bNames ks).map Sum.inr := by
  unfold kindsBy bNames; rw [List.map_flatMap, List.map_flatMap]; simp only [List.map_map]; rfl
theorem fieldsBy_keys {ks : List Kind} : (fieldsBy ks).map (·.1) = (bNames ks).map Sum.inr := by
  unfold fieldsBy bNames; rw [List.map_flatMap, List.map_flatMap]; simp only [List.map_map]; rfl
theorem nodup_inr {l : List Str} (h : l.Nodup) : (l.map (Sum.inr : Str → Key)).Nodup := (List.pairwise_map).mpr (h.imp fun h e => h (Sum.inr.inj e))
theorem Good.nk {ks : List Kind} (g : Good ks) : ((namesBy ks).map (·.1)).Nodup := by rw [namesBy_keys]; exact nodup_inr g.nd
theorem Good.kk {ks : List Kind} (g : Good ks) : ((kindsBy ks).map (·.1)).Nodup := by rw [kindsBy_keys]; exact nodup_inr g.bd
theorem Good.fk {ks : List Kind} (g : Good ks) : ((fieldsBy ks).map (·.1)).Nodup := by rw [fieldsBy_keys]; exact nodup_inr g.bd
theorem Good.blen {ks : List Kind} (g : Good ks) : (bNames ks).length ≤ 48 := by
  have : ∀ ks' : List Kind, (∀ k ∈ ks', k.2.length ≤ 8) → (bNames ks').length ≤ 8 * ks'.length := fun ks' => by
    induction ks' with
    | nil => simp [bNames]
    | cons a l ih =>
      intro h
      have h1 := h a (by simp)
      have h2 := ih fun k hk => h k (List.mem_cons_of_mem _ hk)
      simp only [bNames, List.flatMap_cons, List.length_append, List.length_map, List.length_cons] at h2 ⊢
      omega
  have h1 := this ks g.s2
  have h2 := g.s1
  omega
theorem Good.klen {ks : List Kind} (g : Good ks) : (kindsBy ks).length ≤ 48 := by
  have := congrArg List.length (kindsBy_keys (ks := ks))
  rw [List.length_map, List.length_map] at this
  rw [this]; exact g.blen
theorem Good.flen {ks : List Kind} (g : Good ks) : (fieldsBy ks).length ≤ 48 := by
  have := congrArg List.length (fieldsBy_keys (ks := ks))
  rw [List.length_map, List.length_map] at this
  rw [this]; exact g.blen
def bookD (C : Addr) (ks : List Kind) : D := .obj C [("kinds", kindsD ks), ("names_by", .dic (namesBy ks)), ("kinds_by", .dic (kindsBy ks)), ("fields_by", .dic (fieldsBy ks))]
theorem len_putFD {f : Str} {v : D} {n : Nat} : ∀ {l : List (Str × D)}, l.length < n → (putFD f v l).length < n + 1
  | [], h => by simp [putFD]; omega
  | (g, x) :: r, h => by
    unfold putFD
    split
    · simp only [List.length_cons] at h ⊢; omega
    · cases n with
      | zero => omega
      | succ n =>
        have := len_putFD (f := f) (v := v) (n := n) (l := r) (by simp only [List.length_cons] at h; omega)
        simp only [List.length_cons]
        omega
end KB
namespace Dk
open PySem L2
open PyProof.Rows (envOfC)
def adrs (es : List Ent) : List Addr := es.filterMap Ent.adr
def hideL (H : Hp) (ps : List Addr) : Hp := fun b => if b ∈ ps then none else H b
section
variable {H : Hp} {ps : List Addr} {b : Addr} {o : HO}
theorem hideL_ne (h : b ∉ ps) : hideL H ps b = H b := if_neg h
theorem hideL_in (h : b ∈ ps) : hideL H ps b = none := if_pos h
end
/-- they are all there, each at its place, none of them known to others -/
structure Held (F : Fx) (K : PySem.W.Frag) (I H : Hp) (es : List Ent) : Prop where
  nd : (adrs es).Nodup
  at_ : ∀ e ∈ es, ∃ p o, e.adr = some p ∧ OwnAt F K I H e p o
def setE : List Nat → List Ent → DEnv → DEnv
  | g :: gs, e :: es, ρ => setE gs es (ρ.set g (some e))
  | _, _, ρ => ρ
def getE : List Nat → DEnv → Option (List Ent)
  | [], _ => some []
  | g :: gs, ρ => match ρ[g]?, getE gs ρ with
    | some (some e), some es => some (e :: es)
    | _, _ => none
theorem setE_len : ∀ {gs : List Nat} {es : List Ent} {ρ : DEnv}, (setE gs es ρ).length = ρ.length
  | [], es, ρ => by cases es <;> rfl
  | g :: gs, [], ρ => rfl
  | g :: gs, e :: es, ρ => by rw [setE, setE_len, List.length_set]
theorem setE_at : ∀ {gs : List Nat} {es : List Ent} {ρ : DEnv} {i : Nat} {e : Ent}, gs.Nodup → (setE gs es ρ)[i]? = some (some e) → (∃ k : Nat, gs[k]? = some i ∧ es[k]? = some e) ∨ ((∀ k : Nat, gs[k]? = some i → es[k]? = none) ∧ ρ[i]? = some (some e))
  | [], es, ρ, i, e, _, h => by
    refine .inr ⟨fun k hk => by simp at hk, ?_⟩
    cases es <;> exact h
  | g :: gs, [], ρ, i, e, _, h => .inr ⟨fun k hk => by simp, h⟩
  | g :: gs, e' :: es, ρ, i, e, nd, h => by
    rw [setE] at h
    obtain ⟨n1, n2⟩ := List.nodup_cons.mp nd
    rcases setE_at n2 h with ⟨k, h1, h2⟩ | ⟨h1, h2⟩
    · exact .inl ⟨k + 1, by simpa using h1, by simpa using h2⟩
    · rcases set_at h2 with ⟨rfl, q⟩ | ⟨hgi, q⟩
      · cases q
        exact .inl ⟨0, rfl, rfl⟩
      · refine .inr ⟨fun k hk => ?_, q⟩
        cases k with
        | zero => simp at hk; exact absurd hk hgi
        | succ k => simpa using h1 k (by simpa using hk)
theorem getE_at : ∀ {gs : List Nat} {ρ : DEnv} {es : List Ent}, getE gs ρ = some es → es.length = gs.length ∧ ∀ (k j : Nat), gs[k]? = some j → ∃ e, es[k]? = some e ∧ ρ[j]? = some (some e)
  | [], ρ, es, h => by
    rw [getE] at h
    cases h
    exact ⟨rfl, fun k j hk => by simp at hk⟩
  | g :: gs, ρ, es, h => by
    rw [getE] at h
    split at h
    · rename_i e es' h1 h2
      cases h
      obtain ⟨a, b⟩ := getE_at h2
      refine ⟨by simp [a], fun k j hk => ?_⟩
      cases k with
      | zero => simp at hk; subst hk; exact ⟨e, rfl, h1⟩
      | succ k => simpa using b k j (by simpa using hk)
    · cases h
section
variable {F : Fx} {K : PySem.W.Frag} {I H I' H' : Hp} {ρ : DEnv} {σ : St} {es : List Ent}
theorem Held.step (h : Held F K I H es) (s : Stp F.W I H I' H') : Held F K I' H' es := ⟨h.nd, fun e he => let ⟨p, o, a, b⟩ := h.at_ e he; ⟨p, o, a, b.step s⟩⟩
theorem mem_adrs {p : Addr} : p ∈ adrs es ↔ ∃ e ∈ es, e.adr = some p := by
  unfold adrs
  rw [List.mem_filterMap]
theorem Stp.backL {W : Wd} {I0 B : Hp} {ps : List Addr} (s0 : Stp W I0 B I H) (hB : ∀ p ∈ ps, B p = none) (s : Stp W I (hideL H ps) I' H') : Stp W I0 B I' H' := by
  have see : ∀ b o, B b = some o → H b = some o → hideL H ps b = some o := fun b o e h => by
    rw [hideL_ne fun m => by rw [hB b m] at e; cases e]
    exact h
  refine ⟨Same.trans s0.i s.i, s.st, fun b o e m => s.h b o (see b o e (s0.h b o e m)) m, fun b o e n => ?_⟩
  by_cases m : W.mv b
  · cases q : I' b with
    | none => rfl
    | some u => exact absurd m (s.st.imm b u q)
  · exact s.new b o (see b o e (s0.h b o e m)) (s0.new b o e n)
/-- what is lent, and how it comes back -/
theorem At.lend (A : At F K I ρ σ H) {js : List Nat} (nd : js.Nodup) (hg : getE js ρ = some es) (hk : ∀ e ∈ es, ∃ p, e.adr = some p) :
    Held ⟨F.W, hideL H (adrs es), I⟩ K I H es ∧ ∀ I' H' es', Stp F.W I (hideL H (adrs es)) I' H' → Held ⟨F.W, hideL H (adrs es), I⟩ K I' H' es' → es'.map Ent.adr = es.map Ent.adr → At F K I' (setE js es' ρ) σ H' := by
  obtain ⟨hl, hs⟩ := getE_at hg
  have own : ∀ {e : Ent} {p : Addr}, e.adr = some p → e.isOwn := fun {e p} h => by cases e <;> first | trivial | cases h
  -- each of them by its place
  have pl : ∀ (k : Nat) (e : Ent) (p : Addr), es[k]? = some e → e.adr = some p → ∃ (j : Nat) (o : HO), js[k]? = some j ∧ ρ[j]? = some (some e) ∧ σ[j]? = some (some (V.ref p)) ∧ OwnAt F K I H e p o := fun k e p he hp => by
    have hk' : k < js.length := by rw [← hl]; exact (List.getElem?_eq_some_iff.mp he).1
    obtain ⟨e', h1, h2⟩ := hs k js[k] (List.getElem?_eq_getElem hk')
    rw [he] at h1
    cases h1
    obtain ⟨v, h3, h4⟩ := A.env _ _ h2
    obtain ⟨q, o, rfl, w⟩ := h4.own (own hp)
    have : q = p := w.ad p hp
    subst this
    exact ⟨_, o, List.getElem?_eq_getElem hk', h2, h3, w⟩
  have ndA : (adrs es).Nodup := by
    have go : ∀ (l : List Ent), (∀ (i j : Nat) (e e' : Ent) (p : Addr), i < j → l[i]? = some e → l[j]? = some e' → e.adr = some p → e'.adr ≠ some p) → (adrs l).Nodup := by
      intro l
      induction l with
      | nil => intro _; simp [adrs]
      | cons e l ih =>
        intro h
        have ih := ih fun i j a b p hij h1 h2 => h (i + 1) (j + 1) a b p (by omega) (by simpa using h1) (by simpa using h2)
        cases ha : e.adr with
        | none => simpa [adrs, ha] using ih
        | some p =>
          have : adrs (e :: l) = p :: adrs l := by simp [adrs, ha]
          rw [this, List.nodup_cons]
          refine ⟨fun m => ?_, ih⟩
          obtain ⟨e', he', hp'⟩ := mem_adrs.mp m
          obtain ⟨n, hn⟩ := List.mem_iff_getElem?.mp he'
          exact h 0 (n + 1) e e' p (by omega) rfl (by simpa using hn) ha hp'
    refine go es fun i j e e' p hij h1 h2 hp hp' => ?_
    obtain ⟨a, o, a1, a2, a3, _⟩ := pl i e p h1 hp
    obtain ⟨b, o', b1, b2, b3, _⟩ := pl j e' p h2 hp'
    have hab : a ≠ b := fun z => by
      subst z
      have hi := (List.getElem?_eq_some_iff.mp a1)
      have hj := (List.getElem?_eq_some_iff.mp b1)
      have := (List.getElem_inj nd).mp (hi.2.trans hj.2.symm)
      omega
    exact A.dis a b e e' _ hab a2 b2 (own hp) (own hp') a3 b3
  refine ⟨⟨ndA, fun e he => ?_⟩, fun I' H' es' s hd hm => ?_⟩
  · obtain ⟨p, hp⟩ := hk e he
    obtain ⟨n, hn⟩ := List.mem_iff_getElem?.mp he
    obtain ⟨j, o, _, _, _, w⟩ := pl n e p hn hp
    exact ⟨p, o, hp, w.hp, w.rep, w.ni, w.nm, hideL_in (mem_adrs.mpr ⟨e, he, hp⟩), w.ad⟩
  have hl' : es'.length = es.length := by simpa using congrArg List.length hm
  have hB : ∀ p ∈ adrs es, F.B p = none := fun p m => by
    obtain ⟨e, he, hp⟩ := mem_adrs.mp m
    obtain ⟨n, hn⟩ := List.mem_iff_getElem?.mp he
    obtain ⟨j, o, _, _, _, w⟩ := pl n e p hn hp
    exact w.nb
  -- a slot of them had one of them ahead
  have was : ∀ (k i : Nat), js[k]? = some i → ∃ e p o, es[k]? = some e ∧ e.adr = some p ∧ ρ[i]? = some (some e) ∧ σ[i]? = some (some (V.ref p)) ∧ OwnAt F K I H e p o := fun k i hki => by
    obtain ⟨e, h1, h2⟩ := hs k i hki
    obtain ⟨p, hp⟩ := hk e (List.mem_iff_getElem?.mpr ⟨k, h1⟩)
    obtain ⟨j, o, a1, a2, a3, a4⟩ := pl k e p h1 hp
    rw [hki] at a1
    cases a1
    exact ⟨e, p, o, h1, hp, a2, a3, a4⟩
  have full : ∀ (k i : Nat), js[k]? = some i → es'[k]? ≠ none := fun k i h z => by
    have h1 : k < js.length := (List.getElem?_eq_some_iff.mp h).1
    rw [List.getElem?_eq_none_iff] at z
    omega
  refine ⟨A.stp.backL hB s, by rw [setE_len]; exact A.len, fun i e hi => ?_, fun i l e e' v hil hi hl2 o1 o2 hv => ?_⟩
  · rcases setE_at nd hi with ⟨k, h1, h2⟩ | ⟨h1, h2⟩
    · obtain ⟨e0, p, o, b1, b2, b3, b4, w⟩ := was k i h1
      have ea : e.adr = some p := by
        have := congrArg (fun l => l[k]?) hm
        simp only [List.getElem?_map, h2, b1, Option.map_some] at this
        rw [← b2]
        exact Option.some.inj this
      obtain ⟨p', o', c1, c2⟩ := hd.at_ e (List.mem_iff_getElem?.mpr ⟨k, h2⟩)
      rw [ea] at c1
      cases c1
      exact ⟨_, b4, .inr ⟨p, o', rfl, c2.hp, c2.rep, c2.ni, c2.nm, w.nb, c2.ad⟩⟩
    · obtain ⟨v, e1, e2⟩ := A.env i e h2
      refine ⟨v, e1, ?_⟩
      rcases e2 with ⟨d, rfl, r⟩ | ⟨p', o, rfl, w⟩
      · exact .inl ⟨d, rfl, r.mono s.i⟩
      · refine .inr ⟨p', o, rfl, ?_⟩
        have np : p' ∉ adrs es := fun m => by
          obtain ⟨e0, he0, hp0⟩ := mem_adrs.mp m
          obtain ⟨n, hn⟩ := List.mem_iff_getElem?.mp he0
          obtain ⟨j, o', a1, a2, a3, _⟩ := pl n e0 p' hn hp0
          by_cases hij : j = i
          · subst hij
            exact full n j a1 (h1 n a1)
          · exact A.dis j i e0 e _ hij a2 h2 (own hp0) w.rep.isOwn a3 e1
        have hh : hideL H (adrs es) p' = some o := by rw [hideL_ne np]; exact w.hp
        exact ⟨s.h _ _ hh w.nm, w.rep.mono s.i, s.new _ _ hh w.ni, w.nm, w.nb, w.ad⟩
  · have back : ∀ (k : Nat) (f : Ent), (setE js es' ρ)[k]? = some (some f) → f.isOwn → ∃ f', ρ[k]? = some (some f') ∧ f'.isOwn := fun k f hk hf => by
      rcases setE_at nd hk with ⟨n, h1, h2⟩ | ⟨h1, h2⟩
      · obtain ⟨e0, p, o, b1, b2, b3, b4, w⟩ := was n k h1
        exact ⟨e0, b3, own b2⟩
      · exact ⟨f, h2, hf⟩
    obtain ⟨f, q1, p1⟩ := back i e hi o1
    obtain ⟨f', q2, p2⟩ := back l e' hl2 o2
    exact A.dis i l f f' v hil q1 q2 p1 p2 hv
end
end Dk
namespace Dk
open PySem L2
open PyProof.Rows (envOfC)
section
variable {F : Fx} {K : PySem.W.Frag} {I H I' H' : Hp} {ρ : DEnv} {σ : St} {es : List Ent}
/-- nothing is held as yet: any base will do -/
theorem At.base {W : Wd} {B : Hp} (A : At ⟨W, H, I⟩ K I ρ σ H) (hB : ∀ b o, B b = some o → H b = some o) : At ⟨W, B, I⟩ K I ρ σ H ∧ ∀ (i : Nat) e, ρ[i]? = some (some e) → ¬ e.isOwn := by
  have no : ∀ (i : Nat) e, ρ[i]? = some (some e) → ¬ e.isOwn := fun i e h o => by
    obtain ⟨v, h1, h2⟩ := A.env i e h
    obtain ⟨p, u, _, w⟩ := h2.own o
    have e1 : H p = none := w.nb
    rw [w.hp] at e1
    cases e1
  refine ⟨⟨⟨Same.refl I, A.st, fun b o e _ => hB b o e, fun b o e n => n⟩, A.len, fun i e h => ?_, A.dis⟩, no⟩
  obtain ⟨v, h1, h2⟩ := A.env i e h
  refine ⟨v, h1, ?_⟩
  rcases h2 with h2 | ⟨p, o, rfl, w⟩
  · exact .inl h2
  · exact absurd w.rep.isOwn (no i e h)
theorem Held.same {W : Wd} {B I0 : Hp} {js : List Nat} (A : At ⟨W, B, I0⟩ K I ρ σ H) (nd : js.Nodup) (hg : getE js ρ = some es) (hk : ∀ e ∈ es, ∃ p, e.adr = some p) : Held ⟨W, B, I0⟩ K I H es := by
  obtain ⟨h1, _⟩ := A.lend nd hg hk
  refine ⟨h1.nd, fun e he => ?_⟩
  obtain ⟨p, hp⟩ := hk e he
  obtain ⟨hl, hs⟩ := getE_at hg
  obtain ⟨n, hn⟩ := List.mem_iff_getElem?.mp he
  have hk' : n < js.length := by rw [← hl]; exact (List.getElem?_eq_some_iff.mp hn).1
  obtain ⟨e', a1, a2⟩ := hs n js[n] (List.getElem?_eq_getElem hk')
  rw [hn] at a1
  cases a1
  obtain ⟨v, a3, a4⟩ := A.env _ _ a2
  obtain ⟨q, o, rfl, w⟩ := a4.own (by cases e <;> first | trivial | cases hp)
  obtain rfl : q = p := w.ad p hp
  exact ⟨q, o, hp, w⟩
end
end Dk
namespace Dk
open PySem L2
end Dk
namespace Dk
open PySem L2
def lcS (g : DGT) (tc : DB) (te : DTS2) (vs : List Nat) : List D → DEnv → (List D → DEnv → Prop) → Prop
  | [], ρ, Q => Q [] ρ
  | d :: ds, ρ, Q => g d ρ fun ρ2 => tc ρ2 fun b => if b = true then te ρ2 fun y ρ3 => lcS g tc te vs ds (wipeD ρ3 vs) fun ys ρ4 => Q (y :: ys) ρ4 else lcS g tc te vs ds (wipeD ρ2 vs) Q
section
variable {F : Fx} {X Y : Cx} {K : PySem.W.Frag} {I H I' H' : Hp} {ρ : DEnv} {σ : St} {elt tg iter : Expr} {ifs : List Expr} {scope : Scope} {own : List (Str × Nat)} {pos : Pos} {ti : DAT} {js vs : List Nat} {g : DGT} {tc : DB} {te : DTS2}
theorem lcS.mono (hg : ∀ d ρ (Q Q' : DEnv → Prop), (∀ ρ, Q ρ → Q' ρ) → g d ρ Q → g d ρ Q') (ht : ∀ ρ (Q Q' : Bool → Prop), (∀ d, Q d → Q' d) → tc ρ Q → tc ρ Q') (he : ∀ ρ (Q Q' : D → DEnv → Prop), (∀ d ρ, Q d ρ → Q' d ρ) → te ρ Q → te ρ Q') : ∀ (ds : List D) (ρ : DEnv) (Q Q' : List D → DEnv → Prop), (∀ ys ρ, Q ys ρ → Q' ys ρ) → lcS g tc te vs ds ρ Q → lcS g tc te vs ds ρ Q'
  | [], ρ, Q, Q', k, h => k _ _ h
  | d :: ds, ρ, Q, Q', k, h => hg _ _ _ _ (fun ρ2 q => ht _ _ _ (fun b q => by
      cases b
      · exact lcS.mono hg ht he ds _ _ _ k q
      · exact he _ _ _ (fun y ρ3 q => lcS.mono hg ht he ds _ _ _ (fun ys ρ4 => k _ _) q) q) q) h
end
end Dk
namespace Dk
open PySem L2
open PyProof.Rows (envOfC)
end Dk
namespace Dk
open PySem L2
end Dk
namespace Dk
open PySem L2
end Dk
namespace Dk
open PySem L2
end Dk
namespace Dk
open PySem L2
open PyProof.Rows (envOfC)
end Dk
namespace Dk
open PySem L2
end Dk
namespace Dk
open PySem L2
inductive Prs (F : Fx) (K : PySem.W.Frag) (H0 I H : Hp) : List (D × List D) → List Addr → List V → Prop
  | nil : Prs F K H0 I H [] [] []
  | cons {t q : Addr} {v : V} {d : D} {ds : List D} {us : List V} {ps : List (D × List D)} {qs : List Addr} {ws : List V} : I t = some (.tup [v, .ref q]) → Rep K I v d → H q = some (.lst us) → Reps K I us ds → I q = none → ¬ F.W.mv q → H0 q = none → Prs F K H0 I H ps qs ws → Prs F K H0 I H ((d, ds) :: ps) (q :: qs) (.ref t :: ws)
section
variable {F : Fx} {K : PySem.W.Frag} {H0 I H I' H' : Hp} {ps ps' : List (D × List D)} {qs qs' : List Addr} {ws ws' : List V}
theorem Prs.step (h : Prs F K H0 I H ps qs ws) (s : Stp F.W I H I' H') : Prs F K H0 I' H' ps qs ws := by
  induction h with
  | nil => exact .nil
  | cons a b c d e f g _ ih => exact .cons (s.i _ _ a) (b.mono s.i) (s.h _ _ c f) (d.mono s.i) (s.new _ _ c e) f g ih
theorem Prs.write (h : Prs F K H0 I H ps qs ws) {E : Addr} {o : HO} (hE : E ∉ qs) : Prs F K H0 I (upd H E o) ps qs ws := by
  induction h with
  | nil => exact .nil
  | cons a b c d e f g _ ih => exact .cons a b (by rw [upd_ne fun z => hE (by simp [z])]; exact c) d e f g (ih fun z => hE (List.mem_cons_of_mem _ z))
theorem Prs.append (h : Prs F K H0 I H ps qs ws) (h' : Prs F K H0 I H ps' qs' ws') : Prs F K H0 I H (ps ++ ps') (qs ++ qs') (ws ++ ws') := by
  induction h with
  | nil => exact h'
  | cons a b c d e f g _ ih => exact .cons a b c d e f g ih
theorem Prs.len (h : Prs F K H0 I H ps qs ws) : ps.length = qs.length ∧ ws.length = qs.length := by
  induction h with
  | nil => exact ⟨rfl, rfl⟩
  | cons _ _ _ _ _ _ _ _ ih => simp [ih]
theorem Prs.some (h : Prs F K H0 I H ps qs ws) : ∀ q ∈ qs, ∃ us, H q = Option.some (.lst us) := by
  induction h with
  | nil => intro q hq; simp at hq
  | cons a b c d e f g _ ih =>
    intro q hq
    rcases List.mem_cons.mp hq with rfl | hq
    · exact ⟨_, c⟩
    · exact ih q hq
end
/-- a list, a dict -/
def Mut (o : HO) : Prop := (∃ vs, o = .lst vs) ∨ ∃ kvs, o = .dK kvs
theorem Mut.noext {o : HO} (m : Mut o) : ∀ φ, o ≠ .ext φ := fun φ z => by
  rcases m with ⟨_, e⟩ | ⟨_, e⟩ <;> rw [z] at e <;> cases e
end Dk
namespace Dk
open PySem L2
end Dk
namespace Dk
open PySem L2
end Dk
namespace PySem.SeqAt
open AutoSeq1 (wpAny_loadPart')
open MeetsSeq MeetsSeq2 MeetsSeq3 SeqRoads2
end PySem.SeqAt
namespace Dk
open PySem L2 PySem.SeqAt
open MeetsSeq MeetsSeq2 MeetsSeq3 SeqRoads2
end Dk
namespace PySem.SeqAt
open AutoSeq1 (wpAny_loadPart')
open MeetsSeq MeetsSeq2 MeetsSeq3 SeqRoads2
section
variable {l b : Addr} {C dx : Addr}
theorem none_ne_declines (l : Addr) : Gives (Builtin.«NoneType.__ne__» ⟨[.none, .ref l], []⟩) (.val (Value.notImplemented)) :=
  .of_wp fun M A E s Q h => by obtain ⟨hp, g, d, tk, os⟩ := s; wp_walk; exact ⟨_, rfl, h⟩
theorem bool_eq_declines_ins (b : Bool) (l : Addr) : Meets (Builtin.«int.__eq__» ⟨[.bool b, .ref l], []⟩) (fun _ R s => s.heap.get? l = some (PySem.W.instObj C dx) ∧ R (.ok (.ret .notImplemented)) s) :=
  .of_wp fun prog w A R s h => by obtain ⟨hp, g, d, tk, os⟩ := s; obtain ⟨hl, h⟩ := h; wp_walk using wpAny_loadPart' hl, wpAny_load hl; exact ⟨_, rfl, h⟩
theorem bool_ne_declines_ins (b : Bool) (l : Addr) : Meets (Builtin.«int.__ne__» ⟨[.bool b, .ref l], []⟩) (fun _ R s => s.heap.get? l = some (PySem.W.instObj C dx) ∧ R (.ok (.ret .notImplemented)) s) :=
  .of_wp fun prog w A R s h => by obtain ⟨hp, g, d, tk, os⟩ := s; obtain ⟨hl, h⟩ := h; wp_walk using wpAny_loadPart' hl, wpAny_load hl; exact ⟨_, rfl, h⟩
theorem int_eq_declines_ins (b : Int) (u : Tok) (l : Addr) : Meets (Builtin.«int.__eq__» ⟨[.int b u, .ref l], []⟩) (fun _ R s => s.heap.get? l = some (PySem.W.instObj C dx) ∧ R (.ok (.ret .notImplemented)) s) :=
  .of_wp fun prog w A R s h => by obtain ⟨hp, g, d, tk, os⟩ := s; obtain ⟨hl, h⟩ := h; wp_walk using wpAny_loadPart' hl, wpAny_load hl; exact ⟨_, rfl, h⟩
theorem int_ne_declines_ins (b : Int) (u : Tok) (l : Addr) : Meets (Builtin.«int.__ne__» ⟨[.int b u, .ref l], []⟩) (fun _ R s => s.heap.get? l = some (PySem.W.instObj C dx) ∧ R (.ok (.ret .notImplemented)) s) :=
  .of_wp fun prog w A R s h => by obtain ⟨hp, g, d, tk, os⟩ := s; obtain ⟨hl, h⟩ := h; wp_walk using wpAny_loadPart' hl, wpAny_load hl; exact ⟨_, rfl, h⟩
theorem str_eq_declines_ins (b : Str) (u : Tok) (l : Addr) : Meets (Builtin.«str.__eq__» ⟨[.str b u, .ref l], []⟩) (fun _ R s => s.heap.get? l = some (PySem.W.instObj C dx) ∧ R (.ok (.ret .notImplemented)) s) :=
  .of_wp fun prog w A R s h => by obtain ⟨hp, g, d, tk, os⟩ := s; obtain ⟨hl, h⟩ := h; wp_walk using wpAny_loadPart' hl, wpAny_load hl; exact ⟨_, rfl, h⟩
theorem str_ne_declines_ins (b : Str) (u : Tok) (l : Addr) : Meets (Builtin.«str.__ne__» ⟨[.str b u, .ref l], []⟩) (fun _ R s => s.heap.get? l = some (PySem.W.instObj C dx) ∧ R (.ok (.ret .notImplemented)) s) :=
  .of_wp fun prog w A R s h => by obtain ⟨hp, g, d, tk, os⟩ := s; obtain ⟨hl, h⟩ := h; wp_walk using wpAny_loadPart' hl, wpAny_load hl; exact ⟨_, rfl, h⟩
section
variable {prog : Program} {w : World}
/-- no instance of T at l -/
def NoT (prog : Program) (w : World) (h : Heap) (l : Addr) (T : String) : Prop := PySem.W.Looks (model prog w) h (isInstance (.ref l) (.type T)) false
theorem NoT.io {l : Addr} {T : String} {s : Shared} (n : NoT prog w s.heap l T) {α : Type} {k : Bool → Sem α} {Q : α → Shared → Prop} {E : Value → Shared → Prop} {A : Around} (q : wpAny (model prog w) A (k false) Q E s) : wpAny (model prog w) A (isInstance (.ref l) (.type T) >>= k) Q E s := wpAny_bind (n.here q)
section
variable {A : Around} {R : Result → Shared → Prop} {s : Shared} {t l : Addr}
theorem tuple_eq_declines_ins (n : NoT prog w s.heap l "tuple") (h : R (.ok (.ret .notImplemented)) s) : wpAny (model prog w) A.in1 (Builtin.«tuple.__eq__» ⟨[.ref t, .ref l], []⟩) (GQ.FinOf prog w A R) (fun e s' => R (.error e) s') s := by
  wp_walk using n.io
  exact h
theorem tuple_ne_declines_ins (n : NoT prog w s.heap l "tuple") (h : R (.ok (.ret .notImplemented)) s) : wpAny (model prog w) A.in1 (Builtin.«tuple.__ne__» ⟨[.ref t, .ref l], []⟩) (GQ.FinOf prog w A R) (fun e s' => R (.error e) s') s := by
  wp_walk using n.io
  exact h
theorem list_eq_declines_ins (n : NoT prog w s.heap l "list") (h : R (.ok (.ret .notImplemented)) s) : wpAny (model prog w) A.in1 (Builtin.«list.__eq__» ⟨[.ref t, .ref l], []⟩) (GQ.FinOf prog w A R) (fun e s' => R (.error e) s') s := by
  wp_walk using n.io
  exact h
theorem list_ne_declines_ins (n : NoT prog w s.heap l "list") (h : R (.ok (.ret .notImplemented)) s) : wpAny (model prog w) A.in1 (Builtin.«list.__ne__» ⟨[.ref t, .ref l], []⟩) (GQ.FinOf prog w A R) (fun e s' => R (.error e) s') s := by
  wp_walk using n.io
  exact h
theorem dict_eq_declines_ins (n : NoT prog w s.heap l "dict") (h : R (.ok (.ret .notImplemented)) s) : wpAny (model prog w) A.in1 (Builtin.«dict.__eq__» ⟨[.ref t, .ref l], []⟩) (GQ.FinOf prog w A R) (fun e s' => R (.error e) s') s := by
  wp_walk using n.io
  exact h
theorem dict_ne_declines_ins (n : NoT prog w s.heap l "dict") (h : R (.ok (.ret .notImplemented)) s) : wpAny (model prog w) A.in1 (Builtin.«dict.__ne__» ⟨[.ref t, .ref l], []⟩) (GQ.FinOf prog w A R) (fun e s' => R (.error e) s') s := by
  wp_walk using n.io
  exact h
end
end
end
/-- a value of a built-in type of our data -/
inductive Pv (h : Heap) : Value → String → Prop
  | non : Pv h .none "NoneType"
  | bl (b : Bool) : Pv h (.bool b) "bool"
  | int (i : Int) (t : Tok) : Pv h (.int i t) "int"
  | str (x : Str) (t : Tok) : Pv h (.str x t) "str"
  | lst {a : Addr} {o : Obj} : h.get? a = some o → o.cls = .type "list" → Pv h (.ref a) "list"
  | tup {a : Addr} {o : Obj} : h.get? a = some o → o.cls = .type "tuple" → Pv h (.ref a) "tuple"
  | dic {a : Addr} {o : Obj} : h.get? a = some o → o.cls = .type "dict" → Pv h (.ref a) "dict"
def seven : List String := ["NoneType", "bool", "int", "str", "list", "tuple", "dict"]
section
variable {prog : Program} {w : World} {A : Around} {E : Value → Shared → Prop} {s : Shared} {u : Value} {T : String} {l C dx : Addr}
theorem Pv.seven {h : Heap} (p : Pv h u T) : T ∈ SeqAt.seven := by cases p <;> simp [SeqAt.seven]
theorem Pv.type (p : Pv s.heap u T) : s.TypeIs u T := by
  cases p with
  | non => rfl
  | bl b => rfl
  | int i t => rfl
  | str x t => exact typeIs_str _ _ _
  | lst h c => exact ⟨_, h, c⟩
  | tup h c => exact ⟨_, h, c⟩
  | dic h c => exact ⟨_, h, c⟩
theorem Pv.mono {h h' : Heap} (k : ∀ b o, h.get? b = some o → h'.get? b = some o) (p : Pv h u T) : Pv h' u T := by
  cases p with
  | non => exact .non
  | bl b => exact .bl b
  | int i t => exact .int i t
  | str x t => exact .str x t
  | lst h c => exact .lst (k _ _ h) c
  | tup h c => exact .tup (k _ _ h) c
  | dic h c => exact .dic (k _ _ h) c
theorem Pv.looks {M : Model} {h : Heap} (p : Pv h u T) : PySem.W.Looks M h (typeOf u) (.type T) := fun A Q E s k q => wpAny_typeOf (p.mono k).type q
theorem decl_eq {Q : Option Value → Shared → Prop} (p : Pv s.heap u T) (ho : s.heap.get? l = some (PySem.W.instObj C dx)) (n : ∀ T ∈ SeqAt.seven, NoT prog w s.heap l T) (q : Q none s) : wpAny (model prog w) A (tryCompare u (cmpInfo .Eq).2.1 (.ref l)) Q E s := by
  have ht := p.type
  have n7 := n T p.seven
  cases p with
  | non => exact wpAny_tryCompare_declines ht F.slot_NoneType_eq (call_gives F.slot_NoneType_eq ht F.entry_NoneType_eq (F.args_NoneType_eq_2 _ _) (NoneType___eq___none_ref_0 l) ⟨rfl, q⟩)
  | bl b => refine wpAny_tryCompare_declines ht F.slot_bool_eq (call_meets F.slot_bool_eq ht F.entry_int_eq (F.args_int_eq_2 _ _) (bool_eq_declines_ins (C := C) (dx := dx) b l) ?_); exact ⟨ho, rfl, q⟩
  | int i t => refine wpAny_tryCompare_declines ht F.slot_int_eq (call_meets F.slot_int_eq ht F.entry_int_eq (F.args_int_eq_2 _ _) (int_eq_declines_ins (C := C) (dx := dx) i t l) ?_); exact ⟨ho, rfl, q⟩
  | str x t => refine wpAny_tryCompare_declines ht F.slot_str_eq (call_meets F.slot_str_eq ht F.entry_str_eq (F.args_str_eq_2 _ _) (str_eq_declines_ins (C := C) (dx := dx) x t l) ?_); exact ⟨ho, rfl, q⟩
  | lst h c => exact wpAny_tryCompare_declines ht F.slot_list_eq (GQ.call_here F.slot_list_eq ht F.entry_list_eq (F.args_list_eq_2 _ _) (list_eq_declines_ins (R := wants (fun v s' => v = .notImplemented ∧ Q none s') E) n7 ⟨rfl, q⟩))
  | tup h c => exact wpAny_tryCompare_declines ht F.slot_tuple_eq (GQ.call_here F.slot_tuple_eq ht F.entry_tuple_eq (F.args_tuple_eq_2 _ _) (tuple_eq_declines_ins (R := wants (fun v s' => v = .notImplemented ∧ Q none s') E) n7 ⟨rfl, q⟩))
  | dic h c => exact wpAny_tryCompare_declines ht F.slot_dict_eq (GQ.call_here F.slot_dict_eq ht F.entry_dict_eq (F.args_dict_eq_2 _ _) (dict_eq_declines_ins (R := wants (fun v s' => v = .notImplemented ∧ Q none s') E) n7 ⟨rfl, q⟩))
theorem decl_ne {Q : Option Value → Shared → Prop} (p : Pv s.heap u T) (ho : s.heap.get? l = some (PySem.W.instObj C dx)) (n : ∀ T ∈ SeqAt.seven, NoT prog w s.heap l T) (q : Q none s) : wpAny (model prog w) A (tryCompare u (cmpInfo .NotEq).2.1 (.ref l)) Q E s := by
  have ht := p.type
  have n7 := n T p.seven
  cases p with
  | non => exact wpAny_tryCompare_declines ht F.slot_NoneType_ne (call_gives F.slot_NoneType_ne ht F.entry_NoneType_ne (F.args_NoneType_ne_2 _ _) (none_ne_declines l) ⟨rfl, q⟩)
  | bl b => refine wpAny_tryCompare_declines ht F.slot_bool_ne (call_meets F.slot_bool_ne ht F.entry_int_ne (F.args_int_ne_2 _ _) (bool_ne_declines_ins (C := C) (dx := dx) b l) ?_); exact ⟨ho, rfl, q⟩
  | int i t => refine wpAny_tryCompare_declines ht F.slot_int_ne (call_meets F.slot_int_ne ht F.entry_int_ne (F.args_int_ne_2 _ _) (int_ne_declines_ins (C := C) (dx := dx) i t l) ?_); exact ⟨ho, rfl, q⟩
  | str x t => refine wpAny_tryCompare_declines ht F.slot_str_ne (call_meets F.slot_str_ne ht F.entry_str_ne (F.args_str_ne_2 _ _) (str_ne_declines_ins (C := C) (dx := dx) x t l) ?_); exact ⟨ho, rfl, q⟩
  | lst h c => exact wpAny_tryCompare_declines ht F.slot_list_ne (GQ.call_here F.slot_list_ne ht F.entry_list_ne (F.args_list_ne_2 _ _) (list_ne_declines_ins (R := wants (fun v s' => v = .notImplemented ∧ Q none s') E) n7 ⟨rfl, q⟩))
  | tup h c => exact wpAny_tryCompare_declines ht F.slot_tuple_ne (GQ.call_here F.slot_tuple_ne ht F.entry_tuple_ne (F.args_tuple_ne_2 _ _) (tuple_ne_declines_ins (R := wants (fun v s' => v = .notImplemented ∧ Q none s') E) n7 ⟨rfl, q⟩))
  | dic h c => exact wpAny_tryCompare_declines ht F.slot_dict_ne (GQ.call_here F.slot_dict_ne ht F.entry_dict_ne (F.args_dict_ne_2 _ _) (dict_ne_declines_ins (R := wants (fun v s' => v = .notImplemented ∧ Q none s') E) n7 ⟨rfl, q⟩))
end
end PySem.SeqAt
namespace Dk
open PySem PySem.W L2 PySem.Spec
open Builtin Builtin.ObjectAttr
/-- what the written part says of such a class -/
structure OxC (K : PySem.W.Frag) (newId : String) (tl : List Value) (C : Addr) : Prop where
  ob : excInitIn K C tl newId = true
  ov : excOver K C tl = true
  hd : hasDictIn K C = true
  sa : findIn K (.ref C) "__setattr__" = some (some (.builtin "object.__setattr__"))
  exC : subIn K (.ref C) (.type "BaseException") = some true
  tyC : typeIn K (.ref C) = some (.type "type")
  kC : keepIn K (.ref C) = true
section
variable {prog : Program} {w : World} {A : Around} {R : Result → Shared → Prop} {hp : Heap} {g : Array GenState} {d : Drawn} {t : Nat} {os : OsState} {K : Frag} {name : Str} {tk : Tok} {v : Value} {x C : Addr} {fv : Array Value} {iB : String} {tl : List Value}
theorem taker_none (ha : findIn K (.ref C) name = some none) : takerIn K C name = some none := by
  unfold takerIn
  rw [ha]
  rfl
theorem x_set_new (SF : StoreFacts iB tl "object.__setattr__" "object") (X : K.In hp) (hx : hp.get? x = some { cls := .ref C, data := .fields fv }) (ov : excOver K C tl = true) (hdc : hasDictIn K C = true) (ha : findIn K (.ref C) name = some none)
    (hq : ∀ h' tk' dx, (∀ b o, b ≠ x → hp.get? b = some o → h'.get? b = some o) → hp.objs.size ≤ dx → dx ≠ x → h'.get? x = some { cls := .ref C, dict := some dx, data := .fields fv } → h'.Ns1 dx (fun y => if y = name then some v else none) →
      R (.ok (.ret .none)) ⟨h', g, d, tk', os⟩) : codeAny (model prog w) A (.call (.builtin "object.__setattr__") ⟨[.ref x, .str name tk, v], []⟩) R ⟨hp, g, d, t, os⟩ := by
  have I : W.InstAt hp x { cls := .ref C, data := .fields fv } C none := ⟨hx, rfl, rfl, trivial⟩
  have ne : x ≠ hp.objs.size := Nat.ne_of_lt (Heap.lt_size hx)
  obtain ⟨cd, hcd, hh⟩ := any_some hdc
  have Lc : W.Looks (model prog w) hp (classData C) cd := W.looks_clsIn X hcd
  refine osa_openX (s := ⟨hp, g, d, t, os⟩) SF X I ov (taker_none ha) fun b => ?_
  show wpAny _ _ (storeInOwnDict (.ref x) (.ref C) (.str name tk) name v b) _ _ _
  obtain ⟨nm, bs, mro, ns, qn, hd, sn, sb, ab, col, del⟩ := cd
  dsimp only at hh
  subst hh
  unfold storeInOwnDict ownDictForStores
  repeat (first
    | with_reducible refine PySem.HandSPX.store_in_new ?_ ?_
    | with_reducible refine wpAny_loadPart_at hx ?_
    | with_reducible refine Lc.at ?_
    | wp_step)
  · have gd : ((hp.push { cls := .type "dict", data := .dict #[] }).update x fun o => { o with dict := some hp.objs.size }).get? hp.objs.size = some { cls := .type "dict", data := .dict #[] } :=
      (Heap.get?_update_ne _ _ _ _ ne.symm).trans (Heap.get?_push_at rfl rfl)
    exact ⟨_, #[], _, gd, rfl, fun e he => absurd he (by simp), fun _ => rfl⟩
  · intro h' tk' hn' hs
    have hx1 : (hp.push { cls := .type "dict", data := .dict #[] }).get? x = some { cls := .ref C, data := .fields fv } := Heap.get?_push_of_some _ hx
    refine hq h' tk' hp.objs.size (fun b o hb ho => ?_) (Nat.le_refl _) ne.symm ?_ hn'
    · have bn := Nat.ne_of_lt (Heap.lt_size ho)
      exact (hs.2 b bn).trans ((Heap.get?_update_ne _ _ _ _ hb).trans (Heap.get?_push_of_some _ ho))
    · exact (hs.2 x ne).trans (Heap.get?_update_self _ hx1 rfl)
end
section
variable {X : Cx} {pins : List (Addr × Obj)} {σ : St} {H : Hp} {s : Shared} {a C dx : Addr} {f : Str} {y : V} {u : Value} {fs : List (Str × V)} {Q : Unit → Shared → Prop} {E : Value → Shared → Prop} {A : Around} {nB newId iB initId : String} {tl : List Value}
/-- self.f = y, the first one -/
theorem x_ost (B : XB nB newId iB initId tl) (T : OxC X.K newId tl C) (J : Inv X pins σ H s) (e : H a = some (exo a C none)) (hno : findIn X.K (.ref C) f = some none) (ry : RelV y u)
    (h : ∀ dx s', H dx = none → dx ≠ a → Inv X pins σ (upd (upd H dx (exd dx [(f, y)])) a (exo a C (some dx))) s' → Q () s') : wpAny (model X.prog X.w) A (setAttr (.ref a) f u) Q E s := by
  obtain ⟨t1, ho⟩ := exo_at J.hok e
  obtain ⟨hp, g, d, t, os⟩ := s
  refine PySem.W.set_plain J.kIn (od := none) ⟨ho, rfl, rfl, trivial⟩ T.sa ?_
  refine x_set_new B.SF J.kIn ho T.ov T.hd hno fun h' tk' dx k dn dne hx hn => ?_
  have hnd : H dx = none := J.hok.fresh dn
  have nd : ∀ {b : Addr} {o : Obj}, hp.get? b = some o → b ≠ dx := fun {b o} q => Nat.ne_of_lt (Nat.lt_of_lt_of_le (Heap.lt_size q) dn)
  have na : ∀ {b : Addr}, H b = none → b ≠ a := fun {b} n z => by subst z; rw [e] at n; cases n
  have U : Un X.fs [] H (upd (upd H dx (exd dx [(f, y)])) a (exo a C (some dx))) hp h' := by
    refine ⟨fun b o q n _ _ => k b o (na n) q, fun b o q n _ _ => ⟨o.slots, k b o (na n) q⟩, fun b o q n _ => ?_, fun b o q _ => ?_, fun b xs q => ?_, fun b o v q => ?_, fun b ps q => ⟨#[], ?_⟩⟩
    · rw [upd_ne (na n), upd_ne (nd q)]
      exact n
    · by_cases hb : b = a
      · subst hb; exact ⟨_, hx⟩
      · exact ⟨o, k b o hb q⟩
    · rw [upd_ne (at_ne e q exo_tup), upd_ne (ne_of_none q hnd)]
      exact q
    · rw [upd_ne (at_ne e q exo_frz), upd_ne (ne_of_none q hnd)]
      exact q
    · rw [upd_ne (at_ne e q exo_tbl), upd_ne (ne_of_none q hnd), q]
      simp
  refine h dx _ hnd dne (J.un (t' := tk') U fun b o q => ?_)
  by_cases hb : b = a
  · subst hb
    rw [upd_same] at q
    cases q
    exact exo_ok hx
  rw [upd_ne hb] at q
  by_cases hd : b = dx
  · subst hd
    rw [upd_same] at q
    cases q
    exact exd_ok hn (relO_put (fs := []) ry fun g => True.intro)
  rw [upd_ne hd] at q
  refine (J.hok b o q).stay (fun c v hc z => k c v ?_ z) (fun c hc => ?_) fun c xs hc => ?_
  · rcases hc with rfl | hc
    · exact hb
    · exact at_ne e hc exo_own
  · rw [upd_ne (at_ne e hc exo_own), upd_ne (ne_of_none hc hnd)]
    exact hc
  · rw [upd_ne (at_ne e hc exo_tup), upd_ne (ne_of_none hc hnd)]
    exact hc
/-- the base's __init__ -/
theorem x_oinit {us : List Value} {Q : Value → Shared → Prop} (B : XB nB newId iB initId tl) (T : OxC X.K newId tl C) (J : Inv X pins σ H s) (e : H a = some (exo a C none)) (hl : us.length ≤ sizeLine) (h : ∀ s', Inv X pins σ H s' → Q .none s') :
    wpAny (model X.prog X.w) A (call (.builtin initId) (.ref a :: us)) Q E s := by
  obtain ⟨nm, N, qn, bs, bm, hd, sn, sub, ab, col, dd, k0, k1, k2, k3, k5, hC, hT⟩ := excInit_of J.kIn T.ob
  obtain ⟨t1, ho⟩ := exo_at J.hok e
  obtain ⟨hp, g, d, t, os⟩ := s
  refine wpAny_call (x_init B hT hC ho hl fun h' t2 k hx => h _ ?_)
  have J2 := J.write (t' := t) (x := a) (e := a) (o := exo a C none) (by rw [e]; exact True.intro) (.inl rfl) k ⟨_, hx⟩ (exo_ok hx)
  have same : upd H a (exo a C none) = H := funext fun b => by
    by_cases hb : b = a
    · subst hb; rw [upd_same, e]
    · exact upd_ne hb
  rwa [same] at J2
end
/-- B.__init__(self, ..) -/
def tXi (K : PySem.W.Frag) (newId : String) (tl : List Value) (ta : TA) : TE := fun σ H Q => ta σ H fun vs H1 => ∃ (a C : Addr) (ws : List V), vs = .ref a :: ws ∧ ws.length ≤ 1000 ∧ OxC K newId tl C ∧ H1 a = some (exo a C none) ∧ Q .non H1
/-- self.f = e -/
def tXs (K : PySem.W.Frag) (newId : String) (tl : List Value) (f : Str) (to te : TE) : TS := fun D σ H => te σ H fun y H1 => to σ H1 fun x H2 => ∃ a C : Addr, x = .ref a ∧ OxC K newId tl C ∧ findIn K (.ref C) f = some none ∧
  H2 a = some (exo a C none) ∧ ∀ dx, H2 dx = none → dx ≠ a → D.nx σ (upd (upd H2 dx (exd dx [(f, y)])) a (exo a C (some dx)))
section
variable {X : Cx} {o e : Expr} {es : List Expr} {to te : TE} {ta : TA} {f x : Str} {p p' p1 p2 pos : Pos} {nB newId iB initId : String} {tl : List Value} {pl : Sem Bool}
/-- .. by an own class without an __init__ of its own -/
theorem pe_xinitO {D : Addr} {mc : Value} (B : XB nB newId iB initId tl) (hg : Gl X x) (hm : X.mg x = some (.ref D)) (ga : specialIn X.K (.ref D) "__getattribute__" = some (some (.builtin "type.__getattribute__"))) (rd : readsIn X.K D mc = true) (vV : findCls X.K (.ref D) mc "__init__" = some (.val (.builtin initId))) (hh : handedIn (.builtin initId) = true) (ha : PA X (e :: es) ta)
    (hdb : (x == ("__debug__" : Str)) = false := by decide)
    (hc : eval (.Call (.Attribute (.Name x p1) "__init__" p2) (e :: es) [] pos) X.env = (do
      let ov ← eval (.Name x p1) X.env
      standAt p2.atName
      let (f, first) ← holding [ov] (getMethod ov "__init__" pl)
      callWith pos f first (backTo pos (starEach (e :: es) X.env)) (backToKw pos (keywordEach [] X.env))) := by rfl)
    (he : starEach (e :: es) X.env = (false, eval e X.env) :: starEach es X.env := by rfl) (hpl : (backTo pos (starEach es X.env)).any (·.1) = false := by rfl) : PE X (.Call (.Attribute (.Name x p1) "__init__" p2) (e :: es) [] pos) (tXi X.K newId tl ta) := by
  refine ⟨fun pins s σ H Q J h => PySem.W.methodCall_KW (ld_glob J hg hm ?_ hdb) hc⟩
  refine PySem.W.method_cls J.kIn ga (PySem.W.cls_value J.kIn rd vV hh ?_)
  show wpAny _ _ (callWith pos (Value.builtin initId) [] (backTo pos (starEach (e :: es) X.env)) []) _ _ _
  refine PyProof.Rows.callWith_method1 (thn (ha.run pos pins _ σ H _ (J.tok _) h) fun us s1 ⟨vs, H1, J1, r1, a, C, ws, ev, hl, T, ea, q⟩ => ?_) he hpl
  subst ev
  cases r1 with
  | @cons _ u0 _ ur ra rw' =>
    cases (show u0 = Value.ref a from ra)
    have few : ur.length ≤ sizeLine := by rw [← Paired.length rw', sizeLine_eq]; omega
    exact x_oinit B T J1 ea few fun s' J2 => ⟨.non, H1, J2, rfl, q⟩
theorem ps_xs (B : XB nB newId iB initId tl) (ho : PE X o to) (he : PE X e te) (hs : swapsWith e (some (.Attribute o f p')) pos.line X.env = pure false := by rfl) : PS X (.Assign [.Attribute o f p'] e pos) (tXs X.K newId tl f to te) := by
  refine ⟨fun pins s σ H D J h => plainObj_wpAny_Assign_Attribute (thn (he.run pins s σ H _ J h) fun v s1 ⟨y, H1, J1, r1, q1⟩ => ?_) hs⟩
  refine thn (ho.run pins s1 σ H1 _ J1 q1) fun u s2 ⟨x, H2, J2, r2, a, C, ex, T, hno, ea, q⟩ => ?_
  subst ex
  cases (show u = Value.ref a from r2)
  exact x_ost B T J2 ea hno r1 fun dx s' n ne J3 => ⟨σ, _, J3, q dx n ne⟩
/-- what such an __init__ keeps: one field -/
def spX (C : Addr) (f : Str) : Sp := fun vs H Q _ => ∃ a y, vs = [.ref a, y] ∧ H a = some (exo a C none) ∧ ∀ d, H d = none → d ≠ a → Q .non (upd (upd H d (exd d [(f, y)])) a (exo a C (some d)))
/-- C(e): the exception that comes -/
def tXm (C : Addr) (f : Str) (te : TE) : St → Hp → XK → Prop := fun σ H Q => te σ H fun y H1 => ∀ d, H1 d = none → Q (.ref C) (some d) (upd H1 d (.xd [(f, y)]))
theorem pmk_x {CX : CXT} {C fI : Addr} {k : Nat} {fd : FuncData} {ps : List Str} (B : XB nB newId iB initId tl) (T : OxC X.K newId tl C) (iC : findIn X.K (.ref C) "__init__" = some (some (.ref fI))) (tI : typeIn X.K (.ref fI) = some (.type "function"))
    (G : GnOk X.prog X.w X.K X.mg X.base CX k fI fd ps (spX C f)) (hr : Rm (k + 1) X.A) (hb : Binds X.K fd ps []) (hx : Passes CX X (fun _ _ _ => False)) (hg : Gl X x) (hm : X.mg x = some (.ref C)) (he : PE X e te)
    (hdb : (x == ("__debug__" : Str)) = false := by decide) (hs : starEach [e] X.env = (false, eval e X.env) :: starEach [] X.env := by rfl) : PMk X (.Call (.Name x p) [e] [] pos) (tXm C f te) := by
  intro pins s σ H Q J h
  refine wpAny_Call_Name_kw (ld_glob J hg hm ?_ hdb)
  refine PySem.W.callWith_K (h₀ := X.base) J.ok.mod.kin T.kC ?_ hs (by rfl)
  rw [hs]
  show wpAny _ _ (spliced ((false, eval e X.env) :: backTo pos (starEach [] X.env))) _ _ s
  refine Calls.spliced_cons (thn (he.run pins s σ H _ J h) fun u s1 ⟨y, H1, J1, r1, q1⟩ => ?_)
  refine Calls.spliced_nil ⟨J1.kIn, ?_⟩
  show wpAny _ _ (call (.ref C) [u]) _ _ _
  obtain ⟨nm, N, qn, bs, bm, hd, sn, sub, ab, col, dd, k0, k1, k2, k3, k5, hC, hT⟩ := excInit_of J1.kIn T.ob
  obtain ⟨hp, g, dr, tk, os⟩ := s1
  have hsz : hp.objs.size ≤ hp.objs.size + 1 := Nat.le_succ _
  have hn : H1 (hp.objs.size + 1) = none := J1.hok.fresh hsz
  have kk : ∀ b o, hp.get? b = some o → (xNew hp C [u]).get? b = some o := fun b o z => Heap.get?_push_of_some _ (Heap.get?_push_of_some _ z)
  have hget : (xNew hp C [u]).get? (hp.objs.size + 1) = some (PySem.HandSPX.excO C hp.objs.size) := by heap_get
  have J2 := J1.laid (t' := tk) (a := hp.objs.size + 1) (o := exo (hp.objs.size + 1) C none) (h' := xNew hp C [u]) kk hsz (exo_ok hget)
  have r2 : Vals [V.ref (hp.objs.size + 1), y] [Value.ref (hp.objs.size + 1), u] := .cons rfl (.cons r1 .nil)
  have q3 : spX C f [V.ref (hp.objs.size + 1), y] (upd H1 (hp.objs.size + 1) (exo (hp.objs.size + 1) C none)) (fun v H2 => v = .non ∧ ∃ d fs, H2 (hp.objs.size + 1) = some (exo (hp.objs.size + 1) C (some d)) ∧ H2 d = some (exd d fs) ∧ H1 d = none ∧
      Q (.ref C) (some d) (upd (del H2 (hp.objs.size + 1)) d (.xd fs))) (fun _ _ _ => False) := by
    refine ⟨_, y, rfl, upd_same, fun d hd ne => ⟨rfl, d, _, upd_same, by rw [upd_ne ne, upd_same], by rwa [upd_ne ne] at hd, ?_⟩⟩
    have hd1 : H1 d = none := by rwa [upd_ne ne] at hd
    refine cast (congrArg (Q (.ref C) (some d)) (funext fun b => ?_)) (q1 d hd1)
    by_cases hb : b = d
    · subst hb; rw [upd_same, upd_same]
    rw [upd_ne hb, upd_ne hb]
    by_cases ha : b = hp.objs.size + 1
    · subst ha; rw [del_same, hn]
    rw [del_ne ha, upd_ne ha, upd_ne hb, upd_ne ha]
  have b2 := hb _ [Value.ref (hp.objs.size + 1), u] J2.kIn (by rw [List.append_nil, ← r2.length]; exact G.lens _ _ _ _ q3)
  rw [List.append_nil] at b2
  refine wpAny_call (x_call B hT hC (PySem.W.looks_findIn J1.kIn iC) (fun self => PySem.W.bind_fn J1.kIn self tI) (by show 1 ≤ sizeLine; rw [sizeLine_eq]; omega)
    (codeAny_mono (G.go _ X.stack _ _ ⟨[Value.ref (hp.objs.size + 1), u], []⟩ _ _ _ (fun _ _ _ => False) (hr.make C [u] []) (J2.env0.make C [u] []) b2 r2 q3) fun r s' z => ?_))
  cases r with
  | error er => exact hx pins σ _ _ er s' J2 z
  | ok fl => cases fl with
    | ret u' =>
      obtain ⟨v, H2, os2, bare2, un2, hok2, rv, ev, d, fs, ea, ed, hd1, q2⟩ := z
      subst ev
      obtain ⟨h2, g2, d2, t2, os'⟩ := s'
      exact ⟨rv, mk_end (raises_own T.exC T.tyC) J1 hsz kk un2 hok2 os2 bare2 ea ed hd1 q2⟩
    | next => exact z.elim
    | brk => exact z.elim
    | cont => exact z.elim
end
end Dk
namespace Dk
open PySem L2
structure DMk (F : Fx) (X : Cx) (e : Expr) (t : DEnv → (Ex → Prop) → Prop) : Prop where
  mono : ∀ ρ (Q Q' : Ex → Prop), (∀ x, Q x → Q' x) → t ρ Q → t ρ Q'
  run : PMk X e (fun σ H Q => ∃ I ρ, At F X.K I ρ σ H ∧ t ρ (finX F.W X.K I H Q))
/-- what is wished of an exception, by the names where it comes -/
abbrev WD := DEnv → Ex → Prop
def LetsS (F : Fx) (K : PySem.W.Frag) (w : WD) (W : WX) : Prop := ∀ I ρ σ H, At F K I ρ σ H → ∀ x, w ρ x → finX F.W K I H (fun cls d H' => W cls d σ H') x
theorem letsS_def {F : Fx} {K : PySem.W.Frag} {E : XK} : LetsS F K (fun _ => finX F.W K F.I0 F.B E) (fun cls d _ H => E cls d H) := fun I ρ σ H A x h cls d I' H' s r => h cls d I' H' (A.stp.trans s) r
theorem _root_.L2.PMk.imp {X : Cx} {e : Expr} {t u : St → Hp → XK → Prop} (h : PMk X e t) (i : ∀ σ H Q, u σ H Q → t σ H Q) : PMk X e u := fun pins s σ H Q J q => h pins s σ H Q J (i _ _ _ q)
section
variable {F : Fx} {X : Cx} {K : PySem.W.Frag} {I H I' H' : Hp} {ρ : DEnv} {σ : St} {W : WX} {w : WD} {e o : Expr} {es : List Expr} {te to : DT} {t : DEnv → (Ex → Prop) → Prop} {p pos apos : Pos} {x f m : Str} {nB newId iB initId : String} {tl : List Value}
theorem dmk_x {CX : CXT} {C fI : Addr} {k : Nat} {fd : FuncData} {ps : List Str} (B : XB nB newId iB initId tl) (T : OxC X.K newId tl C) (iC : PySem.W.findIn X.K (.ref C) "__init__" = some (some (.ref fI))) (tI : PySem.W.typeIn X.K (.ref fI) = some (.type "function"))
    (G : GnOk X.prog X.w X.K X.mg X.base CX k fI fd ps (spX C f)) (hr : Rm (k + 1) X.A) (hb : Binds X.K fd ps []) (hx : Passes CX X (fun _ _ _ => False)) (hm : X.mg x = some (.ref C)) (he : DE F X e te) (hg : Gl X x := by rfl)
    (hdb : (x == ("__debug__" : Str)) = false := by decide) (hs : starEach [e] X.env = (false, eval e X.env) :: starEach [] X.env := by rfl) : DMk F X (.Call (.Name x p) [e] [] pos) (fun ρ Q => te ρ fun d => Q ⟨.ref C, [(f, d)]⟩) := by
  refine ⟨fun ρ Q Q' k h => he.mono _ _ _ (fun d h => k _ h) h, (pmk_x B T iC tI G hr hb hx hg hm he.run hdb hs).imp fun σ H Q ⟨I, ρ, A, h⟩ => ?_⟩
  refine rdE_next he.mono A h fun d v I1 H1 q s rv dd hd => ?_
  have l := s.st.laid hd (.xd [(f, v)])
  exact q _ _ _ _ (s.trans l) ⟨rfl, .inr ⟨dd, _, rfl, upd_same, rfl, .cons (rv.mono l.i) .nil⟩⟩
theorem dmk_own {C : Addr} {bmB : List Value} {B newId initId : String} {y : Str} {j : Nat} {p2 : Pos} (G : ExcBaseFacts B newId initId bmB) (q : PySem.W.excIn X.K C bmB newId = true) (gC : X.mg x = some (.ref C)) (kC : PySem.W.keepIn X.K (.ref C) = true) (r : Raises X (.ref C)) (hg : Gl X x := by rfl)
    (hdb : (x == ("__debug__" : Str)) = false := by decide) : DMk F X (.Call (.Name x p) [.Constant (.str y) j p2] [] pos) (fun _ Q => Q ⟨.ref C, []⟩) :=
  ⟨fun ρ Q Q' k h => k _ h, (pmk_own G q gC kC r hg hdb).imp fun σ H Q ⟨I, ρ, A, h⟩ => h _ _ _ _ A.st.stp ⟨rfl, .inl ⟨rfl, rfl⟩⟩⟩
theorem ds_raise (hc : X.calm = true) (tk : Takes X W) (le : LetsS F X.K w W) (h : DMk F X e t) : DSt F X (.Raise (some e) none pos) (fun _ ρ => t ρ (w ρ)) :=
  ⟨fun Z Z' ρ l q => q, (ps_raise hc tk h.run).imp fun Z σ H ⟨I, ρ, A, q⟩ => ⟨I, ρ, A, h.mono _ _ _ (fun x q => le I ρ σ H A x q) q⟩⟩
end
section
variable {F : Fx} {K : PySem.W.Frag} {I H : Hp} {ρ : DEnv} {σ : St}
/-- what the frame's own things hide -/
def baseOf (F : Fx) (H : Hp) : Hp := fun b => if F.B b = none then none else H b
theorem At.rebase (A : At F K I ρ σ H) : At ⟨F.W, baseOf F H, I⟩ K I ρ σ H := by
  refine ⟨⟨Same.refl I, A.st, fun b o e _ => ?_, fun b o e n => n⟩, A.len, fun i e h => ?_, A.dis⟩
  · have e2 : (if F.B b = none then none else H b) = some o := e
    split at e2
    · cases e2
    · exact e2
  · obtain ⟨v, h1, h2⟩ := A.env i e h
    refine ⟨v, h1, ?_⟩
    rcases h2 with h2 | ⟨p, o, e1, w⟩
    · exact .inl h2
    · exact .inr ⟨p, o, e1, w.hp, w.rep, w.ni, w.nm, if_pos w.nb, w.ad⟩
theorem Stp.back {I' H' : Hp} (s0 : Stp F.W F.I0 F.B I H) (s : Stp F.W I (baseOf F H) I' H') : Stp F.W F.I0 F.B I' H' := by
  have see : ∀ b o, F.B b = some o → H b = some o → baseOf F H b = some o := fun b o e h => by
    unfold baseOf
    rw [if_neg (by rw [e]; exact fun z => nomatch z)]
    exact h
  refine ⟨Same.trans s0.i s.i, s.st, fun b o e m => s.h b o (see b o e (s0.h b o e m)) m, fun b o e n => ?_⟩
  by_cases m : F.W.mv b
  · cases q : I' b with
    | none => rfl
    | some u => exact absurd m (s.st.imm b u q)
  · exact s.new b o (see b o e (s0.h b o e m)) (s0.new b o e n)
theorem At.back {I' H' : Hp} {ρ' : DEnv} {σ' : St} (A : At F K I ρ σ H) (A' : At ⟨F.W, baseOf F H, I⟩ K I' ρ' σ' H') : At F K I' ρ' σ' H' := by
  refine ⟨Stp.back A.stp A'.stp, A'.len, fun i e h => ?_, A'.dis⟩
  obtain ⟨v, h1, h2⟩ := A'.env i e h
  refine ⟨v, h1, ?_⟩
  rcases h2 with h2 | ⟨p, o, e1, w⟩
  · exact .inl h2
  refine .inr ⟨p, o, e1, w.hp, w.rep, w.ni, w.nm, ?_, w.ad⟩
  cases q : F.B p with
  | none => rfl
  | some u =>
    have hp := A.stp.h p u q w.nm
    have z : (if F.B p = none then none else H p) = none := w.nb
    rw [if_neg (by rw [q]; exact fun z => nomatch z), hp] at z
    cases z
theorem ends.rebase (A : At F K I ρ σ H) {Z : Ends} : DEnds.le (ends F K I Z) (ends ⟨F.W, baseOf F H, I⟩ K I Z) :=
  ⟨fun ρ' h I' σ' H' s A' => h I' σ' H' s (A.back A'), fun d h v I' H' s r => h v I' H' (Stp.back A.stp s) r, fun ρ' h I' σ' H' s A' => h I' σ' H' s (A.back A'), fun ρ' h I' σ' H' s A' => h I' σ' H' s (A.back A'), fun u h => match u, h with
    | .own ds, h => fun p vs I' H' s hp r => h p vs I' H' (Stp.back A.stp s) hp r
    | .st d ρ', h => fun v I' σ' H' A' r => h v I' σ' H' (A.back A') r⟩
end
end Dk
namespace Dk
open PySem L2 PySem.Spec
/-- a clause: its class, the slot of its name, what its suite does -/
abbrev Cls1 := Value × Option Nat × (Addr → Value → Option Addr → TS)
def endsAs (D : Ends) : Option Nat → Ends
  | none => D
  | some i => { nx := fun σ H => D.nx (σ.set i none) H, rt := D.rt, bk := fun σ H => D.bk (σ.set i none) H, ct := fun σ H => D.ct (σ.set i none) H }
def nameAs (a : Addr) (σ : St) : Option Nat → St
  | none => σ
  | some i => σ.set i (some (.ref a))
def wTry (K : PySem.W.Frag) (Wout : WX) (D : Ends) : List Cls1 → WX
  | [] => Wout
  | (c, i, ts) :: r => fun cls d σ H => ∃ b, PySem.W.exmOne K cls c = some b ∧ (b = true → ∀ a, H a = none → ts a cls d (endsAs D i) (nameAs a σ i) H) ∧ (b = false → wTry K Wout D r cls d σ H)
abbrev SuiteOk (X : Cx) (sts : List Stmt) (ts : Addr → Value → Option Addr → TS) : Prop :=
  ∀ (a : Addr) (oe : Obj) (cls : Value) (d : Option Addr) (pn : List (Addr × Obj)), Zc cls d oe → (∃ vs, oe.data = .fields vs) → PSs (X.suite a ((a, oe) :: pn)) sts (ts a cls d)
inductive HdsS (X : Cx) : List ExceptHandler → List Cls1 → Prop
  | nil : HdsS X [] []
  | one {x : Str} {c : Value} {ts : Addr → Value → Option Addr → TS} {b₀ : Stmt} {suite : List Stmt} {np pos' : Pos} {hds : List ExceptHandler} {l : List Cls1} (hc : Names X x c) (hsu : SuiteOk X (b₀ :: suite) ts) (r : HdsS X hds l) :
      HdsS X (.ExceptHandler (some (.Name x np)) none (b₀ :: suite) pos' :: hds) ((c, none, ts) :: l)
  | as {x n : Str} {i : Nat} {c : Value} {ts : Addr → Value → Option Addr → TS} {b₀ : Stmt} {suite : List Stmt} {np pos' : Pos} {hds : List ExceptHandler} {l : List Cls1} (hc : Names X x c) (hi : X.N[i]? = some n) (hln : X.env.kindOf n = some .local) (hsu : SuiteOk X (b₀ :: suite) ts) (r : HdsS X hds l) :
      HdsS X (.ExceptHandler (some (.Name x np)) (some n) (b₀ :: suite) pos' :: hds) ((c, some i, ts) :: l)
section
variable {X : Cx} {body : List Stmt} {h₀ : ExceptHandler} {hds : List ExceptHandler} {l : List Cls1} {pos : Pos} {tb : WX → TS} {Wout : WX}
theorem ps_tryS (hs : X.stack = X.env :: X.outer) (hf : X.env.frame = some X.env.locals) (hN : X.N.Nodup) (tk : Takes X Wout)
    (hb : ∀ (W : WX) (pn : List (Addr × Obj)) (xe : Value → Shared → Prop), Takes (X.tr pn xe) W → PSs (X.tr pn xe) body (tb W))
    (hh : HdsS X (h₀ :: hds) l) : PS X (.Try body (h₀ :: hds) [] [] pos) (fun D σ H => tb (wTry X.K Wout D l) D σ H) := by
  refine ⟨fun pins s σ H D J h => wpAny_Try_except ?_⟩
  have ok := J.ok
  have frs1 : X.A.frames = some (X.env :: X.outer) := by rw [ok.frames, hs]
  have caught := hb (wTry X.K Wout D l) (X.pn ++ pins) (fun e s1 => wpAny (model X.prog X.w) X.A (noteFrame e X.env) (fun _ s2 => wpAny (model X.prog X.w) X.A (setFlight e none) (fun _ s3 => wpAny (model X.prog X.w) X.A (handleBy e X.env (h₀ :: hds)) (SP X pins D) X.xe s3) X.xe s2) X.xe s1)
  refine wpAny_mono ((caught fun u s' xx => ?_).run [] s σ H D (J.toTry _) h) (fun f s1 hsp => ?_) fun e s1 he => he
  · obtain ⟨a, B, sI, pins', σ', H', cls, d, rfl, J', nb, up, sky, na, os, ag, w⟩ := xx
    have J1 : Inv X pins σ' H' sI := J'.ofTry ok
    rw [hs] at sky
    show wpAny (model X.prog X.w) X.A (noteFrame (.ref a) X.env) _ _ _
    refine Sky.land Zc.steady frs1 hf sky fun h3 fl3 up3 => ?_
    have J3 : Inv X pins σ' H' { s' with heap := h3 } := J1.landed nb fl3.1 (up.trans up3) os ag
    obtain ⟨oe3, vs3, he3, hz3, hd3⟩ := fl3.there
    have off : a ∉ frs (X.env :: X.outer) := fun hm => by
      obtain ⟨_, o', e', hnf⟩ := fl3.2.2.1.mem hm
      rw [he3] at e'
      cases e'
      exact hnf _ hd3
    have nL : a ≠ X.env.locals := fun z => off (List.mem_filterMap.mpr ⟨X.env, List.mem_cons_self, by rw [hf, z]⟩)
    have nF : a ∉ X.fs := fun hm => by
      obtain ⟨e, he, q⟩ := List.mem_filterMap.mp hm
      exact off (List.mem_filterMap.mpr ⟨e, List.mem_cons_of_mem _ he, q⟩)
    have S3 := J3.suite he3 hd3 na nL nF
    have LT : PySem.W.Looks (model X.prog X.w) h3 (typeOf (.ref a)) cls := fun A Q E s k q => wpAny_typeOf_ref (k _ _ he3) (by rw [hz3.1]; exact q)
    have test : ∀ {x : Str} {c : Value} {np : Pos}, Names X x c → ∀ {Q E : Value → Shared → Prop}, Q c { s' with heap := h3 } → wpAny (model X.prog X.w) (X.A.mark (some (.ref a))) (eval (.Name x np) X.env) Q E { s' with heap := h3 } := by
      rintro x c np ⟨hg, hdbg, hm | ⟨hm, hv, hnn⟩⟩ Q E q
      · exact ld_glob (X := X.suite a ((a, oe3) :: (X.pn ++ pins))) S3 hg hm q hdbg
      · exact ld_blt (X := X.suite a ((a, oe3) :: (X.pn ++ pins))) S3 hg hm hv q hnn hdbg
    have go : ∀ {hs2 : List ExceptHandler} {l2 : List Cls1}, HdsS X hs2 l2 → wTry X.K Wout D l2 cls d σ' H' → wpAny (model X.prog X.w) X.A (handleBy (.ref a) X.env hs2) (SP X pins D) X.xe { s' with heap := h3 } := by
      intro hs2 l2 hk
      induction hk with
      | nil =>
        intro w
        refine wpAny_handleBy_nil ?_
        obtain ⟨k1, k2, k3, oe, vs, T, oT, ts', he, hz, hd, h1, hr⟩ := id fl3
        have some1 : ¬ ((Value.ref T == Value.none) = true) := by simp
        unfold PySem.passOn
        refine wpAny_bind (wpAny_field he hd h1 ?_)
        rw [if_neg some1]
        have out : wpAny (model X.prog X.w) X.A (setFlight (.ref a) X.env.frame) (fun _ s4 => wpAny (model X.prog X.w) X.A (throw (.ref a) : Sem Flow) (SP X pins D) X.xe s4) X.xe { s' with heap := h3 } := by
          rw [hf]
          refine HandSPX.setFlight_upZ fl3 fun h4 hh4 up4 => wpAny_throw (tk _ _ ⟨a, B, sI, pins, σ', H', cls, d, rfl, J1, nb, (up.trans up3).trans up4, ?_, na, os, ag, w⟩)
          rw [hs]
          exact .inr (.inr hh4)
        first
          | exact wpAny_bind (wpAny_pure (wpAny_bind out))
          | exact wpAny_bind out
      | @one x c ts b₀ suite np pos' hds3 l3 hc hsu r ih =>
        rintro ⟨b, hb1, yes, no⟩
        refine wpAny_handleBy_cons (codeAny_handlers_test ?_) (by intro q; cases q)
        refine test hc ((PySem.W.exm_one (M := model X.prog X.w) J3.kIn LT hb1).here ?_)
        cases b with
        | false => exact ih (no rfl)
        | true =>
          refine codeAny_handlers_suite (HandSPX.lands_againZ fl3 fun h4 fl4 up4 => ?_)
          have J4 : Inv X pins σ' H' { s' with heap := h4 } := J1.landed nb fl4.1 ((up.trans up3).trans up4) os ag
          obtain ⟨oe4, vs4, he4, hz4, hd4⟩ := fl4.there
          refine wpAny_mono ((hsu a oe4 cls d (X.pn ++ pins) hz4 ⟨_, hd4⟩).run [] _ _ H' _ (J4.suite he4 hd4 na nL nF) (yes rfl a na)) (fun f s6 hsp => ?_) fun _ _ z => False.elim z
          cases f with
          | ret u => obtain ⟨v6, σ6, H6, S6, r6, q6⟩ := hsp; exact ⟨_, _, _, S6.unsuite ok, r6, q6⟩
          | next => obtain ⟨σ6, H6, S6, q6⟩ := hsp; exact ⟨_, _, S6.unsuite ok, q6⟩
          | brk => obtain ⟨σ6, H6, S6, q6⟩ := hsp; exact ⟨_, _, S6.unsuite ok, q6⟩
          | cont => obtain ⟨σ6, H6, S6, q6⟩ := hsp; exact ⟨_, _, S6.unsuite ok, q6⟩
      | @as x n i c ts b₀ suite np pos' hds3 l3 hc hi hln hsu r ih =>
        rintro ⟨b, hb1, yes, no⟩
        refine wpAny_handleBy_cons (codeAny_handlers_test ?_) (by intro q; cases q)
        refine test hc ((PySem.W.exm_one (M := model X.prog X.w) J3.kIn LT hb1).here ?_)
        cases b with
        | false => exact ih (no rfl)
        | true =>
          refine codeAny_handlers_suite_as (HandSPX.lands_againZ fl3 fun h4 fl4 up4 => ?_)
          have J4 : Inv X pins σ' H' { s' with heap := h4 } := J1.landed nb fl4.1 ((up.trans up3).trans up4) os ag
          obtain ⟨oe4, vs4, he4, hz4, hd4⟩ := fl4.there
          refine store_ok (X := X.suite a ((a, oe4) :: (X.pn ++ pins))) (v := .ref a) (J4.suite he4 hd4 na nL nF) hN hi (.inl hln) rfl (fun s5 S5 => ?_) (.inr hln)
          refine wpAny_mono ((hsu a oe4 cls d (X.pn ++ pins) hz4 ⟨_, hd4⟩).run [] s5 _ H' _ S5 (yes rfl a na)) (fun f s6 hsp => ?_) fun _ _ z => False.elim z
          have gone : ∀ {σ6 : St} {H6 : Hp} {Q : Shared → Prop}, Inv (X.suite a ((a, oe4) :: (X.pn ++ pins))) [] σ6 H6 s6 → (∀ s7, Inv X pins (σ6.set i none) H6 s7 → Q s7) →
              wpAny (model X.prog X.w) X.A (do bindName X.env n .none; unbindBehindTheSuite X.env n pos') (fun _ s7 => Q s7) X.xe s6 := fun S6 hq => gone_ok (S6.unsuite ok) hN hi hln hq
          cases f with
          | ret u => obtain ⟨v6, σ6, H6, S6, r6, q6⟩ := hsp; exact gone S6 fun s7 J7 => ⟨_, _, _, J7, r6, q6⟩
          | next => obtain ⟨σ6, H6, S6, q6⟩ := hsp; exact gone S6 fun s7 J7 => ⟨_, _, J7, q6⟩
          | brk => obtain ⟨σ6, H6, S6, q6⟩ := hsp; exact gone S6 fun s7 J7 => ⟨_, _, J7, q6⟩
          | cont => obtain ⟨σ6, H6, S6, q6⟩ := hsp; exact gone S6 fun s7 J7 => ⟨_, _, J7, q6⟩
    exact go hh w
  · cases f with
    | ret u => obtain ⟨v, σ', H', J', r, q⟩ := hsp; exact ⟨v, σ', H', J'.ofTry ok, r, q⟩
    | next => obtain ⟨σ', H', J', q⟩ := hsp; exact wpAny_execs_nil ⟨σ', H', J'.ofTry ok, q⟩
    | brk => obtain ⟨σ', H', J', q⟩ := hsp; exact ⟨σ', H', J'.ofTry ok, q⟩
    | cont => obtain ⟨σ', H', J', q⟩ := hsp; exact ⟨σ', H', J'.ofTry ok, q⟩
end
/-- a clause over data -/
abbrev Cls2 := Value × Option Nat × (Addr → Ex → DTS)
def wipeZ (Z : DEnds) : Option Nat → DEnds
  | none => Z
  | some i => ⟨fun ρ => Z.nx (ρ.set i none), Z.rt, fun ρ => Z.bk (ρ.set i none), fun ρ => Z.ct (ρ.set i none), Z.ro⟩
def nameD (a : Addr) (ρ : DEnv) : Option Nat → DEnv
  | none => ρ
  | some i => ρ.set i (some (.dat (.opq a)))
/-- what the clauses wish of an exception -/
def handD (K : PySem.W.Frag) (w : WD) (Z : DEnds) : List Cls2 → WD
  | [], ρ, x => w ρ x
  | (c, i, ts) :: r, ρ, x => ∃ b, PySem.W.exmOne K x.cls c = some b ∧ (b = true → ∀ a, ts a x (wipeZ Z i) (nameD a ρ i)) ∧ (b = false → handD K w Z r ρ x)
def tSuite (F : Fx) (K : PySem.W.Frag) (ts : Addr → Ex → DTS) (a : Addr) (cls : Value) (d : Option Addr) : TS := fun D σ H => ∃ I ρ x, At F K I ρ σ H ∧ ExRep K I H cls d x ∧ ts a x (ends F K I D) ρ
abbrev SuiteD (F : Fx) (X : Cx) (sts : List Stmt) (ts : Addr → Ex → DTS) : Prop :=
  ∀ (B' I' : Hp) (a : Addr) (oe : Obj) (cls : Value) (d : Option Addr) (pn : List (Addr × Obj)) (x : Ex), Zc cls d oe → (∃ vs, oe.data = .fields vs) → ExRep X.K I' B' cls d x → DSts ⟨F.W, B', I'⟩ (X.suite a ((a, oe) :: pn)) sts (ts a x)
inductive HdsD (F : Fx) (X : Cx) : List ExceptHandler → List Cls2 → Prop
  | nil : HdsD F X [] []
  | one {x : Str} {c : Value} {ts : Addr → Ex → DTS} {b₀ : Stmt} {suite : List Stmt} {np pos' : Pos} {hds : List ExceptHandler} {l : List Cls2} (hc : Names X x c) (hsu : SuiteD F X (b₀ :: suite) ts) (r : HdsD F X hds l) :
      HdsD F X (.ExceptHandler (some (.Name x np)) none (b₀ :: suite) pos' :: hds) ((c, none, ts) :: l)
  | as {x n : Str} {c : Value} {ts : Addr → Ex → DTS} {b₀ : Stmt} {suite : List Stmt} {np pos' : Pos} {hds : List ExceptHandler} {l : List Cls2} (i : Nat) (hc : Names X x c) (hi : X.N[i]? = some n) (hln : X.env.kindOf n = some .local) (hsu : SuiteD F X (b₀ :: suite) ts) (r : HdsD F X hds l) :
      HdsD F X (.ExceptHandler (some (.Name x np)) (some n) (b₀ :: suite) pos' :: hds) ((c, some i, ts) :: l)
section
variable {F : Fx} {X : Cx} {K : PySem.W.Frag} {I H : Hp} {ρ : DEnv} {σ : St}
theorem ends.as {D : Ends} {i : Option Nat} : DEnds.le (wipeZ (ends F K I D) i) (ends F K I (endsAs D i)) := by
  cases i with
  | none => exact DEnds.le.rfl'
  | some i => exact ⟨fun ρ h I' σ H s A => h I' _ H s (A.wipe [i]), fun d h => h, fun ρ h I' σ H s A => h I' _ H s (A.wipe [i]), fun ρ h I' σ H s A => h I' _ H s (A.wipe [i]), fun d h => h⟩
theorem wipeZ.le {Z Z' : DEnds} {i : Option Nat} (l : DEnds.le Z Z') : DEnds.le (wipeZ Z i) (wipeZ Z' i) := by
  cases i with
  | none => exact l
  | some i => exact ⟨fun ρ h => l.nx _ h, l.rt, fun ρ h => l.bk _ h, fun ρ h => l.ct _ h, l.ro⟩
theorem DEnds.le.trans {a b c : DEnds} (l : DEnds.le a b) (m : DEnds.le b c) : DEnds.le a c :=
  ⟨fun _ h => m.nx _ (l.nx _ h), fun _ h => m.rt _ (l.rt _ h), fun _ h => m.bk _ (l.bk _ h), fun _ h => m.ct _ (l.ct _ h), fun _ h => m.ro _ (l.ro _ h)⟩
theorem at_name (A : At F K I ρ σ H) (a : Addr) (i : Option Nat) : At F K I (nameD a ρ i) (nameAs a σ i) H := by
  cases i with
  | none => exact A
  | some i => exact A.set (.opq a)
theorem suite_ok {sts : List Stmt} {ts : Addr → Ex → DTS} (h : SuiteD F X sts ts) : SuiteOk X sts (tSuite F X.K ts) := by
  refine fun a oe cls d pn hz hf => ⟨fun pins s σ H D J ⟨I, ρ, x, A, e, q⟩ => ?_⟩
  have S := h (baseOf F H) I a oe cls d pn x hz hf e
  exact S.run.run pins s σ H D J ⟨I, ρ, A.rebase, S.mono _ _ _ (ends.rebase A) q⟩
def clsR (F : Fx) (K : PySem.W.Frag) (l : List Cls2) : List Cls1 := l.map fun (c, i, ts) => (c, i, tSuite F K ts)
theorem hds_ok {hs : List ExceptHandler} {l : List Cls2} (h : HdsD F X hs l) : HdsS X hs (clsR F X.K l) := by
  induction h with
  | nil => exact .nil
  | one hc hsu r ih => exact .one hc (suite_ok hsu) ih
  | as i hc hi hln hsu r ih => exact .as hc hi hln (suite_ok hsu) ih
theorem hand_run {Wout : WX} {w : WD} {D : Ends} {Z : DEnds} {hs : List ExceptHandler} {l : List Cls2} (h : HdsD F X hs l) (le : LetsS F X.K w Wout) (A : At F X.K I ρ σ H) (lz : DEnds.le Z (ends F X.K I D)) {x : Ex} {cls : Value} {d : Option Addr} (er : ExRep X.K I H cls d x)
    (q : handD X.K w Z l ρ x) : wTry X.K Wout D (clsR F X.K l) cls d σ H := by
  have one : ∀ {c : Value} {i : Option Nat} {ts : Addr → Ex → DTS} {sts : List Stmt} {r : List Cls2}, SuiteD F X sts ts → (handD X.K w Z r ρ x → wTry X.K Wout D (clsR F X.K r) cls d σ H) → handD X.K w Z ((c, i, ts) :: r) ρ x → wTry X.K Wout D (clsR F X.K ((c, i, ts) :: r)) cls d σ H := by
    rintro c i ts sts r hsu ih ⟨b, hb, yes, no⟩
    refine ⟨b, er.1 ▸ hb, fun e a na => ⟨I, _, x, at_name A a i, er, ?_⟩, fun e => ih (no e)⟩
    have S := hsu I I a ⟨cls, d, .fields #[], #[]⟩ cls d [] x ⟨rfl, rfl⟩ ⟨_, rfl⟩ er
    exact S.mono _ _ _ (DEnds.le.trans (wipeZ.le lz) ends.as) (yes e a)
  induction h with
  | nil => exact le I ρ σ H A x q cls d I H A.st.stp er
  | one hc hsu r ih => exact one hsu ih q
  | as i hc hi hln hsu r ih => exact one hsu ih q
variable {Wout : WX} {w : WD} {body : List Stmt} {h₀ : ExceptHandler} {hs : List ExceptHandler} {l : List Cls2} {pos : Pos} {tb : WD → DTS}
/-- try: body / except C as n: .. / except ..; u: what the body's exceptions are wished -/
theorem ds_try (h1 : X.stack = X.env :: X.outer) (h2 : X.env.frame = some X.env.locals) (hN : X.N.Nodup) (tk : Takes X Wout) (le : LetsS F X.K w Wout)
    (hb : ∀ (B' I' : Hp) (W' : WX) (pn : List (Addr × Obj)) (xe : Value → Shared → Prop) (u : WD), Takes (X.tr pn xe) W' → LetsS ⟨F.W, B', I'⟩ X.K u W' → DSts ⟨F.W, B', I'⟩ (X.tr pn xe) body (tb u)) (hh : HdsD F X (h₀ :: hs) l) :
    DSt F X (.Try body (h₀ :: hs) [] [] pos) (fun Z ρ => ∃ (u : WD) (Z' : DEnds), DEnds.le Z' Z ∧ (∀ ρ' x, u ρ' x → handD X.K w Z' l ρ' x) ∧ tb u Z' ρ) := by
  refine ⟨fun Z Z' ρ lz ⟨u, Z1, l1, h, q⟩ => ⟨u, Z1, l1.trans lz, h, q⟩, ⟨fun pins s σ H D J ⟨I, ρ, A, u, Z, lz, h, q⟩ => ?_⟩⟩
  refine (ps_tryS (tb := fun W' D' σ' H' => W' = wTry X.K Wout D (clsR F X.K l) ∧ D' = D ∧ σ' = σ ∧ H' = H) h1 h2 hN tk (fun W' pn xe tk' => ⟨fun pins' s' σ' H' D' J' ⟨eW, eD, es, eH⟩ => ?_⟩) (hds_ok hh)).run pins s σ H D J ⟨rfl, rfl, rfl, rfl⟩
  subst eW eD es eH
  have S := hb (baseOf F H') I _ pn xe u tk' fun I2 ρ2 σ2 H2 A2 x hx cls d I3 H3 s3 er => ?_
  · refine S.run.run pins' s' σ' H' D' J' ⟨I, ρ, A.rebase, S.mono _ _ _ (lz.trans (ends.rebase A)) q⟩
  · have A3 := A.back (A2.step s3)
    have same : Same I I3 := Same.trans A2.stp.i s3.i
    exact hand_run hh le A3 (lz.trans (ends.le same)) er (h _ _ hx)
end
end Dk
namespace Dk
open PySem L2 PySem.Spec
section
variable {X : Cx} {a C D : Addr} {oe : Obj} {cls : Value} {d : Option Addr} {pn : List (Addr × Obj)} {F : Fx} {B' : Hp} {e : Expr} {te : DT} {x : Ex} {f : Str} {pos p q1 q2 : Pos}
theorem ex_at {K : PySem.W.Frag} {I0 I H : Hp} {W : Wd} (er : ExRep K I0 B' cls d x) (s : Same I0 I) (st : StI W I H) : ∀ y, d = some y → ∃ fs, H y = some (.xd fs) := fun y e => by
  rcases er.2 with ⟨_, h⟩ | ⟨dd, fs, h, hi, _⟩
  · rw [h] at e
    cases e
  · rw [h] at e
    cases e
    exact ⟨fs, st.sub _ _ (s _ _ hi)⟩
/-- e.f -/
theorem de_xf (hz : Zc cls d oe) (hf : ∃ vs, oe.data = .fields vs) (er : ExRep X.K F.I0 B' cls d x) (he : DE F (X.suite a ((a, oe) :: pn)) e te) (hb : attributeBase e f X.env (eval e X.env) = eval e X.env := by rfl) :
    DE F (X.suite a ((a, oe) :: pn)) (.Attribute e f pos) (fun ρ Q => ∃ C, x.cls = .ref C ∧ XfC X.K C ∧ PySem.W.findIn X.K (.ref C) f = some none ∧ te ρ fun z => z = .opq a ∧ ∃ y, x.flds.lookup f = some y ∧ Q y) := by
  refine ⟨fun ρ Q Q' k ⟨C, e1, t, n, h⟩ => ⟨C, e1, t, n, he.mono _ _ _ (fun z ⟨ez, y, l, q⟩ => ⟨ez, y, l, k _ q⟩) h⟩, ⟨fun pins s σ H Q J ⟨I, ρ, A, C, e1, t, n, h⟩ => ?_⟩⟩
  refine (pe_xf t n hz hf he.run hb).run pins s σ H Q J (rdE_next he.mono A h fun z v I1 H1 q1 s1 rv => ?_)
  obtain ⟨rfl, y, l, q1⟩ := q1
  cases rv
  rcases er.2 with ⟨h0, _⟩ | ⟨dd, fs, h0, hi, kk, r⟩
  · rw [h0] at l
    cases l
  have same := Same.trans A.stp.i s1.i
  obtain ⟨w, l1, rw1⟩ := lookup_rep kk (r.mono same) l
  exact ⟨rfl, er.1.trans e1, dd, fs, w, h0, s1.st.sub _ _ (same _ _ hi), l1, q1 _ _ _ s1 rw1⟩
/-- what its class says, so that isinstance is answered -/
structure XiC (K : PySem.W.Frag) (D : Addr) : Prop where
  hd : PySem.W.hasDictIn K D = true
  hg : PySem.W.findIn K (.ref D) "__getattribute__" = some (some (.builtin "BaseException.__getattribute__"))
  hk : PySem.W.findIn K (.ref D) "__getattr__" = some none
  hs : PySem.W.subIn K (.ref D) (.type "BaseException") = some true
  ha : PySem.W.findIn K (.ref D) "__class__" = some (some (.builtin "object.__class__"))
  hn : PySem.W.specialIn K (.builtin "object.__class__") "__get__" = some (some (.builtin "getset_descriptor.__get__"))
  ht : PySem.W.takesIn K (.builtin "object.__class__") = some true
  hm : PySem.W.mroIn K D (.type "object") = some true
theorem XiC.xf {K : PySem.W.Frag} {D : Addr} (T : XiC K D) : XfC K D := ⟨T.hg, T.hk, T.hs, T.hd⟩
/-- isinstance of it -/
def rIsX (K : PySem.W.Frag) (D a : Addr) (d : Option Addr) : List V → Hp → VK → Prop := fun xs H Q => ∃ (c : V) (cv : Value) (b : Bool), xs = [.ref a, c] ∧ ClsV c cv ∧ PySem.W.kitOne K (.ref D) cv = some b ∧ (∀ y, d = some y → ∃ fs, H y = some (.xd fs)) ∧ Q (.bl b) H
def rIsXT (K : PySem.W.Frag) (D a : Addr) (d : Option Addr) : List V → Hp → VK → Prop := fun xs H Q => ∃ (tp : Addr) (cs : List V) (us : List Value) (b : Bool), xs = [.ref a, .ref tp] ∧ H tp = some (.tup cs) ∧ Paired ClsV cs us ∧ PySem.W.kitAny K (.ref D) us = some b ∧ (∀ y, d = some y → ∃ fs, H y = some (.xd fs)) ∧ Q (.bl b) H
theorem x_inst {pins : List (Addr × Obj)} {σ : St} {H : Hp} {s : Shared} (hz : Zc (.ref D) d oe) (hf : ∃ vs, oe.data = .fields vs) (J : Inv (X.suite a ((a, oe) :: pn)) pins σ H s) (hd : ∀ y, d = some y → ∃ fs, H y = some (.xd fs)) : ∃ od, PySem.W.InstAt s.heap a oe D od := by
  obtain ⟨ha, _⟩ := J.pin (a, oe) (List.mem_append.mpr (.inl List.mem_cons_self))
  obtain ⟨vs, hv⟩ := hf
  have nc : PySem.W.notCls oe = true := by unfold PySem.W.notCls; rw [hv] <;> rfl
  cases hdd : d with
  | none => exact ⟨none, ha, hz.1, nc, by rw [hz.2, hdd]; trivial⟩
  | some y =>
    obtain ⟨fs, hy⟩ := hd y hdd
    obtain ⟨mA, hns, _⟩ := (show ObjOk X.prog X.w H s.heap y (.xd fs) from J.hok y _ hy)
    obtain ⟨od, ho, _⟩ := lookIn_ns hns
    exact ⟨some od, ha, hz.1, nc, by rw [hz.2, hdd]; exact ho⟩
theorem x_kit {K : PySem.W.Frag} (T : XiC K D) (od : Option Obj) : PySem.W.KitX K (.ref a) (.ref D) (fun h => PySem.W.InstAt h a oe D od) := by
  obtain ⟨cd, hc, _⟩ := PySem.W.any_some T.hd
  exact PySem.W.kitx_exc (by rw [hc]; rfl) T.hg T.hk T.hs T.ha T.hn T.ht T.hm
theorem call_isX (T : XiC X.K D) (hz : Zc (.ref D) d oe) (hf : ∃ vs, oe.data = .fields vs) : CallR (X.suite a ((a, oe) :: pn)) (.builtin "isinstance") (rIsX X.K D a d) := by
  rintro pins s σ H xs us Q J r ⟨c, cv, b, rfl, k, e, hd, q⟩
  obtain ⟨u1, u2, rfl, r1, r2⟩ := vals2 r
  cases (show u1 = Value.ref a from r1)
  cases k.eq r2
  obtain ⟨od, i⟩ := x_inst hz hf J hd
  exact PySem.W.kia_one (x_kit T od) J.kIn i e (fun z => nomatch z) fun tk => ⟨.bl b, H, J.tok tk, rfl, q⟩
theorem call_isXT (T : XiC X.K D) (hz : Zc (.ref D) d oe) (hf : ∃ vs, oe.data = .fields vs) : CallR (X.suite a ((a, oe) :: pn)) (.builtin "isinstance") (rIsXT X.K D a d) := by
  rintro pins s σ H xs us Q J r ⟨tp, cs, ws, b, rfl, hT, k, e, hd, q⟩
  obtain ⟨u1, u2, rfl, r1, r2⟩ := vals2 r
  cases (show u1 = Value.ref a from r1)
  cases (show u2 = Value.ref tp from r2)
  obtain ⟨od, i⟩ := x_inst hz hf J hd
  obtain ⟨_, its, rv, o, h1, h2, n, h3⟩ := (show ObjOk X.prog X.w H s.heap tp (.tup cs) from J.hok tp _ hT)
  cases ClsV.all k rv
  obtain ⟨oc, od', dt, sl⟩ := o
  simp only at h2 h3
  subst h2 h3
  exact PySem.W.kia_tup (x_kit T od) J.kIn i h1 e (fun z => nomatch z) fun tk => ⟨.bl b, H, J.tok tk, rfl, q⟩
/-- names of classes -/
theorem cn_b {X : Cx} {y : Str} {n : String} {pos : Pos} (hm : X.mg y = none) (hv : bootBuiltins y = some (.type n) := by decide +kernel) (hg : Gl X y := by rfl) (hn : y ≠ "__name__" := by decide) (hd : (y == ("__debug__" : Str)) = false := by decide) : PE X (.Name y pos) (tC (.ty n)) := pe_bltn hg hm hv rfl hn hd
theorem cn_o {X : Cx} {y : Str} {C : Addr} {pos : Pos} (hm : X.mg y = some (.ref C)) (hg : Gl X y := by rfl) (hd : (y == ("__debug__" : Str)) = false := by decide) : PE X (.Name y pos) (tC (.ref C)) := pe_glob hg hm rfl hd
structure PCl (X : Cx) (es : List Expr) (us : List Value) : Prop where
  ex : ∃ cs, Paired ClsV cs us ∧ cs.length = us.length ∧ PA X es (fun _ H Q => Q cs H)
theorem pcl_nil {X : Cx} : PCl X [] [] := ⟨[], .nil, rfl, pa_nil.imp fun σ H Q q => q⟩
theorem pcl_cons {X : Cx} {c : V} {u : Value} {us : List Value} {e : Expr} {es : List Expr} (he : PE X e (tC c)) (k : ClsV c u) (h : PCl X es us) (hs : starEach (e :: es) X.env = (false, eval e X.env) :: starEach es X.env := by rfl) : PCl X (e :: es) (u :: us) := by
  obtain ⟨cs, h1, h2, h3⟩ := h.ex
  exact ⟨c :: cs, .cons k h1, by simp [h2], (pa_cons he h3 hs).imp fun σ H Q q => q⟩
/-- isinstance(e, C) -/
theorem de_isX {c : V} {u : Value} {ce : Expr} (hz : Zc cls d oe) (hf : ∃ vs, oe.data = .fields vs) (er : ExRep X.K F.I0 B' cls d x) (hm : X.mg "isinstance" = none) (he : DE F (X.suite a ((a, oe) :: pn)) e te) (hc : PE (X.suite a ((a, oe) :: pn)) ce (tC c)) (k : ClsV c u) (hg : Gl X "isinstance" := by rfl)
    (h1 : starEach [e, ce] X.env = (false, eval e X.env) :: starEach [ce] X.env := by rfl) (h2 : starEach [ce] X.env = (false, eval ce X.env) :: starEach [] X.env := by rfl) (hpl : (backTo pos (starEach [ce] X.env)).any (·.1) = false := by rfl) :
    DE F (X.suite a ((a, oe) :: pn)) (.Call (.Name "isinstance" q1) [e, ce] [] pos) (fun ρ Q => ∃ D b, x.cls = .ref D ∧ XiC X.K D ∧ PySem.W.kitOne X.K (.ref D) u = some b ∧ te ρ fun z => z = .opq a ∧ Q (.bl b)) := by
  refine ⟨fun ρ Q Q' k ⟨D, b, e1, t, ki, h⟩ => ⟨D, b, e1, t, ki, he.mono _ _ _ (fun z ⟨ez, q⟩ => ⟨ez, k _ q⟩) h⟩, ⟨fun pins s σ H Q J ⟨I, ρ, A, D, b, e1, t, ki, h⟩ => ?_⟩⟩
  have hz' : Zc (.ref D) d oe := by rw [← e1, ← er.1]; exact hz
  refine (pe_callB (X := X.suite a ((a, oe) :: pn)) (call_isX t hz' hf) hg hm (by decide +kernel) (pa_cons he.run (pa_cons hc pa_nil h2) h1) (by decide) (by decide) h1 hpl).run pins s σ H Q J ?_
  refine rdE_next he.mono A h fun z v I1 H1 q1 s1 rv => ?_
  obtain ⟨rfl, q1⟩ := q1
  cases rv
  exact ⟨c, u, b, rfl, k, ki, ex_at er (Same.trans A.stp.i s1.i) s1.st, q1 _ _ _ s1 (.bl b)⟩
theorem de_isXT {us : List Value} {ces : List Expr} {kt : Nat} {pt : Pos} (hz : Zc cls d oe) (hf : ∃ vs, oe.data = .fields vs) (er : ExRep X.K F.I0 B' cls d x) (hm : X.mg "isinstance" = none) (he : DE F (X.suite a ((a, oe) :: pn)) e te) (hc : PCl (X.suite a ((a, oe) :: pn)) ces us) (hl : us.length ≤ 100 := by simp) (hg : Gl X "isinstance" := by rfl)
    (h1 : starEach [e, .Tuple ces kt pt] X.env = (false, eval e X.env) :: starEach [.Tuple ces kt pt] X.env := by rfl) (h2 : starEach [Expr.Tuple ces kt pt] X.env = (false, eval (.Tuple ces kt pt) X.env) :: starEach [] X.env := by rfl) (hpl : (backTo pos (starEach [Expr.Tuple ces kt pt] X.env)).any (·.1) = false := by rfl) :
    DE F (X.suite a ((a, oe) :: pn)) (.Call (.Name "isinstance" q1) [e, .Tuple ces kt pt] [] pos) (fun ρ Q => ∃ D b, x.cls = .ref D ∧ XiC X.K D ∧ PySem.W.kitAny X.K (.ref D) us = some b ∧ te ρ fun z => z = .opq a ∧ Q (.bl b)) := by
  obtain ⟨cs, c1, c2, c3⟩ := hc.ex
  refine ⟨fun ρ Q Q' k ⟨D, b, e1, t, ki, h⟩ => ⟨D, b, e1, t, ki, he.mono _ _ _ (fun z ⟨ez, q⟩ => ⟨ez, k _ q⟩) h⟩, ⟨fun pins s σ H Q J ⟨I, ρ, A, D, b, e1, t, ki, h⟩ => ?_⟩⟩
  have hz' : Zc (.ref D) d oe := by rw [← e1, ← er.1]; exact hz
  refine (pe_callB (X := X.suite a ((a, oe) :: pn)) (call_isXT t hz' hf) hg hm (by decide +kernel) (pa_cons he.run (pa_cons (pe_tup c3) pa_nil h2) h1) (by decide) (by decide) h1 hpl).run pins s σ H Q J ?_
  refine rdE_next he.mono A h fun z v I1 H1 q1 s1 rv => ?_
  obtain ⟨rfl, q1⟩ := q1
  cases rv
  refine ⟨by rw [c2, sizeLine_eq]; omega, fun tp hp => ?_⟩
  have l := s1.st.laid hp (.tup cs)
  exact ⟨tp, cs, us, b, rfl, upd_same, c1, ki, ex_at er (Same.trans (Same.trans A.stp.i s1.i) l.i) l.st, q1 _ _ _ (s1.trans l) (.bl b)⟩
end
end Dk
namespace Dk
open PySem L2 PySem.Spec
open PyProof.Rows (envOfC)
theorem takes_def {P : Program} {w : World} {K : PySem.W.Frag} {mg : Str → Option Value} {base : Heap} {N : List Str} {qual : Str} {scope : Scope} {f : Addr} {cd : Value} {A : Around} {outer : List Env} {s : Shared} {H : Hp} {E : XK} :
    Takes (cxOf (L2.CX P w) P w K mg base N qual scope f cd A outer s H E) (fun cls d _ H' => E cls d H') := takes_of rfl rfl rfl rfl
theorem letsS_none {F : Fx} {K : PySem.W.Frag} {W : WX} : LetsS F K (fun _ _ => False) W := fun _ _ _ _ _ _ h => h.elim
/-- an own class of exceptions whose __init__ stores one field -/
structure CalE (P : Program) (w : World) (K : PySem.W.Frag) (mg : Str → Option Value) (base : Heap) (k : Nat) (x : Str) (C : Addr) (f : Str) : Prop where
  ex : ∃ nB newId iB initId tl fI fd ps, XB nB newId iB initId tl ∧ OxC K newId tl C ∧ PySem.W.findIn K (.ref C) "__init__" = some (some (.ref fI)) ∧ PySem.W.typeIn K (.ref fI) = some (.type "function") ∧ GnOk P w K mg base CX0 k fI fd ps (spX C f) ∧ Binds K fd ps [] ∧ mg x = some (.ref C)
/-- .. without an __init__ of its own, made with a text -/
structure CalN (K : PySem.W.Frag) (mg : Str → Option Value) (x : Str) (C : Addr) : Prop where
  ex : ∃ B newId initId bmB, ExcBaseFacts B newId initId bmB ∧ PySem.W.excIn K C bmB newId = true ∧ mg x = some (.ref C) ∧ PySem.W.keepIn K (.ref C) = true ∧ PySem.W.subIn K (.ref C) (.type "BaseException") = some true ∧ PySem.W.typeIn K (.ref C) = some (.type "type")
section
variable {F : Fx} {X : Cx} {e : Expr} {te : DT} {k : Nat} {x f y : Str} {C : Addr} {p p2 pos : Pos} {j : Nat}
theorem dmk_e (c : CalE X.prog X.w X.K X.mg X.base k x C f) (hr : Rm (k + 1) X.A) (he : DE F X e te) (hg : Gl X x := by rfl) (hdb : (x == ("__debug__" : Str)) = false := by decide) (hs : starEach [e] X.env = (false, eval e X.env) :: starEach [] X.env := by rfl) :
    DMk F X (.Call (.Name x p) [e] [] pos) (fun ρ Q => te ρ fun d => Q ⟨.ref C, [(f, d)]⟩) := by
  obtain ⟨nB, newId, iB, initId, tl, fI, fd, ps, B, T, iC, tI, G, hb, hm⟩ := c.ex
  exact dmk_x B T iC tI G hr hb pass0 hm he hg hdb hs
theorem dmk_n (c : CalN X.K X.mg x C) (hg : Gl X x := by rfl) (hdb : (x == ("__debug__" : Str)) = false := by decide) : DMk F X (.Call (.Name x p) [.Constant (.str y) j p2] [] pos) (fun _ Q => Q ⟨.ref C, []⟩) := by
  obtain ⟨B, newId, initId, bmB, G, q, hm, kC, sb, ty⟩ := c.ex
  exact dmk_own G q hm kC (raises_own sb ty) hg hdb
end
theorem hh_VE : PySem.W.handedIn (.builtin "ValueError.__init__") = true := by decide +kernel
section
variable {P : Program} {w : World} {K : PySem.W.Frag} {mg : Str → Option Value} {base : Heap} {k : Nat}
/-- __init__(self, p): B.__init__(self, 'm'); self.f = p -/
theorem run_xinit {X : Cx} {a C : Addr} {f b p y : Str} {v : V} {H : Hp} {Q : VK} {nB newId iB initId : String} {tl : List Value} {p1 p2 p3 p4 p5 p6 p7 p8 p9 p0 : Pos} {j : Nat} (B : XB nB newId iB initId tl) (T : OxC X.K newId tl C) (hno : PySem.W.findIn X.K (.ref C) f = some none)
    (hcall : ∀ ta, PA X [.Name "self" p3, .Constant (.str y) j p4] ta → PE X (.Call (.Attribute (.Name b p1) "__init__" p2) [.Name "self" p3, .Constant (.str y) j p4] [] p5) (tXi X.K newId tl ta)) (hN : X.N = [Str.ofString "self", p])
    (hv0 : Vis X.env.scope "self") (hv1 : Vis X.env.scope p) (h1 : (p == ("__debug__" : Str)) = false) (h2 : (p == ("__classdict__" : Str)) = false)
    (sw1 : swapsWith (.Call (.Attribute (.Name b p1) "__init__" p2) [.Name "self" p3, .Constant (.str y) j p4] [] p5) none p6.line X.env = pure false)
    (sw2 : swapsWith (.Name p p9) (some (.Attribute (.Name "self" p7) f p8)) p0.line X.env = pure false)
    (hs : starEach [.Name "self" p3, .Constant (.str y) j p4] X.env = (false, eval (.Name "self" p3) X.env) :: starEach [.Constant (.str y) j p4] X.env)
    (hs2 : starEach [.Constant (.str y) j p4] X.env = (false, eval (.Constant (.str y) j p4) X.env) :: starEach [] X.env)
    (ha : H a = some (exo a C none)) (q : ∀ d, H d = none → d ≠ a → Q .non (upd (upd H d (exd d [(f, v)])) a (exo a C (some d)))) :
    ∃ t, PSs X [.Expr (.Call (.Attribute (.Name b p1) "__init__" p2) [.Name "self" p3, .Constant (.str y) j p4] [] p5) p6, .Assign [.Attribute (.Name "self" p7) f p8] (.Name p p9) p0] t ∧
      t { nx := fun _ H' => Q .non H', rt := Q } (L2.start [Str.ofString "self", p] [.ref a, v]) H := by
  have s0 : X.N[0]? = some (Str.ofString "self") := by rw [hN]; rfl
  have s1 : X.N[1]? = some p := by rw [hN]; rfl
  refine ⟨_, pss_cons (ps_expr (hcall _ (pa_cons (pv 0 s0 hv0 (by decide) (by decide)) (pa_cons pe_str pa_nil hs2) hs)) sw1) (pss_one (ps_xs B (pv 0 s0 hv0 (by decide) (by decide)) (pv 1 s1 hv1 h1 h2) sw2)), ?_⟩
  refine ⟨_, rfl, ⟨a, C, _, rfl, by simp, T, ha, ?_⟩⟩
  exact ⟨_, rfl, _, rfl, a, C, rfl, T, hno, ha, q⟩
end
end Dk
namespace Dk
open PySem L2 PySem.Spec
section
variable {F : Fx} {X : Cx} {K : PySem.W.Frag} {I H I' H' I2 H2 : Hp} {ρ : DEnv} {σ : St} {e i k v o : Expr} {te ti tk tv to : DT} {x : Str} {p1 pos pos' : Pos} {W : Wd}
theorem de_dict0 : DE F X (.Dict [] [] pos) (fun _ Q => Q (.dic [])) :=
  ⟨fun ρ Q Q' k q => k _ q, pe_dnewK.imp fun σ H Q ⟨I, ρ, A, q⟩ p hp => q _ _ _ (A.st.laid hp _) (.dic upd_same rfl .nil)⟩
end
structure CalMK (P : Program) (w : World) (K : PySem.W.Frag) (mg : Str → Option Value) (base : Heap) (CX : CXT) (W : Wd) (k : Nat) (C : Addr) (m : Str) (ps ks : List Str) (g : {α : Type} → List α → List α → List α) (S : DSp) : Prop where
  ex : ∃ f fd, Cls K C ∧ Meth K C m f ∧ GnOk P w K mg base CX k f fd ps (spD W K S) ∧ KBn K fd ps 1 ks (fun us ws => g us ws) (fun vs zs => g vs zs)
  rel : ∀ {K : PySem.W.Frag} {I : Hp} {us vs : List V} {ds es : List D}, Reps K I us ds → Reps K I vs es → Reps K I (g us vs) (g ds es)
section
variable {F : Fx} {X : Cx} {k : Nat} {C : Addr} {S : DSp} {ps : List Str} {e : Expr} {te : DT} {t : DAT} {p pos : Pos}
theorem cr_reprO (c : CalM X.prog X.w X.K X.mg X.base CX0 F.W k C "__repr__" ps S) (hr : Rm (k + 1) X.A) (hu : X.A.units + 64 < cLine) : CallR X (.builtin "repr") (ROwn F.W X.K C S tStr) := by
  intro pins s σ H xs us Q J r h
  obtain ⟨ad, dx, fs, rfl, hi, h⟩ := h
  obtain ⟨u, rfl, ru⟩ := vals1 r
  cases ru
  obtain ⟨ox, od, I⟩ := J.inst hi
  obtain ⟨m, fr⟩ := J.fr
  obtain ⟨f, h1, h2, h3⟩ := own_run c hr.in1 rfl J h
  refine PySem.W.repr_K (by show X.A.units + 1 < cLine; omega) fr J.ok.mod.kin I h1 h2 (wpAny_mono h3 (fun u s' z => ?_) fun _ _ e => e)
  obtain ⟨v, H', J', rv, x, rfl, q⟩ := z
  obtain ⟨tk, rfl⟩ := rv
  exact ⟨.str x, H', J', ⟨_, rfl⟩, q⟩
theorem de_reprO (c : CalM X.prog X.w X.K X.mg X.base CX0 F.W k C "__repr__" ps S) (hr : Rm (k + 1) X.A) (hu : X.A.units + 64 < cLine) (hm : X.mg "repr" = none) (ha : DA F X [e] t) (hg : Gl X "repr" := by rfl) (he : starEach [e] X.env = (false, eval e X.env) :: starEach [] X.env := by rfl) : DE F X (.Call (.Name "repr" p) [e] [] pos) (fun ρ Q => t ρ fun ds => rOwn C S tStrD ds Q) :=
  de_callB (id := "repr") (mono_rOwn tStrD.mono) (lift_rOwn (T := tStr) (fun v d I H Q st r h => tStr.lift st r h) tStrD.mono) (cr_reprO c hr hu) hm (by decide +kernel) ha hg (by decide) (by decide) he rfl
/-- {x!r} of a tuple or a list -/
def fmtRD (d : D) (Q : D → Prop) : Prop := plainD d = true ∧ scalD d = false ∧ (toPy d).showable = true ∧ (toPy d).depth ≤ 50 ∧ (shw d).length ≤ sizeLine ∧ Q (.str (shw d))
theorem de_fmtR (hg : X.A.guards = some []) (hu : X.A.units + 64 < cLine) (he : DE F X e te) : DE F X (.FormattedValue e 114 none pos) (fun ρ Q => te ρ fun d => fmtRD d Q) := by
  have m : ∀ d (Q Q' : D → Prop), (∀ d, Q d → Q' d) → fmtRD d Q → fmtRD d Q' := fun d Q Q' k ⟨a, b, c, d', e, q⟩ => ⟨a, b, c, d', e, k _ q⟩
  refine ⟨fun ρ Q Q' k h => he.mono _ _ _ (fun d => m _ _ _ k) h, (show PE X _ (fun σ H Q => rdE F X.K te σ H fun x H1 => ∃ a d, x = .ref a ∧ Dp X.K H1 x d ∧ d.showable = true ∧ d.hasDict = false ∧ d.depth ≤ 50 ∧ d.shown.length ≤ sizeLine ∧ Q (.str d.shown) H1) from ⟨fun pins s σ H Q J h => ?_⟩).imp fun σ H Q ⟨I, ρ, A, q⟩ => rdE_next he.mono A q fun d v I1 H1 q1 s rv => ?_⟩
  · refine wpAny_FormattedValue_repr (thn (he.run.run pins s σ H _ J h) fun u s1 ⟨x, H1, J1, r1, a, d, ex, dp, hs, hd, hde, hl, q⟩ => ?_)
    subst ex
    cases (show u = Value.ref a from r1)
    obtain ⟨as, rd⟩ := Dp.reads J1 _ _ _ dp rfl
    refine PySem.pyReprObj_of_reads rd hs (PyData.noDict_hsm hd) hg (by omega) (fun b o e => e) (fun h' u tk hk => ?_) hl
    have J2 : Inv X pins σ H1 { s1 with heap := h', toks := tk } := J1.kept hk
    exact wpAny_formatField_str ⟨.str _, H1, J2, ⟨_, rfl⟩, q⟩ ⟨.str _, H1, J2.tok _, ⟨_, rfl⟩, q⟩ hl
  · obtain ⟨pl, sc, sh, dp, l, q⟩ := q1
    cases rv with
    | tup a r => exact ⟨_, _, rfl, (Rep.tup a r).dp s.st.sub pl, sh, noDict pl, dp, l, q _ _ _ s (.str _)⟩
    | lst a r => exact ⟨_, _, rfl, (Rep.lst a r).dp s.st.sub pl, sh, noDict pl, dp, l, q _ _ _ s (.str _)⟩
    | non => cases sc
    | bl b => cases sc
    | int b => cases sc
    | str b => cases sc
    | dic _ _ _ => cases pl
    | obj _ _ _ => cases pl
    | opq _ => cases pl
    | dfz _ _ _ => cases pl
    | ptp _ _ _ => cases pl
end
end Dk
namespace KB
open PySem L2 Dk
def tl (x : Str) : List Nat := x.cps.toList
theorem S_eq (x : Str) : SX.S (tl x) = x := SX.S_tl x
theorem map_S (ys : List Str) : (ys.map tl).map SX.S = ys := by
  rw [List.map_map]
  conv => rhs; rw [← List.map_id ys]
  exact List.map_congr_left fun y _ => S_eq y
def btext (b : Bough) : Str := Txt.join " " (b.1 :: b.2)
def ktext (k : Kind) : Str := k.1 ++ " = " ++ Txt.join " | " (k.2.map btext)
def bookText (ks : List Kind) : Str := Txt.join "\n" (ks.map ktext)
/-- letters alone -/
def clean (x : Str) : Prop := x.length ≤ 8 ∧ ∀ c ∈ tl x, 97 ≤ c ∧ c ≤ 122
theorem clean_name {x : Str} (h : nameOk x = true) : clean x := ⟨(nameOk_split h).2.1, (nameOk_split h).2.2.2⟩
theorem clean_num : clean numS := by unfold clean; exact ⟨by decide +kernel, by decide +kernel⟩
theorem Good.cleanF {ks : List Kind} (g : Good ks) {k : Kind} (hk : k ∈ ks) {b : Bough} (hb : b ∈ k.2) : ∀ f ∈ b.1 :: b.2, clean f := fun f hf => by
  rcases List.mem_cons.mp hf with rfl | hf
  · exact clean_name (g.bn k hk b hb)
  · rcases g.fl k hk b hb f hf with rfl | h
    · exact clean_num
    · obtain ⟨k', h1, rfl⟩ := List.mem_map.mp h
      exact clean_name (g.kn k' h1)
/-- which signs stand in a joined text -/
theorem mem_join {y : Str} {c : Nat} : ∀ {parts : List Str}, c ∈ tl (Txt.join y parts) → c ∈ tl y ∨ ∃ p ∈ parts, c ∈ tl p := by
  intro parts h
  have e : tl (Txt.join y parts) = TL.joinL (tl y) (parts.map tl) := by
    have : Txt.join y parts = SX.S (TL.joinL (tl y) (parts.map tl)) := by rw [← SX.join_S, S_eq, map_S]
    rw [this]
    simp [SX.S, tl]
  rw [e] at h
  clear e
  induction parts with
  | nil => simp [TL.joinL] at h
  | cons p r ih =>
    cases r with
    | nil => exact .inr ⟨p, by simp, h⟩
    | cons q r =>
      have h : c ∈ tl p ++ (tl y ++ TL.joinL (tl y) ((q :: r).map tl)) := h
      rcases List.mem_append.mp h with h | h
      · exact .inr ⟨p, by simp, h⟩
      · rcases List.mem_append.mp h with h | h
        · exact .inl h
        · rcases ih h with h | ⟨z, hz, h⟩
          · exact .inl h
          · exact .inr ⟨z, List.mem_cons_of_mem _ hz, h⟩
theorem len_join {y : Str} {m : Nat} : ∀ {parts : List Str}, (∀ p ∈ parts, p.length ≤ m) → (Txt.join y parts).length ≤ parts.length * (m + y.length) := by
  intro parts h
  have e : (Txt.join y parts).length = (TL.joinL (tl y) (parts.map tl)).length := by
    have : Txt.join y parts = SX.S (TL.joinL (tl y) (parts.map tl)) := by rw [← SX.join_S, S_eq, map_S]
    rw [this, SX.S_len]
  rw [e]
  clear e
  induction parts with
  | nil => simp [TL.joinL]
  | cons p r ih =>
    have hp := h p (by simp)
    have ep : (tl p).length = p.length := by simp [tl, Str.length]
    have ey : (tl y).length = y.length := by simp [tl, Str.length]
    cases r with
    | nil =>
      show (tl p).length ≤ _
      rw [List.length_singleton]
      omega
    | cons q r =>
      have h2 := ih fun z hz => h z (List.mem_cons_of_mem _ hz)
      show (tl p ++ (tl y ++ TL.joinL (tl y) ((q :: r).map tl))).length ≤ _
      rw [List.length_append, List.length_append]
      rw [List.length_cons, Nat.succ_mul]
      omega
theorem tl_app (a b : Str) : tl (a ++ b) = tl a ++ tl b := by
  show (a.cps ++ b.cps).toList = _
  simp [tl]
theorem btext_signs {ks : List Kind} (g : Good ks) {k : Kind} (hk : k ∈ ks) {b : Bough} (hb : b ∈ k.2) : (∀ c ∈ tl (btext b), c = 32 ∨ (97 ≤ c ∧ c ≤ 122)) ∧ (btext b).length ≤ 81 := by
  refine ⟨fun c hc => ?_, ?_⟩
  · rcases mem_join hc with h | ⟨p, hp, h⟩
    · left
      have e : tl " " = [32] := by decide +kernel
      rw [e] at h
      exact List.mem_singleton.mp h
    · exact .inr ((g.cleanF hk hb p hp).2 c h)
  · have h := len_join (y := " ") (m := 8) (parts := b.1 :: b.2) fun p hp => (g.cleanF hk hb p hp).1
    have h3 := g.s3 k hk b hb
    have e : (" " : Str).length = 1 := rfl
    rw [e, List.length_cons] at h
    show (Txt.join " " (b.1 :: b.2)).length ≤ _
    omega
theorem ktext_rest {ks : List Kind} (g : Good ks) {k : Kind} (hk : k ∈ ks) : (∀ c ∈ tl (Txt.join " | " (k.2.map btext)), c = 32 ∨ c = 124 ∨ (97 ≤ c ∧ c ≤ 122)) ∧ (Txt.join " | " (k.2.map btext)).length ≤ 672 := by
  refine ⟨fun c hc => ?_, ?_⟩
  · rcases mem_join hc with h | ⟨p, hp, h⟩
    · have e : tl " | " = [32, 124, 32] := by decide +kernel
      rw [e] at h
      simp at h
      omega
    · obtain ⟨b, hb, rfl⟩ := List.mem_map.mp hp
      have := (btext_signs g hk hb).1 c h
      omega
  · have h := len_join (y := " | ") (m := 81) (parts := k.2.map btext) fun p hp => by obtain ⟨b, hb, rfl⟩ := List.mem_map.mp hp; exact (btext_signs g hk hb).2
    have h2 := g.s2 k hk
    have e : (" | " : Str).length = 3 := rfl
    rw [e, List.length_map] at h
    omega
theorem ktext_signs {ks : List Kind} (g : Good ks) {k : Kind} (hk : k ∈ ks) : (∀ c ∈ tl (ktext k), c ≠ 10) ∧ (ktext k).length ≤ 683 := by
  have hn := clean_name (g.kn k hk)
  have e : tl " = " = [32, 61, 32] := by decide +kernel
  refine ⟨fun c hc => ?_, ?_⟩
  · unfold ktext at hc
    rw [tl_app, tl_app] at hc
    rcases List.mem_append.mp hc with h | h
    · rcases List.mem_append.mp h with h | h
      · have := hn.2 c h
        omega
      · rw [e] at h
        simp at h
        omega
    · have := (ktext_rest g hk).1 c h
      omega
  · have h1 := (ktext_rest g hk).2
    have el : ∀ x : Str, x.length = (tl x).length := fun x => by simp [tl, Str.length]
    rw [el] at h1 ⊢
    unfold ktext
    rw [tl_app, tl_app, List.length_append, List.length_append, e]
    have := hn.1
    rw [el] at this
    simp
    omega
end KB
namespace KB
open PySem L2 Dk
/-- may be shown, in at most m signs -/
structure Sh (m : Nat) (d : D) : Prop where
  sh : (toPy d).showable = true
  ln : (shw d).length ≤ m
theorem shownAll_map : ∀ ds : List D, PyData.shownAll (toPys ds) = ds.map shw
  | [] => by simp [toPys, PyData.shownAll]
  | d :: ds => by simp [toPys, PyData.shownAll, shownAll_map ds, shw]
theorem showableAll_of : ∀ {ds : List D}, (∀ d ∈ ds, (toPy d).showable = true) → PyData.showableAll (toPys ds) = true
  | [], _ => by simp [toPys, PyData.showableAll]
  | d :: ds, h => by
    simp only [toPys, PyData.showableAll, Bool.and_eq_true]
    exact ⟨h d (by simp), showableAll_of fun x hx => h x (List.mem_cons_of_mem _ hx)⟩
theorem len_app (a b : Str) : (a ++ b).length = a.length + b.length := by
  show (a.cps ++ b.cps).size = _
  exact Array.size_append
theorem Sh.tup {m n : Nat} {ds : List D} (h : ∀ d ∈ ds, Sh m d) (hn : ds.length ≤ n) : Sh (n * (m + 2) + 3) (.tup ds) where
  sh := by
    simp only [toPy, PyData.showable]
    exact showableAll_of fun d hd => (h d hd).sh
  ln := by
    have e : shw (.tup ds) = (PyData.tuple (toPys ds)).shown := by simp [shw, toPy]
    rw [e, PyData.shown_tuple, shownAll_map, len_app, len_app]
    have h1 := len_join (y := ", ") (m := m) (parts := ds.map shw) fun p hp => by
      obtain ⟨d, hd, rfl⟩ := List.mem_map.mp hp
      exact (h d hd).ln
    rw [TL.join_eq, List.length_map] at h1
    have e2 : (", " : Str).length = 2 := rfl
    rw [e2] at h1
    have h2 : ds.length * (m + 2) ≤ n * (m + 2) := Nat.mul_le_mul_right _ hn
    have e1 : ("(" : Str).length = 1 := rfl
    rw [e1]
    have h3 : (((if (toPys ds).length == 1 then ",)" else ")" : String) : Str)).length ≤ 2 := by split <;> decide
    omega
theorem Sh.lst {m n : Nat} {ds : List D} (h : ∀ d ∈ ds, Sh m d) (hn : ds.length ≤ n) : Sh (n * (m + 2) + 3) (.lst ds) where
  sh := by
    simp only [toPy, PyData.showable]
    exact showableAll_of fun d hd => (h d hd).sh
  ln := by
    have e : shw (.lst ds) = (PyData.list (toPys ds)).shown := by simp [shw, toPy]
    rw [e, PyData.shown_list, shownAll_map, len_app, len_app]
    have h1 := len_join (y := ", ") (m := m) (parts := ds.map shw) fun p hp => by
      obtain ⟨d, hd, rfl⟩ := List.mem_map.mp hp
      exact (h d hd).ln
    rw [TL.join_eq, List.length_map] at h1
    have e2 : (", " : Str).length = 2 := rfl
    rw [e2] at h1
    have h2 : ds.length * (m + 2) ≤ n * (m + 2) := Nat.mul_le_mul_right _ hn
    have e1 : ("[" : Str).length = 1 := rfl
    have e3 : ("]" : Str).length = 1 := rfl
    rw [e1, e3]
    omega
theorem Sh.mono {m n : Nat} {d : D} (h : Sh m d) (l : m ≤ n) : Sh n d := ⟨h.sh, Nat.le_trans h.ln l⟩
theorem Sh.name {x : Str} (h : clean x) : Sh 82 (.str x) where
  sh := by simp [toPy, PyData.showable]
  ln := by
    have e : shw (.str x) = reprText x := by simp [shw, toPy, PyData.shown]
    rw [e]
    have := StrLaws.reprText_len x fun c hc => Nat.lt_of_le_of_lt (h.2 c hc).2 (by decide)
    have := h.1
    omega
theorem Good.sh {ks : List Kind} (g : Good ks) : Sh 130557 (kindsD ks) := by
  refine Sh.tup (m := 21757) (n := 6) (fun d hd => ?_) (by rw [List.length_map]; exact g.s1)
  obtain ⟨k, hk, rfl⟩ := List.mem_map.mp hd
  refine Sh.tup (m := 10875) (n := 2) (fun d hd => ?_) (by simp)
  simp only [List.mem_cons, List.not_mem_nil, or_false] at hd
  rcases hd with rfl | rfl
  · exact (Sh.name (clean_name (g.kn k hk))).mono (by decide)
  refine Sh.tup (m := 1357) (n := 8) (fun d hd => ?_) (by rw [List.length_map]; exact g.s2 k hk)
  obtain ⟨b, hb, rfl⟩ := List.mem_map.mp hd
  refine Sh.tup (m := 675) (n := 2) (fun d hd => ?_) (by simp)
  simp only [List.mem_cons, List.not_mem_nil, or_false] at hd
  rcases hd with rfl | rfl
  · exact (Sh.name (clean_name (g.bn k hk b hb))).mono (by decide)
  refine Sh.tup (m := 82) (n := 8) (fun d hd => ?_) (by rw [List.length_map]; exact g.s3 k hk b hb)
  obtain ⟨f, hf, rfl⟩ := List.mem_map.mp hd
  exact Sh.name (g.cleanF hk hb f (List.mem_cons_of_mem _ hf))
end KB
namespace Dk
open PySem L2 PySem.Spec
def scals (kvs : List (Key × D)) : Bool := kvs.all fun kv => scalD kv.2
def pyE0 : D → PyData
  | .dic kvs => .dict (kvs.map fun kv => (toPy (keyD kv.1), toPy kv.2))
  | d => toPy d
def pyE : D → PyData
  | .dic kvs => .dict (kvs.map fun kv => (toPy (keyD kv.1), toPy kv.2))
  | .tup xs => .tuple (xs.map pyE0)
  | d => toPy d
/-- a plain thing, a dict of plain ones, a tuple of such -/
inductive ShE : D → Prop
  | pl {d : D} : plainD d = true → (∀ xs, d ≠ .tup xs) → ShE d
  | dic {kvs : List (Key × D)} : scals kvs = true → ShE (.dic kvs)
  | two {xs : List D} : (∀ x ∈ xs, plainD x = true) → ShE (.tup xs)
  | tup {xs : List D} : (∀ x ∈ xs, scalD x = true ∨ ∃ kvs, x = .dic kvs ∧ scals kvs = true) → ShE (.tup xs)
section
variable {X : Cx} {pins : List (Addr × Obj)} {σ : St} {I H : Hp} {s : Shared}
theorem pyE0_pl {d : D} (h : plainD d = true) : pyE0 d = toPy d := by
  cases d <;> first | rfl | cases h
theorem toPys_map' : ∀ xs : List D, toPys xs = xs.map toPy
  | [] => rfl
  | x :: xs => by simp only [toPys, List.map_cons, toPys_map' xs]
end
end Dk
namespace KB
open PySem L2 Dk
theorem ok_app {a b : Str} (h : PyData.strOk a = true) (h' : PyData.strOk b = true) : PyData.strOk (a ++ b) = true := by
  unfold PyData.strOk at h h' ⊢
  show (a.cps ++ b.cps).all _ = true
  rw [Array.all_append, h, h']
  rfl
theorem ok_lit (s : String) : PyData.strOk (Str.ofString s) = true := by
  unfold PyData.strOk
  rw [Str.ofString_eq_toList]
  rw [List.all_toArray, List.all_eq_true]
  intro c hc
  obtain ⟨x, _, rfl⟩ := List.mem_map.mp hc
  have hv : x.val.toNat < 0xd800 ∨ 0xdfff < x.val.toNat ∧ x.val.toNat < 0x110000 := x.valid
  have e : x.toNat = x.val.toNat := rfl
  simp only [decide_eq_true_eq]
  omega
end KB
namespace Dk
open PySem L2
/-- a method of the text called by its object and by names -/
theorem CalMK.of {P : Program} {w : World} {K : PySem.W.Frag} {mg : Str → Option Value} {base : Heap} {CX : CXT} {W : Wd} {k : Nat} {C : Addr} {x m qual : Str} {st : Stmt} {f : Addr} {fd : FuncData} {ps ks : List Str} {S : DSp} (cl : Cls K C) (me : Meth K C m f) (Fn : Fun K x qual st f fd) (G : GnOk P w K mg base CX k f fd ps (spD W K S))
    (h : ∀ (kV doc pm : Value) (an : Option Addr) (cdv ct : Value) (us ws : List Value), us.length = 1 → ws.length = ks.length → bindArgs (PySem.W.fnOf x qual (defArgs st) (defBody st) (defScope st) .none kV doc pm an cdv ct) ⟨us, ks.zip ws⟩ = pure (ps.zip (us ++ ws))) :
    CalMK P w K mg base CX W k C m ps ks (fun us ws => us ++ ws) S := by
  refine ⟨⟨f, fd, cl, me, G, ⟨fun s us ws _ l1 l2 => ?_, fun a b => a.append b⟩⟩, fun a b => a.append b⟩
  obtain ⟨oc, od, kV, doc, pm, an, cdv, ct, osl, rfl, lk, hcd⟩ := Fn.ex
  exact .of_eq (h kV doc pm an cdv ct us ws l1 l2)
end Dk
namespace KB
open PySem L2 Dk
def small (l : List Nat) : Prop := ∀ c ∈ l, c < 0x110000
theorem ok_small {x : Str} : PyData.strOk x = true ↔ small (tl x) := by
  unfold PyData.strOk small tl
  rw [← Array.all_toList, List.all_eq_true]
  simp only [decide_eq_true_eq]
theorem small_char (x : Char) : x.toNat < 0x110000 := by
  have hv : x.val.toNat < 0xd800 ∨ 0xdfff < x.val.toNat ∧ x.val.toNat < 0x110000 := x.valid
  have e : x.toNat = x.val.toNat := rfl
  omega
theorem small_reprChar {q c : Nat} (hc : c < 0x110000) : small (Builtin.Str.reprChar q c) := by
  have hx : ∀ w, small (List.replicate (w - ((Nat.toDigits 16 c).map Char.toNat).length) 48 ++ (Nat.toDigits 16 c).map Char.toNat) := fun w d hd => by
    rcases List.mem_append.mp hd with h | h
    · rw [(List.mem_replicate.mp h).2]; decide
    · obtain ⟨y, _, rfl⟩ := List.mem_map.mp h
      exact small_char y
  have two : ∀ a b : Nat, a < 0x110000 → b < 0x110000 → small [a, b] := fun a b ha hb d hd => by
    simp only [List.mem_cons, List.not_mem_nil, or_false] at hd
    rcases hd with rfl | rfl <;> assumption
  have cat : ∀ {l m : List Nat}, small l → small m → small (l ++ m) := fun hl hm d hd => (List.mem_append.mp hd).elim (hl d) (hm d)
  unfold Builtin.Str.reprChar
  dsimp only
  split
  · exact two _ _ (by decide) hc
  split
  · exact two _ _ (by decide) (by decide)
  split
  · exact two _ _ (by decide) (by decide)
  split
  · exact two _ _ (by decide) (by decide)
  split
  · intro d hd
    have : d = c := by simpa using hd
    omega
  split
  · exact cat (two _ _ (by decide) (by decide)) (hx 2)
  split
  · exact cat (two _ _ (by decide) (by decide)) (hx 4)
  · exact cat (two _ _ (by decide) (by decide)) (hx 8)
theorem small_fold {q : Nat} : ∀ (l : List Nat) (acc : Array Nat), small l → small acc.toList → small (l.foldl (fun out c => out ++ (Builtin.Str.reprChar q c).toArray) acc).toList
  | [], acc, _, h => h
  | c :: r, acc, hl, h => by
    rw [List.foldl_cons]
    refine small_fold r _ (fun d hd => hl d (List.mem_cons_of_mem _ hd)) fun d hd => ?_
    rw [Array.toList_append] at hd
    rcases List.mem_append.mp hd with z | z
    · exact h d z
    · exact small_reprChar (hl c (by simp)) d (by simpa using z)
theorem ok_reprText {x : Str} (h : PyData.strOk x = true) : PyData.strOk (reprText x) = true := by
  rw [ok_small] at h ⊢
  have hq : reprQuote x < 0x110000 := by
    unfold reprQuote
    split <;> decide
  unfold reprText tl
  intro c hc
  rw [Array.toList_push] at hc
  rcases List.mem_append.mp hc with z | z
  · rw [← Array.foldl_toList] at z
    exact small_fold _ _ h (fun d hd => by have : d = reprQuote x := by simpa using hd
                                           omega) c z
  · have : c = reprQuote x := by simpa using z
    omega
theorem ok_join {y : Str} (hy : PyData.strOk y = true) : ∀ {parts : List Str}, (∀ p ∈ parts, PyData.strOk p = true) → PyData.strOk (Str.join y parts) = true := by
  intro parts h
  rw [ok_small]
  show small (TL.tl (Str.join y parts))
  rw [TL.tl_join]
  induction parts with
  | nil => intro c hc; cases hc
  | cons p r ih =>
    have hp := ok_small.mp (h p (by simp))
    cases r with
    | nil => exact hp
    | cons q r =>
      have h2 := ih fun z hz => h z (List.mem_cons_of_mem _ hz)
      show small (TL.tl p ++ (TL.tl y ++ TL.joinL (TL.tl y) ((q :: r).map TL.tl)))
      intro c hc
      rcases List.mem_append.mp hc with z | z
      · exact hp c z
      rcases List.mem_append.mp z with z | z
      · exact ok_small.mp hy c z
      · exact h2 c z
/-- may be shown in at most m signs, k deep at most -/
structure Sn (m k : Nat) (p : PyData) : Prop where
  sh : p.showable = true
  ln : p.shown.length ≤ m
  ok : PyData.strOk p.shown = true
  dp : p.depth ≤ k
theorem Sn.mono {m k m' k' : Nat} {p : PyData} (h : Sn m k p) (a : m ≤ m') (b : k ≤ k') : Sn m' k' p := ⟨h.sh, Nat.le_trans h.ln a, h.ok, Nat.le_trans h.dp b⟩
theorem shownAll_eq : ∀ ps : List PyData, PyData.shownAll ps = ps.map PyData.shown
  | [] => by simp only [PyData.shownAll, List.map_nil]
  | p :: ps => by simp only [PyData.shownAll, List.map_cons, shownAll_eq ps]
theorem sn_all {m k : Nat} : ∀ {ps : List PyData}, (∀ p ∈ ps, Sn m k p) → PyData.showableAll ps = true ∧ PyData.depthAll ps ≤ k
  | [], _ => by simp [PyData.showableAll, PyData.depthAll]
  | p :: ps, h => by
    obtain ⟨a, b⟩ := sn_all fun x hx => h x (List.mem_cons_of_mem _ hx)
    have h1 := h p (by simp)
    simp only [PyData.showableAll, PyData.depthAll, h1.sh, a, Bool.and_self, true_and]
    exact Nat.max_le.mpr ⟨h1.dp, b⟩
theorem sn_join {m k n : Nat} {ps : List PyData} (h : ∀ p ∈ ps, Sn m k p) (hn : ps.length ≤ n) : (Str.join ", " (PyData.shownAll ps)).length ≤ n * (m + 2) ∧ PyData.strOk (Str.join ", " (PyData.shownAll ps)) = true := by
  rw [shownAll_eq]
  refine ⟨?_, ok_join (ok_lit ", ") fun p hp => ?_⟩
  · have h1 := len_join (y := ", ") (m := m) (parts := ps.map PyData.shown) fun p hp => by
      obtain ⟨d, hd, rfl⟩ := List.mem_map.mp hp
      exact (h d hd).ln
    rw [TL.join_eq, List.length_map] at h1
    have e2 : (", " : Str).length = 2 := rfl
    rw [e2] at h1
    exact Nat.le_trans h1 (Nat.mul_le_mul_right _ hn)
  · obtain ⟨d, hd, rfl⟩ := List.mem_map.mp hp
    exact (h d hd).ok
theorem Sn.tuple {m k n : Nat} {ps : List PyData} (h : ∀ p ∈ ps, Sn m k p) (hn : ps.length ≤ n) : Sn (n * (m + 2) + 3) (k + 1) (.tuple ps) := by
  obtain ⟨a, b⟩ := sn_all h
  obtain ⟨c, d⟩ := sn_join h hn
  refine ⟨by simp only [PyData.showable]; exact a, ?_, ?_, by simp only [PyData.depth]; omega⟩
  · rw [PyData.shown_tuple, len_app, len_app]
    have e1 : ("(" : Str).length = 1 := rfl
    have h3 : (((if ps.length == 1 then ",)" else ")" : String) : Str)).length ≤ 2 := by split <;> decide
    omega
  · rw [PyData.shown_tuple]
    exact ok_app (ok_app (ok_lit _) d) (ok_lit _)
theorem Sn.list {m k n : Nat} {ps : List PyData} (h : ∀ p ∈ ps, Sn m k p) (hn : ps.length ≤ n) : Sn (n * (m + 2) + 3) (k + 1) (.list ps) := by
  obtain ⟨a, b⟩ := sn_all h
  obtain ⟨c, d⟩ := sn_join h hn
  refine ⟨by simp only [PyData.showable]; exact a, ?_, ?_, by simp only [PyData.depth]; omega⟩
  · rw [PyData.shown_list, len_app, len_app]
    have e1 : ("[" : Str).length = 1 := rfl
    have e3 : ("]" : Str).length = 1 := rfl
    omega
  · rw [PyData.shown_list]
    exact ok_app (ok_app (ok_lit _) d) (ok_lit _)
theorem Sn.str {m : Nat} {x : Str} (hl : x.length ≤ m) (h : PyData.strOk x = true) : Sn (10 * m + 2) 0 (.str x) := by
  refine ⟨by simp [PyData.showable], ?_, ?_, by simp [PyData.depth]⟩
  · have e : (PyData.str x).shown = reprText x := by simp only [PyData.shown]
    rw [e]
    have := StrLaws.reprText_len x fun c hc => Nat.lt_of_lt_of_le (ok_small.mp h c hc) (by decide)
    omega
  · have e : (PyData.str x).shown = reprText x := by simp only [PyData.shown]
    rw [e]
    exact ok_reprText h
theorem strOk_clean {x : Str} (h : clean x) : PyData.strOk x = true := ok_small.mpr fun c hc => Nat.lt_of_le_of_lt (h.2 c hc).2 (by decide)
theorem Sn.name {x : Str} (h : clean x) : Sn 82 0 (.str x) := Sn.str h.1 (strOk_clean h)
/-- a thing that a book may be asked -/
structure Thing (d : D) : Prop where
  kn : known d = true
  sn : Sn 200000 8 (pyE0 d)
  sh : plainD d = true ∨ ∃ kvs, d = .dic kvs ∧ scals kvs = true
  tx : ∀ x, d = .str x → PyData.strOk x = true
theorem Thing.pl {m k : Nat} {d : D} (kn : known d = true) (pl : plainD d = true) (ns : ∀ x, d ≠ .str x) (h : Sn m k (toPy d)) (a : m ≤ 200000 := by decide) (b : k ≤ 8 := by decide) : Thing d := ⟨kn, by rw [pyE0_pl pl]; exact h.mono a b, .inl pl, fun x e => absurd e (ns x)⟩
theorem Thing.str {m : Nat} {x : Str} (hl : x.length ≤ m) (h : PyData.strOk x = true) (a : m ≤ 1000 := by decide) : Thing (.str x) :=
  ⟨rfl, by rw [pyE0_pl rfl, show toPy (.str x) = .str x from by simp [toPy]]; exact (Sn.str hl h).mono (by omega) (by decide), .inl rfl, fun y e => by cases e; exact h⟩
theorem kind_sn {k : Kind} {ks : List Kind} (g : Good ks) (hk : k ∈ ks) : Sn 21757 4 (toPy (kindD k)) := by
  unfold kindD
  simp only [toPy, toPys, toPys_map']
  refine Sn.tuple (m := 10875) (n := 2) (k := 3) (fun d hd => ?_) (by simp)
  simp only [List.mem_cons, List.not_mem_nil, or_false] at hd
  rcases hd with rfl | rfl
  · exact (Sn.name (clean_name (g.kn k hk))).mono (by decide) (by decide)
  refine Sn.tuple (m := 1357) (n := 8) (k := 2) (fun d hd => ?_) (by simp only [List.length_map]; exact g.s2 k hk)
  obtain ⟨x, hx, rfl⟩ := List.mem_map.mp hd
  obtain ⟨b, hb, rfl⟩ := List.mem_map.mp hx
  unfold boughD
  simp only [toPy, toPys, toPys_map']
  refine Sn.tuple (m := 675) (n := 2) (k := 1) (fun d hd => ?_) (by simp)
  simp only [List.mem_cons, List.not_mem_nil, or_false] at hd
  rcases hd with rfl | rfl
  · exact (Sn.name (clean_name (g.bn k hk b hb))).mono (by decide) (by decide)
  refine Sn.tuple (m := 82) (n := 8) (k := 0) (fun d hd => ?_) (by simp only [List.length_map]; exact g.s3 k hk b hb)
  obtain ⟨x, hx, rfl⟩ := List.mem_map.mp hd
  obtain ⟨f, hf, rfl⟩ := List.mem_map.mp hx
  exact Sn.name (g.cleanF hk hb f (List.mem_cons_of_mem _ hf))
theorem kinds_sn {ks : List Kind} (g : Good ks) : Sn 130557 5 (toPy (kindsD ks)) := by
  unfold kindsD
  simp only [toPy, toPys_map']
  refine Sn.tuple (m := 21757) (n := 6) (k := 4) (fun d hd => ?_) (by simp only [List.length_map]; exact g.s1)
  obtain ⟨x, hx, rfl⟩ := List.mem_map.mp hd
  obtain ⟨k, hk, rfl⟩ := List.mem_map.mp hx
  exact kind_sn g hk
/-- ("kind", thing) may be shown -/
theorem Thing.two {d : D} (t : Thing d) {x : Str} (h : clean x) : ShE (.tup [.str x, d]) ∧ Sn 400007 9 (pyE (.tup [.str x, d])) := by
  refine ⟨?_, ?_⟩
  · rcases t.sh with pl | ⟨kvs, rfl, sc⟩
    · refine .two fun y hy => ?_
      simp only [List.mem_cons, List.not_mem_nil, or_false] at hy
      rcases hy with rfl | rfl
      · rfl
      · exact pl
    · refine .tup fun y hy => ?_
      simp only [List.mem_cons, List.not_mem_nil, or_false] at hy
      rcases hy with rfl | rfl
      · exact .inl rfl
      · exact .inr ⟨kvs, rfl, sc⟩
  · unfold pyE
    refine Sn.tuple (m := 200000) (n := 2) (k := 8) (fun p hp => ?_) (by simp)
    simp only [List.map_cons, List.map_nil, List.mem_cons, List.not_mem_nil, or_false] at hp
    rcases hp with rfl | rfl
    · have e : pyE0 (.str x) = .str x := by simp [pyE0, toPy]
      rw [e]
      exact (Sn.name h).mono (by decide) (by decide)
    · exact t.sn
end KB
namespace Dk
open PySem L2 PySem.Spec
mutual
def pyF : D → PyData
  | .dic kvs => .dict (pyFk kvs)
  | .tup xs => .tuple (pyFs xs)
  | .lst xs => .list (pyFs xs)
  | .bl b => .bool b
  | .int i => .int i
  | .str x => .str x
  | .non => .none
  | .obj _ _ => .none
  | .opq _ => .none
  | .ptp _ => .none
  | .dfz _ => .none
def pyFs : List D → List PyData
  | [] => []
  | d :: ds => pyF d :: pyFs ds
def pyFk : List (Key × D) → List (PyData × PyData)
  | [] => []
  | (k, d) :: ds => (toPy (keyD k), pyF d) :: pyFk ds
end
mutual
/-- nothing of an object in it -/
def shF : D → Bool
  | .dic kvs => shFk kvs
  | .tup xs => shFs xs
  | .lst xs => shFs xs
  | .bl _ => true
  | .int _ => true
  | .str _ => true
  | .non => true
  | .obj _ _ => false
  | .opq _ => false
  | .ptp _ => false
  | .dfz _ => false
def shFs : List D → Bool
  | [] => true
  | d :: ds => shF d && shFs ds
def shFk : List (Key × D) → Bool
  | [] => true
  | (_, d) :: ds => shF d && shFk ds
end
section
variable {X : Cx} {pins : List (Addr × Obj)} {σ : St} {I H : Hp} {s : Shared}
/-- what is needed of a thing's text -/
structure Rk (X : Cx) (h : Heap) (u : Value) (p : PyData) : Prop where
  ex : ∃ as bs, Reads h u p as ∧ ReadAtMost h p.depth bs ∧ ReprK X.prog X.w bs h p.depth u p.shown
structure Rks (X : Cx) (h : Heap) (us : List Value) (ps : List PyData) : Prop where
  ex : ∃ as bs, ReadsAll h us ps as ∧ ReadAtMost h (PyData.depthAll ps) bs ∧ ReprAllK X.prog X.w bs h (PyData.depthAll ps) us (PyData.shownAll ps)
theorem Rks.nil {h : Heap} : Rks X h [] [] := ⟨[], [], .nil, fun _ z => (nomatch z), by simp only [PyData.shownAll]; exact .nil⟩
theorem Rks.cons {h : Heap} {u : Value} {us : List Value} {p : PyData} {ps : List PyData} (a : Rk X h u p) (b : Rks X h us ps) : Rks X h (u :: us) (p :: ps) := by
  obtain ⟨as, b1, r1, m1, k1⟩ := a.ex
  obtain ⟨as2, b2, r2, m2, k2⟩ := b.ex
  have le1 : p.depth ≤ PyData.depthAll (p :: ps) := by simp only [PyData.depthAll]; exact Nat.le_max_left _ _
  have le2 : PyData.depthAll ps ≤ PyData.depthAll (p :: ps) := by simp only [PyData.depthAll]; exact Nat.le_max_right _ _
  refine ⟨as ++ as2, b1 ++ b2, .cons r1 r2, (m1.mono le1).append (m2.mono le2), ?_⟩
  simp only [PyData.shownAll]
  exact .cons ((k1.more fun c hc => List.mem_append_left _ hc).level_le le1) (k2.more_le (fun c hc => List.mem_append_right _ hc) le2)
theorem Rk.lst {h : Heap} {a : Addr} {o : Obj} {vs : Array Value} {n : Nat} {ps : List PyData} (ho : h.get? a = some o) (hc : o.cls = .type "list") (hd : o.data = .seq vs n) (k : Rks X h vs.toList ps) : Rk X h (.ref a) (.list ps) := by
  obtain ⟨as, bs, r1, m1, k1⟩ := k.ex
  have r : Reads h (.ref a) (.list ps) _ := .list ho hc hd r1
  have fr : a ∉ bs := not_mem_of_deeper r (by simp only [PyData.depth]; omega) m1
  refine ⟨_, a :: bs, r, ReadAtMost.cons r (by simp only [PyData.depth]; omega) m1, ?_⟩
  simp only [PyData.depth, PyData.shown]
  obtain ⟨l⟩ := vs
  cases l with
  | nil =>
    have r0 : ReadsAll h [] ps _ := r1
    cases r0
    simp only [PyData.shownAll, listText_nil]
    exact ReprK.listEmpty ho hc hd
  | cons x l => exact ReprK.list ho hc hd fr (by simpa using k1.length_eq) (fun i y e => k1.item i y (by simpa using e))
theorem Rk.tup {h : Heap} {a : Addr} {o : Obj} {vs : Array Value} {n : Nat} {ps : List PyData} (ho : h.get? a = some o) (hc : o.cls = .type "tuple") (hd : o.data = .seq vs n) (k : Rks X h vs.toList ps) : Rk X h (.ref a) (.tuple ps) := by
  obtain ⟨as, bs, r1, m1, k1⟩ := k.ex
  have r : Reads h (.ref a) (.tuple ps) _ := .tuple ho hc hd r1
  have fr : a ∉ bs := not_mem_of_deeper r (by simp only [PyData.depth]; omega) m1
  refine ⟨_, a :: bs, r, ReadAtMost.cons r (by simp only [PyData.depth]; omega) m1, ?_⟩
  simp only [PyData.depth, PyData.shown]
  exact ReprK.tuple ho hc hd fr k1
theorem Rk.dic {h : Heap} {a : Addr} {o : Obj} {es : Array DictEntry} {n : Nat} {ps : List (PyData × PyData)} (ho : h.get? a = some o) (hc : o.cls = .type "dict") (hd : o.data = .dict es n) (hs : (a == sysModules) = false)
    (k : Rks X h (es.toList.map (·.key)) (ps.map (·.1))) (k' : Rks X h (es.toList.map (·.val)) (ps.map (·.2))) : Rk X h (.ref a) (.dict ps) := by
  obtain ⟨as, b1, r1, m1, k1⟩ := k.ex
  obtain ⟨as2, b2, r2, m2, k2⟩ := k'.ex
  have r : Reads h (.ref a) (.dict ps) _ := .dict ho hc hd r1 r2
  have m : ReadAtMost h (PyData.depthKv ps) (b1 ++ b2) := (m1.mono (PyData.depthAll_keys_le ps)).append (m2.mono (PyData.depthAll_vals_le ps))
  have fr : a ∉ b1 ++ b2 := not_mem_of_deeper r (by simp only [PyData.depth]; omega) m
  refine ⟨_, a :: (b1 ++ b2), r, ReadAtMost.cons r (by simp only [PyData.depth]; omega) m, ?_⟩
  simp only [PyData.depth, PyData.shown, PyData.shownKv_eq]
  exact ReprK.dict ho hc hd hs fr (ReprEntriesK.of_two es.toList _ _ (k1.more_le (fun c hc => List.mem_append_left _ hc) (PyData.depthAll_keys_le ps)) (k2.more_le (fun c hc => List.mem_append_right _ hc) (PyData.depthAll_vals_le ps)))
mutual
/-- each text in it is short -/
def shortP : PyData → Bool
  | .int i => decide (i.natAbs.log2 < 1920)
  | .str x => decide ((reprText x).length ≤ sizeLine)
  | .tuple xs => shortPs xs
  | .list xs => shortPs xs
  | .dict kvs => shortPk kvs
  | _ => true
def shortPs : List PyData → Bool
  | [] => true
  | x :: xs => shortP x && shortPs xs
def shortPk : List (PyData × PyData) → Bool
  | [] => true
  | (k, x) :: xs => shortP k && (shortP x && shortPk xs)
end
theorem rk_key {h : Heap} {k : Key} {u : Value} (e : keyIs k u = true) (hs : shortP (toPy (keyD k)) = true) : Rk X h u (toPy (keyD k)) := by
  rcases keyIs_shape e with ⟨i, t, rfl, rfl⟩ | ⟨x, t, rfl, rfl⟩
  · simp only [keyD, toPy, shortP, decide_eq_true_eq] at hs ⊢
    exact ⟨[], [], .int i t, (fun _ h => nomatch h), by simp only [PyData.shown]; exact .of_is (ReprIs.int t hs) _ _ _⟩
  · simp only [keyD, toPy, shortP, decide_eq_true_eq] at hs ⊢
    exact ⟨[], [], .str x t, (fun _ h => nomatch h), by simp only [PyData.shown]; exact .of_is (ReprIs.str x t hs) _ _ _⟩
mutual
theorem rk_any (J : Inv X pins σ H s) (st : Same I H) : ∀ (d : D) {v : V} {u : Value}, shF d = true → shortP (pyF d) = true → Rep X.K I v d → RelV v u → Rk X s.heap u (pyF d)
  | .non, _, _, _, _, r, ru => by cases r; cases ru; unfold pyF; exact ⟨[], [], .none, (fun _ h => nomatch h), by simp only [PyData.shown]; exact .of_is ReprIs.none _ _ _⟩
  | .bl b, _, _, _, _, r, ru => by cases r; cases ru; unfold pyF; exact ⟨[], [], .bool b, (fun _ h => nomatch h), by simp only [PyData.shown]; exact .of_is (ReprIs.bool b) _ _ _⟩
  | .int i, _, _, _, hs, r, ru => by
    cases r
    obtain ⟨t, rfl⟩ := ru
    unfold pyF at hs ⊢
    simp only [shortP, decide_eq_true_eq] at hs
    exact ⟨[], [], .int i t, (fun _ h => nomatch h), by simp only [PyData.shown]; exact .of_is (ReprIs.int t hs) _ _ _⟩
  | .str x, _, _, _, hs, r, ru => by
    cases r
    obtain ⟨t, rfl⟩ := ru
    unfold pyF at hs ⊢
    simp only [shortP, decide_eq_true_eq] at hs
    exact ⟨[], [], .str x t, (fun _ h => nomatch h), by simp only [PyData.shown]; exact .of_is (ReprIs.str x t hs) _ _ _⟩
  | .tup xs, v, u, h, hs, r, ru => by
    unfold shF at h
    unfold pyF shortP at hs
    cases r with
    | @tup a vs _ ha rs =>
      cases (show u = Value.ref a from ru)
      obtain ⟨its, rv, ⟨o, ho, hc, n, hd⟩, _⟩ := J.tuple (Same.seqT st ha)
      unfold pyF
      exact .tup ho hc hd (rk_anys J st xs h hs rs rv)
  | .lst xs, v, u, h, hs, r, ru => by
    unfold shF at h
    unfold pyF shortP at hs
    cases r with
    | @lst a vs _ ha rs =>
      cases (show u = Value.ref a from ru)
      obtain ⟨its, rv, pl, _⟩ := J.list (.of (st _ _ ha))
      obtain ⟨o, ho, hc, n, hd⟩ := pl.isList
      unfold pyF
      exact .lst ho hc hd (rk_anys J st xs h hs rs rv)
  | .dic kvs, v, u, h, hs, r, ru => by
    unfold shF at h
    unfold pyF shortP at hs
    cases r with
    | @dic a ws _ ha kk rr =>
      cases (show u = Value.ref a from ru)
      obtain ⟨_, sy, vs, kv, o, es, ep, ho, ex, hd, _, pr, _⟩ := dk_of J.hok (st _ _ ha)
      obtain ⟨h1, h2⟩ := rk_anyk J st kvs h hs kk rr kv pr
      unfold pyF
      exact .dic ho ex.1 hd sy h1 h2
  | .obj _ _, _, _, h, _, _, _ => by unfold shF at h; cases h
  | .opq _, _, _, h, _, _, _ => by unfold shF at h; cases h
  | .ptp _, _, _, h, _, _, _ => by unfold shF at h; cases h
  | .dfz _, _, _, h, _, _, _ => by unfold shF at h; cases h
theorem rk_anys (J : Inv X pins σ H s) (st : Same I H) : ∀ (xs : List D) {vs : List V} {us : List Value}, shFs xs = true → shortPs (pyFs xs) = true → Reps X.K I vs xs → Vals vs us → Rks X s.heap us (pyFs xs)
  | [], _, _, _, _, r, ru => by cases r; cases ru; unfold pyFs; exact .nil
  | x :: xs, _, _, h, hs, r, ru => by
    unfold shFs at h
    rw [Bool.and_eq_true] at h
    unfold pyFs shortPs at hs
    rw [Bool.and_eq_true] at hs
    cases r with
    | cons r1 r2 =>
      cases ru with
      | cons u1 u2 =>
        unfold pyFs
        exact .cons (rk_any J st x h.1 hs.1 r1 u1) (rk_anys J st xs h.2 hs.2 r2 u2)
theorem rk_anyk (J : Inv X pins σ H s) (st : Same I H) : ∀ (ds : List (Key × D)) {kvs : List (Key × V)} {vs : List (Key × Value)} {es : List DictEntry}, shFk ds = true → shortPk (pyFk ds) = true → kvs.map (·.1) = ds.map (·.1) → Reps X.K I (kvs.map (·.2)) (ds.map (·.2)) → KV kvs vs → Pairs (mixKind X.prog X.w) es vs →
    Rks X s.heap (es.map (·.key)) ((pyFk ds).map (·.1)) ∧ Rks X s.heap (es.map (·.val)) ((pyFk ds).map (·.2))
  | [], kvs, vs, es, _, _, hk, _, kv, pr => by
    obtain rfl : kvs = [] := by simpa using hk
    cases kv
    cases pr
    unfold pyFk
    exact ⟨.nil, .nil⟩
  | (k, d) :: ds, kvs, vs, es, h, hs, hk, r, kv, pr => by
    unfold shFk at h
    rw [Bool.and_eq_true] at h
    unfold pyFk shortPk at hs
    rw [Bool.and_eq_true, Bool.and_eq_true] at hs
    cases kvs with
    | nil => simp at hk
    | cons p kvs =>
      obtain ⟨k', v⟩ := p
      simp only [List.map_cons, List.cons.injEq] at hk
      obtain ⟨rfl, hk⟩ := hk
      cases r with
      | cons r1 r2 =>
        cases kv with
        | @cons _ q _ qs a b =>
          cases pr with
          | @cons e _ es _ c1 c2 c3 =>
            obtain ⟨h1, h2⟩ := rk_anyk J st ds (kvs := kvs) h.2 hs.2.2 hk r2 b c3
            obtain ⟨ea, ra⟩ := a
            have e1 : keyIs k' e.key = true := by have : keyIs q.1 e.key = true := c1; rwa [← ea] at this
            have e2 : RelV v e.val := by rw [c2]; exact ra
            unfold pyFk
            exact ⟨.cons (rk_key e1 hs.1) h1, .cons (rk_any J st d h.1 hs.2.1 r1 e2) h2⟩
end
end
end Dk
namespace RZ
open PySem
open PySem.Sem (wp)
def SqAt (k : Bool) (h : Heap) (l : Addr) (xs : Array Value) : Prop := if k then h.IsList l xs else h.IsTuple l xs
def ItAt (k : Bool) (h : Heap) (it l : Addr) (n : Nat) : Prop := if k then h.IsListIter it l n else h.IsTupleIter it l n
theorem ItAt.at {k : Bool} {h h' : Heap} {it l : Addr} {n : Nat} (a : ItAt k h it l n) (e : ∀ o, h.get? it = some o → h'.get? it = some o) : ItAt k h' it l n := by
  cases k
  · exact Heap.IsTupleIter.at (show h.IsTupleIter it l n from a) e
  · exact Heap.IsListIter.at (show h.IsListIter it l n from a) e
theorem ItAt.obj {k : Bool} {h : Heap} {it l : Addr} {n : Nat} (a : ItAt k h it l n) : ∃ o, h.get? it = some o ∧ o.data = .fields #[.ref l, .int n 0] := by
  cases k
  · obtain ⟨o, e, _, d⟩ := (show h.IsTupleIter it l n from a)
    exact ⟨o, e, d⟩
  · obtain ⟨o, e, _, d⟩ := (show h.IsListIter it l n from a)
    exact ⟨o, e, d⟩
end RZ
namespace RZ
open PySem
open PySem.Sem (wp)
end RZ
namespace RZ
open PySem
open PySem.Sem (wp)
theorem SqAt.push {k : Bool} {h : Heap} {l : Addr} {xs : Array Value} (a : SqAt k h l xs) (o : Obj) : SqAt k (h.push o) l xs := by
  cases k
  · exact Heap.IsTuple.push (show h.IsTuple l xs from a) _
  · exact Heap.IsList.push (show h.IsList l xs from a) _
end RZ
namespace RZ
open PySem PySem.Spec PyProof.Rows L2
def SqK (K : PySem.W.Frag) (k : Bool) (H : Hp) (a : Addr) (xs : List V) : Prop := if k then SqL K H a xs else SqT K H a xs
theorem SqK.at {X : Cx} {pins : List (Addr × Obj)} {σ : L2.St} {H : Hp} {s : Shared} {k : Bool} {a : Addr} {xs : List V} (h : SqK X.K k H a xs) (I : Inv X pins σ H s) : ∃ its : List Value, Vals xs its ∧ SqAt k s.heap a its.toArray := by
  cases k
  · obtain ⟨its, rv, p, _⟩ := I.tuple (show SqT X.K H a xs from h)
    exact ⟨its, rv, p⟩
  · obtain ⟨its, rv, p, _⟩ := I.list (show SqL X.K H a xs from h)
    exact ⟨its, rv, p.isList⟩
theorem SqK.inj {X : Cx} {pins : List (Addr × Obj)} {σ : L2.St} {H : Hp} {s : Shared} {k : Bool} {a : Addr} {xs ys : List V} (h : SqK X.K k H a xs) (h' : SqK X.K k H a ys) (I : Inv X pins σ H s) : xs = ys := by
  cases k
  · exact I.tuple_inj (show SqT X.K H a xs from h) h'
  · exact I.list_inj (show SqL X.K H a xs from h) h'
theorem SqAt.lt {k : Bool} {h : Heap} {l : Addr} {xs : Array Value} (a : SqAt k h l xs) : l < h.objs.size := by
  cases k
  · obtain ⟨o, e, _⟩ := (show h.IsTuple l xs from a)
    exact Heap.lt_size e
  · obtain ⟨o, e, _⟩ := (show h.IsList l xs from a)
    exact Heap.lt_size e
end RZ
namespace Dk
open PySem L2
open RZ
section
variable {F : Fx} {X : Cx} {K : PySem.W.Frag} {W : Wd} {I : Hp} {e e2 : Expr} {ta : DAT} {p pos : Pos}
def SqI (K : PySem.W.Frag) (k : Bool) (I : Hp) (a : Addr) (vs : List V) : Prop := if k then I a = some (.lst vs) else SqT K I a vs
theorem SqI.to {k : Bool} {I H : Hp} {a : Addr} {vs : List V} (h : SqI K k I a vs) (s : Same I H) : SqK K k H a vs := by
  cases k
  · exact Same.seqT s (show SqT K I a vs from h)
  · exact SqL.of (s _ _ (show I a = some (.lst vs) from h))
/-- what may be zipped -/
def seqD : D → Option (List D)
  | .lst xs => some xs
  | .tup xs => some xs
  | _ => none
def zipGD (st : Bool) (ds : List D) (Q : List D → Prop) : Prop := ∃ d e xs ys, ds = [d, e] ∧ seqD d = some xs ∧ seqD e = some ys ∧ (st = true → xs.length = ys.length) ∧ Q (List.zipWith (fun d e => .tup [d, e]) xs ys)
theorem zipGD.mono {st : Bool} {ds : List D} {Q Q' : List D → Prop} (k : ∀ ds, Q ds → Q' ds) : zipGD st ds Q → zipGD st ds Q' := fun ⟨d, e, xs, ys, a, b, c, l, q⟩ => ⟨d, e, xs, ys, a, b, c, l, k _ q⟩
end
end Dk
namespace Dk
open PySem L2 PySem.Spec
section
variable {X : Cx} {pins : List (Addr × Obj)} {σ : St} {I H : Hp} {s : Shared}
theorem shows_lst {h : Heap} {a : Addr} {o : Obj} {vs : Array Value} {n : Nat} {ps : List PyData} (ho : h.get? a = some o) (hc : o.cls = .type "list") (hd : o.data = .seq vs n) (k : Rks X h vs.toList ps) (hz : (PyData.list ps).shown.length ≤ sizeLine) : ∃ T idr, ShowsBy X.prog X.w h a (.list ps) T idr := by
  obtain ⟨as, bs, r1, m1, k1⟩ := k.ex
  have r : Reads h (.ref a) (.list ps) _ := .list ho hc hd r1
  have fr : a ∉ bs := not_mem_of_deeper r (by simp only [PyData.depth]; omega) m1
  have hz2 : (listText (PyData.shownAll ps)).length ≤ sizeLine := by simpa only [PyData.shown] using hz
  refine ⟨"list", "list.__repr__", F.slot_list_repr.toG, F.slot_list_str, F.slot_list_format, fun s e => ⟨o, e _ _ ho, hc⟩, fun A E s Q hg hu e hQ => ?_⟩
  simp only [PyData.depth] at hu
  simp only [PyData.shown] at hQ
  obtain ⟨l⟩ := vs
  cases l with
  | nil =>
    have r0 : ReadsAll h [] ps _ := r1
    cases r0
    simp only [PyData.shownAll, listText_nil] at hQ
    exact call_list_repr_empty ⟨o, e _ _ ho, hc⟩ (e _ _ ho) hd (hQ s.heap _ _ fun _ _ z => z)
  | cons x l => exact call_list_reprK ho hc hd fr (by simpa using k1.length_eq) (fun i y q => k1.item i y (by simpa using q)) hg (fun b _ => Clear.nil b) hu e hQ hz2
theorem shows_tup {h : Heap} {a : Addr} {o : Obj} {vs : Array Value} {n : Nat} {ps : List PyData} (ho : h.get? a = some o) (hc : o.cls = .type "tuple") (hd : o.data = .seq vs n) (k : Rks X h vs.toList ps) (hz : (PyData.tuple ps).shown.length ≤ sizeLine) : ∃ T idr, ShowsBy X.prog X.w h a (.tuple ps) T idr := by
  obtain ⟨as, bs, r1, m1, k1⟩ := k.ex
  have r : Reads h (.ref a) (.tuple ps) _ := .tuple ho hc hd r1
  have fr : a ∉ bs := not_mem_of_deeper r (by simp only [PyData.depth]; omega) m1
  have hz2 : (tupleText (PyData.shownAll ps)).length ≤ sizeLine := by simpa only [PyData.shown] using hz
  refine ⟨"tuple", "tuple.__repr__", F.slot_tuple_repr, F.slot_tuple_str, F.slot_tuple_format, fun s e => ⟨o, e _ _ ho, hc⟩, fun A E s Q hg hu e hQ => ?_⟩
  simp only [PyData.depth] at hu
  simp only [PyData.shown] at hQ
  exact call_tuple_reprK ho hc hd fr k1 hg (fun b _ => Clear.nil b) hu e hQ hz2
theorem shows_dic {h : Heap} {a : Addr} {o : Obj} {es : Array DictEntry} {n : Nat} {ps : List (PyData × PyData)} (ho : h.get? a = some o) (hc : o.cls = .type "dict") (hd : o.data = .dict es n) (hs : (a == sysModules) = false)
    (k : Rks X h (es.toList.map (·.key)) (ps.map (·.1))) (k' : Rks X h (es.toList.map (·.val)) (ps.map (·.2))) (hz : (PyData.dict ps).shown.length ≤ sizeLine) : ∃ T idr, ShowsBy X.prog X.w h a (.dict ps) T idr := by
  obtain ⟨as, b1, r1, m1, k1⟩ := k.ex
  obtain ⟨as2, b2, r2, m2, k2⟩ := k'.ex
  have r : Reads h (.ref a) (.dict ps) _ := .dict ho hc hd r1 r2
  have m : ReadAtMost h (PyData.depthKv ps) (b1 ++ b2) := (m1.mono (PyData.depthAll_keys_le ps)).append (m2.mono (PyData.depthAll_vals_le ps))
  have fr : a ∉ b1 ++ b2 := not_mem_of_deeper r (by simp only [PyData.depth]; omega) m
  have hz2 : (dictText (PyData.shownKv ps)).length ≤ sizeLine := by simpa only [PyData.shown] using hz
  refine ⟨"dict", "dict.__repr__", F.slot_dict_repr, F.slot_dict_str, F.slot_dict_format, fun s e => ⟨o, e _ _ ho, hc⟩, fun A E s Q hg hu e hQ => ?_⟩
  simp only [PyData.depth] at hu
  simp only [PyData.shown, PyData.shownKv_eq] at hQ
  exact call_dict_reprK ho hc hd hs fr (ReprEntriesK.of_two es.toList _ _ (k1.more_le (fun c hc => List.mem_append_left _ hc) (PyData.depthAll_keys_le ps)) (k2.more_le (fun c hc => List.mem_append_right _ hc) (PyData.depthAll_vals_le ps))) hg (fun b _ => Clear.nil b) hu e hQ (by rw [← PyData.shownKv_eq]; exact hz2)
/-- repr of anything -/
def reprF : List D → (D → Prop) → Prop
  | [d], Q => shF d = true ∧ shortP (pyF d) = true ∧ (pyF d).depth ≤ 62 ∧ (pyF d).shown.length ≤ sizeLine ∧ Q (.str (pyF d).shown)
  | _, _ => False
theorem mono_reprF : MonoN reprF := by
  intro ds Q Q' k h
  unfold reprF at h ⊢
  split at h
  · exact ⟨h.1, h.2.1, h.2.2.1, h.2.2.2.1, k _ h.2.2.2.2⟩
  · exact h.elim
def RReprF (K : PySem.W.Frag) : List V → Hp → VK → Prop := fun xs H Q => ∃ v d I, xs = [v] ∧ Same I H ∧ Rep K I v d ∧ shF d = true ∧ shortP (pyF d) = true ∧ (pyF d).depth ≤ 62 ∧ (pyF d).shown.length ≤ sizeLine ∧ Q (.str (pyF d).shown) H
theorem call_reprF (hg : X.A.guards = some []) (hu : X.A.units + 64 < cLine) : CallR X (.builtin "repr") (RReprF X.K) := by
  rintro pins s σ H xs us Q J r ⟨v, d, I, rfl, st, rp, h0, h1, h2, h3, q⟩
  obtain ⟨u, rfl, ru⟩ := vals1 r
  have fin : ∀ (tk : Nat) (u' : Tok), EP X pins σ Q (.str (pyF d).shown u') { s with toks := tk } := fun tk u' => ⟨.str (pyF d).shown, H, J.tok tk, ⟨u', rfl⟩, q⟩
  have go : ∀ a, u = .ref a → (∃ T idr, ShowsBy X.prog X.w s.heap a (pyF d) T idr) → wpAny (model X.prog X.w) X.A (call (.builtin "repr") [u]) (EP X pins σ Q) X.xe s := by
    rintro a rfl ⟨T, idr, S⟩
    exact call_repr_slot (by omega) (S.typeIs s fun _ _ e => e) S.slotRepr (S.call X.A.in1 X.xe s _ hg (by show X.A.units + 1 + (pyF d).depth < cLine; omega) (fun _ _ e => e) fun h' u tk hk => ⟨_, _, rfl, ⟨.str _, H, J.kept hk, ⟨u, rfl⟩, q⟩⟩)
  cases rp with
  | non => cases ru; exact PySem.P.repr_of_none (by unfold pyF PyData.shown at fin; exact fin _ _)
  | bl b => cases ru; exact PySem.P.repr_of_bool (by unfold pyF PyData.shown at fin; exact fin _ _)
  | int i =>
    obtain ⟨t, rfl⟩ := ru
    unfold pyF at h1 fin
    simp only [shortP, decide_eq_true_eq] at h1
    exact PySem.P.repr_of_int h1 (by unfold PyData.shown at fin; exact fin _ _)
  | str x =>
    obtain ⟨t, rfl⟩ := ru
    unfold pyF PyData.shown at fin h3
    exact PySem.P.repr_of_str (fin _ _) h3
  | @tup a vs xs ha rs =>
    cases (show u = Value.ref a from ru)
    unfold shF at h0
    unfold pyF shortP at h1
    unfold pyF at h3 go
    obtain ⟨its, rv, ⟨o, ho, hc, n, hd⟩, _⟩ := J.tuple (Same.seqT st ha)
    exact go a rfl (shows_tup ho hc hd (rk_anys J st xs h0 h1 rs rv) h3)
  | @lst a vs xs ha rs =>
    cases (show u = Value.ref a from ru)
    unfold shF at h0
    unfold pyF shortP at h1
    unfold pyF at h3 go
    obtain ⟨its, rv, pl, _⟩ := J.list (.of (st _ _ ha))
    obtain ⟨o, ho, hc, n, hd⟩ := pl.isList
    exact go a rfl (shows_lst ho hc hd (rk_anys J st xs h0 h1 rs rv) h3)
  | @dic a ws kvs ha kk rr =>
    cases (show u = Value.ref a from ru)
    unfold shF at h0
    unfold pyF shortP at h1
    unfold pyF at h3 go
    obtain ⟨_, sy, vs, kv, o, es, ep, ho, ex, hd, _, pr, _⟩ := dk_of J.hok (st _ _ ha)
    obtain ⟨k1, k2⟩ := rk_anyk J st kvs h0 h1 kk rr kv pr
    exact go a rfl (shows_dic ho ex.1 hd sy k1 k2 h3)
  | obj _ _ _ => unfold shF at h0; cases h0
  | opq _ => unfold shF at h0; cases h0
  | dfz _ _ _ => unfold shF at h0; cases h0
  | ptp _ _ _ => unfold shF at h0; cases h0
end
section
variable {F : Fx} {X : Cx} {e a b : Expr} {te ta tb : DT} {t : DAT} {p pos : Pos}
theorem de_reprF (hm : X.mg "repr" = none) (hg : X.A.guards = some []) (hu : X.A.units + 64 < cLine) (ha : DA F X [e] t) (hgl : Gl X "repr" := by rfl) (he : starEach [e] X.env = (false, eval e X.env) :: starEach [] X.env := by rfl) : DE F X (.Call (.Name "repr" p) [e] [] pos) (fun ρ Q => t ρ fun ds => reprF ds Q) := by
  refine de_callB (id := "repr") mono_reprF (fun vs ds I H Q st rs h => ?_) (call_reprF hg hu) hm (by decide +kernel) ha hgl (by decide) (by decide) he rfl
  match ds, rs, h with
  | [], _, h => exact h.elim
  | _ :: _ :: _, _, h => exact h.elim
  | [d], rs, h =>
    obtain ⟨h0, h1, h2, h3, q⟩ := h
    obtain ⟨v, rfl, rv⟩ := rs.one
    exact ⟨v, d, I, rfl, st.sub, rv, h0, h1, h2, h3, q _ _ _ st.stp (.str _)⟩
end
end Dk
namespace Dk
open PySem L2 PySem.Spec
end Dk
namespace PySem.SeqAt
open AutoSeq1 (wpAny_loadPart')
open MeetsSeq MeetsSeq2 MeetsSeq3 SeqRoads2
section
variable {prog : Program} {w : World} {A : Around} {R : Result → Shared → Prop} {E : Value → Shared → Prop}
theorem tuple_eqR (l b : Addr) (items items2 : Array Value) (n n2 : Nat) (dd dd2 : Option Addr) (sl sl2 : Array (Option Value)) (hsz : items.size = items2.size) (I : Nat → Shared → Prop)
    (turn : ∀ i (h1 : i < items.size) (h2 : i < items2.size) s, I i s → wpAny (model prog w) A.in1 (eqBool items[i] items2[i]) (fun r s' => (r = true ∧ I (i + 1) s') ∨ (r = false ∧ R (.ok (.ret (.bool false))) s')) (fun e s' => R (.error e) s') s)
    (fin : ∀ s, I items.size s → R (.ok (.ret (.bool true))) s) {s : Shared} (hl1 : s.heap.get? l = some { cls := .type "tuple", dict := dd, data := .seq items n, slots := sl }) (hb1 : s.heap.get? b = some { cls := .type "tuple", dict := dd2, data := .seq items2 n2, slots := sl2 }) (h : I 0 s) :
    wpAny (model prog w) A.in1 (Builtin.«tuple.__eq__» ⟨[.ref l, .ref b], []⟩) (GQ.FinOf prog w A R) (fun e s' => R (.error e) s') s := by
  have f2 := AutoSeq1.sub_tuple_tuple
  have hZ : (items.toList.zip items2.toList).length = items.size := by simp [hsz]
  have h0 := h
  obtain ⟨hp, g, d, tk, os⟩ := s
  wp_walk using wpAny_loadPart' hl1, wpAny_loadPart' hb1, wpAny_forIn_list _ (fun rest b s' => b.1 = none ∧ ∃ i, rest = (items.toList.zip items2.toList).drop i ∧ i ≤ items.size ∧ I i s') _
  case turn =>
    rintro ⟨y, x⟩ rest b s' ⟨hb', i, hz, hi, hI⟩
    have hlt : i < (items.toList.zip items2.toList).length := by
      rcases Nat.lt_or_ge i (items.toList.zip items2.toList).length with h' | h'
      · exact h'
      · rw [List.drop_of_length_le h'] at hz; cases hz
    have h1 : i < items.size := hZ ▸ hlt
    have h2 : i < items2.size := hsz ▸ h1
    rw [List.drop_eq_getElem_cons hlt] at hz
    injection hz with hyx hrest
    have hy : y = items[i] := by have := congrArg Prod.fst hyx; simpa using this
    have hx : x = items2[i] := by have := congrArg Prod.snd hyx; simpa using this
    subst hy hx
    refine wpAny_bind (wpAny_mono (turn i h1 h2 s' hI) (fun r s2 q2 => ?_) fun _ _ x => x)
    rcases q2 with ⟨hr, q2⟩ | ⟨hr, q2⟩
    · subst hr
      wp_walk
      exact ⟨rfl, i + 1, hrest, h1, q2⟩
    · subst hr
      wp_walk
      exact q2
  case fin =>
    rintro ⟨b1, b2⟩ s' ⟨hb', i, hz, hi, hI⟩
    simp only at hb'
    subst hb'
    have hge : items.size ≤ i := by
      rcases Nat.lt_or_ge i (items.toList.zip items2.toList).length with h' | h'
      · rw [List.drop_eq_getElem_cons h'] at hz; cases hz
      · exact hZ ▸ h'
    have hi' : i = items.size := by omega
    have hR : R (.ok (.ret (.bool true))) s' := fin s' (hi' ▸ hI)
    wp_walk
    simpa [Builtin.Tuple.tupleCompareSizes, hsz] using hR
  case h =>
    exact ⟨rfl, 0, rfl, Nat.zero_le _, h0⟩
theorem rc_tupR {l b : Addr} {items items2 : Array Value} {s : Shared} {Q : Value → Shared → Prop} (hsz : items.size = items2.size) (hu : A.units < cLine) (I : Nat → Shared → Prop)
    (hl : s.heap.IsTuple l items) (hb : s.heap.IsTuple b items2)
    (turn : ∀ i (h1 : i < items.size) (h2 : i < items2.size) s, I i s → wpAny (model prog w) A.in1 (eqBool items[i] items2[i]) (fun r s' => (r = true ∧ I (i + 1) s') ∨ (r = false ∧ Q (.bool false) s')) E s)
    (fin : ∀ s, I items.size s → Q (.bool true) s) (h : I 0 s) : wpAny (model prog w) A (richCompare .Eq (.ref l) (.ref b)) Q E s := by
  obtain ⟨⟨cls, dd, data, sl⟩, ho, hc, n, hd⟩ := id hl
  obtain ⟨⟨cls2, dd2, data2, sl2⟩, ho2, hc2, n2, hd2⟩ := id hb
  simp only at hc hd hc2 hd2
  subst hc hd hc2 hd2
  refine wpAny_richCompare_same_room (op := .Eq) ⟨_, ho, rfl⟩ ⟨_, ho2, rfl⟩ F.slot_tuple_eq (GQ.call_here F.slot_tuple_eq ⟨_, ho, rfl⟩ F.entry_tuple_eq (F.args_tuple_eq_2 _ _) ?_) hu
  refine tuple_eqR (R := wants (fun v s' => v ≠ .notImplemented ∧ Q v s') E) l b items items2 n n2 dd dd2 sl sl2 hsz I (fun i h1 h2 s' hI => wpAny_mono (turn i h1 h2 s' hI) (fun r s2 q => ?_) fun _ _ e => e) (fun s' q => ⟨(fun x => nomatch x), fin s' q⟩) ho ho2 h
  rcases q with q | ⟨e, q⟩
  · exact .inl q
  · exact .inr ⟨e, (fun x => nomatch x), q⟩
theorem tuple_containsR (l : Addr) (items : Array Value) (n : Nat) (dd : Option Addr) (sl : Array (Option Value)) (x : Value) (I : List Value → Shared → Prop)
    (turn : ∀ y rest s, I (y :: rest) s → wpAny (model prog w) A.in1 (eqBool y x) (fun r s' => (r = false ∧ I rest s') ∨ (r = true ∧ R (.ok (.ret (.bool true))) s')) (fun e s' => R (.error e) s') s)
    (fin : ∀ s, I [] s → R (.ok (.ret (.bool false))) s) {s : Shared} (hl : s.heap.get? l = some { cls := .type "tuple", dict := dd, data := .seq items n, slots := sl }) (h : I items.toList s) :
    wpAny (model prog w) A.in1 (Builtin.«tuple.__contains__» ⟨[.ref l, x], []⟩) (GQ.FinOf prog w A R) (fun e s' => R (.error e) s') s := by
  have h0 := h
  obtain ⟨hp, g, d, tk, os⟩ := s
  wp_walk using wpAny_loadPart' hl, wpAny_forIn_array _ (fun rest b s' => b.1 = none ∧ I rest s') _
  case turn =>
    rintro y rest b s' ⟨hb, hI⟩
    refine wpAny_bind (wpAny_mono (turn y rest s' hI) (fun r s2 q2 => ?_) fun _ _ x => x)
    rcases q2 with ⟨hr, q2⟩ | ⟨hr, q2⟩
    · subst hr
      wp_walk
      exact ⟨rfl, q2⟩
    · subst hr
      wp_walk
      exact q2
  case fin =>
    rintro ⟨b1, b2⟩ s' ⟨hb, hI⟩
    simp only at hb
    subst hb
    have hR := fin s' hI
    wp_walk
    exact hR
  case h =>
    exact ⟨rfl, h0⟩
theorem in_tupR {l : Addr} {items : Array Value} {x : Value} {s : Shared} {Q : Value → Shared → Prop} (I : List Value → Shared → Prop) (hl : s.heap.IsTuple l items)
    (turn : ∀ y rest s, I (y :: rest) s → wpAny (model prog w) A.in1 (eqBool y x) (fun r s' => (r = false ∧ I rest s') ∨ (r = true ∧ Q (.bool true) s')) E s)
    (fin : ∀ s, I [] s → Q (.bool false) s) (h : I items.toList s) : wpAny (model prog w) A (compareOp .In x (.ref l)) Q E s := by
  obtain ⟨⟨cls, dd, data, sl⟩, ho, hc, n, hd⟩ := id hl
  simp only at hc hd
  subst hc hd
  show wpAny _ A (do return .bool (← contains (.ref l) x)) Q E s
  refine wpAny_bind (wpAny_contains_slot ⟨_, ho, rfl⟩ F.slot_tuple_contains (wpAny_mono (GQ.call_here (Q := fun v s' => ∃ b, v = .bool b ∧ Q (.bool b) s') F.slot_tuple_contains ⟨_, ho, rfl⟩ F.entry_tuple_contains (F.args_tuple_contains_2 _ _) (tuple_containsR (R := wants (fun v s' => ∃ b, v = .bool b ∧ Q (.bool b) s') E) l items n dd sl x I (fun y rest s' hI => wpAny_mono (turn y rest s' hI) (fun r s2 q => ?_) fun _ _ e => e) (fun s' q => ⟨_, rfl, fin s' q⟩) ho h)) (fun v s' hv => ?_) fun _ _ e => e))
  · rcases q with q | ⟨e, q⟩
    · exact .inl q
    · exact .inr ⟨e, _, rfl, q⟩
  · obtain ⟨b, rfl, hq⟩ := hv
    exact wpAny_truthy_bool (wpAny_pure hq)
variable {s : Shared} {K : PySem.W.Frag} {a C f dx : Addr} {ox : Obj} {od : Option Obj} {b tb u : Value} {T : String}
theorem rc_first {op : CmpOp} {Q : Value → Shared → Prop} (hu : A.units < cLine) (X : K.In s.heap) (I : PySem.W.InstAt s.heap a ox C od) (hb : PySem.W.Looks (model prog w) s.heap (typeOf b) tb) (hn : PySem.W.notFirst K C tb = true)
    (one : wpAny (model prog w) A (tryCompare (.ref a) (cmpInfo op).2.1 b) (fun r s' => ∃ v, r = some v ∧ Q v s') E s) : wpAny (model prog w) A (richCompare op (.ref a) b) Q E s := by
  unfold richCompare
  simp only [oneThing_ref]
  refine wpAny_holding (wpAny_bind (wpAny_cRoomFor hu ?_))
  refine wpAny_bind (I.type.here (wpAny_bind (hb.here ?_)))
  split
  · rename_i q
    have e : PySem.W.subIn K tb (.ref C) = some false := by
      rcases Bool.or_eq_true_iff.mp hn with e | e
      · rw [beq_iff_eq.mp e] at q; simp at q
      · exact beq_iff_eq.mp e
    refine wpAny_bind ((PySem.W.looks_subIn X e).here ?_)
    simp only [Bool.false_eq_true, if_false]
    refine wpAny_bind (wpAny_mono one (fun r s' z => ?_) fun _ _ e => e)
    obtain ⟨v, rfl, hq⟩ := z
    exact wpAny_pure hq
  · refine wpAny_bind (wpAny_pure ?_)
    simp only [Bool.false_eq_true, if_false]
    refine wpAny_bind (wpAny_mono one (fun r s' z => ?_) fun _ _ e => e)
    obtain ⟨v, rfl, hq⟩ := z
    exact wpAny_pure hq
theorem rc_back {op : CmpOp} {Q : Value → Shared → Prop} (hu : A.units < cLine) (X : K.In s.heap) (I : PySem.W.InstAt s.heap a ox C od) (p : Pv s.heap u T) (hs : PySem.W.subIn K (.ref C) (.type T) = some false)
    (dec : ∀ Q' : Option Value → Shared → Prop, Q' none s → wpAny (model prog w) A (tryCompare u (cmpInfo op).2.1 (.ref a)) Q' E s)
    (one : wpAny (model prog w) A (tryCompare (.ref a) (cmpInfo op).2.2 u) (fun r s' => ∃ v, r = some v ∧ Q v s') E s) : wpAny (model prog w) A (richCompare op u (.ref a)) Q E s := by
  rcases hi : cmpInfo op with ⟨sym, f, r⟩
  rw [hi] at dec one
  simp only [richCompare, hi, p.type.oneThing_none]
  refine wpAny_holding ?_
  refine wpAny_bind (wpAny_cRoomFor hu ?_)
  refine wpAny_bind (wpAny_typeOf p.type (wpAny_bind (I.type.here ?_)))
  rw [show (Value.type T != Value.ref C) = true from rfl]
  simp only [if_true]
  refine wpAny_bind ((PySem.W.looks_subIn X hs).here ?_)
  simp only [Bool.false_eq_true, if_false, Bool.not_false, if_true]
  refine wpAny_bind (m := tryCompare u _ _) (dec _ ?_)
  refine wpAny_bind (m := tryCompare (.ref a) _ _) (wpAny_mono one (fun r s' z => ?_) fun _ _ e => e)
  obtain ⟨v, rfl, hq⟩ := z
  exact wpAny_pure hq
theorem try_eq {Q : Value → Shared → Prop} (X : K.In s.heap) (I : PySem.W.InstAt s.heap a ox C od) (hs : PySem.W.findIn K (.ref C) "__eq__" = some (some (.ref f))) (hf : PySem.W.isFn K (.ref f) = true)
    (h : wpAny (model prog w) A (call (.ref f) [.ref a, b]) (fun v s' => ∃ r, v = .bool r ∧ Q (.bool r) s') E s) : wpAny (model prog w) A (tryCompare (.ref a) "__eq__" b) (fun r s' => ∃ v, r = some v ∧ Q v s') E s := by
  unfold tryCompare
  refine wpAny_bind (PySem.W.ifBound_K X I hs hf (wpAny_mono h (fun v s' ⟨r, e, q⟩ => ?_) fun _ _ e => e))
  subst e
  exact wpAny_pure ⟨_, rfl, q⟩
theorem check_slot {M : Model} {i owner n : String} {self : Value} {rest : List Value} {Q : Unit → Shared → Prop} (hk : builtinKind i = some .slot) (hs : splitId i = some (owner, n)) (hi : PySem.W.Looks M s.heap (isInstance self (.type owner)) true) (ha : argsOk i ⟨self :: rest, []⟩) (q : Q () s) :
    wpAny M A (checkBuiltinCall i ⟨self :: rest, []⟩) Q E s := by
  simp only [checkBuiltinCall, hk, hs]
  refine wpAny_bind (hi.here ?_)
  simp only [Bool.not_true, Bool.false_eq_true, if_false]
  cases hsig : Manifest.signature? i with
  | none => exact wpAny_pure q
  | some sig =>
    simp only [argsOk, hsig] at ha
    have h2 : Bind.checkArgs i sig ⟨self :: rest, []⟩ = pure () := ha
    show wpAny _ _ (Bind.checkArgs i sig ⟨self :: rest, []⟩) _ _ s
    rw [h2]
    exact wpAny_pure q
theorem try_ne {Q : Value → Shared → Prop} (hu : A.units + 1 < cLine) (X : K.In s.heap) (I : PySem.W.InstAt s.heap a ox C od) (hs : PySem.W.findIn K (.ref C) "__eq__" = some (some (.ref f))) (hf : PySem.W.isFn K (.ref f) = true)
    (hn : PySem.W.findIn K (.ref C) "__ne__" = some (some (.builtin "object.__ne__"))) (hob : PySem.W.subIn K (.ref C) (.type "object") = some true)
    (h : wpAny (model prog w) A.in1 (call (.ref f) [.ref a, b]) (fun v s' => ∃ r, v = .bool r ∧ Q (.bool (!r)) s') E s) : wpAny (model prog w) A (tryCompare (.ref a) "__ne__" b) (fun r s' => ∃ v, r = some v ∧ Q v s') E s := by
  have io : PySem.W.Looks (model prog w) s.heap (isInstance (.ref a) (.type "object")) true := I.type.andThen (PySem.W.looks_subIn X hob)
  have S : Slot "object" "__ne__" "object.__ne__" := F.cmp_object.ne
  unfold tryCompare
  refine wpAny_bind ?_
  simp only [callSpecialIfBound?, bindSpecialIfBound?]
  refine wpAny_holding (wpAny_bind (wpAny_bind (wpAny_bind (I.type.here ((PySem.W.looks_findIn X hn).here ?_)))))
  simp only [S.bind]
  have go : ∀ {α : Type} {k : Value → Sem α} {Q' : α → Shared → Prop}, (∀ r s', Q (.bool r) s' → wpAny (model prog w) A (k (.bool r)) Q' E s') → wpAny (model prog w) A (call (.builtin "object.__ne__") ([.ref a] ++ [b]) >>= k) Q' E s := fun {α k Q'} hk => by
    refine wpAny_bind (wpAny_mono (Q := fun v s' => ∃ r, v = .bool r ∧ Q (.bool r) s') (wpAny_call (codeAny_call_builtin S.plain F.cmpEntry_ne (check_slot F.cmpKind_ne F.cmpSplit_ne io (F.cmpArgs_ne _ _) ?_))) (fun v s' ⟨r, e, q⟩ => by subst e; exact hk r s' q) fun _ _ e => e)
    obtain ⟨hp, g, d, tk, os⟩ := s
    unfold Builtin.«object.__ne__»
    repeat (first
      | with_reducible refine wpAny_cRoomFor (show A.in1.units < cLine from hu) ?_
      | (refine wpAny_bind (m := callSpecialIfBound? (.ref a) (Str.ofString "__eq__") [b]) (PySem.W.ifBound_K X I hs hf (wpAny_mono h (fun v s' hr => by
          obtain ⟨r, rfl, hq⟩ := hr
          repeat (first | exact ⟨_, rfl, hq⟩ | exact wpAny_pure ⟨_, rfl, hq⟩ | (refine wpAny_bind (m := truthy (.bool _)) (wpAny_truthy_bool ?_)) | wp_step)) fun _ _ e => e)))
      | wp_step)
  have fin : wpAny (model prog w) A (call (.builtin "object.__ne__") ([.ref a] ++ [b]) >>= fun v => pure (some v)) (fun r s' => ∃ z, r = some (.bool z) ∧ Q (.bool z) s') E s := go fun r s' q => wpAny_pure ⟨_, rfl, q⟩
  refine wpAny_bind (wpAny_askSetting (wpAny_ite ?_))
  split
  · refine wpAny_bind (wpAny_pure (wpAny_pure (wpAny_mono fin (fun r s' h => ?_) fun _ _ e => e)))
    obtain ⟨z, rfl, q⟩ := h
    exact wpAny_pure ⟨_, rfl, q⟩
  · refine wpAny_tryCatch (wpAny_bind (wpAny_pure (wpAny_pure (wpAny_mono fin (fun r s' h => ?_) fun _ _ e => e))))
    obtain ⟨z, rfl, q⟩ := h
    exact wpAny_pure ⟨_, rfl, q⟩
end
theorem eqBool_rc {Q : Bool → Shared → Prop} {v u : Value} (hne : (v == u) = false) (hf : ∀ x t, v ≠ .float x t) (h : wpAny (model prog w) A (richCompare .Eq v u) (fun r s' => ∃ b, r = .bool b ∧ Q b s') E s) : wpAny (model prog w) A (eqBool v u) Q E s := by
  unfold eqBool
  refine wpAny_holding ?_
  refine wpAny_ite_split (fun hab => absurd hab (by rw [hne]; decide)) (fun _ => ?_)
  have fin : wpAny (model prog w) A (richCompare .Eq v u >>= truthOfDropped) Q E s := wpAny_bind (wpAny_mono h (fun r s' ⟨b, e, q⟩ => by subst e; exact wpAny_truthy_bool q) fun _ _ e => e)
  cases v with
  | float x t => exact absurd rfl (hf x t)
  | _ => exact fin
end PySem.SeqAt
namespace Dk
open PySem L2 PySem.SeqAt
/-- a thing of a built-in type -/
def isPl : D → Bool
  | .obj _ _ => false
  | .opq _ => false
  | _ => true
/-- what a class with its own == has beside it -/
structure NeC (K : PySem.W.Frag) (C : Addr) : Prop where
  ne : PySem.W.findIn K (.ref C) "__ne__" = some (some (.builtin "object.__ne__"))
  ob : PySem.W.subIn K (.ref C) (.type "object") = some true
  lt : ∀ T ∈ SeqAt.seven, PySem.W.subIn K (.ref C) (.type T) = some false
  rt : ∀ T ∈ SeqAt.seven, PySem.W.subIn K (.type T) (.ref C) = some false
  ki : ∀ T ∈ SeqAt.seven, PySem.W.kitOne K (.type T) (.ref C) = some false
section
variable {F : Fx} {X : Cx} {pins : List (Addr × Obj)} {σ : St} {I H : Hp} {s : Shared} {C : Addr} {S : DSp} {k : Nat} {ps : List Str}
theorem pv_of {v : V} {u : Value} {d : D} {W : Wd} (J : Inv X pins σ H s) (st : StI W I H) (r : Rep X.K I v d) (p : isPl d = true) (rv : RelV v u) : ∃ T, Pv s.heap u T := by
  cases r with
  | non => cases rv; exact ⟨_, .non⟩
  | bl b => cases rv; exact ⟨_, .bl b⟩
  | int i => obtain ⟨t, rfl⟩ := rv; exact ⟨_, .int i t⟩
  | str x => obtain ⟨t, rfl⟩ := rv; exact ⟨_, .str x t⟩
  | tup h rs =>
    cases rv
    obtain ⟨its, _, ⟨o, ho, hc, _⟩, _⟩ := J.tuple (Same.seqT st.sub h)
    exact ⟨_, .tup ho hc⟩
  | ptp h hd rs =>
    cases rv
    obtain ⟨its, _, ⟨o, ho, hc, _⟩, _⟩ := J.tuple (.inl (.inr ⟨_, st.sub _ _ h⟩))
    exact ⟨_, .tup ho hc⟩
  | lst h rs =>
    cases rv
    obtain ⟨its, _, pl, _⟩ := J.list (SqL.of (st.sub _ _ h))
    obtain ⟨o, ho, hc, _⟩ := pl.isList
    exact ⟨_, .lst ho hc⟩
  | dic h _ rs =>
    cases rv
    obtain ⟨_, _, vs, _, o, es, ep, ho, hx, _⟩ := dk_of J.hok (st.sub _ _ h)
    exact ⟨_, .dic ho hx.1⟩
  | dfz h _ rs =>
    cases rv
    obtain ⟨_, q⟩ := J.hok _ _ (st.sub _ _ h)
    obtain ⟨_, _, vs, _, o, es, ep, ho, hx, _⟩ := (show ObjOk _ _ _ _ _ (.dK _) from q)
    exact ⟨_, .dic ho hx.1⟩
  | obj _ _ _ => cases p
  | opq _ => cases p
/-- == of two things one of which is an object of the class at C -/
def eqM (C : Addr) (S : DSp) (d e : D) (Q : Bool → Prop) : Prop :=
  (∃ fs, d = .obj C fs ∧ (isPl e = true ∨ ∃ gs, e = .obj C gs) ∧ S.f [d, e] (fun r => ∃ b, r = .bl b ∧ Q b) fun _ => False) ∨
  (isPl d = true ∧ ∃ gs, e = .obj C gs ∧ S.f [e, d] (fun r => ∃ b, r = .bl b ∧ Q b) fun _ => False)
theorem eqM.mono {d e : D} {Q Q' : Bool → Prop} (k : ∀ b, Q b → Q' b) (h : eqM C S d e Q) : eqM C S d e Q' := by
  rcases h with ⟨fs, e1, e2, h⟩ | ⟨e1, gs, e2, h⟩
  · exact .inl ⟨fs, e1, e2, S.mono _ _ _ _ _ (fun r ⟨b, e, q⟩ => ⟨b, e, k _ q⟩) (fun _ h => h) h⟩
  · exact .inr ⟨e1, gs, e2, S.mono _ _ _ _ _ (fun r ⟨b, e, q⟩ => ⟨b, e, k _ q⟩) (fun _ h => h) h⟩
/-- the rich comparison at a place below -/
theorem rc_eqM (c : CalM X.prog X.w X.K X.mg X.base CX0 F.W k C "__eq__" ps S) (nc : NeC X.K C) {A : Around} (hr : Rm k A) (hfr : A.frames = X.A.frames) (hu : A.units + 1 < cLine) {x y : V} {v u : Value} {d e : D} {Q : Bool → Prop} (J : Inv X pins σ H s) (st : StI F.W I H) (rx : RelV x v) (ry : RelV y u) (rd : Rep X.K I x d) (re : Rep X.K I y e) (h : eqM C S d e Q) :
    wpAny (model X.prog X.w) A (richCompare .Eq v u) (fun r s' => ∃ b I' H', r = .bool b ∧ Inv X pins σ H' s' ∧ Stp F.W I H I' H' ∧ Q b) X.xe s := by
  obtain ⟨f, fd, cl, me, G, B, _⟩ := c.ex
  have call : ∀ {x y : V} {v u : Value} {d e : D}, RelV x v → RelV y u → Rep X.K I x d → Rep X.K I y e → S.f [d, e] (fun r => ∃ b, r = .bl b ∧ Q b) (fun _ => False) → wpAny (model X.prog X.w) A (call (.ref f) [v, u]) (fun r s' => ∃ b, r = .bool b ∧ ∃ b' I' H', Value.bool b = .bool b' ∧ Inv X pins σ H' s' ∧ Stp F.W I H I' H' ∧ Q b') X.xe s := fun {x y v u d e} rx ry rd re h => by
    have sp : spD F.W X.K S [x, y] H (fun w H' => ∃ b I', w = .bl b ∧ Stp F.W I H I' H' ∧ Q b) (fun _ _ _ => False) := ⟨I, [d, e], st, .cons rd (.cons re .nil), S.mono _ _ _ _ _ (fun r ⟨b, eb, q⟩ w I' H' sm rw' => by
      subst eb
      cases rw'
      exact ⟨b, I', rfl, sm, q⟩) (fun _ h => h.elim) h⟩
    refine wpAny_mono (gn_at G hr hfr B pass0 J (.cons rx (.cons ry .nil)) sp) (fun r s' ⟨w, H', J', rw', b, I', eb, sm, q⟩ => ?_) fun _ _ e => e
    subst eb
    cases rw'
    exact ⟨b, rfl, b, I', H', rfl, J', sm, q⟩
  rcases h with ⟨fs, rfl, he, h⟩ | ⟨pl, gs, rfl, h⟩
  · obtain ⟨a, dx, ws, rfl, hi⟩ := rd.ins
    cases rx
    obtain ⟨ox, od, Ia⟩ := J.inst (st.sub _ _ hi)
    obtain ⟨tb, hb, hn⟩ : ∃ tb, PySem.W.Looks (model X.prog X.w) s.heap (typeOf u) tb ∧ PySem.W.notFirst X.K C tb = true := by
      rcases he with he | ⟨gs, rfl⟩
      · obtain ⟨T, p⟩ := pv_of J st re he ry
        exact ⟨_, p.looks, by simp [PySem.W.notFirst, nc.rt T p.seven]⟩
      · obtain ⟨b, dy, us, rfl, hj⟩ := re.ins
        cases ry
        obtain ⟨oy, od', Ib⟩ := J.inst (st.sub _ _ hj)
        exact ⟨_, Ib.type, by simp [PySem.W.notFirst]⟩
    exact rc_first (by omega) J.kIn Ia hb hn (try_eq J.kIn Ia me.at_ me.fn (call (x := .ref a) rfl ry rd re h))
  · obtain ⟨a, dx, ws, rfl, hi⟩ := re.ins
    cases ry
    obtain ⟨ox, od, Ia⟩ := J.inst (st.sub _ _ hi)
    obtain ⟨T, p⟩ := pv_of J st rd pl rx
    have ho : s.heap.get? a = some (PySem.W.instObj C dx) := (ins_get J.hok (st.sub _ _ hi)).choose_spec.1.1
    have n7 : ∀ T ∈ SeqAt.seven, NoT X.prog X.w s.heap a T := fun T hT => Ia.type.andThen (PySem.W.looks_subIn J.kIn (nc.lt T hT))
    exact rc_back (by omega) J.kIn Ia p (nc.lt T p.seven) (fun Q' q => decl_eq p ho n7 q) (try_eq J.kIn Ia me.at_ me.fn (call (x := .ref a) rfl rx re rd h))
end
end Dk
theorem PySem.SeqAt.Pv.noInst {h : PySem.Heap} {a C : PySem.Addr} {T : String} {ox : PySem.Obj} (p : PySem.SeqAt.Pv h (.ref a) T) (h1 : h.get? a = some ox) (h2 : ox.cls = .ref C) : False := by
  cases p with
  | lst e c => rw [h1] at e; cases e; rw [h2] at c; cases c
  | tup e c => rw [h1] at e; cases e; rw [h2] at c; cases c
  | dic e c => rw [h1] at e; cases e; rw [h2] at c; cases c
namespace Dk
open PySem L2 PySem.SeqAt
mutual
def rigT : D → Bool
  | .str _ => true
  | .tup xs => rigTs xs
  | _ => false
def rigTs : List D → Bool
  | [] => true
  | d :: ds => rigT d && rigTs ds
end
/-- a relation over data as one over values -/
def R2D (W : Wd) (K : PySem.W.Frag) (r : D → D → (D → Prop) → Prop) : R2 := fun x y H Q => ∃ I d e, StI W I H ∧ Rep K I x d ∧ Rep K I y e ∧ r d e (fun z => ∀ v I' H', Stp W I H I' H' → Rep K I' v z → Q v H')
theorem lf_R2D {F : Fx} {K : PySem.W.Frag} {r : D → D → (D → Prop) → Prop} : LiftR F K (R2D F.W K r) r := fun x y dx dy I H Q st rx ry h => ⟨I, dx, dy, st, rx, ry, h⟩
section
variable {F : Fx} {X : Cx} {pins : List (Addr × Obj)} {σ : St} {I H : Hp} {s : Shared} {C : Addr} {S : DSp} {k : Nat} {ps : List Str} {a b e : Expr} {ta tb te : DT} {pos : Pos} {nm x : Str}
theorem rc_neM (c : CalM X.prog X.w X.K X.mg X.base CX0 F.W k C "__eq__" ps S) (nc : NeC X.K C) {A : Around} (hr : Rm (k + 1) A) (hfr : A.frames = X.A.frames) (hu : A.units + 1 < cLine) {x y : V} {v u : Value} {d e : D} {Q : Bool → Prop} (J : Inv X pins σ H s) (st : StI F.W I H) (rx : RelV x v) (ry : RelV y u) (rd : Rep X.K I x d) (re : Rep X.K I y e) (h : eqM C S d e Q) :
    wpAny (model X.prog X.w) A (richCompare .NotEq v u) (fun r s' => ∃ b I' H', r = .bool (!b) ∧ Inv X pins σ H' s' ∧ Stp F.W I H I' H' ∧ Q b) X.xe s := by
  obtain ⟨f, fd, cl, me, G, B, _⟩ := c.ex
  have call : ∀ {x y : V} {v u : Value} {d e : D}, RelV x v → RelV y u → Rep X.K I x d → Rep X.K I y e → S.f [d, e] (fun r => ∃ b, r = .bl b ∧ Q b) (fun _ => False) → wpAny (model X.prog X.w) A.in1 (call (.ref f) [v, u]) (fun r s' => ∃ b, r = .bool b ∧ ∃ b' I' H', Value.bool (!b) = .bool (!b') ∧ Inv X pins σ H' s' ∧ Stp F.W I H I' H' ∧ Q b') X.xe s := fun {x y v u d e} rx ry rd re h => by
    have sp : spD F.W X.K S [x, y] H (fun w H' => ∃ b I', w = .bl b ∧ Stp F.W I H I' H' ∧ Q b) (fun _ _ _ => False) := ⟨I, [d, e], st, .cons rd (.cons re .nil), S.mono _ _ _ _ _ (fun r ⟨b, eb, q⟩ w I' H' sm rw' => by
      subst eb
      cases rw'
      exact ⟨b, I', rfl, sm, q⟩) (fun _ h => h.elim) h⟩
    refine wpAny_mono (gn_at G hr.in1 hfr B pass0 J (.cons rx (.cons ry .nil)) sp) (fun r s' ⟨w, H', J', rw', b, I', eb, sm, q⟩ => ?_) fun _ _ e => e
    subst eb
    cases rw'
    exact ⟨b, rfl, b, I', H', rfl, J', sm, q⟩
  rcases h with ⟨fs, rfl, he, h⟩ | ⟨pl, gs, rfl, h⟩
  · obtain ⟨a, dx, ws, rfl, hi⟩ := rd.ins
    cases rx
    obtain ⟨ox, od, Ia⟩ := J.inst (st.sub _ _ hi)
    obtain ⟨tb, hb, hn⟩ : ∃ tb, PySem.W.Looks (model X.prog X.w) s.heap (typeOf u) tb ∧ PySem.W.notFirst X.K C tb = true := by
      rcases he with he | ⟨gs, rfl⟩
      · obtain ⟨T, p⟩ := pv_of J st re he ry
        exact ⟨_, p.looks, by simp [PySem.W.notFirst, nc.rt T p.seven]⟩
      · obtain ⟨b, dy, us, rfl, hj⟩ := re.ins
        cases ry
        obtain ⟨oy, od', Ib⟩ := J.inst (st.sub _ _ hj)
        exact ⟨_, Ib.type, by simp [PySem.W.notFirst]⟩
    exact rc_first (by omega) J.kIn Ia hb hn (try_ne hu J.kIn Ia me.at_ me.fn nc.ne nc.ob (call (x := .ref a) rfl ry rd re h))
  · obtain ⟨a, dx, ws, rfl, hi⟩ := re.ins
    cases ry
    obtain ⟨ox, od, Ia⟩ := J.inst (st.sub _ _ hi)
    obtain ⟨T, p⟩ := pv_of J st rd pl rx
    have ho : s.heap.get? a = some (PySem.W.instObj C dx) := (ins_get J.hok (st.sub _ _ hi)).choose_spec.1.1
    have n7 : ∀ T ∈ SeqAt.seven, NoT X.prog X.w s.heap a T := fun T hT => Ia.type.andThen (PySem.W.looks_subIn J.kIn (nc.lt T hT))
    exact rc_back (by omega) J.kIn Ia p (nc.lt T p.seven) (fun Q' q => decl_ne p ho n7 q) (try_ne hu J.kIn Ia me.at_ me.fn nc.ne nc.ob (call (x := .ref a) rfl rx re rd h))
def eqMD (C : Addr) (S : DSp) (d e : D) (Q : D → Prop) : Prop := eqM C S d e fun b => Q (.bl b)
def neMD (C : Addr) (S : DSp) (d e : D) (Q : D → Prop) : Prop := eqM C S d e fun b => Q (.bl (!b))
theorem or_eqM (c : CalM X.prog X.w X.K X.mg X.base CX0 F.W k C "__eq__" ps S) (nc : NeC X.K C) (hr : Rm (k + 1) X.A) (hu : X.A.units + 64 < cLine) : OpR X (compareOp .Eq) (R2D F.W X.K (eqMD C S)) := by
  intro pins s σ H x y v u Q J rx ry ⟨I, d, e, st, rd, re, h⟩
  show wpAny _ _ (richCompare .Eq v u) _ _ s
  refine wpAny_mono (rc_eqM c nc (hr.mono (by omega)) rfl (by omega) J st rx ry rd re h) (fun r s' ⟨b, I', H', e, J', sm, q⟩ => ?_) fun _ _ e => e
  subst e
  exact ⟨.bl b, H', J', rfl, q _ I' H' sm (.bl b)⟩
theorem or_neM (c : CalM X.prog X.w X.K X.mg X.base CX0 F.W k C "__eq__" ps S) (nc : NeC X.K C) (hr : Rm (k + 1) X.A) (hu : X.A.units + 64 < cLine) : OpR X (compareOp .NotEq) (R2D F.W X.K (neMD C S)) := by
  intro pins s σ H x y v u Q J rx ry ⟨I, d, e, st, rd, re, h⟩
  show wpAny _ _ (richCompare .NotEq v u) _ _ s
  refine wpAny_mono (rc_neM c nc hr rfl (by omega) J st rx ry rd re h) (fun r s' ⟨b, I', H', e, J', sm, q⟩ => ?_) fun _ _ e => e
  subst e
  exact ⟨.bl (!b), H', J', rfl, q _ I' H' sm (.bl (!b))⟩
theorem de_eqM (c : CalM X.prog X.w X.K X.mg X.base CX0 F.W k C "__eq__" ps S) (nc : NeC X.K C) (hr : Rm (k + 1) X.A) (hu : X.A.units + 64 < cLine) (ha : DE F X a ta) (hb : DE F X b tb) (hm : behindInMarks .Eq b = false := by rfl) : DE F X (.Compare a [.Eq] [b] pos) (fun ρ Q => ta ρ fun x => tb ρ fun y => eqMD C S x y Q) :=
  de_cmp (fun _ _ _ _ k h => h.mono fun b => k _) (or_eqM c nc hr hu) lf_R2D ha hb hm
theorem de_neM (c : CalM X.prog X.w X.K X.mg X.base CX0 F.W k C "__eq__" ps S) (nc : NeC X.K C) (hr : Rm (k + 1) X.A) (hu : X.A.units + 64 < cLine) (ha : DE F X a ta) (hb : DE F X b tb) (hm : behindInMarks .NotEq b = false := by rfl) : DE F X (.Compare a [.NotEq] [b] pos) (fun ρ Q => ta ρ fun x => tb ρ fun y => neMD C S x y Q) :=
  de_cmp (fun _ _ _ _ k h => h.mono fun b => k _) (or_neM c nc hr hu) lf_R2D ha hb hm
end
section
variable {X : Cx} {pins : List (Addr × Obj)} {σ : St} {I H : Hp} {s : Shared} {W : Wd}
mutual
/-- what is made of tuples and texts alone is one thing -/
theorem rep_fun (J : Inv X pins σ H s) (st : StI W I H) : ∀ {v : V} {d : D}, Rep X.K I v d → ∀ {e : D}, Rep X.K I v e → rigT d = true → rigT e = true → d = e
  | _, _, .str x => fun h r r' => by cases h; rfl
  | _, _, .tup ha rs => fun h r r' => by
    cases h with
    | @tup _ ws es hb rs' =>
      have := J.tuple_inj (Same.seqT st.sub ha) (Same.seqT st.sub hb)
      subst this
      rw [rigT] at r r'
      rw [rep_funs J st rs rs' r r']
    | _ => simp [rigT] at r'
  | _, _, .non => fun _ r _ => by simp [rigT] at r
  | _, _, .bl _ => fun _ r _ => by simp [rigT] at r
  | _, _, .int _ => fun _ r _ => by simp [rigT] at r
  | _, _, .lst _ _ => fun _ r _ => by simp [rigT] at r
  | _, _, .dic _ _ _ => fun _ r _ => by simp [rigT] at r
  | _, _, .obj _ _ _ => fun _ r _ => by simp [rigT] at r
  | _, _, .opq _ => fun _ r _ => by simp [rigT] at r
  | _, _, .dfz _ _ _ => fun _ r _ => by simp [rigT] at r
  | _, _, .ptp _ _ _ => fun _ r _ => by simp [rigT] at r
theorem rep_funs (J : Inv X pins σ H s) (st : StI W I H) : ∀ {vs : List V} {ds : List D}, Reps X.K I vs ds → ∀ {es : List D}, Reps X.K I vs es → rigTs ds = true → rigTs es = true → ds = es
  | _, _, .nil => fun h _ _ => by cases h; rfl
  | _, _, .cons p ps => fun h r r' => by
    cases h with
    | cons q qs =>
      rw [rigTs, Bool.and_eq_true] at r r'
      rw [rep_fun J st p q r.1 r'.1, rep_funs J st ps qs r.2 r'.2]
end
end
/-- == of two items: the same object is equal to itself -/
def itM (C : Addr) (nm : Str) (S : DSp) (d e : D) (Q : Bool → Prop) : Prop :=
  (eqM C S d e Q ∧ ∀ fs gs, d = .obj C fs → e = .obj C gs → ∃ t t' fs' gs', fs = (nm, t) :: fs' ∧ gs = (nm, t') :: gs' ∧ rigT t = true ∧ rigT t' = true ∧ (t = t' → Q true)) ∨ ∃ i j, d = .int i ∧ e = .int j ∧ Q (i == j)
def tupM (C : Addr) (nm : Str) (S : DSp) : List D → List D → (Bool → Prop) → Prop
  | [], [], Q => Q true
  | d :: ds, e :: es, Q => itM C nm S d e fun b => (b = true → tupM C nm S ds es Q) ∧ (b = false → Q false)
  | _, _, _ => False
def inM (C : Addr) (nm : Str) (S : DSp) (x : D) : List D → (Bool → Prop) → Prop
  | [], Q => Q false
  | y :: ys, Q => itM C nm S y x fun b => (b = true → Q true) ∧ (b = false → inM C nm S x ys Q)
theorem itM.mono {C : Addr} {nm : Str} {S : DSp} {d e : D} {Q Q' : Bool → Prop} (k : ∀ b, Q b → Q' b) (h : itM C nm S d e Q) : itM C nm S d e Q' := by
  rcases h with ⟨h, g⟩ | ⟨i, j, e1, e2, q⟩
  · refine .inl ⟨h.mono k, fun fs gs e1 e2 => ?_⟩
    obtain ⟨t, t', fs', gs', a, b, c, d, q⟩ := g fs gs e1 e2
    exact ⟨t, t', fs', gs', a, b, c, d, fun z => k _ (q z)⟩
  · exact .inr ⟨i, j, e1, e2, k _ q⟩
theorem tupM.mono {C : Addr} {nm : Str} {S : DSp} {Q Q' : Bool → Prop} (k : ∀ b, Q b → Q' b) : ∀ {ds es : List D}, tupM C nm S ds es Q → tupM C nm S ds es Q'
  | [], [], h => k _ h
  | d :: ds, e :: es, h => itM.mono (fun b q => ⟨fun z => tupM.mono k (q.1 z), fun z => k _ (q.2 z)⟩) h
  | [], _ :: _, h => h.elim
  | _ :: _, [], h => h.elim
theorem inM.mono {C : Addr} {nm : Str} {S : DSp} {x : D} {Q Q' : Bool → Prop} (k : ∀ b, Q b → Q' b) : ∀ {ys : List D}, inM C nm S x ys Q → inM C nm S x ys Q'
  | [], h => k _ h
  | y :: ys, h => itM.mono (fun b q => ⟨fun z => k _ (q.1 z), fun z => inM.mono k (q.2 z)⟩) h
section
variable {F : Fx} {X : Cx} {pins : List (Addr × Obj)} {σ : St} {I H : Hp} {s : Shared} {C : Addr} {S : DSp} {k : Nat} {ps : List Str} {a b e : Expr} {ta tb te : DT} {pos : Pos} {nm x : Str}
theorem eqBool_itM (c : CalM X.prog X.w X.K X.mg X.base CX0 F.W k C "__eq__" ps S) (nc : NeC X.K C) {A : Around} (hr : Rm k A) (hfr : A.frames = X.A.frames) (hu : A.units + 1 < cLine) {x y : V} {v u : Value} {d e : D} {Q : Bool → Prop} (J : Inv X pins σ H s) (st : StI F.W I H) (rx : RelV x v) (ry : RelV y u) (rd : Rep X.K I x d) (re : Rep X.K I y e) (h : itM C nm S d e Q) :
    wpAny (model X.prog X.w) A (eqBool v u) (fun b s' => ∃ I' H', Inv X pins σ H' s' ∧ Stp F.W I H I' H' ∧ Q b) X.xe s := by
  rcases h with ⟨h, g⟩ | ⟨i, j, rfl, rfl, q⟩
  · have hfl : ∀ x t, v ≠ .float x t := fun x t z => by
      subst z
      rcases h with ⟨fs, rfl, _⟩ | ⟨pl, _⟩
      · obtain ⟨a, dx, ws, rfl, hi⟩ := rd.ins
        cases rx
      · obtain ⟨T, p⟩ := pv_of J st rd pl rx
        cases p
    by_cases hvu : v = u
    · subst hvu
      rcases h with ⟨fs, rfl, he, h⟩ | ⟨pl, gs, rfl, h⟩
      · obtain ⟨a, dx, ws, rfl, hi⟩ := rd.ins
        cases rx
        obtain ⟨ox, od, Ia⟩ := J.inst (st.sub _ _ hi)
        rcases he with he | ⟨gs, rfl⟩
        · exfalso
          obtain ⟨T, p⟩ := pv_of J st re he ry
          exact p.noInst Ia.at_ Ia.cls
        · obtain ⟨t, t', fs', gs', rfl, rfl, r, r', q⟩ := g fs gs rfl rfl
          have eq : t = t' := by
            cases rd with
            | obj h1 k1 r1 =>
              obtain ⟨b, dy, us, rfl, hj⟩ := re.ins
              cases ry
              cases re with
              | obj h2 k2 r2 =>
                rw [h1] at h2
                cases h2
                rename_i ws'
                cases ws' with
                | nil => cases k1
                | cons w ws' =>
                  rw [List.map_cons, List.map_cons] at r1 r2
                  cases r1 with
                  | cons p1 _ =>
                    cases r2 with
                    | cons p2 _ => exact rep_fun J st p1 p2 r r'
          exact SeqAt.EqAt.same (A := A) (s := s) _ X.prog X.w X.xe _ ⟨I, H, J, st.stp, q eq⟩
      · obtain ⟨a, dx, ws, rfl, hi⟩ := re.ins
        cases ry
        obtain ⟨ox, od, Ia⟩ := J.inst (st.sub _ _ hi)
        exfalso
        obtain ⟨T, p⟩ := pv_of J st rd pl rx
        exact p.noInst Ia.at_ Ia.cls
    · refine eqBool_rc (beq_eq_false_iff_ne.mpr hvu) hfl (wpAny_mono (rc_eqM c nc hr hfr hu J st rx ry rd re h) (fun r s' ⟨b, I', H', e, J', sm, q⟩ => ⟨b, e, I', H', J', sm, q⟩) fun _ _ e => e)
  · cases rd
    cases re
    obtain ⟨t, rfl⟩ := rx
    obtain ⟨t', rfl⟩ := ry
    exact SeqAt.EqAt.int_int (A := A) (s := s) i t j t' X.prog X.w X.xe _ ⟨I, H, J, st.stp, q⟩
def eqTupD (C : Addr) (nm : Str) (S : DSp) (d e : D) (Q : D → Prop) : Prop := ∃ ds es, d = .tup ds ∧ e = .tup es ∧ ds.length = es.length ∧ tupM C nm S ds es fun b => Q (.bl b)
def inTupD (C : Addr) (nm : Str) (S : DSp) (d e : D) (Q : D → Prop) : Prop := ∃ es, e = .tup es ∧ inM C nm S d es fun b => Q (.bl b)
theorem or_eqTup (c : CalM X.prog X.w X.K X.mg X.base CX0 F.W k C "__eq__" ps S) (nc : NeC X.K C) (hr : Rm (k + 1) X.A) (hu : X.A.units + 64 < cLine) : OpR X (compareOp .Eq) (R2D F.W X.K (eqTupD C nm S)) := by
  intro pins s σ H x y v u Q J rx ry ⟨I, d, e, st, rd, re, ds, es, ed, ee, hl, h⟩
  subst ed ee
  cases rd with
  | @tup a vs _ ha rs =>
    cases re with
    | @tup b ws _ hb rs' =>
      cases rx
      cases ry
      obtain ⟨its, rv, hT, z⟩ := J.tuple (Same.seqT st.sub ha)
      obtain ⟨its2, rv2, hT2, z2⟩ := J.tuple (Same.seqT st.sub hb)
      have l1 := rv.length
      have l2 := rv2.length
      have l3 := rs.length
      have l4 := rs'.length
      show wpAny _ _ (richCompare .Eq (.ref a) (.ref b)) _ _ s
      refine rc_tupR (by simp; omega) (by omega) (fun i s' => ∃ I' H', Inv X pins σ H' s' ∧ Stp F.W I H I' H' ∧ tupM C nm S (ds.drop i) (es.drop i) fun b => ∀ v I' H', Stp F.W I H I' H' → Rep X.K I' v (.bl b) → Q v H') hT hT2 (fun i h1 h2 s' ⟨I', H', J', sm, h⟩ => ?_) (fun s' ⟨I', H', J', sm, h⟩ => ?_) ⟨I, H, J, st.stp, by simpa using h⟩
      · have k1 : i < ds.length := by simp at h1; omega
        have k2 : i < es.length := by omega
        rw [List.drop_eq_getElem_cons k1, List.drop_eq_getElem_cons k2] at h
        obtain ⟨w1, hw1, p1⟩ := rs.get (List.getElem?_eq_getElem k1)
        obtain ⟨w2, hw2, p2⟩ := rs'.get (List.getElem?_eq_getElem k2)
        obtain ⟨u1, hu1, q1⟩ := rv.get hw1
        obtain ⟨u2, hu2, q2⟩ := rv2.get hw2
        have e1 : its.toArray[i] = u1 := by
          have : its[i]? = some u1 := hu1
          have h1' : i < its.length := by simpa using h1
          rw [List.getElem?_eq_getElem h1'] at this
          simpa using this
        have e2 : its2.toArray[i] = u2 := by
          have : its2[i]? = some u2 := hu2
          have h2' : i < its2.length := by simpa using h2
          rw [List.getElem?_eq_getElem h2'] at this
          simpa using this
        rw [e1, e2]
        refine wpAny_mono (eqBool_itM c nc hr.in1 rfl (by show X.A.units + 1 + 1 < cLine; omega) J' sm.st q1 q2 (p1.mono sm.i) (p2.mono sm.i) h) (fun r s2 ⟨I2, H2, J2, sm2, q⟩ => ?_) fun _ _ e => e
        cases r with
        | true => exact .inl ⟨rfl, I2, H2, J2, sm.trans sm2, q.1 rfl⟩
        | false => exact .inr ⟨rfl, .bl false, H2, J2, rfl, q.2 rfl _ _ _ (sm.trans sm2) (.bl _)⟩
      · have d1 : ds.drop its.toArray.size = [] := List.drop_eq_nil_of_le (by simp; omega)
        have d2 : es.drop its.toArray.size = [] := List.drop_eq_nil_of_le (by simp; omega)
        rw [d1, d2] at h
        exact ⟨.bl true, H', J', rfl, h _ _ _ sm (.bl _)⟩
theorem de_eqTup (c : CalM X.prog X.w X.K X.mg X.base CX0 F.W k C "__eq__" ps S) (nc : NeC X.K C) (hr : Rm (k + 1) X.A) (hu : X.A.units + 64 < cLine) (nm : Str) (ha : DE F X a ta) (hb : DE F X b tb) (hm : behindInMarks .Eq b = false := by rfl) : DE F X (.Compare a [.Eq] [b] pos) (fun ρ Q => ta ρ fun x => tb ρ fun y => eqTupD C nm S x y Q) :=
  de_cmp (fun _ _ _ _ k ⟨ds, es, e1, e2, hl, h⟩ => ⟨ds, es, e1, e2, hl, h.mono fun b => k _⟩) (or_eqTup c nc hr hu) lf_R2D ha hb hm
theorem or_inTup (c : CalM X.prog X.w X.K X.mg X.base CX0 F.W k C "__eq__" ps S) (nc : NeC X.K C) (hr : Rm (k + 1) X.A) (hu : X.A.units + 64 < cLine) : OpR X (compareOp .In) (R2D F.W X.K (inTupD C nm S)) := by
  intro pins s σ H x y v u Q J rx ry ⟨I, d, e, st, rd, re, es, ee, h⟩
  subst ee
  cases re with
  | @tup b ws _ hb rs' =>
    cases ry
    obtain ⟨its, rv, hT, z⟩ := J.tuple (Same.seqT st.sub hb)
    refine in_tupR (fun rest s' => ∃ I' H', Inv X pins σ H' s' ∧ Stp F.W I H I' H' ∧ ∃ vs ds, Vals vs rest ∧ Reps X.K I' vs ds ∧ inM C nm S d ds fun b => ∀ v I' H', Stp F.W I H I' H' → Rep X.K I' v (.bl b) → Q v H') hT (fun y rest s' ⟨I', H', J', sm, vs, ds, rw', rp, h⟩ => ?_) (fun s' ⟨I', H', J', sm, vs, ds, rw', rp, h⟩ => ?_) ⟨I, H, J, st.stp, ws, es, by simpa using rv, rs', h⟩
    · cases rw' with
      | cons q1 qs =>
        cases rp with
        | cons p1 pr =>
          refine wpAny_mono (eqBool_itM c nc hr.in1 rfl (by show X.A.units + 1 + 1 < cLine; omega) J' sm.st q1 rx p1 (rd.mono sm.i) h) (fun r s2 ⟨I2, H2, J2, sm2, q⟩ => ?_) fun _ _ e => e
          cases r with
          | true => exact .inr ⟨rfl, .bl true, H2, J2, rfl, q.1 rfl _ _ _ (sm.trans sm2) (.bl _)⟩
          | false => exact .inl ⟨rfl, I2, H2, J2, sm.trans sm2, _, _, qs, Reps.mono sm2.i pr, q.2 rfl⟩
    · cases rw'
      cases rp
      exact ⟨.bl false, H', J', rfl, h _ _ _ sm (.bl _)⟩
theorem de_inTup (c : CalM X.prog X.w X.K X.mg X.base CX0 F.W k C "__eq__" ps S) (nc : NeC X.K C) (hr : Rm (k + 1) X.A) (hu : X.A.units + 64 < cLine) (nm : Str) (ha : DE F X a ta) (hb : DE F X b tb) (hm : behindInMarks .In b = false := by first | exact nomark _ | rfl) : DE F X (.Compare a [.In] [b] pos) (fun ρ Q => ta ρ fun x => tb ρ fun y => inTupD C nm S x y Q) :=
  de_cmp (fun _ _ _ _ k ⟨es, e1, h⟩ => ⟨es, e1, h.mono fun b => k _⟩) (or_inTup c nc hr hu) lf_R2D ha hb hm
end
end Dk
namespace KB
open PySem L2 Dk
/-- kinds such as a book has, with worths or without -/
structure Wel (ks : List Kind) : Prop where
  ne : ks ≠ []
  kn : ∀ k ∈ ks, nameOk k.1 = true
  kb : ∀ k ∈ ks, k.2 ≠ []
  bn : ∀ k ∈ ks, ∀ b ∈ k.2, nameOk b.1 = true
  nd : (kNames ks).Nodup
  bd : (bNames ks).Nodup
  fl : ∀ k ∈ ks, ∀ b ∈ k.2, ∀ f ∈ b.2, f = numS ∨ f ∈ kNames ks
  s1 : ks.length ≤ 6
  s2 : ∀ k ∈ ks, k.2.length ≤ 8
  s3 : ∀ k ∈ ks, ∀ b ∈ k.2, b.2.length ≤ 8
theorem Good.wel {ks : List Kind} (g : Good ks) : Wel ks := ⟨g.ne, g.kn, g.kb, g.bn, g.nd, g.bd, g.fl, g.s1, g.s2, g.s3⟩
theorem Wel.field {ks : List Kind} (g : Wel ks) {k : Kind} (hk : k ∈ ks) {b : Bough} (hb : b ∈ k.2) {f : Str} (hf : f ∈ b.2) : OkN 0 (.str f) := by
  rcases g.fl k hk b hb f hf with rfl | h
  · exact okN_num
  · obtain ⟨k', h1, rfl⟩ := List.mem_map.mp h
    exact okN_name (g.kn k' h1)
theorem Wel.okBough {ks : List Kind} (g : Wel ks) {k : Kind} (hk : k ∈ ks) {b : Bough} (hb : b ∈ k.2) : OkN 2 (boughD b) := okN_tup (k := 1) fun x hx => by
  simp only [List.mem_cons, List.not_mem_nil, or_false] at hx
  rcases hx with rfl | rfl
  · exact (okN_name (g.bn k hk b hb)).mono (by decide)
  · refine okN_tup (k := 0) fun y hy => ?_
    obtain ⟨f, hf, rfl⟩ := List.mem_map.mp hy
    exact g.field hk hb hf
theorem Wel.okKind {ks : List Kind} (g : Wel ks) {k : Kind} (hk : k ∈ ks) : OkN 4 (kindD k) := okN_tup (k := 3) fun x hx => by
  simp only [List.mem_cons, List.not_mem_nil, or_false] at hx
  rcases hx with rfl | rfl
  · exact (okN_name (g.kn k hk)).mono (by decide)
  · refine okN_tup (k := 2) fun y hy => ?_
    obtain ⟨b, hb, rfl⟩ := List.mem_map.mp hy
    exact g.okBough hk hb
theorem Wel.ok {ks : List Kind} (g : Wel ks) : OkN 5 (kindsD ks) := okN_tup (k := 4) fun x hx => by
  obtain ⟨k, hk, rfl⟩ := List.mem_map.mp hx
  exact g.okKind hk
def goodB (S : Str → Bool) (b : Bough) : Bool := b.2.all fun f => decide (f = numS) || S f
def stepK (S : Str → Bool) (k : Kind) : Str → Bool := fun f => S f || (decide (f = k.1) && k.2.any (goodB S))
def rnd (ks : List Kind) (S : Str → Bool) : Str → Bool := ks.foldl stepK S
def rnds (ks : List Kind) : Nat → Str → Bool
  | 0 => fun _ => false
  | n + 1 => rnd ks (rnds ks n)
def wthy (ks : List Kind) : Str → Bool := rnds ks ks.length
theorem stepK_up {S : Str → Bool} {k : Kind} {f : Str} (h : S f = true) : stepK S k f = true := by unfold stepK; rw [h]; rfl
theorem fold_up : ∀ {ks : List Kind} {S : Str → Bool} {f : Str}, S f = true → ks.foldl stepK S f = true
  | [], S, f, h => h
  | k :: ks, S, f, h => fold_up (ks := ks) (stepK_up h)
theorem goodB_up {S S' : Str → Bool} {b : Bough} (k : ∀ f, S f = true → S' f = true) (h : goodB S b = true) : goodB S' b = true := by
  unfold goodB at h ⊢
  rw [List.all_eq_true] at h ⊢
  intro f hf
  have := h f hf
  rw [Bool.or_eq_true] at this ⊢
  exact this.imp id (k f)
theorem fold_has : ∀ {ks : List Kind} {S : Str → Bool} {k : Kind} {b : Bough}, k ∈ ks → b ∈ k.2 → goodB S b = true → ks.foldl stepK S k.1 = true
  | [], _, _, _, h, _, _ => by cases h
  | x :: ks, S, k, b, h, hb, g => by
    rw [List.foldl_cons]
    rcases List.mem_cons.mp h with rfl | h
    · refine fold_up ?_
      unfold stepK
      rw [Bool.or_eq_true]
      refine .inr ?_
      rw [Bool.and_eq_true, decide_eq_true_eq]
      exact ⟨rfl, List.any_eq_true.mpr ⟨b, hb, g⟩⟩
    · exact fold_has h hb (goodB_up (fun f => stepK_up) g)
/-- by ranks each is found -/
theorem rnds_rank {ks ks' : List Kind} {r : Str → Nat} (hs : ∀ k ∈ ks, k ∈ ks') (hr : ∀ k ∈ ks, ∃ b ∈ k.2, ∀ f ∈ b.2, f = numS ∨ (f ∈ kNames ks ∧ r f < r k.1)) : ∀ (n : Nat) (k : Kind), k ∈ ks → r k.1 < n → rnds ks' n k.1 = true
  | 0, k, hk, h => by omega
  | n + 1, k, hk, h => by
    obtain ⟨b, hb, hf⟩ := hr k hk
    refine fold_has (hs k hk) hb ?_
    unfold goodB
    rw [List.all_eq_true]
    intro f hf'
    rw [Bool.or_eq_true, decide_eq_true_eq]
    rcases hf f hf' with e | ⟨h1, h2⟩
    · exact .inl e
    · obtain ⟨k', hk', rfl⟩ := List.mem_map.mp h1
      exact .inr (rnds_rank hs hr n k' hk' (by omega))
theorem Good.wthy {ks : List Kind} (g : Good ks) {ks' : List Kind} (hs : ∀ k ∈ ks, k ∈ ks') (hl : ks.length ≤ ks'.length) : ∀ k ∈ ks, wthy ks' k.1 = true := fun k hk => by
  obtain ⟨r, hr⟩ := g.wf0
  exact rnds_rank hs (fun k hk => (hr k hk).2) _ k hk (Nat.lt_of_lt_of_le (hr k hk).1 hl)
/-- kinds all of whose boughs want one of themselves are not found -/
theorem fold_not {U : Str → Prop} : ∀ {ks : List Kind} {S : Str → Bool}, (∀ k ∈ ks, U k.1 → ∀ b ∈ k.2, ∃ f ∈ b.2, f ≠ numS ∧ U f) → (∀ f, U f → S f = false) → ∀ f, U f → ks.foldl stepK S f = false
  | [], S, _, h, f, hf => h f hf
  | k :: ks, S, hk, h, f, hf => by
    rw [List.foldl_cons]
    refine fold_not (fun k' hk' => hk k' (List.mem_cons_of_mem _ hk')) (fun g hg => ?_) f hf
    unfold stepK
    rw [h g hg, Bool.false_or]
    by_cases e : g = k.1
    · subst e
      have : k.2.any (goodB S) = false := by
        rw [Bool.eq_false_iff]
        intro ha
        obtain ⟨b, hb, gb⟩ := List.any_eq_true.mp ha
        obtain ⟨f', hf', n, u⟩ := hk k (by simp) hg b hb
        unfold goodB at gb
        rw [List.all_eq_true] at gb
        have := gb f' hf'
        rw [h f' u, Bool.or_false, decide_eq_true_eq] at this
        exact n this
      rw [this, Bool.and_false]
    · rw [decide_eq_false e, Bool.false_and]
theorem wthy_not {U : Str → Prop} {ks : List Kind} (hk : ∀ k ∈ ks, U k.1 → ∀ b ∈ k.2, ∃ f ∈ b.2, f ≠ numS ∧ U f) (f : Str) (hf : U f) : wthy ks f = false := by
  have : ∀ n, ∀ f, U f → rnds ks n f = false := fun n => by
    induction n with
    | zero => intro f _; rfl
    | succ n ih => exact fun f hf => fold_not hk ih f hf
  exact this _ f hf
mutual
theorem rig_deq : ∀ (x : D) {y : D}, rigT x = true → rigT y = true → (deq x y = true ↔ x = y)
  | .str x, y, hx, hy => by
    cases y with
    | str z => simp [deq, toPy, PyData.eqv]
    | tup zs => simp [deq, toPy, PyData.eqv]
    | _ => cases hy
  | .tup xs, y, hx, hy => by
    cases y with
    | str z => simp [deq, toPy, PyData.eqv]
    | tup zs =>
      rw [rigT] at hx hy
      have h := rigs_deq xs hx hy
      have e : deq (.tup xs) (.tup zs) = PyData.eqvAll (toPys xs) (toPys zs) := by simp [deq, toPy, PyData.eqv]
      rw [e, h]
      exact ⟨fun h => by rw [h], fun h => by injection h⟩
    | _ => cases hy
  | .int _, _, hx, _ => by cases hx
  | .dic _, _, hx, _ => by cases hx
  | .lst _, _, hx, _ => by cases hx
  | .bl _, _, hx, _ => by cases hx
  | .non, _, hx, _ => by cases hx
  | .obj _ _, _, hx, _ => by cases hx
  | .opq _, _, hx, _ => by cases hx
  | .ptp _, _, hx, _ => by cases hx
  | .dfz _, _, hx, _ => by cases hx
theorem rigs_deq : ∀ (xs : List D) {ys : List D}, rigTs xs = true → rigTs ys = true → (PyData.eqvAll (toPys xs) (toPys ys) = true ↔ xs = ys)
  | [], [], _, _ => by simp [toPys, PyData.eqvAll]
  | [], y :: ys, _, _ => by simp [toPys, PyData.eqvAll]
  | x :: xs, [], _, _ => by simp [toPys, PyData.eqvAll]
  | x :: xs, y :: ys, hx, hy => by
    rw [rigTs, Bool.and_eq_true] at hx hy
    have h1 := rig_deq x hx.1 hy.1
    have h2 := rigs_deq xs hx.2 hy.2
    have e : PyData.eqvAll (toPys (x :: xs)) (toPys (y :: ys)) = (deq x y && PyData.eqvAll (toPys xs) (toPys ys)) := by simp [deq, toPys, PyData.eqvAll]
    rw [e, Bool.and_eq_true, h1, h2]
    exact ⟨fun ⟨a, b⟩ => by rw [a, b], fun h => by injection h with a b; exact ⟨a, b⟩⟩
end
theorem rigs_map {α : Type} {g : α → D} : ∀ {l : List α}, (∀ a ∈ l, rigT (g a) = true) → rigTs (l.map g) = true
  | [], _ => rfl
  | a :: l, h => by
    rw [List.map_cons, rigTs, h a (by simp), rigs_map fun x hx => h x (List.mem_cons_of_mem _ hx)]
    rfl
theorem rig_kinds (ks : List Kind) : rigT (kindsD ks) = true := by
  unfold kindsD
  rw [rigT]
  refine rigs_map fun k _ => ?_
  unfold kindD
  rw [rigT, rigTs, rigTs, rigT, rigT, rigTs, Bool.true_and, Bool.and_true]
  refine rigs_map fun b _ => ?_
  unfold boughD
  rw [rigT, rigTs, rigTs, rigT, rigT, rigTs, Bool.true_and, Bool.and_true]
  exact rigs_map fun f _ => rfl
theorem map_inj {α : Type} {g : α → D} (h : ∀ a b, g a = g b → a = b) : ∀ {l l' : List α}, l.map g = l'.map g → l = l'
  | [], [], _ => rfl
  | [], _ :: _, e => by cases e
  | _ :: _, [], e => by cases e
  | a :: l, b :: l', e => by
    rw [List.map_cons, List.map_cons] at e
    obtain ⟨e1, e2⟩ := List.cons.inj e
    rw [h a b e1, map_inj h e2]
theorem kindsD_inj {ks ks' : List Kind} (e : kindsD ks = kindsD ks') : ks = ks' := by
  unfold kindsD at e
  refine map_inj (fun k k' e => ?_) (D.tup.inj e)
  unfold kindD at e
  have e1 := D.tup.inj e
  obtain ⟨a, e2⟩ := List.cons.inj e1
  obtain ⟨b, _⟩ := List.cons.inj e2
  have hb := map_inj (g := boughD) (fun x y e => by
    unfold boughD at e
    have e1 := D.tup.inj e
    obtain ⟨a, e2⟩ := List.cons.inj e1
    obtain ⟨b, _⟩ := List.cons.inj e2
    have := map_inj (g := D.str) (fun x y e => D.str.inj e) (D.tup.inj b)
    exact Prod.ext (D.str.inj a) this) (D.tup.inj b)
  exact Prod.ext (D.str.inj a) hb
theorem kindsD_eq (ks ks' : List Kind) : deq (kindsD ks) (kindsD ks') = decide (ks = ks') := by
  rw [Bool.eq_iff_iff, decide_eq_true_eq, rig_deq _ (rig_kinds ks) (rig_kinds ks')]
  exact ⟨kindsD_inj, fun e => by rw [e]⟩
end KB
namespace Dk
open PySem L2 PySem.SeqAt
open PyProof.Rows (envOfC)
section
variable {P : Program} {w : World} {K : PySem.W.Frag} {mg : Str → Option Value} {base : Heap}
/-- __init__ that may raise, by its body -/
theorem _root_.L2.Fun.okIX {W : Wd} {S : DSp} {C : Addr} {x qual : Str} {st : Stmt} {f : Addr} {fd : FuncData} {N ps : List Str} {k : Nat} (Fn : Fun K x qual st f fd) (Sc : FnScope N ps (defScope st)) (hn : S.n + 1 = ps.length)
    (hbody : ∀ (cdv : Value) (A : Around) (outer : List Env) (s : Shared) (H I B : Hp) (a : Addr) (ds : List D) (Q : D → Prop) (E : XK), Rm k (A.deeper (envOfC qual (defScope st) s.heap.objs.size f cdv)) → S.f ds Q (finX W K I B E) →
      ∃ t, DSts ⟨W, B, I⟩ (cxOf (L2.CX P w) P w K mg base N qual (defScope st) f cdv A outer s H E) (defBody st) t ∧ t (initEnds a C Q) (startI N a C ds)) : GnOk P w K mg base (L2.CX P w) (k + 1) f fd ps (spInit W K C S) := by
  refine Fn.gn Sc (fun vs H Q E ⟨a, dx, us, I, ds, e, _, _, _, _, r, h⟩ => ?_) fun cdv A outer s H vs Q E hr ⟨a, dx, us, I, ds, e, hx, ni, nm, si, r, h⟩ => ?_
  · subst e
    rw [List.length_cons, r.length, S.len _ _ _ h, hn]
  subst e
  obtain ⟨t, h1, h2⟩ := hbody cdv A outer s H I (dropA H a) a ds _ E hr h
  refine ⟨_, h1.run, I, _, at_startI si hx ni nm r, h1.mono (initEnds a C _) _ _ ⟨fun ρ ⟨fs, e0, q⟩ I' σ' H' sm A' => ?_, fun _ q => q.elim, fun _ q => q.elim, fun _ q => q.elim, fun _ q => q.elim⟩ h2⟩
  obtain ⟨p, o, _, w, s2, A2⟩ := A'.freeze e0 trivial
  have hp : p = a := w.ad _ rfl
  subst hp
  exact q _ _ A2.stp ((w.rep.mono s2).rep upd_same w.ad)
end
section
variable {X : Cx} {CX : CXT} {k : Nat} {f C : Addr} {fd : FuncData} {ps ks : List Str} {sp : Sp} {E : XK}
theorem gn_makeS {pins : List (Addr × Obj)} {σ : St} {H : Hp} {s : Shared} {Q : VK} {us as : List Value} {kw : List (Str × Value)} {vs : List V} (M : Mk X.K C f) (F : GnOk X.prog X.w X.K X.mg X.base CX k f fd ps sp) (hr : Rm (k + 1) X.A) (hx : PassesAt CX X σ E)
    (hb : ∀ (s' : Shared) (x : Value), X.K.In s'.heap → BindsTo s' fd ⟨x :: as, kw⟩ (ps.zip (x :: us))) (J : Inv X pins σ H s) (r : Vals vs us)
    (h : ∀ x dx, H x = none → H dx = none → dx ≠ x → sp (.ref x :: vs) (upd (upd H dx (.own x)) x (.ins C dx [])) (fun v H2 => v = .non ∧ Q (.ref x) H2) E) : wpAny (model X.prog X.w) X.A (call (.ref C) as kw) (EP X pins σ Q) X.xe s := by
  have q := h (s.heap.objs.size + 1) s.heap.objs.size (J.hok.fresh (Nat.le_succ _)) (J.hok.fresh (Nat.le_refl _)) (Nat.ne_of_lt (Nat.lt_succ_self _))
  have J2 := Inv.made (C := C) J
  refine wpAny_call (make_map (f := f) J.kIn M.makes M.init (beq_iff_eq.mp M.fn) (codeAny_mono (F.go _ X.stack _ _ ⟨Value.ref (s.heap.objs.size + 1) :: as, kw⟩ (Value.ref (s.heap.objs.size + 1) :: us) _ _ E (hr.make C as kw) (J2.env0.make C as kw) (hb _ _ J2.kIn) (.cons (show RelV (.ref (s.heap.objs.size + 1)) (.ref (s.heap.objs.size + 1)) from rfl) r) q) fun r s' z => ?_))
  cases r with
  | error e => exact hx pins _ _ e s' J2 z
  | ok fl => cases fl with
    | ret u =>
      obtain ⟨v, H', J3, rv, ev, q3⟩ := J2.after z
      subst ev
      exact ⟨rv, V.ref (s.heap.objs.size + 1), H', J3, rfl, q3⟩
    | next => exact z.elim
    | brk => exact z.elim
    | cont => exact z.elim
variable {F : Fx} {x : Str} {S : DSp} {p pos : Pos} {e : Expr} {es : List Expr} {t : DAT} {W : WX} {w : WD}
theorem de_makeS (c : CalC X.prog X.w X.K X.mg X.base (L2.CX X.prog X.w) F.W k x C ps S) (hr : Rm (k + 1) X.A) (tk : Takes X W) (le : LetsS F X.K w W) (ha : DA F X (e :: es) t)
    (hg : Gl X x := by rfl) (hdb : (x == ("__debug__" : Str)) = false := by decide) (he : starEach (e :: es) X.env = (false, eval e X.env) :: starEach es X.env := by rfl) (hpl : (backTo pos (starEach es X.env)).any (·.1) = false := by rfl) :
    DE F X (.Call (.Name x p) (e :: es) [] pos) (fun ρ Q => t ρ fun ds => S.f ds Q (w ρ)) := by
  obtain ⟨f, fd, M, G, hm, hb, hl⟩ := c.ex
  refine ⟨fun ρ Q Q' k h => ha.mono _ _ _ (fun d h => S.mono _ _ _ _ _ k (fun _ h => h) h) h, ⟨fun pins s σ H Q J ⟨I, ρ, A, h⟩ => ?_⟩⟩
  refine wpAny_Call_Name_kw (ld_glob J hg hm ?_ hdb)
  have run : rdA F X.K t σ H fun vs H1 => vs.length + 1 = ps.length ∧ ∀ x dx, H1 x = none → H1 dx = none → dx ≠ x → spInit F.W X.K C S (.ref x :: vs) (upd (upd H1 dx (.own x)) x (.ins C dx [])) (fun v H2 => v = .non ∧ Q (.ref x) H2) (WE W σ) := by
    refine rdA_next ha.mono A h fun ds vs I1 H1 q s1 rs => ⟨by rw [rs.length, S.len _ _ _ q, hl], fun x dx hx hd ne => ?_⟩
    obtain ⟨ni, nm, st, back⟩ := new_run (K := X.K) (o := .ins C dx []) s1.st hx hd ne
    refine ⟨x, dx, vs, I1, ds, rfl, upd_same, ni, nm, st, rs, S.mono _ _ _ _ _ (fun d q I' H' s' rv => ⟨rfl, q _ I' H' (s1.trans (back I' H' s')) rv⟩) (fun ex q cls d I' H' s' rv => ?_) q⟩
    exact le I1 ρ σ H1 (A.step s1) ex q cls d I' H' (back I' H' s') rv
  refine PySem.W.callWith_K (h₀ := X.base) J.ok.mod.kin M.kp (thn (ha.run.run pos pins s σ H _ J run) fun us s1 ⟨vs, H1, J1, r, l, q⟩ => ⟨J1.kIn, ?_⟩) he hpl
  exact gn_makeS M G hr (passAt tk σ) (fun s' x hk => by have := hb s' (x :: us) hk (by rw [List.append_nil, List.length_cons, ← r.length]; exact l); simpa using this) J1 r q
end
section
variable {F : Fx} {X : Cx} {C : Addr} {e : Expr} {te : DT} {x : Str} {q1 q2 pos : Pos} {S : DSp} {k : Nat} {ps : List Str} {p : Pos} {t : DAT}
theorem tyN_seven {d : D} {T : String} (h : tyN d = some T) : T ∈ SeqAt.seven := by
  cases d <;> first | (cases h; done) | (cases h; simp [SeqAt.seven])
theorem de_isiM (i : Isi X.K C) (nc : NeC X.K C) (hm : X.mg "isinstance" = none) (hx : X.mg x = some (.ref C)) (he : DE F X e te) (hg : Gl X "isinstance" := by rfl) (hgx : Gl X x := by rfl) (hdb : (x == ("__debug__" : Str)) = false := by decide)
    (h1 : starEach [e, .Name x q2] X.env = (false, eval e X.env) :: starEach [.Name x q2] X.env := by rfl) (h2 : starEach [Expr.Name x q2] X.env = (false, eval (.Name x q2) X.env) :: starEach [] X.env := by rfl) (hpl : (backTo pos (starEach [Expr.Name x q2] X.env)).any (·.1) = false := by rfl) :
    DE F X (.Call (.Name "isinstance" q1) [e, .Name x q2] [] pos) (fun ρ Q => te ρ fun d => objD C d (Q (.bl true)) ∨ (known d = true ∧ Q (.bl false))) := by
  refine ⟨fun ρ Q Q' k q => he.mono _ _ _ (fun d q => q.elim (fun q => .inl (q.mono (k _))) fun q => .inr ⟨q.1, k _ q.2⟩) q, (pe_callB call_isi hg hm (by decide +kernel) (pa_cons he.run (pa_cons (pe_glob (v := .ref C) hgx hx rfl hdb) pa_nil h2) h1) (by decide) (by decide) h1 hpl).imp fun σ H Q ⟨I, ρ, A, q⟩ => ?_⟩
  refine rdE_next he.mono A q fun d v I' H' q' s rv => ?_
  rcases q' with ⟨fs, rfl, q'⟩ | ⟨kn, q'⟩
  · obtain ⟨a, dx, ws, rfl, hi⟩ := rv.ins
    exact ⟨_, .ref C, .ref C, .ref C, true, rfl, .own C, .base (.ins (s.st.sub _ _ hi) i.cl i.ha i.hn i.ht i.hm), by simp [PySem.W.kitOne], q' _ _ _ s (.bl _)⟩
  · unfold known at kn
    obtain ⟨T, hT⟩ := Option.isSome_iff_exists.mp kn
    exact ⟨v, .ref C, .type T, .ref C, false, rfl, .own C, rv.ty s.st.sub hT, nc.ki T (tyN_seven hT), q' _ _ _ s (.bl _)⟩
def boolOfD : List D → (D → Prop) → Prop
  | [.int i], Q => Q (.bl (i != 0))
  | [.bl b], Q => Q (.bl b)
  | _, _ => False
theorem mono_boolOfD : MonoN boolOfD := by
  intro ds Q Q' k h
  unfold boolOfD at h ⊢
  split at h <;> first | exact h.elim | exact k _ h
theorem lc_bool : LiftC F X.K (fun xs H Q => (∃ i, xs = [.int i] ∧ Q (.bl (i != 0)) H) ∨ ∃ k, xs = [.bl k] ∧ Q (.bl k) H) boolOfD := by
  intro vs ds I H Q st rs h
  unfold boolOfD at h
  split at h
  · obtain ⟨v, rfl, r⟩ := rs.one
    cases r
    exact .inl ⟨_, rfl, h _ I H st.stp (.bl _)⟩
  · obtain ⟨v, rfl, r⟩ := rs.one
    cases r
    exact .inr ⟨_, rfl, h _ I H st.stp (.bl _)⟩
  · exact h.elim
theorem de_boolOf (hm : X.mg "bool" = none) (ha : DA F X [e] t) (hg : Gl X "bool" := by rfl) (he : starEach [e] X.env = (false, eval e X.env) :: starEach [] X.env := by rfl) : DE F X (.Call (.Name "bool" p) [e] [] pos) (fun ρ Q => t ρ fun ds => boolOfD ds Q) := de_callT mono_boolOfD lc_bool call_bool1 hm (by decide +kernel) ha hg (by decide) (by decide) he rfl
end
end Dk
namespace PySem.SeqAt
section
variable {P : Program} {w : World} {A : Around} {E : Value → Shared → Prop} {s : Shared} {K : PySem.W.Frag} {a C f : Addr} {ox : Obj} {od : Option Obj}
theorem truthy_len {Q : Bool → Shared → Prop} (Z : K.In s.heap) (I : PySem.W.InstAt s.heap a ox C od) (hb : PySem.W.findIn K (.ref C) "__bool__" = some none) (hm : PySem.W.findIn K (.ref C) "__len__" = some (some (.ref f))) (hf : PySem.W.isFn K (.ref f) = true)
    (hcall : wpAny (model P w) A.in1 (call (.ref f) [.ref a]) (fun r s' => ∃ n u, r = .int n u ∧ 0 ≤ n ∧ n < 2 ^ 63 ∧ Q (n != 0) { s' with toks := s'.toks + 1 }) E s) : wpAny (model P w) A (truthy (.ref a)) Q E s := by
  unfold truthy
  refine wpAny_bind (m := callSpecial? (.ref a) (Str.ofString "__bool__")) ?_
  unfold callSpecial? specialOf
  refine wpAny_bind (wpAny_bind (I.type.here ((PySem.W.looks_findIn Z hb).here ?_)))
  refine wpAny_pure ?_
  refine wpAny_bind (wpAny_bind (I.type.here ((PySem.W.looks_findIn Z hm).here ?_)))
  simp only [Option.isNone_some, Bool.false_eq_true, if_false]
  refine wpAny_bind (wpAny_runValue (codeAny_builtin entry_len ?_))
  unfold Builtin.«len»
  refine wpAny_bind (m := oneArg "len" _) (wpAny_pure ?_)
  refine wpAny_bind (m := callSpecial? (.ref a) (Str.ofString "__len__")) (Dk.special_own Z I hm hf (wpAny_mono hcall (fun r s' hr => ?_) fun _ _ y => y))
  obtain ⟨n, u, rfl, h0, h1, hq⟩ := hr
  refine wpAny_bind (wpAny_holding (wpAny_pure ?_))
  refine wpAny_bind (wpAny_letGo ?_)
  show wpAny _ _ (if n < 0 then _ else _) _ _ _
  rw [if_neg (by omega)]
  show wpAny _ _ (if n ≥ 2 ^ 63 then _ else _) _ _ _
  rw [if_neg (by omega)]
  exact wpAny_bind (wpAny_mkInt (wpAny_pure (wpAny_pure hq)))
end
end PySem.SeqAt
namespace Dk
open PySem L2 PySem.SeqAt
section
variable {F : Fx} {X : Cx} {C : Addr} {e : Expr} {te : DT} {S : DSp} {k : Nat} {ps : List Str}
theorem dt_lenO (c : CalM X.prog X.w X.K X.mg X.base CX0 F.W k C "__len__" ps S) (hb : PySem.W.findIn X.K (.ref C) "__bool__" = some none) (hr : Rm (k + 1) X.A) (he : DE F X e te) (hp : ∀ whole, isTrue e X.env whole = (do let v ← whole; standAt e.pos; holding [v] (truthy v)) := by intro _; rfl) :
    DTest F X e (fun ρ Q => te ρ fun d => objD C d (S.f [d] (fun r => ∃ n : Nat, r = .int n ∧ n < 1000 ∧ Q (n != 0)) fun _ => False)) := by
  refine ⟨fun ρ Q Q' k h => he.mono _ _ _ (fun d h => h.mono fun h => S.mono _ _ _ _ _ (fun r ⟨n, e, l, q⟩ => ⟨n, e, l, k _ q⟩) (fun _ h => h) h) h, ⟨fun pins s σ H Q J ⟨I, ρ, A, h⟩ => ?_⟩⟩
  refine PyProof.Rows.isTrue_plain (thn (he.run.run pins s σ H (fun v H1 => ∃ (I1 : Hp) (d : D), Stp F.W I H I1 H1 ∧ Rep X.K I1 v d ∧ objD C d (S.f [d] (fun r => ∃ n : Nat, r = .int n ∧ n < 1000 ∧ finB F I H Q (n != 0)) fun _ => False)) J (rdE_next he.mono A h fun d v I1 H1 q s rv => ⟨I1, d, s, rv, q⟩)) fun u s1 ⟨v, H1, J1, r1, I1, d, sm, rd, q⟩ => ?_) (hp _)
  obtain ⟨fs, rfl, q⟩ := q
  obtain ⟨a, dx, ws, rfl, hi⟩ := rd.ins
  cases r1
  obtain ⟨f, fd, cl, me, G, B, _⟩ := c.ex
  obtain ⟨ox, od, Ia⟩ := J1.inst (sm.st.sub _ _ hi)
  have sp : spD F.W X.K S [.ref a] H1 (fun w H' => ∃ (n : Nat) (I' : Hp), w = .int (n : Int) ∧ n < 1000 ∧ Stp F.W I H I' H' ∧ finB F I H Q (n != 0)) (fun _ _ _ => False) := ⟨I1, [_], sm.st, .cons rd .nil, S.mono _ _ _ _ _ (fun r ⟨n, er, l, q⟩ w I' H' s2 rw' => by
    subst er
    cases rw'
    exact ⟨n, I', rfl, l, sm.trans s2, q⟩) (fun _ h => h.elim) q⟩
  refine truthy_len J1.kIn Ia hb me.at_ me.fn (wpAny_mono (gn_at G hr.in1 rfl B pass0 J1 (.cons (show RelV (.ref a) (.ref a) from rfl) .nil) sp) (fun r s' ⟨w, H', J', rw', n, I', ew, l, s2, q⟩ => ?_) fun _ _ e => e)
  subst ew
  obtain ⟨t, rfl⟩ := rw'
  refine ⟨_, _, rfl, by omega, by omega, H', J'.tok _, ?_⟩
  have e : (((n : Nat) : Int) != 0) = (n != 0) := by rw [Bool.eq_iff_iff]; simp
  rw [e]
  exact q I' H' s2
end
end Dk
namespace KB
open PySem L2 Dk
open PyProof.Rows (envOfC)
def spIsKindsW : DSp := spOne fun d => ∃ ks, d = kindsD ks ∧ Wel ks
def spWithW : DSp where
  n := 1
  f := fun ds Q _ => ∃ ks, ds = [kindsD ks] ∧ Wel ks ∧ ∀ kvs, (∀ f, hasN kvs f = wthy ks f) → Q (.dic kvs)
  len := fun ds Q E ⟨m, e, _⟩ => by rw [e]; rfl
  mono := fun ds Q Q' E E' k _ ⟨m, e, h, q⟩ => ⟨m, e, h, fun kvs h => k _ (q kvs h)⟩
def spBookX (C CB : Addr) : DSp where
  n := 1
  f := fun ds Q E => ∃ ks, ds = [kindsD ks] ∧ Wel ks ∧ ((∀ k ∈ ks, wthy ks k.1 = true) → Q (bookD C ks)) ∧ ∀ pre k post, ks = pre ++ k :: post → (∀ k' ∈ pre, wthy ks k'.1 = true) → wthy ks k.1 = false → E ⟨.ref CB, [("kind", .str k.1)]⟩
  len := fun ds Q E ⟨m, e, _⟩ => by rw [e]; rfl
  mono := fun ds Q Q' E E' k k' ⟨m, e, h, q, q2⟩ => ⟨m, e, h, fun h => k _ (q h), fun a b c d e f => k' _ (q2 a b c d e f)⟩
def spEqM (C : Addr) : DSp where
  n := 2
  f := fun ds Q _ => ∃ ks d, ds = [bookD C ks, d] ∧ Wel ks ∧ ((∃ ks', d = bookD C ks' ∧ Wel ks' ∧ Q (.bl (decide (ks = ks')))) ∨ (known d = true ∧ Q (.bl false)))
  len := fun ds Q E ⟨_, _, e, _⟩ => by rw [e]; rfl
  mono := fun ds Q Q' E E' k _ ⟨ks, d, e, g, q⟩ => ⟨ks, d, e, g, q.elim (fun ⟨ks', e, g, q⟩ => .inl ⟨ks', e, g, k _ q⟩) fun ⟨kn, q⟩ => .inr ⟨kn, k _ q⟩⟩
abbrev s_Book___eq__ : Stmt := inClass (top 32) 1
theorem sc_Book___eq__ : FnScope ["self", "other"] ["self", "other"] (defScope s_Book___eq__) := ⟨rfl, rfl, rfl, by decide +kernel, rfl, by decide +kernel, by decide +kernel⟩
theorem bd_Book___eq__ (kV doc pm : Value) (an : Option Addr) (cdv ct : Value) (us : List Value) (hl : us.length = 2) : bindArgs (PySem.W.fnOf "__eq__" "Book.__eq__" (defArgs s_Book___eq__) (defBody s_Book___eq__) (defScope s_Book___eq__) .none kV doc pm an cdv ct) ⟨us, []⟩ = pure ((["self", "other"] : List Str).zip us) := by
  match us, hl with
  | [v0, v1], _ => rfl
abbrev s_Book___len__ : Stmt := inClass (top 32) 2
theorem sc_Book___len__ : FnScope ["self"] ["self"] (defScope s_Book___len__) := ⟨rfl, rfl, rfl, by decide +kernel, rfl, by decide +kernel, by decide +kernel⟩
theorem bd_Book___len__ (kV doc pm : Value) (an : Option Addr) (cdv ct : Value) (us : List Value) (hl : us.length = 1) : bindArgs (PySem.W.fnOf "__len__" "Book.__len__" (defArgs s_Book___len__) (defBody s_Book___len__) (defScope s_Book___len__) .none kV doc pm an cdv ct) ⟨us, []⟩ = pure ((["self"] : List Str).zip us) := by
  match us, hl with
  | [v0], _ => rfl
abbrev s_Book___repr__ : Stmt := inClass (top 32) 4
theorem sc_Book___repr__ : FnScope ["self"] ["self"] (defScope s_Book___repr__) := ⟨rfl, rfl, rfl, by decide +kernel, rfl, by decide +kernel, by decide +kernel⟩
theorem bd_Book___repr__ (kV doc pm : Value) (an : Option Addr) (cdv ct : Value) (us : List Value) (hl : us.length = 1) : bindArgs (PySem.W.fnOf "__repr__" "Book.__repr__" (defArgs s_Book___repr__) (defBody s_Book___repr__) (defScope s_Book___repr__) .none kV doc pm an cdv ct) ⟨us, []⟩ = pure ((["self"] : List Str).zip us) := by
  match us, hl with
  | [v0], _ => rfl
theorem Wel.nk {ks : List Kind} (g : Wel ks) : ((namesBy ks).map (·.1)).Nodup := by rw [namesBy_keys]; exact nodup_inr g.nd
theorem Wel.kk {ks : List Kind} (g : Wel ks) : ((kindsBy ks).map (·.1)).Nodup := by rw [kindsBy_keys]; exact nodup_inr g.bd
theorem Wel.fk {ks : List Kind} (g : Wel ks) : ((fieldsBy ks).map (·.1)).Nodup := by rw [fieldsBy_keys]; exact nodup_inr g.bd
theorem Wel.blen {ks : List Kind} (g : Wel ks) : (bNames ks).length ≤ 48 := by
  have : ∀ ks' : List Kind, (∀ k ∈ ks', k.2.length ≤ 8) → (bNames ks').length ≤ 8 * ks'.length := fun ks' => by
    induction ks' with
    | nil => simp [bNames]
    | cons a l ih =>
      intro h
      have h1 := h a (by simp)
      have h2 := ih fun k hk => h k (List.mem_cons_of_mem _ hk)
      simp only [bNames, List.flatMap_cons, List.length_append, List.length_map, List.length_cons] at h2 ⊢
      omega
  have h1 := this ks g.s2
  have h2 := g.s1
  omega
theorem Wel.klen {ks : List Kind} (g : Wel ks) : (kindsBy ks).length ≤ 48 := by
  have := congrArg List.length (kindsBy_keys (ks := ks))
  rw [List.length_map, List.length_map] at this
  rw [this]; exact g.blen
theorem Wel.flen {ks : List Kind} (g : Wel ks) : (fieldsBy ks).length ≤ 48 := by
  have := congrArg List.length (fieldsBy_keys (ks := ks))
  rw [List.length_map, List.length_map] at this
  rw [this]; exact g.blen
section
variable {P : Program} {w : World} {K : PySem.W.Frag} {C CB CNb : Addr} {mg : Str → Option Value} {base : Heap} {W : Wd} {k : Nat} {f : Addr} {fd : FuncData}
theorem ok_is_kindsW (T : TxtB K C mg) (Fn : Fun K "is_kinds" "is_kinds" s_is_kinds f fd) (C_is_kind : Cal P w K mg base CX0 W k "is_kind" ["thing"] spIsKind) (C_are_unlike : Cal P w K mg base CX0 W k "are_unlike" ["names"] spUnlike) : GnOk P w K mg base CX0 (k + 1) f fd ["thing"] (spD W K spIsKindsW) := by
  refine Fn.okD sc_is_kinds rfl fun cdv A outer s H I ds Q Ed E hr h => ?_
  have hu := hr.units
  have hu2 : (A.deeper (envOfC "is_kinds" (defScope s_is_kinds) s.heap.objs.size f cdv)).units + 66 < cLine := by have := hr.room.un; omega
  obtain ⟨_, rfl, ⟨ks, rfl, g⟩, q⟩ := h
  refine ⟨_, (dss_cons (ds_if (dt_wh (dw_or (dt_not (dt_val (de_isi is_tup T.b_isinstance T.b_tuple (by decide +kernel) (de_name 0)))) (dw_or (dt_c (.eq hu) (de_name 0) (de_tup da_nil)) (dw_or1 (dt_not (dt_val (de_all rfl T.b_all (da_cons (de_lc (own := [("kind", 1)]) rfl sc_is_kinds.nd (di_seq (de_name 0)) (blkOk_by (own := [("kind", 1)]) (N := ["thing", "kind", "names", "name", "boughs", "bough", "fields", "some", "field"]) (sc := defScope s_is_kinds) (by decide +kernel)) (fun _ _ _ _ _ => (dg_name 1 sc_is_kinds.nd)) (fun _ _ _ _ _ => dif_nil) (fun _ _ _ _ _ => (de_fn C_is_kind (hr.mono (by omega)) pass0 lets0 (da_cons (de_name 1) da_nil)))) da_nil))))))))
  (dss_one (ds_ret de_bl))
  dss_nil)
  (dss_cons (by first | exact (ds_setLc (i := 2) (own := [("name", 3), ("boughs", 4)]) rfl sc_is_kinds.nd rfl rfl (sw_true rfl rfl rfl (by decide +kernel)) (di_seq (de_name 0)) (blkOk_by (own := [("name", 3), ("boughs", 4)]) (N := ["thing", "kind", "names", "name", "boughs", "bough", "fields", "some", "field"]) (sc := defScope s_is_kinds) (by decide +kernel)) (fun _ _ _ _ _ => (dg_tup (n := 2) rfl (dgs_cons (dg_name 3 sc_is_kinds.nd) (dgs_cons (dg_name 4 sc_is_kinds.nd) dgs_nil)))) (fun _ _ _ _ _ => dif_nil) (fun _ _ _ _ _ => (de_name 3))) | exact (ds_set 2 (de_lc (own := [("name", 3), ("boughs", 4)]) rfl sc_is_kinds.nd (di_seq (de_name 0)) (blkOk_by (own := [("name", 3), ("boughs", 4)]) (N := ["thing", "kind", "names", "name", "boughs", "bough", "fields", "some", "field"]) (sc := defScope s_is_kinds) (by decide +kernel)) (fun _ _ _ _ _ => (dg_tup (n := 2) rfl (dgs_cons (dg_name 3 sc_is_kinds.nd) (dgs_cons (dg_name 4 sc_is_kinds.nd) dgs_nil)))) (fun _ _ _ _ _ => dif_nil) (fun _ _ _ _ _ => (de_name 3))) sc_is_kinds.nd))
  (dss_cons (ds_if (dt_wh (dw_or (dt_not (dt_val (de_fn C_are_unlike (hr.mono (by omega)) pass0 lets0 (da_cons (de_name 2) da_nil)))) (dw_or1 (dt_not (dt_val (de_fn C_are_unlike (hr.mono (by omega)) pass0 lets0 (da_cons (de_cpL (own := [("name", 3), ("boughs", 4), ("bough", 5), ("fields", 6)]) rfl sc_is_kinds.nd (di_seq (de_name 0)) (blkOk_by (own := [("name", 3), ("boughs", 4), ("bough", 5), ("fields", 6)]) (N := ["thing", "kind", "names", "name", "boughs", "bough", "fields", "some", "field"]) (sc := defScope s_is_kinds) (by decide +kernel)) (fun _ _ _ _ _ => (dg_tup (n := 2) rfl (dgs_cons (dg_name 3 sc_is_kinds.nd) (dgs_cons (dg_name 4 sc_is_kinds.nd) dgs_nil)))) (fun _ _ _ _ _ => dif_nil) (fun _ _ _ _ _ => (dn_cons (fun _ _ z => z) rfl (cp_list _ _ _ _) rfl (fun g h => by first | (cases h; rfl) | cases h) HdL.mono (di_seq (de_name 4)) (dg_tup (n := 2) rfl (dgs_cons (dg_name 5 sc_is_kinds.nd) (dgs_cons (dg_name 6 sc_is_kinds.nd) dgs_nil))) dif_nil (dn_nil rfl (dm_list (fun _ _ z => z) (de_name 5))) (by intro _; rfl)))) da_nil)))))))
  (dss_one (ds_ret de_bl))
  dss_nil)
  (dss_cons (by first | exact (ds_setCpL (i := 7) (own := [("name", 3), ("boughs", 4), ("bough", 5), ("fields", 6), ("field", 8)]) rfl sc_is_kinds.nd rfl rfl (sw_true rfl rfl rfl (by decide +kernel)) (di_seq (de_name 0)) (blkOk_by (own := [("name", 3), ("boughs", 4), ("bough", 5), ("fields", 6), ("field", 8)]) (N := ["thing", "kind", "names", "name", "boughs", "bough", "fields", "some", "field"]) (sc := defScope s_is_kinds) (by decide +kernel)) (fun _ _ _ _ _ => (dg_tup (n := 2) rfl (dgs_cons (dg_name 3 sc_is_kinds.nd) (dgs_cons (dg_name 4 sc_is_kinds.nd) dgs_nil)))) (fun _ _ _ _ _ => dif_nil) (fun _ _ _ _ _ => (dn_cons (fun _ _ z => z) rfl (cp_list _ _ _ _) rfl (fun g h => by first | (cases h; rfl) | cases h) HdL.mono (di_seq (de_name 4)) (dg_tup (n := 2) rfl (dgs_cons (dg_name 5 sc_is_kinds.nd) (dgs_cons (dg_name 6 sc_is_kinds.nd) dgs_nil))) dif_nil (dn_cons (fun _ _ z => z) rfl (cp_list _ _ _ _) rfl (fun g h => by first | (cases h; rfl) | cases h) HdL.mono (di_seq (de_name 6)) (dg_name 8 sc_is_kinds.nd) dif_nil (dn_nil rfl (dm_list (fun _ _ z => z) (de_name 8))) (by intro _; rfl)) (by intro _; rfl)))) | exact (ds_set 7 (de_cpL (own := [("name", 3), ("boughs", 4), ("bough", 5), ("fields", 6), ("field", 8)]) rfl sc_is_kinds.nd (di_seq (de_name 0)) (blkOk_by (own := [("name", 3), ("boughs", 4), ("bough", 5), ("fields", 6), ("field", 8)]) (N := ["thing", "kind", "names", "name", "boughs", "bough", "fields", "some", "field"]) (sc := defScope s_is_kinds) (by decide +kernel)) (fun _ _ _ _ _ => (dg_tup (n := 2) rfl (dgs_cons (dg_name 3 sc_is_kinds.nd) (dgs_cons (dg_name 4 sc_is_kinds.nd) dgs_nil)))) (fun _ _ _ _ _ => dif_nil) (fun _ _ _ _ _ => (dn_cons (fun _ _ z => z) rfl (cp_list _ _ _ _) rfl (fun g h => by first | (cases h; rfl) | cases h) HdL.mono (di_seq (de_name 4)) (dg_tup (n := 2) rfl (dgs_cons (dg_name 5 sc_is_kinds.nd) (dgs_cons (dg_name 6 sc_is_kinds.nd) dgs_nil))) dif_nil (dn_cons (fun _ _ z => z) rfl (cp_list _ _ _ _) rfl (fun g h => by first | (cases h; rfl) | cases h) HdL.mono (di_seq (de_name 6)) (dg_name 8 sc_is_kinds.nd) dif_nil (dn_nil rfl (dm_list (fun _ _ z => z) (de_name 8))) (by intro _; rfl)) (by intro _; rfl)))) sc_is_kinds.nd))
  (dss_one (ds_ret (de_all rfl T.b_all (da_cons (de_lc (own := [("field", 8)]) rfl sc_is_kinds.nd (di_seq (de_name 7)) (blkOk_by (own := [("field", 8)]) (N := ["thing", "kind", "names", "name", "boughs", "bough", "fields", "some", "field"]) (sc := defScope s_is_kinds) (by decide +kernel)) (fun _ _ _ _ _ => (dg_name 8 sc_is_kinds.nd)) (fun _ _ _ _ _ => dif_nil) (fun _ _ _ _ _ => (de_or (de_c (.eq hu) (de_name 8) (de_gs T.g_NUM)) (de_one (de_in hu2 (de_name 8) (de_name 2)))))) da_nil)))))))), ?_⟩
  simp only [getD_0, getD_s, set_0, set_s, boolD_bl, intD_int, startD, List.map, List.length_cons, List.length_nil, List.replicate, List.cons_append, List.nil_append, defEnds, wipeD, if_true, if_false, Bool.not_true, Bool.not_false, Bool.false_eq_true]
  simp only [kindsD]
  refine ⟨rfl, ?_⟩
  simp only [isTup, Bool.not_true, Bool.false_eq_true, if_false]
  have okk := g.ok
  have e0 : deq (.tup (ks.map kindD)) (.tup []) = false := by
    cases hq : ks with
    | nil => exact absurd hq g.ne
    | cons x xs => simp [deq, toPy, toPys, PyData.eqv, PyData.eqvAll]
  refine ⟨Nat.zero_le _, ?_, ?_⟩
  · unfold canEq
    rw [show okE (.tup (ks.map kindD)) = true from okk.okE (by decide), (okN_tup (k := 0) (xs := []) (by simp)).okE (by decide)]
    simp
  rw [e0]
  simp only [getD_0, getD_s, set_0, set_s, boolD_bl, intD_int, startD, List.map, List.length_cons, List.length_nil, List.replicate, List.cons_append, List.nil_append, defEnds, wipeD, if_true, if_false, Bool.not_true, Bool.not_false, Bool.false_eq_true]
  have lk : (ks.map kindD).length ≤ sizeLine := by rw [List.length_map]; exact Nat.le_trans g.s1 (by decide)
  simp only [itemsD]
  refine ⟨lk, lcD_all kindD (fun _ => .bl true) (fun a ha R S r => ?_) ?_⟩
  · simp only [getD_0, getD_s, set_0, set_s, boolD_bl, intD_int, startD, List.map, List.length_cons, List.length_nil, List.replicate, List.cons_append, List.nil_append, defEnds, wipeD, if_true, if_false, Bool.not_true, Bool.not_false, Bool.false_eq_true]
    exact ⟨_, rfl, ⟨a, rfl, g.kn a ha, g.kb a ha, g.s2 a ha, fun b hb => ⟨g.bn a ha b hb, g.s3 a ha b hb⟩, g.okKind ha⟩, r⟩
  obtain ⟨ns, en, an⟩ := all_true ks
  refine ⟨ns, en, ?_⟩
  rw [an]
  simp only [getD_0, getD_s, set_0, set_s, boolD_bl, intD_int, startD, List.map, List.length_cons, List.length_nil, List.replicate, List.cons_append, List.nil_append, defEnds, wipeD, if_true, if_false, Bool.not_true, Bool.not_false, Bool.false_eq_true]
  refine ⟨lk, lcD_all kindD (fun a => .str a.1) (fun a ha R S r => ?_) ?_⟩
  · refine ⟨_, rfl, rfl, _, _, rfl, _, _, rfl, rfl, ?_⟩
    simp only [getD_0, getD_s, set_0, set_s, boolD_bl, intD_int, startD, List.map, List.length_cons, List.length_nil, List.replicate, List.cons_append, List.nil_append, defEnds, wipeD, if_true, if_false, Bool.not_true, Bool.not_false, Bool.false_eq_true]
    exact r
  have enm : (ks.map fun a : Kind => D.str a.1) = (kNames ks).map D.str := by rw [kNames, List.map_map]; rfl
  rw [enm]
  refine ⟨_, rfl, ⟨_, rfl, g.nd, by rw [kNames, List.length_map]; exact Nat.le_trans g.s1 (by decide)⟩, ?_⟩
  simp only [getD_0, getD_s, set_0, set_s, boolD_bl, intD_int, startD, List.map, List.length_cons, List.length_nil, List.replicate, List.cons_append, List.nil_append, defEnds, wipeD, if_true, if_false, Bool.not_true, Bool.not_false, Bool.false_eq_true]
  have blen : ∀ ks' : List Kind, (∀ k ∈ ks', k.2.length ≤ 8) → (ks'.flatMap fun a => a.2.map fun b : Bough => D.str b.1).length ≤ 8 * ks'.length := fun ks' => by
    induction ks' with
    | nil => simp
    | cons a l ih =>
      intro h
      have h1 := h a (by simp)
      have h2 := ih fun k hk => h k (List.mem_cons_of_mem _ hk)
      simp only [List.flatMap_cons, List.length_append, List.length_map, List.length_cons] at h2 ⊢
      omega
  refine loopD_app kindD (fun a => a.2.map fun b => .str b.1) 1000 (fun a ha b R S hl r => ?_) (by have := blen ks g.s2; have := g.s1; simp only [List.length_nil]; omega) ?_
  · refine ⟨_, rfl, rfl, _, _, rfl, _, _, rfl, rfl, ?_⟩
    simp only [getD_0, getD_s, set_0, set_s, boolD_bl, intD_int, startD, List.map, List.length_cons, List.length_nil, List.replicate, List.cons_append, List.nil_append, defEnds, wipeD, if_true, if_false, Bool.not_true, Bool.not_false, Bool.false_eq_true]
    refine loopD_app boughD (fun b => [.str b.1]) 1000 (fun b' hb b R S hl r => ?_) (by simpa [← List.map_eq_flatMap] using hl) (by simpa [← List.map_eq_flatMap] using r)
    refine ⟨_, rfl, rfl, _, _, rfl, _, _, rfl, rfl, ?_⟩
    simp only [getD_0, getD_s, set_0, set_s, boolD_bl, intD_int, startD, List.map, List.length_cons, List.length_nil, List.replicate, List.cons_append, List.nil_append, defEnds, wipeD, if_true, if_false, Bool.not_true, Bool.not_false, Bool.false_eq_true]
    exact ⟨Nat.lt_of_lt_of_le (show b.length < 1001 by simp at hl; omega) (by decide), r⟩
  have ebm : (ks.flatMap fun a : Kind => a.2.map fun b : Bough => D.str b.1) = (bNames ks).map D.str := by rw [bNames, List.map_flatMap]; simp only [List.map_map]; rfl
  rw [List.nil_append, ebm]
  refine ⟨_, rfl, ⟨_, rfl, g.bd, by have := blen ks g.s2; rw [ebm, List.length_map] at this; have := g.s1; omega⟩, ?_⟩
  simp only [getD_0, getD_s, set_0, set_s, boolD_bl, intD_int, startD, List.map, List.length_cons, List.length_nil, List.replicate, List.cons_append, List.nil_append, defEnds, wipeD, if_true, if_false, Bool.not_true, Bool.not_false, Bool.false_eq_true]
  have flen1 : ∀ bs : List Bough, (∀ b ∈ bs, b.2.length ≤ 8) → (bs.flatMap fun b => b.2.map D.str).length ≤ 8 * bs.length := fun bs => by
    induction bs with
    | nil => simp
    | cons a l ih =>
      intro h
      have h1 := h a (by simp)
      have h2 := ih fun k hk => h k (List.mem_cons_of_mem _ hk)
      simp only [List.flatMap_cons, List.length_append, List.length_map, List.length_cons] at h2 ⊢
      omega
  have flen : ∀ ks' : List Kind, (∀ k ∈ ks', k.2.length ≤ 8 ∧ ∀ b ∈ k.2, b.2.length ≤ 8) → (ks'.flatMap fun a => a.2.flatMap fun b => b.2.map D.str).length ≤ 64 * ks'.length := fun ks' => by
    induction ks' with
    | nil => simp
    | cons a l ih =>
      intro h
      have h1 := h a (by simp)
      have h2 := ih fun k hk => h k (List.mem_cons_of_mem _ hk)
      have h3 := flen1 a.2 h1.2
      simp only [List.flatMap_cons, List.length_append, List.length_cons] at h2 ⊢
      omega
  have fl0 := flen ks fun k hk => ⟨g.s2 k hk, g.s3 k hk⟩
  have gs1 := g.s1
  refine loopD_app kindD (fun a => a.2.flatMap fun b => b.2.map D.str) 1000 (fun a ha b R S hl r => ?_) (by simp only [List.length_nil]; omega) ?_
  · refine ⟨_, rfl, rfl, _, _, rfl, _, _, rfl, rfl, ?_⟩
    simp only [getD_0, getD_s, set_0, set_s, boolD_bl, intD_int, startD, List.map, List.length_cons, List.length_nil, List.replicate, List.cons_append, List.nil_append, defEnds, wipeD, if_true, if_false, Bool.not_true, Bool.not_false, Bool.false_eq_true]
    refine loopD_app boughD (fun b => b.2.map D.str) 1000 (fun b' hb b R S hl r => ?_) hl r
    refine ⟨_, rfl, rfl, _, _, rfl, _, _, rfl, rfl, ?_⟩
    simp only [getD_0, getD_s, set_0, set_s, boolD_bl, intD_int, startD, List.map, List.length_cons, List.length_nil, List.replicate, List.cons_append, List.nil_append, defEnds, wipeD, if_true, if_false, Bool.not_true, Bool.not_false, Bool.false_eq_true]
    refine loopD_app D.str (fun f => [.str f]) 1000 (fun f hf b R S hl r => ?_) (by simpa [← List.map_eq_flatMap] using hl) (by simpa [← List.map_eq_flatMap] using r)
    simp only [getD_0, getD_s, set_0, set_s, boolD_bl, intD_int, startD, List.map, List.length_cons, List.length_nil, List.replicate, List.cons_append, List.nil_append, defEnds, wipeD, if_true, if_false, Bool.not_true, Bool.not_false, Bool.false_eq_true]
    exact ⟨Nat.lt_of_lt_of_le (show b.length < 1001 by simp at hl; omega) (by decide), r⟩
  have efm : (ks.flatMap fun a : Kind => a.2.flatMap fun b : Bough => b.2.map D.str) = (fNames ks).map D.str := by rw [fNames, List.map_flatMap]; simp only [List.map_flatMap]
  rw [List.nil_append, efm]
  rw [efm, List.length_map] at fl0
  refine ⟨by rw [List.length_map]; exact Nat.le_trans (show _ ≤ 1000 by omega) (by decide), lcD_all D.str (fun _ => .bl true) (fun f hf R S r => ?_) ?_⟩
  · simp only [getD_0, getD_s, set_0, set_s, boolD_bl, intD_int, startD, List.map, List.length_cons, List.length_nil, List.replicate, List.cons_append, List.nil_append, defEnds, wipeD, if_true, if_false, Bool.not_true, Bool.not_false, Bool.false_eq_true]
    have hff : f = numS ∨ f ∈ kNames ks := by
      obtain ⟨a, ha, hf⟩ := List.mem_flatMap.mp hf
      obtain ⟨b, hb, hf⟩ := List.mem_flatMap.mp hf
      exact g.fl a ha b hb f hf
    simp only [eqD_str, boolD_bl]
    by_cases hn : f = numS
    · rw [if_pos (by rw [decide_eq_true_eq]; exact hn)]
      exact r
    · rw [if_neg (by rw [decide_eq_true_eq]; exact hn)]
      have hfk : f ∈ kNames ks := hff.resolve_left hn
      obtain ⟨k', hk', rfl⟩ := List.mem_map.mp hfk
      refine in_names (xs := kNames ks) (fun x hx => ?_) (okN_name (g.kn k' hk')) ?_
      · obtain ⟨k'', hk'', rfl⟩ := List.mem_map.mp hx
        exact okN_name (g.kn k'' hk'')
      · rw [decide_eq_true hfk]
        exact r
  obtain ⟨ns, en, an⟩ := all_true (fNames ks)
  refine ⟨ns, en, ?_⟩
  rw [an]
  exact q
theorem ok_with_worthsW (T : TxtB K C mg) (Fn : Fun K "with_worths" "with_worths" s_with_worths f fd) : GnOk P w K mg base CX0 (k + 1) f fd ["kinds"] (spD W K spWithW) := by
  refine Fn.okD sc_with_worths rfl fun cdv A outer s H I ds Q Ed E hr h => ?_
  have hu := hr.units
  have hu2 : (A.deeper (envOfC "with_worths" (defScope s_with_worths) s.heap.objs.size f cdv)).units + 66 < cLine := by have := hr.room.un; omega
  obtain ⟨ks, rfl, g, q⟩ := h
  refine ⟨_, (dss_cons (ds_ownD 1 sc_with_worths.nd)
  (dss_cons (ds_for PassesOwn.never rfl (di_seq (de_name 0)) (dg_name 2 sc_with_worths.nd)
  (dss_one (ds_for PassesOwn.never rfl (di_seq (de_name 0)) (dg_tup (n := 2) rfl (dgs_cons (dg_name 3 sc_with_worths.nd) (dgs_cons (dg_name 4 sc_with_worths.nd) dgs_nil)))
  (dss_one (ds_if (dt_lend 1 (dt_val (de_any rfl T.b_any (da_cons (de_lc (own := [("bough", 6), ("fields", 7)]) rfl sc_with_worths.nd (di_seq (de_name 4)) (blkOk_by (own := [("bough", 6), ("fields", 7)]) (N := ["kinds", "found", "turn", "name", "boughs", "field", "bough", "fields"]) (sc := defScope s_with_worths) (by decide +kernel)) (fun _ _ _ _ _ => (dg_tup (n := 2) rfl (dgs_cons (dg_name 6 sc_with_worths.nd) (dgs_cons (dg_name 7 sc_with_worths.nd) dgs_nil)))) (fun _ _ _ _ _ => dif_nil) (fun _ _ _ _ _ => (de_all rfl T.b_all (da_cons (de_lc (own := [("field", 5)]) rfl sc_with_worths.nd (di_seq (de_name 7)) (blkOk_nest (own := [("field", 5)]) (N := ["kinds", "found", "turn", "name", "boughs", "field", "bough", "fields"]) (defScope s_with_worths) rfl (by decide +kernel)) (fun _ _ _ _ _ => (dg_name 5 sc_with_worths.nd)) (fun _ _ _ _ _ => dif_nil) (fun _ _ _ _ _ => (de_or (de_c (.eq hu) (de_name 5) (de_gs T.g_NUM)) (de_one (de_in hu2 (de_name 5) (de_name 1)))))) da_nil)))) da_nil))))
  (dss_one (ds_dput 1 hu (de_name 3) de_bl))
  dss_nil)))))
  (dss_freeze 1
  (dss_one (ds_ret (de_name 1)))))), ?_⟩
  simp only [getD_0, getD_s, set_0, set_s, boolD_bl, intD_int, startD, List.map, List.length_cons, List.length_nil, List.replicate, List.cons_append, List.nil_append, defEnds, wipeD, if_true, if_false, Bool.not_true, Bool.not_false, Bool.false_eq_true]
  simp only [kindsD]
  have gs1 := g.s1
  refine forD_ind (fun (l : List D) ρ => ∃ kvs a b c, ρ = [some (.dat (.tup (ks.map kindD))), some (.ownD kvs), a, b, c, none, none, none] ∧ l.length ≤ ks.length ∧ kvs.length + 8 * l.length ≤ 100 ∧ ∀ f, hasN kvs f = rnds ks (ks.length - l.length) f) (fun ρ ⟨kvs, a, b, c, e, _, _, h⟩ => ?_) (fun d l ρ R ⟨kvs, a, b, c, e, hl, hb, h⟩ hR => ?_) _ _ ⟨[], none, none, none, rfl, by simp, by simp; omega, fun f => by simp [hasN, lookD, rnds]⟩
  · subst e
    refine ⟨_, rfl, trivial, ?_⟩
    simp only [getD_0, getD_s, set_0, set_s, boolD_bl, intD_int, startD, List.map, List.length_cons, List.length_nil, List.replicate, List.cons_append, List.nil_append, defEnds, wipeD, if_true, if_false, Bool.not_true, Bool.not_false, Bool.false_eq_true]
    exact q kvs h
  · subst e
    simp only [getD_0, getD_s, set_0, set_s, boolD_bl, intD_int, startD, List.map, List.length_cons, List.length_nil, List.replicate, List.cons_append, List.nil_append, defEnds, wipeD, if_true, if_false, Bool.not_true, Bool.not_false, Bool.false_eq_true]
    simp only [List.length_cons] at hl hb h
    refine forD_ind (fun (m : List D) ρ => ∃ (pre rest : List Kind) (kvs : List (Key × D)) (a b c : Option Ent), ks = pre ++ rest ∧ m = rest.map kindD ∧ ρ = [some (.dat (.tup (ks.map kindD))), some (.ownD kvs), a, b, c, none, none, none] ∧ (∀ k ∈ rest, k ∈ ks) ∧ kvs.length + rest.length + 8 * l.length ≤ 100 ∧ ∀ f, hasN kvs f = pre.foldl stepK (rnds ks (ks.length - (l.length + 1))) f) (fun ρ ⟨pre, rest, kvs, a, b, c, ep, em, e, _, hb, h⟩ => ?_) (fun d m ρ R2 ⟨pre, rest, kvs, a, b, c, ep, em, e, hk, hb, h⟩ hR2 => ?_) _ _ ⟨[], ks, kvs, _, b, c, rfl, rfl, rfl, fun _ h => h, by omega, h⟩
    · subst e
      have : rest = [] := by simpa using em.symm
      subst this
      refine hR _ ⟨kvs, a, b, c, rfl, by omega, by simpa using hb, fun f => ?_⟩
      rw [h f, List.append_nil] at *
      subst ep
      have e1 : ks.length - l.length = (ks.length - (l.length + 1)) + 1 := by omega
      rw [e1, rnds, rnd]
    · subst e
      cases rest with
      | nil => cases em
      | cons x rest =>
        rw [List.map_cons] at em
        obtain ⟨rfl, rfl⟩ := List.cons.inj em
        have hx := hk x (by simp)
        refine ⟨_, rfl, rfl, _, _, rfl, _, _, rfl, rfl, ?_⟩
        simp only [getD_0, getD_s, set_0, set_s, boolD_bl, intD_int, startD, List.map, List.length_cons, List.length_nil, List.replicate, List.cons_append, List.nil_append, defEnds, wipeD, if_true, if_false, Bool.not_true, Bool.not_false, Bool.false_eq_true]
        refine ⟨_, rfl, trivial, ?_⟩
        simp only [Ent.toD, itemsD]
        refine ⟨Nat.le_trans (by rw [List.length_map]; exact g.s2 x hx) (by decide), lcD_all boughD (fun b => .bl (fieldsOk kvs b)) (fun b hbm R S hr => ?_) ?_⟩
        · refine ⟨_, rfl, rfl, _, _, rfl, _, _, rfl, rfl, ?_⟩
          simp only [getD_0, getD_s, set_0, set_s, boolD_bl, intD_int, startD, List.map, List.length_cons, List.length_nil, List.replicate, List.cons_append, List.nil_append, defEnds, wipeD, if_true, if_false, Bool.not_true, Bool.not_false, Bool.false_eq_true]
          refine ⟨Nat.le_trans (by rw [List.length_map]; exact g.s3 x hx b hbm) (by decide), lcD_all D.str (fun f => .bl (decide (f = numS) || hasN kvs f)) (fun f hf R S hr => ?_) ?_⟩
          · simp only [getD_0, getD_s, set_0, set_s, boolD_bl, intD_int, startD, List.map, List.length_cons, List.length_nil, List.replicate, List.cons_append, List.nil_append, defEnds, wipeD, if_true, if_false, Bool.not_true, Bool.not_false, Bool.false_eq_true]
            simp only [eqD_str, boolD_bl]
            by_cases hn : f = numS
            · rw [if_pos (by rw [decide_eq_true_eq]; exact hn)]
              simpa [hn] using hr
            · rw [if_neg (by rw [decide_eq_true_eq]; exact hn)]
              rw [hasN_in]
              simpa [hn] using hr
          · refine ⟨b.2.map fun f => decide (f = numS) || hasN kvs f, by rw [List.map_map]; rfl, ?_⟩
            rw [List.all_map]
            exact hr
        · refine ⟨x.2.map (fieldsOk kvs), by rw [List.map_map]; rfl, ?_⟩
          simp only [boolD_bl]
          have hS : hasN kvs = pre.foldl stepK (rnds ks (ks.length - (l.length + 1))) := funext h
          have ha2 : (x.2.map (fieldsOk kvs)).any id = x.2.any (goodB (pre.foldl stepK (rnds ks (ks.length - (l.length + 1))))) := by rw [List.any_map, ← hS]; rfl
          have nxt : ∀ f, (pre ++ [x]).foldl stepK (rnds ks (ks.length - (l.length + 1))) f = (hasN kvs f || (decide (f = x.1) && (x.2.map (fieldsOk kvs)).any id)) := fun f => by
            rw [List.foldl_append, List.foldl_cons, List.foldl_nil, ha2, ← hS]
            rfl
          by_cases ha : (x.2.map (fieldsOk kvs)).any id = true
          · rw [if_pos ha]
            refine ⟨_, rfl, .inr x.1, rfl, Nat.lt_of_lt_of_le (show kvs.length < 1000 by omega) (by decide), ?_⟩
            refine hR2 _ ⟨pre ++ [x], rest, _, _, _, _, by rw [ep]; simp, rfl, rfl, fun k hk' => hk k (List.mem_cons_of_mem _ hk'), ?_, fun f => by rw [nxt f, ha, Bool.and_true, hasN_put]⟩
            have := len_put (kvs := kvs) (k := .inr x.1) (d := .bl true)
            simp only [List.length_cons] at hb
            omega
          · rw [if_neg ha]
            exact hR2 _ ⟨pre ++ [x], rest, _, _, _, _, by rw [ep]; simp, rfl, rfl, fun k hk' => hk k (List.mem_cons_of_mem _ hk'), by simp only [List.length_cons] at hb; omega, fun f => by rw [nxt f, Bool.eq_false_iff.mpr ha, Bool.and_false, Bool.or_false]⟩
theorem ok_initX (T : TxtB K C mg) (Fn : Fun K "__init__" "Book.__init__" s_Book___init__ f fd) (C_is_kinds : Cal P w K mg base CX0 W k "is_kinds" ["thing"] spIsKindsW) (C_with_worths : Cal P w K mg base CX0 W k "with_worths" ["kinds"] spWithW) (CN_NoBook : CalN K mg "NoBook" CNb) (CE_Bare : CalE P w K mg base k "Bare" CB "kind") : GnOk P w K mg base (L2.CX P w) (k + 2) f fd ["self", "kinds"] (spInit W K C (spBookX C CB)) := by
  refine Fn.okIX sc_Book___init__ rfl fun cdv A outer s H I B a ds Q E hr h => ?_
  have hu := hr.units
  have hu2 : (A.deeper (envOfC "Book.__init__" (defScope s_Book___init__) s.heap.objs.size f cdv)).units + 66 < cLine := by have := hr.room.un; omega
  obtain ⟨ks, rfl, g, q, q2⟩ := h
  refine ⟨_, (dss_cons (ds_if (dt_not (dt_val (de_fn C_is_kinds (hr.mono (by omega)) pass0 lets0 (da_cons (de_name 1) da_nil))))
  (dss_one (ds_raise rfl takes_def letsS_def (dmk_n CN_NoBook)))
  dss_nil)
  (dss_cons (ds_set 2 (de_fn C_with_worths (hr.mono (by omega)) pass0 lets0 (da_cons (de_name 1) da_nil)) sc_Book___init__.nd)
  (dss_cons (ds_for PassesOwn.leaving rfl (di_seq (de_name 1)) (dg_tup (n := 2) rfl (dgs_cons (dg_name 3 sc_Book___init__.nd) (dgs_cons (dg_name 4 sc_Book___init__.nd) dgs_nil)))
  (dss_one (ds_if (dt_notin hu2 (de_name 3) (de_name 2))
  (dss_one (ds_raise rfl takes_def letsS_def (dmk_e CE_Bare (hr.mono (by omega)) (de_name 3))))
  dss_nil)))
  (dss_cons (ds_setA 0 (de_name 1) (cl := T.cl_Book) (n := T.na_Book_kinds))
  (dss_cons (ds_setA 0 (de_cpD (own := [("name", 3), ("boughs", 4)]) rfl sc_Book___init__.nd (di_seq (de_name 1)) (blkOk_by (own := [("name", 3), ("boughs", 4)]) (N := ["self", "kinds", "founded", "name", "boughs", "bough", "fields"]) (sc := defScope s_Book___init__) (by decide +kernel)) (fun _ _ _ _ _ => (dg_tup (n := 2) rfl (dgs_cons (dg_name 3 sc_Book___init__.nd) (dgs_cons (dg_name 4 sc_Book___init__.nd) dgs_nil)))) (fun _ _ _ _ _ => dif_nil) (fun _ _ _ _ _ => (dn_nil rfl (dm_dict (fun _ _ z => z) (de_name 3) (de_tuple T.b_tuple (da_cons (de_lc (own := [("bough", 5), ("fields", 6)]) rfl sc_Book___init__.nd (di_seq (de_name 4)) (blkOk_nest (own := [("bough", 5), ("fields", 6)]) (N := ["self", "kinds", "founded", "name", "boughs", "bough", "fields"]) (defScope s_Book___init__) rfl (by decide +kernel)) (fun _ _ _ _ _ => (dg_tup (n := 2) rfl (dgs_cons (dg_name 5 sc_Book___init__.nd) (dgs_cons (dg_name 6 sc_Book___init__.nd) dgs_nil)))) (fun _ _ _ _ _ => dif_nil) (fun _ _ _ _ _ => (de_name 5))) da_nil)))))) (cl := T.cl_Book) (n := T.na_Book_names_by))
  (dss_cons (ds_setA 0 (de_cpD (own := [("name", 3), ("boughs", 4), ("bough", 5), ("fields", 6)]) rfl sc_Book___init__.nd (di_seq (de_name 1)) (blkOk_by (own := [("name", 3), ("boughs", 4), ("bough", 5), ("fields", 6)]) (N := ["self", "kinds", "founded", "name", "boughs", "bough", "fields"]) (sc := defScope s_Book___init__) (by decide +kernel)) (fun _ _ _ _ _ => (dg_tup (n := 2) rfl (dgs_cons (dg_name 3 sc_Book___init__.nd) (dgs_cons (dg_name 4 sc_Book___init__.nd) dgs_nil)))) (fun _ _ _ _ _ => dif_nil) (fun _ _ _ _ _ => (dn_cons (fun _ _ z => z) rfl (cp_dict _ _ _ _ _) rfl (fun g h => by first | (cases h; rfl) | cases h) HdK.mono (di_seq (de_name 4)) (dg_tup (n := 2) rfl (dgs_cons (dg_name 5 sc_Book___init__.nd) (dgs_cons (dg_name 6 sc_Book___init__.nd) dgs_nil))) dif_nil (dn_nil rfl (dm_dict (fun _ _ z => z) (de_name 5) (de_name 3))) (by intro _; rfl)))) (cl := T.cl_Book) (n := T.na_Book_kinds_by))
  (dss_one (ds_setA 0 (de_cpD (own := [("name", 3), ("boughs", 4), ("bough", 5), ("fields", 6)]) rfl sc_Book___init__.nd (di_seq (de_name 1)) (blkOk_by (own := [("name", 3), ("boughs", 4), ("bough", 5), ("fields", 6)]) (N := ["self", "kinds", "founded", "name", "boughs", "bough", "fields"]) (sc := defScope s_Book___init__) (by decide +kernel)) (fun _ _ _ _ _ => (dg_tup (n := 2) rfl (dgs_cons (dg_name 3 sc_Book___init__.nd) (dgs_cons (dg_name 4 sc_Book___init__.nd) dgs_nil)))) (fun _ _ _ _ _ => dif_nil) (fun _ _ _ _ _ => (dn_cons (fun _ _ z => z) rfl (cp_dict _ _ _ _ _) rfl (fun g h => by first | (cases h; rfl) | cases h) HdK.mono (di_seq (de_name 4)) (dg_tup (n := 2) rfl (dgs_cons (dg_name 5 sc_Book___init__.nd) (dgs_cons (dg_name 6 sc_Book___init__.nd) dgs_nil))) dif_nil (dn_nil rfl (dm_dict (fun _ _ z => z) (de_name 5) (de_name 6))) (by intro _; rfl)))) (cl := T.cl_Book) (n := T.na_Book_fields_by))))))))), ?_⟩
  simp only [startI]
  simp only [getD_0, getD_s, set_0, set_s, boolD_bl, intD_int, startD, List.map, List.length_cons, List.length_nil, List.replicate, List.cons_append, List.nil_append, defEnds, wipeD, if_true, if_false, Bool.not_true, Bool.not_false, Bool.false_eq_true]
  refine ⟨_, rfl, ⟨ks, rfl, g⟩, ?_⟩
  simp only [getD_0, getD_s, set_0, set_s, boolD_bl, intD_int, startD, List.map, List.length_cons, List.length_nil, List.replicate, List.cons_append, List.nil_append, defEnds, wipeD, if_true, if_false, Bool.not_true, Bool.not_false, Bool.false_eq_true]
  refine ⟨ks, rfl, g, fun kvs hkvs => ?_⟩
  simp only [getD_0, getD_s, set_0, set_s, boolD_bl, intD_int, startD, List.map, List.length_cons, List.length_nil, List.replicate, List.cons_append, List.nil_append, defEnds, wipeD, if_true, if_false, Bool.not_true, Bool.not_false, Bool.false_eq_true]
  simp only [kindsD, itemsD]
  refine forD_ind (fun (l : List D) ρ => ∃ (pre rest : List Kind) (b c : Option Ent), l = rest.map kindD ∧ ks = pre ++ rest ∧ (∀ k ∈ pre, wthy ks k.1 = true) ∧ ρ = [some (.ownO a C []), some (.dat (kindsD ks)), some (.dat (.dic kvs)), b, c, none, none]) (fun ρ ⟨pre, rest, b, c, el, hl, hp, e⟩ => ?_) (fun d l ρ R ⟨pre, rest, b, c, el, hl, hp, e⟩ hR => ?_) _ _ ⟨[], ks, none, none, rfl, rfl, (fun _ h => nomatch h), rfl⟩
  rotate_left
  · subst e
    cases rest with
    | nil => cases el
    | cons x rest =>
      rw [List.map_cons] at el
      obtain ⟨rfl, rfl⟩ := List.cons.inj el
      refine ⟨_, rfl, rfl, _, _, rfl, _, _, rfl, rfl, ?_⟩
      simp only [getD_0, getD_s, set_0, set_s, boolD_bl, intD_int, startD, List.map, List.length_cons, List.length_nil, List.replicate, List.cons_append, List.nil_append, defEnds, wipeD, if_true, if_false, Bool.not_true, Bool.not_false, Bool.false_eq_true]
      refine ⟨.inr x.1, rfl, ?_⟩
      have e1 : Dk.flip true (lookD kvs (.inr x.1)).isSome = !(wthy ks x.1) := by
        have := hkvs x.1
        unfold hasN at this
        rw [this]
        cases wthy ks x.1 <;> rfl
      rw [e1]
      simp only [boolD_bl]
      cases hw : wthy ks x.1 with
      | true =>
        rw [if_neg (by simp)]
        refine hR _ ⟨pre ++ [x], rest, _, _, rfl, by rw [hl]; simp, fun k hk => ?_, rfl⟩
        rcases List.mem_append.mp hk with hk | hk
        · exact hp k hk
        · obtain rfl : k = x := by simpa using hk
          exact hw
      | false =>
        rw [if_pos (by simp)]
        exact q2 pre x rest hl hp hw
  have rn : rest = [] := by simpa using el.symm
  subst rn
  rw [List.append_nil] at hl
  subst hl
  subst e
  simp only [getD_0, getD_s, set_0, set_s, boolD_bl, intD_int, startD, List.map, List.length_cons, List.length_nil, List.replicate, List.cons_append, List.nil_append, defEnds, wipeD, if_true, if_false, Bool.not_true, Bool.not_false, Bool.false_eq_true]
  refine ⟨a, [], rfl, by decide, ?_⟩
  simp only [kindsD, itemsD]
  have gs1 := g.s1
  have gs2 := g.s2
  have lk : (ks.map kindD).length ≤ sizeLine := by rw [List.length_map]; exact Nat.le_trans gs1 (by decide)
  have en : ∀ l : List Kind, (l.flatMap fun k => [((.inr k.1 : Key), D.tup (k.2.map fun b => .str b.1))]) = namesBy l := fun l => by unfold namesBy; rw [List.map_eq_flatMap]
  refine loopD_put kindD (fun k => [(.inr k.1, .tup (k.2.map fun b => .str b.1))]) 100 (fun x hx b R S hl hn r => ?_) (by rw [en]; simp [namesBy]; omega) (by rw [en]; exact g.nk) ?_
  · refine ⟨_, rfl, rfl, _, _, rfl, _, _, rfl, rfl, ?_⟩
    simp only [getD_0, getD_s, set_0, set_s, boolD_bl, intD_int, startD, List.map, List.length_cons, List.length_nil, List.replicate, List.cons_append, List.nil_append, defEnds, wipeD, if_true, if_false, Bool.not_true, Bool.not_false, Bool.false_eq_true]
    refine ⟨Nat.le_trans (by rw [List.length_map]; exact gs2 x hx) (by decide), lcD_all boughD (fun b => .str b.1) (fun b hb R S hr => ?_) ?_⟩
    · refine ⟨_, rfl, rfl, _, _, rfl, _, _, rfl, rfl, ?_⟩
      simp only [getD_0, getD_s, set_0, set_s, boolD_bl, intD_int, startD, List.map, List.length_cons, List.length_nil, List.replicate, List.cons_append, List.nil_append, defEnds, wipeD, if_true, if_false, Bool.not_true, Bool.not_false, Bool.false_eq_true]
      exact hr
    · refine ⟨.inr x.1, rfl, Nat.lt_of_lt_of_le (show b.length < 1000 by simp at hl; omega) (by decide), ?_⟩
      rw [putD_new hn]
      exact r
  rw [en, List.nil_append]
  refine ⟨a, _, rfl, Nat.lt_of_lt_of_le (len_putFD (n := 1) (by decide)) (by decide), ?_⟩
  have flk : ∀ (out : Kind → Bough → D), (∀ k b, k ∈ ks → b ∈ k.2 → True) → ((ks.flatMap fun k => k.2.map fun b => ((.inr b.1 : Key), out k b)).map (·.1)) = (bNames ks).map Sum.inr := fun out _ => by
    unfold bNames; rw [List.map_flatMap, List.map_flatMap]; simp only [List.map_map]; rfl
  have sub : ∀ x ∈ ks, ∀ (out : Bough → D) (b : List (Key × D)), b.length + (x.2.flatMap fun y => [((.inr y.1 : Key), out y)]).length ≤ 1000 ↔ b.length + (x.2.map fun y => ((.inr y.1 : Key), out y)).length ≤ 1000 := fun x _ out b => by rw [← List.map_eq_flatMap]
  refine loopD_put kindD (fun k => k.2.map fun b => (.inr b.1, .str k.1)) 1000 (fun x hx b R S hl hn r => ?_) (by have := g.klen; unfold kindsBy at this; simp only [List.length_nil]; omega) (by rw [List.nil_append]; exact g.kk) ?_
  · refine ⟨_, rfl, rfl, _, _, rfl, _, _, rfl, rfl, ?_⟩
    simp only [getD_0, getD_s, set_0, set_s, boolD_bl, intD_int, startD, List.map, List.length_cons, List.length_nil, List.replicate, List.cons_append, List.nil_append, defEnds, wipeD, if_true, if_false, Bool.not_true, Bool.not_false, Bool.false_eq_true]
    refine loopD_put boughD (fun y => [(.inr y.1, .str x.1)]) 1000 (fun y hy b R S hl hn r => ?_) (by rw [← List.map_eq_flatMap]; exact hl) (by rw [← List.map_eq_flatMap]; exact hn) (by rw [← List.map_eq_flatMap]; exact r)
    refine ⟨_, rfl, rfl, _, _, rfl, _, _, rfl, rfl, ?_⟩
    simp only [getD_0, getD_s, set_0, set_s, boolD_bl, intD_int, startD, List.map, List.length_cons, List.length_nil, List.replicate, List.cons_append, List.nil_append, defEnds, wipeD, if_true, if_false, Bool.not_true, Bool.not_false, Bool.false_eq_true]
    refine ⟨.inr y.1, rfl, Nat.lt_of_lt_of_le (show b.length < 1001 by simp at hl; omega) (by decide), ?_⟩
    rw [putD_new hn]
    exact r
  rw [List.nil_append]
  refine ⟨a, _, rfl, Nat.lt_of_lt_of_le (len_putFD (len_putFD (n := 1) (by decide))) (by decide), ?_⟩
  refine loopD_put kindD (fun k => k.2.map fun b => (.inr b.1, .tup (b.2.map D.str))) 1000 (fun x hx b R S hl hn r => ?_) (by have := g.flen; unfold fieldsBy at this; simp only [List.length_nil]; omega) (by rw [List.nil_append]; exact g.fk) ?_
  · refine ⟨_, rfl, rfl, _, _, rfl, _, _, rfl, rfl, ?_⟩
    simp only [getD_0, getD_s, set_0, set_s, boolD_bl, intD_int, startD, List.map, List.length_cons, List.length_nil, List.replicate, List.cons_append, List.nil_append, defEnds, wipeD, if_true, if_false, Bool.not_true, Bool.not_false, Bool.false_eq_true]
    refine loopD_put boughD (fun y => [(.inr y.1, .tup (y.2.map D.str))]) 1000 (fun y hy b R S hl hn r => ?_) (by rw [← List.map_eq_flatMap]; exact hl) (by rw [← List.map_eq_flatMap]; exact hn) (by rw [← List.map_eq_flatMap]; exact r)
    refine ⟨_, rfl, rfl, _, _, rfl, _, _, rfl, rfl, ?_⟩
    simp only [getD_0, getD_s, set_0, set_s, boolD_bl, intD_int, startD, List.map, List.length_cons, List.length_nil, List.replicate, List.cons_append, List.nil_append, defEnds, wipeD, if_true, if_false, Bool.not_true, Bool.not_false, Bool.false_eq_true]
    refine ⟨.inr y.1, rfl, Nat.lt_of_lt_of_le (show b.length < 1001 by simp at hl; omega) (by decide), ?_⟩
    rw [putD_new hn]
    exact r
  rw [List.nil_append]
  refine ⟨a, _, rfl, Nat.lt_of_lt_of_le (len_putFD (len_putFD (len_putFD (n := 1) (by decide)))) (by decide), ?_⟩
  exact ⟨_, rfl, q hp⟩
theorem ok_lenW (T : TxtB K C mg) (Fn : Fun K "__len__" "Book.__len__" s_Book___len__ f fd) : GnOk P w K mg base CX0 (k + 1) f fd ["self"] (spD W K ⟨1, fun ds Q _ => ∃ ks, ds = [bookD C ks] ∧ Wel ks ∧ Q (.int ks.length), fun ds Q E ⟨_, e, _⟩ => by rw [e]; rfl, fun ds Q Q' E E' k _ ⟨ks, e, g, q⟩ => ⟨ks, e, g, k _ q⟩⟩) := by
  refine Fn.okD sc_Book___len__ rfl fun cdv A outer s H I ds Q Ed E hr h => ?_
  have hu := hr.units
  obtain ⟨ks, rfl, g, q⟩ := h
  refine ⟨_, (dss_one (ds_ret (de_len T.b_len (da_cons (de_fld T.cl_Book T.na_Book_kinds (de_name 0)) da_nil)))), ?_⟩
  simp only [getD_0, getD_s, set_0, set_s, boolD_bl, intD_int, startD, List.map, List.length_cons, List.length_nil, List.replicate, List.cons_append, List.nil_append, defEnds, wipeD, if_true, if_false, Bool.not_true, Bool.not_false, Bool.false_eq_true]
  refine ⟨_, _, rfl, rfl, ?_⟩
  show Q (.int ((ks.map kindD).length : Int))
  rw [List.length_map]
  exact q
theorem ok_eqW (T : TxtB K C mg) (cB : mg "Book" = some (.ref C)) (iB : Isi K C) (nc : NeC K C) (Fn : Fun K "__eq__" "Book.__eq__" s_Book___eq__ f fd) : GnOk P w K mg base CX0 (k + 1) f fd ["self", "other"] (spD W K (spEqM C)) := by
  refine Fn.okD sc_Book___eq__ rfl fun cdv A outer s H I ds Q Ed E hr h => ?_
  have hu := hr.units
  obtain ⟨ks, d, rfl, g, q⟩ := h
  refine ⟨_, (dss_one (ds_ret (de_and (de_isiM iB nc T.b_isinstance cB (de_name 1)) (de_one (de_c (.eq hu) (de_fld T.cl_Book T.na_Book_kinds (de_name 0)) (de_fld T.cl_Book T.na_Book_kinds (de_name 1))))))), ?_⟩
  simp only [getD_0, getD_s, set_0, set_s, boolD_bl, intD_int, startD, List.map, List.length_cons, List.length_nil, List.replicate, List.cons_append, List.nil_append, defEnds, wipeD, if_true, if_false, Bool.not_true, Bool.not_false, Bool.false_eq_true]
  rcases q with ⟨ks', rfl, g', q⟩ | ⟨kn, q⟩
  · refine .inl ⟨_, rfl, _, _, rfl, rfl, _, _, rfl, rfl, by simp [canEq, g.ok.okE (by decide), g'.ok.okE (by decide)], ?_⟩
    rw [kindsD_eq]
    exact q
  · exact .inr ⟨kn, q⟩
end
end KB
namespace Dk
open PySem L2 PySem.Spec PyProof.Rows HT
section
variable {prog : Program} {w : World} {A : Around} {E : Value → Shared → Prop} {s : Shared}
theorem rev_places (n : Nat) : Builtin.Slice.slicePlaces ((n : Int) - 1) (-1) (-1) = n := by
  unfold Builtin.Slice.slicePlaces
  rw [if_neg (by decide)]
  by_cases h : (n : Int) - 1 > -1
  · rw [if_pos h, show (- -1 : Int) = 1 from by decide, Int.ediv_one]
    omega
  · rw [if_neg h]
    omega
theorem fm_congr {α β : Type} {f g : α → Option β} : ∀ {l : List α}, (∀ k ∈ l, f k = g k) → l.filterMap f = l.filterMap g
  | [], _ => rfl
  | a :: l, h => by
    rw [List.filterMap_cons, List.filterMap_cons, h a (by simp), fm_congr fun k hk => h k (List.mem_cons_of_mem _ hk)]
theorem rev_pick (xs : Array Value) : ((List.range xs.size).filterMap fun (k : Nat) => xs[(((xs.size : Int) - 1) + (k : Int) * (-1)).toNat]?).toArray = xs.toList.reverse.toArray := by
  have e : (List.range xs.size).filterMap (fun (k : Nat) => xs[(((xs.size : Int) - 1) + (k : Int) * (-1)).toNat]?) = ((List.range xs.size).map fun k => xs.size - 1 - k).filterMap (xs[·]?) := by
    rw [List.filterMap_map]
    refine fm_congr fun k hk => ?_
    have := List.mem_range.mp hk
    show xs[_]? = xs[_]?
    rw [show (((xs.size : Int) - 1) + (k : Int) * (-1)).toNat = xs.size - 1 - k from by omega]
  rw [e, PySem.W.krv_range, List.filterMap_reverse, PySem.W.krv_all]
theorem getItem_tuple_rev {t sl : Addr} {items : Array Value} {vl vu vs : Value} {Q : Value → Shared → Prop} (ht : IsTup s.heap t items) (hs : s.heap.IsSliceOf sl vl vu vs) (pl : IsPart vl none) (pu : IsPart vu none) (ps : IsPart vs (some (-1)))
    (h : Q (.ref s.heap.objs.size) { s with heap := s.heap.push { cls := .type "tuple", data := .seq items.toList.reverse.toArray } }) (hsz : items.size ≤ sizeLine) : wpAny (model prog w) A (getItem (.ref t) (.ref sl)) Q E s := by
  have htake : sizeOk (.seq items.toList.reverse.toArray) := by
    show items.toList.reverse.toArray.size ≤ sizeLine
    simpa using hsz
  obtain ⟨os, hos, hcs, hds⟩ := id hs
  have hTs : s.TypeIs (.ref sl) "slice" := ⟨os, hos, hcs⟩
  unfold getItem
  try with_reducible refine wpAny_holding ?_
  first | refine wpAny_bind (wpAny_pure ?_) | skip
  refine wpAny_bind (wpAny_sequenceKey ht.typeIs (by decide) ?_)
  refine wpAny_bind (wpAny_callSpecial?_slot (name := Str.ofString "__getitem__") ht.typeIs PyProof.Rows.slot_tuple_getitem
    (wpAny_call_entry PyProof.Rows.slot_tuple_getitem ht.typeIs entry_tuple_getitem ?_ (args_tuple_getitem _ _)))
  show wpAny _ _ (Builtin.Tuple.tupleItemsOf (.ref t) >>= _) _ _ s
  refine wpAny_bind (tupleItemsOf_ ht ?_)
  refine wpAny_bind (wpAny_typeOf hTs ?_)
  rw [if_pos (by decide)]
  have ap : ∀ {Q : Int × Int × Nat → Shared → Prop}, Q ((items.size : Int) - 1, -1, items.size) s → wpAny (model prog w) A.in1 (Builtin.Slice.sliceApplied (.ref sl) (pure (items.size : Int))) Q E s := fun {Q} q => by
    unfold Builtin.Slice.sliceApplied Builtin.Slice.sliceFields
    refine wpAny_bind (wpAny_bind (wpAny_field hos hds (x := vl) rfl (wpAny_bind (wpAny_field hos hds (x := vu) rfl (wpAny_bind (wpAny_field hos hds (x := vs) rfl (wpAny_pure ?_)))))))
    refine wpAny_bind (slicePart_ ps ?_)
    show wpAny _ _ (if ((-1 : Int) == 0) = true then _ else _) _ _ s
    rw [if_neg (by decide)]
    refine wpAny_bind (slicePart_ pl (wpAny_bind (slicePart_ pu (wpAny_bind (wpAny_pure ?_)))))
    show wpAny _ _ (pure ((items.size : Int) - 1, (-1 : Int), Builtin.Slice.slicePlaces ((items.size : Int) - 1) (-1) (-1))) _ _ s
    rw [rev_places]
    exact wpAny_pure q
  refine wpAny_bind (ap ?_)
  show wpAny _ _ (if (((items.size : Int) - 1) == 0 && (-1 : Int) == 1 && items.size == items.size) = true then _ else _) _ _ s
  rw [if_neg (by simp), rev_pick]
  first
    | exact wpAny_bind (m := Builtin.Tuple.tupleExact _) (wpAny_newObj_type (wpAny_pure ⟨_, rfl, wpAny_pure h⟩) htake)
    | exact wpAny_bind (m := Builtin.Tuple.tupleExact _) (wpAny_newObj_type (wpAny_bind (wpAny_pure (wpAny_pure ⟨_, rfl, wpAny_pure h⟩))) htake)
    | exact wpAny_bind (wpAny_bind (m := Builtin.Tuple.tupleExact _) (wpAny_newObj_type (wpAny_pure (wpAny_pure ⟨_, rfl, wpAny_pure h⟩)) htake))
    | exact wpAny_bind (wpAny_bind (m := Builtin.Tuple.tupleExact _) (wpAny_newObj_type (wpAny_pure ⟨_, rfl, wpAny_pure h⟩) htake))
end
/-- a text turned about -/
def revS (z : Str) : Str := ⟨((Builtin.Str.strSliceIndices none none (-1) z.length).filterMap (z.cps[·]?)).toArray⟩
theorem revS_eq (z : Str) : revS z = ⟨z.cps.toList.reverse.toArray⟩ := by
  unfold revS Builtin.Str.strSliceIndices
  simp only [show ¬ ((-1 : Int) > 0) from by decide, if_false]
  rw [PySem.W.krv_sliceRange, PySem.W.krv_range, List.filterMap_reverse]
  have e : z.length = z.cps.size := rfl
  rw [e, PySem.W.krv_all]
theorem revS_len (z : Str) : (revS z).length = z.length := by
  rw [revS_eq]
  show (z.cps.toList.reverse.toArray).size = z.cps.size
  simp
def tRevG (K : PySem.W.Frag) (te : TE) : TE := fun σ H Q => te σ H fun x H1 => (∃ a xs, x = .ref a ∧ SqL K H1 a xs ∧ ∀ p, H1 p = none → Q (.ref p) (upd H1 p (.lst xs.reverse))) ∨ (∃ a xs, x = .ref a ∧ SqT K H1 a xs ∧ ∀ p, H1 p = none → Q (.ref p) (upd H1 p (.tup xs.reverse))) ∨
  ∃ z, x = .str z ∧ z.length ≤ sizeLine ∧ Q (.str (revS z)) H1
theorem pe_revG {X : Cx} {e : Expr} {te : TE} {k : Nat} {p1 p2 p3 pos : Pos} (he : PE X e te) : PE X (.Subscript e (.Slice none none (some (.UnaryOp .USub (.Constant (.int 1) k p1) p2)) p3) pos) (tRevG X.K te) := by
  refine ⟨fun pins s σ H Q I h => ?_⟩
  refine Subscript_ (thn (he.run pins s σ H _ I h) fun v s1 ⟨x, H1, I1, r1, q1⟩ => ?_)
  have hst : PO X (some (.UnaryOp .USub (.Constant (.int 1) k p1) p2)) (tPart (tUn (rU fun i => .int (-i)) (tC (.int 1)))) := po_some (pe_un un_neg pe_int)
  refine wpAny_Slice (thn (po_none.run pins s1 σ H1 (fun o H2 => o = none ∧ H2 = H1) I1 ⟨rfl, rfl⟩) fun vl s2 ⟨l, H2, I2, pl, el, e2⟩ => ?_)
  subst el e2
  refine thn (po_none.run pins s2 σ H2 (fun o H3 => o = none ∧ H3 = H2) I2 ⟨rfl, rfl⟩) fun vu s3 ⟨u, H3, I3, pu, eu, e3⟩ => ?_
  subst eu e3
  refine thn (hst.run pins s3 σ H3 (fun o H4 => o = some (-1) ∧ H4 = H3) I3 ⟨1, rfl, -1, rfl, rfl, rfl⟩) fun vs s4 ⟨o, H4, I4, ps, eo, e4⟩ => ?_
  subst eo e4
  have I5 : Inv X pins σ H4 { s4 with heap := s4.heap.push { cls := .type "slice", data := .fields #[vl, vu, vs] } } := I4.kept (t' := s4.toks) fun b ob q => Heap.get?_push_of_some _ q
  rcases q1 with ⟨a, xs, ex, hx, q⟩ | ⟨a, xs, ex, hx, q⟩ | ⟨z, ex, hz, q⟩
  · subst ex
    cases r1
    obtain ⟨its, r, ht, hz⟩ := I5.list hx
    have hlen := r.length
    refine tail_any (ops := [.ref a, .ref s4.heap.objs.size]) ht.isList.typeIs (PySem.slot_list_getitem.lookup) ?_ (by with_unfolding_all rfl)
    refine wpAny_getItem_list_slice ht.isList (Heap.IsSliceOf.new _ vl vu vs) pl pu ps (by decide) ?_ (by rw [List.size_toArray]; omega)
    rw [PySem.W.krv_pick]
    refine ⟨.ref _, _, I5.laid (t' := s4.toks) (o := .lst xs.reverse) (fun b ob q => Heap.get?_push_of_some _ q) (Nat.le_refl _) ?_, rfl, q _ (I5.hok.fresh (Nat.le_refl _))⟩
    exact ⟨by rw [List.length_reverse]; exact hz, _, 0, r.reverse, Heap.get?_push_size _ rfl⟩
  · subst ex
    cases r1
    obtain ⟨its, r, ht, hz⟩ := I5.tuple hx
    have hlen := r.length
    refine tail_any (ops := [.ref a, .ref s4.heap.objs.size]) ht.typeIs (PyProof.Rows.slot_tuple_getitem.lookup) ?_ (by with_unfolding_all rfl)
    refine getItem_tuple_rev ht (Heap.IsSliceOf.new _ vl vu vs) pl pu ps ?_ (by rw [List.size_toArray]; omega)
    refine ⟨.ref _, _, I5.laid (t' := s4.toks) (o := .tup xs.reverse) (fun b ob q => Heap.get?_push_of_some _ q) (Nat.le_refl _) ?_, rfl, q _ (I5.hok.fresh (Nat.le_refl _))⟩
    exact ⟨by rw [List.length_reverse]; exact hz, _, r.reverse, IsTup.new _ _⟩
  · subst ex
    obtain ⟨t, rfl⟩ := r1
    obtain ⟨lo, rfl, el⟩ := IsPart.raw pl
    obtain ⟨up, rfl, eu⟩ := IsPart.raw pu
    obtain ⟨sp, rfl, es⟩ := IsPart.raw ps
    obtain rfl : lo = none := by cases lo <;> simp_all
    obtain rfl : up = none := by cases up <;> simp_all
    refine tail_any (ops := [.str z t, .ref s4.heap.objs.size]) (typeIs_str _ _ _) (F.slot_str_getitem.lookup) ?_ (by with_unfolding_all rfl)
    refine wpAny_getItem_str_slice (l := none) (u := none) (st := sp) ⟨_, Heap.get?_push_size _ rfl, rfl, rfl⟩ (by rw [es]; rfl) ?_
    unfold sliceMade slicePicked
    rw [es]
    rw [if_neg (by simp)]
    refine ⟨?_, .str (revS z), H4, I5.tok _, ⟨_, rfl⟩, q⟩
    have := revS_len z
    show (revS z).length ≤ sizeLine
    omega
/-- any of these turned about -/
def revGD : D → (D → Prop) → Prop
  | .lst xs, Q => Q (.lst xs.reverse)
  | .tup xs, Q => Q (.tup xs.reverse)
  | .str z, Q => z.length ≤ sizeLine ∧ Q (.str (revS z))
  | _, _ => False
theorem de_revG {F : Fx} {X : Cx} {e : Expr} {te : DT} {k : Nat} {p1 p2 p3 pos : Pos} (he : DE F X e te) : DE F X (.Subscript e (.Slice none none (some (.UnaryOp .USub (.Constant (.int 1) k p1) p2)) p3) pos) (fun ρ Q => te ρ fun d => revGD d Q) := by
  refine ⟨fun ρ Q Q' k q => he.mono _ _ _ (fun d q => by cases d <;> first | exact q.elim | exact k _ q | exact ⟨q.1, k _ q.2⟩) q, (pe_revG he.run).imp fun σ H Q ⟨I, ρ, A, q⟩ => rdE_next he.mono A q fun d v I1 H1 q1 s rv => ?_⟩
  cases rv with
  | @lst q zs es a r =>
    refine .inl ⟨_, _, rfl, .of (s.st.sub _ _ a), fun p hp => ?_⟩
    have l' := s.st.laid hp (.lst zs.reverse)
    exact q1 _ _ _ (s.trans l') (.lst upd_same (r.reverse.mono l'.i))
  | @tup q zs es a r =>
    refine .inr (.inl ⟨_, _, rfl, Same.seqT s.st.sub a, fun p hp => ?_⟩)
    have l' := s.st.laid hp (.tup zs.reverse)
    exact q1 _ _ _ (s.trans l') (.tup (.of upd_same) (r.reverse.mono l'.i))
  | str z => exact .inr (.inr ⟨z, rfl, q1.1, q1.2 _ _ _ s (.str _)⟩)
  | _ => exact q1.elim
end Dk
namespace Dk
open PySem L2
section
variable {F : Fx} {X : Cx} {es : List Expr} {gs : DGTs} {pos : Pos}
theorem dg_lst {n k : Nat} {js : List Nat} (hc : X.calm = true) (h : DGs F X es js gs) (hn : (assignEach es X.env).length = n := by rfl) (hst : (assignEach es X.env).findIdx? (·.1) = none := by rfl) : DG F X (.Tuple es k pos) js (fun d ρ Q => ∃ ds, d = .lst ds ∧ ds.length = n ∧ gs ds ρ Q) := by
  refine ⟨fun d ρ Q Q' k ⟨ds, e, l, q⟩ => ⟨ds, e, l, h.mono _ _ _ _ k q⟩, fun d ρ Q ⟨ds, e, l, q⟩ => ⟨ds, e, l, h.keeps _ _ _ q⟩, (pg_lst hc h.run hn hst).imp fun v σ H Q ⟨I, ρ, d, A, r, ds, e, l, q⟩ => ?_⟩
  subst e
  cases r with
  | lst a rs => exact ⟨_, _, rfl, .of (A.st.sub _ _ a), by rw [rs.length]; exact l, I, ρ, ds, A, rs, q⟩
end
end Dk
namespace KB
open PySem L2 Dk
/-- signs from the blank to ~ -/
def ascii (x : Str) : Bool := x.cps.all fun c => decide (32 ≤ c ∧ c < 127)
def keyOk : Key → Bool
  | .inl i => decide (i.natAbs.log2 < 1900)
  | .inr x => ascii x
mutual
def gd : D → Bool
  | .dic kvs => gdk kvs
  | .tup xs => gds xs
  | .lst xs => gds xs
  | .bl _ => true
  | .int _ => true
  | .str x => ascii x
  | .non => true
  | .obj _ _ => false
  | .opq _ => false
  | .ptp _ => false
  | .dfz _ => false
def gds : List D → Bool
  | [] => true
  | d :: ds => gd d && gds ds
def gdk : List (Key × D) → Bool
  | [] => true
  | (k, d) :: ds => keyOk k && (gd d && gdk ds)
end
end KB
namespace KB
open PySem L2 Dk
open PyProof.Rows (envOfC)
abbrev s__law_deck : Stmt := top 34
theorem sc__law_deck : FnScope ["_law_script", "_law_cell"] ["_law_script"] (defScope s__law_deck) := ⟨rfl, rfl, rfl, by decide +kernel, rfl, by decide +kernel, by decide +kernel⟩
theorem bd__law_deck (kV doc pm : Value) (an : Option Addr) (cdv ct : Value) (us : List Value) (hl : us.length = 1) : bindArgs (PySem.W.fnOf "_law_deck" "_law_deck" (defArgs s__law_deck) (defBody s__law_deck) (defScope s__law_deck) .none kV doc pm an cdv ct) ⟨us, []⟩ = pure ((["_law_script"] : List Str).zip us) := by
  match us, hl with
  | [v0], _ => rfl
abbrev s__law_draw : Stmt := top 35
theorem sc__law_draw : FnScope ["_law_deck_here", "_law_most", "_law_cell", "_law_number"] ["_law_deck_here", "_law_most"] (defScope s__law_draw) := ⟨rfl, rfl, rfl, by decide +kernel, rfl, by decide +kernel, by decide +kernel⟩
theorem bd__law_draw (kV doc pm : Value) (an : Option Addr) (cdv ct : Value) (us : List Value) (hl : us.length = 2) : bindArgs (PySem.W.fnOf "_law_draw" "_law_draw" (defArgs s__law_draw) (defBody s__law_draw) (defScope s__law_draw) .none kV doc pm an cdv ct) ⟨us, []⟩ = pure ((["_law_deck_here", "_law_most"] : List Str).zip us) := by
  match us, hl with
  | [v0, v1], _ => rfl
section
variable {P : Program} {w : World} {K : PySem.W.Frag} {mg : Str → Option Value} {base : Heap}
/-- a deck made of the script -/
def spDeck (K : PySem.W.Frag) : Sp := fun vs H Q _ => ∃ (a : Addr) (ns : List Int), vs = [.ref a] ∧ SqL K H a (ns.map V.int) ∧ ns.length ≤ 63 ∧ ∀ p l H', Same H H' → H p = none → H l = none → deckAt p l H' → Q (.ref p) H'
theorem ok_deck {f : Addr} {fd : FuncData} {k : Nat} (Fn : Fun K "_law_deck" "_law_deck" s__law_deck f fd) (mList : mg "list" = none) (mSum : mg "sum" = none) (mLen : mg "len" = none) : FnOk P w K mg base CX0 (k + 1) f fd ["_law_script"] (spDeck K) := by
  refine Fn.ok sc__law_deck (fun vs H Q E h => ?_) (fun cdv A outer s H vs Q E hr h => ?_)
  · obtain ⟨a, ns, rfl, _⟩ := h
    rfl
  obtain ⟨a, ns, rfl, hS, h63, q⟩ := h
  refine ⟨_, pss_one (ps_ret (pe_lst (pa_cons (pe_revL (pe_callTy call_list_of rfl mList (by decide +kernel) (pa_cons (pe_slice sl_list (pv 0) po_none (po_some pe_int)) pa_nil)))
    (pa_cons (pe_op op_add (pe_callB (cr_sum rfl) rfl mSum (by decide +kernel) (pa_cons (pe_lc (own := [("_law_cell", 1)]) (g := gName 1) (tt := tYes) rfl sc__law_deck.nd (pi_list (pe_slice sl_list (pv 0) po_none (po_some pe_int))) (blkOk_by (own := [("_law_cell", 1)]) (N := ["_law_script", "_law_cell"]) (sc := defScope s__law_deck) (by decide +kernel))
        (fun _ _ _ _ _ => pg_name (i := 1) sc__law_deck.nd rfl (Or.inl rfl)) (fun _ _ _ _ _ => pts_nil) (fun _ _ _ _ _ => pe_op op_modN (pv 1) pe_int)) pa_nil))
      (pe_op op_mul pe_int (pe_callB call_len_seq rfl mLen PySem.boot_len (pa_cons (pe_slice sl_list (pv 0) po_none (po_some pe_int)) pa_nil))))
    (pa_cons pe_int pa_nil))))), ?_⟩
  have cut63 : cutV (ns.map V.int) none (some 63) = ns.map V.int := by
    unfold cutV
    rw [HT.sIx_none, List.drop_zero, show HT.sIx (ns.map V.int).length (ns.map V.int).length (some 63) = min 63 (ns.map V.int).length from HT.sIx_nat _ _ 63]
    rw [List.length_map, Nat.min_eq_right h63, Nat.sub_zero, ← List.length_map (f := V.int), List.take_length]
  -- list(script[:63])[::-1]
  refine ⟨_, rfl, 63, rfl, a, _, rfl, hS, fun c nc => ?_⟩
  rw [cut63]
  have s1 : Same H (upd H c (.lst (ns.map V.int))) := Same.laid nc
  refine ⟨c, _, rfl, .inl (.of upd_same), fun d nd => ?_⟩
  have s2 := Same.trans s1 (Same.laid (o := .lst (ns.map V.int)) nd)
  refine ⟨d, _, rfl, .of upd_same, fun l nl => ?_⟩
  have s3 := Same.trans s2 (Same.laid (o := .lst (ns.map V.int).reverse) nl)
  -- sum([cell % 1000003 for cell in script[:63]]) + 7919 * len(script[:63])
  refine ⟨_, rfl, 63, rfl, a, _, rfl, s3.seq hS, fun e ne => ?_⟩
  rw [cut63]
  have s4 := Same.trans s3 (Same.laid (o := .lst (ns.map V.int)) ne)
  refine ⟨e, rfl, ⟨_, .of upd_same⟩, fun D nD => ?_⟩
  generalize hH4 : upd (upd (upd (upd H c (HO.lst (List.map V.int ns))) d (HO.lst (List.map V.int ns))) l (HO.lst (List.map V.int ns).reverse)) e (HO.lst (List.map V.int ns)) = H4 at *
  have e4 : H4 e = some (.lst (ns.map V.int)) := by rw [← hH4]; exact upd_same
  have l4 : H4 l = some (.lst (ns.map V.int).reverse) := by rw [← hH4, upd_ne (ne_of_none upd_same ne)]; exact upd_same
  refine lc_list (K := K) (a := e) (xs := ns.map V.int) (fun i H' => Same H4 H' ∧ H' D = some (.lst ((ns.take i).map fun c => V.int (c.fmod 1000003)))) ⟨Same.laid nD, upd_same⟩ (fun i H' _ h => .of (h.1 _ _ e4)) ?_ ?_
  · intro i x H' hx ⟨sm, hD⟩
    have hi : i < ns.length := by
      have := (List.getElem?_eq_some_iff.mp hx).1
      simpa using this
    have hx' : x = .int ns[i] := by
      rw [List.getElem?_map, List.getElem?_eq_getElem hi] at hx
      exact (Option.some.inj hx).symm
    subst hx'
    refine ⟨rfl, _, rfl, _, _, rfl, rfl, (show (1000003 : Int) ≠ 0 by decide), _, hD, ?_, fun b u eb => ?_, ?_⟩
    · rw [List.length_map, List.length_take]
      exact Nat.lt_of_le_of_lt (Nat.min_le_left _ _) (small1000 (by omega))
    · rw [upd_ne (ne_of_none eb nD)]; exact sm _ _ eb
    · rw [upd_same, List.take_add_one, List.getElem?_eq_getElem hi, List.map_append]
      rfl
  · intro H' ⟨sm, hD⟩
    rw [List.length_map, List.take_length] at hD
    refine ⟨D, ns.map fun c => c.fmod 1000003, rfl, .of (by rw [hD, List.map_map]; rfl), _, rfl, 63, rfl, a, _, rfl, sm.seq (s4.seq hS), fun g ng => ?_⟩
    rw [cut63]
    refine ⟨g, _, rfl, .inl (.of upd_same), _, _, rfl, rfl, (.inl ⟨by decide, by decide⟩), _, _, rfl, rfl, (show 3 ≤ sizeLine by decide), fun p np => ?_⟩
    have s5 : Same H4 (upd (upd H' g (.lst (ns.map V.int))) p (.lst [.ref l, .int ((ns.map fun c => c.fmod 1000003).sum + 7919 * ((ns.map V.int).length : Int)), .int 0])) := Same.trans sm (Same.trans (Same.laid ng) (Same.laid np))
    have np4 : H4 p = none := by
      cases z : H4 p with
      | none => rfl
      | some u => have := Same.trans sm (Same.laid (o := .lst (ns.map V.int)) ng) _ _ z; rw [np] at this; cases this
    refine q p l _ (Same.trans s4 s5) (Same.free s4 np4) (Same.free s2 nl) ⟨ns.reverse, _, 0, upd_same, ?_, by simpa using h63, ?_⟩
    · rw [s5 _ _ l4, List.map_reverse]
    · intro z
      rw [z, l4] at np4
      cases np4
/-- a draw: any number below the most -/
theorem ok_draw {a l : Addr} {f : Addr} {fd : FuncData} {k : Nat} (Fn : Fun K "_law_draw" "_law_draw" s__law_draw f fd) : FnOk P w K mg base CX0 (k + 1) f fd ["_law_deck_here", "_law_most"] (spD (DeckW a l) K (spDraw a)) := by
  refine Fn.ok sc__law_draw (fun vs H Q E h => spD_len _ _ _ _ h) (fun cdv A outer s H vs Q E hr h => ?_)
  obtain ⟨I, ds, st, rs, m, rfl, m0, m1, q⟩ := h
  obtain ⟨v1, v2, rfl, r1, r2⟩ := rs.two
  cases r1
  cases r2
  have hu := hr.units
  obtain ⟨ns, sm, t, ha, hl, h63, nal⟩ := deck_of st
  have done : ∀ (v : Int) (ns' : List Int) (sm' t' : Int) (H' : Hp), 0 ≤ v → v < m → ns'.length ≤ 63 → H' a = some (.lst [.ref l, .int sm', .int t']) → H' l = some (.lst (ns'.map V.int)) → (∀ b o, H b = some o → b ≠ a → b ≠ l → H' b = some o) → Q (.int v) H' :=
    fun v ns' sm' t' H' h0 h1 h2 h3 h4 h5 => q v h0 h1 (.int v) I H' (stp_deck st h5 ⟨ns', sm', t', h3, h4, h2, nal⟩) (.int v)
  -- the last three rows
  obtain ⟨t2, d2, r2⟩ : ∃ t2, PSs (cxOf CX0 P w K mg base ["_law_deck_here", "_law_most", "_law_cell", "_law_number"] "_law_draw" (defScope s__law_draw) f cdv A outer s H E).nox ((defBody s__law_draw).drop 3) t2 ∧
      ∀ (c : Int) (ns' : List Int) (t' : Int) (H' : Hp), ns'.length ≤ 63 → H' a = some (.lst [.ref l, .int sm, .int t']) → H' l = some (.lst (ns'.map V.int)) → (∀ b o, H b = some o → b ≠ a → b ≠ l → H' b = some o) →
        t2 { nx := fun _ H' => Q .non H', rt := Q } [some (.ref a), some (.int m), some (.int c), none] H' := by
    refine ⟨_, pss_cons (ps_set (i := 3) sc__law_draw.nd rfl (.inl rfl) (pe_op op_mod (pe_op op_mul (pe_op op_add (pe_op op_add (pe_op op_mod (pv 2) pe_int) (pe_op op_mul pe_int (pe_ix ix_list (pv 0) pe_int (fun _ _ => rfl)))) pe_int) pe_int) pe_int))
      (pss_cons (ps_set (i := 3) sc__law_draw.nd rfl (.inl rfl) (pe_op op_mod (pe_op op_add (pe_op op_add (pe_op op_mul (pv 3) (pv 3)) (pe_op op_mul pe_int (pe_ix ix_list (pv 0) pe_int (fun _ _ => rfl)))) pe_int) pe_int))
      (pss_one (ps_ret (pe_op op_mod (pe_op op_fdivW (pe_op op_mod (pe_op op_add (pe_op op_mul (pv 3) (pv 3)) pe_int) pe_int) pe_int) (pv 1))))), fun c ns' t' H' h2 h3 h4 h5 => ?_⟩
    have pos1 : (0 : Int) < 2147483629 := by decide
    refine ⟨_, rfl, _, _, rfl, rfl, pos1, _, rfl, a, _, 2, .int t', rfl, rfl, .of h3, atI_nat (j := 2) rfl, _, _, rfl, rfl, .inl ⟨by decide, by decide⟩, _, _, rfl, rfl, _, _, rfl, rfl, _, _, rfl, rfl, .inr ⟨by decide, by decide⟩, _, _, rfl, rfl, (show (0 : Int) < 2147483647 by decide), ?_⟩
    generalize hx : (c % 2147483629 + 65537 * t' + 11) * 48271 % 2147483647 = x
    have x0 : 0 ≤ x := by rw [← hx]; exact Int.emod_nonneg _ (by decide)
    have x1 : x < 2147483647 := by rw [← hx]; exact Int.emod_lt_of_pos _ (by decide)
    refine ⟨_, rfl, _, rfl, _, _, rfl, rfl, .inl ⟨by omega, by omega⟩, _, rfl, a, _, 2, .int t', rfl, rfl, .of h3, atI_nat (j := 2) rfl, _, _, rfl, rfl, .inl ⟨by decide, by decide⟩, _, _, rfl, rfl, _, _, rfl, rfl, _, _, rfl, rfl, (show (0 : Int) < 2147483587 by decide), ?_⟩
    generalize hy : (x * x + 69621 * t' + 23) % 2147483587 = y
    have y0 : 0 ≤ y := by rw [← hy]; exact Int.emod_nonneg _ (by decide)
    have y1 : y < 2147483587 := by rw [← hy]; exact Int.emod_lt_of_pos _ (by decide)
    refine ⟨_, rfl, _, rfl, _, _, rfl, rfl, .inl ⟨by omega, by omega⟩, _, _, rfl, rfl, _, _, rfl, rfl, (show (0 : Int) < 2147483563 by decide), _, _, rfl, rfl, ⟨by decide, by decide⟩, _, rfl, _, _, rfl, rfl, m0, ?_⟩
    exact done _ ns' sm t' H' (Int.emod_nonneg _ (by omega)) (Int.emod_lt_of_pos _ m0) h2 h3 h4 h5
  refine ⟨_, pss_cons (ps_asg (pe_op op_add (pe_ix ix_list (pv 0) pe_int (fun _ _ => rfl)) pe_int) (pg_sub (pv 0) pe_int set_list))
    (pss_cons (ps_set (i := 2) sc__law_draw.nd rfl (.inl rfl) (pe_ix ix_list (pv 0) pe_int (fun _ _ => rfl)))
    (pss_cons (ps_if (pt_cmpR (op_neD hu) (pe_ix ix_list (pv 0) pe_int (fun _ _ => rfl)) (pe_lst pa_nil) (nomark _))
      (pss_cons (ps_set (i := 2) sc__law_draw.nd rfl (.inl rfl) (pe_bm0 PySem.F.plainAttrs_list PySem.F.slot_list_pop PySem.F.type_list_pop mt_pop (pe_ix ix_list (pv 0) pe_int (fun _ _ => rfl))))
      (pss_one (ps_if (pt_cmpR op_ge (pv 2) (pe_op op_pow pe_int pe_int) (nomark _))
        (pss_cons (ps_expr (pe_bm PySem.F.plainAttrs_list PySem.F.slot_list_append PySem.F.type_list_append mt_append (pe_ix ix_list (pv 0) pe_int (fun _ _ => rfl)) (pa_cons (pe_op op_fdivW (pv 2) (pv 1)) pa_nil)))
        (pss_one (ps_ret (pe_op op_mod (pv 2) (pv 1))))) pss_nil))) pss_nil) d2)), ?_⟩
  -- deck[2] = deck[2] + 1; cell = deck[1]
  refine ⟨_, rfl, a, _, 2, .int t, rfl, rfl, .of ha, atI_nat (j := 2) rfl, _, _, rfl, rfl, _, rfl, a, _, 2, 2, rfl, rfl, ha, rfl, ?_⟩
  refine ⟨_, rfl, a, _, 1, .int sm, rfl, rfl, .of upd_same, atI_nat (j := 1) rfl, ?_⟩
  -- if deck[0] != []
  have hl1 : ∀ o, upd H a o l = some (.lst (ns.map V.int)) := fun o => by rw [upd_ne nal.symm]; exact hl
  refine ⟨_, rfl, a, _, 0, .ref l, rfl, rfl, .of upd_same, atI_nat (j := 0) rfl, Nat.zero_le _, fun p np => ?_⟩
  have npa : a ≠ p := ne_of_none upd_same np
  have npl : l ≠ p := ne_of_none (hl1 _) np
  have ha2 : upd (upd H a (.lst [.ref l, .int sm, .int (t + 1)])) p (.lst []) a = some (.lst [.ref l, .int sm, .int (t + 1)]) := by rw [upd_ne npa, upd_same]
  have hl2 : upd (upd H a (.lst [.ref l, .int sm, .int (t + 1)])) p (.lst []) l = some (.lst (ns.map V.int)) := by rw [upd_ne npl]; exact hl1 _
  have kp2 : ∀ b o, H b = some o → b ≠ a → upd (upd H a (.lst [.ref l, .int sm, .int (t + 1)])) p (.lst []) b = some o := fun b o e nb => by
    have e' : upd H a (.lst [.ref l, .int sm, .int (t + 1)]) b = some o := by rw [upd_ne nb]; exact e
    rw [upd_ne (ne_of_none e' np)]; exact e'
  refine ⟨.list (ns.map .int), .list [], .lst (.of hl2) (dp_ints ns), .lst (.of upd_same) .nil, shaped_ints ns, shaped_ints [], _, rfl, ?_⟩
  rw [eqv_nil]
  refine ite2 (fun hc => ?_) (fun hc => ?_)
  · -- a cell is there
    have hne : ns ≠ [] := by
      rintro rfl
      simp at hc
    obtain ⟨pre, c, rfl⟩ : ∃ pre c, ns = pre ++ [c] := ⟨_, _, (List.dropLast_concat_getLast hne).symm⟩
    have hlen : ((pre ++ [c]).map V.int).length - 1 = pre.length := by simp
    refine ⟨_, rfl, a, _, 0, .ref l, rfl, rfl, .of ha2, atI_nat (j := 0) rfl, .inl ⟨rfl, _, .of hl2⟩, l, _, .int c, rfl, rfl, hl2, ?_, ?_⟩
    · rw [hlen]; simp
    have hd : ((pre ++ [c]).map V.int).dropLast = pre.map V.int := by simp
    rw [hd]
    have ha3 : upd (upd (upd H a (.lst [.ref l, .int sm, .int (t + 1)])) p (.lst [])) l (.lst (pre.map V.int)) a = some (.lst [.ref l, .int sm, .int (t + 1)]) := by rw [upd_ne nal]; exact ha2
    have hpre : pre.length ≤ 62 := by
      have := h63
      simp at this
      omega
    refine ⟨_, rfl, _, _, rfl, rfl, ⟨by decide, by decide, by decide⟩, _, _, rfl, rfl, _, rfl, ?_⟩
    refine ite2 (fun hb => ?_) (fun hb => ?_)
    · -- the rest of it is put back
      refine ⟨_, rfl, a, _, 0, .ref l, rfl, rfl, .of ha3, atI_nat (j := 0) rfl, .inl ⟨rfl, _, .of upd_same⟩, _, rfl, _, rfl, _, _, rfl, rfl, ⟨m0, m1⟩, l, _, _, rfl, rfl, upd_same, ?_, ?_⟩
      · rw [List.length_map]; exact small1000 (by omega)
      · refine ⟨_, rfl, _, rfl, _, _, rfl, rfl, m0, ?_⟩
        refine done _ (pre ++ [c / m]) sm (t + 1) _ (Int.emod_nonneg _ (by omega)) (Int.emod_lt_of_pos _ m0) (by simp; omega) ?_ ?_ fun b o e na nl => ?_
        · rw [upd_ne nal, upd_ne nal]; exact ha2
        · rw [upd_same]; simp
        · rw [upd_ne nl, upd_ne nl]; exact kp2 b o e na
    · exact r2 c pre (t + 1) _ (by omega) ha3 upd_same fun b o e na nl => by rw [upd_ne nl]; exact kp2 b o e na
  · exact r2 sm ns (t + 1) _ h63 ha2 hl2 fun b o e na _ => kp2 b o e na
end
end KB
namespace KB
open PySem L2 Dk
def letter (c : Nat) : Prop := 97 ≤ c ∧ c ≤ 122
def sgAt (w : List Nat) (at' k : Nat) : Nat := 97 + ((w.getD at' 97 - 97) + k) % 26
def nm (way : Int) (w : List Nat) (at' sz k : Nat) : List Nat :=
  if way = 1 then sgAt w at' k :: w.take (k % 8) else w.take at' ++ (sgAt w at' k :: (w.drop (at' + 1)).take (sz - (at' + 1)))
theorem sgAt_letter {w : List Nat} {a k : Nat} : letter (sgAt w a k) := by
  unfold letter sgAt
  have := Nat.mod_lt ((w.getD a 97 - 97) + k) (show 26 > 0 by decide)
  omega
theorem sgAt_inj {w : List Nat} {a i j : Nat} (hi : i < 26) (hj : j < 26) (h : sgAt w a i = sgAt w a j) : i = j := by
  unfold sgAt at h
  omega
theorem nm_letters {way : Int} {w : List Nat} {a sz k : Nat} (hw : ∀ c ∈ w, letter c) : ∀ c ∈ nm way w a sz k, letter c := by
  intro c hc
  unfold nm at hc
  split at hc
  · rcases List.mem_cons.mp hc with rfl | h
    · exact sgAt_letter
    · exact hw c (List.mem_of_mem_take h)
  · rcases List.mem_append.mp hc with h | h
    · exact hw c (List.mem_of_mem_take h)
    · rcases List.mem_cons.mp h with rfl | h
      · exact sgAt_letter
      · exact hw c (List.mem_of_mem_drop (List.mem_of_mem_take h))
theorem nm_len {way : Int} {w : List Nat} {a sz k : Nat} (h8 : w.length = 8) (ha : a < 8) (h1 : a + 1 ≤ sz) (h2 : sz ≤ 8) : 1 ≤ (nm way w a sz k).length ∧ (nm way w a sz k).length ≤ 8 := by
  unfold nm
  split
  · simp only [List.length_cons, List.length_take, h8]
    have := Nat.mod_lt k (show 8 > 0 by decide)
    omega
  · simp only [List.length_append, List.length_cons, List.length_take, List.length_drop, h8]
    omega
theorem nm_inj {way : Int} {w : List Nat} {a sz i j : Nat} (h8 : w.length = 8) (ha : a < 8) (hi : i < 26) (hj : j < 26) (h : nm way w a sz i = nm way w a sz j) : i = j := by
  unfold nm at h
  split at h
  · exact sgAt_inj hi hj (List.cons.inj h).1
  · have := List.append_cancel_left h
    exact sgAt_inj hi hj (List.cons.inj this).1
theorem nodup_map_of {α β : Type} {f : α → β} {l : List α} (h : l.Nodup) (hf : ∀ a ∈ l, ∀ b ∈ l, f a = f b → a = b) : (l.map f).Nodup := by
  induction l with
  | nil => simp
  | cons a l ih =>
    rw [List.nodup_cons] at h
    rw [List.map_cons, List.nodup_cons]
    refine ⟨fun hm => ?_, ih h.2 fun x hx y hy => hf x (List.mem_cons_of_mem _ hx) y (List.mem_cons_of_mem _ hy)⟩
    obtain ⟨b, hb, e⟩ := List.mem_map.mp hm
    have := hf a (by simp) b (List.mem_cons_of_mem _ hb) e.symm
    exact h.1 (this ▸ hb)
def found26 (way : Int) (w : List Nat) (a sz : Nat) : List Str := (List.range 26).map fun k => txt (nm way w a sz k)
def prefixes (w : List Nat) : List Str := (List.range 8).map fun k => txt (w.take (k + 1))
structure Fresh (l : List Str) : Prop where
  nd : l.Nodup
  ok : ∀ x ∈ l, 1 ≤ x.length ∧ x.length ≤ 8 ∧ ∀ c ∈ x.cps.toList, letter c
theorem fresh26 {way : Int} {w : List Nat} {a sz : Nat} (h8 : w.length = 8) (hw : ∀ c ∈ w, letter c) (ha : a < 8) (h1 : a + 1 ≤ sz) (h2 : sz ≤ 8) : Fresh (found26 way w a sz) where
  nd := nodup_map_of List.nodup_range fun i hi j hj e => nm_inj h8 ha (List.mem_range.mp hi) (List.mem_range.mp hj) (txt_inj e)
  ok := fun x hx => by
    obtain ⟨k, _, rfl⟩ := List.mem_map.mp hx
    rw [txt_len, txt_list]
    exact ⟨(nm_len h8 ha h1 h2).1, (nm_len h8 ha h1 h2).2, nm_letters hw⟩
theorem freshP {w : List Nat} (h8 : w.length = 8) (hw : ∀ c ∈ w, letter c) : Fresh (prefixes w) where
  nd := nodup_map_of List.nodup_range fun i hi j hj e => by
    have := congrArg List.length (txt_inj e)
    have h1 := List.mem_range.mp hi
    have h2 := List.mem_range.mp hj
    simp only [List.length_take, h8] at this
    omega
  ok := fun x hx => by
    obtain ⟨k, hk, rfl⟩ := List.mem_map.mp hx
    have := List.mem_range.mp hk
    rw [txt_len, txt_list, List.length_take, h8]
    exact ⟨by omega, by omega, fun c hc => hw c (List.mem_of_mem_take hc)⟩
theorem fresh_names {l : List Str} (h : Fresh l) {m : Nat} (hm : m + 1 ≤ l.length) : ((l.filter fun x => !decide (x = numS)).take m).length = m ∧ ((l.filter fun x => !decide (x = numS)).take m).Nodup ∧ ∀ x ∈ (l.filter fun x => !decide (x = numS)).take m, nameOk x = true := by
  have e : (l.filter fun x => !decide (x = numS)) = l.erase numS := by
    rw [h.nd.erase_eq_filter]
    refine List.filter_congr fun x _ => ?_
    by_cases hx : x = numS <;> simp [hx]
  refine ⟨?_, ?_, fun x hx => ?_⟩
  · rw [List.length_take, e, List.length_erase]
    split <;> omega
  · exact (h.nd.filter _).sublist (List.take_sublist _ _)
  · have hf := List.mem_of_mem_take hx
    obtain ⟨h1, h2⟩ := List.mem_filter.mp hf
    obtain ⟨a, b, c⟩ := h.ok x h1
    unfold nameOk
    simp only [a, b, decide_true, Bool.true_and, Bool.and_eq_true]
    refine ⟨h2, ?_⟩
    rw [List.all_eq_true]
    intro z hz
    have := c z hz
    unfold letter at this
    unfold signOk
    simp [this.1, this.2]
end KB
namespace KB
open PySem L2 Dk
open PyProof.Rows (envOfC)
abbrev s__law_pick : Stmt := top 36
theorem sc__law_pick : FnScope ["_law_deck_here", "_law_some"] ["_law_deck_here", "_law_some"] (defScope s__law_pick) := ⟨rfl, rfl, rfl, by decide +kernel, rfl, by decide +kernel, by decide +kernel⟩
theorem bd__law_pick (kV doc pm : Value) (an : Option Addr) (cdv ct : Value) (us : List Value) (hl : us.length = 2) : bindArgs (PySem.W.fnOf "_law_pick" "_law_pick" (defArgs s__law_pick) (defBody s__law_pick) (defScope s__law_pick) .none kV doc pm an cdv ct) ⟨us, []⟩ = pure ((["_law_deck_here", "_law_some"] : List Str).zip us) := by
  match us, hl with
  | [v0, v1], _ => rfl
abbrev s__law_names : Stmt := top 37
theorem sc__law_names : FnScope ["_law_deck_here", "_law_many", "_law_letters_here", "_law_way", "_law_word", "_law_k", "_law_at", "_law_size", "_law_found", "_law_sign", "_law_name"] ["_law_deck_here", "_law_many"] (defScope s__law_names) := ⟨rfl, rfl, rfl, by decide +kernel, rfl, by decide +kernel, by decide +kernel⟩
theorem bd__law_names (kV doc pm : Value) (an : Option Addr) (cdv ct : Value) (us : List Value) (hl : us.length = 2) : bindArgs (PySem.W.fnOf "_law_names" "_law_names" (defArgs s__law_names) (defBody s__law_names) (defScope s__law_names) .none kV doc pm an cdv ct) ⟨us, []⟩ = pure ((["_law_deck_here", "_law_many"] : List Str).zip us) := by
  match us, hl with
  | [v0, v1], _ => rfl
def spPick (a : Addr) : DSp where
  n := 2
  f := fun ds Q _ => ∃ xs : List D, ds = [.opq a, .lst xs] ∧ xs ≠ [] ∧ xs.length ≤ 1000000 ∧ ∀ x ∈ xs, Q x
  len := fun ds Q E ⟨m, e, _⟩ => by rw [e]; rfl
  mono := fun ds Q Q' E E' k _ ⟨m, e, h, h2, q⟩ => ⟨m, e, h, h2, fun x hx => k _ (q x hx)⟩
def spNames (a : Addr) : DSpO where
  n := 2
  f := fun ds Q => ∃ m : Nat, ds = [.opq a, .int m] ∧ 1 ≤ m ∧ m ≤ 25 ∧ ∀ xs : List Str, xs.length = m → xs.Nodup → (∀ x ∈ xs, nameOk x = true) → Q (xs.map D.str)
  len := fun ds Q ⟨m, e, _⟩ => by rw [e]; rfl
  mono := fun ds Q Q' k ⟨m, e, h, h2, q⟩ => ⟨m, e, h, h2, fun xs h1 h2 h3 => k _ (q xs h1 h2 h3)⟩
theorem ix_abc {i : Int} {Q : D → Prop} (h0 : 0 ≤ i) (h1 : i < 26) (q : Q (.str (txt [97 + i.toNat]))) : ixD (.str "abcdefghijklmnopqrstuvwxyz") (.int i) Q := by
  refine ⟨by decide, 97 + i.toNat, ?_, q⟩
  obtain ⟨n, rfl⟩ := Int.eq_ofNat_of_zero_le h0
  have h : n < 26 := by omega
  have all : ∀ n, n < 26 → atI ("abcdefghijklmnopqrstuvwxyz" : Str).cps.toList ((n : Nat) : Int) = some (97 + n) := by decide +kernel
  simpa using all n h
theorem idx_abc {c : Nat} {Q : D → Prop} (h : letter c) (q : Q (.int ((c - 97 : Nat) : Int))) : sidxD "abcdefghijklmnopqrstuvwxyz" (.str ⟨#[c]⟩) Q := by
  refine ⟨_, c - 97, rfl, ?_, q⟩
  have all : ∀ n, n < 26 → Txt.index0 "abcdefghijklmnopqrstuvwxyz" ⟨#[97 + n]⟩ = some n := by decide +kernel
  have h1 := all (c - 97) (by have := h.2; omega)
  have e : 97 + (c - 97) = c := by have := h.1; omega
  rwa [e] at h1
theorem rng_drop {lo : Int} {n i : Nat} {d : D} {ds : List D} (h : d :: ds = (rngD lo n).drop i) : i < n ∧ d = .int (lo + (i : Nat)) ∧ ds = (rngD lo n).drop (i + 1) := by
  have hi : i < (rngD lo n).length := by
    by_cases hc : i < (rngD lo n).length
    · exact hc
    · rw [List.drop_of_length_le (by omega)] at h; cases h
  rw [List.drop_eq_getElem_cons hi] at h
  obtain ⟨e1, e2⟩ := List.cons.inj h
  rw [rngD_length] at hi
  refine ⟨hi, ?_, e2⟩
  rw [e1]
  simp [rngD]
section
variable {P : Program} {w : World} {K : PySem.W.Frag} {C a l : Addr} {mg : Str → Option Value} {base : Heap} {k : Nat} {f : Addr} {fd : FuncData}
theorem ok_pick (T : TxtB K C mg) (Fn : Fun K "_law_pick" "_law_pick" s__law_pick f fd) (C__law_draw : Cal P w K mg base CX0 (DeckW a l) k "_law_draw" ["_law_deck_here", "_law_most"] (spDraw a)) : GnOk P w K mg base CX0 (k + 1) f fd ["_law_deck_here", "_law_some"] (spD (DeckW a l) K (spPick a)) := by
  refine Fn.okD sc__law_pick rfl fun cdv A outer s H I ds Q Ed E hr h => ?_
  have hu := hr.units
  obtain ⟨xs, rfl, hne, hl, q⟩ := h
  refine ⟨_, (dss_one (ds_ret (de_at hu (de_name 1) (de_fn C__law_draw (hr.mono (by omega)) pass0 lets0 (da_cons (de_name 0) (da_cons (de_len T.b_len (da_cons (de_name 1) da_nil)) da_nil)))))), ?_⟩
  simp only [getD_0, getD_s, set_0, set_s, boolD_bl, intD_int, startD, List.map, List.length_cons, List.length_nil, List.replicate, List.cons_append, List.nil_append, defEnds, wipeD, if_true, if_false, Bool.not_true, Bool.not_false, Bool.false_eq_true]
  have lp : 0 < xs.length := List.length_pos_iff.mpr hne
  have hlog : (xs.length : Int).natAbs.log2 < 9000 := by
    rw [Int.natAbs_natCast]
    have : xs.length.log2 ≤ xs.length.log2 := Nat.le_refl _
    exact Nat.lt_of_lt_of_le ((Nat.log2_lt (by omega)).mpr (show xs.length < 2 ^ 20 by omega)) (by decide)
  refine ⟨(xs.length : Int), rfl, by omega, hlog, fun v h0 h1 => ?_⟩
  obtain ⟨n, rfl⟩ := Int.eq_ofNat_of_zero_le h0
  have hn : n < xs.length := by omega
  exact ⟨_, atI_nat (List.getElem?_eq_getElem hn), q _ (List.getElem_mem hn)⟩
theorem ok_names (T : TxtB K C mg) (Fn : Fun K "_law_names" "_law_names" s__law_names f fd) (C__law_draw : Cal P w K mg base CX0 (DeckW a l) k "_law_draw" ["_law_deck_here", "_law_most"] (spDraw a)) : GnOk P w K mg base CX0 (k + 1) f fd ["_law_deck_here", "_law_many"] (spO (DeckW a l) K (spNames a)) := by
  refine Fn.okO sc__law_names rfl fun cdv A outer s H I ds Q E hr h => ?_
  have hu := hr.units
  obtain ⟨m, rfl, hm1, hm2, q⟩ := h
  refine ⟨_, (dss_cons (ds_set 2 de_str sc__law_names.nd)
  (dss_cons (ds_set 3 (de_fn C__law_draw (hr.mono (by omega)) pass0 lets0 (da_cons (de_name 0) (da_cons de_int da_nil))) sc__law_names.nd)
  (dss_cons (ds_set 4 (de_join de_str (de_lc (own := [("_law_k", 5)]) rfl sc__law_names.nd (di_range1 T.b_range (da_cons de_int da_nil)) (blkOk_by (own := [("_law_k", 5)]) (N := ["_law_deck_here", "_law_many", "_law_letters_here", "_law_way", "_law_word", "_law_k", "_law_at", "_law_size", "_law_found", "_law_sign", "_law_name"]) (sc := defScope s__law_names) (by decide +kernel)) (fun _ _ _ _ _ => (dg_name 5 sc__law_names.nd)) (fun _ _ _ _ _ => dif_nil) (fun _ _ _ _ _ => (de_at hu (de_name 2) (de_fn C__law_draw (hr.mono (by omega)) pass0 lets0 (da_cons (de_name 0) (da_cons de_int da_nil))))))) sc__law_names.nd)
  (dss_cons (ds_set 6 (de_fn C__law_draw (hr.mono (by omega)) pass0 lets0 (da_cons (de_name 0) (da_cons de_int da_nil))) sc__law_names.nd)
  (dss_cons (ds_set 7 (de_add (de_add (de_name 6) de_int) (de_fn C__law_draw (hr.mono (by omega)) pass0 lets0 (da_cons (de_name 0) (da_cons (de_sub de_int (de_name 6)) da_nil)))) sc__law_names.nd)
  (dss_cons (ds_own 8 da_nil sc__law_names.nd)
  (dss_cons (ds_for PassesOwn.never rfl (di_range1 T.b_range (da_cons de_int da_nil)) (dg_name 5 sc__law_names.nd)
  (dss_cons (ds_set 9 (de_at hu (de_name 2) (de_mod (de_add (de_sindex rfl takes0 (de_name 2) (de_at hu (de_name 4) (de_name 6))) (de_name 5)) de_int)) sc__law_names.nd)
  (dss_cons (ds_set 10 (de_add (de_add (de_slice (de_name 4) do_none (do_some (de_name 6))) (de_name 9)) (de_slice (de_name 4) (do_some (de_add (de_name 6) de_int)) (do_some (de_name 7)))) sc__law_names.nd)
  (dss_cons (ds_if (dt_c (.eq hu) (de_name 3) de_int)
  (dss_one (ds_set 10 (de_add (de_name 9) (de_slice (de_name 4) do_none (do_some (de_mod (de_name 5) de_int)))) sc__law_names.nd))
  dss_nil)
  (dss_one (ds_append 8 (de_name 10)))))))
  (dss_freeze 8
  (dss_cons (ds_if (dt_wh (dw_and (dt_c (.eq hu) (de_name 3) de_int) (dw_and1 (dt_c .lt (de_name 1) de_int))))
  (dss_one (by first | exact (ds_setLc (i := 8) (own := [("_law_k", 5)]) rfl sc__law_names.nd rfl rfl (sw_true rfl rfl rfl (by decide +kernel)) (di_range1 T.b_range (da_cons de_int da_nil)) (blkOk_by (own := [("_law_k", 5)]) (N := ["_law_deck_here", "_law_many", "_law_letters_here", "_law_way", "_law_word", "_law_k", "_law_at", "_law_size", "_law_found", "_law_sign", "_law_name"]) (sc := defScope s__law_names) (by decide +kernel)) (fun _ _ _ _ _ => (dg_name 5 sc__law_names.nd)) (fun _ _ _ _ _ => dif_nil) (fun _ _ _ _ _ => (de_slice (de_name 4) do_none (do_some (de_add (de_name 5) de_int))))) | exact (ds_set 8 (de_lc (own := [("_law_k", 5)]) rfl sc__law_names.nd (di_range1 T.b_range (da_cons de_int da_nil)) (blkOk_by (own := [("_law_k", 5)]) (N := ["_law_deck_here", "_law_many", "_law_letters_here", "_law_way", "_law_word", "_law_k", "_law_at", "_law_size", "_law_found", "_law_sign", "_law_name"]) (sc := defScope s__law_names) (by decide +kernel)) (fun _ _ _ _ _ => (dg_name 5 sc__law_names.nd)) (fun _ _ _ _ _ => dif_nil) (fun _ _ _ _ _ => (de_slice (de_name 4) do_none (do_some (de_add (de_name 5) de_int))))) sc__law_names.nd)))
  dss_nil)
  (dss_one (ds_retO (deo_slice (de_lc (own := [("_law_name", 10)]) rfl sc__law_names.nd (di_seq (de_name 8)) (blkOk_by (own := [("_law_name", 10)]) (N := ["_law_deck_here", "_law_many", "_law_letters_here", "_law_way", "_law_word", "_law_k", "_law_at", "_law_size", "_law_found", "_law_sign", "_law_name"]) (sc := defScope s__law_names) (by decide +kernel)) (fun _ _ _ _ _ => (dg_name 10 sc__law_names.nd)) (fun _ _ _ _ _ => (dif_one (dt_c (.ne hu) (de_name 10) de_str))) (fun _ _ _ _ _ => (de_name 10))) do_none (do_some (de_name 1)))))))))))))), ?_⟩
  simp only [getD_0, getD_s, set_0, set_s, boolD_bl, intD_int, startD, List.map, List.length_cons, List.length_nil, List.replicate, List.cons_append, List.nil_append, defEnds, wipeD, if_true, if_false, Bool.not_true, Bool.not_false, Bool.false_eq_true]
  refine ⟨3, rfl, by decide, by decide, fun way _ _ => ?_⟩
  simp only [getD_0, getD_s, set_0, set_s, boolD_bl, intD_int, startD, List.map, List.length_cons, List.length_nil, List.replicate, List.cons_append, List.nil_append, defEnds, wipeD, if_true, if_false, Bool.not_true, Bool.not_false, Bool.false_eq_true]
  refine ⟨_, rfl, 8, rfl, by decide, by decide, by decide, lcD_any (fun c => D.str (txt [c])) letter (fun d hd R S hR => ?_) fun w0 hw0 hl0 => ?_⟩
  · simp only [getD_0, getD_s, set_0, set_s, boolD_bl, intD_int, startD, List.map, List.length_cons, List.length_nil, List.replicate, List.cons_append, List.nil_append, defEnds, wipeD, if_true, if_false, Bool.not_true, Bool.not_false, Bool.false_eq_true]
    refine ⟨26, rfl, by decide, by decide, fun v h0 h1 => ix_abc h0 h1 (hR _ ?_)⟩
    unfold letter
    omega
  have h8 : w0.length = 8 := by rw [hw0]; rfl
  refine ⟨w0.map fun c => txt [c], .inl (by rw [List.map_map]; rfl), ?_, ?_⟩
  · have e0 : ("" : Str).length = 0 := rfl
    rw [e0, Nat.mul_zero, Nat.add_zero, List.map_map]
    have : (w0.map ((fun x : Str => x.length) ∘ fun c => txt [c])) = w0.map fun _ => 1 := rfl
    rw [this, List.map_const', List.sum_replicate_nat, h8]
    decide
  rw [join_txt]
  refine ⟨8, rfl, by decide, by decide, fun at' a0 a1 => ?_⟩
  obtain ⟨at', rfl⟩ := Int.eq_ofNat_of_zero_le a0
  have ha : at' < 8 := by omega
  refine ⟨8 - (at' : Int), rfl, by omega, ?_, fun mo m0 m1 => ?_⟩
  · have : (8 - (at' : Int)).natAbs < 2 ^ 10 := by omega
    by_cases z : (8 - (at' : Int)).natAbs = 0
    · rw [z]; decide
    · exact Nat.lt_of_lt_of_le ((Nat.log2_lt z).mpr this) (by decide)
  obtain ⟨mo, rfl⟩ := Int.eq_ofNat_of_zero_le m0
  have esz : ((at' : Int) + 1 + (mo : Int)) = ((at' + 1 + mo : Nat) : Int) := by omega
  have hsz : at' + 1 + mo ≤ 8 := by omega
  refine ⟨Nat.zero_le _, 26, rfl, by decide, by decide, ?_⟩
  simp only [addD]
  generalize hS : at' + 1 + mo = sz at *
  rw [esz]
  refine forD_ind (fun (l : List D) ρ => ∃ (i : Nat) (x s n : Option Ent), i ≤ 26 ∧ l = (rngD 0 26).drop i ∧ ρ = [some (.dat (.opq a)), some (.dat (.int m)), some (.dat (.str "abcdefghijklmnopqrstuvwxyz")), some (.dat (.int way)), some (.dat (.str (txt w0))), x, some (.dat (.int at')), some (.dat (.int sz)), some (.own (((List.range i).map fun k => txt (nm way w0 at' sz k)).map D.str)), s, n]) (fun ρ ⟨i, x, s, n, hi, el, e⟩ => ?_) (fun d l ρ R ⟨i, x, s, n, hi, el, e⟩ hR => ?_) _ _ ⟨0, none, none, none, by decide, rfl, rfl⟩
  rotate_left
  · obtain ⟨hi', rfl, el'⟩ := rng_drop el
    subst e
    simp only [getD_0, getD_s, set_0, set_s, boolD_bl, intD_int, startD, List.map, List.length_cons, List.length_nil, List.replicate, List.cons_append, List.nil_append, defEnds, wipeD, if_true, if_false, Bool.not_true, Bool.not_false, Bool.false_eq_true]
    have la : (txt w0).length ≤ sizeLine := by rw [txt_len, h8]; decide
    have hget : w0[at']? = some (w0.getD at' 97) := by
      rw [List.getD_eq_getElem?_getD, List.getElem?_eq_getElem (by omega)]
      rfl
    have hat : atI (txt w0).cps.toList (at' : Int) = some (w0.getD at' 97) := by
      rw [txt_list]; exact atI_nat hget
    have hlet : letter (w0.getD at' 97) := hl0 _ (List.mem_of_getElem? hget)
    have hsg : (97 + (((((w0.getD at' 97 - 97 : Nat) : Int) + (0 + (i : Int))) % 26).toNat)) = sgAt w0 at' i := by
      unfold sgAt
      omega
    have fin : ∀ (nl : List Nat) (sg : Option Ent), nl = nm way w0 at' sz i → R [some (.dat (.opq a)), some (.dat (.int m)), some (.dat (.str "abcdefghijklmnopqrstuvwxyz")), some (.dat (.int way)), some (.dat (.str (txt w0))), some (.dat (.int (0 + (i : Int)))), some (.dat (.int at')), some (.dat (.int sz)), some (.own ((((List.range i).map fun k => txt (nm way w0 at' sz k)).map D.str) ++ [.str (txt nl)])), sg, some (.dat (.str (txt nl)))] := fun nl sg e => by
      subst e
      refine hR _ ⟨i + 1, some (.dat (.int (0 + (i : Int)))), sg, some (.dat (.str (txt (nm way w0 at' sz i)))), hi', el', ?_⟩
      rw [List.range_succ, List.map_append, List.map_append]
      rfl
    have own_len : (((List.range i).map fun k => txt (nm way w0 at' sz k)).map D.str).length < sizeLine := by
      rw [List.length_map, List.length_map, List.length_range]
      exact Nat.lt_of_lt_of_le (show i < 26 by omega) (by decide)
    refine ⟨_, rfl, la, _, hat, idx_abc hlet ?_⟩
    refine ⟨by decide, ix_abc (Int.emod_nonneg _ (by decide)) (Int.emod_lt_of_pos _ (by decide)) ?_⟩
    rw [hsg]
    refine ⟨la, ?_⟩
    rw [cut_txt_to]
    refine ⟨?_, la, ?_⟩
    · rw [txt_len, txt_len, List.length_take, h8]
      exact Nat.le_trans (show _ ≤ 100 by simp; omega) (by decide)
    rw [txt_app]
    have e1 : ((at' : Int) + 1) = ((at' + 1 : Nat) : Int) := by omega
    rw [e1, cut_txt]
    refine ⟨?_, ?_⟩
    · rw [txt_len, txt_len]
      simp only [List.length_append, List.length_take, List.length_drop, List.length_cons, List.length_nil, h8]
      exact Nat.le_trans (show _ ≤ 100 by omega) (by decide)
    rw [txt_app]
    show eqD (.int way) (.int 1) _
    rw [eqD_int]
    simp only [boolD_bl]
    by_cases hw1 : way = 1
    · rw [if_pos (by rw [decide_eq_true_eq]; exact hw1)]
      refine ⟨by decide, ?_⟩
      simp only [intD_int]
      have e2 : ((0 + (i : Int)) % 8) = ((i % 8 : Nat) : Int) := by omega
      rw [e2]
      refine ⟨la, ?_⟩
      rw [cut_txt_to]
      refine ⟨?_, _, rfl, own_len, ?_⟩
      · rw [txt_len, txt_len]
        simp only [List.length_take, List.length_cons, List.length_nil, h8]
        exact Nat.le_trans (show _ ≤ 100 by omega) (by decide)
      rw [txt_app]
      refine fin _ _ ?_
      unfold nm
      rw [if_pos hw1]
      rfl
    · rw [if_neg (by rw [decide_eq_true_eq]; exact hw1)]
      refine ⟨_, rfl, own_len, fin _ _ ?_⟩
      unfold nm
      rw [if_neg hw1]
      simp
  have hi26 : i = 26 := by
    by_cases z : i = 26
    · exact z
    · exfalso
      have := congrArg List.length el
      rw [List.length_drop, rngD_length] at this
      simp at this
      omega
  subst hi26 e
  refine ⟨_, rfl, trivial, ?_⟩
  simp only [getD_0, getD_s, set_0, set_s, boolD_bl, intD_int, startD, List.map, List.length_cons, List.length_nil, List.replicate, List.cons_append, List.nil_append, defEnds, wipeD, if_true, if_false, Bool.not_true, Bool.not_false, Bool.false_eq_true]
  simp only [eqD_int, boolD_bl]
  have fin : ∀ (L : List Str), Fresh L → m + 1 ≤ L.length → Q (cutD ((L.filter fun x => !decide (x = numS)).map D.str) none (some (m : Int))) := fun L hL hm => by
    obtain ⟨n1, n2, n3⟩ := fresh_names hL hm
    have e : cutD ((L.filter fun x => !decide (x = numS)).map D.str) none (some (m : Int)) = ((L.filter fun x => !decide (x = numS)).take m).map D.str := by
      unfold cutD
      rw [HT.sIx_none, HT.sIx_nat, List.drop_zero, Nat.sub_zero, List.map_take]
      by_cases z : m ≤ ((L.filter fun x => !decide (x = numS)).map D.str).length
      · rw [Nat.min_eq_left z]
      · rw [Nat.min_eq_right (by omega), List.take_of_length_le (Nat.le_refl _), List.take_of_length_le (by omega)]
    rw [e]
    exact q _ n1 n2 n3
  have f26 : Fresh (found26 way w0 at' sz) := fresh26 h8 hl0 ha (by omega) hsz
  by_cases hw2 : way = 2
  · rw [if_pos (by rw [decide_eq_true_eq]; exact hw2)]
    simp only [ltD, boolD_bl]
    by_cases hm4 : m < 4
    · rw [if_pos (by rw [decide_eq_true_eq]; omega)]
      refine ⟨8, rfl, by decide, by decide, by decide, ?_⟩
      rw [show rngD 0 (Int.toNat 8) = (List.range 8).map (fun i => D.int (0 + (i : Nat))) from rfl]
      refine lcD_all (fun i : Nat => D.int (0 + (i : Nat))) (fun i => .str (txt (w0.take (i + 1)))) (fun i hi R S hR => ?_) ?_
      · simp only [getD_0, getD_s, set_0, set_s, boolD_bl, intD_int, startD, List.map, List.length_cons, List.length_nil, List.replicate, List.cons_append, List.nil_append, defEnds, if_true]
        have e2 : ((0 + (i : Int)) + 1) = ((i + 1 : Nat) : Int) := by omega
        show sliceD (.str (txt w0)) none (some ((0 + (i : Int)) + 1)) R
        rw [e2]
        refine ⟨by rw [txt_len, h8]; decide, ?_⟩
        rw [cut_txt_to]
        exact hR
      · have ep : ((List.range 8).map fun i => D.str (txt (w0.take (i + 1)))) = (prefixes w0).map D.str := by unfold prefixes; rw [List.map_map]; rfl
        rw [ep]
        simp only [itemsD]
        refine ⟨by rw [List.length_map]; exact (by decide : 8 ≤ sizeLine), lcD_map D.str D.str (fun x => !decide (x = numS)) (fun x hx R S h1 h2 => ?_) ⟨_, rfl, fin _ (freshP h8 hl0) (by show m + 1 ≤ 8; omega)⟩⟩
        simp only [getD_0, getD_s, set_0, set_s, boolD_bl, intD_int, startD, List.map, List.length_cons, List.length_nil, List.replicate, List.cons_append, List.nil_append, defEnds]
        rw [neD_str]
        simp only [boolD_bl]
        cases e : !decide (x = numS)
        · have e' : (!decide (x = ("num" : Str))) = false := e
          rw [e']
          exact h2 e
        · have e' : (!decide (x = ("num" : Str))) = true := e
          rw [e']
          exact h1 e
    · rw [if_neg (by rw [decide_eq_true_eq]; omega)]
      have ep : (((List.range 26).map fun k => txt (nm way w0 at' sz k)).map D.str) = (found26 way w0 at' sz).map D.str := rfl
      rw [ep]
      simp only [itemsD, Ent.toD]
      refine ⟨by rw [List.length_map]; exact (by decide : 26 ≤ sizeLine), lcD_map D.str D.str (fun x => !decide (x = numS)) (fun x hx R S h1 h2 => ?_) ⟨_, rfl, fin _ f26 (by show m + 1 ≤ 26; omega)⟩⟩
      simp only [getD_0, getD_s, set_0, set_s, boolD_bl, intD_int, startD, List.map, List.length_cons, List.length_nil, List.replicate, List.cons_append, List.nil_append, defEnds]
      rw [neD_str]
      simp only [boolD_bl]
      cases e : !decide (x = numS)
      · have e' : (!decide (x = ("num" : Str))) = false := e
        rw [e']
        exact h2 e
      · have e' : (!decide (x = ("num" : Str))) = true := e
        rw [e']
        exact h1 e
  · rw [if_neg (by rw [decide_eq_true_eq]; exact hw2)]
    have ep : (((List.range 26).map fun k => txt (nm way w0 at' sz k)).map D.str) = (found26 way w0 at' sz).map D.str := rfl
    rw [ep]
    simp only [itemsD, Ent.toD]
    refine ⟨by rw [List.length_map]; exact (by decide : 26 ≤ sizeLine), lcD_map D.str D.str (fun x => !decide (x = numS)) (fun x hx R S h1 h2 => ?_) ⟨_, rfl, fin _ f26 (by show m + 1 ≤ 26; omega)⟩⟩
    simp only [getD_0, getD_s, set_0, set_s, boolD_bl, intD_int, startD, List.map, List.length_cons, List.length_nil, List.replicate, List.cons_append, List.nil_append, defEnds]
    rw [neD_str]
    simp only [boolD_bl]
    cases e : !decide (x = numS)
    · have e' : (!decide (x = ("num" : Str))) = false := e
      rw [e']
      exact h2 e
    · have e' : (!decide (x = ("num" : Str))) = true := e
      rw [e']
      exact h1 e
end
end KB
namespace KB
open PySem L2 Dk
def cw (i : Nat) : Nat := [8, 3, 3, 2, 1, 1].getD i 0
def sw (i : Nat) : Nat := [1, 4, 13, 27, 28, 29].getD i 29
/-- fields of a bough by which the i-th kind has worths -/
def wit (names : List Str) (i : Nat) (fs : List Str) : Prop := (∀ f ∈ fs, f = numS ∨ f ∈ names.take i) ∧ (fs.filter fun f => !decide (f = numS)).length ≤ cw i
theorem cw3 : ∀ i, i < 3 → 3 ≤ cw i := by decide
theorem sw_le : ∀ i, i < 6 → ∀ j, j < i → sw j ≤ sw (i - 1) := by decide
theorem sw_ok : ∀ i, i < 6 → 0 < i → 1 + cw i * sw (i - 1) ≤ sw i := by decide
theorem sw_29 : ∀ i, i < 6 → sw i ≤ 29 := by decide
theorem sum_le_mul {α : Type} {l : List α} {s : α → Nat} {M : Nat} (h : ∀ a ∈ l, s a ≤ M) : (l.map s).sum ≤ l.length * M := by
  induction l with
  | nil => simp
  | cons a l ih =>
    have h1 := h a (by simp)
    have h2 := ih fun b hb => h b (List.mem_cons_of_mem _ hb)
    rw [List.map_cons, List.sum_cons, List.length_cons, Nat.succ_mul]
    omega
/-- kinds made so far: by the first of `names`, boughs by some of n12, the others left -/
structure Made (names n12 : List Str) (found : List Kind) (left : List Str) : Prop where
  nm : kNames found = names.take found.length
  le : found.length ≤ names.length
  pm : (bNames found ++ left).Perm n12
  ln : ∀ k ∈ found, k.2.length ≤ 8
  fld : ∀ k ∈ found, ∀ b ∈ k.2, b.2.length ≤ 8 ∧ ∀ f ∈ b.2, f = numS ∨ f ∈ names
  wf : ∀ i k, found[i]? = some k → ∃ b ∈ k.2, wit names i b.2
/-- .. and the rows of the next one -/
structure Rows (names n12 : List Str) (found : List Kind) (rows : List Bough) (left : List Str) : Prop where
  pm : (bNames found ++ (rows.map (·.1) ++ left)).Perm n12
  fld : ∀ b ∈ rows, b.2.length ≤ 8 ∧ ∀ f ∈ b.2, f = numS ∨ f ∈ names
theorem bNames_app (a b : List Kind) : bNames (a ++ b) = bNames a ++ bNames b := by unfold bNames; rw [List.flatMap_append]
theorem Made.nil {names n12 : List Str} : Made names n12 [] n12 where
  nm := rfl
  le := Nat.zero_le _
  pm := List.Perm.refl _
  ln := by simp
  fld := by simp
  wf := by simp
theorem Made.rows {names n12 : List Str} {found : List Kind} {left : List Str} (m : Made names n12 found left) : Rows names n12 found [] left := ⟨m.pm, by simp⟩
theorem Rows.add {names n12 : List Str} {found : List Kind} {rows : List Bough} {left : List Str} {x : Str} {fs : List Str} (r : Rows names n12 found rows (left ++ [x])) (h8 : fs.length ≤ 8) (hf : ∀ f ∈ fs, f = numS ∨ f ∈ names) : Rows names n12 found (rows ++ [(x, fs)]) left where
  pm := by
    refine List.Perm.trans (List.Perm.append_left _ ?_) r.pm
    rw [List.map_append, List.append_assoc]
    exact List.Perm.append_left _ List.perm_append_comm
  fld := fun b hb => by
    rcases List.mem_append.mp hb with h | h
    · exact r.fld b h
    · obtain rfl := List.mem_singleton.mp h
      exact ⟨h8, hf⟩
theorem Made.add {names n12 : List Str} {found : List Kind} {rows rows' : List Bough} {left left0 : List Str} {n : Str} (m : Made names n12 found left0) (r : Rows names n12 found rows left) (hn : names[found.length]? = some n) (hp : rows'.Perm rows) (h8 : rows.length ≤ 8)
    (hw : ∃ b ∈ rows, wit names found.length b.2) : Made names n12 (found ++ [(n, rows')]) left where
  nm := by
    have hlt := (List.getElem?_eq_some_iff.mp hn).1
    have e := (List.getElem?_eq_some_iff.mp hn).2
    rw [List.length_append, List.length_singleton, List.take_add_one, hn]
    unfold kNames
    rw [List.map_append]
    have := m.nm
    unfold kNames at this
    rw [this]
    rfl
  le := by
    have hlt := (List.getElem?_eq_some_iff.mp hn).1
    simp; omega
  pm := by
    refine List.Perm.trans ?_ r.pm
    rw [bNames_app, List.append_assoc]
    refine List.Perm.append_left _ (List.Perm.append_right _ ?_)
    unfold bNames
    simp only [List.flatMap_cons, List.flatMap_nil, List.append_nil]
    exact hp.map _
  ln := fun k hk => by
    rcases List.mem_append.mp hk with h | h
    · exact m.ln k h
    · obtain rfl := List.mem_singleton.mp h
      rw [hp.length_eq]; exact h8
  fld := fun k hk b hb => by
    rcases List.mem_append.mp hk with h | h
    · exact m.fld k h b hb
    · obtain rfl := List.mem_singleton.mp h
      exact r.fld b (hp.mem_iff.mp hb)
  wf := fun i k hi => by
    by_cases hlt : i < found.length
    · rw [List.getElem?_append_left hlt] at hi
      exact m.wf i k hi
    · rw [List.getElem?_append_right (by omega)] at hi
      have h0 : i - found.length = 0 := by
        have := (List.getElem?_eq_some_iff.mp hi).1
        simp at this; omega
      rw [h0] at hi
      cases hi
      have : i = found.length := by omega
      subst this
      obtain ⟨b, hb, h⟩ := hw
      exact ⟨b, hp.mem_iff.mpr hb, h⟩
theorem Made.good {names n12 : List Str} {found : List Kind} {left : List Str} (m : Made names n12 found left) (nd : names.Nodup) (ok : ∀ x ∈ names, nameOk x = true) (nd2 : n12.Nodup) (ok2 : ∀ x ∈ n12, nameOk x = true)
    (hl : found.length = names.length) (h1 : 1 ≤ names.length) (h6 : names.length ≤ 6) : Good found := by
  have enm : kNames found = names := by rw [m.nm, hl, List.take_length]
  have bmem : ∀ k ∈ found, ∀ b ∈ k.2, b.1 ∈ n12 := fun k hk b hb => m.pm.mem_iff.mp (List.mem_append_left _ (List.mem_flatMap.mpr ⟨k, hk, List.mem_map_of_mem hb⟩))
  refine ⟨fun e => ?_, fun k hk => ok _ (enm ▸ List.mem_map_of_mem hk), fun k hk e => ?_, fun k hk b hb => ok2 _ (bmem k hk b hb), enm ▸ nd, ?_, fun k hk b hb f hf => enm ▸ (m.fld k hk b hb).2 f hf, ?_, by omega, m.ln, fun k hk b hb => (m.fld k hk b hb).1⟩
  · subst e; simp at hl; omega
  · obtain ⟨i, hi⟩ := List.getElem?_of_mem hk
    obtain ⟨b, hb, _⟩ := m.wf i k hi
    rw [e] at hb
    cases hb
  · have := m.pm.nodup_iff.mpr nd2
    exact (List.nodup_append.mp this).1
  · refine ⟨fun f => names.idxOf f, fun f => sw (names.idxOf f), fun k hk => ?_⟩
    obtain ⟨i, hi⟩ := List.getElem?_of_mem hk
    have hin : names[i]? = some k.1 := by
      rw [← enm]; unfold kNames; rw [List.getElem?_map, hi]; rfl
    have hlt := (List.getElem?_eq_some_iff.mp hin).1
    have hidx : names.idxOf k.1 = i := by
      have e := (List.getElem?_eq_some_iff.mp hin).2
      rw [← e]
      exact nd.idxOf_getElem i hlt
    have lower : ∀ f ∈ names.take i, names.idxOf f < i := fun f ht => by
      obtain ⟨j, hj⟩ := List.getElem?_of_mem ht
      have hj2 := (List.getElem?_eq_some_iff.mp hj).1
      rw [List.length_take] at hj2
      have hjn : names[j]? = some f := by
        rw [List.getElem?_take] at hj
        split at hj
        · exact hj
        · cases hj
      have e := (List.getElem?_eq_some_iff.mp hjn).2
      have hl2 := (List.getElem?_eq_some_iff.mp hjn).1
      rw [← e, nd.idxOf_getElem j hl2]
      omega
    obtain ⟨b, hb, h, hc⟩ := m.wf i k hi
    refine ⟨by show names.idxOf k.1 < _; rw [hidx]; omega, by show sw (names.idxOf k.1) ≤ 29; rw [hidx]; exact sw_29 i (by omega), b, hb, fun f hf => (h f hf).imp id fun ht => ⟨enm ▸ List.mem_of_mem_take ht, ?_⟩, ?_⟩
    · show names.idxOf f < names.idxOf k.1
      rw [hidx]
      exact lower f ht
    · show 1 + wsum (fun f => sw (names.idxOf f)) b.2 ≤ sw (names.idxOf k.1)
      rw [hidx]
      have hin2 : ∀ f ∈ b.2.filter (fun f => !decide (f = numS)), names.idxOf f < i := fun f hf => by
        obtain ⟨h1, h2⟩ := List.mem_filter.mp hf
        rcases h f h1 with e | ht
        · simp [e] at h2
        · exact lower f ht
      by_cases hz : i = 0
      · have e : b.2.filter (fun f => !decide (f = numS)) = [] := by
          rw [List.eq_nil_iff_forall_not_mem]
          intro f hf
          have := hin2 f hf
          omega
        unfold wsum
        rw [e, hz]
        exact Nat.le_refl 1
      · have h1 := sum_le_mul (s := fun f => sw (names.idxOf f)) (M := sw (i - 1)) fun f hf => sw_le i (by omega) _ (hin2 f hf)
        have h2 := sw_ok i (by omega) (by omega)
        have h3 := Nat.mul_le_mul_right (sw (i - 1)) hc
        unfold wsum
        omega
theorem rot_perm {α : Type} (l : List α) (n : Nat) : (l.drop n ++ l.take n).Perm l := by
  have := List.perm_append_comm (l₁ := l.drop n) (l₂ := l.take n)
  rwa [List.take_append_drop] at this
theorem cutD_to (xs : List D) (k : Nat) : cutD xs none (some (k : Int)) = xs.take k := by
  unfold cutD
  rw [HT.sIx_none, HT.sIx_nat, List.drop_zero, Nat.sub_zero]
  by_cases z : k ≤ xs.length
  · rw [Nat.min_eq_left z]
  · rw [Nat.min_eq_right (by omega), List.take_of_length_le (Nat.le_refl _), List.take_of_length_le (by omega)]
theorem cutD_from (xs : List D) (k : Nat) : cutD xs (some (k : Int)) none = xs.drop k := by
  unfold cutD
  rw [HT.sIx_none, HT.sIx_nat]
  by_cases z : k ≤ xs.length
  · rw [Nat.min_eq_left z, List.take_of_length_le (by simp)]
  · rw [Nat.min_eq_right (by omega), List.drop_of_length_le (Nat.le_refl _), List.drop_of_length_le (by omega)]
    simp
theorem cutD_mem {xs : List D} {a b : Option Int} {d : D} (h : d ∈ cutD xs a b) : d ∈ xs := by
  unfold cutD at h
  exact List.mem_of_mem_drop (List.mem_of_mem_take h)
theorem cutD_len (xs : List D) (a b : Option Int) : (cutD xs a b).length ≤ xs.length := by
  unfold cutD
  rw [List.length_take, List.length_drop]
  omega
theorem last_of {α : Type} {l : List α} (h : 1 ≤ l.length) : ∃ l' x, l = l' ++ [x] := by
  have hne : l ≠ [] := by rintro rfl; simp at h
  exact ⟨_, _, (List.dropLast_concat_getLast hne).symm⟩
theorem log_small {v : Int} (h : v.natAbs < 2 ^ 20) : v.natAbs.log2 < 9000 := by
  by_cases z : v.natAbs = 0
  · rw [z]; decide
  · exact Nat.lt_of_lt_of_le ((Nat.log2_lt z).mpr h) (by decide)
theorem small_len {n : Nat} (h : n ≤ 1000) : n ≤ sizeLine := Nat.le_trans h (by decide)
theorem small_lt {n : Nat} (h : n ≤ 1000) : n < sizeLine := Nat.lt_of_le_of_lt h (by decide)
end KB
namespace KB
open PySem L2 Dk
open PyProof.Rows (envOfC)
abbrev s__law_kinds : Stmt := top 39
theorem sc__law_kinds : FnScope ["_law_deck_here", "_law_many", "_law_names_here", "_law_left", "_law_found", "_law_k", "_law_rows", "_law_j", "_law_turn", "_law_fields", "_law_at"] ["_law_deck_here"] (defScope s__law_kinds) := ⟨rfl, rfl, rfl, by decide +kernel, rfl, by decide +kernel, by decide +kernel⟩
theorem bd__law_kinds (kV doc pm : Value) (an : Option Addr) (cdv ct : Value) (us : List Value) (hl : us.length = 1) : bindArgs (PySem.W.fnOf "_law_kinds" "_law_kinds" (defArgs s__law_kinds) (defBody s__law_kinds) (defScope s__law_kinds) .none kV doc pm an cdv ct) ⟨us, []⟩ = pure ((["_law_deck_here"] : List Str).zip us) := by
  match us, hl with
  | [v0], _ => rfl
def spKinds (a : Addr) : DSp where
  n := 1
  f := fun ds Q _ => ds = [.opq a] ∧ ∀ ks, Good ks → Q (kindsD ks)
  len := fun ds Q E ⟨e, _⟩ => by rw [e]; rfl
  mono := fun ds Q Q' E E' k _ ⟨e, q⟩ => ⟨e, fun x hx => k _ (q x hx)⟩
section
variable {P : Program} {w : World} {K : PySem.W.Frag} {C a l : Addr} {mg : Str → Option Value} {base : Heap} {k : Nat} {f : Addr} {fd : FuncData}
theorem ok_kinds (T : TxtB K C mg) (Fn : Fun K "_law_kinds" "_law_kinds" s__law_kinds f fd) (C__law_draw : Cal P w K mg base CX0 (DeckW a l) k "_law_draw" ["_law_deck_here", "_law_most"] (spDraw a))
    (C__law_pick : Cal P w K mg base CX0 (DeckW a l) k "_law_pick" ["_law_deck_here", "_law_some"] (spPick a)) (CO__law_names : CalO P w K mg base (DeckW a l) k "_law_names" ["_law_deck_here", "_law_many"] (spNames a)) : GnOk P w K mg base CX0 (k + 1) f fd ["_law_deck_here"] (spD (DeckW a l) K (spKinds a)) := by
  have C__law_names := CO__law_names.cal
  refine Fn.okD sc__law_kinds rfl fun cdv A outer s H I ds Q Ed E hr h => ?_
  have hu := hr.units
  obtain ⟨rfl, q⟩ := h
  refine ⟨_, (dss_cons (ds_set 1 (de_add de_int (de_fn C__law_draw (hr.mono (by omega)) pass0 lets0 (da_cons (de_name 0) (da_cons de_int da_nil)))) sc__law_kinds.nd)
  (dss_cons (by first | exact (ds_parO (i := 2) (j := 3) rfl sc__law_kinds.nd rfl rfl (by decide) rfl rfl (de_fn C__law_names (hr.mono (by omega)) pass0 lets0 (da_cons (de_name 0) (da_cons (de_name 1) da_nil))) (deo_fn CO__law_names (hr.mono (by omega)) (da_cons (de_name 0) (da_cons de_int da_nil)))) | exact (ds_parOc (i := 2) (j := 3) rfl sc__law_kinds.nd rfl rfl (by decide) (by first | exact Or.inl rfl | exact Or.inr rfl) (by first | exact Or.inl rfl | exact Or.inr rfl) (by first | exact .inl rfl | exact .inr rfl) (by first | exact .inl rfl | exact .inr rfl) (de_fn C__law_names (hr.mono (by omega)) pass0 lets0 (da_cons (de_name 0) (da_cons (de_name 1) da_nil))) (deo_fn CO__law_names (hr.mono (by omega)) (da_cons (de_name 0) (da_cons de_int da_nil)))))
  (dss_cons (ds_own 4 da_nil sc__law_kinds.nd)
  (dss_cons (ds_for PassesOwn.never rfl (di_range1 T.b_range (da_cons (de_name 1) da_nil)) (dg_name 5 sc__law_kinds.nd)
  (dss_cons (ds_ownS 6 (das_cons (des_tup (das_cons (des_pop 3) (das_cons (des_of (de_tuple T.b_tuple (da_cons (de_lc (own := [("_law_j", 7)]) rfl sc__law_kinds.nd (di_range1 T.b_range (da_cons (de_fn C__law_draw (hr.mono (by omega)) pass0 lets0 (da_cons (de_name 0) (da_cons de_int da_nil))) da_nil)) (blkOk_by (own := [("_law_j", 7)]) (N := ["_law_deck_here", "_law_many", "_law_names_here", "_law_left", "_law_found", "_law_k", "_law_rows", "_law_j", "_law_turn", "_law_fields", "_law_at"]) (sc := defScope s__law_kinds) (by decide +kernel)) (fun _ _ _ _ _ => (dg_name 7 sc__law_kinds.nd)) (fun _ _ _ _ _ => dif_nil) (fun _ _ _ _ _ => (de_fn C__law_pick (hr.mono (by omega)) pass0 lets0 (da_cons (de_name 0) (da_cons (de_add (de_lst (da_cons de_str da_nil)) (de_slice (de_name 2) do_none (do_some (de_name 5)))) da_nil))))) da_nil))) das_nil))) das_nil) sc__law_kinds.nd)
  (dss_cons (ds_for PassesOwn.never rfl (di_range1 T.b_range (da_cons (de_fn C__law_draw (hr.mono (by omega)) pass0 lets0 (da_cons (de_name 0) (da_cons de_int da_nil))) da_nil)) (dg_name 8 sc__law_kinds.nd)
  (dss_cons (by first | exact (ds_setLc (i := 9) (own := [("_law_j", 7)]) rfl sc__law_kinds.nd rfl rfl (sw_true rfl rfl rfl (by decide +kernel)) (di_range1 T.b_range (da_cons (de_add de_int (de_fn C__law_draw (hr.mono (by omega)) pass0 lets0 (da_cons (de_name 0) (da_cons de_int da_nil)))) da_nil)) (blkOk_by (own := [("_law_j", 7)]) (N := ["_law_deck_here", "_law_many", "_law_names_here", "_law_left", "_law_found", "_law_k", "_law_rows", "_law_j", "_law_turn", "_law_fields", "_law_at"]) (sc := defScope s__law_kinds) (by decide +kernel)) (fun _ _ _ _ _ => (dg_name 7 sc__law_kinds.nd)) (fun _ _ _ _ _ => dif_nil) (fun _ _ _ _ _ => (de_fn C__law_pick (hr.mono (by omega)) pass0 lets0 (da_cons (de_name 0) (da_cons (de_add (de_add (de_lst (da_cons de_str da_nil)) (de_name 2)) (de_mul (de_slice (de_name 2) (do_some (de_name 5)) (do_some (de_add (de_name 5) de_int))) de_int)) da_nil))))) | exact (ds_set 9 (de_lc (own := [("_law_j", 7)]) rfl sc__law_kinds.nd (di_range1 T.b_range (da_cons (de_add de_int (de_fn C__law_draw (hr.mono (by omega)) pass0 lets0 (da_cons (de_name 0) (da_cons de_int da_nil)))) da_nil)) (blkOk_by (own := [("_law_j", 7)]) (N := ["_law_deck_here", "_law_many", "_law_names_here", "_law_left", "_law_found", "_law_k", "_law_rows", "_law_j", "_law_turn", "_law_fields", "_law_at"]) (sc := defScope s__law_kinds) (by decide +kernel)) (fun _ _ _ _ _ => (dg_name 7 sc__law_kinds.nd)) (fun _ _ _ _ _ => dif_nil) (fun _ _ _ _ _ => (de_fn C__law_pick (hr.mono (by omega)) pass0 lets0 (da_cons (de_name 0) (da_cons (de_add (de_add (de_lst (da_cons de_str da_nil)) (de_name 2)) (de_mul (de_slice (de_name 2) (do_some (de_name 5)) (do_some (de_add (de_name 5) de_int))) de_int)) da_nil))))) sc__law_kinds.nd))
  (dss_one (ds_appendS 6 (des_tup (das_cons (des_pop 3) (das_cons (des_of (de_tuple T.b_tuple (da_cons (de_name 9) da_nil))) das_nil)))))))
  (dss_freeze 6
  (dss_cons (ds_set 10 (de_fn C__law_draw (hr.mono (by omega)) pass0 lets0 (da_cons (de_name 0) (da_cons (de_len T.b_len (da_cons (de_name 6) da_nil)) da_nil))) sc__law_kinds.nd)
  (dss_one (ds_append 4 (de_tup (da_cons (de_at hu (de_name 2) (de_name 5)) (da_cons (de_tuple T.b_tuple (da_cons (de_add (de_slice (de_name 6) (do_some (de_name 10)) do_none) (de_slice (de_name 6) do_none (do_some (de_name 10)))) da_nil)) da_nil))))))))))
  (dss_freeze 4
  (dss_one (ds_ret (de_tuple T.b_tuple (da_cons (de_name 4) da_nil))))))))), ?_⟩
  simp only [getD_0, getD_s, set_0, set_s, boolD_bl, intD_int, startD, List.map, List.length_cons, List.length_nil, List.replicate, List.cons_append, List.nil_append, defEnds, wipeD, if_true, if_false, Bool.not_true, Bool.not_false, Bool.false_eq_true]
  refine ⟨3, rfl, by decide, by decide, fun mm m0 m1 => ?_⟩
  obtain ⟨m', rfl⟩ := Int.eq_ofNat_of_zero_le m0
  have em : (1 : Int) + (m' : Int) = ((m' + 1 : Nat) : Int) := by omega
  have hm : 1 ≤ m' + 1 ∧ m' + 1 ≤ 3 := by omega
  generalize hM : m' + 1 = m at *
  simp only [addD]
  rw [em]
  refine ⟨m, rfl, hm.1, by omega, fun names hnl hnd hnok => ⟨12, rfl, by decide, by decide, fun n12 h12 hnd2 hok2 => ⟨Nat.zero_le _, (m : Int), rfl, by omega, by omega, ?_⟩⟩⟩
  rw [Int.toNat_natCast]
  refine forD_ind (fun (l : List D) ρ => ∃ (i : Nat) (found : List Kind) (left : List Str) (s5 s6 s7 s8 s9 s10 : Option Ent), i ≤ m ∧ l = (rngD 0 m).drop i ∧ found.length = i ∧ Made names n12 found left ∧ 12 ≤ left.length + 3 * i ∧ ρ = [some (.dat (.opq a)), some (.dat (.int m)), some (.dat (.lst (names.map D.str))), some (.own (left.map D.str)), some (.own (found.map kindD)), s5, s6, s7, s8, s9, s10]) (fun ρ ⟨i, found, left, s5, s6, s7, s8, s9, s10, hi, el, fl, md, hl, e⟩ => ?_) (fun d l ρ R ⟨i, found, left, s5, s6, s7, s8, s9, s10, hi, el, fl, md, hl, e⟩ hR => ?_) _ _ ⟨0, [], n12, none, none, none, none, none, none, Nat.zero_le _, rfl, rfl, .nil, by omega, rfl⟩
  · subst e
    have him : i = m := by
      by_cases z : i = m
      · exact z
      · exfalso
        have := congrArg List.length el
        rw [List.length_drop, rngD_length] at this
        simp at this
        omega
    refine ⟨_, rfl, trivial, ?_⟩
    simp only [getD_0, getD_s, set_0, set_s, boolD_bl, intD_int, startD, List.map, List.length_cons, List.length_nil, List.replicate, List.cons_append, List.nil_append, defEnds, wipeD, if_true, if_false, Bool.not_true, Bool.not_false, Bool.false_eq_true]
    exact q found (md.good hnd hnok hnd2 hok2 (by omega) (by omega) (by omega))
  · obtain ⟨hi', rfl, el'⟩ := rng_drop el
    subst e
    obtain ⟨left1, x, rfl⟩ := last_of (l := left) (by omega)
    refine ⟨left1.map D.str, .str x, by show some (some (Ent.own ((left1 ++ [x]).map D.str))) = _; rw [List.map_append]; rfl, ?_⟩
    simp only [getD_0, getD_s, set_0, set_s, boolD_bl, intD_int, startD, List.map, List.length_cons, List.length_nil, List.replicate, List.cons_append, List.nil_append, defEnds, wipeD, if_true, if_false, Bool.not_true, Bool.not_false, Bool.false_eq_true]
    refine ⟨3, rfl, by decide, by decide, fun cn c0 c1 => ?_⟩
    refine ⟨cn, rfl, by omega, by omega, by rw [rngD_length]; exact Nat.le_trans (show cn.toNat ≤ 3 by omega) (by decide), lcD_any D.str (fun f => f = numS ∨ f ∈ names.take i) (fun d hd R S hR => ?_) fun fs hfl hfs => ?_⟩
    · simp only [getD_0, getD_s, set_0, set_s, boolD_bl, intD_int, startD, List.map, List.length_cons, List.length_nil, List.replicate, List.cons_append, List.nil_append, defEnds, wipeD, if_true, if_false, Bool.not_true, Bool.not_false, Bool.false_eq_true]
      have hc := cutD_len (names.map D.str) none (some ((i : Nat) : Int))
      rw [List.length_map, hnl] at hc
      refine ⟨by decide, ?_⟩
      rw [show (0 + (i : Int)) = ((i : Nat) : Int) from by omega]
      refine ⟨Nat.le_trans (show _ ≤ 100 by simp only [List.length_cons, List.length_nil]; omega) (by decide), _, rfl, by simp, ?_, fun z hz => ?_⟩
      · simp only [List.length_append, List.length_cons, List.length_nil]; omega
      · rcases List.mem_append.mp hz with h | h
        · obtain rfl := List.mem_singleton.mp h
          exact hR numS (.inl rfl)
        · rw [cutD_to, ← List.map_take] at h
          obtain ⟨f, hf, rfl⟩ := List.mem_map.mp h
          exact hR f (.inr hf)
    rw [rngD_length] at hfl
    refine ⟨by decide, by decide, 3, rfl, by decide, by decide, fun tn t0 t1 => ⟨tn, rfl, by omega, by omega, ?_⟩⟩
    have r1 : Rows names n12 found [(x, fs)] left1 := md.rows.add (fs := fs) (by omega) fun f hf => (hfs f hf).imp id fun h => List.mem_of_mem_take h
    refine forD_ind (fun (l2 : List D) ρ => ∃ (j : Nat) (rows : List Bough) (left : List Str) (s7 s8 s9 : Option Ent), j ≤ tn.toNat ∧ l2 = (rngD 0 tn.toNat).drop j ∧ Rows names n12 found rows left ∧ (∃ b ∈ rows, wit names i b.2) ∧ rows.length = j + 1 ∧ 11 ≤ left.length + 3 * i + j ∧ ρ = [some (.dat (.opq a)), some (.dat (.int m)), some (.dat (.lst (names.map D.str))), some (.own (left.map D.str)), some (.own (found.map kindD)), some (.dat (.int (0 + (i : Int)))), some (.own (rows.map boughD)), s7, s8, s9, s10]) (fun ρ ⟨j, rows, left, s7, s8, s9, hj, el2, hr2, hw, hlen, hleft, e⟩ => ?_) (fun d l2 ρ R2 ⟨j, rows, left, s7, s8, s9, hj, el2, hr2, hw, hlen, hleft, e⟩ hR2 => ?_) _ _ ⟨0, [(x, fs)], left1, _, _, _, Nat.zero_le _, rfl, r1, ⟨(x, fs), by simp, hfs, Nat.le_trans (List.length_filter_le _ _) (Nat.le_trans (show fs.length ≤ 3 by omega) (cw3 i (by omega)))⟩, rfl, by simp at hl; omega, rfl⟩
    · subst e
      refine ⟨_, rfl, trivial, ?_⟩
      simp only [getD_0, getD_s, set_0, set_s, boolD_bl, intD_int, startD, List.map, List.length_cons, List.length_nil, List.replicate, List.cons_append, List.nil_append, defEnds, wipeD, if_true, if_false, Bool.not_true, Bool.not_false, Bool.false_eq_true]
      have ln : (rows.map boughD).length = j + 1 := by rw [List.length_map, hlen]
      refine ⟨((rows.map boughD).length : Int), rfl, by omega, log_small (by omega), fun at' a0 a1 => ?_⟩
      obtain ⟨n, rfl⟩ := Int.eq_ofNat_of_zero_le a0
      obtain ⟨nm', hnm⟩ : ∃ x, names[i]? = some x := ⟨names[i]'(by omega), List.getElem?_eq_getElem (by omega)⟩
      refine ⟨_, rfl, .str nm', ?_, ?_⟩
      · rw [show (0 + (i : Int)) = ((i : Nat) : Int) from by omega]
        exact atI_nat (by rw [List.getElem?_map, hnm]; rfl)
      have h1 := cutD_len (rows.map boughD) (some (n : Int)) none
      have h2 := cutD_len (rows.map boughD) none (some (n : Int))
      have er : cutD (rows.map boughD) (some (n : Int)) none ++ cutD (rows.map boughD) none (some (n : Int)) = (rows.drop n ++ rows.take n).map boughD := by rw [cutD_from, cutD_to, List.map_append, List.map_drop, List.map_take]
      simp only [intD_int]
      refine ⟨small_len (by omega), by decide, small_lt (by rw [List.length_map]; omega), ?_⟩
      have ef : found.map kindD ++ [D.tup [.str nm', .tup (cutD (rows.map boughD) (some (n : Int)) none ++ cutD (rows.map boughD) none (some (n : Int)))]] = (found ++ [(nm', rows.drop n ++ rows.take n)]).map kindD := by
        rw [er, List.map_append (f := kindD)]
        rfl
      rw [ef]
      exact hR _ ⟨i + 1, found ++ [(nm', rows.drop n ++ rows.take n)], left, _, _, _, _, _, _, hi', el', by simp [fl], md.add hr2 (by rw [fl]; exact hnm) (rot_perm rows n) (by omega) (by rw [fl]; exact hw), by omega, rfl⟩
    · obtain ⟨hj', rfl, el2'⟩ := rng_drop el2
      subst e
      simp only [getD_0, getD_s, set_0, set_s, boolD_bl, intD_int, startD, List.map, List.length_cons, List.length_nil, List.replicate, List.cons_append, List.nil_append, defEnds, wipeD, if_true, if_false, Bool.not_true, Bool.not_false, Bool.false_eq_true]
      refine ⟨3, rfl, by decide, by decide, fun un u0 u1 => ?_⟩
      refine ⟨1 + un, rfl, by omega, by omega, by rw [rngD_length]; exact Nat.le_trans (show (1 + un).toNat ≤ 3 by omega) (by decide), lcD_any D.str (fun f => f = numS ∨ f ∈ names) (fun d hd R S hR => ?_) fun gs hgl hgs => ?_⟩
      · simp only [getD_0, getD_s, set_0, set_s, boolD_bl, intD_int, startD, List.map, List.length_cons, List.length_nil, List.replicate, List.cons_append, List.nil_append, defEnds, wipeD, if_true, if_false, Bool.not_true, Bool.not_false, Bool.false_eq_true]
        have h1 := cutD_len (names.map D.str) (some (0 + (i : Int))) (some (0 + (i : Int) + 1))
        rw [List.length_map, hnl] at h1
        have hcm : ∀ d ∈ cutD (names.map D.str) (some (0 + (i : Int))) (some (0 + (i : Int) + 1)), d ∈ names.map D.str := fun d h => cutD_mem h
        refine ⟨by decide, small_len (by rw [List.length_map]; omega), ?_⟩
        simp only [sliceD]
        generalize cutD (names.map D.str) (some (0 + (i : Int))) (some (0 + (i : Int) + 1)) = c at h1 hcm
        have e2 : (List.replicate (2 : Int).toNat c).flatten = c ++ (c ++ []) := rfl
        refine ⟨by decide, by decide, small_len (by show c.length * 2 ≤ _; omega), ?_⟩
        rw [e2]
        refine ⟨small_len ?_, _, rfl, by simp, ?_, fun z hz => ?_⟩
        · simp only [List.length_cons, List.length_append, List.length_map, List.length_nil]; omega
        · simp only [List.length_cons, List.length_append, List.length_map, List.length_nil]; omega
        · have hz' : z = .str numS ∨ z ∈ names.map D.str := by
            rcases List.mem_append.mp hz with h | h
            · rcases List.mem_cons.mp h with h | h
              · exact .inl h
              · exact .inr h
            · rw [List.append_nil] at h
              rcases List.mem_append.mp h with h | h <;> exact .inr (hcm _ h)
          rcases hz' with rfl | h
          · exact hR numS (.inl rfl)
          · obtain ⟨f, hf, rfl⟩ := List.mem_map.mp h
            exact hR f (.inr hf)
      rw [rngD_length] at hgl
      obtain ⟨left2, y, rfl⟩ := last_of (l := left) (by omega)
      refine ⟨_, rfl, left2.map D.str, .str y, by show some (some (Ent.own ((left2 ++ [y]).map D.str))) = _; rw [List.map_append]; rfl, by decide, _, rfl, small_lt (by rw [List.length_map]; omega), ?_⟩
      have ef : rows.map boughD ++ [D.tup [.str y, .tup (gs.map D.str)]] = (rows ++ [(y, gs)]).map boughD := by
        rw [List.map_append (f := boughD)]
        rfl
      rw [ef]
      obtain ⟨b, hb, h⟩ := hw
      simp only [List.length_append, List.length_cons, List.length_nil] at hleft
      exact hR2 _ ⟨j + 1, rows ++ [(y, gs)], left2, _, _, _, hj', el2', hr2.add (by omega) hgs, ⟨b, List.mem_append_left _ hb, h⟩, by simp [hlen], by omega, rfl⟩
end
end KB
namespace KB
open PySem L2 Dk
open PyProof.Rows (envOfC)
def listsBy (ks : List Kind) : List (Key × D) := ks.map fun k => (.inr k.1, .lst (k.2.map fun b => .str b.1))
end KB
namespace KB
open PySem L2 Dk
/-- the size told of a kind -/
def zv (kvs : List (Key × D)) (f : Str) : Nat := match lookD kvs (.inr f) with
  | some (.int n) => n.toNat
  | _ => 0
def okFs (kvs : List (Key × D)) (fs : List Str) : Prop := ∀ f ∈ fs, f = numS ∨ hasN kvs f = true
structure Szs (ks : List Kind) (kvs : List (Key × D)) : Prop where
  val : ∀ f, hasN kvs f = true → f ∈ kNames ks ∧ lookD kvs (.inr f) = some (.int (zv kvs f)) ∧ 1 ≤ zv kvs f
  wit : ∀ k ∈ ks, hasN kvs k.1 = true → ∃ b ∈ k.2, okFs kvs b.2 ∧ 1 + wsum (zv kvs) b.2 ≤ zv kvs k.1
theorem Szs.nil {ks : List Kind} : Szs ks [] := ⟨fun f h => by simp [hasN, lookD] at h, fun k _ h => by simp [hasN, lookD] at h⟩
theorem Good.uniq {ks : List Kind} (g : Good ks) {k k' : Kind} (h : k ∈ ks) (h' : k' ∈ ks) (e : k.1 = k'.1) : k = k' := by
  have nd := g.nd
  unfold kNames at nd
  obtain ⟨i, hi⟩ := List.getElem?_of_mem h
  obtain ⟨j, hj⟩ := List.getElem?_of_mem h'
  have e1 : (ks.map (·.1))[i]? = some k.1 := by rw [List.getElem?_map, hi]; rfl
  have e2 : (ks.map (·.1))[j]? = some k.1 := by rw [List.getElem?_map, hj]; simp [e]
  have := nodup_ix nd e1 e2
  subst this
  rw [hi] at hj
  exact Option.some.inj hj
/-- all sizes told -/
structure Sized (ks : List Kind) (kvs : List (Key × D)) : Prop where
  z : Szs ks kvs
  all : ∀ k ∈ ks, hasN kvs k.1 = true ∧ zv kvs k.1 ≤ 29
theorem Sized.look {ks : List Kind} {kvs : List (Key × D)} (z : Sized ks kvs) {f : Str} (h : f ∈ kNames ks) : lookD kvs (.inr f) = some (.int (zv kvs f)) ∧ 1 ≤ zv kvs f ∧ zv kvs f ≤ 29 := by
  obtain ⟨k, hk, rfl⟩ := List.mem_map.mp h
  obtain ⟨h1, h2⟩ := z.all k hk
  exact ⟨(z.z.val _ h1).2.1, (z.z.val _ h1).2.2, h2⟩
end KB
namespace KB
open PySem L2 Dk
theorem Good.lk {ks : List Kind} (g : Good ks) : ((listsBy ks).map (·.1)).Nodup := by
  rw [show (listsBy ks).map (·.1) = (kNames ks).map Sum.inr from by unfold listsBy kNames; rw [List.map_map, List.map_map]; rfl]
  exact nodup_inr g.nd
end KB
namespace KB
open PySem L2 Dk
mutual
/-- d is a worth of the kind f, of at most n rows one in another, its numbers at most cap -/
inductive WD (ks : List Kind) (cap : Int) : Nat → Str → D → Prop
  | num (n : Nat) (i : Int) : 0 ≤ i → i ≤ cap → WD ks cap n numS (.int i)
  | node (n : Nat) (k : Kind) (b : Bough) (ds : List D) : k ∈ ks → b ∈ k.2 → WDs ks cap n b.2 ds → WD ks cap (n + 1) k.1 (.tup (.str b.1 :: ds))
inductive WDs (ks : List Kind) (cap : Int) : Nat → List Str → List D → Prop
  | nil (n : Nat) : WDs ks cap n [] []
  | cons (n : Nat) (f : Str) (fs : List Str) (d : D) (ds : List D) : WD ks cap n f d → WDs ks cap n fs ds → WDs ks cap n (f :: fs) (d :: ds)
end
theorem WDs.len {ks : List Kind} {cap : Int} {n : Nat} {fs : List Str} {ds : List D} (h : WDs ks cap n fs ds) : ds.length = fs.length := by
  induction fs generalizing ds with
  | nil => cases h; rfl
  | cons g fs ih => cases h with | cons _ _ _ e es h1 h2 => simp [ih h2]
theorem WDs.all {ks : List Kind} {cap : Int} {n : Nat} {fs : List Str} {ds : List D} (h : WDs ks cap n fs ds) : ∀ d ∈ ds, ∃ f, WD ks cap n f d := by
  induction fs generalizing ds with
  | nil => cases h; intro d hd; cases hd
  | cons g fs ih =>
    cases h with
    | cons _ _ _ e es h1 h2 =>
      intro d hd
      rcases List.mem_cons.mp hd with rfl | hd
      · exact ⟨g, h1⟩
      · exact ih h2 d hd
mutual
theorem WD.cap {ks : List Kind} {c c' : Int} (l : c ≤ c') : ∀ {n : Nat} {f : Str} {d : D}, WD ks c n f d → WD ks c' n f d
  | _, _, _, .num n i h1 h2 => .num n i h1 (Int.le_trans h2 l)
  | _, _, _, .node n k b ds hk hb h => .node n k b ds hk hb (WDs.cap l h)
theorem WDs.cap {ks : List Kind} {c c' : Int} (l : c ≤ c') : ∀ {n : Nat} {f : List Str} {d : List D}, WDs ks c n f d → WDs ks c' n f d
  | _, _, _, .nil n => .nil n
  | _, _, _, .cons n f fs d ds h1 h2 => .cons n f fs d ds (WD.cap l h1) (WDs.cap l h2)
end
end KB
namespace KB
open PySem L2 Dk
theorem WD.inv {ks : List Kind} {c : Int} {n : Nat} {f : Str} {d : D} (h : WD ks c n f d) : (f = numS ∧ ∃ i, d = .int i ∧ 0 ≤ i ∧ i ≤ c) ∨ ∃ m k b ds, n = m + 1 ∧ f = k.1 ∧ k ∈ ks ∧ b ∈ k.2 ∧ d = .tup (.str b.1 :: ds) ∧ WDs ks c m b.2 ds := by
  cases h with
  | num n i h1 h2 => exact .inl ⟨rfl, i, rfl, h1, h2⟩
  | node n k b ds hk hb h => exact .inr ⟨n, k, b, ds, rfl, rfl, hk, hb, rfl, h⟩
end KB
namespace KB
open PySem L2 Dk
end KB
namespace KB
open PySem L2 Dk
end KB
namespace KB
open PySem L2 Dk
open PyProof.Rows (envOfC)
abbrev s__law_alike : Stmt := top 42
theorem sc__law_alike : FnScope ["_law_one", "_law_other", "_law_due", "_law_told"] ["_law_one", "_law_other", "_law_due"] (defScope s__law_alike) := ⟨rfl, rfl, rfl, by decide +kernel, rfl, by decide +kernel, by decide +kernel⟩
theorem bd__law_alike (kV doc pm : Value) (an : Option Addr) (cdv ct : Value) (us : List Value) (hl : us.length = 3) : bindArgs (PySem.W.fnOf "_law_alike" "_law_alike" (defArgs s__law_alike) (defBody s__law_alike) (defScope s__law_alike) .none kV doc pm an cdv ct) ⟨us, []⟩ = pure ((["_law_one", "_law_other", "_law_due"] : List Str).zip us) := by
  match us, hl with
  | [v0, v1, v2], _ => rfl
abbrev s__law_fresh : Stmt := top 43
theorem sc__law_fresh : FnScope ["_law_own_kinds", "_law_many", "_law_had", "_law_kind", "_law_rows", "_law_bough", "_law_fields", "_law_found", "_law_first", "_law_letter", "_law_name"] ["_law_own_kinds", "_law_many"] (defScope s__law_fresh) := ⟨rfl, rfl, rfl, by decide +kernel, rfl, by decide +kernel, by decide +kernel⟩
theorem bd__law_fresh (kV doc pm : Value) (an : Option Addr) (cdv ct : Value) (us : List Value) (hl : us.length = 2) : bindArgs (PySem.W.fnOf "_law_fresh" "_law_fresh" (defArgs s__law_fresh) (defBody s__law_fresh) (defScope s__law_fresh) .none kV doc pm an cdv ct) ⟨us, []⟩ = pure ((["_law_own_kinds", "_law_many"] : List Str).zip us) := by
  match us, hl with
  | [v0, v1], _ => rfl
abbrev s__law_with_worths : Stmt := top 45
theorem sc__law_with_worths : FnScope ["_law_own_kinds", "_law_found", "_law_turn", "_law_kind", "_law_rows", "_law_bough", "_law_fields", "_law_field"] ["_law_own_kinds"] (defScope s__law_with_worths) := ⟨rfl, rfl, rfl, by decide +kernel, rfl, by decide +kernel, by decide +kernel⟩
theorem bd__law_with_worths (kV doc pm : Value) (an : Option Addr) (cdv ct : Value) (us : List Value) (hl : us.length = 1) : bindArgs (PySem.W.fnOf "_law_with_worths" "_law_with_worths" (defArgs s__law_with_worths) (defBody s__law_with_worths) (defScope s__law_with_worths) .none kV doc pm an cdv ct) ⟨us, []⟩ = pure ((["_law_own_kinds"] : List Str).zip us) := by
  match us, hl with
  | [v0], _ => rfl
abbrev s__law_bare_heard : Stmt := top 46
theorem sc__law_bare_heard : FnScope ["_law_own_kinds", "_law_found", "e", "_law_others_here"] ["_law_own_kinds"] (defScope s__law_bare_heard) := ⟨rfl, rfl, rfl, by decide +kernel, rfl, by decide +kernel, by decide +kernel⟩
theorem bd__law_bare_heard (kV doc pm : Value) (an : Option Addr) (cdv ct : Value) (us : List Value) (hl : us.length = 1) : bindArgs (PySem.W.fnOf "_law_bare_heard" "_law_bare_heard" (defArgs s__law_bare_heard) (defBody s__law_bare_heard) (defScope s__law_bare_heard) .none kV doc pm an cdv ct) ⟨us, []⟩ = pure ((["_law_own_kinds"] : List Str).zip us) := by
  match us, hl with
  | [v0], _ => rfl
theorem notinW {xs : List Str} {f : Str} (ok : ∀ x ∈ xs, OkN 0 (.str x)) (hf : OkN 0 (.str f)) {Q : D → Prop} (q : Q (.bl (!decide (f ∈ xs)))) : inD true (.str f) (.lst (xs.map D.str)) Q := by
  refine ⟨hf.okE (by decide), (okN_lst (k := 0) fun x hx => ?_).okE (by decide), ?_⟩
  · obtain ⟨y, hy, rfl⟩ := List.mem_map.mp hx
    exact ok y hy
  · have e : ((xs.map D.str).any fun y => deq y (.str f)) = decide (f ∈ xs) := by
      rw [List.any_map, Bool.eq_iff_iff, List.any_eq_true, decide_eq_true_eq]
      constructor
      · rintro ⟨y, hy, h⟩
        have : y = f := by simpa [deq_strs] using h
        exact this ▸ hy
      · intro h
        exact ⟨f, h, by simp [deq_strs]⟩
    rw [e]
    exact q
theorem known_pl {d : D} (h : known d = true) : isPl d = true := by cases d <;> first | rfl | (cases h)
section
variable {C : Addr} {ks ks' : List Kind} {d : D} {Q : Bool → Prop}
theorem eqM_book (g : Wel ks) (g' : Wel ks') (q : Q (decide (ks = ks'))) : eqM C (spEqM C) (bookD C ks) (bookD C ks') Q :=
  .inl ⟨_, rfl, .inr ⟨_, rfl⟩, ks, _, rfl, g, .inl ⟨ks', rfl, g', _, rfl, q⟩⟩
theorem eqM_l (g : Wel ks) (kn : known d = true) (q : Q false) : eqM C (spEqM C) (bookD C ks) d Q :=
  .inl ⟨_, rfl, .inl (known_pl kn), ks, _, rfl, g, .inr ⟨kn, _, rfl, q⟩⟩
theorem eqM_r (g : Wel ks) (kn : known d = true) (q : Q false) : eqM C (spEqM C) d (bookD C ks) Q :=
  .inr ⟨known_pl kn, _, rfl, ks, _, rfl, g, .inr ⟨kn, _, rfl, q⟩⟩
theorem itM_book (g : Wel ks) (g' : Wel ks') (q : Q (decide (ks = ks'))) : itM C "kinds" (spEqM C) (bookD C ks) (bookD C ks') Q := by
  refine .inl ⟨eqM_book g g' q, fun fs gs e1 e2 => ?_⟩
  have e1 := (D.obj.inj e1).2
  have e2 := (D.obj.inj e2).2
  subst e1 e2
  refine ⟨_, _, _, _, rfl, rfl, rig_kinds ks, rig_kinds ks', fun e => ?_⟩
  rw [decide_eq_true (kindsD_inj e)] at q
  exact q
theorem itM_r (g : Wel ks) (kn : known d = true) (q : Q false) : itM C "kinds" (spEqM C) d (bookD C ks) Q :=
  .inl ⟨eqM_r g kn q, fun fs gs e1 e2 => by subst e1; cases kn⟩
end
def spAlike (C : Addr) : DSp where
  n := 3
  f := fun ds Q _ => ∃ ks d b, ds = [bookD C ks, d, .bl b] ∧ Wel ks ∧ ((∃ ks', d = bookD C ks' ∧ Wel ks' ∧ b = decide (ks = ks')) ∨ (known d = true ∧ b = false)) ∧ Q (.bl true)
  len := fun ds Q E ⟨_, _, _, e, _⟩ => by rw [e]; rfl
  mono := fun ds Q Q' E E' k _ ⟨ks, d, b, e, g, h, q⟩ => ⟨ks, d, b, e, g, h, k _ q⟩
def spWithL : DSp where
  n := 1
  f := fun ds Q _ => ∃ ks, ds = [kindsD ks] ∧ Wel ks ∧ Q (.bl (decide (∀ k ∈ ks, wthy ks k.1 = true)))
  len := fun ds Q E ⟨_, e, _⟩ => by rw [e]; rfl
  mono := fun ds Q Q' E E' k _ ⟨ks, e, g, q⟩ => ⟨ks, e, g, k _ q⟩
section
variable {P : Program} {w : World} {K : PySem.W.Frag} {C CB a l : Addr} {mg : Str → Option Value} {base : Heap} {W : Wd} {k : Nat} {f : Addr} {fd : FuncData}
theorem ok_alike (T : TxtB K C mg) (nc : NeC K C) (Fn : Fun K "_law_alike" "_law_alike" s__law_alike f fd) (CM___eq__ : CalM P w K mg base CX0 W k C "__eq__" ["self", "other"] (spEqM C)) : GnOk P w K mg base CX0 (k + 4) f fd ["_law_one", "_law_other", "_law_due"] (spD W K (spAlike C)) := by
  refine Fn.okD sc__law_alike rfl fun cdv A outer s H I ds Q Ed E hr h => ?_
  have hu := hr.units
  have hu2 : (A.deeper (envOfC "_law_alike" (defScope s__law_alike) s.heap.objs.size f cdv)).units + 66 < cLine := by have := hr.room.un; omega
  obtain ⟨ks, d, b, rfl, g, h, q⟩ := h
  refine ⟨_, (dss_cons (ds_set 3 (de_tup (da_cons (de_eqM CM___eq__ nc (hr.mono (by omega)) hu (de_name 0) (de_name 1)) (da_cons (de_eqM CM___eq__ nc (hr.mono (by omega)) hu (de_name 1) (de_name 0)) (da_cons (de_neM CM___eq__ nc (hr.mono (by omega)) hu (de_name 0) (de_name 1)) (da_cons (de_neM CM___eq__ nc (hr.mono (by omega)) hu (de_name 1) (de_name 0)) (da_cons (de_eqTup CM___eq__ nc (hr.mono (by omega)) hu "kinds" (de_tup (da_cons (de_name 1) (da_cons de_int da_nil))) (de_tup (da_cons (de_name 0) (da_cons de_int da_nil)))) (da_cons (de_inTup CM___eq__ nc (hr.mono (by omega)) hu "kinds" (de_name 0) (de_tup (da_cons de_int (da_cons (de_name 1) da_nil)))) da_nil))))))) sc__law_alike.nd)
  (dss_one (ds_ret (de_c (.eq hu) (de_reprF T.b_repr hr.gd hu (da_cons (de_name 3) da_nil)) (de_reprF T.b_repr hr.gd hu (da_cons (de_tup (da_cons (de_name 2) (da_cons (de_name 2) (da_cons (de_not (de_name 2)) (da_cons (de_not (de_name 2)) (da_cons (de_name 2) (da_cons (de_name 2) da_nil))))))) da_nil)))))), ?_⟩
  simp only [getD_0, getD_s, set_0, set_s, boolD_bl, intD_int, startD, List.map, List.length_cons, List.length_nil, List.replicate, List.cons_append, List.nil_append, defEnds, wipeD, if_true, if_false, Bool.not_true, Bool.not_false, Bool.false_eq_true]
  have fin : ∀ b : Bool, reprF [.tup [.bl b, .bl b, .bl !b, .bl !b, .bl b, .bl b]] fun x => 0 + 1 + 1 + 1 + 1 + 1 + 1 ≤ sizeLine ∧ reprF [.tup [.bl b, .bl b, .bl !b, .bl !b, .bl b, .bl b]] fun y => eqD x y Q := fun b => by
    have one : ∀ {R : D → Prop}, R (.str (pyF (.tup [.bl b, .bl b, .bl !b, .bl !b, .bl b, .bl b])).shown) → reprF [.tup [.bl b, .bl b, .bl !b, .bl !b, .bl b, .bl b]] R := fun {R} r => by
      cases b
      · exact ⟨by decide +kernel, by decide +kernel, by decide +kernel, by decide +kernel, r⟩
      · exact ⟨by decide +kernel, by decide +kernel, by decide +kernel, by decide +kernel, r⟩
    refine one ⟨by decide, one ?_⟩
    rw [eqD_str, decide_eq_true rfl]
    exact q
  have zz : ∀ {R : Bool → Prop}, R true → tupM C "kinds" (spEqM C) [.int 0] [.int 0] R := fun {R} r => .inr ⟨0, 0, rfl, rfl, fun _ => r, fun h => (by cases h)⟩
  rcases h with ⟨ks', rfl, g', rfl⟩ | ⟨kn, rfl⟩
  · have es : decide (ks' = ks) = decide (ks = ks') := by simp [eq_comm]
    refine eqM_book g g' (eqM_book g' g (eqM_book g g' (eqM_book g' g ⟨by decide, by decide, _, _, rfl, rfl, rfl, itM_book g' g ?_⟩)))
    rw [es]
    cases hb : decide (ks = ks') with
    | true =>
      refine ⟨fun _ => zz ?_, fun h => (by cases h)⟩
      refine ⟨by decide, _, rfl, itM_r g rfl ⟨fun h => (by cases h), fun _ => itM_book g' g ?_⟩⟩
      rw [es, hb]
      exact ⟨fun _ => ⟨by decide, fin true⟩, fun h => (by cases h)⟩
    | false =>
      refine ⟨fun h => (by cases h), fun _ => ?_⟩
      refine ⟨by decide, _, rfl, itM_r g rfl ⟨fun h => (by cases h), fun _ => itM_book g' g ?_⟩⟩
      rw [es, hb]
      exact ⟨fun h => (by cases h), fun _ => ⟨by decide, fin false⟩⟩
  · refine eqM_l g kn (eqM_r g kn (eqM_l g kn (eqM_r g kn ⟨by decide, by decide, _, _, rfl, rfl, rfl, itM_r g kn ⟨fun h => (by cases h), fun _ => ?_⟩⟩)))
    refine ⟨by decide, _, rfl, itM_r g rfl ⟨fun h => (by cases h), fun _ => itM_r g kn ⟨fun h => (by cases h), fun _ => ⟨by decide, fin false⟩⟩⟩⟩
theorem ok_withL (T : TxtB K C mg) (Fn : Fun K "_law_with_worths" "_law_with_worths" s__law_with_worths f fd) : GnOk P w K mg base CX0 (k + 1) f fd ["_law_own_kinds"] (spD W K spWithL) := by
  refine Fn.okD sc__law_with_worths rfl fun cdv A outer s H I ds Q Ed E hr h => ?_
  have hu := hr.units
  have hu2 : (A.deeper (envOfC "_law_with_worths" (defScope s__law_with_worths) s.heap.objs.size f cdv)).units + 66 < cLine := by have := hr.room.un; omega
  obtain ⟨ks, rfl, g, q⟩ := h
  refine ⟨_, (dss_cons (ds_own 1 da_nil sc__law_with_worths.nd)
  (dss_cons (ds_for PassesOwn.never rfl (di_seq (de_name 0)) (dg_name 2 sc__law_with_worths.nd)
  (dss_one (ds_for PassesOwn.never rfl (di_seq (de_name 0)) (dg_tup (n := 2) rfl (dgs_cons (dg_name 3 sc__law_with_worths.nd) (dgs_cons (dg_name 4 sc__law_with_worths.nd) dgs_nil)))
  (dss_one (ds_for PassesOwn.never rfl (di_seq (de_name 4)) (dg_tup (n := 2) rfl (dgs_cons (dg_name 5 sc__law_with_worths.nd) (dgs_cons (dg_name 6 sc__law_with_worths.nd) dgs_nil)))
  (dss_one (ds_if (dt_lend 1 (dt_c (.eq hu) (de_lc (own := [("_law_field", 7)]) rfl sc__law_with_worths.nd (di_seq (de_name 6)) (blkOk_by (own := [("_law_field", 7)]) (N := ["_law_own_kinds", "_law_found", "_law_turn", "_law_kind", "_law_rows", "_law_bough", "_law_fields", "_law_field"]) (sc := defScope s__law_with_worths) (by decide +kernel)) (fun _ _ _ _ _ => (dg_name 7 sc__law_with_worths.nd)) (fun _ _ _ _ _ => (dif_one (dt_wh (dw_and (dt_c (.ne hu) (de_name 7) de_str) (dw_and1 (dt_notin hu2 (de_name 7) (de_name 1))))))) (fun _ _ _ _ _ => (de_name 7))) (de_lst da_nil)))
  (dss_one (ds_append 1 (de_name 3)))
  dss_nil)))))))
  (dss_freeze 1
  (dss_one (ds_ret (de_c (.eq hu) (de_lc (own := [("_law_kind", 3), ("_law_rows", 4)]) rfl sc__law_with_worths.nd (di_seq (de_name 0)) (blkOk_by (own := [("_law_kind", 3), ("_law_rows", 4)]) (N := ["_law_own_kinds", "_law_found", "_law_turn", "_law_kind", "_law_rows", "_law_bough", "_law_fields", "_law_field"]) (sc := defScope s__law_with_worths) (by decide +kernel)) (fun _ _ _ _ _ => (dg_tup (n := 2) rfl (dgs_cons (dg_name 3 sc__law_with_worths.nd) (dgs_cons (dg_name 4 sc__law_with_worths.nd) dgs_nil)))) (fun _ _ _ _ _ => (dif_one (dt_notin hu2 (de_name 3) (de_name 1)))) (fun _ _ _ _ _ => (de_name 3))) (de_lst da_nil))))))), ?_⟩
  simp only [getD_0, getD_s, set_0, set_s, boolD_bl, intD_int, startD, List.map, List.length_cons, List.length_nil, List.replicate, List.cons_append, List.nil_append, defEnds, wipeD, if_true, if_false, Bool.not_true, Bool.not_false, Bool.false_eq_true]
  simp only [kindsD, itemsD]
  have gs1 := g.s1
  refine ⟨by decide, ?_⟩
  refine forD_ind (fun (l : List D) ρ => ∃ (xs : List Str) (u2 u3 u4 u5 u6 u7 : Option Ent), ρ = [some (.dat (.tup (ks.map kindD))), some (.own (xs.map D.str)), u2, u3, u4, u5, u6, u7] ∧ l.length ≤ ks.length ∧ xs.length + 48 * l.length ≤ 300 ∧ (∀ x ∈ xs, x ∈ kNames ks) ∧ ∀ f, decide (f ∈ xs) = rnds ks (ks.length - l.length) f) (fun ρ ⟨xs, u2, u3, u4, u5, u6, u7, e, _, hb, hm, h⟩ => ?_) (fun d l ρ R ⟨xs, u2, u3, u4, u5, u6, u7, e, hl, hb, hm, h⟩ hR => ?_) _ _ ⟨[], none, none, none, none, none, none, rfl, by simp, by simp; omega, by simp, fun f => by simp [rnds]⟩
  · subst e
    simp only [List.length_nil, Nat.sub_zero] at h
    simp only [getD_0, getD_s, set_0, set_s, boolD_bl, intD_int, startD, List.map, List.length_cons, List.length_nil, List.replicate, List.cons_append, List.nil_append, defEnds, wipeD, if_true, if_false, Bool.not_true, Bool.not_false, Bool.false_eq_true]
    have okx : ∀ x ∈ xs, OkN 0 (.str x) := fun x hx => by obtain ⟨k, hk, rfl⟩ := List.mem_map.mp (hm x hx); exact okN_name (g.kn k hk)
    refine ⟨_, rfl, trivial, ?_⟩
    simp only [Ent.toD]
    refine ⟨small_len (by rw [List.length_map]; omega), lcD_map kindD (fun k => .str k.1) (fun k => !(wthy ks k.1)) (fun x hx R S h1 h2 => ?_) ?_⟩
    · refine ⟨_, rfl, rfl, _, _, rfl, _, _, rfl, rfl, ?_⟩
      refine ⟨_, rfl, _, rfl, notinW okx (okN_name (g.kn x hx)) ?_⟩
      have hx2 : decide (x.1 ∈ xs) = wthy ks x.1 := h x.1
      rw [hx2]
      simp only [boolD_bl]
      cases hw : wthy ks x.1 with
      | true => rw [if_neg (by simp)]; exact h2 (by rw [hw]; rfl)
      | false => rw [if_pos (by simp)]; exact ⟨_, rfl, h1 (by rw [hw]; rfl)⟩
    · refine ⟨by decide, ?_, ?_⟩
      · have : okE (.lst (List.map (fun k : Kind => D.str k.1) (List.filter (fun k => !(wthy ks k.1)) ks))) = true := (okN_lst (k := 0) fun x hx => by
          obtain ⟨k, hk, rfl⟩ := List.mem_map.mp hx
          exact okN_name (g.kn k (List.mem_filter.mp hk).1)).okE (by decide)
        simp [canEq, this, (okN_lst (k := 0) (xs := []) (by simp)).okE (by decide)]
      · have e1 : deq (.lst (List.map (fun k : Kind => D.str k.1) (List.filter (fun k => !(wthy ks k.1)) ks))) (.lst []) = decide (∀ k ∈ ks, wthy ks k.1 = true) := by
          rw [Bool.eq_iff_iff, decide_eq_true_eq]
          cases hf : List.filter (fun k => !(wthy ks k.1)) ks with
          | nil =>
            refine ⟨fun _ k hk => ?_, fun _ => by simp [deq, toPy, toPys, PyData.eqv, PyData.eqvAll]⟩
            have := List.filter_eq_nil_iff.mp hf k hk
            simpa using this
          | cons a r =>
            refine ⟨fun z => by simp [deq, toPy, toPys, PyData.eqv, PyData.eqvAll] at z, fun z => ?_⟩
            have ha : a ∈ List.filter (fun k => !(wthy ks k.1)) ks := by rw [hf]; simp
            obtain ⟨h1, h2⟩ := List.mem_filter.mp ha
            rw [z a h1] at h2
            cases h2
        rw [e1]
        exact q
  · subst e
    simp only [List.length_cons] at hl hb h
    simp only [getD_0, getD_s, set_0, set_s, boolD_bl, intD_int, startD, List.map, List.length_cons, List.length_nil, List.replicate, List.cons_append, List.nil_append, defEnds, wipeD, if_true, if_false, Bool.not_true, Bool.not_false, Bool.false_eq_true]
    refine forD_ind (fun (m : List D) ρ => ∃ (pre rest : List Kind) (xs : List Str) (u2 u3 u4 u5 u6 u7 : Option Ent), ks = pre ++ rest ∧ m = rest.map kindD ∧ ρ = [some (.dat (.tup (ks.map kindD))), some (.own (xs.map D.str)), u2, u3, u4, u5, u6, u7] ∧ xs.length + 8 * rest.length + 48 * l.length ≤ 300 ∧ (∀ x ∈ xs, x ∈ kNames ks) ∧ ∀ f, decide (f ∈ xs) = pre.foldl stepK (rnds ks (ks.length - (l.length + 1))) f) (fun ρ ⟨pre, rest, xs, u2, u3, u4, u5, u6, u7, ep, em, e, hb, hm, h⟩ => ?_) (fun d m ρ R2 ⟨pre, rest, xs, u2, u3, u4, u5, u6, u7, ep, em, e, hb, hm, h⟩ hR2 => ?_) _ _ ⟨[], ks, xs, _, _, _, _, _, _, rfl, rfl, rfl, by omega, hm, h⟩
    · subst e
      have : rest = [] := by simpa using em.symm
      subst this
      rw [List.append_nil] at ep
      subst ep
      refine hR _ ⟨xs, _, _, _, _, _, _, rfl, by omega, by simpa using hb, hm, fun f => ?_⟩
      rw [h f]
      have e1 : ks.length - l.length = (ks.length - (l.length + 1)) + 1 := by omega
      rw [e1, rnds, rnd]
    · subst e
      cases rest with
      | nil => cases em
      | cons x rest =>
        rw [List.map_cons] at em
        obtain ⟨rfl, rfl⟩ := List.cons.inj em
        have hx : x ∈ ks := by rw [ep]; simp
        have g2 := g.s2 x hx
        simp only [List.length_cons] at hb
        refine ⟨_, rfl, rfl, _, _, rfl, _, _, rfl, rfl, ?_⟩
        simp only [getD_0, getD_s, set_0, set_s, boolD_bl, intD_int, startD, List.map, List.length_cons, List.length_nil, List.replicate, List.cons_append, List.nil_append, defEnds, wipeD, if_true, if_false, Bool.not_true, Bool.not_false, Bool.false_eq_true]
        have hS : (fun f => decide (f ∈ xs)) = pre.foldl stepK (rnds ks (ks.length - (l.length + 1))) := funext h
        generalize hSd : pre.foldl stepK (rnds ks (ks.length - (l.length + 1))) = S at *
        refine forD_ind (fun (n : List D) ρ => ∃ (bp br : List Bough) (xs : List Str) (u2 u5 u6 u7 : Option Ent), x.2 = bp ++ br ∧ n = br.map boughD ∧ ρ = [some (.dat (.tup (ks.map kindD))), some (.own (xs.map D.str)), u2, some (.dat (.str x.1)), some (.dat (.tup (x.2.map boughD))), u5, u6, u7] ∧ xs.length + br.length + 8 * rest.length + 48 * l.length ≤ 300 ∧ (∀ x ∈ xs, x ∈ kNames ks) ∧ ∀ f, decide (f ∈ xs) = (S f || (decide (f = x.1) && bp.any (goodB S)))) (fun ρ ⟨bp, br, xs, u2, u5, u6, u7, ep2, en, e, hb, hm, h⟩ => ?_) (fun d n ρ R3 ⟨bp, br, xs, u2, u5, u6, u7, ep2, en, e, hb, hm, h⟩ hR3 => ?_) _ _ ⟨[], x.2, xs, _, _, _, _, rfl, rfl, rfl, by omega, hm, fun f => by rw [h f]; simp⟩
        · subst e
          have : br = [] := by simpa using en.symm
          subst this
          rw [List.append_nil] at ep2
          refine hR2 _ ⟨pre ++ [x], rest, xs, _, _, _, _, _, _, by rw [ep]; simp, rfl, rfl, by simp at hb; omega, hm, fun f => ?_⟩
          rw [h f, List.foldl_append, List.foldl_cons, List.foldl_nil, hSd, ← ep2]
          rfl
        · subst e
          cases br with
          | nil => cases en
          | cons b br =>
            rw [List.map_cons] at en
            obtain ⟨rfl, rfl⟩ := List.cons.inj en
            have hbx : b ∈ x.2 := by rw [ep2]; simp
            have g3 := g.s3 x hx b hbx
            simp only [List.length_cons] at hb
            have okx : ∀ x ∈ xs, OkN 0 (.str x) := fun x hx => by obtain ⟨k, hk, rfl⟩ := List.mem_map.mp (hm x hx); exact okN_name (g.kn k hk)
            refine ⟨_, rfl, rfl, _, _, rfl, _, _, rfl, rfl, ?_⟩
            simp only [getD_0, getD_s, set_0, set_s, boolD_bl, intD_int, startD, List.map, List.length_cons, List.length_nil, List.replicate, List.cons_append, List.nil_append, defEnds, wipeD, if_true, if_false, Bool.not_true, Bool.not_false, Bool.false_eq_true]
            refine ⟨_, rfl, trivial, ?_⟩
            simp only [Ent.toD, itemsD]
            refine ⟨small_len (by rw [List.length_map]; omega), lcD_map D.str D.str (fun f => !decide (f = numS) && !decide (f ∈ xs)) (fun f hf R S h1 h2 => ?_) ?_⟩
            · simp only [getD_0, getD_s, set_0, set_s, boolD_bl, intD_int, startD, List.map, List.length_cons, List.length_nil, List.replicate, List.cons_append, List.nil_append, defEnds, wipeD, if_true, if_false, Bool.not_true, Bool.not_false, Bool.false_eq_true]
              rw [neD_str]
              simp only [boolD_bl]
              by_cases e : f = numS
              · rw [if_neg (by simp; exact e)]
                exact h2 (by rw [decide_eq_true e]; rfl)
              · rw [if_pos (by simp; exact e)]
                refine notinW okx (g.field hx hbx hf) ?_
                simp only [boolD_bl]
                by_cases e2 : f ∈ xs
                · rw [if_neg (by simp; exact e2)]
                  exact h2 (by rw [decide_eq_true e2]; simp)
                · rw [if_pos (by simp; exact e2)]
                  exact h1 (by rw [decide_eq_false e2, decide_eq_false e]; rfl)
            · have hl2 : okE (.lst (List.map D.str (List.filter (fun f => !decide (f = numS) && !decide (f ∈ xs)) b.2))) = true := (okN_lst (k := 0) fun y hy => by
                obtain ⟨f, hf, rfl⟩ := List.mem_map.mp hy
                exact g.field hx hbx (List.mem_filter.mp hf).1).okE (by decide)
              refine ⟨by decide, by simp [canEq, hl2, (okN_lst (k := 0) (xs := []) (by simp)).okE (by decide)], ?_⟩
              have e1 : deq (.lst (List.map D.str (List.filter (fun f => !decide (f = numS) && !decide (f ∈ xs)) b.2))) (.lst []) = goodB (fun f => decide (f ∈ xs)) b := by
                rw [Bool.eq_iff_iff]
                unfold goodB
                rw [List.all_eq_true]
                cases hf : List.filter (fun f => !decide (f = numS) && !decide (f ∈ xs)) b.2 with
                | nil =>
                  refine ⟨fun _ f hf' => ?_, fun _ => by simp [deq, toPy, toPys, PyData.eqv, PyData.eqvAll]⟩
                  have := List.filter_eq_nil_iff.mp hf f hf'
                  by_cases e : f = numS
                  · simp [e]
                  · simpa [e] using this
                | cons a r =>
                  refine ⟨fun z => by simp [deq, toPy, toPys, PyData.eqv, PyData.eqvAll] at z, fun z => ?_⟩
                  have ha : a ∈ List.filter (fun f => !decide (f = numS) && !decide (f ∈ xs)) b.2 := by rw [hf]; simp
                  obtain ⟨h1, h2⟩ := List.mem_filter.mp ha
                  have := z a h1
                  simp at h2 this
                  exact absurd (this.resolve_left h2.1) h2.2
              rw [e1]
              simp only [boolD_bl]
              have hS2 : (fun f => decide (f ∈ xs)) = fun f => S f || (decide (f = x.1) && bp.any (goodB S)) := funext h
              cases hc : bp.any (goodB S) with
              | false =>
                have e3 : (fun f => decide (f ∈ xs)) = S := by rw [hS2, hc]; funext f; simp
                rw [e3]
                by_cases hgd : goodB S b = true
                · rw [if_pos hgd]
                  refine ⟨_, rfl, small_lt (by rw [List.length_map]; omega), ?_⟩
                  refine hR3 _ ⟨bp ++ [b], br, xs ++ [x.1], _, _, _, _, by rw [ep2]; simp, rfl, (by rw [List.map_append]; rfl), by simp; omega, fun y hy => ?_, fun f => ?_⟩
                  · rcases List.mem_append.mp hy with hy | hy
                    · exact hm y hy
                    · obtain rfl : y = x.1 := by simpa using hy
                      exact List.mem_map.mpr ⟨x, hx, rfl⟩
                  · have this : decide (f ∈ xs) = S f := congrFun e3 f
                    rw [List.any_append, hc]
                    simp [hgd, ← this]
                · rw [if_neg hgd]
                  refine hR3 _ ⟨bp ++ [b], br, xs, _, _, _, _, by rw [ep2]; simp, rfl, rfl, by omega, hm, fun f => ?_⟩
                  rw [List.any_append, hc]
                  have this : decide (f ∈ xs) = S f := congrFun e3 f
                  simp [hgd, this]
              | true =>
                have hin : x.1 ∈ xs := by have := h x.1; rw [hc] at this; simpa using this
                have nx : ∀ f, decide (f ∈ xs) = (S f || (decide (f = x.1) && (bp ++ [b]).any (goodB S))) := fun f => by rw [h f, List.any_append, hc]; rfl
                by_cases hgd : goodB (fun f => decide (f ∈ xs)) b = true
                · rw [if_pos hgd]
                  refine ⟨_, rfl, small_lt (by rw [List.length_map]; omega), ?_⟩
                  refine hR3 _ ⟨bp ++ [b], br, xs ++ [x.1], _, _, _, _, by rw [ep2]; simp, rfl, (by rw [List.map_append]; rfl), by simp; omega, fun y hy => ?_, fun f => ?_⟩
                  · rcases List.mem_append.mp hy with hy | hy
                    · exact hm y hy
                    · obtain rfl : y = x.1 := by simpa using hy
                      exact List.mem_map.mpr ⟨x, hx, rfl⟩
                  · rw [← nx f, Bool.eq_iff_iff]
                    simp only [decide_eq_true_eq, List.mem_append, List.mem_singleton]
                    exact ⟨fun z => z.elim id fun z => z ▸ hin, .inl⟩
                · rw [if_neg hgd]
                  exact hR3 _ ⟨bp ++ [b], br, xs, _, _, _, _, by rw [ep2]; simp, rfl, rfl, by omega, hm, nx⟩
end
end KB
namespace KB
open PySem L2 Dk
open PyProof.Rows (envOfC)
def pairS (a : Nat) : List Str := (tl "abcdefghijklmnopqrstuvwxyz").map fun c => (⟨#[a]⟩ : Str) ++ (⟨#[c]⟩ : Str)
def pool : List Str := (tl "qrs").flatMap pairS
theorem pool_nd : pool.Nodup := by decide +kernel
theorem pool_ok : ∀ x ∈ pool, nameOk x = true := by decide +kernel
theorem pool_len : pool.length = 78 := by decide +kernel
theorem nodup_into {α : Type} [BEq α] [LawfulBEq α] : ∀ {l m : List α}, l.Nodup → (∀ x ∈ l, x ∈ m) → l.length ≤ m.length
  | [], m, _, _ => Nat.zero_le _
  | a :: l, m, nd, h => by
    have ha := h a (by simp)
    obtain ⟨na, nl⟩ := List.nodup_cons.mp nd
    have := nodup_into (m := m.erase a) nl fun x hx => (List.mem_erase_of_ne (fun e => na (by rw [← e]; exact hx))).mpr (h x (List.mem_cons_of_mem _ hx))
    rw [List.length_erase_of_mem ha] at this
    have hp : 0 < m.length := List.length_pos_of_mem ha
    rw [List.length_cons]
    omega
theorem filter_two {α : Type} (p : α → Bool) : ∀ l : List α, (l.filter p).length + (l.filter fun x => !p x).length = l.length
  | [] => rfl
  | a :: l => by
    have := filter_two p l
    cases h : p a
    · rw [List.filter_cons_of_neg (by simp [h]), List.filter_cons_of_pos (by simp [h])]; simp; omega
    · rw [List.filter_cons_of_pos h, List.filter_cons_of_neg (by simp [h])]; simp; omega
def spFresh : DSp where
  n := 2
  f := fun ds Q _ => ∃ ks n, ds = [kindsD ks, .int (n : Nat)] ∧ Wel ks ∧ n ≤ 4 ∧ ∀ xs : List Str, xs.length = n → xs.Nodup → (∀ x ∈ xs, nameOk x = true ∧ x ∉ kNames ks ∧ x ∉ bNames ks) → Q (.lst (xs.map D.str))
  len := fun ds Q E ⟨_, _, e, _⟩ => by rw [e]; rfl
  mono := fun ds Q Q' E E' k _ ⟨ks, n, e, g, l, q⟩ => ⟨ks, n, e, g, l, fun xs a b c => k _ (q xs a b c)⟩
def spBareH : DSp where
  n := 1
  f := fun ds Q _ => ∃ ks, ds = [kindsD ks] ∧ Wel ks ∧ ((∀ k ∈ ks, wthy ks k.1 = true) → Q .non) ∧ ∀ pre k post, ks = pre ++ k :: post → (∀ k' ∈ pre, wthy ks k'.1 = true) → wthy ks k.1 = false → Q (.str k.1)
  len := fun ds Q E ⟨_, e, _⟩ => by rw [e]; rfl
  mono := fun ds Q Q' E E' k _ ⟨ks, e, g, q, q2⟩ => ⟨ks, e, g, fun h => k _ (q h), fun a b c d e f => k _ (q2 a b c d e f)⟩
/-- what is told of the classes of refusals -/
structure TxtBr (K : PySem.W.Frag) (CB : Addr) (cx : String → Addr) (mg : Str → Option Value) : Prop where
  m_Gap : mg "Gap" = some (.ref (cx "Gap"))
  m_InUse : mg "InUse" = some (.ref (cx "InUse"))
  m_NoBack : mg "NoBack" = some (.ref (cx "NoBack"))
  m_NoBook : mg "NoBook" = some (.ref (cx "NoBook"))
  m_NoDress : mg "NoDress" = some (.ref (cx "NoDress"))
  m_NoFall : mg "NoFall" = some (.ref (cx "NoFall"))
  m_NoFilling : mg "NoFilling" = some (.ref (cx "NoFilling"))
  m_NoFun : mg "NoFun" = some (.ref (cx "NoFun"))
  m_NoIndex : mg "NoIndex" = some (.ref (cx "NoIndex"))
  m_NoName : mg "NoName" = some (.ref (cx "NoName"))
  m_NoOrnament : mg "NoOrnament" = some (.ref (cx "NoOrnament"))
  m_NoText : mg "NoText" = some (.ref (cx "NoText"))
  m_Taken : mg "Taken" = some (.ref (cx "Taken"))
  m_TooLong : mg "TooLong" = some (.ref (cx "TooLong"))
  m_Unlike : mg "Unlike" = some (.ref (cx "Unlike"))
  m_KindError : mg "KindError" = some (.ref (cx "KindError"))
  m_Bare : mg "Bare" = some (.ref (cx "Bare"))
  b_ValueError : mg "ValueError" = none
  e_b : cx "Bare" = CB
  xi_b : XiC K CB
  nf_b : PySem.W.findIn K (.ref CB) "kind" = some none
  e_bk : PySem.W.exmOne K (.ref CB) (.ref (cx "KindError")) = some true
  i_1 : PySem.W.kitAny K (.ref CB) [.ref (cx "Gap"), .ref (cx "InUse"), .ref (cx "NoBack"), .ref (cx "NoBook"), .ref (cx "NoDress"), .ref (cx "NoFall"), .ref (cx "NoFilling"), .ref (cx "NoFun"), .ref (cx "NoIndex"), .ref (cx "NoName")] = some false
  i_2 : PySem.W.kitAny K (.ref CB) [.ref (cx "NoOrnament"), .ref (cx "NoText"), .ref (cx "Taken"), .ref (cx "TooLong"), .ref (cx "Unlike")] = some false
  i_b : PySem.W.kitOne K (.ref CB) (.ref (cx "Bare")) = some true
  i_v : PySem.W.kitOne K (.ref CB) (.type "ValueError") = some true
section
variable {P : Program} {w : World} {K : PySem.W.Frag} {C CB a l : Addr} {mg : Str → Option Value} {base : Heap} {W : Wd} {k : Nat} {f : Addr} {fd : FuncData}
theorem ok_fresh (T : TxtB K C mg) (Fn : Fun K "_law_fresh" "_law_fresh" s__law_fresh f fd) : GnOk P w K mg base CX0 (k + 1) f fd ["_law_own_kinds", "_law_many"] (spD W K spFresh) := by
  refine Fn.okD sc__law_fresh rfl fun cdv A outer s H I ds Q Ed E hr h => ?_
  have hu := hr.units
  have hu2 : (A.deeper (envOfC "_law_fresh" (defScope s__law_fresh) s.heap.objs.size f cdv)).units + 66 < cLine := by have := hr.room.un; omega
  obtain ⟨ks, n, rfl, g, hn, q⟩ := h
  refine ⟨_, (dss_cons (by first | exact (ds_setLc (i := 2) (own := [("_law_kind", 3), ("_law_rows", 4)]) rfl sc__law_fresh.nd rfl rfl (sw_true rfl rfl rfl (by decide +kernel)) (di_seq (de_name 0)) (blkOk_by (own := [("_law_kind", 3), ("_law_rows", 4)]) (N := ["_law_own_kinds", "_law_many", "_law_had", "_law_kind", "_law_rows", "_law_bough", "_law_fields", "_law_found", "_law_first", "_law_letter", "_law_name"]) (sc := defScope s__law_fresh) (by decide +kernel)) (fun _ _ _ _ _ => (dg_tup (n := 2) rfl (dgs_cons (dg_name 3 sc__law_fresh.nd) (dgs_cons (dg_name 4 sc__law_fresh.nd) dgs_nil)))) (fun _ _ _ _ _ => dif_nil) (fun _ _ _ _ _ => (de_name 3))) | exact (ds_set 2 (de_lc (own := [("_law_kind", 3), ("_law_rows", 4)]) rfl sc__law_fresh.nd (di_seq (de_name 0)) (blkOk_by (own := [("_law_kind", 3), ("_law_rows", 4)]) (N := ["_law_own_kinds", "_law_many", "_law_had", "_law_kind", "_law_rows", "_law_bough", "_law_fields", "_law_found", "_law_first", "_law_letter", "_law_name"]) (sc := defScope s__law_fresh) (by decide +kernel)) (fun _ _ _ _ _ => (dg_tup (n := 2) rfl (dgs_cons (dg_name 3 sc__law_fresh.nd) (dgs_cons (dg_name 4 sc__law_fresh.nd) dgs_nil)))) (fun _ _ _ _ _ => dif_nil) (fun _ _ _ _ _ => (de_name 3))) sc__law_fresh.nd))
  (dss_cons (ds_for PassesOwn.never rfl (di_seq (de_name 0)) (dg_tup (n := 2) rfl (dgs_cons (dg_name 3 sc__law_fresh.nd) (dgs_cons (dg_name 4 sc__law_fresh.nd) dgs_nil)))
  (dss_one (ds_set 2 (de_add (de_name 2) (de_lc (own := [("_law_bough", 5), ("_law_fields", 6)]) rfl sc__law_fresh.nd (di_seq (de_name 4)) (blkOk_by (own := [("_law_bough", 5), ("_law_fields", 6)]) (N := ["_law_own_kinds", "_law_many", "_law_had", "_law_kind", "_law_rows", "_law_bough", "_law_fields", "_law_found", "_law_first", "_law_letter", "_law_name"]) (sc := defScope s__law_fresh) (by decide +kernel)) (fun _ _ _ _ _ => (dg_tup (n := 2) rfl (dgs_cons (dg_name 5 sc__law_fresh.nd) (dgs_cons (dg_name 6 sc__law_fresh.nd) dgs_nil)))) (fun _ _ _ _ _ => dif_nil) (fun _ _ _ _ _ => (de_name 5)))) sc__law_fresh.nd)))
  (dss_cons (ds_set 7 (de_lst da_nil) sc__law_fresh.nd)
  (dss_cons (ds_for PassesOwn.never rfl (di_seq de_str) (dg_name 8 sc__law_fresh.nd)
  (dss_one (ds_set 7 (de_add (de_name 7) (de_lc (own := [("_law_letter", 9)]) rfl sc__law_fresh.nd (di_seq de_str) (blkOk_by (own := [("_law_letter", 9)]) (N := ["_law_own_kinds", "_law_many", "_law_had", "_law_kind", "_law_rows", "_law_bough", "_law_fields", "_law_found", "_law_first", "_law_letter", "_law_name"]) (sc := defScope s__law_fresh) (by decide +kernel)) (fun _ _ _ _ _ => (dg_name 9 sc__law_fresh.nd)) (fun _ _ _ _ _ => dif_nil) (fun _ _ _ _ _ => (de_add (de_name 8) (de_name 9))))) sc__law_fresh.nd)))
  (dss_one (ds_ret (de_slice (de_lc (own := [("_law_name", 10)]) rfl sc__law_fresh.nd (di_seq (de_name 7)) (blkOk_by (own := [("_law_name", 10)]) (N := ["_law_own_kinds", "_law_many", "_law_had", "_law_kind", "_law_rows", "_law_bough", "_law_fields", "_law_found", "_law_first", "_law_letter", "_law_name"]) (sc := defScope s__law_fresh) (by decide +kernel)) (fun _ _ _ _ _ => (dg_name 10 sc__law_fresh.nd)) (fun _ _ _ _ _ => (dif_one (dt_notin hu2 (de_name 10) (de_name 2)))) (fun _ _ _ _ _ => (de_name 10))) do_none (do_some (de_name 1))))))))), ?_⟩
  simp only [getD_0, getD_s, set_0, set_s, boolD_bl, intD_int, startD, List.map, List.length_cons, List.length_nil, List.replicate, List.cons_append, List.nil_append, defEnds, wipeD, if_true, if_false, Bool.not_true, Bool.not_false, Bool.false_eq_true]
  have gs1 := g.s1
  have ab1 : ∀ a, (pairS a).length = 26 := fun a => by unfold pairS; rw [List.length_map]; decide +kernel
  simp only [kindsD, itemsD]
  refine ⟨small_len (by rw [List.length_map]; omega), lcD_all kindD (fun k => .str k.1) (fun x hx R S r => ?_) ?_⟩
  · exact ⟨_, rfl, rfl, _, _, rfl, _, _, rfl, rfl, _, rfl, r⟩
  have ek : (ks.map fun k : Kind => D.str k.1) = (kNames ks).map D.str := by unfold kNames; rw [List.map_map]; rfl
  rw [ek]
  refine forD_ind (fun (m : List D) ρ => ∃ (pre rest : List Kind) (u3 u4 u5 u6 : Option Ent), ks = pre ++ rest ∧ m = rest.map kindD ∧ ρ = [some (.dat (.tup (ks.map kindD))), some (.dat (.int (n : Nat))), some (.dat (.lst ((kNames ks ++ bNames pre).map D.str))), u3, u4, u5, u6, none, none, none, none]) (fun ρ ⟨pre, rest, u3, u4, u5, u6, ep, em, e⟩ => ?_) (fun d m ρ R ⟨pre, rest, u3, u4, u5, u6, ep, em, e⟩ hR => ?_) _ _ ⟨[], ks, none, none, none, none, rfl, rfl, by simp [bNames]⟩
  · subst e
    have : rest = [] := by simpa using em.symm
    subst this
    rw [List.append_nil] at ep
    subst ep
    refine ⟨by decide, ?_⟩
    have es : sgnD "qrs" = (tl "qrs").map fun c => D.str ⟨#[c]⟩ := rfl
    rw [es]
    refine forD_ind (fun (m : List D) ρ => ∃ (p r : List Nat) (u8 u9 : Option Ent), tl "qrs" = p ++ r ∧ m = r.map (fun c => D.str ⟨#[c]⟩) ∧ ρ = [some (.dat (.tup (ks.map kindD))), some (.dat (.int (n : Nat))), some (.dat (.lst ((kNames ks ++ bNames ks).map D.str))), u3, u4, u5, u6, some (.dat (.lst ((p.flatMap pairS).map D.str))), u8, u9, none]) (fun ρ ⟨p, r, u8, u9, ep, em, e⟩ => ?_) (fun d m ρ R ⟨p, r, u8, u9, ep, em, e⟩ hR => ?_) _ _ ⟨[], _, _, _, rfl, rfl, rfl⟩
    · subst e
      have : r = [] := by simpa using em.symm
      subst this
      rw [List.append_nil] at ep
      have epo : p.flatMap pairS = pool := by unfold pool; rw [ep]
      rw [epo]
      have okh : ∀ x ∈ kNames ks ++ bNames ks, OkN 0 (.str x) := fun x hx => by
        rcases List.mem_append.mp hx with hx | hx
        · obtain ⟨k, hk, rfl⟩ := List.mem_map.mp hx
          exact okN_name (g.kn k hk)
        · obtain ⟨k, hk, hx⟩ := List.mem_flatMap.mp hx
          obtain ⟨b, hb, rfl⟩ := List.mem_map.mp hx
          exact okN_name (g.bn k hk b hb)
      refine ⟨_, rfl, ?_⟩
      simp only [itemsD]
      refine ⟨small_len (by rw [List.length_map, pool_len]; decide), lcD_map D.str D.str (fun x => !decide (x ∈ kNames ks ++ bNames ks)) (fun x hx R S h1 h2 => ?_) ?_⟩
      · refine ⟨_, rfl, _, rfl, notinW okh (okN_name (pool_ok x hx)) ?_⟩
        simp only [boolD_bl]
        cases hd : decide (x ∈ kNames ks ++ bNames ks) with
        | true => rw [if_neg (by simp)]; exact h2 (by rw [hd]; rfl)
        | false => rw [if_pos (by simp)]; exact ⟨_, rfl, h1 (by rw [hd]; rfl)⟩
      · refine ⟨_, rfl, _, rfl, ?_⟩
        have bl := g.blen
        have hl : 4 ≤ (pool.filter fun x => !decide (x ∈ kNames ks ++ bNames ks)).length := by
          have h1 := filter_two (fun x => decide (x ∈ kNames ks ++ bNames ks)) pool
          have h2 := nodup_into (l := pool.filter fun x => decide (x ∈ kNames ks ++ bNames ks)) (m := kNames ks ++ bNames ks) (pool_nd.filter _) fun x hx => by simpa using (List.mem_filter.mp hx).2
          rw [List.length_append] at h2
          have h3 : (kNames ks).length ≤ 6 := by unfold kNames; rw [List.length_map]; exact gs1
          have h4 := pool_len
          omega
        show Q _
        rw [cutD_to, ← List.map_take]
        refine q _ (by rw [List.length_take]; omega) ((pool_nd.filter _).sublist (List.take_sublist _ _)) fun x hx => ?_
        obtain ⟨h1, h2⟩ := List.mem_filter.mp (List.mem_of_mem_take hx)
        refine ⟨pool_ok x h1, ?_, ?_⟩
        · intro z; simp [z] at h2
        · intro z; simp [z] at h2
    · subst e
      cases r with
      | nil => cases em
      | cons c r =>
        rw [List.map_cons] at em
        obtain ⟨rfl, rfl⟩ := List.cons.inj em
        have hp : p.length < 3 := by
          have := congrArg List.length ep
          rw [List.length_append, List.length_cons] at this
          have e3 : (tl "qrs").length = 3 := by decide +kernel
          omega
        have es2 : sgnD "abcdefghijklmnopqrstuvwxyz" = (tl "abcdefghijklmnopqrstuvwxyz").map fun c => D.str ⟨#[c]⟩ := rfl
        refine ⟨_, rfl, ?_⟩
        rw [es2]
        refine ⟨by rw [List.length_map]; exact small_len (by decide +kernel), lcD_all (fun c : Nat => D.str ⟨#[c]⟩) (fun b : Nat => D.str ((⟨#[c]⟩ : Str) ++ (⟨#[b]⟩ : Str))) (fun b hb R S r => ?_) ?_⟩
        · refine ⟨_, rfl, _, rfl, ?_⟩
          refine ⟨?_, r⟩
          exact small_len (by show 1 + 1 ≤ 1000; decide)
        · have e4 : ((tl "abcdefghijklmnopqrstuvwxyz").map fun b : Nat => D.str ((⟨#[c]⟩ : Str) ++ (⟨#[b]⟩ : Str))) = (pairS c).map D.str := by unfold pairS; rw [List.map_map]; rfl
          rw [e4]
          have lp : ∀ p : List Nat, (p.flatMap pairS).length = 26 * p.length := fun p => by
            induction p with
            | nil => rfl
            | cons a p ih => rw [List.flatMap_cons, List.length_append, ih, ab1, List.length_cons]; omega
          refine ⟨small_len (by rw [List.length_map, List.length_map, lp, ab1]; omega), ?_⟩
          have e5 : (p.flatMap pairS).map D.str ++ (pairS c).map D.str = ((p ++ [c]).flatMap pairS).map D.str := by simp [List.flatMap_append]
          rw [e5]
          exact hR _ ⟨p ++ [c], r, _, _, by rw [ep]; simp, rfl, rfl⟩
  · subst e
    cases rest with
    | nil => cases em
    | cons x rest =>
      rw [List.map_cons] at em
      obtain ⟨rfl, rfl⟩ := List.cons.inj em
      have hx : x ∈ ks := by rw [ep]; simp
      have g2 := g.s2 x hx
      have hp : (bNames pre).length ≤ 48 := by
        have := g.blen
        rw [ep, bNames_app, List.length_append] at this
        omega
      refine ⟨_, rfl, rfl, _, _, rfl, _, _, rfl, rfl, ?_⟩
      refine ⟨_, rfl, _, rfl, ?_⟩
      simp only [itemsD]
      refine ⟨small_len (by rw [List.length_map]; omega), lcD_all boughD (fun b => .str b.1) (fun b hb R S r => ?_) ?_⟩
      · exact ⟨_, rfl, rfl, _, _, rfl, _, _, rfl, rfl, _, rfl, r⟩
      refine ⟨small_len (by have h3 : (kNames ks).length ≤ 6 := (by unfold kNames; rw [List.length_map]; exact gs1); simp only [List.length_map, List.length_append]; omega), ?_⟩
      have en : (kNames ks ++ bNames pre).map D.str ++ (x.2.map fun b => D.str b.1) = (kNames ks ++ bNames (pre ++ [x])).map D.str := by simp [bNames, List.map_map]
      rw [en]
      exact hR _ ⟨pre ++ [x], rest, _, _, _, _, by rw [ep]; simp, rfl, rfl⟩
theorem ok_bareH (T : TxtB K C mg) {cx : String → Addr} (TX : TxtBr K CB cx mg) (Fn : Fun K "_law_bare_heard" "_law_bare_heard" s__law_bare_heard f fd) (CX_Book : CalC P w K mg base (L2.CX P w) W k "Book" C ["self", "kinds"] (spBookX C CB)) : GnOk P w K mg base CX0 (k + 4) f fd ["_law_own_kinds"] (spD W K spBareH) := by
  refine Fn.okD sc__law_bare_heard rfl fun cdv A outer s H I ds Q Ed E hr h => ?_
  have hu := hr.units
  obtain ⟨ks, rfl, g, q, q2⟩ := h
  refine ⟨_, (dss_cons (ds_set 1 de_non sc__law_bare_heard.nd)
  (dss_cons (ds_try rfl rfl sc__law_bare_heard.nd takes_none5 letsS_none (fun B' I' W' pn xe u tk le =>
  (dss_one (ds_expr (de_makeS CX_Book (hr.mono (by omega)) tk le (da_cons (de_name 0) da_nil)))))
  (.as 2 ⟨rfl, by decide, .inl TX.m_KindError⟩ rfl rfl (fun B' I' xa oe cls d pn x hz hf er =>
  (dss_cons (ds_set 3 (de_isXT hz hf er T.b_isinstance (de_name 2) (pcl_cons (cn_o TX.m_Gap) (.own _) (pcl_cons (cn_o TX.m_InUse) (.own _) (pcl_cons (cn_o TX.m_NoBack) (.own _) (pcl_cons (cn_o TX.m_NoBook) (.own _) (pcl_cons (cn_o TX.m_NoDress) (.own _) (pcl_cons (cn_o TX.m_NoFall) (.own _) (pcl_cons (cn_o TX.m_NoFilling) (.own _) (pcl_cons (cn_o TX.m_NoFun) (.own _) (pcl_cons (cn_o TX.m_NoIndex) (.own _) (pcl_cons (cn_o TX.m_NoName) (.own _) pcl_nil))))))))))) sc__law_bare_heard.nd)
  (dss_cons (ds_set 3 (de_or (de_name 3) (de_one (de_isXT hz hf er T.b_isinstance (de_name 2) (pcl_cons (cn_o TX.m_NoOrnament) (.own _) (pcl_cons (cn_o TX.m_NoText) (.own _) (pcl_cons (cn_o TX.m_Taken) (.own _) (pcl_cons (cn_o TX.m_TooLong) (.own _) (pcl_cons (cn_o TX.m_Unlike) (.own _) pcl_nil)))))))) sc__law_bare_heard.nd)
  (dss_one (ds_if (dt_wh (dw_and (dt_val (de_isX hz hf er T.b_isinstance (de_name 2) (cn_o TX.m_Bare) (.own _))) (dw_and (dt_val (de_isX hz hf er T.b_isinstance (de_name 2) (cn_b (n := "ValueError") TX.b_ValueError) (.ty _))) (dw_and1 (dt_not (dt_val (de_name 3)))))))
  (dss_one (ds_set 1 (de_xf hz hf er (de_name 2)) sc__law_bare_heard.nd))
  dss_nil)))))
  .nil))
  (dss_one (ds_ret (de_name 1))))), ?_⟩
  simp only [getD_0, getD_s, set_0, set_s, boolD_bl, intD_int, startD, List.map, List.length_cons, List.length_nil, List.replicate, List.cons_append, List.nil_append, defEnds, wipeD, if_true, if_false, Bool.not_true, Bool.not_false, Bool.false_eq_true]
  refine ⟨_, _, DEnds.le.rfl', fun _ _ h => h, ?_⟩
  refine ⟨ks, rfl, g, fun h => ?_, fun pre k post e h1 h2 => ?_⟩
  · exact ⟨_, rfl, q h⟩
  · have hq := q2 pre k post e h1 h2
    refine ⟨true, TX.e_bk, fun _ xa => ?_, fun h => (nomatch h)⟩
    refine ⟨CB, false, rfl, TX.xi_b, TX.i_1, _, rfl, rfl, ?_⟩
    refine ⟨_, rfl, ?_⟩
    show boolD (.bl false) _
    rw [boolD_bl, if_neg (by decide)]
    refine ⟨CB, false, rfl, TX.xi_b, TX.i_2, _, rfl, rfl, ?_⟩
    refine ⟨CB, true, rfl, TX.xi_b, TX.i_b, _, rfl, rfl, ?_⟩
    rw [if_pos rfl]
    refine ⟨CB, true, rfl, TX.xi_b, TX.i_v, _, rfl, rfl, ?_⟩
    rw [if_pos rfl]
    refine ⟨_, rfl, ?_⟩
    show boolD (.bl false) _
    rw [boolD_bl, if_pos (by decide)]
    exact ⟨CB, rfl, TX.xi_b.xf, TX.nf_b, _, rfl, rfl, _, rfl, _, rfl, hq⟩
end
end KB
namespace K07
open PySem L2 Dk
def digsF : Nat → Nat → List Nat
  | 0, _ => []
  | f + 1, n => if n < 26 then [n] else digsF f (n / 26) ++ [n % 26]
def val : List Nat → Nat := List.foldl (fun a d => 26 * a + d) 0
theorem val_snoc (l : List Nat) (d : Nat) : val (l ++ [d]) = 26 * val l + d := by simp [val]
theorem digs_val : ∀ (f n : Nat), n < 26 ^ f → val (digsF f n) = n
  | 0, n, h => by
    have : n = 0 := by simp at h; exact h
    subst this
    rfl
  | f + 1, n, h => by
    unfold digsF
    split
    · simp [val]
    · rw [val_snoc, digs_val f (n / 26) (by rw [Nat.pow_succ] at h; omega)]
      omega
theorem digs_len_le : ∀ (f n : Nat), (digsF f n).length ≤ f
  | 0, _ => by simp [digsF]
  | f + 1, n => by
    unfold digsF
    split
    · simp
    · have := digs_len_le f (n / 26)
      simp
      exact this
/-- numbers below 26 ^ 15 -/
def digs (n : Nat) : List Nat := digsF 15 n
def letS (n : Nat) : Str := ⟨((digs n).map (97 + ·)).toArray⟩
theorem letS_list (n : Nat) : (letS n).cps.toList = (digs n).map (97 + ·) := rfl
theorem letS_len (n : Nat) : (letS n).length = (digs n).length := by simp [letS, Str.length]
theorem digs_inj {n m : Nat} (hn : n < 26 ^ 15) (hm : m < 26 ^ 15) (h : digs n = digs m) : n = m := by
  rw [← digs_val 15 n hn, ← digs_val 15 m hm]
  exact congrArg val h
theorem map97_inj {l m : List Nat} (h : l.map (97 + ·) = m.map (97 + ·)) : l = m := by
  induction l generalizing m with
  | nil => cases m with | nil => rfl | cons _ _ => simp at h
  | cons a l ih =>
    cases m with
    | nil => simp at h
    | cons b m =>
      simp only [List.map_cons, List.cons.injEq] at h
      rw [ih h.2, show a = b by omega]
theorem letS_inj {n m : Nat} (hn : n < 26 ^ 15) (hm : m < 26 ^ 15) (h : letS n = letS m) : n = m := by
  refine digs_inj hn hm (map97_inj ?_)
  rw [← letS_list, ← letS_list, h]
theorem fuel : ∀ (f m : Nat), m < 26 ^ (f + 1) → digsF (f + 2) m = digsF (f + 1) m
  | 0, m, h => by
    have h : m < 26 := by simpa using h
    simp [digsF, h]
  | f + 1, m, h => by
    have e := fuel f (m / 26) (by rw [Nat.pow_succ] at h; omega)
    show (if m < 26 then [m] else digsF (f + 2) (m / 26) ++ [m % 26]) = if m < 26 then [m] else digsF (f + 1) (m / 26) ++ [m % 26]
    rw [e]
/-- one step of the spelling -/
theorem letS_step {n : Nat} (h : 26 ≤ n) (hn : n < 26 ^ 15) : letS n = letS (n / 26) ++ ⟨#[97 + n % 26]⟩ := by
  have e : digs n = digs (n / 26) ++ [n % 26] := by
    show digsF 15 n = digsF 15 (n / 26) ++ [n % 26]
    rw [fuel 13 (n / 26) (by omega)]
    conv => lhs; unfold digsF
    rw [if_neg (by omega)]
  show (⟨((digs n).map (97 + ·)).toArray⟩ : Str) = ⟨((digs (n / 26)).map (97 + ·)).toArray ++ #[97 + n % 26]⟩
  rw [e]
  simp
theorem letS_one {n : Nat} (h : n < 26) : letS n = ⟨#[97 + n]⟩ := by simp [letS, digs, digsF, h]
end K07
namespace KC
open PySem L2 Dk K07
open KB (top)
open PyProof.Rows (envOfC)
abbrev s__law_letters : Stmt := top 38
theorem sc__law_letters : FnScope ["_law_number", "_law_letters_here", "_law_found"] ["_law_number"] (defScope s__law_letters) := ⟨rfl, rfl, rfl, by decide +kernel, rfl, by decide +kernel, by decide +kernel⟩
theorem bd__law_letters (kV doc pm : Value) (an : Option Addr) (cdv ct : Value) (us : List Value) (hl : us.length = 1) : bindArgs (PySem.W.fnOf "_law_letters" "_law_letters" (defArgs s__law_letters) (defBody s__law_letters) (defScope s__law_letters) .none kV doc pm an cdv ct) ⟨us, []⟩ = pure ((["_law_number"] : List Str).zip us) := by
  match us, hl with
  | [v0], _ => rfl
def sgn (n : Nat) : Str := ⟨#[97 + n]⟩
theorem ix_abc {i : Int} {Q : D → Prop} (h0 : 0 ≤ i) (h1 : i < 26) (q : Q (.str (sgn i.toNat))) : ixD (.str "abcdefghijklmnopqrstuvwxyz") (.int i) Q := by
  refine ⟨by decide, 97 + i.toNat, ?_, q⟩
  obtain ⟨n, rfl⟩ := Int.eq_ofNat_of_zero_le h0
  have h : n < 26 := by omega
  have all : ∀ n, n < 26 → atI ("abcdefghijklmnopqrstuvwxyz" : Str).cps.toList ((n : Nat) : Int) = some (97 + n) := by decide +kernel
  simpa using all n h
theorem app_len (a b : Str) : (a ++ b).length = a.length + b.length := strLen_append a b
theorem sgn_len (n : Nat) : (sgn n).length = 1 := rfl
theorem spell_len {N m : Nat} {r : Str} (h : letS N = letS m ++ r) : r.length ≤ 15 := by
  have h1 := congrArg Str.length h
  have h2 := digs_len_le 15 N
  rw [app_len, letS_len] at h1
  unfold digs at h1
  omega
theorem spell_step {N m : Nat} {r : Str} (h : 26 ≤ m) (hm : m < 26 ^ 15) (e : letS N = letS m ++ r) : letS N = letS (m / 26) ++ (sgn (m % 26) ++ r) ∧ 1 + (1 + r.length) ≤ sizeLine := by
  refine ⟨by rw [e, letS_step h hm]; exact PySem.Str.append_assoc _ _ _, ?_⟩
  have h1 := spell_len e
  have : (17 : Nat) ≤ sizeLine := by decide
  omega
def spLet : DSp where
  n := 1
  f := fun ds Q _ => ∃ n : Nat, ds = [.int n] ∧ n < 26 ^ 15 ∧ Q (.str (letS n))
  len := fun ds Q E ⟨m, e, _⟩ => by rw [e]; rfl
  mono := fun ds Q Q' E E' k _ ⟨m, e, h, q⟩ => ⟨m, e, h, k _ q⟩
section
variable {P : Program} {w : World} {K : PySem.W.Frag} {mg : Str → Option Value} {base : Heap} {W : Wd}
theorem ok_letters {f : Addr} {fd : FuncData} {k : Nat} (Fn : Fun K "_law_letters" "_law_letters" s__law_letters f fd) : GnOk P w K mg base CX0 (k + 1) f fd ["_law_number"] (spD W K spLet) := by
  refine Fn.okD sc__law_letters rfl fun cdv A outer s H I ds Q Ed E hr h => ?_
  have hu := hr.units
  obtain ⟨n, rfl, n1, q⟩ := h
  refine ⟨_, (dss_cons (ds_set 1 de_str sc__law_letters.nd)
  (dss_cons (ds_set 2 (de_at hu (de_name 1) (de_mod (de_name 0) de_int)) sc__law_letters.nd)
  (dss_cons (ds_while PassesOwn.never (dt_c .gt (de_name 0) de_int)
  (dss_cons (ds_set 0 (de_fdiv (de_name 0) de_int) sc__law_letters.nd)
  (dss_one (ds_set 2 (de_add (de_at hu (de_name 1) (de_mod (de_name 0) de_int)) (de_name 2)) sc__law_letters.nd))))
  (dss_one (ds_ret (de_name 2)))))), ?_⟩
  simp only [getD_0, getD_s, set_0, set_s, boolD_bl, intD_int, startD, List.map, List.length_cons, List.length_nil, List.replicate, List.cons_append, List.nil_append, defEnds]
  refine ⟨by decide, ix_abc (by omega) (by omega) ⟨fun m ρ => ∃ r : Str, ρ = [some (.dat (.int (m : Nat))), some (.dat (.str "abcdefghijklmnopqrstuvwxyz")), some (.dat (.str (sgn (m % 26) ++ r)))] ∧ m < 26 ^ 15 ∧ letS n = letS m ++ r, ⟨n, "", ?_, n1, ?_⟩, ?_⟩⟩
  · rw [show ((n : Int) % 26).toNat = n % 26 by omega]; simp [sgn]; rfl
  · exact (PySem.Str.append_empty _).symm
  rintro m ρ ⟨r, rfl, hm, e⟩
  simp only [getD_0, getD_s, set_0, set_s, boolD_bl, intD_int, startD, List.map, List.length_cons, List.length_nil, List.replicate, List.cons_append, List.nil_append, defEnds, gtD]
  by_cases hc : 26 ≤ m
  · rw [if_pos (by simp; omega)]
    obtain ⟨e1, r1⟩ := spell_step hc hm e
    refine ⟨⟨by decide, by decide⟩, by decide, ix_abc (by omega) (by omega) ⟨?_, m / 26, by omega, sgn (m % 26) ++ r, ?_, by omega, e1⟩⟩
    · rw [app_len, sgn_len, sgn_len]; exact r1
    · rw [show ((m : Int) / 26 % 26).toNat = m / 26 % 26 by omega]; rfl
  · rw [if_neg (by simp; omega)]
    rw [letS_one (by omega : m < 26)] at e
    rw [show sgn (m % 26) ++ r = letS n by rw [e, sgn, Nat.mod_eq_of_lt (by omega)]]
    exact q
end
theorem let_ok : ∀ n, n < 1100 → KB.nameOk (letS n) = true := by decide +kernel
def n54 (a s : Nat) : List Str := (List.range 54).map fun k => letS (a + s * k)
theorem n54_nd {a s : Nat} (hs : 1 ≤ s) (h : a + s * 54 < 26 ^ 15) : (n54 a s).Nodup := KB.nodup_map_of List.nodup_range fun i hi j hj e => by
  have hi := List.mem_range.mp hi
  have hj := List.mem_range.mp hj
  have hi' : a + s * i < 26 ^ 15 := Nat.lt_of_le_of_lt (Nat.add_le_add_left (Nat.mul_le_mul_left s (by omega)) a) h
  have hj' : a + s * j < 26 ^ 15 := Nat.lt_of_le_of_lt (Nat.add_le_add_left (Nat.mul_le_mul_left s (by omega)) a) h
  have := letS_inj hi' hj' e
  exact Nat.eq_of_mul_eq_mul_left (by omega : 0 < s) (by omega)
theorem n54_ok {a s : Nat} (h : a < 500) (hs : s ≤ 11) : ∀ x ∈ n54 a s, KB.nameOk x = true := fun x hx => by
  obtain ⟨k, hk, rfl⟩ := List.mem_map.mp hx
  have hk := List.mem_range.mp hk
  have : s * k ≤ 11 * 53 := Nat.mul_le_mul hs (by omega)
  exact let_ok _ (by omega)
theorem n54_len (a s : Nat) : (n54 a s).length = 54 := by simp [n54]
end KC
namespace KC
open PySem L2 Dk K07
open KB (top spPick spKinds TxtB Good Made Rows kindsD kindD boughD numS Bough small_len small_lt log_small wit rng_drop cutD_to cutD_from cutD_len cutD_mem last_of)
open PyProof.Rows (envOfC)
abbrev s__law_great_kinds : Stmt := top 40
theorem sc__law_great_kinds : FnScope ["_law_deck_here", "_law_first", "_law_step", "_law_names_here", "_law_k", "_law_at", "_law_found", "_law_rows", "_law_turn", "_law_fields", "_law_j"] ["_law_deck_here"] (defScope s__law_great_kinds) := ⟨rfl, rfl, rfl, by decide +kernel, rfl, by decide +kernel, by decide +kernel⟩
theorem bd__law_great_kinds (kV doc pm : Value) (an : Option Addr) (cdv ct : Value) (us : List Value) (hl : us.length = 1) : bindArgs (PySem.W.fnOf "_law_great_kinds" "_law_great_kinds" (defArgs s__law_great_kinds) (defBody s__law_great_kinds) (defScope s__law_great_kinds) .none kV doc pm an cdv ct) ⟨us, []⟩ = pure ((["_law_deck_here"] : List Str).zip us) := by
  match us, hl with
  | [v0], _ => rfl
theorem Made.rot {names n12 : List Str} {found : List KB.Kind} {left : List Str} (m : Made names n12 found left) (rot : List Bough → List Bough) (hr : ∀ l, (rot l).Perm l) : Made names n12 (found.map fun k : KB.Kind => (k.1, rot k.2)) left where
  nm := by
    have := m.nm
    unfold KB.kNames at this ⊢
    rw [List.map_map, List.length_map]
    exact this
  le := by rw [List.length_map]; exact m.le
  pm := by
    refine List.Perm.trans (List.Perm.append_right _ ?_) m.pm
    have : ∀ l : List KB.Kind, (KB.bNames (l.map fun k : KB.Kind => (k.1, rot k.2))).Perm (KB.bNames l) := fun l => by
      induction l with
      | nil => exact List.Perm.refl _
      | cons k l ih =>
        show ((rot k.2).map (·.1) ++ KB.bNames (l.map fun k : KB.Kind => (k.1, rot k.2))).Perm (k.2.map (·.1) ++ KB.bNames l)
        exact ((hr k.2).map _).append ih
    exact this found
  ln := fun k hk => by
    obtain ⟨k', hk', rfl⟩ := List.mem_map.mp hk
    show (rot k'.2).length ≤ 8
    rw [(hr k'.2).length_eq]
    exact m.ln k' hk'
  fld := fun k hk b hb => by
    obtain ⟨k', hk', rfl⟩ := List.mem_map.mp hk
    exact m.fld k' hk' b ((hr k'.2).mem_iff.mp hb)
  wf := fun i k hi => by
    rw [List.getElem?_map] at hi
    cases h : found[i]? with
    | none => rw [h] at hi; cases hi
    | some k' =>
      rw [h] at hi
      cases hi
      obtain ⟨b, hb, h2⟩ := m.wf i k' h
      exact ⟨b, (hr k'.2).mem_iff.mpr hb, h2⟩
theorem range_getD {α : Type} (l : List α) (d : α) : (List.range l.length).map (fun i => l.getD i d) = l := by
  apply List.ext_getElem
  · simp
  · intro i h1 h2
    simp [h2]
def rowsD (k : KB.Kind) : D := .lst (k.2.map boughD)
section
variable {P : Program} {w : World} {K : PySem.W.Frag} {C a l : Addr} {mg : Str → Option Value} {base : Heap} {k : Nat} {f : Addr} {fd : FuncData}
theorem ok_great (T : TxtB K C mg) (Fn : Fun K "_law_great_kinds" "_law_great_kinds" s__law_great_kinds f fd) (C__law_draw : Cal P w K mg base CX0 (DeckW a l) k "_law_draw" ["_law_deck_here", "_law_most"] (spDraw a))
    (C__law_pick : Cal P w K mg base CX0 (DeckW a l) k "_law_pick" ["_law_deck_here", "_law_some"] (spPick a)) (C__law_letters : Cal P w K mg base CX0 (DeckW a l) k "_law_letters" ["_law_number"] spLet) : GnOk P w K mg base CX0 (k + 1) f fd ["_law_deck_here"] (spD (DeckW a l) K (spKinds a)) := by
  refine Fn.okD sc__law_great_kinds rfl fun cdv A outer s H I ds Q Ed E hr h => ?_
  have hu := hr.units
  obtain ⟨rfl, q⟩ := h
  refine ⟨_, (dss_cons (by first | exact (ds_par (i := 1) (j := 2) rfl sc__law_great_kinds.nd rfl rfl (by decide) rfl rfl (da_cons (de_fn C__law_draw (hr.mono (by omega)) pass0 lets0 (da_cons (de_name 0) (da_cons de_int da_nil))) (da_cons (de_at hu (de_lst (da_cons de_int (da_cons de_int (da_cons de_int (da_cons de_int da_nil))))) (de_fn C__law_draw (hr.mono (by omega)) pass0 lets0 (da_cons (de_name 0) (da_cons de_int da_nil)))) da_nil))) | exact (ds_asg (de_tup (da_cons (de_fn C__law_draw (hr.mono (by omega)) pass0 lets0 (da_cons (de_name 0) (da_cons de_int da_nil))) (da_cons (de_at hu (de_lst (da_cons de_int (da_cons de_int (da_cons de_int (da_cons de_int da_nil))))) (de_fn C__law_draw (hr.mono (by omega)) pass0 lets0 (da_cons (de_name 0) (da_cons de_int da_nil)))) da_nil))) (dg_tup (n := 2) rfl (dgs_cons (dg_name 1 sc__law_great_kinds.nd) (dgs_cons (dg_name 2 sc__law_great_kinds.nd) dgs_nil)))))
  (dss_cons (by first | exact (ds_setLc (i := 3) (own := [("_law_k", 4)]) rfl sc__law_great_kinds.nd rfl rfl (sw_true rfl rfl rfl (by decide +kernel)) (di_range1 T.b_range (da_cons de_int da_nil)) (blkOk_by (own := [("_law_k", 4)]) (N := ["_law_deck_here", "_law_first", "_law_step", "_law_names_here", "_law_k", "_law_at", "_law_found", "_law_rows", "_law_turn", "_law_fields", "_law_j"]) (sc := defScope s__law_great_kinds) (by decide +kernel)) (fun _ _ _ _ _ => (dg_name 4 sc__law_great_kinds.nd)) (fun _ _ _ _ _ => dif_nil) (fun _ _ _ _ _ => (de_fn C__law_letters (hr.mono (by omega)) pass0 lets0 (da_cons (de_add (de_name 1) (de_mul (de_name 2) (de_name 4))) da_nil)))) | exact (ds_set 3 (de_lc (own := [("_law_k", 4)]) rfl sc__law_great_kinds.nd (di_range1 T.b_range (da_cons de_int da_nil)) (blkOk_by (own := [("_law_k", 4)]) (N := ["_law_deck_here", "_law_first", "_law_step", "_law_names_here", "_law_k", "_law_at", "_law_found", "_law_rows", "_law_turn", "_law_fields", "_law_j"]) (sc := defScope s__law_great_kinds) (by decide +kernel)) (fun _ _ _ _ _ => (dg_name 4 sc__law_great_kinds.nd)) (fun _ _ _ _ _ => dif_nil) (fun _ _ _ _ _ => (de_fn C__law_letters (hr.mono (by omega)) pass0 lets0 (da_cons (de_add (de_name 1) (de_mul (de_name 2) (de_name 4))) da_nil)))) sc__law_great_kinds.nd))
  (dss_cons (ds_set 5 (de_fn C__law_draw (hr.mono (by omega)) pass0 lets0 (da_cons (de_name 0) (da_cons de_int da_nil))) sc__law_great_kinds.nd)
  (dss_cons (ds_setO 3 (deo_add (de_slice (de_name 3) (do_some (de_name 5)) do_none) (de_slice (de_name 3) do_none (do_some (de_name 5)))) sc__law_great_kinds.nd)
  (dss_cons (ds_own 6 da_nil sc__law_great_kinds.nd)
  (dss_cons (ds_for PassesOwn.never rfl (di_range1 T.b_range (da_cons de_int da_nil)) (dg_name 4 sc__law_great_kinds.nd)
  (dss_cons (ds_ownS 7 (das_cons (des_tup (das_cons (des_pop 3) (das_cons (des_of (de_mulT (de_tup (da_cons de_str da_nil)) (de_fn C__law_draw (hr.mono (by omega)) pass0 lets0 (da_cons (de_name 0) (da_cons de_int da_nil))))) das_nil))) das_nil) sc__law_great_kinds.nd)
  (dss_cons (ds_for PassesOwn.never rfl (di_range1 T.b_range (da_cons de_int da_nil)) (dg_name 8 sc__law_great_kinds.nd)
  (dss_cons (by first | exact (ds_setLc (i := 9) (own := [("_law_j", 10)]) rfl sc__law_great_kinds.nd rfl rfl (sw_true rfl rfl rfl (by decide +kernel)) (di_range1 T.b_range (da_cons (de_at hu (de_lst (da_cons (de_fn C__law_draw (hr.mono (by omega)) pass0 lets0 (da_cons (de_name 0) (da_cons de_int da_nil))) (da_cons de_int da_nil))) (de_fn C__law_draw (hr.mono (by omega)) pass0 lets0 (da_cons (de_name 0) (da_cons de_int da_nil)))) da_nil)) (blkOk_by (own := [("_law_j", 10)]) (N := ["_law_deck_here", "_law_first", "_law_step", "_law_names_here", "_law_k", "_law_at", "_law_found", "_law_rows", "_law_turn", "_law_fields", "_law_j"]) (sc := defScope s__law_great_kinds) (by decide +kernel)) (fun _ _ _ _ _ => (dg_name 10 sc__law_great_kinds.nd)) (fun _ _ _ _ _ => dif_nil) (fun _ _ _ _ _ => (de_lend 3 (de_fn C__law_pick (hr.mono (by omega)) pass0 lets0 (da_cons (de_name 0) (da_cons (de_add (de_lst (da_cons de_str da_nil)) (de_slice (de_name 3) do_none (do_some de_int))) da_nil)))))) | exact (ds_set 9 (de_lc (own := [("_law_j", 10)]) rfl sc__law_great_kinds.nd (di_range1 T.b_range (da_cons (de_at hu (de_lst (da_cons (de_fn C__law_draw (hr.mono (by omega)) pass0 lets0 (da_cons (de_name 0) (da_cons de_int da_nil))) (da_cons de_int da_nil))) (de_fn C__law_draw (hr.mono (by omega)) pass0 lets0 (da_cons (de_name 0) (da_cons de_int da_nil)))) da_nil)) (blkOk_by (own := [("_law_j", 10)]) (N := ["_law_deck_here", "_law_first", "_law_step", "_law_names_here", "_law_k", "_law_at", "_law_found", "_law_rows", "_law_turn", "_law_fields", "_law_j"]) (sc := defScope s__law_great_kinds) (by decide +kernel)) (fun _ _ _ _ _ => (dg_name 10 sc__law_great_kinds.nd)) (fun _ _ _ _ _ => dif_nil) (fun _ _ _ _ _ => (de_lend 3 (de_fn C__law_pick (hr.mono (by omega)) pass0 lets0 (da_cons (de_name 0) (da_cons (de_add (de_lst (da_cons de_str da_nil)) (de_slice (de_name 3) do_none (do_some de_int))) da_nil)))))) sc__law_great_kinds.nd))
  (dss_one (ds_appendS 7 (des_tup (das_cons (des_pop 3) (das_cons (des_of (de_tuple T.b_tuple (da_cons (de_name 9) da_nil))) das_nil)))))))
  (dss_freeze 7
  (dss_one (ds_append 6 (de_name 7)))))))
  (dss_freeze 6
  (dss_freeze 3
  (dss_cons (ds_set 5 (de_fn C__law_draw (hr.mono (by omega)) pass0 lets0 (da_cons (de_name 0) (da_cons de_int da_nil))) sc__law_great_kinds.nd)
  (dss_one (ds_ret (de_tuple T.b_tuple (da_cons (de_lc (own := [("_law_k", 4)]) rfl sc__law_great_kinds.nd (di_range1 T.b_range (da_cons de_int da_nil)) (blkOk_by (own := [("_law_k", 4)]) (N := ["_law_deck_here", "_law_first", "_law_step", "_law_names_here", "_law_k", "_law_at", "_law_found", "_law_rows", "_law_turn", "_law_fields", "_law_j"]) (sc := defScope s__law_great_kinds) (by decide +kernel)) (fun _ _ _ _ _ => (dg_name 4 sc__law_great_kinds.nd)) (fun _ _ _ _ _ => dif_nil) (fun _ _ _ _ _ => (de_tup (da_cons (de_at hu (de_name 3) (de_name 4)) (da_cons (de_tuple T.b_tuple (da_cons (de_add (de_slice (de_at hu (de_name 6) (de_name 4)) (do_some (de_name 5)) do_none) (de_slice (de_at hu (de_name 6) (de_name 4)) do_none (do_some (de_name 5)))) da_nil)) da_nil))))) da_nil))))))))))))), ?_⟩
  simp only [getD_0, getD_s, set_0, set_s, boolD_bl, intD_int, startD, List.map, List.length_cons, List.length_nil, List.replicate, List.cons_append, List.nil_append, defEnds, wipeD, if_true, if_false, Bool.not_true, Bool.not_false, Bool.false_eq_true]
  refine ⟨500, rfl, by decide, by decide, fun fv f0 f1 => ⟨by decide, 4, rfl, by decide, by decide, fun sv s0 s1 => ?_⟩⟩
  obtain ⟨fn, rfl⟩ := Int.eq_ofNat_of_zero_le f0
  have pick : ∃ st : Nat, atI [D.int 1, D.int 3, D.int 7, D.int 11] sv = some (.int (st : Int)) ∧ 1 ≤ st ∧ st ≤ 11 := by
    have h : sv = 0 ∨ sv = 1 ∨ sv = 2 ∨ sv = 3 := by omega
    rcases h with rfl | rfl | rfl | rfl
    · exact ⟨1, rfl, by decide, by decide⟩
    · exact ⟨3, rfl, by decide, by decide⟩
    · exact ⟨7, rfl, by decide, by decide⟩
    · exact ⟨11, rfl, by decide, by decide⟩
  obtain ⟨st, hst, st1, st11⟩ := pick
  refine ⟨_, hst, by decide, _, rfl, rfl, _, _, rfl, _, _, rfl, rfl, 54, rfl, by decide, by decide, by decide, ?_⟩
  refine lcD_all (α := Nat) (l := List.range 54) (fun i => D.int (0 + (i : Nat))) (fun i => D.str (letS (fn + st * i))) (fun i hi R S hR => ?_) ?_
  · have hi := List.mem_range.mp hi
    have hm : st * i ≤ 11 * 53 := Nat.mul_le_mul st11 (by omega)
    refine ⟨_, rfl, _, rfl, _, rfl, .inl ⟨by omega, by omega⟩, fn + st * i, ?_, Nat.lt_of_le_of_lt (show _ ≤ 2000 by omega) (by decide), hR⟩
    have e : (fn : Int) + (st : Int) * (0 + (i : Int)) = ((fn + st * i : Nat) : Int) := by push_cast; rw [Int.zero_add]
    rw [e]
  have e54 : ((List.range 54).map fun i => D.str (letS (fn + st * i))) = (n54 fn st).map D.str := by unfold n54; rw [List.map_map]; rfl
  rw [e54]
  refine ⟨54, rfl, by decide, by decide, fun av a0 a1 => ?_⟩
  obtain ⟨av, rfl⟩ := Int.eq_ofNat_of_zero_le a0
  simp only [intD_int, sliceD]
  rw [cutD_from, cutD_to, ← List.map_drop, ← List.map_take]
  obtain ⟨L, eL⟩ : ∃ L, L = (n54 fn st).drop av ++ (n54 fn st).take av := ⟨_, rfl⟩
  have pL : L.Perm (n54 fn st) := eL ▸ KB.rot_perm _ _
  have lL : L.length = 54 := by rw [pL.length_eq, n54_len]
  have ndL : L.Nodup := pL.nodup_iff.mpr (n54_nd st1 (Nat.lt_of_le_of_lt (show _ ≤ 2000 by have := Nat.mul_le_mul_right 54 st11; omega) (by decide)))
  have okL : ∀ x ∈ L, KB.nameOk x = true := fun x hx => n54_ok (by omega) st11 x (pL.mem_iff.mp hx)
  refine ⟨_, _, rfl, rfl, small_len (by rw [List.length_map, List.length_map, List.length_drop, List.length_take, n54_len]; omega), Nat.zero_le _, 6, rfl, by decide, by decide, ?_⟩
  rw [← List.map_append, ← eL]
  obtain ⟨names, rest, eN, lN, lR⟩ : ∃ names rest, L = names ++ rest ∧ names.length = 6 ∧ rest.length = 48 := ⟨L.take 6, L.drop 6, (List.take_append_drop 6 L).symm, by rw [List.length_take, lL]; rfl, by rw [List.length_drop, lL]⟩
  rw [eN]
  rw [eN] at ndL okL
  have ndN := (List.nodup_append.mp ndL).1
  have ndR := (List.nodup_append.mp ndL).2.1
  have okN : ∀ x ∈ names, KB.nameOk x = true := fun x hx => okL x (List.mem_append_left _ hx)
  have okR : ∀ x ∈ rest, KB.nameOk x = true := fun x hx => okL x (List.mem_append_right _ hx)
  clear eN lL eL pL okL ndL
  refine forD_ind (fun (l : List D) ρ => ∃ (i : Nat) (found : List KB.Kind) (left : List Str) (s4 s7 s8 s9 s10 : Option Ent), i ≤ 6 ∧ l = (rngD 0 6).drop i ∧ found.length = i ∧ Made names rest found left ∧ left.length + 8 * i = 48 ∧ (∀ k ∈ found, k.2.length = 8) ∧ ρ = [some (.dat (.opq a)), some (.dat (.int fn)), some (.dat (.int st)), some (.own ((names ++ left).map D.str)), s4, some (.dat (.int av)), some (.own (found.map rowsD)), s7, s8, s9, s10]) (fun ρ ⟨i, found, left, s4, s7, s8, s9, s10, hi, el, fl, md, hl, h8, e⟩ => ?_) (fun d l ρ R ⟨i, found, left, s4, s7, s8, s9, s10, hi, el, fl, md, hl, h8, e⟩ hR => ?_) _ _ ⟨0, [], rest, none, none, none, none, none, Nat.zero_le _, rfl, rfl, .nil, by omega, by simp, rfl⟩
  · subst e
    have him : i = 6 := by
      by_cases z : i = 6
      · exact z
      · exfalso
        have := congrArg List.length el
        rw [List.length_drop, rngD_length] at this
        simp at this
        omega
    subst him
    obtain rfl : left = [] := List.eq_nil_of_length_eq_zero (by omega)
    rw [List.append_nil]
    refine ⟨_, rfl, trivial, _, rfl, trivial, _, rfl, 8, rfl, by decide, by decide, fun tv t0 t1 => ?_⟩
    obtain ⟨tv, rfl⟩ := Int.eq_ofNat_of_zero_le t0
    simp only [Ent.toD]
    obtain ⟨ks, eks⟩ : ∃ ks : List KB.Kind, ks = found.map fun k => (k.1, k.2.drop tv ++ k.2.take tv) := ⟨_, rfl⟩
    have lks : ks.length = 6 := by rw [eks, List.length_map, fl]
    have hgood : Good ks := eks ▸ (Made.rot md (fun l => l.drop tv ++ l.take tv) fun l => KB.rot_perm l tv).good ndN okN ndR okR (by rw [List.length_map, fl, lN]) (by omega) (by omega)
    refine ⟨6, rfl, by decide, by decide, by decide, ?_⟩
    refine lcD_all (α := Nat) (l := List.range 6) (fun i => D.int (0 + (i : Nat))) (fun i => kindD (ks.getD i ("", []))) (fun i hi R S hR => ?_) ?_
    · have hi := List.mem_range.mp hi
      obtain ⟨x, hx⟩ : ∃ x, found[i]? = some x := ⟨found[i]'(by omega), List.getElem?_eq_getElem (by omega)⟩
      have hk : ks.getD i ("", []) = (x.1, x.2.drop tv ++ x.2.take tv) := by
        rw [eks, List.getD_eq_getElem?_getD, List.getElem?_map, hx]
        rfl
      rw [hk] at hR
      have hnx : names[i]? = some x.1 := by
        have e1 := md.nm
        rw [fl, List.take_of_length_le (by omega)] at e1
        rw [← e1]
        unfold KB.kNames
        rw [List.getElem?_map, hx]
        rfl
      have e0 : (0 : Int) + (i : Int) = ((i : Nat) : Int) := by omega
      have hat1 : atI (names.map D.str) (0 + (i : Int)) = some (.str x.1) := by rw [e0]; exact atI_nat (by rw [List.getElem?_map, hnx]; rfl)
      have hat2 : atI (found.map rowsD) (0 + (i : Int)) = some (rowsD x) := by rw [e0]; exact atI_nat (by rw [List.getElem?_map, hx]; rfl)
      have hx8 := h8 x (List.mem_of_getElem? hx)
      refine ⟨_, rfl, _, rfl, _, hat1, _, rfl, _, rfl, _, hat2, _, rfl, ?_⟩
      simp only [intD_int, rowsD, sliceD]
      refine ⟨_, rfl, _, rfl, _, hat2, _, rfl, ?_⟩
      simp only [intD_int, rowsD, sliceD]
      rw [cutD_from, cutD_to, ← List.map_drop, ← List.map_take]
      refine ⟨small_len (by rw [List.length_map, List.length_map, List.length_drop, List.length_take]; omega), ?_⟩
      rw [← List.map_append]
      exact ⟨by decide, hR⟩
    · have e6 := range_getD ks ("", [])
      rw [lks] at e6
      have : ((List.range 6).map fun i => kindD (ks.getD i ("", []))) = ks.map kindD := by
        rw [← e6, List.map_map, e6]
        rfl
      rw [this]
      exact q ks hgood
  · obtain ⟨hi', rfl, el'⟩ := rng_drop el
    subst e
    obtain ⟨left1, x, rfl⟩ := last_of (l := left) (by omega)
    simp only [List.length_append, List.length_cons, List.length_nil] at hl
    refine ⟨(names ++ left1).map D.str, .str x, by show some (some (Ent.own _)) = _; rw [← List.append_assoc, List.map_append]; rfl, by decide, _, rfl, 3, rfl, by decide, by decide, fun cn c0 c1 => ?_⟩
    obtain ⟨cn, rfl⟩ := Int.eq_ofNat_of_zero_le c0
    refine ⟨_, cn, rfl, rfl, by simp, by omega, by decide, by decide, by decide, 7, rfl, by decide, by decide, ?_⟩
    have er : (List.replicate cn [D.str "num"]).flatten = (List.replicate cn numS).map D.str := by
      rw [List.map_replicate]
      clear c0 c1
      induction cn with
      | zero => rfl
      | succ n ih => rw [List.replicate_succ, List.flatten_cons, ih, List.replicate_succ]; rfl
    rw [er]
    have hnum : ∀ f ∈ List.replicate cn numS, f = numS := fun f hf => (List.mem_replicate.mp hf).2
    have hw0 : wit names i (List.replicate cn numS) := ⟨fun f hf => .inl (hnum f hf), by rw [List.filter_eq_nil_iff.mpr fun f hf => by rw [hnum f hf]; simp]; exact Nat.zero_le _⟩
    have r1 : Rows names rest found [(x, List.replicate cn numS)] left1 := md.rows.add (fs := List.replicate cn numS) (by rw [List.length_replicate]; omega) fun f hf => .inl (hnum f hf)
    refine forD_ind (fun (l2 : List D) ρ => ∃ (j : Nat) (rows : List Bough) (left : List Str) (s8 s9 s10 : Option Ent), j ≤ 7 ∧ l2 = (rngD 0 7).drop j ∧ Rows names rest found rows left ∧ (∃ b ∈ rows, wit names i b.2) ∧ rows.length = j + 1 ∧ left.length + 8 * i + (j + 1) = 48 ∧ ρ = [some (.dat (.opq a)), some (.dat (.int fn)), some (.dat (.int st)), some (.own ((names ++ left).map D.str)), some (.dat (.int (0 + (i : Int)))), some (.dat (.int av)), some (.own (found.map rowsD)), some (.own (rows.map boughD)), s8, s9, s10]) (fun ρ ⟨j, rows, left, s8, s9, s10, hj, el2, hr2, hw, hlen, hleft, e⟩ => ?_) (fun d l2 ρ R2 ⟨j, rows, left, s8, s9, s10, hj, el2, hr2, hw, hlen, hleft, e⟩ hR2 => ?_) _ _ ⟨0, [(x, List.replicate cn numS)], left1, _, _, _, Nat.zero_le _, rfl, r1, ⟨(x, List.replicate cn numS), by simp, hw0⟩, rfl, by omega, rfl⟩
    · subst e
      have hj7 : j = 7 := by
        by_cases z : j = 7
        · exact z
        · exfalso
          have := congrArg List.length el2
          rw [List.length_drop, rngD_length] at this
          simp at this
          omega
      subst hj7
      obtain ⟨nm', hnm⟩ : ∃ x, names[i]? = some x := ⟨names[i]'(by omega), List.getElem?_eq_getElem (by omega)⟩
      refine ⟨_, rfl, trivial, _, rfl, _, rfl, small_lt (by rw [List.length_map]; omega), ?_⟩
      have ef : found.map rowsD ++ [D.lst (rows.map boughD)] = (found ++ [(nm', rows)]).map rowsD := by rw [List.map_append]; rfl
      show R [_, _, _, _, _, _, some (.own (found.map rowsD ++ [D.lst (rows.map boughD)])), _, _, _, _]
      rw [ef]
      exact hR _ ⟨i + 1, found ++ [(nm', rows)], left, _, _, _, _, _, hi', el', by simp [fl], md.add hr2 (by rw [fl]; exact hnm) (List.Perm.refl _) (by omega) (by rw [fl]; exact hw), by omega, fun k hk => by
        rcases List.mem_append.mp hk with h | h
        · exact h8 k h
        · obtain rfl := List.mem_singleton.mp h
          exact hlen, rfl⟩
    · obtain ⟨hj', rfl, el2'⟩ := rng_drop el2
      subst e
      simp only [getD_0, getD_s, set_0, set_s, boolD_bl, intD_int, startD, List.map, List.length_cons, List.length_nil, List.replicate, List.cons_append, List.nil_append, defEnds, wipeD, if_true, if_false, Bool.not_true, Bool.not_false, Bool.false_eq_true]
      refine ⟨3, rfl, by decide, by decide, fun un u0 u1 => ⟨by decide, 2, rfl, by decide, by decide, fun yn y0 y1 => ?_⟩⟩
      have pk : ∃ n : Nat, atI [D.int un, D.int 8] yn = some (.int (n : Int)) ∧ n ≤ 8 := by
        have h : yn = 0 ∨ yn = 1 := by omega
        rcases h with rfl | rfl
        · exact ⟨un.toNat, by rw [Int.toNat_of_nonneg u0]; rfl, by omega⟩
        · exact ⟨8, rfl, by decide⟩
      obtain ⟨n, hn, hn8⟩ := pk
      refine ⟨_, hn, (n : Int), rfl, by omega, by omega, ?_⟩
      rw [Int.toNat_natCast]
      refine ⟨small_len (by rw [rngD_length]; omega), lcD_any D.str (fun f => f = numS ∨ f ∈ names) (fun d hd R S hR => ?_) fun gs hgl hgs => ?_⟩
      · refine ⟨_, rfl, trivial, ?_⟩
        simp only [getD_0, getD_s, set_0, set_s, boolD_bl, intD_int, startD, List.map, List.length_cons, List.length_nil, List.replicate, List.cons_append, List.nil_append, defEnds, wipeD, if_true, if_false, Bool.not_true, Bool.not_false, Bool.false_eq_true]
        have hcl := cutD_len ((names ++ left).map D.str) none (some ((6 : Nat) : Int))
        simp only [Ent.toD, sliceD]
        have hct : cutD ((names ++ left).map D.str) none (some 6) = names.map D.str := by
          rw [show (6 : Int) = ((6 : Nat) : Int) from rfl, cutD_to, ← List.map_take, List.take_left' lN]
        rw [hct]
        refine ⟨by decide, small_len (by simp only [List.length_cons, List.length_nil, List.length_map]; omega), _, rfl, by simp, by simp only [List.length_append, List.length_cons, List.length_nil, List.length_map]; omega, fun z hz => ?_⟩
        rcases List.mem_append.mp hz with h | h
        · obtain rfl := List.mem_singleton.mp h
          exact ⟨rfl, hR numS (.inl rfl)⟩
        · obtain ⟨f, hf, rfl⟩ := List.mem_map.mp h
          exact ⟨rfl, hR f (.inr hf)⟩
      rw [rngD_length] at hgl
      obtain ⟨left2, y, rfl⟩ := last_of (l := left) (by omega)
      simp only [List.length_append, List.length_cons, List.length_nil] at hleft
      refine ⟨_, rfl, (names ++ left2).map D.str, .str y, by show some (some (Ent.own _)) = _; rw [← List.append_assoc, List.map_append]; rfl, by decide, _, rfl, small_lt (by rw [List.length_map]; omega), ?_⟩
      have ef : rows.map boughD ++ [D.tup [.str y, .tup (gs.map D.str)]] = (rows ++ [(y, gs)]).map boughD := by
        rw [List.map_append (f := boughD)]
        rfl
      rw [ef]
      obtain ⟨b, hb, h⟩ := hw
      exact hR2 _ ⟨j + 1, rows ++ [(y, gs)], left2, _, _, _, hj', el2', hr2.add (by omega) hgs, ⟨b, List.mem_append_left _ hb, h⟩, by simp [hlen], by omega, rfl⟩
end
end KC
namespace KC
open PySem L2 Dk
open KB (top spPick spKinds TxtB Good)
open PyProof.Rows (envOfC)
abbrev s__law_any_kinds : Stmt := top 41
theorem sc__law_any_kinds : FnScope ["_law_deck_here"] ["_law_deck_here"] (defScope s__law_any_kinds) := ⟨rfl, rfl, rfl, by decide +kernel, rfl, by decide +kernel, by decide +kernel⟩
theorem bd__law_any_kinds (kV doc pm : Value) (an : Option Addr) (cdv ct : Value) (us : List Value) (hl : us.length = 1) : bindArgs (PySem.W.fnOf "_law_any_kinds" "_law_any_kinds" (defArgs s__law_any_kinds) (defBody s__law_any_kinds) (defScope s__law_any_kinds) .none kV doc pm an cdv ct) ⟨us, []⟩ = pure ((["_law_deck_here"] : List Str).zip us) := by
  match us, hl with
  | [v0], _ => rfl
section
variable {P : Program} {w : World} {K : PySem.W.Frag} {C a l : Addr} {mg : Str → Option Value} {base : Heap} {k : Nat} {f : Addr} {fd : FuncData}
theorem ok_any (T : TxtB K C mg) (Fn : Fun K "_law_any_kinds" "_law_any_kinds" s__law_any_kinds f fd) (C__law_draw : Cal P w K mg base CX0 (DeckW a l) k "_law_draw" ["_law_deck_here", "_law_most"] (spDraw a))
    (C__law_kinds : Cal P w K mg base CX0 (DeckW a l) k "_law_kinds" ["_law_deck_here"] (spKinds a)) (C__law_great_kinds : Cal P w K mg base CX0 (DeckW a l) k "_law_great_kinds" ["_law_deck_here"] (spKinds a)) : GnOk P w K mg base CX0 (k + 1) f fd ["_law_deck_here"] (spD (DeckW a l) K (spKinds a)) := by
  refine Fn.okD sc__law_any_kinds rfl fun cdv A outer s H I ds Q Ed E hr h => ?_
  have hu := hr.units
  obtain ⟨rfl, q⟩ := h
  refine ⟨_, (dss_cons (ds_if (dt_c (.eq hu) (de_fn C__law_draw (hr.mono (by omega)) pass0 lets0 (da_cons (de_name 0) (da_cons de_int da_nil))) de_int)
  (dss_one (ds_ret (de_fn C__law_great_kinds (hr.mono (by omega)) pass0 lets0 (da_cons (de_name 0) da_nil))))
  dss_nil)
  (dss_one (ds_ret (de_fn C__law_kinds (hr.mono (by omega)) pass0 lets0 (da_cons (de_name 0) da_nil))))), ?_⟩
  simp only [getD_0, getD_s, set_0, set_s, boolD_bl, intD_int, startD, List.map, List.length_cons, List.length_nil, List.replicate, List.cons_append, List.nil_append, defEnds, wipeD, if_true, if_false, Bool.not_true, Bool.not_false, Bool.false_eq_true]
  refine ⟨8, rfl, by decide, by decide, fun v h0 h1 => ?_⟩
  simp only [eqD_int, boolD_bl]

  by_cases h5 : v = 5
  · rw [if_pos (by rw [decide_eq_true_eq]; exact h5)]
    exact ⟨rfl, q⟩
  · rw [if_neg (by rw [decide_eq_true_eq]; exact h5)]
    exact ⟨rfl, q⟩
end
end KC
namespace KB
open PySem L2 Dk
theorem bNames_perm {ks ks' : List Kind} (h : ks.Perm ks') : (bNames ks).Perm (bNames ks') := by
  unfold bNames
  induction h with
  | nil => exact List.Perm.refl _
  | cons x _ ih => rw [List.flatMap_cons, List.flatMap_cons]; exact ih.append_left _
  | swap x y l =>
    rw [List.flatMap_cons, List.flatMap_cons, List.flatMap_cons, List.flatMap_cons, ← List.append_assoc, ← List.append_assoc]
    exact List.Perm.append_right _ List.perm_append_comm
  | trans _ _ h1 h2 => exact h1.trans h2
theorem Wel.perm {ks ks' : List Kind} (g : Wel ks) (h : ks.Perm ks') : Wel ks' where
  ne := fun e => g.ne (by subst e; exact List.Perm.eq_nil h)
  kn := fun k hk => g.kn k (h.mem_iff.mpr hk)
  kb := fun k hk => g.kb k (h.mem_iff.mpr hk)
  bn := fun k hk => g.bn k (h.mem_iff.mpr hk)
  nd := (List.Perm.nodup_iff (h.map _)).mp g.nd
  bd := (List.Perm.nodup_iff (bNames_perm h)).mp g.bd
  fl := fun k hk b hb f hf => (g.fl k (h.mem_iff.mpr hk) b hb f hf).imp id fun z => ((h.map (·.1)).mem_iff.mp z : f ∈ ks'.map (·.1))
  s1 := by rw [← h.length_eq]; exact g.s1
  s2 := fun k hk => g.s2 k (h.mem_iff.mpr hk)
  s3 := fun k hk => g.s3 k (h.mem_iff.mpr hk)
theorem kNames_app (a b : List Kind) : kNames (a ++ b) = kNames a ++ kNames b := by unfold kNames; rw [List.map_append]
theorem bNames_app' (a b : List Kind) : bNames (a ++ b) = bNames a ++ bNames b := by unfold bNames; rw [List.flatMap_append]
theorem bNames_one (n : Str) (r : List Bough) (l : List Kind) : bNames ((n, r) :: l) = r.map (·.1) ++ bNames l := rfl
/-- a kind that ends, put behind -/
theorem Wel.add {ks : List Kind} (g : Wel ks) {n0 n1 : Str} (h0 : nameOk n0 = true) (h1 : nameOk n1 = true) (k0 : n0 ∉ kNames ks) (b1 : n1 ∉ bNames ks) (hl : ks.length < 6) : Wel (ks ++ [(n0, [(n1, [])])]) where
  ne := by simp
  kn := fun k hk => by
    rcases List.mem_append.mp hk with hk | hk
    · exact g.kn k hk
    · obtain rfl := List.mem_singleton.mp hk; exact h0
  kb := fun k hk => by
    rcases List.mem_append.mp hk with hk | hk
    · exact g.kb k hk
    · obtain rfl := List.mem_singleton.mp hk; simp
  bn := fun k hk b hb => by
    rcases List.mem_append.mp hk with hk | hk
    · exact g.bn k hk b hb
    · obtain rfl := List.mem_singleton.mp hk
      obtain rfl := List.mem_singleton.mp hb
      exact h1
  nd := by
    rw [kNames_app]
    exact List.nodup_append.mpr ⟨g.nd, by simp [kNames], fun a ha b hb e => by
      have : b = n0 := by simpa [kNames] using hb
      subst this; subst e; exact k0 ha⟩
  bd := by
    rw [bNames_app']
    exact List.nodup_append.mpr ⟨g.bd, by simp [bNames], fun a ha b hb e => by
      have : b = n1 := by simpa [bNames] using hb
      subst this; subst e; exact b1 ha⟩
  fl := fun k hk b hb f hf => by
    rcases List.mem_append.mp hk with hk | hk
    · exact (g.fl k hk b hb f hf).imp id fun z => by rw [kNames_app]; exact List.mem_append_left _ z
    · obtain rfl := List.mem_singleton.mp hk
      obtain rfl := List.mem_singleton.mp hb
      cases hf
  s1 := by rw [List.length_append]; simp; omega
  s2 := fun k hk => by
    rcases List.mem_append.mp hk with hk | hk
    · exact g.s2 k hk
    · obtain rfl := List.mem_singleton.mp hk; simp
  s3 := fun k hk b hb => by
    rcases List.mem_append.mp hk with hk | hk
    · exact g.s3 k hk b hb
    · obtain rfl := List.mem_singleton.mp hk
      obtain rfl := List.mem_singleton.mp hb
      simp
/-- one kind's rows put otherwise -/
theorem Wel.rows {pre post : List Kind} {kn : Str} {r r' : List Bough} (g : Wel (pre ++ (kn, r) :: post)) (ne : r' ≠ []) (hb : ∀ b ∈ r', nameOk b.1 = true ∧ b.2.length ≤ 8 ∧ ∀ f ∈ b.2, f = numS ∨ f ∈ kNames (pre ++ (kn, r) :: post)) (hl : r'.length ≤ 8)
    (nd : (bNames pre ++ (r'.map (·.1) ++ bNames post)).Nodup) : Wel (pre ++ (kn, r') :: post) := by
  have kk : kNames (pre ++ (kn, r') :: post) = kNames (pre ++ (kn, r) :: post) := by unfold kNames; rw [List.map_append, List.map_append]; rfl
  have cases' : ∀ {p : Kind → Prop}, (∀ k ∈ pre ++ (kn, r) :: post, p k) → p (kn, r') → ∀ k ∈ pre ++ (kn, r') :: post, p k := fun {p} h h' k hk => by
    rcases List.mem_append.mp hk with hk | hk
    · exact h k (List.mem_append_left _ hk)
    · rcases List.mem_cons.mp hk with rfl | hk
      · exact h'
      · exact h k (List.mem_append_right _ (List.mem_cons_of_mem _ hk))
  exact {
    ne := by simp
    kn := cases' (p := fun k => nameOk k.1 = true) g.kn (g.kn (kn, r) (by simp))
    kb := cases' (p := fun k => k.2 ≠ []) g.kb ne
    bn := cases' (p := fun k => ∀ b ∈ k.2, nameOk b.1 = true) g.bn fun b h => (hb b h).1
    nd := by rw [kk]; exact g.nd
    bd := by rw [bNames_app', bNames_one]; exact nd
    fl := by rw [kk]; exact cases' (p := fun k => ∀ b ∈ k.2, ∀ f ∈ b.2, f = numS ∨ f ∈ kNames (pre ++ (kn, r) :: post)) g.fl fun b h => (hb b h).2.2
    s1 := by have := g.s1; simp at this ⊢; omega
    s2 := cases' (p := fun k => k.2.length ≤ 8) g.s2 hl
    s3 := cases' (p := fun k => ∀ b ∈ k.2, b.2.length ≤ 8) g.s3 fun b h => (hb b h).2.1 }
theorem Wel.rowsIn {pre post : List Kind} {kn : Str} {r : List Bough} (g : Wel (pre ++ (kn, r) :: post)) {b : Bough} (hb : b ∈ r) : nameOk b.1 = true ∧ b.2.length ≤ 8 ∧ ∀ f ∈ b.2, f = numS ∨ f ∈ kNames (pre ++ (kn, r) :: post) :=
  have hk : (kn, r) ∈ pre ++ (kn, r) :: post := by simp
  ⟨g.bn _ hk b hb, g.s3 _ hk b hb, g.fl _ hk b hb⟩
theorem Wel.rowsNd {pre post : List Kind} {kn : Str} {r : List Bough} (g : Wel (pre ++ (kn, r) :: post)) : (bNames pre ++ (r.map (·.1) ++ bNames post)).Nodup := by
  have := g.bd
  rw [bNames_app', bNames_one] at this
  exact this
/-- one bough put otherwise -/
theorem Wel.row {pre post : List Kind} {kn : Str} {rp rq : List Bough} {b b' : Bough} (g : Wel (pre ++ (kn, rp ++ b :: rq) :: post)) (hb : nameOk b'.1 = true) (hn : b'.1 = b.1 ∨ b'.1 ∉ bNames (pre ++ (kn, rp ++ b :: rq) :: post)) (h8 : b'.2.length ≤ 8)
    (hf : ∀ f ∈ b'.2, f = numS ∨ f ∈ kNames (pre ++ (kn, rp ++ b :: rq) :: post)) : Wel (pre ++ (kn, rp ++ b' :: rq) :: post) := by
  refine g.rows (by simp) (fun x hx => ?_) (by have := g.s2 (kn, rp ++ b :: rq) (by simp); simp at this ⊢; omega) ?_
  · rcases List.mem_append.mp hx with hx | hx
    · exact g.rowsIn (List.mem_append_left _ hx)
    · rcases List.mem_cons.mp hx with rfl | hx
      · exact ⟨hb, h8, hf⟩
      · exact g.rowsIn (List.mem_append_right _ (List.mem_cons_of_mem _ hx))
  · rcases hn with e | hn
    · have := g.rowsNd
      simp only [List.map_append, List.map_cons] at this ⊢
      rw [e]
      exact this
    · have h1 := g.rowsNd
      have h2 : b'.1 ∉ bNames pre ++ ((rp ++ b :: rq).map (·.1) ++ bNames post) := by rw [bNames_app', bNames_one] at hn; exact hn
      have pm : ∀ x : Str, (bNames pre ++ ((rp.map (·.1) ++ x :: rq.map (·.1)) ++ bNames post)).Perm (x :: (bNames pre ++ ((rp.map (·.1) ++ rq.map (·.1)) ++ bNames post))) := fun x => by
        rw [List.append_assoc, List.cons_append, ← List.append_assoc]
        refine List.perm_middle.trans ?_
        rw [List.append_assoc, List.append_assoc]
      simp only [List.map_append, List.map_cons] at h1 h2 ⊢
      have n1 := (List.Perm.nodup_iff (pm b.1)).mp h1
      refine (List.Perm.nodup_iff (pm b'.1)).mpr (List.nodup_cons.mpr ⟨fun z => h2 ?_, (List.nodup_cons.mp n1).2⟩)
      exact (pm b.1).mem_iff.mpr (List.mem_cons_of_mem _ z)
/-- one bough more at a kind's end -/
theorem Wel.more {pre post : List Kind} {kn : Str} {r : List Bough} {n0 : Str} (g : Wel (pre ++ (kn, r) :: post)) (h0 : nameOk n0 = true) (b0 : n0 ∉ bNames (pre ++ (kn, r) :: post)) (hl : r.length < 8) : Wel (pre ++ (kn, r ++ [(n0, [])]) :: post) := by
  refine g.rows (by simp) (fun x hx => ?_) (by simp; omega) ?_
  · rcases List.mem_append.mp hx with hx | hx
    · exact g.rowsIn hx
    · obtain rfl := List.mem_singleton.mp hx
      exact ⟨h0, by simp, fun f hf => by cases hf⟩
  · have h1 := g.rowsNd
    rw [bNames_app', bNames_one] at b0
    have pm : (bNames pre ++ ((r ++ [(n0, [])] : List Bough).map (·.1) ++ bNames post)).Perm (n0 :: (bNames pre ++ (r.map (·.1) ++ bNames post))) := by
      rw [List.map_append, List.append_assoc, ← List.append_assoc]
      refine List.perm_middle.trans ?_
      rw [List.append_assoc]
      exact List.Perm.refl _
    exact (List.Perm.nodup_iff pm).mpr (List.nodup_cons.mpr ⟨b0, h1⟩)
/-- a kind's rows turned about -/
theorem Wel.turn {pre post : List Kind} {kn : Str} {r : List Bough} (g : Wel (pre ++ (kn, r) :: post)) : Wel (pre ++ (kn, r.reverse) :: post) := by
  have hk : (kn, r) ∈ pre ++ (kn, r) :: post := by simp
  refine g.rows (fun e => g.kb _ hk (by simpa using e)) (fun x hx => g.rowsIn (List.mem_reverse.mp hx)) (by rw [List.length_reverse]; exact g.s2 _ hk) ?_
  refine (List.Perm.nodup_iff ?_).mp g.rowsNd
  exact List.Perm.append_left _ (List.Perm.append_right _ ((List.reverse_perm r).symm.map _))
end KB
namespace KB
open PySem L2 Dk
open PyProof.Rows (envOfC)
abbrev s__law_others : Stmt := top 44
theorem sc__law_others : FnScope ["_law_deck_here", "_law_own_kinds", "_law_at", "_law_kind", "_law_rows", "_law_spot", "_law_bough", "_law_fields", "_law_new", "_law_found", "_law_row", "_law_some", "_law_one"] ["_law_deck_here", "_law_own_kinds"] (defScope s__law_others) := ⟨rfl, rfl, rfl, by decide +kernel, rfl, by decide +kernel, by decide +kernel⟩
theorem bd__law_others (kV doc pm : Value) (an : Option Addr) (cdv ct : Value) (us : List Value) (hl : us.length = 2) : bindArgs (PySem.W.fnOf "_law_others" "_law_others" (defArgs s__law_others) (defBody s__law_others) (defScope s__law_others) .none kV doc pm an cdv ct) ⟨us, []⟩ = pure ((["_law_deck_here", "_law_own_kinds"] : List Str).zip us) := by
  match us, hl with
  | [v0, v1], _ => rfl
def spOthers (a : Addr) : DSp where
  n := 2
  f := fun ds Q _ => ∃ ks, ds = [.opq a, kindsD ks] ∧ Wel ks ∧ ∀ kss : List (List Kind), (∀ k' ∈ kss, Wel k') → kss.length ≤ 8 → Q (.lst (kss.map kindsD))
  len := fun ds Q E ⟨_, e, _⟩ => by rw [e]; rfl
  mono := fun ds Q Q' E E' k _ ⟨ks, e, g, q⟩ => ⟨ks, e, g, fun a b c => k _ (q a b c)⟩
section
variable {P : Program} {w : World} {K : PySem.W.Frag} {C CB a l : Addr} {mg : Str → Option Value} {base : Heap} {W : Wd} {k : Nat} {f : Addr} {fd : FuncData}
theorem ok_others (T : TxtB K C mg) (Fn : Fun K "_law_others" "_law_others" s__law_others f fd) (C__law_draw : Cal P w K mg base CX0 (DeckW a l) k "_law_draw" ["_law_deck_here", "_law_most"] (spDraw a)) (C__law_fresh : Cal P w K mg base CX0 (DeckW a l) k "_law_fresh" ["_law_own_kinds", "_law_many"] spFresh) : GnOk P w K mg base CX0 (k + 1) f fd ["_law_deck_here", "_law_own_kinds"] (spD (DeckW a l) K (spOthers a)) := by
  refine Fn.okD sc__law_others rfl fun cdv A outer s H I ds Q Ed E hr h => ?_
  have hu := hr.units
  have hu2 : (A.deeper (envOfC "_law_others" (defScope s__law_others) s.heap.objs.size f cdv)).units + 66 < cLine := by have := hr.room.un; omega
  obtain ⟨ks, rfl, g, q⟩ := h
  refine ⟨_, (dss_cons (ds_set 2 (de_fn C__law_draw (hr.mono (by omega)) pass0 lets0 (da_cons (de_name 0) (da_cons (de_len T.b_len (da_cons (de_name 1) da_nil)) da_nil))) sc__law_others.nd)
  (dss_cons (ds_asg (de_at hu (de_name 1) (de_name 2)) (dg_tup (n := 2) rfl (dgs_cons (dg_name 3 sc__law_others.nd) (dgs_cons (dg_name 4 sc__law_others.nd) dgs_nil))))
  (dss_cons (ds_set 5 (de_fn C__law_draw (hr.mono (by omega)) pass0 lets0 (da_cons (de_name 0) (da_cons (de_len T.b_len (da_cons (de_name 4) da_nil)) da_nil))) sc__law_others.nd)
  (dss_cons (ds_asg (de_at hu (de_name 4) (de_name 5)) (dg_tup (n := 2) rfl (dgs_cons (dg_name 6 sc__law_others.nd) (dgs_cons (dg_name 7 sc__law_others.nd) dgs_nil))))
  (dss_cons (ds_set 8 (de_fn C__law_fresh (hr.mono (by omega)) pass0 lets0 (da_cons (de_name 1) (da_cons de_int da_nil))) sc__law_others.nd)
  (dss_cons (ds_own 9 (da_cons (de_add (de_name 1) (de_tup (da_cons (de_tup (da_cons (de_at hu (de_name 8) de_int) (da_cons (de_tup (da_cons (de_tup (da_cons (de_at hu (de_name 8) de_int) (da_cons (de_tup da_nil) da_nil))) da_nil)) da_nil))) da_nil))) (da_cons (de_revG (de_name 1)) da_nil)) sc__law_others.nd)
  (dss_cons (ds_append 9 (de_add (de_tup (da_cons (de_tup (da_cons (de_at hu (de_at hu (de_name 1) de_int) de_int) (da_cons (de_add (de_at hu (de_at hu (de_name 1) de_int) de_int) (de_tup (da_cons (de_tup (da_cons (de_at hu (de_name 8) de_int) (da_cons (de_tup da_nil) da_nil))) da_nil))) da_nil))) da_nil)) (de_slice (de_name 1) (do_some de_int) do_none)))
  (dss_cons (ds_for PassesOwn.never rfl (di_seq (de_lst (da_cons (de_tup (da_cons (de_name 6) (da_cons (de_slice (de_add (de_tup (da_cons de_str da_nil)) (de_name 7)) do_none (do_some de_int)) da_nil))) (da_cons (de_tup (da_cons (de_name 6) (da_cons (de_slice (de_name 7) (do_some de_int) do_none) da_nil))) (da_cons (de_tup (da_cons (de_at hu (de_name 8) de_int) (da_cons (de_name 7) da_nil))) (da_cons (de_tup (da_cons (de_name 6) (da_cons (de_revG (de_name 7)) da_nil))) da_nil)))))) (dg_name 10 sc__law_others.nd)
  (dss_one (ds_append 9 (de_add (de_add (de_slice (de_name 1) do_none (do_some (de_name 2))) (de_tup (da_cons (de_tup (da_cons (de_name 3) (da_cons (de_add (de_add (de_slice (de_name 4) do_none (do_some (de_name 5))) (de_tup (da_cons (de_name 10) da_nil))) (de_slice (de_name 4) (do_some (de_add (de_name 5) de_int)) do_none)) da_nil))) da_nil))) (de_slice (de_name 1) (do_some (de_add (de_name 2) de_int)) do_none)))))
  (dss_cons (ds_append 9 (de_add (de_add (de_slice (de_name 1) do_none (do_some (de_name 2))) (de_tup (da_cons (de_tup (da_cons (de_name 3) (da_cons (de_revG (de_name 4)) da_nil))) da_nil))) (de_slice (de_name 1) (do_some (de_add (de_name 2) de_int)) do_none)))
  (dss_freeze 9
  (dss_one (ds_ret (de_lc (own := [("_law_some", 11)]) rfl sc__law_others.nd (di_seq (de_name 9)) (blkOk_by (own := [("_law_some", 11)]) (N := ["_law_deck_here", "_law_own_kinds", "_law_at", "_law_kind", "_law_rows", "_law_spot", "_law_bough", "_law_fields", "_law_new", "_law_found", "_law_row", "_law_some", "_law_one"]) (sc := defScope s__law_others) (by decide +kernel)) (fun _ _ _ _ _ => (dg_name 11 sc__law_others.nd)) (fun _ _ _ _ _ => (dif_one (dt_wh (dw_and (dt_c .lt (de_len T.b_len (da_cons (de_name 11) da_nil)) de_int) (dw_and1 (dt_c .lt (de_maxL rfl T.b_max (da_cons (de_lc (own := [("_law_one", 12)]) rfl sc__law_others.nd (di_seq (de_name 11)) (blkOk_nest (own := [("_law_one", 12)]) (N := ["_law_deck_here", "_law_own_kinds", "_law_at", "_law_kind", "_law_rows", "_law_spot", "_law_bough", "_law_fields", "_law_new", "_law_found", "_law_row", "_law_some", "_law_one"]) (defScope s__law_others) rfl (by decide +kernel)) (fun _ _ _ _ _ => (dg_name 12 sc__law_others.nd)) (fun _ _ _ _ _ => dif_nil) (fun _ _ _ _ _ => (de_len T.b_len (da_cons (de_at hu (de_name 12) de_int) da_nil)))) da_nil)) de_int)))))) (fun _ _ _ _ _ => (de_name 11))))))))))))))), ?_⟩
  simp only [getD_0, getD_s, set_0, set_s, boolD_bl, intD_int, startD, List.map, List.length_cons, List.length_nil, List.replicate, List.cons_append, List.nil_append, defEnds, wipeD, if_true, if_false, Bool.not_true, Bool.not_false, Bool.false_eq_true]
  have gs1 := g.s1
  have gl : 0 < ks.length := List.length_pos_iff.mpr g.ne
  simp only [kindsD, lenD]
  refine ⟨_, rfl, by rw [List.length_map]; omega, log_small (by rw [List.length_map]; omega), fun v v0 v1 => ?_⟩
  obtain ⟨i, rfl⟩ : ∃ i : Nat, v = i := ⟨v.toNat, by omega⟩
  have hi : i < ks.length := by rw [List.length_map] at v1; omega
  obtain ⟨pre, x, post, ep, hpl⟩ : ∃ pre x post, ks = pre ++ x :: post ∧ pre.length = i := ⟨ks.take i, ks[i], ks.drop (i + 1), by rw [← List.drop_eq_getElem_cons hi, List.take_append_drop], by rw [List.length_take]; omega⟩
  have hx : x ∈ ks := by rw [ep]; simp
  have ax : L2.atI (ks.map kindD) (i : Int) = some (kindD x) := atI_nat (by rw [List.getElem?_map, ep, List.getElem?_append_right (by omega), hpl, Nat.sub_self]; rfl)
  obtain ⟨kn, r⟩ := x
  refine ⟨_, ax, _, rfl, rfl, _, _, rfl, _, _, rfl, rfl, ?_⟩
  simp only [lenD]
  have g2 := g.s2 _ hx
  have g2' : 0 < r.length := List.length_pos_iff.mpr (g.kb _ hx)
  refine ⟨_, rfl, by rw [List.length_map]; omega, log_small (by rw [List.length_map]; have h8 : r.length ≤ 8 := g2; omega), fun v w0 w1 => ?_⟩
  obtain ⟨j, rfl⟩ : ∃ j : Nat, v = j := ⟨v.toNat, by omega⟩
  have hj : j < r.length := by rw [List.length_map] at w1; omega
  obtain ⟨rp, b, rq, er, hrl⟩ : ∃ rp b rq, r = rp ++ b :: rq ∧ rp.length = j := ⟨r.take j, r[j], r.drop (j + 1), by rw [← List.drop_eq_getElem_cons hj, List.take_append_drop], by rw [List.length_take]; omega⟩
  have ab : L2.atI (r.map boughD) (j : Int) = some (boughD b) := atI_nat (by rw [List.getElem?_map, er, List.getElem?_append_right (by omega), hrl, Nat.sub_self]; rfl)
  obtain ⟨bn, fs⟩ := b
  refine ⟨_, ab, _, rfl, rfl, _, _, rfl, _, _, rfl, rfl, ?_⟩
  refine ⟨ks, 2, rfl, g, by decide, fun nw hnl hnd hnok => ?_⟩
  obtain ⟨n0, n1, rfl⟩ : ∃ n0 n1, nw = [n0, n1] := by
    match nw, hnl with
    | [a, b], _ => exact ⟨a, b, rfl⟩
  refine ⟨_, atI_nat (j := 0) rfl, _, atI_nat (j := 1) rfl, ?_⟩
  have g3 : fs.length ≤ 8 := g.s3 _ hx (bn, fs) (by show (bn, fs) ∈ r; rw [er]; simp)
  have g28 : r.length ≤ 8 := g2
  obtain ⟨⟨k0, r0⟩, kt, e0⟩ : ∃ k0 kt, ks = k0 :: kt := by
    cases hks : ks with
    | nil => exact absurd hks g.ne
    | cons a b => exact ⟨a, b, rfl⟩
  have h0 : (k0, r0) ∈ ks := by rw [e0]; simp
  have g20 : r0.length ≤ 8 := g.s2 _ h0
  have a0 : L2.atI (ks.map kindD) 0 = some (kindD (k0, r0)) := atI_nat (j := 0) (by rw [e0]; rfl)
  refine ⟨by decide, by decide, by decide, by decide, by decide, small_len (by simp; omega), ?_⟩
  refine ⟨by decide, _, rfl, _, a0, _, atI_nat (j := 0) rfl, _, a0, _, atI_nat (j := 1) rfl, _, atI_nat (j := 0) rfl, by decide, by decide, by decide, small_len (by simp; omega), by decide, by decide, small_len (by simp [cutD]; omega), small_lt (by show 2 ≤ 1000; decide), by decide, small_len (by simp; omega), by decide, by decide, _, atI_nat (j := 0) rfl, by decide, by decide, ?_⟩
  have hkd : kindsD ks = .tup (ks.map kindD) := rfl
  have eA : D.tup (ks.map kindD ++ [D.tup [D.str n0, D.tup [D.tup [D.str n1, D.tup []]]]]) = kindsD (ks ++ [(n0, [(n1, [])])]) := by simp [kindsD, kindD, boughD]
  have eB : D.tup (ks.map kindD).reverse = kindsD ks.reverse := by simp [kindsD]
  have eC : D.tup (D.tup [D.str k0, D.tup (r0.map boughD ++ [D.tup [D.str n0, D.tup []]])] :: cutD (ks.map kindD) (some 1) none) = kindsD ((k0, r0 ++ [(n0, [])]) :: kt) := by
    have := cutD_from (ks.map kindD) 1
    rw [show ((1 : Nat) : Int) = 1 from rfl] at this
    rw [this, e0]
    simp [kindsD, kindD, boughD]
  have b1 : D.tup [D.str bn, D.tup (cutD (D.str ("num" : Str) :: fs.map D.str) none (some 8))] = boughD (bn, (numS :: fs).take 8) := by
    have := cutD_to (D.str ("num" : Str) :: fs.map D.str) 8
    rw [show ((8 : Nat) : Int) = 8 from rfl] at this
    rw [this]
    unfold boughD
    rw [List.map_take]
    rfl
  have b2 : D.tup [D.str bn, D.tup (cutD (fs.map D.str) (some 1) none)] = boughD (bn, fs.drop 1) := by
    have := cutD_from (fs.map D.str) 1
    rw [show ((1 : Nat) : Int) = 1 from rfl] at this
    rw [this]
    unfold boughD
    rw [List.map_drop]
  have b4 : D.tup [D.str bn, D.tup (fs.map D.str).reverse] = boughD (bn, fs.reverse) := by
    unfold boughD
    rw [List.map_reverse]
  have epl : (ks.map kindD).take i = pre.map kindD := by rw [← List.map_take, ep, List.take_left' hpl]
  have epr : (ks.map kindD).drop (i + 1) = post.map kindD := by rw [← List.map_drop, ep, ← hpl]; simp
  have erl : (r.map boughD).take j = rp.map boughD := by rw [← List.map_take, er, List.take_left' hrl]
  have err : (r.map boughD).drop (j + 1) = rq.map boughD := by rw [← List.map_drop, er, ← hrl]; simp
  have c1 : cutD (ks.map kindD) none (some (i : Int)) = pre.map kindD := (cutD_to _ _).trans epl
  have c2 : cutD (ks.map kindD) (some ((i : Int) + 1)) none = post.map kindD := (cutD_from _ (i + 1)).trans epr
  have c3 : cutD (r.map boughD) none (some (j : Int)) = rp.map boughD := (cutD_to _ _).trans erl
  have c4 : cutD (r.map boughD) (some ((j : Int) + 1)) none = rq.map boughD := (cutD_from _ (j + 1)).trans err
  have lks : ks.length = pre.length + (post.length + 1) := by rw [ep]; simp
  have lr : r.length = rp.length + (rq.length + 1) := by rw [er]; simp
  refine ⟨by decide, ?_⟩
  dsimp only [List.cons_append, List.nil_append]
  rw [eA, eB, eC, b1, b2, b4]
  simp only [itemsD]
  have g' : Wel (pre ++ (kn, rp ++ (bn, fs) :: rq) :: post) := by rw [← er, ← ep]; exact g
  have hks : pre ++ (kn, rp ++ (bn, fs) :: rq) :: post = ks := by rw [← er, ← ep]
  have fin := g.fl _ hx (bn, fs) (by show (bn, fs) ∈ r; rw [er]; simp)
  have nn0 := hnok n0 (by simp)
  have nn1 := hnok n1 (by simp)
  have hbn : nameOk bn = true := g.bn _ hx (bn, fs) (by show (bn, fs) ∈ r; rw [er]; simp)
  generalize hmk : (fun b' : Bough => pre ++ (kn, rp ++ b' :: rq) :: post) = mk
  generalize hrows : [((bn, (numS :: fs).take 8) : Bough), (bn, fs.drop 1), (n0, fs), (bn, fs.reverse)] = rows
  have er4 : [boughD (bn, (numS :: fs).take 8), boughD (bn, fs.drop 1), D.tup [D.str n0, D.tup (fs.map D.str)], boughD (bn, fs.reverse)] = rows.map boughD := by rw [← hrows]; rfl
  rw [er4]
  have wrow : ∀ b' ∈ rows, Wel (mk b') := fun b' hb' => by
    rw [← hmk]
    rw [← hrows] at hb'
    simp only [List.mem_cons, List.not_mem_nil, or_false] at hb'
    rcases hb' with rfl | rfl | rfl | rfl
    · refine g'.row hbn (.inl rfl) (by rw [List.length_take]; omega) fun f hf => ?_
      rw [hks]
      rcases List.mem_cons.mp (List.mem_of_mem_take hf) with rfl | hf
      · exact .inl rfl
      · exact fin f hf
    · refine g'.row hbn (.inl rfl) (by show (fs.drop 1).length ≤ 8; rw [List.length_drop]; omega) fun f hf => ?_
      rw [hks]
      exact fin f (List.mem_of_mem_drop hf)
    · refine g'.row nn0.1 (.inr (by rw [hks]; exact nn0.2.2)) g3 fun f hf => ?_
      rw [hks]
      exact fin f hf
    · refine g'.row hbn (.inl rfl) (by show fs.reverse.length ≤ 8; rw [List.length_reverse]; exact g3) fun f hf => ?_
      rw [hks]
      exact fin f (List.mem_reverse.mp hf)
  have hr4 : rows.length = 4 := by rw [← hrows]; rfl
  refine forD_ind (fun (l : List D) ρ => ∃ (done rest : List Bough) (u10 u11 u12 : Option Ent), rows = done ++ rest ∧ l = rest.map boughD ∧ ρ = [some (.dat (.opq a)), some (.dat (.tup (ks.map kindD))), some (.dat (.int (i : Nat))), some (.dat (.str kn)), some (.dat (.tup (r.map boughD))), some (.dat (.int (j : Nat))), some (.dat (.str bn)), some (.dat (.tup (fs.map D.str))), some (.dat (.lst [.str n0, .str n1])), some (.own (([ks ++ [(n0, [(n1, [])])], ks.reverse, (k0, r0 ++ [(n0, [])]) :: kt] ++ done.map mk).map kindsD)), u10, u11, u12]) (fun ρ ⟨done, rest, u10, u11, u12, e1, e2, e⟩ => ?_) (fun d l ρ R ⟨done, rest, u10, u11, u12, e1, e2, e⟩ hR => ?_) _ _ ⟨[], rows, none, none, none, rfl, rfl, rfl⟩
  · subst e
    have : rest = [] := by simpa using e2.symm
    subst this
    rw [List.append_nil] at e1
    subst e1
    refine ⟨_, rfl, _, rfl, _, rfl, _, rfl, ?_⟩
    simp only [sliceD, c1]
    refine ⟨_, rfl, _, rfl, ?_⟩
    simp only [revGD]
    refine ⟨by decide, by decide, small_len (by simp; omega), _, rfl, _, rfl, ?_⟩
    simp only [addD, intD]
    refine ⟨_, rfl, ?_⟩
    simp only [sliceD, c2]
    have eT : D.tup (pre.map kindD ++ [D.tup [D.str kn, D.tup (r.map boughD).reverse]] ++ post.map kindD) = kindsD (pre ++ (kn, r.reverse) :: post) := by simp [kindsD, kindD]
    refine ⟨small_len (by simp; omega), ?_⟩
    rw [eT]
    refine ⟨small_lt (by simp [hr4]), _, rfl, trivial, _, rfl, ?_⟩
    have wA : ks.length < 6 → Wel (ks ++ [(n0, [(n1, [])])]) := fun h => g.add nn0.1 nn1.1 nn0.2.1 nn1.2.2 h
    have wB : Wel ks.reverse := g.perm (List.reverse_perm ks).symm
    have wC : r0.length < 8 → Wel ((k0, r0 ++ [(n0, [])]) :: kt) := fun h => by
      have g0 : Wel ([] ++ (k0, r0) :: kt) := by rw [List.nil_append, ← e0]; exact g
      exact g0.more nn0.1 (by rw [List.nil_append, ← e0]; exact nn0.2.2) h
    have wT : Wel (pre ++ (kn, r.reverse) :: post) := by
      have g0 : Wel (pre ++ (kn, r) :: post) := by rw [← ep]; exact g
      exact g0.turn
    generalize hcs : [ks ++ [(n0, [(n1, [])])], ks.reverse, (k0, r0 ++ [(n0, [])]) :: kt] ++ rows.map mk ++ [pre ++ (kn, r.reverse) :: post] = cands
    have lmk : ∀ b', (mk b').length = ks.length := fun b' => by rw [← hmk, lks]; simp
    have hc : ∀ c ∈ cands, c ≠ [] ∧ c.length ≤ 7 ∧ (c.length < 7 → (∀ k ∈ c, k.2.length < 9) → Wel c) := fun c hc => by
      rw [← hcs] at hc
      rcases List.mem_append.mp hc with hc | hc
      · rcases List.mem_append.mp hc with hc | hc
        · simp only [List.mem_cons, List.not_mem_nil, or_false] at hc
          rcases hc with rfl | rfl | rfl
          · exact ⟨by simp, by simp; omega, fun h _ => wA (by simp at h; omega)⟩
          · exact ⟨wB.ne, by simp; omega, fun _ _ => wB⟩
          · refine ⟨by simp, by rw [e0] at gs1; simp at gs1 ⊢; omega, fun _ h => wC ?_⟩
            have := h (k0, r0 ++ [(n0, [])]) (by simp)
            simp at this
            omega
        · obtain ⟨b', hb', rfl⟩ := List.mem_map.mp hc
          exact ⟨(wrow b' hb').ne, by rw [lmk]; omega, fun _ _ => wrow b' hb'⟩
      · obtain rfl := List.mem_singleton.mp hc
        exact ⟨wT.ne, by have := wT.s1; omega, fun _ _ => wT⟩
    have lcs : cands.length = 8 := by rw [← hcs]; simp [hr4]
    have eL : (kindsD (ks ++ [(n0, [(n1, [])])]) :: kindsD ks.reverse :: kindsD ((k0, r0 ++ [(n0, [])]) :: kt) :: ((rows.map mk).map kindsD ++ [kindsD (pre ++ (kn, r.reverse) :: post)])) = cands.map kindsD := by rw [← hcs]; simp
    have eL2 : (([ks ++ [(n0, [(n1, [])])], ks.reverse, (k0, r0 ++ [(n0, [])]) :: kt] ++ rows.map mk).map kindsD ++ [kindsD (pre ++ (kn, r.reverse) :: post)]) = cands.map kindsD := by rw [← hcs]; simp
    dsimp only [Ent.toD]
    first | rw [eL] | rw [eL2]
    refine ⟨small_len (by rw [List.length_map, lcs]; decide), lcD_map kindsD kindsD (fun c => decide (c.length < 7) && c.all fun k => decide (k.2.length < 9)) (fun c hcm R S h1 h2 => ?_) ?_⟩
    · obtain ⟨cne, c7, _⟩ := hc c hcm
      refine ⟨_, rfl, ?_⟩
      show boolD (.bl (decide (((c.map kindD).length : Int) < 7))) _
      rw [boolD_bl, List.length_map]
      by_cases h7 : c.length < 7
      · rw [if_pos (by rw [decide_eq_true_eq]; omega)]
        refine ⟨_, rfl, ?_⟩
        show (c.map kindD).length ≤ sizeLine ∧ lcD _ _ _ _ (c.map kindD) _
        refine ⟨small_len (by rw [List.length_map]; omega), lcD_all kindD (fun k => .int (k.2.length : Nat)) (fun k hk R S r => ?_) ?_⟩
        · refine ⟨_, rfl, _, atI_nat (j := 1) rfl, ?_⟩
          show R (.int ((k.2.map boughD).length : Nat))
          rw [List.length_map]
          exact r
        · refine ⟨c.map fun k => ((k.2.length : Nat) : Int), by rw [List.map_map]; rfl, by simp [cne], fun m hm hmax => ?_⟩
          show boolD (.bl (decide (m < 9))) _
          rw [boolD_bl]
          by_cases h9 : m < 9
          · rw [if_pos (by rw [decide_eq_true_eq]; exact h9)]
            refine ⟨_, rfl, h1 ?_⟩
            rw [decide_eq_true h7, Bool.true_and, List.all_eq_true]
            intro k hk
            have := hmax _ (List.mem_map.mpr ⟨k, hk, rfl⟩)
            rw [decide_eq_true_eq]
            omega
          · rw [if_neg (by rw [decide_eq_true_eq]; exact h9)]
            refine h2 ?_
            obtain ⟨k, hk, rfl⟩ := List.mem_map.mp hm
            rw [Bool.and_eq_false_iff]
            refine .inr ?_
            rw [Bool.eq_false_iff]
            intro z
            rw [List.all_eq_true] at z
            have := z k hk
            rw [decide_eq_true_eq] at this
            omega
      · rw [if_neg (by rw [decide_eq_true_eq]; omega)]
        exact h2 (by rw [decide_eq_false h7]; rfl)
    · refine q _ (fun k' hk' => ?_) (by rw [← lcs]; exact List.length_filter_le _ _)
      obtain ⟨hm, hp⟩ := List.mem_filter.mp hk'
      rw [Bool.and_eq_true, decide_eq_true_eq, List.all_eq_true] at hp
      exact (hc k' hm).2.2 hp.1 fun k hk => by simpa using hp.2 k hk
  · subst e
    cases rest with
    | nil => cases e2
    | cons b' rest =>
      rw [List.map_cons] at e2
      obtain ⟨rfl, rfl⟩ := List.cons.inj e2
      have ld : done.length ≤ 4 := by rw [← hr4, e1]; simp
      refine ⟨_, rfl, _, rfl, _, rfl, _, rfl, ?_⟩
      simp only [sliceD, c1, c3]
      refine ⟨_, rfl, _, rfl, _, rfl, _, rfl, ?_⟩
      simp only [sliceD, c1, c3]
      refine ⟨_, rfl, by decide, small_len (by simp; omega), _, rfl, _, rfl, _, rfl, ?_⟩
      simp only [sliceD, c4]
      refine ⟨small_len (by simp; omega), by decide, by decide, small_len (by simp; omega), _, rfl, _, rfl, _, rfl, ?_⟩
      simp only [sliceD, c2]
      have eM : D.tup (pre.map kindD ++ [D.tup [D.str kn, D.tup (rp.map boughD ++ [boughD b'] ++ rq.map boughD)]] ++ post.map kindD) = kindsD (mk b') := by rw [← hmk]; simp [kindsD, kindD]
      refine ⟨small_len (by simp; omega), small_lt (by simp; omega), ?_⟩
      rw [eM]
      exact hR _ ⟨done ++ [b'], rest, some (.dat (boughD b')), u11, u12, by rw [e1]; simp, rfl, by simp⟩
end
end KB
namespace KB
open PySem L2 Dk
open PyProof.Rows (envOfC)
abbrev s__law_bare_right : Stmt := top 47
theorem sc__law_bare_right : FnScope ["_law_deck_here", "_law_own_kinds", "_law_at", "_law_first", "_law_second", "_law_third", "_law_fourth", "_law_loop", "_law_two"] ["_law_deck_here", "_law_own_kinds"] (defScope s__law_bare_right) := ⟨rfl, rfl, rfl, by decide +kernel, rfl, by decide +kernel, by decide +kernel⟩
theorem bd__law_bare_right (kV doc pm : Value) (an : Option Addr) (cdv ct : Value) (us : List Value) (hl : us.length = 2) : bindArgs (PySem.W.fnOf "_law_bare_right" "_law_bare_right" (defArgs s__law_bare_right) (defBody s__law_bare_right) (defScope s__law_bare_right) .none kV doc pm an cdv ct) ⟨us, []⟩ = pure ((["_law_deck_here", "_law_own_kinds"] : List Str).zip us) := by
  match us, hl with
  | [v0, v1], _ => rfl
theorem first_uniq {p : Kind → Bool} : ∀ {pre pre' : List Kind} {x k : Kind} {post post' : List Kind}, pre ++ x :: post = pre' ++ k :: post' → (∀ a ∈ pre, p a = true) → p x = false → (∀ a ∈ pre', p a = true) → p k = false → x = k
  | [], [], x, k, _, _, e, _, _, _, _ => (List.cons.inj e).1
  | [], a :: pre', x, k, _, _, e, _, hx, h', _ => by
    have := (List.cons.inj e).1
    subst this
    rw [h' x (by simp)] at hx
    cases hx
  | a :: pre, [], x, k, _, _, e, h, _, _, hk => by
    have := (List.cons.inj e).1
    subst this
    rw [h a (by simp)] at hk
    cases hk
  | a :: pre, b :: pre', x, k, _, _, e, h, hx, h', hk => first_uniq (List.cons.inj e).2 (fun c hc => h c (List.mem_cons_of_mem _ hc)) hx (fun c hc => h' c (List.mem_cons_of_mem _ hc)) hk
theorem heard_is {ks pre post : List Kind} {x : Kind} {Q : D → Prop} {E : Ex → Prop} (g : Wel ks) (e : ks = pre ++ x :: post) (h : ∀ a ∈ pre, wthy ks a.1 = true) (hx : wthy ks x.1 = false) (q : Q (.str x.1)) : spBareH.f [kindsD ks] Q E := by
  refine ⟨ks, rfl, g, fun z => ?_, fun pre' k post' e' h' hk => ?_⟩
  · have := z x (by rw [e]; simp)
    rw [hx] at this
    cases this
  · have := first_uniq (p := fun k => wthy ks k.1) (e.symm.trans e') h hx h' hk
    subst this
    exact q
theorem Wel.merge {ks lp : List Kind} (g : Wel ks) (h : Wel lp) (dk : ∀ x ∈ kNames lp, x ∉ kNames ks) (db : ∀ x ∈ bNames lp, x ∉ bNames ks) (hl : ks.length + lp.length ≤ 6) : Wel (ks ++ lp) where
  ne := fun e => g.ne (List.append_eq_nil_iff.mp e).1
  kn := fun k hk => (List.mem_append.mp hk).elim (g.kn k) (h.kn k)
  kb := fun k hk => (List.mem_append.mp hk).elim (g.kb k) (h.kb k)
  bn := fun k hk => (List.mem_append.mp hk).elim (g.bn k) (h.bn k)
  nd := by rw [kNames_app]; exact List.nodup_append.mpr ⟨g.nd, h.nd, fun a ha b hb e => dk b hb (e ▸ ha)⟩
  bd := by rw [bNames_app']; exact List.nodup_append.mpr ⟨g.bd, h.bd, fun a ha b hb e => db b hb (e ▸ ha)⟩
  fl := fun k hk b hb f hf => by
    rw [kNames_app]
    rcases List.mem_append.mp hk with hk | hk
    · exact (g.fl k hk b hb f hf).imp id fun z => List.mem_append_left _ z
    · exact (h.fl k hk b hb f hf).imp id fun z => List.mem_append_right _ z
  s1 := by rw [List.length_append]; exact hl
  s2 := fun k hk => (List.mem_append.mp hk).elim (g.s2 k) (h.s2 k)
  s3 := fun k hk => (List.mem_append.mp hk).elim (g.s3 k) (h.s3 k)
def loopK (a c d : Str) : List Kind := [(a, [(c, [numS, a]), (d, [a])])]
def twoK (a b c d : Str) : List Kind := [(a, [(c, [b])]), (b, [(d, [a, numS])])]
theorem loop_wel {a c d : Str} (ha : nameOk a = true) (hc : nameOk c = true) (hd : nameOk d = true) (n : c ≠ d) : Wel (loopK a c d) where
  ne := by simp [loopK]
  kn := by simp [loopK, ha]
  kb := by simp [loopK]
  bn := fun k hk b hb => by
    obtain rfl : k = _ := by simpa [loopK] using hk
    simp only [List.mem_cons, List.not_mem_nil, or_false] at hb
    rcases hb with rfl | rfl
    · exact hc
    · exact hd
  nd := by simp [loopK, kNames]
  bd := by simp [loopK, bNames, n]
  fl := fun k hk b hb f hf => by
    obtain rfl : k = _ := by simpa [loopK] using hk
    simp only [List.mem_cons, List.not_mem_nil, or_false] at hb
    rcases hb with rfl | rfl
    · simpa [loopK, kNames] using hf
    · simpa [loopK, kNames] using Or.inr (by simpa using hf)
  s1 := by simp [loopK]
  s2 := by simp [loopK]
  s3 := fun k hk b hb => by
    obtain rfl : k = _ := by simpa [loopK] using hk
    simp only [List.mem_cons, List.not_mem_nil, or_false] at hb
    rcases hb with rfl | rfl
    · exact (by decide : 2 ≤ 8)
    · exact (by decide : 1 ≤ 8)
theorem two_wel {a b c d : Str} (ha : nameOk a = true) (hb : nameOk b = true) (hc : nameOk c = true) (hd : nameOk d = true) (n : a ≠ b) (n2 : c ≠ d) : Wel (twoK a b c d) where
  ne := by simp [twoK]
  kn := by simp [twoK, ha, hb]
  kb := by simp [twoK]
  bn := by simp [twoK, hc, hd]
  nd := by simp [twoK, kNames, n]
  bd := by simp [twoK, bNames, n2]
  fl := by simp [twoK, kNames]
  s1 := by simp [twoK]
  s2 := by simp [twoK]
  s3 := by simp [twoK]
theorem ins_heard {ks lp rest : List Kind} {x : Kind} {i : Nat} {Q : D → Prop} {E : Ex → Prop} (gd : Good ks) (wl : Wel lp) (elp : lp = x :: rest) (dk : ∀ x ∈ kNames lp, x ∉ kNames ks) (db : ∀ x ∈ bNames lp, x ∉ bNames ks) (hl : ks.length + lp.length ≤ 6) (hx : wthy (ks.take i ++ lp ++ ks.drop i) x.1 = false) (q : Q (.str x.1)) : spBareH.f [kindsD (ks.take i ++ lp ++ ks.drop i)] Q E := by
  have pm : (ks ++ lp).Perm (ks.take i ++ lp ++ ks.drop i) := by
    have h1 : ks ++ lp = ks.take i ++ (ks.drop i ++ lp) := by rw [← List.append_assoc, List.take_append_drop]
    rw [h1, List.append_assoc]
    exact List.Perm.append_left _ List.perm_append_comm
  refine heard_is (pre := ks.take i) (post := rest ++ ks.drop i) ((gd.wel.merge wl dk db hl).perm pm) (by rw [elp]; simp) (fun a ha => gd.wthy (fun k hk => pm.mem_iff.mp (List.mem_append_left _ hk)) (by rw [← pm.length_eq, List.length_append]; omega) a (List.mem_of_mem_take ha)) hx q
theorem loop_not {ks : List Kind} {a c d : Str} {i : Nat} (ha : nameOk a = true) (na : a ∉ kNames ks) : wthy (ks.take i ++ loopK a c d ++ ks.drop i) a = false := by
  have nn : a ≠ numS := (nameOk_split ha).2.2.1
  refine wthy_not (U := fun f => f = a) (fun k hk e b hb => ?_) a rfl
  have inK : k ∈ ks → False := fun h => na (List.mem_map.mpr ⟨k, h, e⟩)
  rcases List.mem_append.mp hk with hk | hk
  · rcases List.mem_append.mp hk with hk | hk
    · exact (inK (List.mem_of_mem_take hk)).elim
    · obtain rfl : k = _ := by simpa [loopK] using hk
      simp only [List.mem_cons, List.not_mem_nil, or_false] at hb
      rcases hb with rfl | rfl
      · exact ⟨a, by simp, nn, rfl⟩
      · exact ⟨a, by simp, nn, rfl⟩
  · exact (inK (List.mem_of_mem_drop hk)).elim
theorem two_not {ks ks' : List Kind} {a b c d : Str} (ha : nameOk a = true) (hb : nameOk b = true) (na : a ∉ kNames ks) (nb : b ∉ kNames ks) (sub : ∀ k ∈ ks', k ∈ ks ∨ k ∈ twoK a b c d) : ∀ f, f = a ∨ f = b → wthy ks' f = false := by
  have n1 : a ≠ numS := (nameOk_split ha).2.2.1
  have n2 : b ≠ numS := (nameOk_split hb).2.2.1
  refine wthy_not (U := fun f => f = a ∨ f = b) (fun k hk e x hx => ?_)
  rcases sub k hk with h | h
  · rcases e with e | e
    · exact (na (List.mem_map.mpr ⟨k, h, e⟩)).elim
    · exact (nb (List.mem_map.mpr ⟨k, h, e⟩)).elim
  · simp only [twoK, List.mem_cons, List.not_mem_nil, or_false] at h
    rcases h with rfl | rfl
    · obtain rfl : x = _ := by simpa using hx
      exact ⟨b, by simp, n2, .inr rfl⟩
    · obtain rfl : x = _ := by simpa using hx
      exact ⟨a, by simp, n1, .inl rfl⟩
def spBareR (a : Addr) : DSp where
  n := 2
  f := fun ds Q _ => ∃ ks, ds = [.opq a, kindsD ks] ∧ Good ks ∧ Q (.bl true)
  len := fun ds Q E ⟨_, e, _⟩ => by rw [e]; rfl
  mono := fun ds Q Q' E E' k _ ⟨ks, e, g, q⟩ => ⟨ks, e, g, k _ q⟩
section
variable {P : Program} {w : World} {K : PySem.W.Frag} {C CB a l : Addr} {mg : Str → Option Value} {base : Heap} {W : Wd} {k : Nat} {f : Addr} {fd : FuncData}
theorem ok_bareR (T : TxtB K C mg) (Fn : Fun K "_law_bare_right" "_law_bare_right" s__law_bare_right f fd) (C__law_draw : Cal P w K mg base CX0 (DeckW a l) k "_law_draw" ["_law_deck_here", "_law_most"] (spDraw a)) (C__law_fresh : Cal P w K mg base CX0 (DeckW a l) k "_law_fresh" ["_law_own_kinds", "_law_many"] spFresh) (C__law_bare_heard : Cal P w K mg base CX0 (DeckW a l) k "_law_bare_heard" ["_law_own_kinds"] spBareH) : GnOk P w K mg base CX0 (k + 1) f fd ["_law_deck_here", "_law_own_kinds"] (spD (DeckW a l) K (spBareR a)) := by
  refine Fn.okD sc__law_bare_right rfl fun cdv A outer s H I ds Q Ed E hr h => ?_
  have hu := hr.units
  have hu2 : (A.deeper (envOfC "_law_bare_right" (defScope s__law_bare_right) s.heap.objs.size f cdv)).units + 66 < cLine := by have := hr.room.un; omega
  obtain ⟨ks, rfl, gd, q⟩ := h
  have g := gd.wel
  have gs1 := g.s1
  refine ⟨_, (dss_cons (ds_set 2 (de_fn C__law_draw (hr.mono (by omega)) pass0 lets0 (da_cons (de_name 0) (da_cons (de_add (de_len T.b_len (da_cons (de_name 1) da_nil)) de_int) da_nil))) sc__law_bare_right.nd)
  (dss_cons (ds_asg (de_fn C__law_fresh (hr.mono (by omega)) pass0 lets0 (da_cons (de_name 1) (da_cons de_int da_nil))) (dg_lst (n := 4) rfl (dgs_cons (dg_name 3 sc__law_bare_right.nd) (dgs_cons (dg_name 4 sc__law_bare_right.nd) (dgs_cons (dg_name 5 sc__law_bare_right.nd) (dgs_cons (dg_name 6 sc__law_bare_right.nd) dgs_nil))))))
  (dss_cons (ds_set 7 (de_tup (da_cons (de_tup (da_cons (de_name 3) (da_cons (de_tup (da_cons (de_tup (da_cons (de_name 5) (da_cons (de_tup (da_cons de_str (da_cons (de_name 3) da_nil))) da_nil))) (da_cons (de_tup (da_cons (de_name 6) (da_cons (de_tup (da_cons (de_name 3) da_nil)) da_nil))) da_nil))) da_nil))) da_nil)) sc__law_bare_right.nd)
  (dss_cons (ds_set 8 (de_tup (da_cons (de_tup (da_cons (de_name 3) (da_cons (de_tup (da_cons (de_tup (da_cons (de_name 5) (da_cons (de_tup (da_cons (de_name 4) da_nil)) da_nil))) da_nil)) da_nil))) (da_cons (de_tup (da_cons (de_name 4) (da_cons (de_tup (da_cons (de_tup (da_cons (de_name 6) (da_cons (de_tup (da_cons (de_name 3) (da_cons de_str da_nil))) da_nil))) da_nil)) da_nil))) da_nil))) sc__law_bare_right.nd)
  (dss_cons (ds_if (dt_wh (dw_and (dt_c .lt (de_len T.b_len (da_cons (de_name 1) da_nil)) de_int) (dw_and1 (dt_c (.ne hu) (de_fn C__law_bare_heard (hr.mono (by omega)) pass0 lets0 (da_cons (de_add (de_add (de_slice (de_name 1) do_none (do_some (de_name 2))) (de_name 7)) (de_slice (de_name 1) (do_some (de_name 2)) do_none)) da_nil)) (de_name 3)))))
  (dss_one (ds_ret de_bl))
  dss_nil)
  (dss_cons (ds_if (dt_wh (dw_and (dt_c .lt (de_len T.b_len (da_cons (de_name 1) da_nil)) de_int) (dw_and1 (dt_c (.ne hu) (de_fn C__law_bare_heard (hr.mono (by omega)) pass0 lets0 (da_cons (de_add (de_add (de_slice (de_name 1) do_none (do_some (de_name 2))) (de_name 8)) (de_slice (de_name 1) (do_some (de_name 2)) do_none)) da_nil)) (de_name 3)))))
  (dss_one (ds_ret de_bl))
  dss_nil)
  (dss_one (ds_ret (de_and (de_c (.eq hu) (de_fn C__law_bare_heard (hr.mono (by omega)) pass0 lets0 (da_cons (de_name 8) da_nil)) (de_name 3)) (de_one (de_c (.eq hu) (de_fn C__law_bare_heard (hr.mono (by omega)) pass0 lets0 (da_cons (de_revG (de_name 8)) da_nil)) (de_name 4)))))))))))), ?_⟩
  simp only [getD_0, getD_s, set_0, set_s, boolD_bl, intD_int, startD, List.map, List.length_cons, List.length_nil, List.replicate, List.cons_append, List.nil_append, defEnds, wipeD, if_true, if_false, Bool.not_true, Bool.not_false, Bool.false_eq_true]
  simp only [kindsD, lenD]
  refine ⟨_, rfl, by rw [List.length_map]; omega, log_small (by rw [List.length_map]; omega), fun v v0 v1 => ?_⟩
  obtain ⟨i, rfl⟩ : ∃ i : Nat, v = i := ⟨v.toNat, by omega⟩
  have hi : i ≤ ks.length := by rw [List.length_map] at v1; omega
  refine ⟨ks, 4, rfl, g, by decide, fun nw hnl hnd hnok => ?_⟩
  obtain ⟨n1, n2, n3, n4, rfl⟩ : ∃ n1 n2 n3 n4, nw = [n1, n2, n3, n4] := by
    match nw, hnl with
    | [a, b, c, d], _ => exact ⟨a, b, c, d, rfl⟩
  refine ⟨_, rfl, rfl, _, _, rfl, _, _, rfl, _, _, rfl, _, _, rfl, rfl, by decide, by decide, by decide, by decide, by decide, by decide, by decide, by decide, by decide, by decide, by decide, by decide, by decide, by decide, by decide, by decide, ?_⟩
  show boolD (.bl (decide (((ks.map kindD).length : Int) < 6))) _
  rw [boolD_bl, List.length_map]
  have k1 := hnok n1 (by simp)
  have k2 := hnok n2 (by simp)
  have k3 := hnok n3 (by simp)
  have k4 := hnok n4 (by simp)
  have n12 : n1 ≠ n2 := fun e => by simp [e] at hnd
  have n34 : n3 ≠ n4 := fun e => by simp [e] at hnd
  have w2 := two_wel k1.1 k2.1 k3.1 k4.1 n12 n34
  have c1 : cutD (ks.map kindD) none (some (i : Int)) = (ks.take i).map kindD := (cutD_to _ _).trans (by rw [List.map_take])
  have c2 : cutD (ks.map kindD) (some (i : Int)) none = (ks.drop i).map kindD := (cutD_from _ _).trans (by rw [List.map_drop])
  have last : spBareH.f [kindsD (twoK n1 n2 n3 n4)] (fun x => eqD x (.str n1) fun x => boolD x fun k => if k = true then revGD (kindsD (twoK n1 n2 n3 n4)) fun d => spBareH.f [d] (fun x => eqD x (.str n2) Q) fun _ => False else Q (.bl false)) (fun _ => False) := by
    refine heard_is (pre := []) (x := (n1, [(n3, [n2])])) (post := [(n2, [(n4, [n1, numS])])]) w2 rfl (fun _ h => nomatch h) (two_not (ks := []) k1.1 k2.1 (by simp [kNames]) (by simp [kNames]) (fun k hk => .inr hk) n1 (.inl rfl)) ?_
    rw [eqD_str, decide_eq_true rfl]
    rw [boolD_bl, if_pos rfl]
    show spBareH.f [kindsD (twoK n1 n2 n3 n4).reverse] _ _
    refine heard_is (pre := []) (x := (n2, [(n4, [n1, numS])])) (post := [(n1, [(n3, [n2])])]) (w2.perm (List.reverse_perm _).symm) rfl (fun _ h => nomatch h) (two_not (ks := []) k1.1 k2.1 (by simp [kNames]) (by simp [kNames]) (fun k hk => .inr (List.mem_reverse.mp hk)) n2 (.inr rfl)) ?_
    rw [eqD_str, decide_eq_true rfl]
    exact q
  have five : ∀ {L M : Prop}, (ks.length < 5 → L) → M → if decide ((ks.length : Int) < 5) = true then L else M := fun {L M} hL hM => by
    by_cases h : ks.length < 5
    · rw [if_pos (by rw [decide_eq_true_eq]; omega)]; exact hL h
    · rw [if_neg (by rw [decide_eq_true_eq]; omega)]; exact hM
  have eTwo : D.tup ((ks.take i).map kindD ++ [D.tup [D.str n1, D.tup [D.tup [D.str n3, D.tup [D.str n2]]]], D.tup [D.str n2, D.tup [D.tup [D.str n4, D.tup [D.str n1, D.str "num"]]]]] ++ (ks.drop i).map kindD) = kindsD (ks.take i ++ twoK n1 n2 n3 n4 ++ ks.drop i) := by
    simp [kindsD, kindD, boughD, twoK, numS]
  have eLoop : D.tup ((ks.take i).map kindD ++ [D.tup [D.str n1, D.tup [D.tup [D.str n3, D.tup [D.str "num", D.str n1]], D.tup [D.str n4, D.tup [D.str n1]]]]] ++ (ks.drop i).map kindD) = kindsD (ks.take i ++ loopK n1 n3 n4 ++ ks.drop i) := by
    simp [kindsD, kindD, boughD, loopK, numS]
  have lt : (ks.take i).length ≤ 6 := by rw [List.length_take]; omega
  have ld : (ks.drop i).length ≤ 6 := by rw [List.length_drop]; omega
  have two5 : ∀ {R : D → Prop}, ks.length < 5 → R (.str n1) → spBareH.f [kindsD (ks.take i ++ twoK n1 n2 n3 n4 ++ ks.drop i)] R (fun _ => False) := fun {R} h r => by
    refine ins_heard (x := (n1, [(n3, [n2])])) gd w2 rfl (fun x hx => ?_) (fun x hx => ?_) (by show ks.length + 2 ≤ 6; omega) (two_not (ks := ks) (c := n3) (d := n4) (ks' := ks.take i ++ twoK n1 n2 n3 n4 ++ ks.drop i) k1.1 k2.1 k1.2.1 k2.2.1 (fun k hk => ?_) n1 (.inl rfl)) r
    · simp only [kNames, twoK, List.map_cons, List.map_nil, List.mem_cons, List.not_mem_nil, or_false] at hx
      rcases hx with rfl | rfl
      · exact k1.2.1
      · exact k2.2.1
    · have : x = n3 ∨ x = n4 := by simpa [bNames, twoK] using hx
      rcases this with rfl | rfl
      · exact k3.2.2
      · exact k4.2.2
    · rcases List.mem_append.mp hk with hk | hk
      · exact (List.mem_append.mp hk).imp List.mem_of_mem_take id
      · exact .inl (List.mem_of_mem_drop hk)
  by_cases h6 : ks.length < 6
  · rw [if_pos (by rw [decide_eq_true_eq]; omega)]
    refine ⟨_, rfl, ?_⟩
    simp only [sliceD, c1]
    refine ⟨small_len (by simp; omega), _, rfl, ?_⟩
    simp only [sliceD, c2]
    refine ⟨small_len (by simp; omega), ?_⟩
    rw [eLoop]
    refine ins_heard (x := (n1, [(n3, [numS, n1]), (n4, [n1])])) gd (loop_wel k1.1 k3.1 k4.1 n34) rfl (fun x hx => ?_) (fun x hx => ?_) (by show ks.length + 1 ≤ 6; omega) (loop_not k1.1 k1.2.1) ?_
    · obtain rfl : x = n1 := by simpa [kNames, loopK] using hx
      exact k1.2.1
    · have : x = n3 ∨ x = n4 := by simpa [bNames, loopK] using hx
      rcases this with rfl | rfl
      · exact k3.2.2
      · exact k4.2.2
    rw [neD_str]
    simp only [decide_true, Bool.not_true, boolD_bl]
    rw [if_neg (by decide)]
    show boolD (.bl (decide ((ks.length : Int) < 5))) _
    rw [boolD_bl]
    refine five (fun h5 => ?_) last
    refine ⟨_, rfl, ?_⟩
    simp only [sliceD, c1]
    refine ⟨small_len (by simp; omega), _, rfl, ?_⟩
    simp only [sliceD, c2]
    refine ⟨small_len (by simp; omega), ?_⟩
    rw [eTwo]
    refine two5 h5 ?_
    rw [neD_str]
    simp only [decide_true, Bool.not_true, boolD_bl]
    rw [if_neg (by decide)]
    exact last
  · rw [if_neg (by rw [decide_eq_true_eq]; omega)]
    show boolD (.bl (decide ((ks.length : Int) < 5))) _
    rw [boolD_bl, if_neg (by rw [decide_eq_true_eq]; omega)]
    exact last
end
end KB
namespace Dk
open PySem L2
abbrev DATS2 := DEnv → (List D → DEnv → Prop) → Prop
def rdIS (F : Fx) (K : PySem.W.Frag) (ti : DATS2) : TI := fun σ H QI => ∃ I ρ, At F K I ρ σ H ∧ ti ρ fun ds ρ1 => ∀ J I1 H1, Moved F σ ρ I H ρ1 I1 H1 → At F K I1 ρ1 σ H1 → JRep F.W K J I1 ds → QI J H1
structure DIS (F : Fx) (X : Cx) (tg e : Expr) (ti : DATS2) : Prop where
  mono : ∀ ρ (Q Q' : List D → DEnv → Prop), (∀ d ρ, Q d ρ → Q' d ρ) → ti ρ Q → ti ρ Q'
  run : PI X tg e (rdIS F X.K ti)
section
variable {F : Fx} {X : Cx} {tg e : Expr} {ti : DAT} {ts : DTS2}
theorem DI.dis (h : DI F X tg e ti) : DIS F X tg e (fun ρ Q => ti ρ fun ds => Q ds ρ) :=
  ⟨fun ρ Q Q' k q => h.mono _ _ _ (fun ds => k ds ρ) q, h.run.imp fun σ H R ⟨I, ρ, A, q⟩ => ⟨I, ρ, A, h.mono _ _ _ (fun ds q J I1 H1 s jr => q J I1 H1 (.of s) (A.step s) jr) q⟩⟩
end
/-- the list at E is no one's; the state that it was made in -/
structure AccB (F : Fx) (σ0 : St) (ρ0 : DEnv) (H0 : Hp) (E : Addr) : Prop where
  hm : ¬ F.W.mv E
  hB : F.B E = none
  hH : H0 E = none
  no : ¬ heldIn ρ0 σ0 E
/-- so far it holds ys -/
structure AccS (F : Fx) (K : PySem.W.Frag) (σ0 : St) (ρ0 : DEnv) (I0 H0 : Hp) (va : List Nat) (E : Addr) (I : Hp) (ρ : DEnv) (σ : St) (H : Hp) (ws : List V) (ys : List D) : Prop where
  A : At F K I ρ σ H
  sl : ∀ i, i ∉ va → σ[i]? = σ0[i]?
  ow : ∀ (i : Nat) e, ρ[i]? = some (some e) → e.isOwn → i ∉ va
  M : Moved F σ0 ρ0 I0 H0 ρ I H
  hE : H E = some (.lst ws)
  nE : I E = none
  r : Reps K I ws ys
section
variable {F : Fx} {K : PySem.W.Frag} {σ0 σ : St} {ρ0 ρ : DEnv} {I0 H0 I H I' H' : Hp} {va vs : List Nat} {E : Addr} {ws : List V} {ys : List D}
theorem AccS.wipe (S : AccS F K σ0 ρ0 I0 H0 va E I ρ σ H ws ys) (h : ∀ i ∈ vs, i ∈ va) : AccS F K σ0 ρ0 I0 H0 va E I (wipeD ρ vs) (wipe σ vs) H ws ys where
  A := S.A.wipe vs
  sl := fun i hi => (wipe_out fun z => hi (h i z)).trans (S.sl i hi)
  ow := fun i e a o => S.ow i e (wipeD_some a).1 o
  M := ⟨S.M.i, S.M.kp, fun i e a o => S.M.sub i e (wipeD_some a).1 o⟩
  hE := S.hE
  nE := S.nE
  r := S.r
theorem AccS.step (S : AccS F K σ0 ρ0 I0 H0 va E I ρ σ H ws ys) (B : AccB F σ0 ρ0 H0 E) (s : Stp F.W I H I' H') : AccS F K σ0 ρ0 I0 H0 va E I' ρ σ H' ws ys where
  A := S.A.step s
  sl := S.sl
  ow := S.ow
  M := ⟨Same.trans S.M.i s.i, fun p o e n mm nh => let ⟨e1, n1⟩ := S.M.kp p o e n mm nh; ⟨s.h _ _ e1 mm, s.new _ _ e1 n1⟩, S.M.sub⟩
  hE := s.h _ _ S.hE B.hm
  nE := s.new _ _ S.hE S.nE
  r := S.r.mono s.i
/-- held then is held at first -/
theorem AccS.back (S : AccS F K σ0 ρ0 I0 H0 va E I ρ σ H ws ys) {p : Addr} (h : heldIn ρ σ p) : heldIn ρ0 σ0 p := by
  obtain ⟨i, e, a, o, b⟩ := h
  obtain ⟨e0, a0, o0⟩ := S.M.sub i e a o
  exact ⟨i, e0, a0, o0, by rw [← S.sl i (S.ow i e a o)]; exact b⟩
end
abbrev DBT := Nat → DEnv → (List D → DEnv → Prop) → Prop
def loopE (g : DGT) (tc : DB) (bt : DBT) (vs : List Nat) : Nat → List D → DEnv → (List D → DEnv → Prop) → Prop
  | _, [], ρ, Q => Q [] ρ
  | n, d :: ds, ρ, Q => g d ρ fun ρ2 => tc ρ2 fun b => if b = true then bt n ρ2 fun zs ρ3 => loopE g tc bt vs (n + zs.length) ds (wipeD ρ3 vs) fun ys ρ4 => Q (zs ++ ys) ρ4 else loopE g tc bt vs n ds (wipeD ρ2 vs) Q
theorem loopE.mono {g : DGT} {tc : DB} {bt : DBT} {vs : List Nat} (hg : ∀ d ρ (Q Q' : DEnv → Prop), (∀ ρ, Q ρ → Q' ρ) → g d ρ Q → g d ρ Q') (ht : ∀ ρ (Q Q' : Bool → Prop), (∀ d, Q d → Q' d) → tc ρ Q → tc ρ Q') (hb : ∀ n ρ (Q Q' : List D → DEnv → Prop), (∀ d ρ, Q d ρ → Q' d ρ) → bt n ρ Q → bt n ρ Q') :
    ∀ (n : Nat) (ds : List D) (ρ : DEnv) (Q Q' : List D → DEnv → Prop), (∀ ys ρ, Q ys ρ → Q' ys ρ) → loopE g tc bt vs n ds ρ Q → loopE g tc bt vs n ds ρ Q'
  | n, [], ρ, Q, Q', k, h => k _ _ h
  | n, d :: ds, ρ, Q, Q', k, h => hg _ _ _ _ (fun ρ2 q => ht _ _ _ (fun b q => by
      cases b
      · exact loopE.mono hg ht hb n ds _ _ _ k q
      · exact hb _ _ _ _ (fun zs ρ3 q => loopE.mono hg ht hb _ ds _ _ _ (fun ys ρ4 => k _ _) q) q) q) h
end Dk
namespace Dk
open PySem L2
end Dk
namespace Dk
open PySem L2
/-- the inner list of slot g, where there is one, goes into the dict of slot i -/
def sinkR (i g : Nat) (t : DEnv → Prop) (ρ : DEnv) : Prop := t ρ ∨ ∃ n kvs k q xs, ρ[i]? = some (some (.ownD kvs)) ∧ ρ[g]? = some (some (.ownL q xs)) ∧ kvs[n]? = some (k, .opq q) ∧ t ((ρ.set g (some (.dat (.lst xs)))).set i (some (.ownD (kvs.set n (k, .lst xs)))))
theorem sinkR.of {i g : Nat} {t : DEnv → Prop} {ρ : DEnv} (P : DEnv → Prop) (h : ∀ ρ', P ρ' → t ρ') (hc : sinkR i g P ρ) : sinkR i g t ρ :=
  hc.imp (h _) fun ⟨n, kvs, k, q, xs, a, b, c, d⟩ => ⟨n, kvs, k, q, xs, a, b, c, h _ d⟩
end Dk
namespace Dk
open PySem L2
end Dk
namespace Dk
open PySem L2
end Dk
namespace Dk
open PySem L2
end Dk
namespace Tre
open PySem PySem.SeqAt PySem.W PyProof.Rows
open PySem.AutoSeq1 (wpAny_loadPart')
open PySem.MeetsSeq PySem.MeetsSeq2 PySem.MeetsSeq3 PySem.SeqRoads2
mutual
/-- comparable up to the first place that differs -/
def cmpU : PyData → PyData → Bool
  | .int _, .int _ => true
  | .str _, .str _ => true
  | .tuple xs, .tuple ys => cmpUs xs ys
  | _, _ => false
def cmpUs : List PyData → List PyData → Bool
  | x :: xs, y :: ys => cmpU x y && (!PyData.eqv x y || cmpUs xs ys)
  | [], _ => true
  | _ :: _, [] => true
end
end Tre
namespace Tre
open PySem PySem.SeqAt PySem.W PyProof.Rows Srt SrtO
/-- the order of what reads as data -/
def ltD (dat : Value → PyData) (u v : Value) : Bool := dataLt (dat u) (dat v)
section
variable {prog : Program} {w : World} {A : Around} {E : Value → Shared → Prop} {s : Shared}
/-- rows that may be sorted -/
structure KeysU (h : Heap) (A : Around) (vs : List Value) (dat : Value → PyData) (T : Value) : Prop where
  rd : ∀ v, v ∈ vs → ∃ as, Reads h v (dat v) as
  tup : ∀ v, v ∈ vs → ∃ x r, dat v = .tuple (x :: r) ∧ dataType x = T
  nt : (T != Value.type "tuple") = true
  tt : (T == T) = true
  cmp : ∀ v, v ∈ vs → ∀ u, u ∈ vs → cmpU (dat v) (dat u) = true
  lay : ∀ v, v ∈ vs → (dat v).canLay0 = true
  rm : ∀ v, v ∈ vs → A.units + (dat v).depth < cLine
theorem KeysU.keeps {h h' : Heap} {vs : List Value} {dat : Value → PyData} {T : Value} (K : KeysU h A vs dat T) (k : ∀ b o, h.get? b = some o → h'.get? b = some o) : KeysU h' A vs dat T :=
  ⟨fun v hv => let ⟨as, r⟩ := K.rd v hv; ⟨as, PyProof.Rows.Reads.keeps k r⟩, K.tup, K.nt, K.tt, K.cmp, K.lay, K.rm⟩
theorem each_dat {h : Heap} {dat : Value → PyData} : ∀ {vs : List Value}, (∀ v, v ∈ vs → ∃ as, Reads h v (dat v) as) → EachIs (fun v d => ∃ as, Reads h v d as) vs (vs.map dat)
  | [], _ => .nil
  | v :: vs, k => .cons (k v (List.mem_cons_self ..)) (each_dat fun u hu => k u (List.mem_cons_of_mem _ hu))
theorem KeysU.kind {vs : List Value} {dat : Value → PyData} {T : Value} {Q : SortKind → Shared → Prop} (K : KeysU s.heap A vs dat T) (h2 : 0 < vs.length) (hq : Q (tuples' true) s) : wpAny (model prog w) A (keyKind' vs.toArray) Q E s := by
  obtain ⟨fs, t1, t2, t3⟩ := each_katTups (each_dat K.rd) fun d hd => by
    obtain ⟨v, hv, rfl⟩ := List.mem_map.mp hd
    obtain ⟨x, r, e, _⟩ := K.tup v hv
    exact ⟨x, r, e⟩
  refine kat_kind (T := T) t1 (by omega) (fun f hf => ?_) K.tt (by rw [K.nt]; exact hq)
  obtain ⟨x, r, as, m1, m2⟩ := t3 f hf
  obtain ⟨v, hv, e⟩ := List.mem_map.mp m1
  obtain ⟨x', r', e', tx⟩ := K.tup v hv
  rw [e'] at e
  injection e with e
  obtain ⟨rfl, rfl⟩ := List.cons.inj e
  rw [← tx]
  exact looks_reads m2
end
end Tre
namespace Tre
open PySem PySem.SeqAt PySem.W PyProof.Rows Srt SrtO
end Tre
namespace Dk
open PySem L2 Tre
end Dk
namespace Dk
open PySem L2 Tre
open PyProof.Rows Srt SrtO
end Dk
namespace Dk
open PySem L2 LamX
/-- the table at P: each code object that it tells stands still, and bears the name q -/
def TabI (I H : Hp) (P : Addr) (q : Str) : Prop := ∃ ps : Array Value, H P = some (.tbl ps) ∧ TriplesOk ps.toList ∧ ∀ (pos : Pos) (cv : Value), codeAmong pos ps.toList = some cv → ∃ c, cv = .ref c ∧ I c = some (CodeO c q)
theorem TabI.keep {I H I' H' : Hp} {P : Addr} {q : Str} (t : TabI I H P q) (s : SameX I I') (e : H' P = H P) : TabI I' H' P q := by
  obtain ⟨ps, h1, h2, h3⟩ := t
  refine ⟨ps, e.trans h1, h2, fun pos cv hc => ?_⟩
  obtain ⟨c, e1, e2⟩ := h3 pos cv hc
  exact ⟨c, e1, s _ _ e2⟩
theorem TabI.nil {I H : Hp} {P : Addr} {q : Str} (h : H P = some (.tbl #[])) : TabI I H P q := ⟨#[], h, True.intro, fun pos cv hc => by
  have z : codeAmong pos [] = some cv := hc
  simp [codeAmong] at z⟩
end Dk
namespace Dk
open PySem L2 NdefX LamX
end Dk
namespace Dk
open PySem L2 NdefX LamX
open PyProof.Rows (seqObj listItems_at listUpdate_at get?_update_seq)
end Dk
namespace Dk
open PySem L2 NdefX LamX
open PyProof.Rows (envOfC)
/-- a def of the text, its defaults dV, its code at c -/
structure FunV (K : PySem.W.Frag) (x qual : Str) (st : Stmt) (f : Addr) (fd : FuncData) (dV : Value) (c : Addr) : Prop where
  ex : ∃ (oc : Value) (od : Option Addr) (kV doc pm : Value) (an : Option Addr) (ct : Value) (osl : Array (Option Value)),
    fd = PySem.W.fnOf x qual (defArgs st) (defBody st) (defScope st) dV kV doc pm an (.ref c) ct ∧ K.lookup f = some ⟨oc, od, .func fd, osl⟩ ∧ PySem.W.codeIn K (.ref c) qual = true
  kp : PySem.W.keepIn K (.ref f) = true
section
variable {P : Program} {w : World} {K : PySem.W.Frag} {mg : Str → Option Value} {base : Heap} {dV : Value} {c : Addr}
theorem FunV.okD {W : Wd} {S : DSp} {x qual : Str} {st : Stmt} {f : Addr} {fd : FuncData} {N ps : List Str} {k : Nat} (Fn : FunV K x qual st f fd dV c) (Sc : FnScope N ps (defScope st)) (hn : S.n = ps.length)
    (hbody : ∀ (A : Around) (outer : List Env) (s : Shared) (H I : Hp) (ds : List D) (Q : D → Prop) (Ed : Ex → Prop) (E : XK), Rm k (A.deeper (envOfC qual (defScope st) s.heap.objs.size f (.ref c))) → S.f ds Q Ed →
      ∃ t, DSts ⟨W, H, I⟩ (cxOf CX0 P w K mg base N qual (defScope st) f (.ref c) A outer s H E).nox (defBody st) t ∧ t (defEnds Q) (startD N ds)) : GnOk P w K mg base CX0 (k + 1) f fd ps (spD W K S) := by
  obtain ⟨oc, od, kV, doc, pm, an, ct, osl, rfl, lk, hcd⟩ := Fn.ex
  refine gn_of lk hcd Sc (fun vs H Q E h => (spD_len _ _ _ _ h).trans hn) fun A outer s H vs Q E hr ⟨I, ds, si, r, h⟩ => ?_
  obtain ⟨t, h1, h2⟩ := hbody A outer s H I ds _ _ E hr h
  exact ⟨_, h1.run.nox, body_run rfl h1 si r h2⟩
/-- how it is called: the arguments us, behind them its own defaults from the j-th on -/
theorem FunV.binds {x qual : Str} {st : Stmt} {f T : Addr} {o : Obj} {its : List Value} {m n j : Nat} {fd : FuncData} {ps : List Str} (Fn : FunV K x qual st f fd (.ref T) c) (lT : K.lookup T = some o) (oT : o.data = .seq its.toArray m) (hn : n + (its.length - j) = ps.length)
    (h : ∀ (T : Addr) (kV doc pm : Value) (an : Option Addr) (cdv ct : Value) (us js : List Value), us.length = n → js.length = its.length → ∃ k, bindArgs (PySem.W.fnOf x qual (defArgs st) (defBody st) (defScope st) (.ref T) kV doc pm an cdv ct) ⟨us, []⟩ = seqItems? (.ref T) >>= k ∧ k (some js.toArray) = pure (ps.zip (us ++ js.drop j))) : Binds K fd ps (its.drop j) := by
  obtain ⟨oc, od, kV, doc, pm, an, ct, osl, rfl, lk, hcd⟩ := Fn.ex
  refine fun s us X hlen => ?_
  have l2 : us.length = n := by
    rw [List.length_append, List.length_drop] at hlen
    omega
  obtain ⟨k, e1, e2⟩ := h T kV doc pm an (.ref c) ct us its l2 rfl
  refine BindsTo.of_looks fun M => ?_
  rw [e1]
  exact looks_items X lT oT (.of_pure e2)
end
end Dk
namespace Dk
open PySem L2
theorem passCX {X : Cx} : Passes (L2.CX X.prog X.w) X E0 := fun _ _ _ _ _ _ _ ⟨_, _, _, _, _, _, _, _, _, _, _, _, h⟩ => h.elim
end Dk
namespace KB
open PySem L2 Dk
open PyProof.Rows (envOfC)
abbrev s__law_row_right : Stmt := top 48
theorem sc__law_row_right : FnScope ["_law_names_here", "_law_ends", "_law_letter", "_law_row", "_law_k", "_law_good", "_law_ring", "_law_midst", "_law_found"] [] (defScope s__law_row_right) := ⟨rfl, rfl, rfl, by decide +kernel, rfl, by decide +kernel, by decide +kernel⟩
theorem bd__law_row_right (kV doc pm : Value) (an : Option Addr) (cdv ct : Value) (us : List Value) (hl : us.length = 0) : bindArgs (PySem.W.fnOf "_law_row_right" "_law_row_right" (defArgs s__law_row_right) (defBody s__law_row_right) (defScope s__law_row_right) .none kV doc pm an cdv ct) ⟨us, []⟩ = pure (([] : List Str).zip us) := by
  match us, hl with
  | [], _ => rfl
def rowN : List Str := (tl "abcdef").map fun c => ("row" : Str) ++ (⟨#[c]⟩ : Str)
def endN : List Str := (tl "abcdef").map fun c => ("end" : Str) ++ (⟨#[c]⟩ : Str)
def rN (k : Nat) : Str := rowN.getD k ""
def eN (k : Nat) : Str := endN.getD k ""
def rowR : List Kind := (List.range 5).map fun k => (rN k, [(eN k, [rN (k + 1)])])
def goodR : List Kind := rowR ++ [(rN 5, [(eN 5, [])])]
def ringR : List Kind := rowR ++ [(rN 5, [(eN 5, [rN 5])])]
def midR : List Kind := rowR.take 2 ++ [(rN 2, [(eN 2, [rN 2])])] ++ goodR.drop 3
theorem good_wel : Wel goodR := ⟨by decide +kernel, by decide +kernel, by decide +kernel, by decide +kernel, by decide +kernel, by decide +kernel, by decide +kernel, by decide +kernel, by decide +kernel, by decide +kernel⟩
theorem ring_wel : Wel ringR := ⟨by decide +kernel, by decide +kernel, by decide +kernel, by decide +kernel, by decide +kernel, by decide +kernel, by decide +kernel, by decide +kernel, by decide +kernel, by decide +kernel⟩
theorem mid_wel : Wel midR := ⟨by decide +kernel, by decide +kernel, by decide +kernel, by decide +kernel, by decide +kernel, by decide +kernel, by decide +kernel, by decide +kernel, by decide +kernel, by decide +kernel⟩
theorem good_all : ∀ k ∈ goodR, wthy goodR k.1 = true := by decide +kernel
theorem good_all2 : ∀ k ∈ goodR.reverse, wthy goodR.reverse k.1 = true := by decide +kernel
theorem ring_not : wthy ringR (rN 0) = false := by decide +kernel
theorem mid_not : wthy midR (rN 0) = false := by decide +kernel
theorem mid_all2 : ∀ k ∈ midR.reverse.take 3, wthy midR.reverse k.1 = true := by decide +kernel
theorem mid_not2 : wthy midR.reverse (rN 2) = false := by decide +kernel
theorem rN_at (k : Nat) (h : k < 6) : L2.atI (rowN.map D.str) (k : Int) = some (.str (rN k)) := atI_nat (by
  have hl : rowN.length = 6 := by decide +kernel
  rw [List.getElem?_map, List.getElem?_eq_getElem (by omega)]
  unfold rN
  rw [List.getD_eq_getElem?_getD, List.getElem?_eq_getElem (by omega)]
  rfl)
theorem eN_at (k : Nat) (h : k < 6) : L2.atI (endN.map D.str) (k : Int) = some (.str (eN k)) := atI_nat (by
  have hl : endN.length = 6 := by decide +kernel
  rw [List.getElem?_map, List.getElem?_eq_getElem (by omega)]
  unfold eN
  rw [List.getD_eq_getElem?_getD, List.getElem?_eq_getElem (by omega)]
  rfl)
def spRowR : DSp where
  n := 0
  f := fun ds Q _ => ds = [] ∧ Q (.bl true)
  len := fun ds Q E ⟨e, _⟩ => by rw [e]; rfl
  mono := fun ds Q Q' E E' k _ ⟨e, q⟩ => ⟨e, k _ q⟩
section
variable {P : Program} {w : World} {K : PySem.W.Frag} {C CB a l : Addr} {mg : Str → Option Value} {base : Heap} {W : Wd} {k : Nat} {f : Addr} {fd : FuncData}
theorem ok_rowR (T : TxtB K C mg) (Fn : Fun K "_law_row_right" "_law_row_right" s__law_row_right f fd) (C_Book : CalC P w K mg base (L2.CX P w) W k "Book" C ["self", "kinds"] (spBookX C CB)) (C__law_bare_heard : Cal P w K mg base CX0 W k "_law_bare_heard" ["_law_own_kinds"] spBareH) : GnOk P w K mg base CX0 (k + 2) f fd [] (spD W K spRowR) := by
  refine Fn.okD sc__law_row_right rfl fun cdv A outer s H I ds Q Ed E hr h => ?_
  have hu := hr.units
  have hu2 : (A.deeper (envOfC "_law_row_right" (defScope s__law_row_right) s.heap.objs.size f cdv)).units + 66 < cLine := by have := hr.room.un; omega
  obtain ⟨rfl, q⟩ := h
  refine ⟨_, (dss_cons (by first | exact (ds_par (i := 0) (j := 1) rfl sc__law_row_right.nd rfl rfl (by decide) rfl rfl (da_cons (de_lc (own := [("_law_letter", 2)]) rfl sc__law_row_right.nd (di_seq de_str) (blkOk_by (own := [("_law_letter", 2)]) (N := ["_law_names_here", "_law_ends", "_law_letter", "_law_row", "_law_k", "_law_good", "_law_ring", "_law_midst", "_law_found"]) (sc := defScope s__law_row_right) (by decide +kernel)) (fun _ _ _ _ _ => (dg_name 2 sc__law_row_right.nd)) (fun _ _ _ _ _ => dif_nil) (fun _ _ _ _ _ => (de_add de_str (de_name 2)))) (da_cons (de_lc (own := [("_law_letter", 2)]) rfl sc__law_row_right.nd (di_seq de_str) (blkOk_by (own := [("_law_letter", 2)]) (N := ["_law_names_here", "_law_ends", "_law_letter", "_law_row", "_law_k", "_law_good", "_law_ring", "_law_midst", "_law_found"]) (sc := defScope s__law_row_right) (by decide +kernel)) (fun _ _ _ _ _ => (dg_name 2 sc__law_row_right.nd)) (fun _ _ _ _ _ => dif_nil) (fun _ _ _ _ _ => (de_add de_str (de_name 2)))) da_nil))) | exact (ds_asg (de_tup (da_cons (de_lc (own := [("_law_letter", 2)]) rfl sc__law_row_right.nd (di_seq de_str) (blkOk_by (own := [("_law_letter", 2)]) (N := ["_law_names_here", "_law_ends", "_law_letter", "_law_row", "_law_k", "_law_good", "_law_ring", "_law_midst", "_law_found"]) (sc := defScope s__law_row_right) (by decide +kernel)) (fun _ _ _ _ _ => (dg_name 2 sc__law_row_right.nd)) (fun _ _ _ _ _ => dif_nil) (fun _ _ _ _ _ => (de_add de_str (de_name 2)))) (da_cons (de_lc (own := [("_law_letter", 2)]) rfl sc__law_row_right.nd (di_seq de_str) (blkOk_by (own := [("_law_letter", 2)]) (N := ["_law_names_here", "_law_ends", "_law_letter", "_law_row", "_law_k", "_law_good", "_law_ring", "_law_midst", "_law_found"]) (sc := defScope s__law_row_right) (by decide +kernel)) (fun _ _ _ _ _ => (dg_name 2 sc__law_row_right.nd)) (fun _ _ _ _ _ => dif_nil) (fun _ _ _ _ _ => (de_add de_str (de_name 2)))) da_nil))) (dg_tup (n := 2) rfl (dgs_cons (dg_name 0 sc__law_row_right.nd) (dgs_cons (dg_name 1 sc__law_row_right.nd) dgs_nil)))))
  (dss_cons (ds_set 3 (de_tuple T.b_tuple (da_cons (de_lc (own := [("_law_k", 4)]) rfl sc__law_row_right.nd (di_range1 T.b_range (da_cons de_int da_nil)) (blkOk_by (own := [("_law_k", 4)]) (N := ["_law_names_here", "_law_ends", "_law_letter", "_law_row", "_law_k", "_law_good", "_law_ring", "_law_midst", "_law_found"]) (sc := defScope s__law_row_right) (by decide +kernel)) (fun _ _ _ _ _ => (dg_name 4 sc__law_row_right.nd)) (fun _ _ _ _ _ => dif_nil) (fun _ _ _ _ _ => (de_tup (da_cons (de_at hu (de_name 0) (de_name 4)) (da_cons (de_tup (da_cons (de_tup (da_cons (de_at hu (de_name 1) (de_name 4)) (da_cons (de_tup (da_cons (de_at hu (de_name 0) (de_add (de_name 4) de_int)) da_nil)) da_nil))) da_nil)) da_nil))))) da_nil)) sc__law_row_right.nd)
  (dss_cons (ds_set 5 (de_add (de_name 3) (de_tup (da_cons (de_tup (da_cons (de_at hu (de_name 0) de_int) (da_cons (de_tup (da_cons (de_tup (da_cons (de_at hu (de_name 1) de_int) (da_cons (de_tup da_nil) da_nil))) da_nil)) da_nil))) da_nil))) sc__law_row_right.nd)
  (dss_cons (ds_set 6 (de_add (de_name 3) (de_tup (da_cons (de_tup (da_cons (de_at hu (de_name 0) de_int) (da_cons (de_tup (da_cons (de_tup (da_cons (de_at hu (de_name 1) de_int) (da_cons (de_tup (da_cons (de_at hu (de_name 0) de_int) da_nil)) da_nil))) da_nil)) da_nil))) da_nil))) sc__law_row_right.nd)
  (dss_cons (ds_set 7 (de_add (de_add (de_slice (de_name 3) do_none (do_some de_int)) (de_tup (da_cons (de_tup (da_cons (de_at hu (de_name 0) de_int) (da_cons (de_tup (da_cons (de_tup (da_cons (de_at hu (de_name 1) de_int) (da_cons (de_tup (da_cons (de_at hu (de_name 0) de_int) da_nil)) da_nil))) da_nil)) da_nil))) da_nil))) (de_slice (de_name 5) (do_some de_int) do_none)) sc__law_row_right.nd)
  (dss_cons (ds_if (dt_wh (dw_or (dt_c (.ne hu) (de_fld T.cl_Book T.na_Book_kinds (de_make C_Book (hr.mono (by omega)) passCX lets0 (da_cons (de_name 5) da_nil))) (de_name 5)) (dw_or1 (dt_c (.ne hu) (de_fld T.cl_Book T.na_Book_kinds (de_make C_Book (hr.mono (by omega)) passCX lets0 (da_cons (de_revG (de_name 5)) da_nil))) (de_revG (de_name 5))))))
  (dss_one (ds_ret de_bl))
  dss_nil)
  (dss_cons (ds_set 8 (de_lst (da_cons (de_fn C__law_bare_heard (hr.mono (by omega)) pass0 lets0 (da_cons (de_name 6) da_nil)) (da_cons (de_fn C__law_bare_heard (hr.mono (by omega)) pass0 lets0 (da_cons (de_name 7) da_nil)) (da_cons (de_fn C__law_bare_heard (hr.mono (by omega)) pass0 lets0 (da_cons (de_revG (de_name 7)) da_nil)) da_nil)))) sc__law_row_right.nd)
  (dss_one (ds_ret (de_c (.eq hu) (de_name 8) (de_lst (da_cons (de_at hu (de_name 0) de_int) (da_cons (de_at hu (de_name 0) de_int) (da_cons (de_at hu (de_name 0) de_int) da_nil)))))))))))))), ?_⟩
  simp only [getD_0, getD_s, set_0, set_s, boolD_bl, intD_int, startD, List.map, List.length_cons, List.length_nil, List.replicate, List.cons_append, List.nil_append, defEnds, wipeD, if_true, if_false, Bool.not_true, Bool.not_false, Bool.false_eq_true]
  have es : sgnD "abcdef" = (tl "abcdef").map fun c => D.str ⟨#[c]⟩ := rfl
  simp only [itemsD]
  rw [es]
  have l6 : (tl "abcdef").length = 6 := by decide +kernel
  refine ⟨small_len (by rw [List.length_map, l6]; decide), lcD_all (fun c : Nat => D.str ⟨#[c]⟩) (fun c : Nat => D.str (("row" : Str) ++ (⟨#[c]⟩ : Str))) (fun c hc R S r => ?_) ?_⟩
  · exact ⟨_, rfl, small_len (by show 3 + 1 ≤ 1000; decide), r⟩
  have er : ((tl "abcdef").map fun c : Nat => D.str (("row" : Str) ++ (⟨#[c]⟩ : Str))) = rowN.map D.str := by unfold rowN; rw [List.map_map]; rfl
  rw [er]
  refine ⟨small_len (by rw [List.length_map, l6]; decide), lcD_all (fun c : Nat => D.str ⟨#[c]⟩) (fun c : Nat => D.str (("end" : Str) ++ (⟨#[c]⟩ : Str))) (fun c hc R S r => ?_) ?_⟩
  · exact ⟨_, rfl, small_len (by show 3 + 1 ≤ 1000; decide), r⟩
  have ee : ((tl "abcdef").map fun c : Nat => D.str (("end" : Str) ++ (⟨#[c]⟩ : Str))) = endN.map D.str := by unfold endN; rw [List.map_map]; rfl
  rw [ee]
  refine ⟨by decide, _, rfl, rfl, _, _, rfl, _, _, rfl, rfl, 5, rfl, by decide, by decide, by rw [rngD_length]; decide, ?_⟩
  show lcD _ _ _ _ ((List.range 5).map fun (k : Nat) => D.int (k : Int)) _
  refine lcD_all (fun k : Nat => D.int (k : Int)) (fun k => kindD (rN k, [(eN k, [rN (k + 1)])])) (fun k hk R S r => ?_) ?_
  · have hk5 : k < 5 := List.mem_range.mp hk
    refine ⟨_, rfl, _, rfl, _, rN_at k (by omega), _, rfl, _, rfl, _, eN_at k (by omega), _, rfl, _, rfl, ?_⟩
    refine ⟨_, rN_at (k + 1) (by omega), ?_⟩
    exact ⟨by decide, by decide, by decide, by decide, r⟩
  have eR : ((List.range 5).map fun k : Nat => kindD (rN k, [(eN k, [rN (k + 1)])])) = rowR.map kindD := by unfold rowR; rw [List.map_map]; rfl
  rw [eR]
  simp only [tupleD]
  have r5 : L2.atI (rowN.map D.str) 5 = some (.str (rN 5)) := rN_at 5 (by decide)
  have e5 : L2.atI (endN.map D.str) 5 = some (.str (eN 5)) := eN_at 5 (by decide)
  have r2 : L2.atI (rowN.map D.str) 2 = some (.str (rN 2)) := rN_at 2 (by decide)
  have e2 : L2.atI (endN.map D.str) 2 = some (.str (eN 2)) := eN_at 2 (by decide)
  have r0 : L2.atI (rowN.map D.str) 0 = some (.str (rN 0)) := rN_at 0 (by decide)
  have lr : rowR.length = 5 := by decide +kernel
  have lg : goodR.length = 6 := by decide +kernel
  have eG : D.tup (rowR.map kindD ++ [D.tup [D.str (rN 5), D.tup [D.tup [D.str (eN 5), D.tup []]]]]) = kindsD goodR := by simp [kindsD, kindD, boughD, goodR]
  have eI : D.tup (rowR.map kindD ++ [D.tup [D.str (rN 5), D.tup [D.tup [D.str (eN 5), D.tup [D.str (rN 5)]]]]]) = kindsD ringR := by simp [kindsD, kindD, boughD, ringR]
  have c1 : cutD (rowR.map kindD) none (some 2) = (rowR.take 2).map kindD := (cutD_to _ 2).trans (by rw [List.map_take])
  have c2 : cutD (goodR.map kindD) (some 3) none = (goodR.drop 3).map kindD := (cutD_from _ 3).trans (by rw [List.map_drop])
  have eM : D.tup ((rowR.take 2).map kindD ++ [D.tup [D.str (rN 2), D.tup [D.tup [D.str (eN 2), D.tup [D.str (rN 2)]]]]] ++ (goodR.drop 3).map kindD) = kindsD midR := by simp [kindsD, kindD, boughD, midR]
  refine ⟨_, r5, _, e5, by decide, by decide, by decide, by decide, by decide, small_len (by simp [lr]), ?_⟩
  rw [eG]
  refine ⟨_, r5, _, e5, _, r5, by decide, by decide, by decide, by decide, by decide, small_len (by simp [lr]), ?_⟩
  rw [eI]
  simp only [sliceD, c1]
  refine ⟨_, r2, _, e2, _, r2, by decide, by decide, by decide, by decide, by decide, small_len (by simp [lr]), ?_⟩
  have mk : ∀ {ks : List Kind} {R : D → Prop}, Wel ks → (∀ k ∈ ks, wthy ks k.1 = true) → R (bookD C ks) → (spBookX C CB).f [kindsD ks] R (fun _ => False) := fun {ks R} g h r => ⟨ks, rfl, g, fun _ => r, fun pre k post e _ hk => by
    have := h k (by rw [e]; simp)
    rw [hk] at this
    cases this⟩
  have same : ∀ {ks : List Kind} {L M : Prop}, Wel ks → M → neD (kindsD ks) (kindsD ks) fun z => boolD z fun x => if x = true then L else M := fun {ks L M} g m => by
    refine ⟨by simp [canEq, g.ok.okE (by decide)], ?_⟩
    rw [kindsD_eq, decide_eq_true rfl]
    show boolD (.bl false) _
    rw [boolD_bl, if_neg (by decide)]
    exact m
  have gw2 : Wel goodR.reverse := good_wel.perm (List.reverse_perm _).symm
  have mw2 : Wel midR.reverse := mid_wel.perm (List.reverse_perm _).symm
  have eRv : ∀ ks : List Kind, D.tup ((ks.map kindD).reverse) = kindsD ks.reverse := fun ks => by unfold kindsD; rw [List.map_reverse]
  show addD _ (D.tup (cutD (goodR.map kindD) (some 3) none)) _
  rw [c2]
  refine ⟨small_len (by simp [lr, lg]), ?_⟩
  rw [eM]
  refine mk good_wel good_all ⟨_, _, rfl, rfl, same good_wel ?_⟩
  show (spBookX C CB).f [D.tup ((goodR.map kindD).reverse)] _ _
  rw [eRv]
  refine mk gw2 good_all2 ⟨_, _, rfl, rfl, ?_⟩
  have rv : ∀ (ks : List Kind) (F : D → Prop), F (kindsD ks.reverse) → revGD (kindsD ks) F := fun ks F h => by
    show F (D.tup ((ks.map kindD).reverse))
    rw [eRv]
    exact h
  refine rv _ _ ?_
  refine same gw2 ?_
  refine heard_is (pre := []) (x := (rN 0, [(eN 0, [rN 1])])) (post := ringR.drop 1) ring_wel (by decide +kernel) (fun _ h => nomatch h) ring_not ?_
  refine heard_is (pre := []) (x := (rN 0, [(eN 0, [rN 1])])) (post := midR.drop 1) mid_wel (by decide +kernel) (fun _ h => nomatch h) mid_not ?_
  show spBareH.f [D.tup ((midR.map kindD).reverse)] _ _
  rw [eRv]
  refine heard_is (pre := midR.reverse.take 3) (x := (rN 2, [(eN 2, [rN 2])])) (post := midR.reverse.drop 4) mw2 (by decide +kernel) mid_all2 mid_not2 ?_
  refine ⟨by decide, _, r0, _, r0, _, r2, by decide, ?_⟩
  refine OkN.eqD (k := 1) (okN_lst fun x hx => ?_) (by decide) q
  simp only [List.mem_cons, List.not_mem_nil, or_false] at hx
  rcases hx with rfl | rfl | rfl
  · exact okN_str (by decide +kernel)
  · exact okN_str (by decide +kernel)
  · exact okN_str (by decide +kernel)
end
end KB
namespace KC
open PySem L2 Dk
open KB (top TxtB Good kindsD kindD boughD bookD ktext btext bookText small_len small_lt numS Bough)
open PyProof.Rows (envOfC)
abbrev s_kind_text : Stmt := top 31
theorem sc_kind_text : FnScope ["name", "boughs", "bough", "fields"] ["name", "boughs"] (defScope s_kind_text) := ⟨rfl, rfl, rfl, by decide +kernel, rfl, by decide +kernel, by decide +kernel⟩
theorem bd_kind_text (kV doc pm : Value) (an : Option Addr) (cdv ct : Value) (us : List Value) (hl : us.length = 2) : bindArgs (PySem.W.fnOf "kind_text" "kind_text" (defArgs s_kind_text) (defBody s_kind_text) (defScope s_kind_text) .none kV doc pm an cdv ct) ⟨us, []⟩ = pure ((["name", "boughs"] : List Str).zip us) := by
  match us, hl with
  | [v0, v1], _ => rfl
abbrev s_Book___eq__ : Stmt := inClass (top 32) 1
theorem sc_Book___eq__ : FnScope ["self", "other"] ["self", "other"] (defScope s_Book___eq__) := ⟨rfl, rfl, rfl, by decide +kernel, rfl, by decide +kernel, by decide +kernel⟩
theorem bd_Book___eq__ (kV doc pm : Value) (an : Option Addr) (cdv ct : Value) (us : List Value) (hl : us.length = 2) : bindArgs (PySem.W.fnOf "__eq__" "Book.__eq__" (defArgs s_Book___eq__) (defBody s_Book___eq__) (defScope s_Book___eq__) .none kV doc pm an cdv ct) ⟨us, []⟩ = pure ((["self", "other"] : List Str).zip us) := by
  match us, hl with
  | [v0, v1], _ => rfl
abbrev s_Book___len__ : Stmt := inClass (top 32) 2
theorem sc_Book___len__ : FnScope ["self"] ["self"] (defScope s_Book___len__) := ⟨rfl, rfl, rfl, by decide +kernel, rfl, by decide +kernel, by decide +kernel⟩
theorem bd_Book___len__ (kV doc pm : Value) (an : Option Addr) (cdv ct : Value) (us : List Value) (hl : us.length = 1) : bindArgs (PySem.W.fnOf "__len__" "Book.__len__" (defArgs s_Book___len__) (defBody s_Book___len__) (defScope s_Book___len__) .none kV doc pm an cdv ct) ⟨us, []⟩ = pure ((["self"] : List Str).zip us) := by
  match us, hl with
  | [v0], _ => rfl
abbrev s_Book___str__ : Stmt := inClass (top 32) 3
theorem sc_Book___str__ : FnScope ["self", "name", "boughs"] ["self"] (defScope s_Book___str__) := ⟨rfl, rfl, rfl, by decide +kernel, rfl, by decide +kernel, by decide +kernel⟩
theorem bd_Book___str__ (kV doc pm : Value) (an : Option Addr) (cdv ct : Value) (us : List Value) (hl : us.length = 1) : bindArgs (PySem.W.fnOf "__str__" "Book.__str__" (defArgs s_Book___str__) (defBody s_Book___str__) (defScope s_Book___str__) .none kV doc pm an cdv ct) ⟨us, []⟩ = pure ((["self"] : List Str).zip us) := by
  match us, hl with
  | [v0], _ => rfl
def spKText : DSp where
  n := 2
  f := fun ds Q _ => ∃ ks k, ds = [.str k.1, .tup (k.2.map boughD)] ∧ Good ks ∧ k ∈ ks ∧ Q (.str (ktext k))
  len := fun ds Q E ⟨_, _, e, _⟩ => by rw [e]; rfl
  mono := fun ds Q Q' E E' k _ ⟨ks, x, e, g, h, q⟩ => ⟨ks, x, e, g, h, k _ q⟩
def spStr (C : Addr) : DSp where
  n := 1
  f := fun ds Q _ => ∃ ks, ds = [bookD C ks] ∧ Good ks ∧ Q (.str (bookText ks))
  len := fun ds Q E ⟨_, e, _⟩ => by rw [e]; rfl
  mono := fun ds Q Q' E E' k _ ⟨ks, e, g, q⟩ => ⟨ks, e, g, k _ q⟩
theorem join_bound {ys : List Str} {m n : Nat} (h : ∀ p ∈ ys, p.length ≤ m) (hn : ys.length ≤ n) (hb : n * m + n * 10 ≤ 16777216) {a : Str} (ha : a.length ≤ 10) : (ys.map (·.length)).sum + ys.length * a.length ≤ 16777216 := by
  have h1 := KB.sum_le_mul (s := fun x : Str => x.length) h
  have h2 : ys.length * m ≤ n * m := Nat.mul_le_mul_right m hn
  have h3 : ys.length * a.length ≤ n * 10 := Nat.mul_le_mul hn ha
  omega
section
variable {P : Program} {w : World} {K : PySem.W.Frag} {C : Addr} {mg : Str → Option Value} {base : Heap} {W : Wd} {k : Nat} {f : Addr} {fd : FuncData}
theorem ok_kind_text (T : TxtB K C mg) (Fn : Fun K "kind_text" "kind_text" s_kind_text f fd) : GnOk P w K mg base CX0 (k + 1) f fd ["name", "boughs"] (spD W K spKText) := by
  refine Fn.okD sc_kind_text rfl fun cdv A outer s H I ds Q Ed E hr h => ?_
  have hu := hr.units
  obtain ⟨ks, x, rfl, g, hx, q⟩ := h
  refine ⟨_, (dss_one (ds_ret (de_add (de_add (de_name 0) de_str) (de_join de_str (de_lc (own := [("bough", 2), ("fields", 3)]) rfl sc_kind_text.nd (di_seq (de_name 1)) (blkOk_by (own := [("bough", 2), ("fields", 3)]) (N := ["name", "boughs", "bough", "fields"]) (sc := defScope s_kind_text) (by decide +kernel)) (fun _ _ _ _ _ => (dg_tup (n := 2) rfl (dgs_cons (dg_name 2 sc_kind_text.nd) (dgs_cons (dg_name 3 sc_kind_text.nd) dgs_nil)))) (fun _ _ _ _ _ => dif_nil) (fun _ _ _ _ _ => (de_join de_str (de_add (de_tup (da_cons (de_name 2) da_nil)) (de_name 3))))))))), ?_⟩
  simp only [getD_0, getD_s, set_0, set_s, boolD_bl, intD_int, startD, List.map, List.length_cons, List.length_nil, List.replicate, List.cons_append, List.nil_append, defEnds, wipeD, if_true, if_false, Bool.not_true, Bool.not_false, Bool.false_eq_true]
  have h8 := g.s2 x hx
  refine ⟨small_len (by have := (KB.clean_name (g.kn x hx)).1; show x.1.length + 3 ≤ _; omega), _, rfl, ?_⟩
  simp only [itemsD]
  refine ⟨small_len (by rw [List.length_map]; omega), lcD_all boughD (fun b => .str (btext b)) (fun b hb R S hR => ?_) ?_⟩
  · have h3 := g.s3 x hx b hb
    refine ⟨_, rfl, rfl, _, _, rfl, _, _, rfl, rfl, _, rfl, _, rfl, by decide, _, rfl, small_len (by simp only [List.length_cons, List.length_nil, List.length_map]; omega), ?_⟩
    refine ⟨b.1 :: b.2, .inr rfl, join_bound (m := 8) (n := 9) (fun p hp => (g.cleanF hx hb p hp).1) (by simp only [List.length_cons]; omega) (by decide) (by decide), hR⟩
  · refine ⟨x.2.map btext, .inl (by rw [List.map_map]; rfl), join_bound (m := 81) (n := 8) (fun p hp => by obtain ⟨b, hb, rfl⟩ := List.mem_map.mp hp; exact (KB.btext_signs g hx hb).2) (by rw [List.length_map]; omega) (by decide) (by decide), ?_⟩
    refine ⟨small_len ?_, q⟩
    have h1 := (KB.ktext_rest g hx).2
    have h2 := (KB.clean_name (g.kn x hx)).1
    have e : (x.1 ++ " = " : Str).length = x.1.length + 3 := strLen_append _ _
    rw [e]
    omega
theorem ok_str (T : TxtB K C mg) (Fn : Fun K "__str__" "Book.__str__" s_Book___str__ f fd) (C_kind_text : Cal P w K mg base CX0 W k "kind_text" ["name", "boughs"] spKText) : GnOk P w K mg base CX0 (k + 1) f fd ["self"] (spD W K (spStr C)) := by
  refine Fn.okD sc_Book___str__ rfl fun cdv A outer s H I ds Q Ed E hr h => ?_
  have hu := hr.units
  obtain ⟨ks, rfl, g, q⟩ := h
  refine ⟨_, (dss_one (ds_ret (de_join de_str (de_lc (own := [("name", 1), ("boughs", 2)]) rfl sc_Book___str__.nd (di_seq (de_fld T.cl_Book T.na_Book_kinds (de_name 0))) (blkOk_by (own := [("name", 1), ("boughs", 2)]) (N := ["self", "name", "boughs"]) (sc := defScope s_Book___str__) (by decide +kernel)) (fun _ _ _ _ _ => (dg_tup (n := 2) rfl (dgs_cons (dg_name 1 sc_Book___str__.nd) (dgs_cons (dg_name 2 sc_Book___str__.nd) dgs_nil)))) (fun _ _ _ _ _ => dif_nil) (fun _ _ _ _ _ => (de_fn C_kind_text (hr.mono (by omega)) pass0 lets0 (da_cons (de_name 1) (da_cons (de_name 2) da_nil)))))))), ?_⟩
  simp only [getD_0, getD_s, set_0, set_s, boolD_bl, intD_int, startD, List.map, List.length_cons, List.length_nil, List.replicate, List.cons_append, List.nil_append, defEnds, wipeD, if_true, if_false, Bool.not_true, Bool.not_false, Bool.false_eq_true]
  have h6 := g.s1
  refine ⟨_, rfl, _, _, rfl, rfl, ?_⟩
  show (ks.map kindD).length ≤ sizeLine ∧ lcD _ _ _ _ (ks.map kindD) _
  refine ⟨small_len (by rw [List.length_map]; omega), lcD_all kindD (fun k => .str (ktext k)) (fun x hx R S hR => ?_) ?_⟩
  · exact ⟨_, rfl, rfl, _, _, rfl, _, _, rfl, rfl, _, rfl, _, rfl, ks, x, rfl, g, hx, hR⟩
  · exact ⟨ks.map ktext, .inl (by rw [List.map_map]; rfl), join_bound (m := 683) (n := 6) (fun p hp => by obtain ⟨x, hx, rfl⟩ := List.mem_map.mp hp; exact (KB.ktext_signs g hx).2) (by rw [List.length_map]; omega) (by decide) (by decide), q⟩
end
end KC
namespace Dk
open PySem L2
/-- a class that may be called: n by place, ks by name (as written); g their order -/
structure CalCK (P : Program) (w : World) (K : PySem.W.Frag) (mg : Str → Option Value) (base : Heap) (CX : CXT) (W : Wd) (k : Nat) (x : Str) (C : Addr) (ps : List Str) (n : Nat) (ks : List Str) (g : {α : Type} → List α → List α → List α) (S : DSp) : Prop where
  ex : ∃ f fd, Mk K C f ∧ GnOk P w K mg base CX k f fd ps (spInit W K C S) ∧ mg x = some (.ref C) ∧ KBn K fd ps (n + 1) ks (fun us ws => g us ws) (fun vs zs => g vs zs)
  len : ps.length = S.n + 1
  own : ∀ {α : Type} (a : α) (us ws : List α), g (a :: us) ws = a :: g us ws
  rel : ∀ {K : PySem.W.Frag} {I : Hp} {us vs : List V} {ds es : List D}, Reps K I us ds → Reps K I vs es → Reps K I (g us vs) (g ds es)
section
variable {F : Fx} {X : Cx} {CX : CXT} {k n : Nat} {x : Str} {C : Addr} {ps ks : List Str} {S : DSp} {E : XK} {p pos : Pos} {e : Expr} {es : List Expr} {kws : List Keyword} {t tk : DAT} {Ed : Ex → Prop} {g : {α : Type} → List α → List α → List α}
theorem makeK_run (c : CalCK X.prog X.w X.K X.mg X.base CX F.W k x C ps n ks g S) (le : Lets F X.K Ed E) {ρ0 : DEnv} {σ : St} {H : Hp} {I : Hp} (A : At F X.K I ρ0 σ H) {I2 H2 : Hp} (s2 : Stp F.W I H I2 H2) {vs zs : List V} {ds es : List D} (rs : Reps X.K I2 vs ds) (rz : Reps X.K I2 zs es) {Q : VK}
    (q : S.f (g ds es) (fin F X.K I H Q) Ed) : ∀ x dx, H2 x = none → H2 dx = none → dx ≠ x → spInit F.W X.K C S (.ref x :: g vs zs) (upd (upd H2 dx (.own x)) x (.ins C dx [])) (fun v H3 => v = .non ∧ Q (.ref x) H3) E := fun x dx hx hd ne => by
  obtain ⟨ni, nm, st, back⟩ := new_run (K := X.K) (o := .ins C dx []) s2.st hx hd ne
  refine ⟨x, dx, _, I2, _, rfl, upd_same, ni, nm, st, c.rel rs rz, S.mono _ _ _ _ _ (fun d q I' H' s' rv => ⟨rfl, q _ I' H' (s2.trans (back I' H' s')) rv⟩) (fun ex q cls d I' H' s' rv => ?_) q⟩
  exact le I2 H2 (A.stp.trans s2) ex q cls d I' H' (back I' H' s') rv
theorem makeK_call (c : CalCK X.prog X.w X.K X.mg X.base CX F.W k x C ps n ks g S) {f : Addr} {fd : FuncData} (M : Mk X.K C f) (G : GnOk X.prog X.w X.K X.mg X.base CX k f fd ps (spInit F.W X.K C S)) (hb : KBn X.K fd ps (n + 1) ks (fun us ws => g us ws) (fun vs zs => g vs zs))
    (hr : Rm (k + 1) X.A) (hx : Passes CX X E) {pins : List (Addr × Obj)} {σ : St} {H : Hp} {s : Shared} {Q : VK} {us ws : List Value} {vs zs : List V} (J : Inv X pins σ H s) (r : Vals vs us) (rz : Vals zs ws) (l1 : vs.length = n) (l2 : zs.length = ks.length)
    (q : ∀ x dx, H x = none → H dx = none → dx ≠ x → spInit F.W X.K C S (.ref x :: g vs zs) (upd (upd H dx (.own x)) x (.ins C dx [])) (fun v H3 => v = .non ∧ Q (.ref x) H3) E) :
    wpAny (model X.prog X.w) X.A (call (.ref C) us (ks.zip ws)) (EP X pins σ Q) X.xe s := by
  have rv : Vals (g vs zs) (g us ws) := by
    have := hb.rel (vs := V.ref 0 :: vs) (us := Value.ref 0 :: us) (.cons rfl r) rz
    rw [c.own, c.own] at this
    cases this with
    | cons _ h => exact h
  refine gn_make (us := g us ws) M G hr hx (fun s' y hk => ?_) J rv q
  have := hb.to s' (y :: us) ws hk (by rw [List.length_cons, ← r.length, l1]) (rz.length.symm.trans l2)
  rwa [c.own] at this
theorem de_makeK0 (c : CalCK X.prog X.w X.K X.mg X.base CX F.W k x C ps 0 ks g S) (hr : Rm (k + 1) X.A) (hx : Passes CX X E) (le : Lets F X.K Ed E) (hk : DKw F X kws tk) (hg : Gl X x := by rfl)
    (hall : (backToKw pos (keywordEach kws X.env)).all (·.1.isSome) = true := by rfl) (hks : (backToKw pos (keywordEach kws X.env)).filterMap (·.1) = ks := by rfl) (hdb : (x == ("__debug__" : Str)) = false := by decide)
    (hpl : ((backTo pos (starEach [] X.env)).any (·.1) || (backToKw pos (keywordEach kws X.env)).any (·.1.isNone)) = false := by rfl) :
    DE F X (.Call (.Name x p) [] kws pos) (fun ρ Q => tk ρ fun zs => zs.length = ks.length ∧ S.f (g [] zs) Q Ed) := by
  obtain ⟨f, fd, M, G, hm, hb⟩ := c.ex
  refine ⟨fun ρ Q Q' k h => hk.mono _ _ _ (fun z h => ⟨h.1, S.mono _ _ _ _ _ k (fun _ h => h) h.2⟩) h, ⟨fun pins s σ H Q J ⟨I, ρ, A, h⟩ => ?_⟩⟩
  refine wpAny_Call_Name_kw (ld_glob J hg hm ?_ hdb)
  have run : rdA F X.K tk σ H fun zs H2 => zs.length = ks.length ∧ ∀ x dx, H2 x = none → H2 dx = none → dx ≠ x → spInit F.W X.K C S (.ref x :: g [] zs) (upd (upd H2 dx (.own x)) x (.ins C dx [])) (fun v H3 => v = .non ∧ Q (.ref x) H3) E := by
    refine rdA_next hk.mono A h fun es zs I2 H2 q s2 rz => ⟨by rw [rz.length]; exact q.1, ?_⟩
    exact makeK_run c le A s2 .nil rz q.2
  refine PySem.W.callWith_KW0 (h₀ := X.base) J.ok.mod.kin M.kp hall ?_ hpl
  refine thn (hk.run.run pos pins s σ H _ J run) fun ws s2 ⟨zs, H2, J2, rz, l2, q2⟩ => ⟨J2.kIn, ?_⟩
  rw [hks]
  exact makeK_call (us := []) (vs := []) c M G hb hr hx J2 .nil rz rfl l2 q2
end
section
variable {P : Program} {w : World} {K : PySem.W.Frag} {mg : Str → Option Value} {base : Heap} {CX : CXT} {W : Wd} {k n : Nat} {x qual : Str} {C : Addr} {st : Stmt} {f : Addr} {fd : FuncData} {ps ks : List Str} {S : DSp} {g : {α : Type} → List α → List α → List α}
theorem CalCK.of (Fn : Fun K "__init__" qual st f fd) (M : Mk K C f) (G : GnOk P w K mg base CX k f fd ps (spInit W K C S)) (m : mg x = some (.ref C)) (hl : ps.length = S.n + 1) (own : ∀ {α : Type} (a : α) (us ws : List α), g (a :: us) ws = a :: g us ws)
    (rV : ∀ {vs zs : List V} {us ws : List Value}, Vals vs us → Vals zs ws → Vals (g vs zs) (g us ws)) (rD : ∀ {K : PySem.W.Frag} {I : Hp} {us vs : List V} {ds es : List D}, Reps K I us ds → Reps K I vs es → Reps K I (g us vs) (g ds es))
    (h : ∀ (kV doc pm : Value) (an : Option Addr) (cdv ct : Value) (us ws : List Value), us.length = n + 1 → ws.length = ks.length → bindArgs (PySem.W.fnOf "__init__" qual (defArgs st) (defBody st) (defScope st) .none kV doc pm an cdv ct) ⟨us, ks.zip ws⟩ = pure (ps.zip (g us ws))) : CalCK P w K mg base CX W k x C ps n ks g S := by
  refine ⟨⟨f, fd, M, G, m, fun s us ws _ l1 l2 => ?_, fun r z => rV r z⟩, hl, own, rD⟩
  obtain ⟨oc, od, kV, doc, pm, an, cdv, ct, osl, rfl, lk, hcd⟩ := Fn.ex
  exact .of_eq (h kV doc pm an cdv ct us ws l1 l2)
end
end Dk
namespace KB
open PySem L2 Dk
open PyProof.Rows (envOfC)
abbrev s_law : Stmt := top 49
theorem sc_law : FnScope ["_law_script", "_law_deck_here", "_law_turn", "_law_own_kinds", "_law_kept", "_law_books", "_law_shown", "_law_again", "_law_book", "_law_told", "_law_some", "_law_things", "_law_thing"] ["_law_script"] (defScope s_law) := ⟨rfl, rfl, rfl, by decide +kernel, rfl, by decide +kernel, by decide +kernel⟩
def reprB (ks : List Kind) : Str := ("Book(" : Str) ++ shw (kindsD ks) ++ (")" : Str)
theorem lcD_none {g : DGT} {tc : DB} {te : DT} {ρ : DEnv} {l : List D} {Q : List D → Prop} (h : ∀ a ∈ l, ∀ (R : D → Prop) (S : Prop), S → g a ρ fun ρ2 => tc ρ2 fun b => if b = true then te ρ2 R else S) (q : Q []) : lcD g tc te ρ l Q := by
  have := lcD_map (g := g) (tc := tc) (te := te) (ρ := ρ) (fun d : D => d) (fun d => d) (fun _ => false) (Q := Q) (l := l) (fun a ha R S _ s => h a ha R S (s rfl)) (by rw [List.filter_eq_nil_iff.mpr (by simp)]; exact q)
  rwa [List.map_id'] at this
theorem strOk_two {a b : Str} (h : PyData.strOk a = true) (h' : PyData.strOk b = true) : PyData.strOk (a ++ b) = true := by
  unfold PyData.strOk at h h' ⊢
  rw [← Array.all_toList, List.all_eq_true] at h h' ⊢
  intro c hc
  have e : (a ++ b).cps.toList = a.cps.toList ++ b.cps.toList := tl_app a b
  rw [e] at hc
  exact (List.mem_append.mp hc).elim (h c) (h' c)
theorem sn_small : ∀ n : Nat, n < 7 → (PyData.int n).showable = true ∧ (PyData.int n).shown.length ≤ 10 ∧ PyData.strOk (PyData.int n).shown = true ∧ (PyData.int n).depth ≤ 0 := by decide +kernel
def toldT (ks : List Kind) : D := .tup [kindsD ks, .int (ks.length : Nat), .bl true, .str (reprB ks), .int 1]
theorem toldT_repr {ks : List Kind} (g : Good ks) {F : D → Prop} (q : F (.str (shw (toldT ks)))) : reprD [toldT ks] F := by
  have k1 := kinds_sn g
  have la : ∀ a b : Str, (a ++ b).length = a.length + b.length := fun a b => strLen_append a b
  have l1 : (reprB ks).length ≤ 130563 := by
    unfold reprB
    rw [la, la]
    have : (shw (kindsD ks)).length ≤ 130557 := k1.ln
    show 5 + (shw (kindsD ks)).length + 1 ≤ _
    omega
  have o1 : PyData.strOk (reprB ks) = true := strOk_two (strOk_two (by decide +kernel) k1.ok) (by decide +kernel)
  have all : ∀ p ∈ [toPy (kindsD ks), PyData.int (ks.length : Nat), PyData.bool true, PyData.str (reprB ks), PyData.int 1], Sn 1305632 5 p := fun p hp => by
    simp only [List.mem_cons, List.not_mem_nil, or_false] at hp
    rcases hp with rfl | rfl | rfl | rfl | rfl
    · exact k1.mono (by decide) (by decide)
    · obtain ⟨a, b, c, d⟩ := sn_small ks.length (by have := g.s1; omega)
      exact ⟨a, Nat.le_trans b (by decide), c, Nat.le_trans d (by decide)⟩
    · exact ⟨by decide +kernel, Nat.le_trans (show _ ≤ 10 by decide +kernel) (by decide), by decide +kernel, by decide +kernel⟩
    · exact (Sn.str l1 o1).mono (by decide) (by decide)
    · obtain ⟨a, b, c, d⟩ := sn_small 1 (by decide)
      exact ⟨a, Nat.le_trans b (by decide), c, Nat.le_trans d (by decide)⟩
  have s := Sn.tuple all (n := 5) (Nat.le_refl 5)
  have e : toPy (toldT ks) = .tuple [toPy (kindsD ks), PyData.int (ks.length : Nat), PyData.bool true, PyData.str (reprB ks), PyData.int 1] := by simp [toldT, toPy, toPys]
  have pk := g.ok.pl
  refine ⟨by simp [toldT, plainD, plainDs, pk], by rw [e]; exact s.sh, by rw [e]; exact Nat.le_trans s.dp (by decide), ?_, q⟩
  unfold shw
  rw [e]
  exact Nat.le_trans s.ln (by rw [sizeLine_eq]; decide)
def spReprW (C : Addr) : DSp where
  n := 1
  f := fun ds Q _ => ∃ ks, ds = [bookD C ks] ∧ Good ks ∧ Q (.str (reprB ks))
  len := fun ds Q E ⟨m, e, _⟩ => by rw [e]; rfl
  mono := fun ds Q Q' E E' k _ ⟨m, e, h, q⟩ => ⟨m, e, h, k _ q⟩
def spLenW (C : Addr) : DSp := ⟨1, fun ds Q _ => ∃ ks, ds = [bookD C ks] ∧ Wel ks ∧ Q (.int ks.length), fun ds Q E ⟨_, e, _⟩ => by rw [e]; rfl, fun ds Q Q' E E' k _ ⟨ks, e, g, q⟩ => ⟨ks, e, g, k _ q⟩⟩
def spLaw02 (K : PySem.W.Frag) : Sp := fun vs H Q _ => ∃ (a : Addr) (ns : List Int), vs = [.ref a] ∧ SqL K H a (ns.map V.int) ∧ ns.length ≤ 63 ∧ ∀ H', Q (.bl true) H'
section
variable {P : Program} {w : World} {K : PySem.W.Frag} {C CB a l : Addr} {mg : Str → Option Value} {base : Heap} {W : Wd} {k : Nat} {f : Addr} {fd : FuncData}
theorem ok_reprW (T : TxtB K C mg) (Fn : Fun K "__repr__" "Book.__repr__" s_Book___repr__ f fd) : GnOk P w K mg base CX0 (k + 1) f fd ["self"] (spD W K (spReprW C)) := by
  refine Fn.okD sc_Book___repr__ rfl fun cdv A outer s H I ds Q Ed E hr h => ?_
  have hu := hr.units
  obtain ⟨ks, rfl, g, q⟩ := h
  refine ⟨_, (dss_one (ds_ret (de_joined (dj_cons de_str (dj_cons (de_fmtR hr.gd hu (de_fld T.cl_Book T.na_Book_kinds (de_name 0))) (dj_cons de_str dj_nil)))))), ?_⟩
  simp only [getD_0, getD_s, set_0, set_s, boolD_bl, intD_int, startD, List.map, List.length_cons, List.length_nil, List.replicate, List.cons_append, List.nil_append, defEnds, wipeD, if_true, if_false, Bool.not_true, Bool.not_false, Bool.false_eq_true]
  have l1 := (kinds_sn g).ln
  have e0 : (Str.empty ++ ("Book(" : Str)).length = 5 := rfl
  have e9 : (")" : Str).length = 1 := rfl
  have ee : (Str.empty ++ ("Book(" : Str)) = ("Book(" : Str) := by decide +kernel
  have la : ∀ a b : Str, (a ++ b).length = a.length + b.length := fun a b => strLen_append a b
  refine ⟨_, rfl, by decide, _, _, rfl, rfl, g.ok.pl, rfl, (kinds_sn g).sh, Nat.le_trans (kinds_sn g).dp (by decide), Nat.le_trans l1 (by rw [sizeLine_eq]; decide), _, rfl, ?_, _, rfl, ?_, by rw [ee]; exact q⟩
  · rw [la, e0, sizeLine_eq]
    show 5 + (toPy (kindsD ks)).shown.length ≤ _
    omega
  · rw [la, la, e0, e9, sizeLine_eq]
    show 5 + (toPy (kindsD ks)).shown.length + 1 ≤ _
    omega
theorem ok_law02 (T : TxtB K C mg) (bBool : mg "bool" = none) (nB : PySem.W.findIn K (.ref C) "__bool__" = some none) (Fn : Fun K "law" "law" s_law f fd)
    {fK : Addr} {fdK : FuncData} (GK : GnOk P w K mg base CX0 1 fK fdK ["_law_script"] (KB.spDeck K)) (mK : mg "_law_deck" = some (.ref fK)) (kK : PySem.W.keepIn K (.ref fK) = true) (bK : Binds K fdK ["_law_script"] [])
    (Cany : ∀ p l, Cal P w K mg base CX0 (DeckW p l) 20 "_law_any_kinds" ["_law_deck_here"] (spKinds p))
    (Cothers : ∀ p l, Cal P w K mg base CX0 (DeckW p l) 20 "_law_others" ["_law_deck_here", "_law_own_kinds"] (spOthers p))
    (CbareR : ∀ p l, Cal P w K mg base CX0 (DeckW p l) 20 "_law_bare_right" ["_law_deck_here", "_law_own_kinds"] (spBareR p))
    (Cwith : ∀ W, Cal P w K mg base CX0 W 20 "_law_with_worths" ["_law_own_kinds"] spWithL)
    (Calike : ∀ W, Cal P w K mg base CX0 W 20 "_law_alike" ["_law_one", "_law_other", "_law_due"] (spAlike C))
    (CrowR : ∀ W, Cal P w K mg base CX0 W 20 "_law_row_right" [] spRowR)
    (CBook : ∀ W, CalC P w K mg base (L2.CX P w) W 20 "Book" C ["self", "kinds"] (spBookX C CB))
    (CKBook : ∀ W, CalCK P w K mg base (L2.CX P w) W 20 "Book" C ["self", "kinds"] 0 ["kinds"] (fun l zs => l ++ zs) (spBookX C CB))
    (Clen : ∀ W, CalM P w K mg base CX0 W 20 C "__len__" ["self"] (spLenW C)) (Cstr : ∀ W, CalM P w K mg base CX0 W 20 C "__str__" ["self"] (KC.spStr C)) (Crepr : ∀ W, CalM P w K mg base CX0 W 20 C "__repr__" ["self"] (spReprW C)) : GnOk P w K mg base CX0 30 f fd ["_law_script"] (spLaw02 K) := by
  refine Fn.gn sc_law (fun vs H Q E h => ?_) fun cdv A outer s H vs Q E hr h => ?_
  · obtain ⟨a, ns, rfl, _⟩ := h
    rfl
  have hu := hr.units
  have hu2 : (A.deeper (envOfC "law" (defScope s_law) s.heap.objs.size f cdv)).units + 66 < cLine := by have := hr.room.un; omega
  obtain ⟨a, ns, rfl, hS, h63, q⟩ := h
  refine ⟨_, PSs.nox (pss_cons (ps_set (i := 1) sc_law.nd rfl (.inl rfl) (gn_call GK (hr.mono (by omega)) rfl mK kK bK .nil pass0 (pa_cons (pv 0) pa_nil) (by decide) rfl rfl)) (pss_any (F := fun i : Addr × Addr × Hp × Hp => ⟨DeckW i.1 i.2.1, i.2.2.1, i.2.2.2⟩) (fun i => by
    have C__law_any_kinds := Cany i.1 i.2.1
    have C__law_others := Cothers i.1 i.2.1
    have C__law_bare_right := CbareR i.1 i.2.1
    have C__law_with_worths := Cwith (DeckW i.1 i.2.1)
    have C__law_alike := Calike (DeckW i.1 i.2.1)
    have C__law_row_right := CrowR (DeckW i.1 i.2.1)
    have C_Book := CBook (DeckW i.1 i.2.1)
    have CK_Book := CKBook (DeckW i.1 i.2.1)
    have CM___len__ := Clen (DeckW i.1 i.2.1)
    have CM___str__ := Cstr (DeckW i.1 i.2.1)
    have CM___repr__ := Crepr (DeckW i.1 i.2.1)
    exact (dss_cons (ds_for PassesOwn.never rfl (di_range1 T.b_range (da_cons de_int da_nil)) (dg_name 2 sc_law.nd)
  (dss_cons (ds_set 3 (de_fn C__law_any_kinds (hr.mono (by omega)) pass0 lets0 (da_cons (de_name 1) da_nil)) sc_law.nd)
  (dss_cons (ds_set 4 (de_repr T.b_repr hr.gd hu (da_cons (de_name 3) da_nil)) sc_law.nd)
  (dss_cons (ds_set 5 (de_lst (da_cons (de_make C_Book (hr.mono (by omega)) passCX lets0 (da_cons (de_name 3) da_nil)) (da_cons (de_makeK0 CK_Book (hr.mono (by omega)) passCX lets0 (dk_cons (de_name 3) dk_nil)) da_nil))) sc_law.nd)
  (dss_cons (ds_set 6 (de_add (de_add de_str (de_repr T.b_repr hr.gd hu (da_cons (de_name 3) da_nil))) de_str) sc_law.nd)
  (dss_cons (ds_for PassesOwn.never rfl (di_range1 T.b_range (da_cons de_int da_nil)) (dg_name 7 sc_law.nd)
  (dss_cons (ds_for PassesOwn.never rfl (di_seq (de_name 5)) (dg_name 8 sc_law.nd)
  (dss_cons (ds_set 9 (de_tup (da_cons (de_fld T.cl_Book T.na_Book_kinds (de_name 8)) (da_cons (de_lenO CM___len__ (hr.mono (by omega)) T.b_len (da_cons (de_name 8) da_nil)) (da_cons (de_boolOf bBool (da_cons (de_lenO CM___len__ (hr.mono (by omega)) T.b_len (da_cons (de_name 8) da_nil)) da_nil)) (da_cons (de_reprO CM___repr__ (hr.mono (by omega)) hu T.b_repr (da_cons (de_name 8) da_nil)) (da_cons (de_if (dt_lenO CM___len__ nB (hr.mono (by omega)) (de_name 8)) de_int de_int) da_nil)))))) sc_law.nd)
  (dss_cons (ds_if (dt_c (.ne hu) (de_repr T.b_repr hr.gd hu (da_cons (de_name 9) da_nil)) (de_repr T.b_repr hr.gd hu (da_cons (de_tup (da_cons (de_name 3) (da_cons (de_len T.b_len (da_cons (de_name 3) da_nil)) (da_cons de_bl (da_cons (de_name 6) (da_cons de_int da_nil)))))) da_nil)))
  (dss_one (ds_ret de_bl))
  dss_nil)
  (dss_one (ds_if (dt_not (dt_val (de_fn C__law_alike (hr.mono (by omega)) pass0 lets0 (da_cons (de_name 8) (da_cons (de_at hu (de_name 5) de_int) (da_cons de_bl da_nil))))))
  (dss_one (ds_ret de_bl))
  dss_nil)))))
  (dss_one (ds_for PassesOwn.never rfl (di_seq (de_fn C__law_others (hr.mono (by omega)) pass0 lets0 (da_cons (de_name 1) (da_cons (de_name 3) da_nil)))) (dg_name 10 sc_law.nd)
  (dss_one (ds_if (dt_wh (dw_and (dt_val (de_fn C__law_with_worths (hr.mono (by omega)) pass0 lets0 (da_cons (de_name 10) da_nil))) (dw_and1 (dt_not (dt_val (de_fn C__law_alike (hr.mono (by omega)) pass0 lets0 (da_cons (de_at hu (de_name 5) de_int) (da_cons (de_make C_Book (hr.mono (by omega)) passCX lets0 (da_cons (de_name 10) da_nil)) (da_cons (de_c (.eq hu) (de_name 10) (de_name 3)) da_nil)))))))))
  (dss_one (ds_ret de_bl))
  dss_nil))))))
  (dss_cons (ds_set 11 (de_lst (da_cons de_non (da_cons de_bl (da_cons de_int (da_cons de_int (da_cons de_str (da_cons (de_strO CM___str__ (hr.mono (by omega)) hu T.b_str (da_cons (de_at hu (de_name 5) de_int) da_nil)) (da_cons (de_tup da_nil) (da_cons (de_name 3) (da_cons (de_lst da_nil) (da_cons de_dict0 (da_cons (de_name 6) (da_cons (de_lst (da_cons (de_at hu (de_name 5) de_int) da_nil)) da_nil))))))))))))) sc_law.nd)
  (dss_cons (ds_if (dt_c (.ne hu) (de_lc (own := [("_law_thing", 12)]) rfl sc_law.nd (di_seq (de_name 11)) (blkOk_by (own := [("_law_thing", 12)]) (N := ["_law_script", "_law_deck_here", "_law_turn", "_law_own_kinds", "_law_kept", "_law_books", "_law_shown", "_law_again", "_law_book", "_law_told", "_law_some", "_law_things", "_law_thing"]) (sc := defScope s_law) (by decide +kernel)) (fun _ _ _ _ _ => (dg_name 12 sc_law.nd)) (fun _ _ _ _ _ => (dif_one (dt_not (dt_val (de_fn C__law_alike (hr.mono (by omega)) pass0 lets0 (da_cons (de_at hu (de_name 5) de_int) (da_cons (de_name 12) (da_cons de_bl da_nil)))))))) (fun _ _ _ _ _ => (de_name 12))) (de_lst da_nil))
  (dss_one (ds_ret de_bl))
  dss_nil)
  (dss_one (ds_if (dt_wh (dw_or (dt_not (dt_val (de_fn C__law_bare_right (hr.mono (by omega)) pass0 lets0 (da_cons (de_name 1) (da_cons (de_name 3) da_nil))))) (dw_or1 (dt_c (.ne hu) (de_repr T.b_repr hr.gd hu (da_cons (de_name 3) da_nil)) (de_name 4)))))
  (dss_one (ds_ret de_bl))
  dss_nil))))))))))
  (dss_one (ds_ret (de_fn0 C__law_row_right (hr.mono (by omega)) pass0 lets0))))))), ?_⟩
  refine ⟨_, rfl, a, ns, rfl, hS, h63, fun p l H' sm np nl dk => ?_⟩
  refine ⟨(p, l, H', fun _ => none), fun _ => none, _, at_deck (σ := some (.ref a) :: some (.ref p) :: List.replicate 11 none) 1 dk rfl, ?_⟩
  generalize hZ : ends _ _ _ _ = Z
  have hq : Z.rt (.bl true) := by
    rw [← hZ]
    intro v I' H'' _ rv
    cases rv
    exact q _
  clear hZ
  simp only [getD_0, getD_s, set_0, set_s, boolD_bl, intD_int, startD, List.map, List.length_cons, List.length_nil, List.replicate, List.cons_append, List.nil_append, defEnds, wipeD, if_true, if_false, Bool.not_true, Bool.not_false, Bool.false_eq_true]
  refine ⟨3, rfl, by decide, by decide, ?_⟩
  refine forD_ind (fun (l : List D) ρ => ∃ (u2 u3 u4 u5 u6 u7 u8 u9 u10 u11 u12 : Option Ent), ρ = [none, some (.dat (.opq p)), u2, u3, u4, u5, u6, u7, u8, u9, u10, u11, u12]) (fun ρ _ => (show spRowR.f [] Z.rt fun _ => False from ⟨rfl, hq⟩)) (fun d l ρ R ⟨u2, u3, u4, u5, u6, u7, u8, u9, u10, u11, u12, e⟩ hR => ?_) _ _ ⟨none, none, none, none, none, none, none, none, none, none, none, rfl⟩
  subst e
  refine ⟨_, rfl, rfl, fun ks g => ?_⟩
  have gw := g.wel
  have gs1 := g.s1
  have wth := g.wthy (fun _ h => h) (Nat.le_refl _)
  have ksn := kinds_sn g
  have rp : ∀ {F : D → Prop}, F (.str (shw (kindsD ks))) → reprD [kindsD ks] F := fun {F} f => ⟨g.ok.pl, ksn.sh, Nat.le_trans ksn.dp (by decide), Nat.le_trans ksn.ln (by rw [sizeLine_eq]; decide), f⟩
  have lshw : (shw (kindsD ks)).length ≤ 130557 := ksn.ln
  have la : ∀ a b : Str, (a ++ b).length = a.length + b.length := fun a b => strLen_append a b
  have mk : ∀ {ks' : List Kind} {F : D → Prop}, Wel ks' → (∀ k ∈ ks', wthy ks' k.1 = true) → F (bookD C ks') → (spBookX C CB).f [kindsD ks'] F (fun _ => False) := fun {ks' F} g h r => ⟨ks', rfl, g, fun _ => r, fun pre k post e _ hk => by
    have := h k (by rw [e]; simp)
    rw [hk] at this
    cases this⟩
  refine ⟨_, rfl, rp ?_⟩
  refine ⟨_, rfl, mk gw wth ?_⟩
  refine ⟨_, rfl, trivial, mk gw wth ?_⟩
  refine ⟨by decide, _, rfl, rp ?_⟩
  refine ⟨by show 5 + (shw (kindsD ks)).length ≤ _; rw [sizeLine_eq]; omega, by rw [la]; show 5 + (shw (kindsD ks)).length + 1 ≤ _; rw [sizeLine_eq]; omega, ?_⟩
  refine ⟨2, rfl, by decide, by decide, ?_⟩
  refine forD_ind (fun (l : List D) ρ => ∃ (u7 u8 u9 u10 : Option Ent), ρ = [none, some (.dat (.opq p)), some (.dat d), some (.dat (kindsD ks)), some (.dat (.str (shw (kindsD ks)))), some (.dat (.lst [bookD C ks, bookD C ks])), some (.dat (.str (reprB ks))), u7, u8, u9, u10, u11, u12]) (fun ρ ⟨u7, u8, u9, u10, e⟩ => ?_) (fun d2 l2 ρ R2 ⟨u7, u8, u9, u10, e⟩ hR2 => ?_) _ _ ⟨_, _, _, _, rfl⟩
  · subst e
    refine ⟨_, rfl, _, atI_nat (j := 0) rfl, _, rfl, _, rfl, ks, rfl, g, _, rfl, by decide, _, rfl, by decide, _, rfl, _, rfl, _, atI_nat (j := 0) rfl, by decide, by decide, _, rfl, ?_⟩
    simp only [itemsD]
    refine ⟨by show 12 ≤ sizeLine; decide, lcD_none (fun x hx R S s => ?_) ?_⟩
    · refine ⟨_, rfl, _, atI_nat (j := 0) rfl, _, rfl, ks, x, false, rfl, gw, .inr ⟨?_, rfl⟩, _, rfl, s⟩
      simp only [List.mem_cons, List.not_mem_nil, or_false] at hx
      rcases hx with rfl | rfl | rfl | rfl | rfl | rfl | rfl | rfl | rfl | rfl | rfl | rfl <;> rfl
    · refine ⟨by decide, by decide +kernel, ?_⟩
      have e1 : deq (.lst []) (.lst []) = true := by decide +kernel
      rw [e1]
      show boolD (.bl false) _
      rw [boolD_bl, if_neg (by decide)]
      refine ⟨_, rfl, _, rfl, ks, rfl, g, _, rfl, ?_⟩
      dsimp only
      rw [if_neg (by decide)]
      refine ⟨_, rfl, rp ?_⟩
      refine ⟨_, rfl, ?_⟩
      show neD (.str _) (.str _) _
      rw [neD_str]
      simp only [decide_true, Bool.not_true, boolD_bl]
      rw [if_neg (by decide)]
      exact hR _ ⟨_, _, _, _, _, _, _, _, _, _, _, rfl⟩
  · subst e
    simp only [getD_0, getD_s, set_0, set_s, boolD_bl, intD_int, startD, List.map, List.length_cons, List.length_nil, List.replicate, List.cons_append, List.nil_append, defEnds, wipeD, if_true, if_false, Bool.not_true, Bool.not_false, Bool.false_eq_true]
    refine forD_ind (fun (l : List D) ρ => (∀ x ∈ l, x = bookD C ks) ∧ ∃ (u8 u9 : Option Ent), ρ = [none, some (.dat (.opq p)), some (.dat d), some (.dat (kindsD ks)), some (.dat (.str (shw (kindsD ks)))), some (.dat (.lst [bookD C ks, bookD C ks])), some (.dat (.str (reprB ks))), some (.dat d2), u8, u9, u10, u11, u12]) (fun ρ ⟨_, u8, u9, e⟩ => ?_) (fun x l3 ρ R3 ⟨hx, u8, u9, e⟩ hR3 => ?_) _ _ ⟨by simp, _, _, rfl⟩
    · subst e
      refine ⟨_, rfl, _, rfl, ks, rfl, gw, fun kss hks hkl => ?_⟩
      simp only [itemsD]
      refine forD_ind (fun (l : List D) ρ => ∃ (rest : List (List Kind)) (u8 u9 u10 : Option Ent), l = rest.map kindsD ∧ (∀ k' ∈ rest, Wel k') ∧ ρ = [none, some (.dat (.opq p)), some (.dat d), some (.dat (kindsD ks)), some (.dat (.str (shw (kindsD ks)))), some (.dat (.lst [bookD C ks, bookD C ks])), some (.dat (.str (reprB ks))), some (.dat d2), u8, u9, u10, u11, u12]) (fun ρ ⟨rest, u8, u9, u10, _, _, e⟩ => ?_) (fun x l3 ρ R3 ⟨rest, u8, u9, u10, el, hw, e⟩ hR3 => ?_) _ _ ⟨kss, _, _, _, rfl, hks, rfl⟩
      · subst e
        exact hR2 _ ⟨_, _, _, _, rfl⟩
      · subst e
        cases rest with
        | nil => cases el
        | cons k' rest =>
          rw [List.map_cons] at el
          obtain ⟨rfl, rfl⟩ := List.cons.inj el
          have wk := hw k' (by simp)
          have nxt : R3 [none, some (.dat (.opq p)), some (.dat d), some (.dat (kindsD ks)), some (.dat (.str (shw (kindsD ks)))), some (.dat (.lst [bookD C ks, bookD C ks])), some (.dat (.str (reprB ks))), some (.dat d2), u8, u9, some (.dat (kindsD k')), u11, u12] := hR3 _ ⟨rest, _, _, _, rfl, fun a ha => hw a (List.mem_cons_of_mem _ ha), rfl⟩
          refine ⟨_, rfl, k', rfl, wk, _, rfl, ?_⟩
          by_cases hall : ∀ k ∈ k', wthy k' k.1 = true
          · rw [decide_eq_true hall]
            dsimp only
            rw [if_pos rfl]
            refine ⟨_, rfl, _, atI_nat (j := 0) rfl, _, rfl, mk wk hall ⟨_, rfl, _, rfl, by simp [canEq, wk.ok.okE (by decide), gw.ok.okE (by decide)], ?_⟩⟩
            rw [kindsD_eq]
            refine ⟨ks, bookD C k', decide (k' = ks), rfl, gw, .inl ⟨k', rfl, wk, by simp [eq_comm]⟩, _, rfl, ?_⟩
            exact nxt
          · rw [decide_eq_false hall]
            exact nxt
    · subst e
      obtain rfl := hx x (by simp)
      have hb : (((ks.length : Nat) : Int) != 0) = true := by
        have : ks.length ≠ 0 := fun z => g.ne (List.length_eq_zero_iff.mp z)
        simp [this]
      refine ⟨_, rfl, _, _, rfl, rfl, _, rfl, _, rfl, _, rfl, ks, rfl, gw, ks.length, rfl, by omega, _, rfl, _, rfl, _, rfl, ks, rfl, gw, ks.length, rfl, by omega, ?_⟩
      show getD _ 8 _
      refine ⟨_, rfl, _, rfl, _, rfl, ks, rfl, g, _, rfl, _, rfl, _, rfl, ks, rfl, gw, ks.length, rfl, by omega, ?_⟩
      have hn0 : (ks.length != 0) = true := by
        have : ks.length ≠ 0 := fun z => g.ne (List.length_eq_zero_iff.mp z)
        simp [this]
      rw [if_pos hn0]
      rw [hb]
      refine ⟨by decide, _, rfl, toldT_repr g ?_⟩
      refine ⟨_, rfl, _, rfl, ?_⟩
      show getD _ 6 _
      rw [List.length_map]
      refine ⟨_, rfl, by decide, toldT_repr g ?_⟩
      show neD (.str _) (.str _) _
      rw [neD_str]
      simp only [decide_true, Bool.not_true, boolD_bl]
      rw [if_neg (by decide)]
      refine ⟨_, rfl, _, rfl, _, atI_nat (j := 0) rfl, ks, bookD C ks, true, rfl, gw, .inl ⟨ks, rfl, gw, by simp⟩, _, rfl, ?_⟩
      exact hR3 _ ⟨fun y hy => hx y (List.mem_cons_of_mem _ hy), _, _, rfl⟩
end
end KB
namespace KB
open PySem L2 Dk PySem.Spec
open PyProof.Rows (envOfC)
abbrev s_Bare___init__ : Stmt := inClass (top 7) 0
theorem sc_Bare___init__ : FnScope ["self", "kind"] ["self", "kind"] (defScope s_Bare___init__) := ⟨rfl, rfl, rfl, by decide +kernel, rfl, by decide +kernel, by decide +kernel⟩
theorem bd_Bare___init__ (kV doc pm : Value) (an : Option Addr) (cdv ct : Value) (us : List Value) (hl : us.length = 2) : bindArgs (PySem.W.fnOf "__init__" "Bare.__init__" (defArgs s_Bare___init__) (defBody s_Bare___init__) (defScope s_Bare___init__) .none kV doc pm an cdv ct) ⟨us, []⟩ = pure ((["self", "kind"] : List Str).zip us) := by
  match us, hl with
  | [v0, v1], _ => rfl
section
variable {P : Program} {w : World} {K : PySem.W.Frag} {N D : Addr} {mg : Str → Option Value} {base : Heap} {k : Nat} {f : Addr} {fd : FuncData}
theorem ok_Bare (ox : OxC K "ValueError.__new__" veTl N) (hno : PySem.W.findIn K (.ref N) "kind" = some none) (hk : mg "KindError" = some (.ref D)) (ga : PySem.W.specialIn K (.ref D) "__getattribute__" = some (some (.builtin "type.__getattribute__"))) (rd : PySem.W.readsIn K D (.type "type") = true) (vV : PySem.W.findCls K (.ref D) (.type "type") "__init__" = some (.val (.builtin "ValueError.__init__"))) (Fn : Fun K "__init__" "Bare.__init__" s_Bare___init__ f fd) : GnOk P w K mg base CX0 (k + 1) f fd ["self", "kind"] (spX N "kind") := by
  refine Fn.gn sc_Bare___init__ (fun vs H Q E ⟨a, y, e, _⟩ => by rw [e]; rfl) fun cdv A outer s H vs Q E hr ⟨a, y, e, ha, q⟩ => ?_
  subst e
  exact run_xinit xb_ve ox hno (fun ta h => pe_xinitO xb_ve rfl hk ga rd vV hh_VE h) rfl (by first | exact Or.inl rfl | exact Or.inr (Or.inl rfl)) (by first | exact Or.inl rfl | exact Or.inr (Or.inl rfl)) (by decide) (by decide) rfl rfl rfl rfl ha q
end
end KB
namespace Dk
open PySem L2 PySem.Spec PyProof.Rows
section
variable {F : PySem.W.Frag → Bool} {fn : List He.FnD} {K : PySem.W.Frag}
theorem SaysX.fact (c : SaysX F fn K) : F K = true := (He.ba (show (F K && fn.all fun d => (He.Fa.code d.at_ d.qual).ok K) = true from congrArg (fun z : Bool × List He.FnV => z.1) c)).1
theorem SaysX.def_ (c : SaysX F fn K) (i : Nat) {d : He.FnD} (h : fn[i]? = some d := by rfl) :
    ∃ oc od osl kV doc pm an cdv ct, K.lookup (He.fAd K d.at_) = some ⟨oc, od, .func (PySem.W.fnOf d.name d.qual d.params d.body d.scope .none kV doc pm an cdv ct), osl⟩ ∧ PySem.W.codeIn K cdv d.qual = true := by
  have c2 := (He.ba (show (F K && fn.all fun d => (He.Fa.code d.at_ d.qual).ok K) = true from congrArg (fun z : Bool × List He.FnV => z.1) c)).2
  have e : fn.map (fun d => He.fnObs K d.at_) = fn.map He.FnD.val := congrArg (fun z : Bool × List He.FnV => z.2) c
  have e2 : (fn.map fun d => He.fnObs K d.at_)[i]? = (fn.map He.FnD.val)[i]? := by rw [e]
  rw [List.getElem?_map, List.getElem?_map, h] at e2
  exact He.fn_ok (Option.some.inj e2) (List.all_eq_true.mp c2 d (List.mem_of_getElem? h))
end
theorem faS_in {K : PySem.W.Frag} {x z : Str} (c : (He.Fa.str x z).ok K = true) : ∃ t, PySem.W.nsIn K mainGlobals x = some (some (.str z t)) := by
  have c2 : (match PySem.W.nsIn K mainGlobals x with
    | some (some (.str y _)) => decide (y = z)
    | _ => false) = true := c
  cases e : PySem.W.nsIn K mainGlobals x with
  | none => rw [e] at c2; cases c2
  | some o =>
    rw [e] at c2
    cases o with
    | none => cases c2
    | some v =>
      cases v with
      | str y t =>
        have ej : y = z := of_decide_eq_true c2
        exact ⟨t, by rw [ej]⟩
      | _ => cases c2
theorem faI_in {K : PySem.W.Frag} {x : Str} {i : Int} (c : (He.Fa.int x i).ok K = true) : ∃ t, PySem.W.nsIn K mainGlobals x = some (some (.int i t)) := by
  have c2 : (match PySem.W.nsIn K mainGlobals x with
    | some (some (.int j _)) => decide (j = i)
    | _ => false) = true := c
  cases e : PySem.W.nsIn K mainGlobals x with
  | none => rw [e] at c2; cases c2
  | some o =>
    rw [e] at c2
    cases o with
    | none => cases c2
    | some v =>
      cases v with
      | int j t =>
        have ej : j = i := of_decide_eq_true c2
        exact ⟨t, by rw [ej]⟩
      | _ => cases c2
theorem walk_gnE {l : PySem.W.OpenLaw} {n k : Nat} {q : Program} {loose : List Str} {XP : (Str → Option Value) → Heap → Prop} {YP : World → Heap → Prop} {d : DefRec} {x : Str} {sp : PySem.W.Frag → Sp}
    (hn : l.most = some n) (hn2 : n ≤ sizeLine) (hdf : d.params.defaults = []) (room : Room k callerA)
    (F : ∀ (w : World) (mg : Str → Option Value) (fa : Addr) (h : Heap), YP w h → h.Ns mainGlobals mg → mg d.name = some (.ref fa) →
      ∃ (K : PySem.W.Frag) (fd : FuncData), K.In h ∧ (∀ (s : Shared) (u : Value), BindsTo s fd ⟨[u], []⟩ [(x, u)]) ∧ ∀ base : Heap, K.In base → base.Ns mainGlobals mg → GnOk l.prog w K mg base CX0 k fa fd [x] (sp K))
    (says : ∀ (K : PySem.W.Frag) (H : Hp) (a : Addr) (ns : List Int), ns.length ≤ n → SqL K H a (ns.map V.int) → sp K [.ref a] H (fun v _ => v = .bl true) fun _ _ _ => False) :
    PySem.W.WalkO q loose XP YP l.row.toRowW d [] (fun f vs => PySem.call f vs) := by
  refine Att.attach_call hn hdf fun w s0 s1 mg mb fa o pm cd doc a us ns G Y ho hd hcd hmg hobj hints hlen hg => ?_
  obtain ⟨K, fd, KX, hb, hF⟩ := F w mg fa _ Y G.T.g hmg
  exact law_gn KX G.T.g G.T.b G.T.builtins G.T.nolimit hg hobj hints (Nat.le_trans hlen hn2) room hF hb (fun H _ hS => says _ H a ns hlen hS) fun H e s' z => z
end Dk
namespace KB
open PySem L2 Dk PySem.Spec PyProof.Rows
open KC (s__law_letters s__law_great_kinds s__law_any_kinds s_kind_text s_Book___str__)
theorem bm_Book___init__ (kV doc pm : Value) (an : Option Addr) (cdv ct : Value) (us ws : List Value) (h1 : us.length = 1) (hl : ws.length = 1) : bindArgs (PySem.W.fnOf "__init__" "Book.__init__" (defArgs s_Book___init__) (defBody s_Book___init__) (defScope s_Book___init__) .none kV doc pm an cdv ct) ⟨us, (["kinds"] : List Str).zip ws⟩ = pure ((["self", "kinds"] : List Str).zip (us ++ ws)) := by
  match us, h1, ws, hl with
  | [u], _, [v0], _ => rfl
theorem all_mk {l : PySem.W.OpenLaw} {w : World} {K : PySem.W.Frag} {h : Heap} {mg : Str → Option Value} {fa : Addr} (X : K.In h) (G : h.Ns mainGlobals mg) (hfa : mg "law" = some (.ref fa))
    {C_Book : Addr}
    {C_Bare : Addr}
    {C_Gap : Addr}
    {C_InUse : Addr}
    {C_NoBack : Addr}
    {C_NoDress : Addr}
    {C_NoFall : Addr}
    {C_NoFilling : Addr}
    {C_NoFun : Addr}
    {C_NoIndex : Addr}
    {C_NoName : Addr}
    {C_NoOrnament : Addr}
    {C_NoText : Addr}
    {C_Taken : Addr}
    {C_TooLong : Addr}
    {C_Unlike : Addr}
    {C_KindError : Addr}
    {f1 : Addr} {od1 an1 : Option Addr} {sl1 : Array (Option Value)} {oc1 kV1 dc1 pm1 cd1 ct1 : Value}
    {f2 : Addr} {od2 an2 : Option Addr} {sl2 : Array (Option Value)} {oc2 kV2 dc2 pm2 cd2 ct2 : Value}
    {f3 : Addr} {od3 an3 : Option Addr} {sl3 : Array (Option Value)} {oc3 kV3 dc3 pm3 cd3 ct3 : Value}
    {f4 : Addr} {od4 an4 : Option Addr} {sl4 : Array (Option Value)} {oc4 kV4 dc4 pm4 cd4 ct4 : Value}
    {f5 : Addr} {od5 an5 : Option Addr} {sl5 : Array (Option Value)} {oc5 kV5 dc5 pm5 cd5 ct5 : Value}
    {f6 : Addr} {od6 an6 : Option Addr} {sl6 : Array (Option Value)} {oc6 kV6 dc6 pm6 cd6 ct6 : Value}
    {f7 : Addr} {od7 an7 : Option Addr} {sl7 : Array (Option Value)} {oc7 kV7 dc7 pm7 cd7 ct7 : Value}
    {f8 : Addr} {od8 an8 : Option Addr} {sl8 : Array (Option Value)} {oc8 kV8 dc8 pm8 cd8 ct8 : Value}
    {f9 : Addr} {od9 an9 : Option Addr} {sl9 : Array (Option Value)} {oc9 kV9 dc9 pm9 cd9 ct9 : Value}
    {f10 : Addr} {od10 an10 : Option Addr} {sl10 : Array (Option Value)} {oc10 kV10 dc10 pm10 cd10 ct10 : Value}
    {f11 : Addr} {od11 an11 : Option Addr} {sl11 : Array (Option Value)} {oc11 kV11 dc11 pm11 cd11 ct11 : Value}
    {f12 : Addr} {od12 an12 : Option Addr} {sl12 : Array (Option Value)} {oc12 kV12 dc12 pm12 cd12 ct12 : Value}
    {f13 : Addr} {od13 an13 : Option Addr} {sl13 : Array (Option Value)} {oc13 kV13 dc13 pm13 cd13 ct13 : Value}
    {f14 : Addr} {od14 an14 : Option Addr} {sl14 : Array (Option Value)} {oc14 kV14 dc14 pm14 cd14 ct14 : Value}
    {f15 : Addr} {od15 an15 : Option Addr} {sl15 : Array (Option Value)} {oc15 kV15 dc15 pm15 cd15 ct15 : Value}
    {f16 : Addr} {od16 an16 : Option Addr} {sl16 : Array (Option Value)} {oc16 kV16 dc16 pm16 cd16 ct16 : Value}
    {f17 : Addr} {od17 an17 : Option Addr} {sl17 : Array (Option Value)} {oc17 kV17 dc17 pm17 cd17 ct17 : Value}
    {f18 : Addr} {od18 an18 : Option Addr} {sl18 : Array (Option Value)} {oc18 kV18 dc18 pm18 cd18 ct18 : Value}
    {f19 : Addr} {od19 an19 : Option Addr} {sl19 : Array (Option Value)} {oc19 kV19 dc19 pm19 cd19 ct19 : Value}
    {f20 : Addr} {od20 an20 : Option Addr} {sl20 : Array (Option Value)} {oc20 kV20 dc20 pm20 cd20 ct20 : Value}
    {f21 : Addr} {od21 an21 : Option Addr} {sl21 : Array (Option Value)} {oc21 kV21 dc21 pm21 cd21 ct21 : Value}
    {f22 : Addr} {od22 an22 : Option Addr} {sl22 : Array (Option Value)} {oc22 kV22 dc22 pm22 cd22 ct22 : Value}
    {f23 : Addr} {od23 an23 : Option Addr} {sl23 : Array (Option Value)} {oc23 kV23 dc23 pm23 cd23 ct23 : Value}
    {f24 : Addr} {od24 an24 : Option Addr} {sl24 : Array (Option Value)} {oc24 kV24 dc24 pm24 cd24 ct24 : Value}
    {f25 : Addr} {od25 an25 : Option Addr} {sl25 : Array (Option Value)} {oc25 kV25 dc25 pm25 cd25 ct25 : Value}
    {f26 : Addr} {od26 an26 : Option Addr} {sl26 : Array (Option Value)} {oc26 kV26 dc26 pm26 cd26 ct26 : Value}
    {f27 : Addr} {od27 an27 : Option Addr} {sl27 : Array (Option Value)} {oc27 kV27 dc27 pm27 cd27 ct27 : Value}
    {f28 : Addr} {od28 an28 : Option Addr} {sl28 : Array (Option Value)} {oc28 kV28 dc28 pm28 cd28 ct28 : Value}
    {f29 : Addr} {od29 an29 : Option Addr} {sl29 : Array (Option Value)} {oc29 kV29 dc29 pm29 cd29 ct29 : Value}
    {t1 : Tok}
    {t2 : Tok}
    {t3 : Tok}
    {C_NoBook : Addr}
    (aCBook : PySem.W.nsIn K mainGlobals "Book" = some (some (.ref C_Book)))
    (aCBare : PySem.W.nsIn K mainGlobals "Bare" = some (some (.ref C_Bare)))
    (aCGap : PySem.W.nsIn K mainGlobals "Gap" = some (some (.ref C_Gap)))
    (aCInUse : PySem.W.nsIn K mainGlobals "InUse" = some (some (.ref C_InUse)))
    (aCNoBack : PySem.W.nsIn K mainGlobals "NoBack" = some (some (.ref C_NoBack)))
    (aCNoDress : PySem.W.nsIn K mainGlobals "NoDress" = some (some (.ref C_NoDress)))
    (aCNoFall : PySem.W.nsIn K mainGlobals "NoFall" = some (some (.ref C_NoFall)))
    (aCNoFilling : PySem.W.nsIn K mainGlobals "NoFilling" = some (some (.ref C_NoFilling)))
    (aCNoFun : PySem.W.nsIn K mainGlobals "NoFun" = some (some (.ref C_NoFun)))
    (aCNoIndex : PySem.W.nsIn K mainGlobals "NoIndex" = some (some (.ref C_NoIndex)))
    (aCNoName : PySem.W.nsIn K mainGlobals "NoName" = some (some (.ref C_NoName)))
    (aCNoOrnament : PySem.W.nsIn K mainGlobals "NoOrnament" = some (some (.ref C_NoOrnament)))
    (aCNoText : PySem.W.nsIn K mainGlobals "NoText" = some (some (.ref C_NoText)))
    (aCTaken : PySem.W.nsIn K mainGlobals "Taken" = some (some (.ref C_Taken)))
    (aCTooLong : PySem.W.nsIn K mainGlobals "TooLong" = some (some (.ref C_TooLong)))
    (aCUnlike : PySem.W.nsIn K mainGlobals "Unlike" = some (some (.ref C_Unlike)))
    (aCKindError : PySem.W.nsIn K mainGlobals "KindError" = some (some (.ref C_KindError)))
    (a1 : PySem.W.nsIn K mainGlobals "is_name" = some (some (.ref f1))) (l1 : K.lookup f1 = some ⟨oc1, od1, .func (PySem.W.fnOf "is_name" "is_name" (defArgs s_is_name) (defBody s_is_name) (defScope s_is_name) .none kV1 dc1 pm1 an1 cd1 ct1), sl1⟩) (c1 : PySem.W.codeIn K cd1 "is_name" = true) (k1 : PySem.W.keepIn K (.ref f1) = true)
    (a2 : PySem.W.nsIn K mainGlobals "is_bough" = some (some (.ref f2))) (l2 : K.lookup f2 = some ⟨oc2, od2, .func (PySem.W.fnOf "is_bough" "is_bough" (defArgs s_is_bough) (defBody s_is_bough) (defScope s_is_bough) .none kV2 dc2 pm2 an2 cd2 ct2), sl2⟩) (c2 : PySem.W.codeIn K cd2 "is_bough" = true) (k2 : PySem.W.keepIn K (.ref f2) = true)
    (a3 : PySem.W.nsIn K mainGlobals "is_kind" = some (some (.ref f3))) (l3 : K.lookup f3 = some ⟨oc3, od3, .func (PySem.W.fnOf "is_kind" "is_kind" (defArgs s_is_kind) (defBody s_is_kind) (defScope s_is_kind) .none kV3 dc3 pm3 an3 cd3 ct3), sl3⟩) (c3 : PySem.W.codeIn K cd3 "is_kind" = true) (k3 : PySem.W.keepIn K (.ref f3) = true)
    (a4 : PySem.W.nsIn K mainGlobals "are_unlike" = some (some (.ref f4))) (l4 : K.lookup f4 = some ⟨oc4, od4, .func (PySem.W.fnOf "are_unlike" "are_unlike" (defArgs s_are_unlike) (defBody s_are_unlike) (defScope s_are_unlike) .none kV4 dc4 pm4 an4 cd4 ct4), sl4⟩) (c4 : PySem.W.codeIn K cd4 "are_unlike" = true) (k4 : PySem.W.keepIn K (.ref f4) = true)
    (a5 : PySem.W.nsIn K mainGlobals "is_kinds" = some (some (.ref f5))) (l5 : K.lookup f5 = some ⟨oc5, od5, .func (PySem.W.fnOf "is_kinds" "is_kinds" (defArgs s_is_kinds) (defBody s_is_kinds) (defScope s_is_kinds) .none kV5 dc5 pm5 an5 cd5 ct5), sl5⟩) (c5 : PySem.W.codeIn K cd5 "is_kinds" = true) (k5 : PySem.W.keepIn K (.ref f5) = true)
    (a6 : PySem.W.nsIn K mainGlobals "with_worths" = some (some (.ref f6))) (l6 : K.lookup f6 = some ⟨oc6, od6, .func (PySem.W.fnOf "with_worths" "with_worths" (defArgs s_with_worths) (defBody s_with_worths) (defScope s_with_worths) .none kV6 dc6 pm6 an6 cd6 ct6), sl6⟩) (c6 : PySem.W.codeIn K cd6 "with_worths" = true) (k6 : PySem.W.keepIn K (.ref f6) = true)
    (a7 : PySem.W.nsIn K mainGlobals "kind_text" = some (some (.ref f7))) (l7 : K.lookup f7 = some ⟨oc7, od7, .func (PySem.W.fnOf "kind_text" "kind_text" (defArgs s_kind_text) (defBody s_kind_text) (defScope s_kind_text) .none kV7 dc7 pm7 an7 cd7 ct7), sl7⟩) (c7 : PySem.W.codeIn K cd7 "kind_text" = true) (k7 : PySem.W.keepIn K (.ref f7) = true)
    (a8 : PySem.W.findIn K (.ref C_Book) "__init__" = some (some (.ref f8))) (l8 : K.lookup f8 = some ⟨oc8, od8, .func (PySem.W.fnOf "__init__" "Book.__init__" (defArgs s_Book___init__) (defBody s_Book___init__) (defScope s_Book___init__) .none kV8 dc8 pm8 an8 cd8 ct8), sl8⟩) (c8 : PySem.W.codeIn K cd8 "Book.__init__" = true) (k8 : PySem.W.keepIn K (.ref f8) = true)
    (i8 : PySem.W.isFn K (.ref f8) = true)
    (a9 : PySem.W.findIn K (.ref C_Book) "__eq__" = some (some (.ref f9))) (l9 : K.lookup f9 = some ⟨oc9, od9, .func (PySem.W.fnOf "__eq__" "Book.__eq__" (defArgs s_Book___eq__) (defBody s_Book___eq__) (defScope s_Book___eq__) .none kV9 dc9 pm9 an9 cd9 ct9), sl9⟩) (c9 : PySem.W.codeIn K cd9 "Book.__eq__" = true) (k9 : PySem.W.keepIn K (.ref f9) = true)
    (i9 : PySem.W.isFn K (.ref f9) = true)
    (a10 : PySem.W.findIn K (.ref C_Book) "__len__" = some (some (.ref f10))) (l10 : K.lookup f10 = some ⟨oc10, od10, .func (PySem.W.fnOf "__len__" "Book.__len__" (defArgs s_Book___len__) (defBody s_Book___len__) (defScope s_Book___len__) .none kV10 dc10 pm10 an10 cd10 ct10), sl10⟩) (c10 : PySem.W.codeIn K cd10 "Book.__len__" = true) (k10 : PySem.W.keepIn K (.ref f10) = true)
    (i10 : PySem.W.isFn K (.ref f10) = true)
    (a11 : PySem.W.findIn K (.ref C_Book) "__str__" = some (some (.ref f11))) (l11 : K.lookup f11 = some ⟨oc11, od11, .func (PySem.W.fnOf "__str__" "Book.__str__" (defArgs s_Book___str__) (defBody s_Book___str__) (defScope s_Book___str__) .none kV11 dc11 pm11 an11 cd11 ct11), sl11⟩) (c11 : PySem.W.codeIn K cd11 "Book.__str__" = true) (k11 : PySem.W.keepIn K (.ref f11) = true)
    (i11 : PySem.W.isFn K (.ref f11) = true)
    (a12 : PySem.W.findIn K (.ref C_Book) "__repr__" = some (some (.ref f12))) (l12 : K.lookup f12 = some ⟨oc12, od12, .func (PySem.W.fnOf "__repr__" "Book.__repr__" (defArgs s_Book___repr__) (defBody s_Book___repr__) (defScope s_Book___repr__) .none kV12 dc12 pm12 an12 cd12 ct12), sl12⟩) (c12 : PySem.W.codeIn K cd12 "Book.__repr__" = true) (k12 : PySem.W.keepIn K (.ref f12) = true)
    (i12 : PySem.W.isFn K (.ref f12) = true)
    (a13 : PySem.W.findIn K (.ref C_Bare) "__init__" = some (some (.ref f13))) (l13 : K.lookup f13 = some ⟨oc13, od13, .func (PySem.W.fnOf "__init__" "Bare.__init__" (defArgs s_Bare___init__) (defBody s_Bare___init__) (defScope s_Bare___init__) .none kV13 dc13 pm13 an13 cd13 ct13), sl13⟩) (c13 : PySem.W.codeIn K cd13 "Bare.__init__" = true) (k13 : PySem.W.keepIn K (.ref f13) = true)
    (i13 : PySem.W.isFn K (.ref f13) = true)
    (a14 : PySem.W.nsIn K mainGlobals "_law_deck" = some (some (.ref f14))) (l14 : K.lookup f14 = some ⟨oc14, od14, .func (PySem.W.fnOf "_law_deck" "_law_deck" (defArgs s__law_deck) (defBody s__law_deck) (defScope s__law_deck) .none kV14 dc14 pm14 an14 cd14 ct14), sl14⟩) (c14 : PySem.W.codeIn K cd14 "_law_deck" = true) (k14 : PySem.W.keepIn K (.ref f14) = true)
    (a15 : PySem.W.nsIn K mainGlobals "_law_draw" = some (some (.ref f15))) (l15 : K.lookup f15 = some ⟨oc15, od15, .func (PySem.W.fnOf "_law_draw" "_law_draw" (defArgs s__law_draw) (defBody s__law_draw) (defScope s__law_draw) .none kV15 dc15 pm15 an15 cd15 ct15), sl15⟩) (c15 : PySem.W.codeIn K cd15 "_law_draw" = true) (k15 : PySem.W.keepIn K (.ref f15) = true)
    (a16 : PySem.W.nsIn K mainGlobals "_law_pick" = some (some (.ref f16))) (l16 : K.lookup f16 = some ⟨oc16, od16, .func (PySem.W.fnOf "_law_pick" "_law_pick" (defArgs s__law_pick) (defBody s__law_pick) (defScope s__law_pick) .none kV16 dc16 pm16 an16 cd16 ct16), sl16⟩) (c16 : PySem.W.codeIn K cd16 "_law_pick" = true) (k16 : PySem.W.keepIn K (.ref f16) = true)
    (a17 : PySem.W.nsIn K mainGlobals "_law_names" = some (some (.ref f17))) (l17 : K.lookup f17 = some ⟨oc17, od17, .func (PySem.W.fnOf "_law_names" "_law_names" (defArgs s__law_names) (defBody s__law_names) (defScope s__law_names) .none kV17 dc17 pm17 an17 cd17 ct17), sl17⟩) (c17 : PySem.W.codeIn K cd17 "_law_names" = true) (k17 : PySem.W.keepIn K (.ref f17) = true)
    (a18 : PySem.W.nsIn K mainGlobals "_law_letters" = some (some (.ref f18))) (l18 : K.lookup f18 = some ⟨oc18, od18, .func (PySem.W.fnOf "_law_letters" "_law_letters" (defArgs s__law_letters) (defBody s__law_letters) (defScope s__law_letters) .none kV18 dc18 pm18 an18 cd18 ct18), sl18⟩) (c18 : PySem.W.codeIn K cd18 "_law_letters" = true) (k18 : PySem.W.keepIn K (.ref f18) = true)
    (a19 : PySem.W.nsIn K mainGlobals "_law_kinds" = some (some (.ref f19))) (l19 : K.lookup f19 = some ⟨oc19, od19, .func (PySem.W.fnOf "_law_kinds" "_law_kinds" (defArgs s__law_kinds) (defBody s__law_kinds) (defScope s__law_kinds) .none kV19 dc19 pm19 an19 cd19 ct19), sl19⟩) (c19 : PySem.W.codeIn K cd19 "_law_kinds" = true) (k19 : PySem.W.keepIn K (.ref f19) = true)
    (a20 : PySem.W.nsIn K mainGlobals "_law_great_kinds" = some (some (.ref f20))) (l20 : K.lookup f20 = some ⟨oc20, od20, .func (PySem.W.fnOf "_law_great_kinds" "_law_great_kinds" (defArgs s__law_great_kinds) (defBody s__law_great_kinds) (defScope s__law_great_kinds) .none kV20 dc20 pm20 an20 cd20 ct20), sl20⟩) (c20 : PySem.W.codeIn K cd20 "_law_great_kinds" = true) (k20 : PySem.W.keepIn K (.ref f20) = true)
    (a21 : PySem.W.nsIn K mainGlobals "_law_any_kinds" = some (some (.ref f21))) (l21 : K.lookup f21 = some ⟨oc21, od21, .func (PySem.W.fnOf "_law_any_kinds" "_law_any_kinds" (defArgs s__law_any_kinds) (defBody s__law_any_kinds) (defScope s__law_any_kinds) .none kV21 dc21 pm21 an21 cd21 ct21), sl21⟩) (c21 : PySem.W.codeIn K cd21 "_law_any_kinds" = true) (k21 : PySem.W.keepIn K (.ref f21) = true)
    (a22 : PySem.W.nsIn K mainGlobals "_law_alike" = some (some (.ref f22))) (l22 : K.lookup f22 = some ⟨oc22, od22, .func (PySem.W.fnOf "_law_alike" "_law_alike" (defArgs s__law_alike) (defBody s__law_alike) (defScope s__law_alike) .none kV22 dc22 pm22 an22 cd22 ct22), sl22⟩) (c22 : PySem.W.codeIn K cd22 "_law_alike" = true) (k22 : PySem.W.keepIn K (.ref f22) = true)
    (a23 : PySem.W.nsIn K mainGlobals "_law_fresh" = some (some (.ref f23))) (l23 : K.lookup f23 = some ⟨oc23, od23, .func (PySem.W.fnOf "_law_fresh" "_law_fresh" (defArgs s__law_fresh) (defBody s__law_fresh) (defScope s__law_fresh) .none kV23 dc23 pm23 an23 cd23 ct23), sl23⟩) (c23 : PySem.W.codeIn K cd23 "_law_fresh" = true) (k23 : PySem.W.keepIn K (.ref f23) = true)
    (a24 : PySem.W.nsIn K mainGlobals "_law_others" = some (some (.ref f24))) (l24 : K.lookup f24 = some ⟨oc24, od24, .func (PySem.W.fnOf "_law_others" "_law_others" (defArgs s__law_others) (defBody s__law_others) (defScope s__law_others) .none kV24 dc24 pm24 an24 cd24 ct24), sl24⟩) (c24 : PySem.W.codeIn K cd24 "_law_others" = true) (k24 : PySem.W.keepIn K (.ref f24) = true)
    (a25 : PySem.W.nsIn K mainGlobals "_law_with_worths" = some (some (.ref f25))) (l25 : K.lookup f25 = some ⟨oc25, od25, .func (PySem.W.fnOf "_law_with_worths" "_law_with_worths" (defArgs s__law_with_worths) (defBody s__law_with_worths) (defScope s__law_with_worths) .none kV25 dc25 pm25 an25 cd25 ct25), sl25⟩) (c25 : PySem.W.codeIn K cd25 "_law_with_worths" = true) (k25 : PySem.W.keepIn K (.ref f25) = true)
    (a26 : PySem.W.nsIn K mainGlobals "_law_bare_heard" = some (some (.ref f26))) (l26 : K.lookup f26 = some ⟨oc26, od26, .func (PySem.W.fnOf "_law_bare_heard" "_law_bare_heard" (defArgs s__law_bare_heard) (defBody s__law_bare_heard) (defScope s__law_bare_heard) .none kV26 dc26 pm26 an26 cd26 ct26), sl26⟩) (c26 : PySem.W.codeIn K cd26 "_law_bare_heard" = true) (k26 : PySem.W.keepIn K (.ref f26) = true)
    (a27 : PySem.W.nsIn K mainGlobals "_law_bare_right" = some (some (.ref f27))) (l27 : K.lookup f27 = some ⟨oc27, od27, .func (PySem.W.fnOf "_law_bare_right" "_law_bare_right" (defArgs s__law_bare_right) (defBody s__law_bare_right) (defScope s__law_bare_right) .none kV27 dc27 pm27 an27 cd27 ct27), sl27⟩) (c27 : PySem.W.codeIn K cd27 "_law_bare_right" = true) (k27 : PySem.W.keepIn K (.ref f27) = true)
    (a28 : PySem.W.nsIn K mainGlobals "_law_row_right" = some (some (.ref f28))) (l28 : K.lookup f28 = some ⟨oc28, od28, .func (PySem.W.fnOf "_law_row_right" "_law_row_right" (defArgs s__law_row_right) (defBody s__law_row_right) (defScope s__law_row_right) .none kV28 dc28 pm28 an28 cd28 ct28), sl28⟩) (c28 : PySem.W.codeIn K cd28 "_law_row_right" = true) (k28 : PySem.W.keepIn K (.ref f28) = true)
    (a29 : PySem.W.nsIn K mainGlobals "law" = some (some (.ref f29))) (l29 : K.lookup f29 = some ⟨oc29, od29, .func (PySem.W.fnOf "law" "law" (defArgs s_law) (defBody s_law) (defScope s_law) .none kV29 dc29 pm29 an29 cd29 ct29), sl29⟩) (c29 : PySem.W.codeIn K cd29 "law" = true) (k29 : PySem.W.keepIn K (.ref f29) = true)
    (g1 : PySem.W.nsIn K mainGlobals "LETTERS" = some (some (.str "abcdefghijklmnopqrstuvwxyz" t1)))
    (g2 : PySem.W.nsIn K mainGlobals "LONGEST" = some (some (.int (8) t2)))
    (g3 : PySem.W.nsIn K mainGlobals "NUM" = some (some (.str "num" t3)))
    (z1 : PySem.W.nsIn K mainGlobals "isinstance" = some none)
    (z2 : PySem.W.nsIn K mainGlobals "str" = some none)
    (z3 : PySem.W.nsIn K mainGlobals "tuple" = some none)
    (z4 : PySem.W.nsIn K mainGlobals "len" = some none)
    (z5 : PySem.W.nsIn K mainGlobals "all" = some none)
    (z6 : PySem.W.nsIn K mainGlobals "any" = some none)
    (z7 : PySem.W.nsIn K mainGlobals "range" = some none)
    (z8 : PySem.W.nsIn K mainGlobals "sum" = some none)
    (z9 : PySem.W.nsIn K mainGlobals "min" = some none)
    (z10 : PySem.W.nsIn K mainGlobals "max" = some none)
    (z11 : PySem.W.nsIn K mainGlobals "int" = some none)
    (z12 : PySem.W.nsIn K mainGlobals "repr" = some none)
    (z13 : PySem.W.nsIn K mainGlobals "list" = some none)
    (z14 : PySem.W.nsIn K mainGlobals "sorted" = some none)
    (z15 : PySem.W.nsIn K mainGlobals "zip" = some none)
    (pgBook : PySem.W.plainGet K C_Book Str.empty = true) (hdBook : PySem.W.hasDictIn K C_Book = true) (poBook : PySem.W.plainOver K C_Book = true) (saBook : PySem.W.findIn K (.ref C_Book) "__setattr__" = some (some (.builtin "object.__setattr__"))) (mkBook : PySem.W.makesIn K C_Book = true) (kcBook : PySem.W.keepIn K (.ref C_Book) = true)
    (fmBook : PySem.W.findIn K (.ref C_Book) "__format__" = some (some (.builtin "object.__format__"))) (obBook : PySem.W.subIn K (.ref C_Book) (.type "object") = some true) (hcBook : PySem.W.findIn K (.ref C_Book) "__class__" = some (some (.builtin "object.__class__"))) (sgBook : PySem.W.specialIn K (.builtin "object.__class__") "__get__" = some (some (.builtin "getset_descriptor.__get__"))) (tkBook : PySem.W.takesIn K (.builtin "object.__class__") = some true) (mrBook : PySem.W.mroIn K C_Book (.type "object") = some true)
    (nBookkinds : PySem.W.findIn K (.ref C_Book) "kinds" = some none)
    (nBooknames_by : PySem.W.findIn K (.ref C_Book) "names_by" = some none)
    (nBookkinds_by : PySem.W.findIn K (.ref C_Book) "kinds_by" = some none)
    (nBookfields_by : PySem.W.findIn K (.ref C_Book) "fields_by" = some none)
    (xoBare : PySem.W.excInitIn K C_Bare veTl "ValueError.__new__" = true) (xvBare : PySem.W.excOver K C_Bare veTl = true) (xdBare : PySem.W.hasDictIn K C_Bare = true) (xsBare : PySem.W.findIn K (.ref C_Bare) "__setattr__" = some (some (.builtin "object.__setattr__"))) (xeBare : PySem.W.subIn K (.ref C_Bare) (.type "BaseException") = some true) (xtBare : PySem.W.typeIn K (.ref C_Bare) = some (.type "type")) (xkBare : PySem.W.keepIn K (.ref C_Bare) = true) (xgBare : PySem.W.findIn K (.ref C_Bare) "__getattribute__" = some (some (.builtin "BaseException.__getattribute__"))) (xhBare : PySem.W.findIn K (.ref C_Bare) "__getattr__" = some none) (xaBare : PySem.W.findIn K (.ref C_Bare) "__class__" = some (some (.builtin "object.__class__"))) (xnBare : PySem.W.specialIn K (.builtin "object.__class__") "__get__" = some (some (.builtin "getset_descriptor.__get__"))) (xjBare : PySem.W.takesIn K (.builtin "object.__class__") = some true) (xmBare : PySem.W.mroIn K C_Bare (.type "object") = some true)
    (nBarekind : PySem.W.findIn K (.ref C_Bare) "kind" = some none)
    (aCNoBook : PySem.W.nsIn K mainGlobals "NoBook" = some (some (.ref C_NoBook))) (xpNoBook : PySem.W.excIn K C_NoBook veTl "ValueError.__new__" = true) (xdNoBook : PySem.W.hasDictIn K C_NoBook = true) (xeNoBook : PySem.W.subIn K (.ref C_NoBook) (.type "BaseException") = some true) (xtNoBook : PySem.W.typeIn K (.ref C_NoBook) = some (.type "type")) (xkNoBook : PySem.W.keepIn K (.ref C_NoBook) = true) (xgNoBook : PySem.W.findIn K (.ref C_NoBook) "__getattribute__" = some (some (.builtin "BaseException.__getattribute__"))) (xhNoBook : PySem.W.findIn K (.ref C_NoBook) "__getattr__" = some none) (xaNoBook : PySem.W.findIn K (.ref C_NoBook) "__class__" = some (some (.builtin "object.__class__"))) (xnNoBook : PySem.W.specialIn K (.builtin "object.__class__") "__get__" = some (some (.builtin "getset_descriptor.__get__"))) (xjNoBook : PySem.W.takesIn K (.builtin "object.__class__") = some true) (xmNoBook : PySem.W.mroIn K C_NoBook (.type "object") = some true)
    (q1 : PySem.W.nsIn K mainGlobals "ValueError" = some none)
    (q2 : PySem.W.nsIn K mainGlobals "bool" = some none)
    (y1 : PySem.W.exmOne K (.ref C_Bare) (.ref C_KindError) = some true)
    (y2 : PySem.W.kitAny K (.ref C_Bare) [.ref C_Gap, .ref C_InUse, .ref C_NoBack, .ref C_NoBook, .ref C_NoDress, .ref C_NoFall, .ref C_NoFilling, .ref C_NoFun, .ref C_NoIndex, .ref C_NoName] = some false)
    (y3 : PySem.W.kitAny K (.ref C_Bare) [.ref C_NoOrnament, .ref C_NoText, .ref C_Taken, .ref C_TooLong, .ref C_Unlike] = some false)
    (y4 : PySem.W.kitOne K (.ref C_Bare) (.ref C_Bare) = some true)
    (y5 : PySem.W.kitOne K (.ref C_Bare) (.type "ValueError") = some true)
    (y6 : PySem.W.specialIn K (.ref C_KindError) "__getattribute__" = some (some (.builtin "type.__getattribute__")))
    (y7 : PySem.W.readsIn K C_KindError (.type "type") = true)
    (y8 : Dk.initVE K C_KindError = true)
    (y9 : PySem.W.findIn K (.ref C_Book) "__ne__" = some (some (.builtin "object.__ne__")))
    (y10 : ((["NoneType", "bool", "int", "str", "list", "tuple", "dict"] : List String).all fun T => decide (PySem.W.subIn K (.ref C_Book) (.type T) = some false)) = true)
    (y11 : ((["NoneType", "bool", "int", "str", "list", "tuple", "dict"] : List String).all fun T => decide (PySem.W.subIn K (.type T) (.ref C_Book) = some false)) = true)
    (y12 : ((["NoneType", "bool", "int", "str", "list", "tuple", "dict"] : List String).all fun T => decide (PySem.W.kitOne K (.type T) (.ref C_Book) = some false)) = true)
    (y13 : PySem.W.findIn K (.ref C_Book) "__bool__" = some none) :
    ∃ fd : FuncData, (∀ (s : Shared) (v : Value), BindsTo s fd ⟨[v], []⟩ [("_law_script", v)]) ∧ ∀ base : Heap, K.In base → base.Ns mainGlobals mg → GnOk l.prog w K mg base CX0 30 fa fd ["_law_script"] (spLaw02 K) := by
  have F_is_name := fun_mk (st := s_is_name) l1 c1 k1
  have m_is_name := PySem.W.mg_of X G a1
  have F_is_bough := fun_mk (st := s_is_bough) l2 c2 k2
  have m_is_bough := PySem.W.mg_of X G a2
  have F_is_kind := fun_mk (st := s_is_kind) l3 c3 k3
  have m_is_kind := PySem.W.mg_of X G a3
  have F_are_unlike := fun_mk (st := s_are_unlike) l4 c4 k4
  have m_are_unlike := PySem.W.mg_of X G a4
  have F_is_kinds := fun_mk (st := s_is_kinds) l5 c5 k5
  have m_is_kinds := PySem.W.mg_of X G a5
  have F_with_worths := fun_mk (st := s_with_worths) l6 c6 k6
  have m_with_worths := PySem.W.mg_of X G a6
  have F_kind_text := fun_mk (st := s_kind_text) l7 c7 k7
  have m_kind_text := PySem.W.mg_of X G a7
  have F_Book___init__ := fun_mk (st := s_Book___init__) l8 c8 k8
  have M_Book___init__ : Meth K C_Book "__init__" f8 := ⟨a8, i8, k8⟩
  have F_Book___eq__ := fun_mk (st := s_Book___eq__) l9 c9 k9
  have M_Book___eq__ : Meth K C_Book "__eq__" f9 := ⟨a9, i9, k9⟩
  have F_Book___len__ := fun_mk (st := s_Book___len__) l10 c10 k10
  have M_Book___len__ : Meth K C_Book "__len__" f10 := ⟨a10, i10, k10⟩
  have F_Book___str__ := fun_mk (st := s_Book___str__) l11 c11 k11
  have M_Book___str__ : Meth K C_Book "__str__" f11 := ⟨a11, i11, k11⟩
  have F_Book___repr__ := fun_mk (st := s_Book___repr__) l12 c12 k12
  have M_Book___repr__ : Meth K C_Book "__repr__" f12 := ⟨a12, i12, k12⟩
  have F_Bare___init__ := fun_mk (st := s_Bare___init__) l13 c13 k13
  have M_Bare___init__ : Meth K C_Bare "__init__" f13 := ⟨a13, i13, k13⟩
  have F__law_deck := fun_mk (st := s__law_deck) l14 c14 k14
  have m__law_deck := PySem.W.mg_of X G a14
  have F__law_draw := fun_mk (st := s__law_draw) l15 c15 k15
  have m__law_draw := PySem.W.mg_of X G a15
  have F__law_pick := fun_mk (st := s__law_pick) l16 c16 k16
  have m__law_pick := PySem.W.mg_of X G a16
  have F__law_names := fun_mk (st := s__law_names) l17 c17 k17
  have m__law_names := PySem.W.mg_of X G a17
  have F__law_letters := fun_mk (st := s__law_letters) l18 c18 k18
  have m__law_letters := PySem.W.mg_of X G a18
  have F__law_kinds := fun_mk (st := s__law_kinds) l19 c19 k19
  have m__law_kinds := PySem.W.mg_of X G a19
  have F__law_great_kinds := fun_mk (st := s__law_great_kinds) l20 c20 k20
  have m__law_great_kinds := PySem.W.mg_of X G a20
  have F__law_any_kinds := fun_mk (st := s__law_any_kinds) l21 c21 k21
  have m__law_any_kinds := PySem.W.mg_of X G a21
  have F__law_alike := fun_mk (st := s__law_alike) l22 c22 k22
  have m__law_alike := PySem.W.mg_of X G a22
  have F__law_fresh := fun_mk (st := s__law_fresh) l23 c23 k23
  have m__law_fresh := PySem.W.mg_of X G a23
  have F__law_others := fun_mk (st := s__law_others) l24 c24 k24
  have m__law_others := PySem.W.mg_of X G a24
  have F__law_with_worths := fun_mk (st := s__law_with_worths) l25 c25 k25
  have m__law_with_worths := PySem.W.mg_of X G a25
  have F__law_bare_heard := fun_mk (st := s__law_bare_heard) l26 c26 k26
  have m__law_bare_heard := PySem.W.mg_of X G a26
  have F__law_bare_right := fun_mk (st := s__law_bare_right) l27 c27 k27
  have m__law_bare_right := PySem.W.mg_of X G a27
  have F__law_row_right := fun_mk (st := s__law_row_right) l28 c28 k28
  have m__law_row_right := PySem.W.mg_of X G a28
  have F_law := fun_mk (st := s_law) l29 c29 k29
  have m_law := PySem.W.mg_of X G a29
  have cl_Book : Cls K C_Book := ⟨pgBook, hdBook, poBook, saBook⟩
  have mC_Book := PySem.W.mg_of X G aCBook
  have Mk_Book : Mk K C_Book f8 := ⟨mkBook, a8, i8, kcBook⟩
  have fm_Book : Fmt K C_Book := ⟨fmBook, obBook⟩
  have isi_Book : Isi K C_Book := ⟨cl_Book, hcBook, sgBook, tkBook, mrBook⟩
  have mC_Bare := PySem.W.mg_of X G aCBare
  have ox_Bare : OxC K "ValueError.__new__" veTl C_Bare := ⟨xoBare, xvBare, xdBare, xsBare, xeBare, xtBare, xkBare⟩
  have xi_Bare : XiC K C_Bare := ⟨xdBare, xgBare, xhBare, xeBare, xaBare, xnBare, xjBare, xmBare⟩
  have mC_Gap := PySem.W.mg_of X G aCGap
  have mC_InUse := PySem.W.mg_of X G aCInUse
  have mC_NoBack := PySem.W.mg_of X G aCNoBack
  have mC_NoDress := PySem.W.mg_of X G aCNoDress
  have mC_NoFall := PySem.W.mg_of X G aCNoFall
  have mC_NoFilling := PySem.W.mg_of X G aCNoFilling
  have mC_NoFun := PySem.W.mg_of X G aCNoFun
  have mC_NoIndex := PySem.W.mg_of X G aCNoIndex
  have mC_NoName := PySem.W.mg_of X G aCNoName
  have mC_NoOrnament := PySem.W.mg_of X G aCNoOrnament
  have mC_NoText := PySem.W.mg_of X G aCNoText
  have mC_Taken := PySem.W.mg_of X G aCTaken
  have mC_TooLong := PySem.W.mg_of X G aCTooLong
  have mC_Unlike := PySem.W.mg_of X G aCUnlike
  have mC_KindError := PySem.W.mg_of X G aCKindError
  have mC_NoBook := PySem.W.mg_of X G aCNoBook
  have cn_NoBook : CalN K mg "NoBook" C_NoBook := ⟨_, _, _, _, PySem.F.excBase_ValueError, xpNoBook, mC_NoBook, xkNoBook, xeNoBook, xtNoBook⟩
  have xi_NoBook : XiC K C_NoBook := ⟨xdNoBook, xgNoBook, xhNoBook, xeNoBook, xaNoBook, xnNoBook, xjNoBook, xmNoBook⟩
  have b_ValueError := PySem.W.mg_none_of X G q1
  have b_bool := PySem.W.mg_none_of X G q2
  have T : TxtB K C_Book mg := ⟨⟨t1, PySem.W.mg_of X G g1⟩, ⟨t2, PySem.W.mg_of X G g2⟩, ⟨t3, PySem.W.mg_of X G g3⟩, PySem.W.mg_none_of X G z1, PySem.W.mg_none_of X G z2, PySem.W.mg_none_of X G z3, PySem.W.mg_none_of X G z4, PySem.W.mg_none_of X G z5, PySem.W.mg_none_of X G z6, PySem.W.mg_none_of X G z7, PySem.W.mg_none_of X G z8, PySem.W.mg_none_of X G z9, PySem.W.mg_none_of X G z10, PySem.W.mg_none_of X G z11, PySem.W.mg_none_of X G z12, PySem.W.mg_none_of X G z13, PySem.W.mg_none_of X G z14, PySem.W.mg_none_of X G z15, cl_Book, nBookkinds, nBooknames_by, nBookkinds_by, nBookfields_by⟩
  have e := hfa.symm.trans m_law
  cases e
  refine ⟨PySem.W.fnOf "law" "law" (defArgs s_law) (defBody s_law) (defScope s_law) .none kV29 dc29 pm29 an29 cd29 ct29, fun s v => .of_eq rfl, fun base _ _ => ?_⟩
  let cx : String → Addr := fun x => if x = "Gap" then C_Gap else if x = "InUse" then C_InUse else if x = "NoBack" then C_NoBack else if x = "NoBook" then C_NoBook else if x = "NoDress" then C_NoDress else if x = "NoFall" then C_NoFall else if x = "NoFilling" then C_NoFilling else if x = "NoFun" then C_NoFun else if x = "NoIndex" then C_NoIndex else if x = "NoName" then C_NoName else if x = "NoOrnament" then C_NoOrnament else if x = "NoText" then C_NoText else if x = "Taken" then C_Taken else if x = "TooLong" then C_TooLong else if x = "Unlike" then C_Unlike else if x = "KindError" then C_KindError else if x = "Bare" then C_Bare else 0
  have TX : TxtBr K C_Bare cx mg := ⟨(by simpa [cx] using mC_Gap), (by simpa [cx] using mC_InUse), (by simpa [cx] using mC_NoBack), (by simpa [cx] using mC_NoBook), (by simpa [cx] using mC_NoDress), (by simpa [cx] using mC_NoFall), (by simpa [cx] using mC_NoFilling), (by simpa [cx] using mC_NoFun), (by simpa [cx] using mC_NoIndex), (by simpa [cx] using mC_NoName), (by simpa [cx] using mC_NoOrnament), (by simpa [cx] using mC_NoText), (by simpa [cx] using mC_Taken), (by simpa [cx] using mC_TooLong), (by simpa [cx] using mC_Unlike), (by simpa [cx] using mC_KindError), (by simpa [cx] using mC_Bare), b_ValueError, (by simp [cx]), xi_Bare, nBarekind, (by simpa [cx] using y1), (by simpa [cx] using y2), (by simpa [cx] using y3), (by simpa [cx] using y4), y5⟩
  have nc : NeC K C_Book := ⟨y9, obBook, fun T hT => of_decide_eq_true (List.all_eq_true.mp y10 T hT), fun T hT => of_decide_eq_true (List.all_eq_true.mp y11 T hT), fun T hT => of_decide_eq_true (List.all_eq_true.mp y12 T hT)⟩
  have Cname : ∀ k W, Cal l.prog w K mg base CX0 W (k + 1) "is_name" ["thing"] spIsName := fun k W => Cal.of F_is_name (ok_is_name T F_is_name) m_is_name bd_is_name
  have Cbough : ∀ m W, Cal l.prog w K mg base CX0 W (m + 1 + 1) "is_bough" ["thing"] spIsBough := fun m W => Cal.of F_is_bough (ok_is_bough T F_is_bough (Cname m W)) m_is_bough bd_is_bough
  have Ckind : ∀ m W, Cal l.prog w K mg base CX0 W (m + 1 + 1 + 1) "is_kind" ["thing"] spIsKind := fun m W => Cal.of F_is_kind (ok_is_kind T F_is_kind (Cname (m + 1) W) (Cbough m W)) m_is_kind bd_is_kind
  have Cunl : ∀ m W, Cal l.prog w K mg base CX0 W (m + 1) "are_unlike" ["names"] spUnlike := fun m W => Cal.of F_are_unlike (ok_are_unlike T F_are_unlike) m_are_unlike bd_are_unlike
  have Ckinds : ∀ m W, Cal l.prog w K mg base CX0 W (m + 4) "is_kinds" ["thing"] spIsKindsW := fun m W => Cal.of F_is_kinds (ok_is_kindsW T F_is_kinds (Ckind m W) (Cunl (m + 2) W)) m_is_kinds bd_is_kinds
  have Cwith : ∀ m W, Cal l.prog w K mg base CX0 W (m + 1) "with_worths" ["kinds"] spWithW := fun m W => Cal.of F_with_worths (ok_with_worthsW T F_with_worths) m_with_worths bd_with_worths
  have CEb : ∀ m, CalE l.prog w K mg base (m + 1) "Bare" C_Bare "kind" := fun m => ⟨_, _, _, _, _, _, _, _, xb_ve, ox_Bare, M_Bare___init__.at_, beq_iff_eq.mp M_Bare___init__.fn, ok_Bare ox_Bare nBarekind mC_KindError y6 y7 (initVE_of y8) F_Bare___init__, F_Bare___init__.binds bd_Bare___init__, mC_Bare⟩
  have Ginit : ∀ W m, GnOk l.prog w K mg base (L2.CX l.prog w) (m + 4 + 2) _ _ ["self", "kinds"] (spInit W K C_Book (spBookX C_Book C_Bare)) := fun W m => ok_initX T F_Book___init__ (Ckinds m W) (Cwith (m + 3) W) cn_NoBook (CEb (m + 3))
  have CBook : ∀ m W, CalC l.prog w K mg base (L2.CX l.prog w) W (m + 4 + 2) "Book" C_Book ["self", "kinds"] (spBookX C_Book C_Bare) := fun m W => ⟨_, _, Mk_Book, Ginit W m, mC_Book, F_Book___init__.binds bd_Book___init__, rfl⟩
  have CKBook : ∀ m W, CalCK l.prog w K mg base (L2.CX l.prog w) W (m + 4 + 2) "Book" C_Book ["self", "kinds"] 0 ["kinds"] (fun us ws => us ++ ws) (spBookX C_Book C_Bare) := fun m W => CalCK.of F_Book___init__ Mk_Book (Ginit W m) mC_Book rfl (fun _ _ _ => rfl) (fun r z => r.append z) (fun r z => r.append z) bm_Book___init__
  have Cdraw : ∀ k p q, Cal l.prog w K mg base CX0 (DeckW p q) (k + 1) "_law_draw" ["_law_deck_here", "_law_most"] (spDraw p) := fun k p q => Cal.of F__law_draw (ok_draw F__law_draw).gn m__law_draw bd__law_draw
  have Cpick : ∀ p q, Cal l.prog w K mg base CX0 (DeckW p q) 2 "_law_pick" ["_law_deck_here", "_law_some"] (spPick p) := fun p q => Cal.of F__law_pick (ok_pick T F__law_pick (Cdraw 0 p q)) m__law_pick bd__law_pick
  have Cnames : ∀ p q, CalO l.prog w K mg base (DeckW p q) 2 "_law_names" ["_law_deck_here", "_law_many"] (spNames p) := fun p q => CalO.of F__law_names (ok_names T F__law_names (Cdraw 0 p q)) m__law_names bd__law_names
  have Clet : ∀ W, Cal l.prog w K mg base CX0 W 2 "_law_letters" ["_law_number"] KC.spLet := fun W => Cal.of F__law_letters (KC.ok_letters F__law_letters (k := 1)) m__law_letters KC.bd__law_letters
  have Ckinds3 : ∀ p q, Cal l.prog w K mg base CX0 (DeckW p q) 3 "_law_kinds" ["_law_deck_here"] (spKinds p) := fun p q => Cal.of F__law_kinds (ok_kinds T F__law_kinds (Cdraw 1 p q) (Cpick p q) (Cnames p q)) m__law_kinds bd__law_kinds
  have Cgreat : ∀ p q, Cal l.prog w K mg base CX0 (DeckW p q) 3 "_law_great_kinds" ["_law_deck_here"] (spKinds p) := fun p q => Cal.of F__law_great_kinds (KC.ok_great T F__law_great_kinds (Cdraw 1 p q) (Cpick p q) (Clet (DeckW p q))) m__law_great_kinds KC.bd__law_great_kinds
  have Gany : ∀ p q, GnOk l.prog w K mg base CX0 4 _ _ ["_law_deck_here"] (spD (DeckW p q) K (spKinds p)) := fun p q => KC.ok_any T F__law_any_kinds (Cdraw 2 p q) (Ckinds3 p q) (Cgreat p q)
  have CMeq : ∀ m W, CalM l.prog w K mg base CX0 W (m + 1) C_Book "__eq__" ["self", "other"] (spEqM C_Book) := fun m W => ⟨_, _, cl_Book, M_Book___eq__, ok_eqW T mC_Book isi_Book nc F_Book___eq__ (k := m), F_Book___eq__.binds bd_Book___eq__, rfl⟩
  have Cktext : ∀ m W, Cal l.prog w K mg base CX0 W (m + 1) "kind_text" ["name", "boughs"] KC.spKText := fun m W => Cal.of F_kind_text (KC.ok_kind_text T F_kind_text (k := m)) m_kind_text KC.bd_kind_text
  have Cfresh : ∀ m W, Cal l.prog w K mg base CX0 W (m + 1) "_law_fresh" ["_law_own_kinds", "_law_many"] spFresh := fun m W => Cal.of F__law_fresh (ok_fresh T F__law_fresh (k := m)) m__law_fresh bd__law_fresh
  have Cheard : ∀ m W, Cal l.prog w K mg base CX0 W (m + 6 + 4) "_law_bare_heard" ["_law_own_kinds"] spBareH := fun m W => Cal.of F__law_bare_heard (ok_bareH T TX F__law_bare_heard (CBook m W)) m__law_bare_heard bd__law_bare_heard
  exact ok_law02 T b_bool y13 F_law (ok_deck F__law_deck T.b_list T.b_sum T.b_len).gn m__law_deck F__law_deck.kp (F__law_deck.binds bd__law_deck)
    (fun p q => Cal.of F__law_any_kinds ((Gany p q).mono (by decide)) m__law_any_kinds KC.bd__law_any_kinds)
    (fun p q => Cal.of F__law_others (ok_others T F__law_others (k := 19) (Cdraw 18 p q) (Cfresh 18 (DeckW p q))) m__law_others bd__law_others)
    (fun p q => Cal.of F__law_bare_right (ok_bareR T F__law_bare_right (k := 19) (Cdraw 18 p q) (Cfresh 18 (DeckW p q)) (Cheard 9 (DeckW p q))) m__law_bare_right bd__law_bare_right)
    (fun W => Cal.of F__law_with_worths (ok_withL T F__law_with_worths (k := 19)) m__law_with_worths bd__law_with_worths)
    (fun W => Cal.of F__law_alike (ok_alike T nc F__law_alike (k := 16) (CMeq 15 W)) m__law_alike bd__law_alike)
    (fun W => Cal.of F__law_row_right (ok_rowR T F__law_row_right (k := 18) (CBook 12 W) (Cheard 8 W)) m__law_row_right bd__law_row_right)
    (CBook 14) (CKBook 14)
    (fun W => ⟨_, _, cl_Book, M_Book___len__, ok_lenW T F_Book___len__ (k := 19), F_Book___len__.binds bd_Book___len__, rfl⟩)
    (fun W => ⟨_, _, cl_Book, M_Book___str__, KC.ok_str T F_Book___str__ (k := 19) (Cktext 18 W), F_Book___str__.binds KC.bd_Book___str__, rfl⟩)
    (fun W => ⟨_, _, cl_Book, M_Book___repr__, ok_reprW T F_Book___repr__ (k := 19), F_Book___repr__.binds bd_Book___repr__, rfl⟩)
theorem all_run {l : PySem.W.OpenLaw} {w : World} {K : PySem.W.Frag} {h : Heap} {mg : Str → Option Value} {fa : Addr} (X : K.In h) (G : h.Ns mainGlobals mg) (hfa : mg "law" = some (.ref fa)) (c : Dk.SaysX hBs hFn K) :
    ∃ fd : FuncData, (∀ (s : Shared) (v : Value), BindsTo s fd ⟨[v], []⟩ [("_law_script", v)]) ∧ ∀ base : Heap, K.In base → base.Ns mainGlobals mg → GnOk l.prog w K mg base CX0 30 fa fd ["_law_script"] (spLaw02 K) := by
  have c0 := c.fact
  obtain ⟨b0, c0⟩ := He.ba c0
  obtain ⟨b1, c0⟩ := He.ba c0
  obtain ⟨b2, c0⟩ := He.ba c0
  obtain ⟨b3, c0⟩ := He.ba c0
  obtain ⟨b4, c0⟩ := He.ba c0
  obtain ⟨b5, c0⟩ := He.ba c0
  have b6 := c0
  obtain ⟨aCBook, aCBare, aCGap, aCInUse, aCNoBack, aCNoDress, aCNoFall, aCNoFilling, aCNoFun, aCNoIndex, aCNoName, aCNoOrnament, aCNoText, aCTaken, aCTooLong, aCUnlike, aCKindError, a1, k1, a2, k2, a3, k3, a4, k4⟩ : (PySem.W.nsIn K mainGlobals "Book" = some (some (.ref (He.ga K "Book")))) ∧ (PySem.W.nsIn K mainGlobals "Bare" = some (some (.ref (He.ga K "Bare")))) ∧ (PySem.W.nsIn K mainGlobals "Gap" = some (some (.ref (He.ga K "Gap")))) ∧ (PySem.W.nsIn K mainGlobals "InUse" = some (some (.ref (He.ga K "InUse")))) ∧ (PySem.W.nsIn K mainGlobals "NoBack" = some (some (.ref (He.ga K "NoBack")))) ∧ (PySem.W.nsIn K mainGlobals "NoDress" = some (some (.ref (He.ga K "NoDress")))) ∧ (PySem.W.nsIn K mainGlobals "NoFall" = some (some (.ref (He.ga K "NoFall")))) ∧ (PySem.W.nsIn K mainGlobals "NoFilling" = some (some (.ref (He.ga K "NoFilling")))) ∧ (PySem.W.nsIn K mainGlobals "NoFun" = some (some (.ref (He.ga K "NoFun")))) ∧ (PySem.W.nsIn K mainGlobals "NoIndex" = some (some (.ref (He.ga K "NoIndex")))) ∧ (PySem.W.nsIn K mainGlobals "NoName" = some (some (.ref (He.ga K "NoName")))) ∧ (PySem.W.nsIn K mainGlobals "NoOrnament" = some (some (.ref (He.ga K "NoOrnament")))) ∧ (PySem.W.nsIn K mainGlobals "NoText" = some (some (.ref (He.ga K "NoText")))) ∧ (PySem.W.nsIn K mainGlobals "Taken" = some (some (.ref (He.ga K "Taken")))) ∧ (PySem.W.nsIn K mainGlobals "TooLong" = some (some (.ref (He.ga K "TooLong")))) ∧ (PySem.W.nsIn K mainGlobals "Unlike" = some (some (.ref (He.ga K "Unlike")))) ∧ (PySem.W.nsIn K mainGlobals "KindError" = some (some (.ref (He.ga K "KindError")))) ∧ (PySem.W.nsIn K mainGlobals "is_name" = some (some (.ref (He.fAd K ("is_name", none))))) ∧ (PySem.W.keepIn K (.ref (He.fAd K ("is_name", none))) = true) ∧ (PySem.W.nsIn K mainGlobals "is_bough" = some (some (.ref (He.fAd K ("is_bough", none))))) ∧ (PySem.W.keepIn K (.ref (He.fAd K ("is_bough", none))) = true) ∧ (PySem.W.nsIn K mainGlobals "is_kind" = some (some (.ref (He.fAd K ("is_kind", none))))) ∧ (PySem.W.keepIn K (.ref (He.fAd K ("is_kind", none))) = true) ∧ (PySem.W.nsIn K mainGlobals "are_unlike" = some (some (.ref (He.fAd K ("are_unlike", none))))) ∧ (PySem.W.keepIn K (.ref (He.fAd K ("are_unlike", none))) = true) := of_decide_eq_true b0
  obtain ⟨a5, k5, a6, k6, a7, k7, a8, k8, i8, a9, k9, i9, a10, k10, i10, a11, k11, i11, a12, k12, i12, a13, k13, i13, a14⟩ : (PySem.W.nsIn K mainGlobals "is_kinds" = some (some (.ref (He.fAd K ("is_kinds", none))))) ∧ (PySem.W.keepIn K (.ref (He.fAd K ("is_kinds", none))) = true) ∧ (PySem.W.nsIn K mainGlobals "with_worths" = some (some (.ref (He.fAd K ("with_worths", none))))) ∧ (PySem.W.keepIn K (.ref (He.fAd K ("with_worths", none))) = true) ∧ (PySem.W.nsIn K mainGlobals "kind_text" = some (some (.ref (He.fAd K ("kind_text", none))))) ∧ (PySem.W.keepIn K (.ref (He.fAd K ("kind_text", none))) = true) ∧ (PySem.W.findIn K (.ref (He.ga K "Book")) "__init__" = some (some (.ref (He.fAd K ("Book", some "__init__"))))) ∧ (PySem.W.keepIn K (.ref (He.fAd K ("Book", some "__init__"))) = true) ∧ (PySem.W.isFn K (.ref (He.fAd K ("Book", some "__init__"))) = true) ∧ (PySem.W.findIn K (.ref (He.ga K "Book")) "__eq__" = some (some (.ref (He.fAd K ("Book", some "__eq__"))))) ∧ (PySem.W.keepIn K (.ref (He.fAd K ("Book", some "__eq__"))) = true) ∧ (PySem.W.isFn K (.ref (He.fAd K ("Book", some "__eq__"))) = true) ∧ (PySem.W.findIn K (.ref (He.ga K "Book")) "__len__" = some (some (.ref (He.fAd K ("Book", some "__len__"))))) ∧ (PySem.W.keepIn K (.ref (He.fAd K ("Book", some "__len__"))) = true) ∧ (PySem.W.isFn K (.ref (He.fAd K ("Book", some "__len__"))) = true) ∧ (PySem.W.findIn K (.ref (He.ga K "Book")) "__str__" = some (some (.ref (He.fAd K ("Book", some "__str__"))))) ∧ (PySem.W.keepIn K (.ref (He.fAd K ("Book", some "__str__"))) = true) ∧ (PySem.W.isFn K (.ref (He.fAd K ("Book", some "__str__"))) = true) ∧ (PySem.W.findIn K (.ref (He.ga K "Book")) "__repr__" = some (some (.ref (He.fAd K ("Book", some "__repr__"))))) ∧ (PySem.W.keepIn K (.ref (He.fAd K ("Book", some "__repr__"))) = true) ∧ (PySem.W.isFn K (.ref (He.fAd K ("Book", some "__repr__"))) = true) ∧ (PySem.W.findIn K (.ref (He.ga K "Bare")) "__init__" = some (some (.ref (He.fAd K ("Bare", some "__init__"))))) ∧ (PySem.W.keepIn K (.ref (He.fAd K ("Bare", some "__init__"))) = true) ∧ (PySem.W.isFn K (.ref (He.fAd K ("Bare", some "__init__"))) = true) ∧ (PySem.W.nsIn K mainGlobals "_law_deck" = some (some (.ref (He.fAd K ("_law_deck", none))))) := of_decide_eq_true b1
  obtain ⟨k14, a15, k15, a16, k16, a17, k17, a18, k18, a19, k19, a20, k20, a21, k21, a22, k22, a23, k23, a24, k24, a25, k25, a26, k26⟩ : (PySem.W.keepIn K (.ref (He.fAd K ("_law_deck", none))) = true) ∧ (PySem.W.nsIn K mainGlobals "_law_draw" = some (some (.ref (He.fAd K ("_law_draw", none))))) ∧ (PySem.W.keepIn K (.ref (He.fAd K ("_law_draw", none))) = true) ∧ (PySem.W.nsIn K mainGlobals "_law_pick" = some (some (.ref (He.fAd K ("_law_pick", none))))) ∧ (PySem.W.keepIn K (.ref (He.fAd K ("_law_pick", none))) = true) ∧ (PySem.W.nsIn K mainGlobals "_law_names" = some (some (.ref (He.fAd K ("_law_names", none))))) ∧ (PySem.W.keepIn K (.ref (He.fAd K ("_law_names", none))) = true) ∧ (PySem.W.nsIn K mainGlobals "_law_letters" = some (some (.ref (He.fAd K ("_law_letters", none))))) ∧ (PySem.W.keepIn K (.ref (He.fAd K ("_law_letters", none))) = true) ∧ (PySem.W.nsIn K mainGlobals "_law_kinds" = some (some (.ref (He.fAd K ("_law_kinds", none))))) ∧ (PySem.W.keepIn K (.ref (He.fAd K ("_law_kinds", none))) = true) ∧ (PySem.W.nsIn K mainGlobals "_law_great_kinds" = some (some (.ref (He.fAd K ("_law_great_kinds", none))))) ∧ (PySem.W.keepIn K (.ref (He.fAd K ("_law_great_kinds", none))) = true) ∧ (PySem.W.nsIn K mainGlobals "_law_any_kinds" = some (some (.ref (He.fAd K ("_law_any_kinds", none))))) ∧ (PySem.W.keepIn K (.ref (He.fAd K ("_law_any_kinds", none))) = true) ∧ (PySem.W.nsIn K mainGlobals "_law_alike" = some (some (.ref (He.fAd K ("_law_alike", none))))) ∧ (PySem.W.keepIn K (.ref (He.fAd K ("_law_alike", none))) = true) ∧ (PySem.W.nsIn K mainGlobals "_law_fresh" = some (some (.ref (He.fAd K ("_law_fresh", none))))) ∧ (PySem.W.keepIn K (.ref (He.fAd K ("_law_fresh", none))) = true) ∧ (PySem.W.nsIn K mainGlobals "_law_others" = some (some (.ref (He.fAd K ("_law_others", none))))) ∧ (PySem.W.keepIn K (.ref (He.fAd K ("_law_others", none))) = true) ∧ (PySem.W.nsIn K mainGlobals "_law_with_worths" = some (some (.ref (He.fAd K ("_law_with_worths", none))))) ∧ (PySem.W.keepIn K (.ref (He.fAd K ("_law_with_worths", none))) = true) ∧ (PySem.W.nsIn K mainGlobals "_law_bare_heard" = some (some (.ref (He.fAd K ("_law_bare_heard", none))))) ∧ (PySem.W.keepIn K (.ref (He.fAd K ("_law_bare_heard", none))) = true) := of_decide_eq_true b2
  obtain ⟨a27, k27, a28, k28, a29, k29, g1, g2, g3, z1, z2, z3, z4, z5, z6, z7, z8, z9, z10, z11, z12, z13, z14, z15, pgBook⟩ : (PySem.W.nsIn K mainGlobals "_law_bare_right" = some (some (.ref (He.fAd K ("_law_bare_right", none))))) ∧ (PySem.W.keepIn K (.ref (He.fAd K ("_law_bare_right", none))) = true) ∧ (PySem.W.nsIn K mainGlobals "_law_row_right" = some (some (.ref (He.fAd K ("_law_row_right", none))))) ∧ (PySem.W.keepIn K (.ref (He.fAd K ("_law_row_right", none))) = true) ∧ (PySem.W.nsIn K mainGlobals "law" = some (some (.ref (He.fAd K ("law", none))))) ∧ (PySem.W.keepIn K (.ref (He.fAd K ("law", none))) = true) ∧ ((He.Fa.str "LETTERS" "abcdefghijklmnopqrstuvwxyz").ok K = true) ∧ ((He.Fa.int "LONGEST" (8)).ok K = true) ∧ ((He.Fa.str "NUM" "num").ok K = true) ∧ (PySem.W.nsIn K mainGlobals "isinstance" = some none) ∧ (PySem.W.nsIn K mainGlobals "str" = some none) ∧ (PySem.W.nsIn K mainGlobals "tuple" = some none) ∧ (PySem.W.nsIn K mainGlobals "len" = some none) ∧ (PySem.W.nsIn K mainGlobals "all" = some none) ∧ (PySem.W.nsIn K mainGlobals "any" = some none) ∧ (PySem.W.nsIn K mainGlobals "range" = some none) ∧ (PySem.W.nsIn K mainGlobals "sum" = some none) ∧ (PySem.W.nsIn K mainGlobals "min" = some none) ∧ (PySem.W.nsIn K mainGlobals "max" = some none) ∧ (PySem.W.nsIn K mainGlobals "int" = some none) ∧ (PySem.W.nsIn K mainGlobals "repr" = some none) ∧ (PySem.W.nsIn K mainGlobals "list" = some none) ∧ (PySem.W.nsIn K mainGlobals "sorted" = some none) ∧ (PySem.W.nsIn K mainGlobals "zip" = some none) ∧ (PySem.W.plainGet K (He.ga K "Book") Str.empty = true) := of_decide_eq_true b3
  obtain ⟨hdBook, poBook, saBook, mkBook, kcBook, fmBook, obBook, hcBook, sgBook, tkBook, mrBook, nBookkinds, nBooknames_by, nBookkinds_by, nBookfields_by, xoBare, xvBare, xdBare, xsBare, xeBare, xtBare, xkBare, xgBare, xhBare, xaBare⟩ : (PySem.W.hasDictIn K (He.ga K "Book") = true) ∧ (PySem.W.plainOver K (He.ga K "Book") = true) ∧ (PySem.W.findIn K (.ref (He.ga K "Book")) "__setattr__" = some (some (.builtin "object.__setattr__"))) ∧ (PySem.W.makesIn K (He.ga K "Book") = true) ∧ (PySem.W.keepIn K (.ref (He.ga K "Book")) = true) ∧ (PySem.W.findIn K (.ref (He.ga K "Book")) "__format__" = some (some (.builtin "object.__format__"))) ∧ (PySem.W.subIn K (.ref (He.ga K "Book")) (.type "object") = some true) ∧ (PySem.W.findIn K (.ref (He.ga K "Book")) "__class__" = some (some (.builtin "object.__class__"))) ∧ (PySem.W.specialIn K (.builtin "object.__class__") "__get__" = some (some (.builtin "getset_descriptor.__get__"))) ∧ (PySem.W.takesIn K (.builtin "object.__class__") = some true) ∧ (PySem.W.mroIn K (He.ga K "Book") (.type "object") = some true) ∧ (PySem.W.findIn K (.ref (He.ga K "Book")) "kinds" = some none) ∧ (PySem.W.findIn K (.ref (He.ga K "Book")) "names_by" = some none) ∧ (PySem.W.findIn K (.ref (He.ga K "Book")) "kinds_by" = some none) ∧ (PySem.W.findIn K (.ref (He.ga K "Book")) "fields_by" = some none) ∧ (PySem.W.excInitIn K (He.ga K "Bare") ([.type "ValueError", .type "Exception", .type "BaseException", .type "object"] : List Value) "ValueError.__new__" = true) ∧ (PySem.W.excOver K (He.ga K "Bare") ([.type "ValueError", .type "Exception", .type "BaseException", .type "object"] : List Value) = true) ∧ (PySem.W.hasDictIn K (He.ga K "Bare") = true) ∧ (PySem.W.findIn K (.ref (He.ga K "Bare")) "__setattr__" = some (some (.builtin "object.__setattr__"))) ∧ (PySem.W.subIn K (.ref (He.ga K "Bare")) (.type "BaseException") = some true) ∧ (PySem.W.typeIn K (.ref (He.ga K "Bare")) = some (.type "type")) ∧ (PySem.W.keepIn K (.ref (He.ga K "Bare")) = true) ∧ (PySem.W.findIn K (.ref (He.ga K "Bare")) "__getattribute__" = some (some (.builtin "BaseException.__getattribute__"))) ∧ (PySem.W.findIn K (.ref (He.ga K "Bare")) "__getattr__" = some none) ∧ (PySem.W.findIn K (.ref (He.ga K "Bare")) "__class__" = some (some (.builtin "object.__class__"))) := of_decide_eq_true b4
  obtain ⟨xnBare, xjBare, xmBare, nBarekind, aCNoBook, xpNoBook, xdNoBook, xeNoBook, xtNoBook, xkNoBook, xgNoBook, xhNoBook, xaNoBook, xnNoBook, xjNoBook, xmNoBook, q1, q2, y1, y2, y3, y4, y5, y6, y7⟩ : (PySem.W.specialIn K (.builtin "object.__class__") "__get__" = some (some (.builtin "getset_descriptor.__get__"))) ∧ (PySem.W.takesIn K (.builtin "object.__class__") = some true) ∧ (PySem.W.mroIn K (He.ga K "Bare") (.type "object") = some true) ∧ (PySem.W.findIn K (.ref (He.ga K "Bare")) "kind" = some none) ∧ (PySem.W.nsIn K mainGlobals "NoBook" = some (some (.ref (He.ga K "NoBook")))) ∧ (PySem.W.excIn K (He.ga K "NoBook") ([.type "ValueError", .type "Exception", .type "BaseException", .type "object"] : List Value) "ValueError.__new__" = true) ∧ (PySem.W.hasDictIn K (He.ga K "NoBook") = true) ∧ (PySem.W.subIn K (.ref (He.ga K "NoBook")) (.type "BaseException") = some true) ∧ (PySem.W.typeIn K (.ref (He.ga K "NoBook")) = some (.type "type")) ∧ (PySem.W.keepIn K (.ref (He.ga K "NoBook")) = true) ∧ (PySem.W.findIn K (.ref (He.ga K "NoBook")) "__getattribute__" = some (some (.builtin "BaseException.__getattribute__"))) ∧ (PySem.W.findIn K (.ref (He.ga K "NoBook")) "__getattr__" = some none) ∧ (PySem.W.findIn K (.ref (He.ga K "NoBook")) "__class__" = some (some (.builtin "object.__class__"))) ∧ (PySem.W.specialIn K (.builtin "object.__class__") "__get__" = some (some (.builtin "getset_descriptor.__get__"))) ∧ (PySem.W.takesIn K (.builtin "object.__class__") = some true) ∧ (PySem.W.mroIn K (He.ga K "NoBook") (.type "object") = some true) ∧ (PySem.W.nsIn K mainGlobals "ValueError" = some none) ∧ (PySem.W.nsIn K mainGlobals "bool" = some none) ∧ (PySem.W.exmOne K (.ref (He.ga K "Bare")) (.ref (He.ga K "KindError")) = some true) ∧ (PySem.W.kitAny K (.ref (He.ga K "Bare")) [.ref (He.ga K "Gap"), .ref (He.ga K "InUse"), .ref (He.ga K "NoBack"), .ref (He.ga K "NoBook"), .ref (He.ga K "NoDress"), .ref (He.ga K "NoFall"), .ref (He.ga K "NoFilling"), .ref (He.ga K "NoFun"), .ref (He.ga K "NoIndex"), .ref (He.ga K "NoName")] = some false) ∧ (PySem.W.kitAny K (.ref (He.ga K "Bare")) [.ref (He.ga K "NoOrnament"), .ref (He.ga K "NoText"), .ref (He.ga K "Taken"), .ref (He.ga K "TooLong"), .ref (He.ga K "Unlike")] = some false) ∧ (PySem.W.kitOne K (.ref (He.ga K "Bare")) (.ref (He.ga K "Bare")) = some true) ∧ (PySem.W.kitOne K (.ref (He.ga K "Bare")) (.type "ValueError") = some true) ∧ (PySem.W.specialIn K (.ref (He.ga K "KindError")) "__getattribute__" = some (some (.builtin "type.__getattribute__"))) ∧ (PySem.W.readsIn K (He.ga K "KindError") (.type "type") = true) := of_decide_eq_true b5
  obtain ⟨y8, y9, y10, y11, y12, y13⟩ : (Dk.initVE K (He.ga K "KindError") = true) ∧ (PySem.W.findIn K (.ref (He.ga K "Book")) "__ne__" = some (some (.builtin "object.__ne__"))) ∧ (((["NoneType", "bool", "int", "str", "list", "tuple", "dict"] : List String).all fun T => decide (PySem.W.subIn K (.ref (He.ga K "Book")) (.type T) = some false)) = true) ∧ (((["NoneType", "bool", "int", "str", "list", "tuple", "dict"] : List String).all fun T => decide (PySem.W.subIn K (.type T) (.ref (He.ga K "Book")) = some false)) = true) ∧ (((["NoneType", "bool", "int", "str", "list", "tuple", "dict"] : List String).all fun T => decide (PySem.W.kitOne K (.type T) (.ref (He.ga K "Book")) = some false)) = true) ∧ (PySem.W.findIn K (.ref (He.ga K "Book")) "__bool__" = some none) := of_decide_eq_true b6
  obtain ⟨_, _, _, _, _, _, _, _, _, l1, c1⟩ := c.def_ 0 (d := hFn[0]) rfl
  obtain ⟨_, _, _, _, _, _, _, _, _, l2, c2⟩ := c.def_ 1 (d := hFn[1]) rfl
  obtain ⟨_, _, _, _, _, _, _, _, _, l3, c3⟩ := c.def_ 2 (d := hFn[2]) rfl
  obtain ⟨_, _, _, _, _, _, _, _, _, l4, c4⟩ := c.def_ 3 (d := hFn[3]) rfl
  obtain ⟨_, _, _, _, _, _, _, _, _, l5, c5⟩ := c.def_ 4 (d := hFn[4]) rfl
  obtain ⟨_, _, _, _, _, _, _, _, _, l6, c6⟩ := c.def_ 5 (d := hFn[5]) rfl
  obtain ⟨_, _, _, _, _, _, _, _, _, l7, c7⟩ := c.def_ 6 (d := hFn[6]) rfl
  obtain ⟨_, _, _, _, _, _, _, _, _, l8, c8⟩ := c.def_ 7 (d := hFn[7]) rfl
  obtain ⟨_, _, _, _, _, _, _, _, _, l9, c9⟩ := c.def_ 8 (d := hFn[8]) rfl
  obtain ⟨_, _, _, _, _, _, _, _, _, l10, c10⟩ := c.def_ 9 (d := hFn[9]) rfl
  obtain ⟨_, _, _, _, _, _, _, _, _, l11, c11⟩ := c.def_ 10 (d := hFn[10]) rfl
  obtain ⟨_, _, _, _, _, _, _, _, _, l12, c12⟩ := c.def_ 11 (d := hFn[11]) rfl
  obtain ⟨_, _, _, _, _, _, _, _, _, l13, c13⟩ := c.def_ 12 (d := hFn[12]) rfl
  obtain ⟨_, _, _, _, _, _, _, _, _, l14, c14⟩ := c.def_ 13 (d := hFn[13]) rfl
  obtain ⟨_, _, _, _, _, _, _, _, _, l15, c15⟩ := c.def_ 14 (d := hFn[14]) rfl
  obtain ⟨_, _, _, _, _, _, _, _, _, l16, c16⟩ := c.def_ 15 (d := hFn[15]) rfl
  obtain ⟨_, _, _, _, _, _, _, _, _, l17, c17⟩ := c.def_ 16 (d := hFn[16]) rfl
  obtain ⟨_, _, _, _, _, _, _, _, _, l18, c18⟩ := c.def_ 17 (d := hFn[17]) rfl
  obtain ⟨_, _, _, _, _, _, _, _, _, l19, c19⟩ := c.def_ 18 (d := hFn[18]) rfl
  obtain ⟨_, _, _, _, _, _, _, _, _, l20, c20⟩ := c.def_ 19 (d := hFn[19]) rfl
  obtain ⟨_, _, _, _, _, _, _, _, _, l21, c21⟩ := c.def_ 20 (d := hFn[20]) rfl
  obtain ⟨_, _, _, _, _, _, _, _, _, l22, c22⟩ := c.def_ 21 (d := hFn[21]) rfl
  obtain ⟨_, _, _, _, _, _, _, _, _, l23, c23⟩ := c.def_ 22 (d := hFn[22]) rfl
  obtain ⟨_, _, _, _, _, _, _, _, _, l24, c24⟩ := c.def_ 23 (d := hFn[23]) rfl
  obtain ⟨_, _, _, _, _, _, _, _, _, l25, c25⟩ := c.def_ 24 (d := hFn[24]) rfl
  obtain ⟨_, _, _, _, _, _, _, _, _, l26, c26⟩ := c.def_ 25 (d := hFn[25]) rfl
  obtain ⟨_, _, _, _, _, _, _, _, _, l27, c27⟩ := c.def_ 26 (d := hFn[26]) rfl
  obtain ⟨_, _, _, _, _, _, _, _, _, l28, c28⟩ := c.def_ 27 (d := hFn[27]) rfl
  obtain ⟨_, _, _, _, _, _, _, _, _, l29, c29⟩ := c.def_ 28 (d := hFn[28]) rfl
  obtain ⟨_, g1⟩ := Dk.faS_in g1
  obtain ⟨_, g2⟩ := Dk.faI_in g2
  obtain ⟨_, g3⟩ := Dk.faS_in g3
  exact all_mk X G hfa aCBook aCBare aCGap aCInUse aCNoBack aCNoDress aCNoFall aCNoFilling aCNoFun aCNoIndex aCNoName aCNoOrnament aCNoText aCTaken aCTooLong aCUnlike aCKindError a1 l1 c1 k1 a2 l2 c2 k2 a3 l3 c3 k3 a4 l4 c4 k4 a5 l5 c5 k5 a6 l6 c6 k6 a7 l7 c7 k7 a8 l8 c8 k8 i8 a9 l9 c9 k9 i9 a10 l10 c10 k10 i10 a11 l11 c11 k11 i11 a12 l12 c12 k12 i12 a13 l13 c13 k13 i13 a14 l14 c14 k14 a15 l15 c15 k15 a16 l16 c16 k16 a17 l17 c17 k17 a18 l18 c18 k18 a19 l19 c19 k19 a20 l20 c20 k20 a21 l21 c21 k21 a22 l22 c22 k22 a23 l23 c23 k23 a24 l24 c24 k24 a25 l25 c25 k25 a26 l26 c26 k26 a27 l27 c27 k27 a28 l28 c28 k28 a29 l29 c29 k29 g1 g2 g3 z1 z2 z3 z4 z5 z6 z7 z8 z9 z10 z11 z12 z13 z14 z15 pgBook hdBook poBook saBook mkBook kcBook fmBook obBook hcBook sgBook tkBook mrBook nBookkinds nBooknames_by nBookkinds_by nBookfields_by xoBare xvBare xdBare xsBare xeBare xtBare xkBare xgBare xhBare xaBare xnBare xjBare xmBare nBarekind aCNoBook xpNoBook xdNoBook xeNoBook xtNoBook xkNoBook xgNoBook xhNoBook xaNoBook xnNoBook xjNoBook xmNoBook q1 q2 y1 y2 y3 y4 y5 y6 y7 y8 y9 y10 y11 y12 y13
end KB
open PySem PySem.W PySem.Calls PyProof.Rows
set_option maxRecDepth 100000 in
set_option maxHeartbeats 0 in
theorem PySem.Challenge.cw_dressedkinds_k02_books_equal_and_shown_p_holds : PySem.Challenge.rw_dressedkinds_k02_books_equal_and_shown_p.Holds := by
  w_on; o_law
  refine HandSHeadRun.head_any (r := OpenLaw.row PySem.Challenge.rw_dressedkinds_k02_books_equal_and_shown_p) (q := view (OpenLaw.row PySem.Challenge.rw_dressedkinds_k02_books_equal_and_shown_p).prog [49]) (H := KB.hH) (ob := Dk.obX KB.hAs KB.hBs KB.hFn) (M := 15000) (loose := KB.hLoose) (d := HandSHeadRun.topDef (OpenLaw.row PySem.Challenge.rw_dressedkinds_k02_books_equal_and_shown_p).prog 49) (kwd := []) (fun s => Dk.obX_eq s)
    (by kernel_rfl) (fun s => by kernel_rfl) KB.hrun (by kernel_rfl) (by kernel_rfl) (by kernel_rfl) (by rfl) (by first | assumption | decide +kernel) (by decide +kernel) ⟨rfl, rfl, rfl, rfl, rfl, by decide +kernel⟩ ?hw ?hc
  case hw => w_witness2
  case hc =>
    refine Dk.walk_gnE (l := PySem.Challenge.rw_dressedkinds_k02_books_equal_and_shown_p) (n := 63) (k := 30) (x := "_law_script") (sp := KB.spLaw02) rfl (by decide) (by kernel_rfl) ⟨rfl, by decide, by decide⟩ ?F fun K H a ns hl hS => ⟨a, ns, rfl, hS, hl, fun _ => rfl⟩
    intro w mg fa h Y G hmg0
    obtain ⟨K, KX, c⟩ := Y
    have hmg : mg ("law" : PySem.Str) = some (.ref fa) := by
      have e : (HandSHeadRun.topDef (OpenLaw.row PySem.Challenge.rw_dressedkinds_k02_books_equal_and_shown_p).prog 49).name = ("law" : PySem.Str) := by kernel_rfl
      rw [← e]
      exact hmg0
    obtain ⟨fd, hb, hF⟩ := KB.all_run KX G hmg c
    exact ⟨K, fd, KX, hb, hF⟩
