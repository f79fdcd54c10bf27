import PyProof.Rows.All
import Wide.All
import OpenK.AllK
import Wide.FinOn
import HandS.HeadHook1
import HandS.Head2
import HandS.Words
import HandS.WordsExc
import HandS.ForMost
import HandS.ForExc
import HandS.TupAny
import HandS.IsInst
import HandS.Flow
import HandS.Style
import HandS.DictComp
import HandS.Defaults
import HandS.StrMore
import HandS.FStr
import HandS.Zip
import HandS.Conv
import HandS.Wide
import HandS.RaiseMore
import HandS.WideMore
import KE.SortData
import HandS.MakeKwOnly
import KE.GoesSet
import HandS.SetKeys
import HandS.SetBool
import KE.KUnpackStar
import HandS.Deep
import HandS.Strs
import HandS.OwnEq
import HandS.Small
import PyProof.Rows.Range3
import PyProof.StrHeap
import HandS.TupMul
import KE.KExcInit
import KE.KExcIs
import HandS.ExcInit
import HandS.ExcField
import HandS.TryMany
import HandS.ExcOwn
import HandS.ExcBuiltin
import PySem.Challenge.RW_dressedkinds_k01_what_are_names_and_kind
import HandS.JoinGen
import HandS.Codes
import PyProof.StrLawsRepr
import HandS.WordsDict
import PyProof.StrBlock2
import PyProof.EqKinds
import PyProof.InstNe
import KE.SortCalls
import KE.SortKeyed
import PyProof.EqLayable
import HandS.SortOrd
import HandS.SortKw
import HandS.Lambda
import HandS.Nested
import HandS.NestedK
import HandS.SetFor
import KE.DataMinMax
import PyProof.ListNew
import HandS.More
import HandS.Sort
import KE.KDictPairs
import PyProof.SumAny
import PyProof.Rows.SeqMore
import PyProof.WalkInts
import PyProof.Rows.StrJoinRep
set_option Elab.async false
set_option linter.all false
set_option maxRecDepth 100000
set_option maxHeartbeats 4000000
set_option pp.maxSteps 900
set_option pp.maxSteps 40
namespace Dk
open PySem L2 PySem.Spec PyProof.Rows
/-- asked: facts as one Bool, defs -/
def askX (F : PySem.W.Frag → Bool) (fn : List He.FnD) (K : PySem.W.Frag) : Bool × List He.FnV := (F K && fn.all fun d => (He.Fa.code d.at_ d.qual).ok K, fn.map fun d => He.fnObs K d.at_)
def SaysX (F : PySem.W.Frag → Bool) (fn : List He.FnD) (K : PySem.W.Frag) : Prop := askX F fn K = (true, fn.map He.FnD.val)
def hookX (as : List Addr) (F : PySem.W.Frag → Bool) (fn : List He.FnD) : PySem.W.Hook where
  α := Bool × List He.FnV
  obs := fun s => askX F fn (He.frG s.heap.get? as)
  val := fun _ => (true, fn.map He.FnD.val)
  says := fun _ h => ∃ K : PySem.W.Frag, K.In h ∧ SaysX F fn K
  of := fun _ _ e => ⟨_, He.frG_in, e⟩
  keeps := fun _ _ _ ⟨K, hK, c⟩ k => ⟨K, PySem.W.Frag.In.keeps hK k, c⟩
def obX (as : List Addr) (F : PySem.W.Frag → Bool) (fn : List He.FnD) (s : PySem.W.SharedT) : Bool × List He.FnV := askX F fn (He.frG (HandSHeadRun.getT s) as)
theorem obX_eq {as : List Addr} {F : PySem.W.Frag → Bool} {fn : List He.FnD} (s : PySem.W.SharedT) : obX as F fn s = (hookX as F fn).obs s.abs := by
  have e : HandSHeadRun.getT s = s.abs.heap.get? := funext fun a => HandSHeadRun.getT_eq s a
  unfold obX
  rw [e] <;> rfl
end Dk
namespace Dk
open PySem L2
/-- plain data -/
inductive D where
  | non | bl (b : Bool) | int (i : Int) | str (x : Str)
  | tup (xs : List D) | lst (xs : List D) | dic (kvs : List (Key × D))
  | obj (C : Addr) (fs : List (Str × D)) | opq (a : Addr)
  /-- a dict that is locked: it may be walked -/
  | dfz (kvs : List (Key × D))
  /-- a tuple of which it is known that it bears no dict of attributes -/
  | ptp (xs : List D)
mutual
/-- the value v is the datum d, by the objects that stand still -/
inductive Rep (K : PySem.W.Frag) (I : Hp) : V → D → Prop
  | non : Rep K I .non .non
  | bl (b : Bool) : Rep K I (.bl b) (.bl b)
  | int (i : Int) : Rep K I (.int i) (.int i)
  | str (x : Str) : Rep K I (.str x) (.str x)
  | tup {a : Addr} {vs : List V} {ds : List D} : SqT K I a vs → Reps K I vs ds → Rep K I (.ref a) (.tup ds)
  | lst {a : Addr} {vs : List V} {ds : List D} : I a = some (.lst vs) → Reps K I vs ds → Rep K I (.ref a) (.lst ds)
  | dic {a : Addr} {kvs : List (Key × V)} {ds : List (Key × D)} : I a = some (.dK kvs) → kvs.map (·.1) = ds.map (·.1) → Reps K I (kvs.map (·.2)) (ds.map (·.2)) → Rep K I (.ref a) (.dic ds)
  | obj {a C dx : Addr} {fs : List (Str × V)} {ds : List (Str × D)} : I a = some (.ins C dx fs) → fs.map (·.1) = ds.map (·.1) → Reps K I (fs.map (·.2)) (ds.map (·.2)) → Rep K I (.ref a) (.obj C ds)
  | opq (a : Addr) : Rep K I (.ref a) (.opq a)
  | dfz {a : Addr} {o : Obj} {kvs : List (Key × V)} {ds : List (Key × D)} : I a = some (.frz o (.dK kvs)) → kvs.map (·.1) = ds.map (·.1) → Reps K I (kvs.map (·.2)) (ds.map (·.2)) → Rep K I (.ref a) (.dfz ds)
  | ptp {a : Addr} {o : Obj} {vs : List V} {ds : List D} : I a = some (.frz o (.tup vs)) → o.dict = none → Reps K I vs ds → Rep K I (.ref a) (.ptp ds)
inductive Reps (K : PySem.W.Frag) (I : Hp) : List V → List D → Prop
  | nil : Reps K I [] []
  | cons {v : V} {vs : List V} {d : D} {ds : List D} : Rep K I v d → Reps K I vs ds → Reps K I (v :: vs) (d :: ds)
end
theorem Same.seqT {K : PySem.W.Frag} {H H' : Hp} {a : Addr} {xs : List V} (e : Same H H') (h : SqT K H a xs) : SqT K H' a xs := by
  rcases h with (h | ⟨o, h⟩) | h
  · exact .inl (.inl (e _ _ h))
  · exact .inl (.inr ⟨o, e _ _ h⟩)
  · exact .inr h
mutual
theorem Rep.mono {K : PySem.W.Frag} {I I' : Hp} (s : Same I I') : ∀ {v : V} {d : D}, Rep K I v d → Rep K I' v d
  | _, _, .non => .non
  | _, _, .bl b => .bl b
  | _, _, .int i => .int i
  | _, _, .str x => .str x
  | _, _, .tup h r => .tup (Same.seqT s h) (Reps.mono s r)
  | _, _, .lst h r => .lst (s _ _ h) (Reps.mono s r)
  | _, _, .dic h k r => .dic (s _ _ h) k (Reps.mono s r)
  | _, _, .obj h k r => .obj (s _ _ h) k (Reps.mono s r)
  | _, _, .opq a => .opq a
  | _, _, .dfz h k r => .dfz (s _ _ h) k (Reps.mono s r)
  | _, _, .ptp h k r => .ptp (s _ _ h) k (Reps.mono s r)
theorem Reps.mono {K : PySem.W.Frag} {I I' : Hp} (s : Same I I') : ∀ {vs : List V} {ds : List D}, Reps K I vs ds → Reps K I' vs ds
  | _, _, .nil => .nil
  | _, _, .cons h r => .cons (Rep.mono s h) (Reps.mono s r)
end
section
variable {K : PySem.W.Frag} {I : Hp}
theorem Reps.length {vs : List V} {ds : List D} (h : Reps K I vs ds) : vs.length = ds.length := by
  induction vs generalizing ds with
  | nil => cases h; rfl
  | cons v vs ih => cases h with | cons a b => simp [ih b]
theorem Reps.get {vs : List V} {ds : List D} {i : Nat} {d : D} (h : Reps K I vs ds) (e : ds[i]? = some d) : ∃ v, vs[i]? = some v ∧ Rep K I v d := by
  induction vs generalizing ds i with
  | nil => cases h; simp at e
  | cons v vs ih =>
    cases h with
    | cons a b =>
      cases i with
      | zero => simp at e; subst e; exact ⟨v, rfl, a⟩
      | succ i => simp at e; obtain ⟨w, h1, h2⟩ := ih b e; exact ⟨w, by simpa using h1, h2⟩
theorem Reps.getV {vs : List V} {ds : List D} {i : Nat} {v : V} (h : Reps K I vs ds) (e : vs[i]? = some v) : ∃ d, ds[i]? = some d ∧ Rep K I v d := by
  induction vs generalizing ds i with
  | nil => simp at e
  | cons w vs ih =>
    cases h with
    | cons a b =>
      cases i with
      | zero => simp at e; subst e; exact ⟨_, rfl, a⟩
      | succ i => simp at e; obtain ⟨w, h1, h2⟩ := ih b e; exact ⟨w, by simpa using h1, h2⟩
theorem Reps.append {vs ws : List V} {ds es : List D} (h : Reps K I vs ds) (h' : Reps K I ws es) : Reps K I (vs ++ ws) (ds ++ es) := by
  induction vs generalizing ds with
  | nil => cases h; exact h'
  | cons v vs ih => cases h with | cons a b => exact .cons a (ih b)
theorem Reps.take {vs : List V} {ds : List D} (n : Nat) (h : Reps K I vs ds) : Reps K I (vs.take n) (ds.take n) := by
  induction vs generalizing ds n with
  | nil => cases h; simp; exact .nil
  | cons v vs ih =>
    cases h with
    | cons a b =>
      cases n with
      | zero => exact .nil
      | succ n => exact .cons a (ih n b)
theorem Reps.drop {vs : List V} {ds : List D} (n : Nat) (h : Reps K I vs ds) : Reps K I (vs.drop n) (ds.drop n) := by
  induction vs generalizing ds n with
  | nil => cases h; simp; exact .nil
  | cons v vs ih =>
    cases h with
    | cons a b =>
      cases n with
      | zero => exact .cons a b
      | succ n => exact ih n b
theorem Reps.reverse {vs : List V} {ds : List D} (h : Reps K I vs ds) : Reps K I vs.reverse ds.reverse := by
  induction vs generalizing ds with
  | nil => cases h; exact .nil
  | cons v vs ih => cases h with | cons a b => rw [List.reverse_cons, List.reverse_cons]; exact (ih b).append (.cons a .nil)
theorem Reps.set {vs : List V} {ds : List D} {v : V} {d : D} (i : Nat) (h : Reps K I vs ds) (r : Rep K I v d) : Reps K I (vs.set i v) (ds.set i d) := by
  induction vs generalizing ds i with
  | nil => cases h; exact .nil
  | cons w vs ih =>
    cases h with
    | cons a b =>
      cases i with
      | zero => exact .cons r b
      | succ i => exact .cons a (ih i b)
theorem Reps.cut {vs : List V} {ds : List D} (h : Reps K I vs ds) (lo hi : Option Int) : Reps K I (cutV vs lo hi) ((ds.drop (HT.sIx ds.length 0 lo)).take (HT.sIx ds.length ds.length hi - HT.sIx ds.length 0 lo)) := by
  unfold cutV
  rw [h.length]
  exact (h.drop _).take _
theorem Reps.intsV {ns : List Int} {vs : List V} (h : Reps K I vs (ns.map D.int)) : vs = ns.map V.int := by
  induction ns generalizing vs with
  | nil => cases h; rfl
  | cons n ns ih => cases h with | cons a b => cases a; rw [ih b]; rfl
theorem Reps.strsV {ns : List Str} {vs : List V} (h : Reps K I vs (ns.map D.str)) : vs = ns.map V.str := by
  induction ns generalizing vs with
  | nil => cases h; rfl
  | cons n ns ih => cases h with | cons a b => cases a; rw [ih b]; rfl
theorem Reps.blsV {ns : List Bool} {vs : List V} (h : Reps K I vs (ns.map D.bl)) : vs = ns.map V.bl := by
  induction ns generalizing vs with
  | nil => cases h; rfl
  | cons n ns ih => cases h with | cons a b => cases a; rw [ih b]; rfl
end
/-- code objects and the like stay -/
def SameX (I I' : Hp) : Prop := ∀ b φ, I b = some (.ext φ) → I' b = some (.ext φ)
theorem SameX.of {I I' : Hp} (h : ∀ b u, I b = some u → I' b = some u) : SameX I I' := fun b φ e => h b _ e
theorem SameX.refl (I : Hp) : SameX I I := fun _ _ e => e
structure Wd where
  mv : Addr → Prop
  inv : Hp → Hp → Prop
  frame : ∀ {I I' H H' : Hp}, SameX I I' → (∀ b, mv b → H' b = H b) → inv I H → inv I' H'
  live : ∀ {I H : Hp} {b : Addr}, inv I H → mv b → H b ≠ none
structure StI (W : Wd) (I H : Hp) : Prop where
  sub : Same I H
  imm : ∀ b o, I b = some o → ¬ W.mv b
  inv : W.inv I H
structure Stp (W : Wd) (I H I' H' : Hp) : Prop where
  i : Same I I'
  st : StI W I' H'
  h : ∀ b o, H b = some o → ¬ W.mv b → H' b = some o
  new : ∀ b o, H b = some o → I b = none → I' b = none
section
variable {W : Wd} {I H I' H' I'' H'' : Hp}
theorem StI.stp (s : StI W I H) : Stp W I H I H := ⟨Same.refl I, s, fun _ _ e _ => e, fun _ _ _ e => e⟩
theorem Stp.trans (a : Stp W I H I' H') (b : Stp W I' H' I'' H'') : Stp W I H I'' H'' := by
  refine ⟨Same.trans a.i b.i, b.st, fun c o e m => b.h c o (a.h c o e m) m, fun c o e n => ?_⟩
  by_cases m : W.mv c
  · cases q : I'' c with
    | none => rfl
    | some u => exact absurd m (b.st.imm c u q)
  · exact b.new c o (a.h c o e m) (a.new c o e n)
/-- a new object that stands still from now on -/
theorem StI.laid (s : StI W I H) {p : Addr} (hp : H p = none) (o : HO) : Stp W I H (upd I p o) (upd H p o) := by
  have np : ¬ W.mv p := fun m => s.inv |> fun i => W.live i m hp
  have ni : I p = none := by
    cases q : I p with
    | none => rfl
    | some u => rw [s.sub _ _ q] at hp; cases hp
  refine ⟨fun b u e => ?_, ⟨fun b u e => ?_, fun b u e => ?_, ?_⟩, fun b u e _ => ?_, fun b u e n => ?_⟩
  · rw [upd_ne (ne_of_none e ni)]; exact e
  · by_cases hb : b = p
    · subst hb; rw [upd_same] at e ⊢; exact e
    · rw [upd_ne hb] at e ⊢; exact s.sub _ _ e
  · by_cases hb : b = p
    · subst hb; exact np
    · rw [upd_ne hb] at e; exact s.imm _ _ e
  · exact W.frame (.of fun b u e => by rw [upd_ne (ne_of_none e ni)]; exact e) (fun b m => upd_ne fun z => np (z ▸ m)) s.inv
  · rw [upd_ne (ne_of_none e hp)]; exact e
  · rw [upd_ne (ne_of_none e hp)]; exact n
/-- a new object that may turn (of our own) -/
theorem StI.laidM (s : StI W I H) {p : Addr} (hp : H p = none) (o : HO) : Stp W I H I (upd H p o) := by
  have np : ¬ W.mv p := fun m => s.inv |> fun i => W.live i m hp
  refine ⟨Same.refl I, ⟨fun b u e => ?_, s.imm, W.frame (.refl I) (fun b m => upd_ne fun z => np (z ▸ m)) s.inv⟩, fun b u e _ => ?_, fun b u e n => n⟩
  · rw [upd_ne (ne_of_none (s.sub _ _ e) hp)]; exact s.sub _ _ e
  · rw [upd_ne (ne_of_none e hp)]; exact e
theorem StI.free (s : StI W I H) {p : Addr} (hp : H p = none) : I p = none := by
  cases q : I p with
  | none => rfl
  | some u => rw [s.sub _ _ q] at hp; cases hp
end
inductive Ent where
  | dat (d : D)
  /-- a list of our own, that may grow -/
  | own (ds : List D)
  /-- a dict of our own -/
  | ownD (kvs : List (Key × D))
  /-- an object of our own, as long as its attributes are set -/
  | ownO (q C : Addr) (fs : List (Str × D))
  /-- a dict of our own, at a known place -/
  | ownQ (q : Addr) (kvs : List (Key × D))
  /-- .. locked -/
  | ownF (q : Addr) (kvs : List (Key × D))
  /-- a list of our own, at a known place -/
  | ownL (q : Addr) (ds : List D)
  /-- a dict of our own at a known place, its keys tuples -/
  | ownT (q : Addr) (kvs : List (List Key × D))
/-- the place it must be at -/
def Ent.adr : Ent → Option Addr
  | .ownO q _ _ => some q
  | .ownQ q _ => some q
  | .ownF q _ => some q
  | .ownL q _ => some q
  | .ownT q _ => some q
  | _ => none
abbrev DEnv := List (Option Ent)
/-- a def's frame: the world, the heaps at its entry -/
structure Fx where
  W : Wd
  B : Hp
  I0 : Hp
def Ent.isOwn : Ent → Prop
  | .dat _ => False
  | _ => True
/-- what it is once it stands still -/
def Ent.toD : Ent → D
  | .dat d => d
  | .own ds => .lst ds
  | .ownD ds => .dic ds
  | .ownO _ C fs => .obj C fs
  | .ownQ _ ds => .dic ds
  | .ownF _ ds => .dfz ds
  | .ownL _ ds => .lst ds
  | .ownT q _ => .opq q
def OwnRep (K : PySem.W.Frag) (I : Hp) : Ent → HO → Prop
  | .dat _, _ => False
  | .own ds, o => ∃ vs, o = .lst vs ∧ Reps K I vs ds
  | .ownD ds, o => ∃ kvs, o = .dK kvs ∧ kvs.map (·.1) = ds.map (·.1) ∧ Reps K I (kvs.map (·.2)) (ds.map (·.2))
  | .ownO _ C fs, o => ∃ dx ws, o = .ins C dx ws ∧ ws.map (·.1) = fs.map (·.1) ∧ Reps K I (ws.map (·.2)) (fs.map (·.2))
  | .ownQ _ ds, o => ∃ kvs, o = .dK kvs ∧ kvs.map (·.1) = ds.map (·.1) ∧ Reps K I (kvs.map (·.2)) (ds.map (·.2))
  | .ownF _ ds, o => ∃ f kvs, o = .frz f (.dK kvs) ∧ kvs.map (·.1) = ds.map (·.1) ∧ Reps K I (kvs.map (·.2)) (ds.map (·.2))
  | .ownL _ ds, o => ∃ vs, o = .lst vs ∧ Reps K I vs ds
  | .ownT _ ds, o => ∃ kvs, o = .dT kvs ∧ kvs.map (·.1) = ds.map (·.1) ∧ Reps K I (kvs.map (·.2)) (ds.map (·.2))
theorem OwnRep.mono {K : PySem.W.Frag} {I I' : Hp} (s : Same I I') {e : Ent} {o : HO} (h : OwnRep K I e o) : OwnRep K I' e o := by
  cases e with
  | dat _ => exact h
  | own ds => obtain ⟨vs, q, r⟩ := h; exact ⟨vs, q, r.mono s⟩
  | ownD ds => obtain ⟨vs, q, k, r⟩ := h; exact ⟨vs, q, k, r.mono s⟩
  | ownO _ C fs => obtain ⟨dx, vs, q, k, r⟩ := h; exact ⟨dx, vs, q, k, r.mono s⟩
  | ownQ _ ds => obtain ⟨vs, q, k, r⟩ := h; exact ⟨vs, q, k, r.mono s⟩
  | ownF _ ds => obtain ⟨f, vs, q, k, r⟩ := h; exact ⟨f, vs, q, k, r.mono s⟩
  | ownL _ ds => obtain ⟨vs, q, r⟩ := h; exact ⟨vs, q, r.mono s⟩
  | ownT _ ds => obtain ⟨vs, q, k, r⟩ := h; exact ⟨vs, q, k, r.mono s⟩
theorem OwnRep.rep {K : PySem.W.Frag} {I : Hp} {e : Ent} {o : HO} {p : Addr} (h : OwnRep K I e o) (hp : I p = some o) (ha : ∀ q, e.adr = some q → p = q) : Rep K I (.ref p) e.toD := by
  cases e with
  | dat _ => exact h.elim
  | own ds => obtain ⟨vs, rfl, r⟩ := h; exact .lst hp r
  | ownD ds => obtain ⟨vs, rfl, k, r⟩ := h; exact .dic hp k r
  | ownO _ C fs => obtain ⟨dx, vs, rfl, k, r⟩ := h; exact .obj hp k r
  | ownQ _ ds => obtain ⟨vs, rfl, k, r⟩ := h; exact .dic hp k r
  | ownF _ ds => obtain ⟨f, vs, rfl, k, r⟩ := h; exact .dfz hp k r
  | ownL _ ds => obtain ⟨vs, rfl, r⟩ := h; exact .lst hp r
  | ownT q ds => rw [ha q rfl]; exact .opq q
theorem OwnRep.isOwn {K : PySem.W.Frag} {I : Hp} {e : Ent} {o : HO} (h : OwnRep K I e o) : e.isOwn := by
  cases e <;> first | exact h.elim | trivial
/-- e is held by v: nothing of it stands still -/
structure OwnAt (F : Fx) (K : PySem.W.Frag) (I H : Hp) (e : Ent) (p : Addr) (o : HO) : Prop where
  hp : H p = some o
  rep : OwnRep K I e o
  ni : I p = none
  nm : ¬ F.W.mv p
  nb : F.B p = none
  ad : ∀ q, e.adr = some q → p = q
def EntRep (F : Fx) (K : PySem.W.Frag) (I H : Hp) (e : Ent) (v : V) : Prop :=
  (∃ d, e = .dat d ∧ Rep K I v d) ∨ ∃ p o, v = .ref p ∧ OwnAt F K I H e p o
theorem EntRep.dat {F : Fx} {K : PySem.W.Frag} {I H : Hp} {d : D} {v : V} (h : EntRep F K I H (.dat d) v) : Rep K I v d := by
  rcases h with ⟨d', e, r⟩ | ⟨p, o, _, h⟩
  · cases e; exact r
  · exact h.rep.elim
theorem EntRep.own {F : Fx} {K : PySem.W.Frag} {I H : Hp} {e : Ent} {v : V} (h : EntRep F K I H e v) (o : e.isOwn) : ∃ p u, v = .ref p ∧ OwnAt F K I H e p u := by
  rcases h with ⟨d', rfl, r⟩ | h
  · exact o.elim
  · exact h
structure At (F : Fx) (K : PySem.W.Frag) (I : Hp) (ρ : DEnv) (σ : St) (H : Hp) : Prop where
  stp : Stp F.W F.I0 F.B I H
  len : ρ.length = σ.length
  env : ∀ (i : Nat) e, ρ[i]? = some (some e) → ∃ v, σ[i]? = some (some v) ∧ EntRep F K I H e v
  dis : ∀ (i j : Nat) e e' v, i ≠ j → ρ[i]? = some (some e) → ρ[j]? = some (some e') → e.isOwn → e'.isOwn → σ[i]? = some (some v) → σ[j]? ≠ some (some v)
section
variable {F : Fx} {K : PySem.W.Frag} {I H I' H' : Hp} {ρ : DEnv} {σ : St}
theorem At.st (a : At F K I ρ σ H) : StI F.W I H := a.stp.st
theorem OwnAt.step {e : Ent} {p : Addr} {o : HO} (h : OwnAt F K I H e p o) (s : Stp F.W I H I' H') : OwnAt F K I' H' e p o := ⟨s.h _ _ h.hp h.nm, h.rep.mono s.i, s.new _ _ h.hp h.ni, h.nm, h.nb, h.ad⟩
theorem EntRep.step {e : Ent} {v : V} (h : EntRep F K I H e v) (s : Stp F.W I H I' H') : EntRep F K I' H' e v := by
  rcases h with ⟨d, rfl, r⟩ | ⟨p, o, rfl, h⟩
  · exact .inl ⟨d, rfl, r.mono s.i⟩
  · exact .inr ⟨p, o, rfl, h.step s⟩
theorem At.step (a : At F K I ρ σ H) (s : Stp F.W I H I' H') : At F K I' ρ σ H' :=
  ⟨a.stp.trans s, a.len, fun i e h => let ⟨v, h1, h2⟩ := a.env i e h; ⟨v, h1, h2.step s⟩, a.dis⟩
end
abbrev DT := DEnv → (D → Prop) → Prop
abbrev DB := DEnv → (Bool → Prop) → Prop
def fin (F : Fx) (K : PySem.W.Frag) (I H : Hp) (Q : VK) : D → Prop := fun d => ∀ v I' H', Stp F.W I H I' H' → Rep K I' v d → Q v H'
def finB (F : Fx) (I H : Hp) (Q : Bool → Hp → Prop) : Bool → Prop := fun b => ∀ I' H', Stp F.W I H I' H' → Q b H'
def rdE (F : Fx) (K : PySem.W.Frag) (t : DT) : TE := fun σ H Q => ∃ I ρ, At F K I ρ σ H ∧ t ρ (fin F K I H Q)
def rdT (F : Fx) (K : PySem.W.Frag) (t : DB) : TT := fun σ H Q => ∃ I ρ, At F K I ρ σ H ∧ t ρ (finB F I H Q)
structure DE (F : Fx) (X : Cx) (e : Expr) (t : DT) : Prop where
  mono : ∀ ρ (Q Q' : D → Prop), (∀ d, Q d → Q' d) → t ρ Q → t ρ Q'
  run : PE X e (rdE F X.K t)
structure DTest (F : Fx) (X : Cx) (e : Expr) (t : DB) : Prop where
  mono : ∀ ρ (Q Q' : Bool → Prop), (∀ d, Q d → Q' d) → t ρ Q → t ρ Q'
  run : PT X e (rdT F X.K t)
section
variable {F : Fx} {X : Cx} {K : PySem.W.Frag} {I H : Hp} {ρ : DEnv} {σ : St}
/-- a reading passes on to what follows -/
theorem rdE_next {t : DT} (mono : ∀ ρ (Q Q' : D → Prop), (∀ d, Q d → Q' d) → t ρ Q → t ρ Q') (a : At F K I ρ σ H) {P : D → Prop} {R : V → Hp → Prop} (h : t ρ P)
    (k : ∀ d v I' H', P d → Stp F.W I H I' H' → Rep K I' v d → R v H') : rdE F K t σ H R :=
  ⟨I, ρ, a, mono ρ _ _ (fun d p v I' H' s r => k d v I' H' p s r) h⟩
theorem rdT_next {t : DB} (mono : ∀ ρ (Q Q' : Bool → Prop), (∀ d, Q d → Q' d) → t ρ Q → t ρ Q') (a : At F K I ρ σ H) {P : Bool → Prop} {R : Bool → Hp → Prop} (h : t ρ P)
    (k : ∀ d I' H', P d → Stp F.W I H I' H' → R d H') : rdT F K t σ H R :=
  ⟨I, ρ, a, mono ρ _ _ (fun d p I' H' s => k d I' H' p s) h⟩
/-- the reading of a PE may be strengthened -/
theorem _root_.L2.PE.imp {e : Expr} {t u : TE} (h : PE X e t) (i : ∀ σ H Q, u σ H Q → t σ H Q) : PE X e u := ⟨fun pins s σ H Q J q => h.run pins s σ H Q J (i σ H Q q)⟩
theorem _root_.L2.PT.imp {e : Expr} {t u : TT} (h : PT X e t) (i : ∀ σ H Q, u σ H Q → t σ H Q) : PT X e u := ⟨fun pins s σ H Q J q => h.run pins s σ H Q J (i σ H Q q)⟩
theorem _root_.L2.PS.imp {e : Stmt} {t u : TS} (h : PS X e t) (i : ∀ D σ H, u D σ H → t D σ H) : PS X e u := ⟨fun pins s σ H Q J q => h.run pins s σ H Q J (i Q σ H q)⟩
theorem _root_.L2.PSs.imp {e : List Stmt} {t u : TS} (h : PSs X e t) (i : ∀ D σ H, u D σ H → t D σ H) : PSs X e u := ⟨fun pins s σ H Q J q => h.run pins s σ H Q J (i Q σ H q)⟩
theorem _root_.L2.PA.imp {e : List Expr} {t u : TA} (h : PA X e t) (i : ∀ σ H Q, u σ H Q → t σ H Q) : PA X e u := ⟨fun pos pins s σ H Q J q => h.run pos pins s σ H Q J (i σ H Q q)⟩
end
def getD (ρ : DEnv) (i : Nat) (Q : D → Prop) : Prop := ∃ d, ρ[i]? = some (some (.dat d)) ∧ Q d
section
variable {F : Fx} {X : Cx}
theorem de_name (i : Nat) {x : Str} {pos : Pos} (hN : X.N[i]? = some x := by rfl) (hv : Vis X.env.scope x := by first | exact Or.inl rfl | exact Or.inr (Or.inl rfl) | exact Or.inr (Or.inr rfl)) (hd : (x == ("__debug__" : Str)) = false := by decide)
    (hcd : (x == ("__classdict__" : Str)) = false := by decide) : DE F X (.Name x pos) (fun ρ Q => getD ρ i Q) := by
  refine ⟨fun ρ Q Q' h ⟨d, e, q⟩ => ⟨d, e, h d q⟩, (pv i hN hv hd hcd).imp fun σ H Q ⟨I, ρ, a, d, e, q⟩ => ?_⟩
  obtain ⟨v, h1, h2⟩ := a.env i _ e
  exact ⟨v, h1, q v I H a.st.stp h2.dat⟩
theorem de_const {e : Expr} {v : V} {d : D} (h : PE X e (tC v)) (r : ∀ I, Rep X.K I v d) : DE F X e (fun _ Q => Q d) :=
  ⟨fun _ _ _ h q => h _ q, h.imp fun σ H Q ⟨I, ρ, a, q⟩ => q v I H a.st.stp (r I)⟩
theorem de_int {i : Int} {j : Nat} {pos : Pos} : DE F X (.Constant (.int i) j pos) (fun _ Q => Q (.int i)) := de_const pe_int fun _ => .int i
theorem de_bl {i : Bool} {j : Nat} {pos : Pos} : DE F X (.Constant (.bool i) j pos) (fun _ Q => Q (.bl i)) := de_const pe_bl fun _ => .bl i
theorem de_non {j : Nat} {pos : Pos} : DE F X (.Constant .none j pos) (fun _ Q => Q .non) := de_const pe_non fun _ => .non
theorem de_str {x : Str} {j : Nat} {pos : Pos} : DE F X (.Constant (.str x) j pos) (fun _ Q => Q (.str x)) := de_const pe_str fun _ => .str x
/-- a module's constant -/
theorem de_gstr {x : Str} {y : Str} {u : Value} {pos : Pos} (hg : Gl X x) (hm : X.mg x = some u) (r : RelV (.str y) u) (hd : (x == ("__debug__" : Str)) = false := by decide) : DE F X (.Name x pos) (fun _ Q => Q (.str y)) :=
  de_const (pe_glob hg hm r hd) fun _ => .str y
theorem de_gint {x : Str} {y : Int} {u : Value} {pos : Pos} (hg : Gl X x) (hm : X.mg x = some u) (r : RelV (.int y) u) (hd : (x == ("__debug__" : Str)) = false := by decide) : DE F X (.Name x pos) (fun _ Q => Q (.int y)) :=
  de_const (pe_glob hg hm r hd) fun _ => .int y
end
end Dk
namespace Dk
open PySem L2
mutual
def toPy : D → PyData
  | .bl b => .bool b
  | .int i => .int i
  | .str x => .str x
  | .tup xs => .tuple (toPys xs)
  | .lst xs => .list (toPys xs)
  | .non => .none
  | .dic _ => .none
  | .obj _ _ => .none
  | .opq _ => .none
  | .ptp _ => .none
  | .dfz _ => .none
def toPys : List D → List PyData
  | [] => []
  | d :: ds => toPy d :: toPys ds
end
def keyD : Key → D
  | .inl i => .int i
  | .inr x => .str x
theorem keyD_rep {K : PySem.W.Frag} {I : Hp} {v : V} {k : Key} (r : Rep K I v (keyD k)) : v = kV k := by
  cases k <;> (cases r; rfl)
def lookD (kvs : List (Key × D)) (k : Key) : Option D := (kvs.find? fun kv => decide (kv.1 = k)).map (·.2)
theorem lookD_rep {K : PySem.W.Frag} {I : Hp} {k : Key} : ∀ {kvs : List (Key × V)} {ds : List (Key × D)}, kvs.map (·.1) = ds.map (·.1) → Reps K I (kvs.map (·.2)) (ds.map (·.2)) → (valV kvs k = none ∧ lookD ds k = none) ∨ ∃ v d, valV kvs k = some v ∧ lookD ds k = some d ∧ Rep K I v d
  | [], [], _, _ => .inl ⟨rfl, rfl⟩
  | [], _ :: _, h, _ => by simp at h
  | _ :: _, [], h, _ => by simp at h
  | (i, x) :: kvs, (j, y) :: ds, h, r => by
    simp only [List.map_cons, List.cons.injEq] at h
    obtain ⟨rfl, h⟩ := h
    cases r with
    | cons r1 r2 =>
      by_cases e : i = k
      · exact .inr ⟨x, y, by simp [valV, List.find?_cons, e], by simp [lookD, List.find?_cons, e], r1⟩
      · have e1 : valV ((i, x) :: kvs) k = valV kvs k := by simp [valV, List.find?_cons, e]
        have e2 : lookD ((i, y) :: ds) k = lookD ds k := by simp [lookD, List.find?_cons, e]
        rw [e1, e2]
        exact lookD_rep h r2
mutual
/-- nothing but none, truths, numbers, texts, tuples, lists -/
def plainD : D → Bool
  | .non | .bl _ | .int _ | .str _ => true
  | .tup xs => plainDs xs
  | .lst xs => plainDs xs
  | .dic _ => false
  | .obj _ _ => false
  | .opq _ => false
  | .ptp _ => false
  | .dfz _ => false
def plainDs : List D → Bool
  | [] => true
  | d :: ds => plainD d && plainDs ds
end
def deq (x y : D) : Bool := PyData.eqv (toPy x) (toPy y)
def okE (x : D) : Bool := plainD x && SeqAt.shaped (toPy x)
def scalD : D → Bool
  | .non | .bl _ | .int _ | .str _ => true
  | _ => false
mutual
theorem Rep.dp {K : PySem.W.Frag} {I H : Hp} (s : Same I H) : ∀ {d : D} {v : V}, plainD d = true → Rep K I v d → Dp K H v (toPy d)
  | .non, _, _, h => by cases h; exact .non
  | .bl b, _, _, h => by cases h; exact .bl b
  | .int i, _, _, h => by cases h; exact .int i
  | .str x, _, _, h => by cases h; exact .str x
  | .tup xs, _, p, h => by
    cases h with
    | tup a r => exact .tup (Same.seqT s a) (Reps.dp s (by unfold plainD at p; exact p) r)
  | .lst xs, _, p, h => by
    cases h with
    | lst a r => exact .lst (.of (s _ _ a)) (Reps.dp s (by unfold plainD at p; exact p) r)
  | .dic _, _, p, h => by unfold plainD at p; cases p
  | .obj _ _, _, p, h => by unfold plainD at p; cases p
  | .opq _, _, p, h => by unfold plainD at p; cases p
  | .ptp _, _, p, h => by unfold plainD at p; cases p
  | .dfz _, _, p, h => by unfold plainD at p; cases p
theorem Reps.dp {K : PySem.W.Frag} {I H : Hp} (s : Same I H) : ∀ {ds : List D} {vs : List V}, plainDs ds = true → Reps K I vs ds → DpAll K H vs (toPys ds)
  | [], _, _, h => by cases h; exact .nil
  | d :: ds, _, p, h => by
    cases h with
    | cons a b =>
      unfold plainDs at p
      rw [Bool.and_eq_true] at p
      exact .cons (Rep.dp s p.1 a) (Reps.dp s p.2 b)
end
/-- a truth beside a number -/
def mixD : D → D → Bool
  | .bl _, .int _ => true
  | .int _, .bl _ => true
  | _, _ => false
theorem scal_of {K : PySem.W.Frag} {I : Hp} {v w : V} {d e : D} (h : Rep K I v d) (h' : Rep K I w e) (s : scalD d = true) (s' : scalD e = true) (m : mixD d e = false) : scal v w = true ∧ decide (v = w) = deq d e := by
  cases h with
  | tup _ _ => cases s
  | lst _ _ => cases s
  | dic _ _ _ => cases s
  | obj _ _ _ => cases s
  | opq _ => cases s
  | dfz _ _ _ => cases s
  | ptp _ _ _ => cases s
  | non => cases h' <;> first | (cases s'; done) | exact ⟨rfl, rfl⟩
  | bl b => cases h' <;> first | (cases s'; done) | (cases m; done) | exact ⟨rfl, dec_bl⟩ | exact ⟨rfl, rfl⟩
  | int b => cases h' <;> first | (cases s'; done) | (cases m; done) | exact ⟨rfl, dec_int⟩ | exact ⟨rfl, rfl⟩
  | str b => cases h' <;> first | (cases s'; done) | exact ⟨rfl, dec_str⟩ | exact ⟨rfl, rfl⟩
def LiftR (F : Fx) (K : PySem.W.Frag) (R : R2) (r : D → D → (D → Prop) → Prop) : Prop :=
  ∀ (x y : V) (dx dy : D) (I H : Hp) (Q : VK), StI F.W I H → Rep K I x dx → Rep K I y dy → r dx dy (fin F K I H Q) → R x y H Q
abbrev Mono2 (r : D → D → (D → Prop) → Prop) : Prop := ∀ x y (Q Q' : D → Prop), (∀ d, Q d → Q' d) → r x y Q → r x y Q'
abbrev MonoN (r : List D → (D → Prop) → Prop) : Prop := ∀ x (Q Q' : D → Prop), (∀ d, Q d → Q' d) → r x Q → r x Q'
section
variable {F : Fx} {X : Cx} {K : PySem.W.Frag} {I H I' H' : Hp} {Q : VK} {a b c : Expr} {ta tb tc : DT} {pos : Pos} {R : R2} {r : D → D → (D → Prop) → Prop}
theorem fin.of (q : fin F K I H Q d) (s : Stp F.W I H I' H') : fin F K I' H' Q d := fun v I2 H2 s2 rv => q v I2 H2 (s.trans s2) rv
theorem two_run (mr : Mono2 r) (l : LiftR F X.K R r) (ha : DE F X a ta) (hb : DE F X b tb) {σ : St} (h : rdE F X.K (fun ρ Q => ta ρ fun x => tb ρ fun y => r x y Q) σ H Q) : tOp R (rdE F X.K ta) (rdE F X.K tb) σ H Q := by
  obtain ⟨I, ρ, A, h⟩ := h
  refine rdE_next ha.mono A h fun d v I' H' p s rv => ?_
  refine rdE_next hb.mono (A.step s) p fun e u I2 H2 q s2 ru => ?_
  exact l v u d e I2 H2 Q s2.st (rv.mono s2.i) ru (mr _ _ _ _ (fun z hz => hz.of (s.trans s2)) q)
theorem two_mono (mr : Mono2 r) (ha : DE F X a ta) (hb : DE F X b tb) : ∀ ρ (Q Q' : D → Prop), (∀ d, Q d → Q' d) → (ta ρ fun x => tb ρ fun y => r x y Q) → (ta ρ fun x => tb ρ fun y => r x y Q') :=
  fun ρ Q Q' k h => ha.mono _ _ _ (fun d h => hb.mono _ _ _ (fun e h => mr _ _ _ _ k h) h) h
theorem de_op {op : Operator} (mr : Mono2 r) (ho : OpR X (binaryOp op) R) (l : LiftR F X.K R r) (ha : DE F X a ta) (hb : DE F X b tb) : DE F X (.BinOp a op b pos) (fun ρ Q => ta ρ fun x => tb ρ fun y => r x y Q) :=
  ⟨two_mono mr ha hb, (pe_op ho ha.run hb.run).imp fun σ H Q h => two_run mr l ha hb h⟩
theorem de_cmp {op : CmpOp} (mr : Mono2 r) (ho : OpR X (compareOp op) R) (l : LiftR F X.K R r) (ha : DE F X a ta) (hb : DE F X b tb) (hm : behindInMarks op b = false) : DE F X (.Compare a [op] [b] pos) (fun ρ Q => ta ρ fun x => tb ρ fun y => r x y Q) :=
  ⟨two_mono mr ha hb, (pe_cmpR ho ha.run hb.run hm).imp fun σ H Q h => two_run mr l ha hb h⟩
theorem de_ix (mr : Mono2 r) (ho : IxR X R) (l : LiftR F X.K R r) (ha : DE F X a ta) (hb : DE F X b tb) (hs : PlainIx b := by exact fun _ _ => rfl) : DE F X (.Subscript a b pos) (fun ρ Q => ta ρ fun x => tb ρ fun y => r x y Q) :=
  ⟨two_mono mr ha hb, (pe_ix ho ha.run hb.run hs).imp fun σ H Q h => two_run mr l ha hb h⟩
def boolD (d : D) (Q : Bool → Prop) : Prop := ∃ b, d = .bl b ∧ Q b
theorem boolD.mono {d : D} {Q Q' : Bool → Prop} (k : ∀ b, Q b → Q' b) : boolD d Q → boolD d Q' := fun ⟨b, e, q⟩ => ⟨b, e, k b q⟩
theorem dt_cmp {op : CmpOp} (mr : Mono2 r) (ho : OpR X (compareOp op) R) (l : LiftR F X.K R r) (ha : DE F X a ta) (hb : DE F X b tb) (hm : behindInMarks op b = false) : DTest F X (.Compare a [op] [b] pos) (fun ρ Q => ta ρ fun x => tb ρ fun y => r x y fun z => boolD z Q) := by
  refine ⟨fun ρ Q Q' k h => two_mono mr ha hb _ _ _ (fun d => boolD.mono k) h, (pt_cmpR ho ha.run hb.run hm).imp fun σ H Q ⟨I, ρ, A, h⟩ => ?_⟩
  refine two_run mr l ha hb ⟨I, ρ, A, two_mono mr ha hb _ _ _ (fun d hd => ?_) h⟩
  obtain ⟨b, rfl, q⟩ := hd
  intro v I' H' s rv
  cases rv
  exact ⟨b, rfl, q I' H' s⟩
theorem dt_val (ha : DE F X a ta) (he : ∀ whole, isTrue a X.env whole = (do let v ← whole; standAt a.pos; holding [v] (truthy v)) := by intro _; rfl) : DTest F X a (fun ρ Q => ta ρ fun d => boolD d Q) := by
  refine ⟨fun ρ Q Q' k h => ha.mono _ _ _ (fun d => boolD.mono k) h, (pt_val ha.run he).imp fun σ H Q ⟨I, ρ, A, h⟩ => ?_⟩
  refine rdE_next ha.mono A h fun d v I' H' p s rv => ?_
  obtain ⟨b, rfl, q⟩ := p
  cases rv
  exact ⟨b, rfl, q I' H' s⟩
end
structure DWh (F : Fx) (X : Cx) (e : Expr) (t : DB) : Prop where
  mono : ∀ ρ (Q Q' : Bool → Prop), (∀ d, Q d → Q' d) → t ρ Q → t ρ Q'
  run : PW X e (rdT F X.K t)
section
variable {F : Fx} {X : Cx} {K : PySem.W.Frag} {I H I' H' : Hp} {a b c : Expr} {ta tb tc : DB} {va vb vc : DT} {pos : Pos} {rest : List Expr}
theorem _root_.L2.PW.imp {e : Expr} {t u : TT} (h : PW X e t) (i : ∀ σ H Q, u σ H Q → t σ H Q) : PW X e u := ⟨fun w pins s σ H Q J q => h.run w pins s σ H Q J (i σ H Q q)⟩
theorem finB.of {Q : Bool → Hp → Prop} {d : Bool} (q : finB F I H Q d) (s : Stp F.W I H I' H') : finB F I' H' Q d := fun I2 H2 s2 => q I2 H2 (s.trans s2)
theorem dt_wh (h : DWh F X a ta) : DTest F X a ta := ⟨h.mono, h.run.pt⟩
theorem dt_not (h : DTest F X a ta) : DTest F X (.UnaryOp .Not a pos) (fun ρ Q => ta ρ fun b => Q (!b)) := by
  refine ⟨fun ρ Q Q' k q => h.mono _ _ _ (fun b => k _) q, (pt_not h.run).imp fun σ H Q ⟨I, ρ, A, q⟩ => ?_⟩
  exact rdT_next h.mono A q fun d I' H' p s => p I' H' s
theorem dw_and1 (h : DTest F X a ta) : DWh F X (.BoolOp .And [a] pos) ta := ⟨h.mono, pw_and1 h.run⟩
theorem dw_or1 (h : DTest F X a ta) : DWh F X (.BoolOp .Or [a] pos) ta := ⟨h.mono, pw_or1 h.run⟩
theorem dw_and (h : DTest F X a ta) (h' : DWh F X (.BoolOp .And (b :: rest) pos) tb) : DWh F X (.BoolOp .And (a :: b :: rest) pos) (fun ρ Q => ta ρ fun x => if x = true then tb ρ Q else Q false) := by
  refine ⟨fun ρ Q Q' k q => h.mono _ _ _ (fun b q => ?_) q, (pw_and h.run h'.run).imp fun σ H Q ⟨I, ρ, A, q⟩ => ?_⟩
  · cases b
    · exact k _ q
    · exact h'.mono _ _ _ k q
  · refine rdT_next h.mono A q fun d I' H' p s => ?_
    cases d
    · exact p I' H' s
    · exact rdT_next h'.mono (A.step s) p fun d I2 H2 p s2 => p I2 H2 (s.trans s2)
theorem dw_or (h : DTest F X a ta) (h' : DWh F X (.BoolOp .Or (b :: rest) pos) tb) : DWh F X (.BoolOp .Or (a :: b :: rest) pos) (fun ρ Q => ta ρ fun x => if x = true then Q true else tb ρ Q) := by
  refine ⟨fun ρ Q Q' k q => h.mono _ _ _ (fun b q => ?_) q, (pw_or h.run h'.run).imp fun σ H Q ⟨I, ρ, A, q⟩ => ?_⟩
  · cases b
    · exact h'.mono _ _ _ k q
    · exact k _ q
  · refine rdT_next h.mono A q fun d I' H' p s => ?_
    cases d
    · exact rdT_next h'.mono (A.step s) p fun d I2 H2 p s2 => p I2 H2 (s.trans s2)
    · exact p I' H' s
/-- .. as values -/
theorem de_one {op : BoolOp} (h : DE F X a va) : DE F X (.BoolOp op [a] pos) va := ⟨h.mono, pe_one h.run⟩
theorem de_and (h : DE F X a va) (h' : DE F X (.BoolOp .And (b :: rest) pos) vb) : DE F X (.BoolOp .And (a :: b :: rest) pos) (fun ρ Q => va ρ fun x => boolD x fun k => if k = true then vb ρ Q else Q (.bl false)) := by
  refine ⟨fun ρ Q Q' k q => h.mono _ _ _ (fun b => boolD.mono fun b q => ?_) q, (pe_and h.run h'.run).imp fun σ H Q ⟨I, ρ, A, q⟩ => ?_⟩
  · cases b
    · exact k _ q
    · exact h'.mono _ _ _ k q
  · refine rdE_next h.mono A q fun d v I' H' p s rv => ?_
    obtain ⟨b, rfl, p⟩ := p
    cases rv
    refine ⟨b, rfl, ?_⟩
    cases b
    · exact p _ I' H' s (.bl false)
    · exact rdE_next h'.mono (A.step s) p fun d v I2 H2 p s2 r2 => p v I2 H2 (s.trans s2) r2
theorem de_or (h : DE F X a va) (h' : DE F X (.BoolOp .Or (b :: rest) pos) vb) : DE F X (.BoolOp .Or (a :: b :: rest) pos) (fun ρ Q => va ρ fun x => boolD x fun k => if k = true then Q (.bl true) else vb ρ Q) := by
  refine ⟨fun ρ Q Q' k q => h.mono _ _ _ (fun b => boolD.mono fun b q => ?_) q, (pe_or h.run h'.run).imp fun σ H Q ⟨I, ρ, A, q⟩ => ?_⟩
  · cases b
    · exact h'.mono _ _ _ k q
    · exact k _ q
  · refine rdE_next h.mono A q fun d v I' H' p s rv => ?_
    obtain ⟨b, rfl, p⟩ := p
    cases rv
    refine ⟨b, rfl, ?_⟩
    cases b
    · exact rdE_next h'.mono (A.step s) p fun d v I2 H2 p s2 r2 => p v I2 H2 (s.trans s2) r2
    · exact p _ I' H' s (.bl true)
theorem de_not (h : DE F X a va) : DE F X (.UnaryOp .Not a pos) (fun ρ Q => va ρ fun x => boolD x fun k => Q (.bl (!k))) := by
  refine ⟨fun ρ Q Q' k q => h.mono _ _ _ (fun b => boolD.mono fun b => k _) q, (pe_not h.run).imp fun σ H Q ⟨I, ρ, A, q⟩ => ?_⟩
  refine rdE_next h.mono A q fun d v I' H' p s rv => ?_
  obtain ⟨b, rfl, p⟩ := p
  cases rv
  exact ⟨b, rfl, p _ I' H' s (.bl _)⟩
theorem de_if (hc : DTest F X c tc) (h : DE F X a va) (h' : DE F X b vb) : DE F X (.IfExp c a b pos) (fun ρ Q => tc ρ fun k => if k = true then va ρ Q else vb ρ Q) := by
  refine ⟨fun ρ Q Q' k q => hc.mono _ _ _ (fun b q => ?_) q, (pe_ifExp hc.run h.run h'.run).imp fun σ H Q ⟨I, ρ, A, q⟩ => ?_⟩
  · cases b
    · exact h'.mono _ _ _ k q
    · exact h.mono _ _ _ k q
  · refine rdT_next hc.mono A q fun d I' H' p s => ?_
    cases d
    · exact rdE_next h'.mono (A.step s) p fun d v I2 H2 p s2 r2 => p v I2 H2 (s.trans s2) r2
    · exact rdE_next h.mono (A.step s) p fun d v I2 H2 p s2 r2 => p v I2 H2 (s.trans s2) r2
end
abbrev DAT := DEnv → (List D → Prop) → Prop
def finA (F : Fx) (K : PySem.W.Frag) (I H : Hp) (Q : List V → Hp → Prop) : List D → Prop := fun ds => ∀ vs I' H', Stp F.W I H I' H' → Reps K I' vs ds → Q vs H'
def rdA (F : Fx) (K : PySem.W.Frag) (t : DAT) : TA := fun σ H Q => ∃ I ρ, At F K I ρ σ H ∧ t ρ (finA F K I H Q)
structure DA (F : Fx) (X : Cx) (es : List Expr) (t : DAT) : Prop where
  mono : ∀ ρ (Q Q' : List D → Prop), (∀ d, Q d → Q' d) → t ρ Q → t ρ Q'
  run : PA X es (rdA F X.K t)
section
variable {F : Fx} {X : Cx} {K : PySem.W.Frag} {I H : Hp} {ρ : DEnv} {σ : St} {e : Expr} {es : List Expr} {te : DT} {t : DAT} {pos : Pos}
theorem rdA_next (mono : ∀ ρ (Q Q' : List D → Prop), (∀ d, Q d → Q' d) → t ρ Q → t ρ Q') (a : At F K I ρ σ H) {P : List D → Prop} {R : List V → Hp → Prop} (h : t ρ P)
    (k : ∀ d v I' H', P d → Stp F.W I H I' H' → Reps K I' v d → R v H') : rdA F K t σ H R :=
  ⟨I, ρ, a, mono ρ _ _ (fun d p v I' H' s r => k d v I' H' p s r) h⟩
theorem da_nil : DA F X [] (fun _ Q => Q []) := ⟨fun _ _ _ k q => k _ q, pa_nil.imp fun σ H Q ⟨I, ρ, A, q⟩ => q [] I H A.st.stp .nil⟩
theorem da_cons (h : DE F X e te) (h' : DA F X es t) (hs : starEach (e :: es) X.env = (false, eval e X.env) :: starEach es X.env := by rfl) : DA F X (e :: es) (fun ρ Q => te ρ fun d => t ρ fun ds => Q (d :: ds)) := by
  refine ⟨fun ρ Q Q' k q => h.mono _ _ _ (fun d q => h'.mono _ _ _ (fun ds => k _) q) q, (pa_cons h.run h'.run hs).imp fun σ H Q ⟨I, ρ, A, q⟩ => ?_⟩
  refine rdE_next h.mono A q fun d v I' H' p s rv => ?_
  exact rdA_next h'.mono (A.step s) p fun ds vs I2 H2 p s2 rs => p (v :: vs) I2 H2 (s.trans s2) (.cons (rv.mono s2.i) rs)
theorem de_tup {x1} (h : DA F X es t) : DE F X (.Tuple es x1 pos) (fun ρ Q => t ρ fun ds => ds.length ≤ sizeLine ∧ Q (.tup ds)) := by
  refine ⟨fun ρ Q Q' k q => h.mono _ _ _ (fun d q => ⟨q.1, k _ q.2⟩) q, (pe_tup h.run).imp fun σ H Q ⟨I, ρ, A, q⟩ => ?_⟩
  refine rdA_next h.mono A q fun ds vs I' H' p s rs => ⟨rs.length ▸ p.1, fun a ha => ?_⟩
  have l := s.st.laid ha (.tup vs)
  exact p.2 _ _ _ (s.trans l) (.tup (.of upd_same) (rs.mono l.i))
theorem de_lst (h : DA F X es t) : DE F X (.List es pos) (fun ρ Q => t ρ fun ds => ds.length ≤ sizeLine ∧ Q (.lst ds)) := by
  refine ⟨fun ρ Q Q' k q => h.mono _ _ _ (fun d q => ⟨q.1, k _ q.2⟩) q, (pe_lst h.run).imp fun σ H Q ⟨I, ρ, A, q⟩ => ?_⟩
  refine rdA_next h.mono A q fun ds vs I' H' p s rs => ⟨rs.length ▸ p.1, fun a ha => ?_⟩
  have l := s.st.laid ha (.lst vs)
  exact p.2 _ _ _ (s.trans l) (.lst upd_same (rs.mono l.i))
end
def addD : D → D → (D → Prop) → Prop
  | .int i, .int j, Q => Q (.int (i + j))
  | .str x, .str y, Q => x.length + y.length ≤ sizeLine ∧ Q (.str (x ++ y))
  | .lst x, .lst y, Q => x.length + y.length ≤ sizeLine ∧ Q (.lst (x ++ y))
  | .tup x, .tup y, Q => x.length + y.length ≤ sizeLine ∧ Q (.tup (x ++ y))
  | _, _, _ => False
def subD : D → D → (D → Prop) → Prop
  | .int i, .int j, Q => Q (.int (i - j))
  | _, _, _ => False
def mulD : D → D → (D → Prop) → Prop
  | .int i, .int j, Q => CMul i j ∧ Q (.int (i * j))
  | .lst xs, .int k, Q => -(2 ^ 63) ≤ k ∧ k < 2 ^ 63 ∧ xs.length * k.toNat ≤ sizeLine ∧ Q (.lst (List.replicate k.toNat xs).flatten)
  | _, _, _ => False
def fdivD : D → D → (D → Prop) → Prop
  | .int i, .int j, Q => CDivW i j ∧ Q (.int (i / j))
  | _, _, _ => False
def modD : D → D → (D → Prop) → Prop
  | .int i, .int j, Q => 0 < j ∧ Q (.int (i % j))
  | _, _, _ => False
def ltD : D → D → (D → Prop) → Prop
  | .int i, .int j, Q => Q (.bl (decide (i < j)))
  | .str x, .str y, Q => Q (.bl (decide (x.cps.toList < y.cps.toList)))
  | _, _, _ => False
def leD : D → D → (D → Prop) → Prop
  | .int i, .int j, Q => Q (.bl (decide (i ≤ j)))
  | .str x, .str y, Q => Q (.bl (!decide (y.cps.toList < x.cps.toList)))
  | _, _, _ => False
def gtD : D → D → (D → Prop) → Prop
  | .int i, .int j, Q => Q (.bl (decide (j < i)))
  | .str x, .str y, Q => Q (.bl (decide (y.cps.toList < x.cps.toList)))
  | _, _, _ => False
def geD : D → D → (D → Prop) → Prop
  | .int i, .int j, Q => Q (.bl (decide (j ≤ i)))
  | .str x, .str y, Q => Q (.bl (!decide (x.cps.toList < y.cps.toList)))
  | _, _, _ => False
/-- may be compared -/
def canEq (x y : D) : Bool :=
  (scalD x && scalD y && !mixD x y) || (okE x && okE y)
def eqD (x y : D) (Q : D → Prop) : Prop := canEq x y = true ∧ Q (.bl (deq x y))
def neD (x y : D) (Q : D → Prop) : Prop := canEq x y = true ∧ Q (.bl (!deq x y))
section
variable {F : Fx} {X : Cx} {K : PySem.W.Frag}
theorem mono_add : Mono2 addD := by
  intro x y Q Q' k h
  cases x <;> cases y <;> first | exact h.elim | exact k _ h | exact ⟨h.1, k _ h.2⟩
theorem mono_sub : Mono2 subD := by
  intro x y Q Q' k h
  cases x <;> cases y <;> first | exact h.elim | exact k _ h | exact ⟨h.1, k _ h.2⟩
theorem mono_mul : Mono2 mulD := by
  intro x y Q Q' k h
  cases x <;> cases y <;> first | exact h.elim | exact k _ h | exact ⟨h.1, k _ h.2⟩ | exact ⟨h.1, h.2.1, h.2.2.1, k _ h.2.2.2⟩
theorem mono_fdiv : Mono2 fdivD := by
  intro x y Q Q' k h
  cases x <;> cases y <;> first | exact h.elim | exact k _ h | exact ⟨h.1, k _ h.2⟩
theorem mono_mod : Mono2 modD := by
  intro x y Q Q' k h
  cases x <;> cases y <;> first | exact h.elim | exact k _ h | exact ⟨h.1, k _ h.2⟩
theorem mono_lt : Mono2 ltD := by
  intro x y Q Q' k h
  cases x <;> cases y <;> first | exact h.elim | exact k _ h
theorem mono_le : Mono2 leD := by
  intro x y Q Q' k h
  cases x <;> cases y <;> first | exact h.elim | exact k _ h
theorem mono_gt : Mono2 gtD := by
  intro x y Q Q' k h
  cases x <;> cases y <;> first | exact h.elim | exact k _ h
theorem mono_ge : Mono2 geD := by
  intro x y Q Q' k h
  cases x <;> cases y <;> first | exact h.elim | exact k _ h
theorem mono_eq : Mono2 eqD := fun x y Q Q' k h => ⟨h.1, k _ h.2⟩
theorem mono_ne : Mono2 neD := fun x y Q Q' k h => ⟨h.1, k _ h.2⟩
/-- + -/
def RAdd (K : PySem.W.Frag) : R2 := fun x y H Q => rI0 (fun i j => .int (i + j)) x y H Q ∨ (∃ i j, x = .str i ∧ y = .str j ∧ i.length + j.length ≤ sizeLine ∧ Q (.str (i ++ j)) H) ∨ rCat x y H Q ∨ rCatA K x y H Q
theorem or_add : OpR X (binaryOp .Add) (RAdd X.K) := op_add.or (op_add_str.or (op_cat.or op_catA))
theorem lf_add : LiftR F K (RAdd K) addD := by
  intro x y dx dy I H Q st rx ry h
  cases dx <;> cases dy <;> first | exact h.elim | skip
  · cases rx; cases ry
    exact .inl ⟨_, _, rfl, rfl, h _ I H st.stp (.int _)⟩
  · cases rx; cases ry
    exact .inr (.inl ⟨_, _, rfl, rfl, h.1, h.2 _ I H st.stp (.str _)⟩)
  · cases rx with
    | tup a r =>
      cases ry with
      | tup a' r' =>
        rename_i xs ys p vs q ws
        refine .inr (.inr (.inr ⟨p, q, vs, ws, rfl, rfl, Same.seqT st.sub a, Same.seqT st.sub a', by rw [r.length, r'.length]; exact h.1, fun e => ?_, fun e e' => ?_, fun e e' z hz => ?_⟩))
        · subst e
          cases r
          exact h.2 _ I H st.stp (.tup a' (by simpa using r'))
        · subst e'
          cases r'
          exact h.2 _ I H st.stp (.tup a (by simpa using r))
        · have l := st.laid hz (.tup (vs ++ ws))
          exact h.2 _ _ _ l (.tup (.of upd_same) ((r.append r').mono l.i))
  · cases rx with
    | lst a r =>
      cases ry with
      | lst a' r' =>
        rename_i xs ys p vs q ws
        refine .inr (.inr (.inl ⟨p, q, vs, ws, rfl, rfl, st.sub _ _ a, st.sub _ _ a', by rw [r.length, r'.length]; exact h.1, fun z hz => ?_⟩))
        have l := st.laid hz (.lst (vs ++ ws))
        exact h.2 _ _ _ l (.lst upd_same ((r.append r').mono l.i))
theorem lf_int {R : R2} {r : D → D → (D → Prop) → Prop} {C : Int → Int → Prop} {g : Int → Int → Int} (hR : R = rI C fun i j => .int (g i j)) (hr : ∀ x y Q, r x y Q → ∃ i j, x = .int i ∧ y = .int j ∧ C i j ∧ Q (.int (g i j))) : LiftR F K R r := by
  intro x y dx dy I H Q st rx ry h
  obtain ⟨i, j, rfl, rfl, c, q⟩ := hr _ _ _ h
  cases rx; cases ry
  rw [hR]
  exact ⟨i, j, rfl, rfl, c, q _ I H st.stp (.int _)⟩
theorem lf_sub : LiftR F K (rI0 fun i j => .int (i - j)) subD := by
  intro x y dx dy I H Q st rx ry h
  cases dx <;> cases dy <;> first | exact h.elim | skip
  cases rx; cases ry
  exact ⟨_, _, rfl, rfl, h _ I H st.stp (.int _)⟩
theorem lf_fdiv : LiftR F K (rI CDivW fun i j => .int (i / j)) fdivD := lf_int (C := CDivW) (g := fun i j => i / j) rfl fun x y Q h => by
  cases x <;> cases y <;> first | exact h.elim | exact ⟨_, _, rfl, rfl, h.1, h.2⟩
theorem lf_mod : LiftR F K (rI (fun _ j => 0 < j) fun i j => .int (i % j)) modD := lf_int (C := fun _ j => 0 < j) (g := fun i j => i % j) rfl fun x y Q h => by
  cases x <;> cases y <;> first | exact h.elim | exact ⟨_, _, rfl, rfl, h.1, h.2⟩
theorem Reps.rep {I : Hp} {vs : List V} {ds : List D} (h : Reps K I vs ds) : ∀ n : Nat, Reps K I (List.replicate n vs).flatten (List.replicate n ds).flatten
  | 0 => .nil
  | n + 1 => by rw [List.replicate_succ, List.replicate_succ, List.flatten_cons, List.flatten_cons]; exact h.append (Reps.rep h n)
def RMul : R2 := fun x y H Q => rI CMul (fun i j => .int (i * j)) x y H Q ∨ rRep x y H Q
theorem or_mul : OpR X (binaryOp .Mult) RMul := op_mul.or op_rep
theorem lf_mul : LiftR F K RMul mulD := by
  intro x y dx dy I H Q st rx ry h
  cases dx <;> cases dy <;> first | exact h.elim | skip
  · cases rx; cases ry
    exact .inl ⟨_, _, rfl, rfl, h.1, h.2 _ I H st.stp (.int _)⟩
  · cases ry
    cases rx with
    | lst a r =>
      rename_i xs k p vs
      refine .inr ⟨p, k, vs, rfl, rfl, st.sub _ _ a, h.1, h.2.1, by rw [r.length]; exact h.2.2.1, fun z hz => ?_⟩
      have l := st.laid hz (.lst (List.replicate k.toNat vs).flatten)
      exact h.2.2.2 _ _ _ l (.lst upd_same ((r.rep _).mono l.i))
/-- comparisons -/
theorem lf_cmp {R : R2} {r : D → D → (D → Prop) → Prop} {g : Int → Int → Bool} {g' : Str → Str → Bool} (hR : R = fun x y H Q => rI0 (fun i j => .bl (g i j)) x y H Q ∨ ∃ i j, x = .str i ∧ y = .str j ∧ Q (.bl (g' i j)) H)
    (hr : ∀ x y Q, r x y Q → (∃ i j, x = .int i ∧ y = .int j ∧ Q (.bl (g i j))) ∨ ∃ i j, x = .str i ∧ y = .str j ∧ Q (.bl (g' i j))) : LiftR F K R r := by
  intro x y dx dy I H Q st rx ry h
  rw [hR]
  rcases hr _ _ _ h with ⟨i, j, rfl, rfl, q⟩ | ⟨i, j, rfl, rfl, q⟩
  · cases rx; cases ry
    exact .inl ⟨i, j, rfl, rfl, q _ I H st.stp (.bl _)⟩
  · cases rx; cases ry
    exact .inr ⟨i, j, rfl, rfl, q _ I H st.stp (.bl _)⟩
def RLt : R2 := fun x y H Q => rI0 (fun i j => .bl (decide (i < j))) x y H Q ∨ ∃ i j, x = .str i ∧ y = .str j ∧ Q (.bl (decide (i.cps.toList < j.cps.toList))) H
def RLe : R2 := fun x y H Q => rI0 (fun i j => .bl (decide (i ≤ j))) x y H Q ∨ ∃ i j, x = .str i ∧ y = .str j ∧ Q (.bl (!decide (j.cps.toList < i.cps.toList))) H
def RGt : R2 := fun x y H Q => rI0 (fun i j => .bl (decide (j < i))) x y H Q ∨ ∃ i j, x = .str i ∧ y = .str j ∧ Q (.bl (decide (j.cps.toList < i.cps.toList))) H
def RGe : R2 := fun x y H Q => rI0 (fun i j => .bl (decide (j ≤ i))) x y H Q ∨ ∃ i j, x = .str i ∧ y = .str j ∧ Q (.bl (!decide (i.cps.toList < j.cps.toList))) H
theorem or_lt : OpR X (compareOp .Lt) RLt := op_lt.or op_lt_str
theorem or_le : OpR X (compareOp .LtE) RLe := op_le.or op_le_str
theorem or_gt : OpR X (compareOp .Gt) RGt := op_gt.or op_gt_str
theorem or_ge : OpR X (compareOp .GtE) RGe := op_ge.or op_ge_str
theorem lf_lt : LiftR F K RLt ltD := lf_cmp rfl fun x y Q h => by cases x <;> cases y <;> first | exact h.elim | exact .inl ⟨_, _, rfl, rfl, h⟩ | exact .inr ⟨_, _, rfl, rfl, h⟩
theorem lf_le : LiftR F K RLe leD := lf_cmp rfl fun x y Q h => by cases x <;> cases y <;> first | exact h.elim | exact .inl ⟨_, _, rfl, rfl, h⟩ | exact .inr ⟨_, _, rfl, rfl, h⟩
theorem lf_gt : LiftR F K RGt gtD := lf_cmp rfl fun x y Q h => by cases x <;> cases y <;> first | exact h.elim | exact .inl ⟨_, _, rfl, rfl, h⟩ | exact .inr ⟨_, _, rfl, rfl, h⟩
theorem lf_ge : LiftR F K RGe geD := lf_cmp rfl fun x y Q h => by cases x <;> cases y <;> first | exact h.elim | exact .inl ⟨_, _, rfl, rfl, h⟩ | exact .inr ⟨_, _, rfl, rfl, h⟩
/-- ==, != -/
def REq (K : PySem.W.Frag) : R2 := fun x y H Q => rEq x y H Q ∨ rEqD K x y H Q
def RNe (K : PySem.W.Frag) : R2 := fun x y H Q => rNe x y H Q ∨ rNeD K x y H Q
theorem or_eq (hu : X.A.units + 64 < cLine) : OpR X (compareOp .Eq) (REq X.K) := op_eq.or (op_eqD hu)
theorem or_ne (hu : X.A.units + 64 < cLine) : OpR X (compareOp .NotEq) (RNe X.K) := op_ne.or (op_neD hu)
theorem can_scal {I : Hp} {x y : V} {dx dy : D} (rx : Rep K I x dx) (ry : Rep K I y dy) (h : canEq x' y' = true) (ex : x' = dx) (ey : y' = dy) : (scal x y = true ∧ decide (x = y) = deq dx dy) ∨ (okE dx = true ∧ okE dy = true) := by
  subst ex ey
  unfold canEq at h
  rw [Bool.or_eq_true] at h
  rcases h with h | h
  · left
    rw [Bool.and_eq_true, Bool.and_eq_true] at h
    obtain ⟨⟨s1, s2⟩, s3⟩ := h
    exact scal_of rx ry s1 s2 (by simpa using s3)
  · rw [Bool.and_eq_true] at h
    exact .inr h
theorem okE_split {d : D} (h : okE d = true) : plainD d = true ∧ SeqAt.shaped (toPy d) = true := by
  unfold okE at h
  rw [Bool.and_eq_true] at h
  exact h
theorem lf_eq : LiftR F K (REq K) eqD := by
  intro x y dx dy I H Q st rx ry h
  rcases can_scal rx ry h.1 rfl rfl with ⟨s, e⟩ | ⟨s, s'⟩
  · exact .inl ⟨s, by rw [e]; exact h.2 _ I H st.stp (.bl _)⟩
  · exact .inr ⟨_, _, rx.dp st.sub (okE_split s).1, ry.dp st.sub (okE_split s').1, (okE_split s).2, (okE_split s').2, h.2 _ I H st.stp (.bl _)⟩
theorem lf_ne : LiftR F K (RNe K) neD := by
  intro x y dx dy I H Q st rx ry h
  rcases can_scal rx ry h.1 rfl rfl with ⟨s, e⟩ | ⟨s, s'⟩
  · exact .inl ⟨s, by rw [e]; exact h.2 _ I H st.stp (.bl _)⟩
  · exact .inr ⟨_, _, rx.dp st.sub (okE_split s).1, ry.dp st.sub (okE_split s').1, (okE_split s).2, (okE_split s').2, h.2 _ I H st.stp (.bl _)⟩
end
section
variable {F : Fx} {X : Cx} {a b c : Expr} {ta tb tc : DT} {pos : Pos}
theorem de_add (ha : DE F X a ta) (hb : DE F X b tb) : DE F X (.BinOp a .Add b pos) (fun ρ Q => ta ρ fun x => tb ρ fun y => addD x y Q) := de_op mono_add or_add lf_add ha hb
theorem de_sub (ha : DE F X a ta) (hb : DE F X b tb) : DE F X (.BinOp a .Sub b pos) (fun ρ Q => ta ρ fun x => tb ρ fun y => subD x y Q) := de_op mono_sub op_sub lf_sub ha hb
theorem de_mul (ha : DE F X a ta) (hb : DE F X b tb) : DE F X (.BinOp a .Mult b pos) (fun ρ Q => ta ρ fun x => tb ρ fun y => mulD x y Q) := de_op mono_mul or_mul lf_mul ha hb
theorem de_fdiv (ha : DE F X a ta) (hb : DE F X b tb) : DE F X (.BinOp a .FloorDiv b pos) (fun ρ Q => ta ρ fun x => tb ρ fun y => fdivD x y Q) := de_op mono_fdiv op_fdivW lf_fdiv ha hb
theorem de_mod (ha : DE F X a ta) (hb : DE F X b tb) : DE F X (.BinOp a .Mod b pos) (fun ρ Q => ta ρ fun x => tb ρ fun y => modD x y Q) := de_op mono_mod op_mod lf_mod ha hb
/-- comparisons by their sign -/
inductive Cmp (X : Cx) : CmpOp → R2 → (D → D → (D → Prop) → Prop) → Prop
  | lt : Cmp X .Lt RLt ltD
  | le : Cmp X .LtE RLe leD
  | gt : Cmp X .Gt RGt gtD
  | ge : Cmp X .GtE RGe geD
  | eq (hu : X.A.units + 64 < cLine) : Cmp X .Eq (REq X.K) eqD
  | ne (hu : X.A.units + 64 < cLine) : Cmp X .NotEq (RNe X.K) neD
theorem Cmp.mono {op : CmpOp} {R : R2} {r} (h : Cmp X op R r) : Mono2 r := by
  cases h
  · exact mono_lt
  · exact mono_le
  · exact mono_gt
  · exact mono_ge
  · exact mono_eq
  · exact mono_ne
theorem Cmp.op {op : CmpOp} {R : R2} {r} (h : Cmp X op R r) : OpR X (compareOp op) R := by
  cases h with
  | lt => exact or_lt
  | le => exact or_le
  | gt => exact or_gt
  | ge => exact or_ge
  | eq hu => exact or_eq hu
  | ne hu => exact or_ne hu
theorem Cmp.lf {op : CmpOp} {R : R2} {r} (h : Cmp X op R r) : LiftR F X.K R r := by
  cases h
  · exact lf_lt
  · exact lf_le
  · exact lf_gt
  · exact lf_ge
  · exact lf_eq
  · exact lf_ne
theorem de_c {op : CmpOp} {R : R2} {r} (h : Cmp X op R r) (ha : DE F X a ta) (hb : DE F X b tb) (hm : behindInMarks op b = false := by first | exact nomark _ | rfl) : DE F X (.Compare a [op] [b] pos) (fun ρ Q => ta ρ fun x => tb ρ fun y => r x y Q) := de_cmp h.mono h.op h.lf ha hb hm
theorem dt_c {op : CmpOp} {R : R2} {r} (h : Cmp X op R r) (ha : DE F X a ta) (hb : DE F X b tb) (hm : behindInMarks op b = false := by first | exact nomark _ | rfl) : DTest F X (.Compare a [op] [b] pos) (fun ρ Q => ta ρ fun x => tb ρ fun y => r x y fun z => boolD z Q) := dt_cmp h.mono h.op h.lf ha hb hm
end
end Dk
namespace Dk
open PySem L2
open PyProof.Rows (envOfC)
structure Rm (k : Nat) (A : Around) : Prop where
  room : Room k A
  gd : A.guards = some []
theorem Rm.mono {j k : Nat} {A : Around} (r : Rm k A) (h : j ≤ k) : Rm j A := ⟨r.room.mono h, r.gd⟩
theorem Rm.deeper {k : Nat} {A : Around} (r : Rm (k + 1) A) (env : Env) : Rm k (A.deeper env) := ⟨r.room.deeper env, r.gd⟩
theorem Rm.units {k : Nat} {A : Around} (r : Rm k A) : A.units + 64 < cLine := r.room.units
section
variable {P : Program} {w : World} {K : PySem.W.Frag} {mg : Str → Option Value} {base : Heap} {CX : CXT} {k j : Nat} {f : Addr} {fd : FuncData} {N ps : List Str} {sp sp' : Sp}
structure GnOk (P : Program) (w : World) (K : PySem.W.Frag) (mg : Str → Option Value) (base : Heap) (CX : CXT) (k : Nat) (f : Addr) (fd : FuncData) (ps : List Str) (sp : Sp) : Prop where
  lens : ∀ vs H Q E, sp vs H Q E → vs.length = ps.length
  go : ∀ (A : Around) (below : List Env) (s : Shared) (H : Hp) (given : Args) (us : List Value) (vs : List V) (Q : VK) (E : XK), Rm k A → Env0 P w K mg base A below s H → BindsTo s fd given (ps.zip us) → Vals vs us → sp vs H Q E → codeAny (model P w) A (.call (.ref f) given) (CR CX below P w H s Q E) s
theorem GnOk.mono (F : GnOk P w K mg base CX j f fd ps sp) (h : j ≤ k) : GnOk P w K mg base CX k f fd ps sp := ⟨F.lens, fun A o s H g us vs Q E hr => F.go A o s H g us vs Q E (hr.mono h)⟩
theorem GnOk.weak (F : GnOk P w K mg base CX k f fd ps sp) (h : ∀ vs H Q E, sp' vs H Q E → sp vs H Q E) : GnOk P w K mg base CX k f fd ps sp' :=
  ⟨fun vs H Q E q => F.lens vs H Q E (h _ _ _ _ q), fun A o s H g us vs Q E hr he hb hv q => F.go A o s H g us vs Q E hr he hb hv (h _ _ _ _ q)⟩
theorem _root_.L2.FnOk.gn (F : FnOk P w K mg base CX k f fd ps sp) : GnOk P w K mg base CX k f fd ps sp := ⟨F.len, fun A o s H g us vs Q E hr => F.run A o s H g us vs Q E hr.room⟩
/-- a def by its body -/
theorem gn_of {name qual : Str} {params : Arguments} {body : List Stmt} {scope : Scope} {dV kV doc pm cdv ct oc : Value} {an od : Option Addr} {osl : Array (Option Value)}
    (hlk : K.lookup f = some ⟨oc, od, .func (PySem.W.fnOf name qual params body scope dV kV doc pm an cdv ct), osl⟩) (hcode : PySem.W.codeIn K cdv qual = true) (Sc : FnScope N ps scope) (hlen : ∀ vs H Q E, sp vs H Q E → vs.length = ps.length)
    (hb : ∀ (A : Around) (below : List Env) (s : Shared) (H : Hp) (vs : List V) (Q : VK) (E : XK), Rm k (A.deeper (envOfC qual scope s.heap.objs.size f cdv)) → sp vs H Q E →
      ∃ t, PSs (cxOf CX P w K mg base N qual scope f cdv A below s H E) body t ∧ t { nx := fun _ H' => Q .non H', rt := Q } (L2.start N vs) H) :
    GnOk P w K mg base CX (k + 1) f (PySem.W.fnOf name qual params body scope dV kV doc pm an cdv ct) ps sp := by
  refine ⟨hlen, fun A below s H given us vs Q E hr e0 hbnd rv hs => ?_⟩
  have hvs := hlen _ _ _ _ hs
  have hK : K.In s.heap := e0.mod.kin.keeps fun b o e => (e0.bs b o e).1
  have hLim : s.heap.NoLimit := e0.mod.nolimit.keeps fun b o e => (e0.bs b o e).1
  have kinds : ∀ y ∈ ps.zip us, scope.names.lookup y.1 = some .local ∨ (scope.names.lookup y.1 = some .cell ∧ ((cellsFrom (s.heap.objs.size + 1) scope.names []).lookup y.1).isSome = true) := by
    rintro ⟨n, v⟩ hy
    rcases Sc.par n (List.of_mem_zip hy).1 with q | q
    · left; exact q
    · right; exact ⟨q, PySem.W.cellsFrom_some _ _ _ (.inl q)⟩
  refine codeAny_call_function hr.room.depth (hK _ _ hlk) rfl Sc.co Sc.gen rfl (PySem.W.codeRec_of hK hcode) (hbnd _ _ _ _ (wpAny_newFunctionEnv_cells Sc.kind kinds fun env he s1 x => ?_))
  subst he
  refine ⟨hLim.keeps x.toInCall.keep, codeAny_func ?_⟩
  obtain ⟨t, h1, h2⟩ := hb A below s H vs Q E (hr.deeper _) hs
  have J : Inv (cxOf CX P w K mg base N qual scope f cdv A below s H E) [] (L2.start N vs) H s1 := inv_start Sc hr.room.hd e0 hvs rv x
  have done : ∀ {σ' : St} {H' : Hp} {v : V} {u : Value} {s' : Shared}, Inv (cxOf CX P w K mg base N qual scope f cdv A below s H E) [] σ' H' s' → RelV v u → Q v H' → CE below P w H s Q u s' := fun {σ' H' v u s'} J rv q => ⟨v, H', J.os, J.bare, J.base, J.hok, rv, q⟩
  refine wpAny_mono (h1.run [] s1 (L2.start N vs) H _ J h2) (fun fl s' h => ?_) fun e s' h => h
  cases fl with
  | next => obtain ⟨σ', H', J', q⟩ := h; exact done (v := V.non) (u := Value.none) J' rfl q
  | ret u => obtain ⟨v, σ', H', J', rv', q⟩ := h; exact done J' rv' q
  | brk => obtain ⟨_, _, _, q⟩ := h; exact q.elim
  | cont => obtain ⟨_, _, _, q⟩ := h; exact q.elim
end
section
variable {X : Cx} {CX : CXT} {k n : Nat} {f : Addr} {fd : FuncData} {ps ks : List Str} {sp : Sp} {E : XK} {ds : List Value} {dvs : List V} {g : List Value → List Value → List Value} {gV : List V → List V → List V}
theorem gn_go {pins : List (Addr × Obj)} {σ : St} {H : Hp} {s : Shared} {Q : VK} {us as : List Value} {kw : List (Str × Value)} {vs : List V} (F : GnOk X.prog X.w X.K X.mg X.base CX k f fd ps sp) (hr : Rm k X.A) (hx : Passes CX X E) (J : Inv X pins σ H s)
    (hb : BindsTo s fd ⟨as, kw⟩ (ps.zip us)) (r : Vals vs us) (h : sp vs H Q E) : wpAny (model X.prog X.w) X.A (call (.ref f) as kw) (EP X pins σ Q) X.xe s := by
  refine wpAny_call (codeAny_mono (F.go X.A X.stack s H _ us vs Q E hr J.env0 hb r h) fun r s' q => ?_)
  cases r with
  | error e => exact hx pins σ H s e s' J q
  | ok fl => cases fl with
    | ret u => exact J.after q
    | next => exact q.elim
    | brk => exact q.elim
    | cont => exact q.elim
theorem gn_pos {pins : List (Addr × Obj)} {σ : St} {H : Hp} {s : Shared} {Q : VK} {us : List Value} {vs : List V} (F : GnOk X.prog X.w X.K X.mg X.base CX k f fd ps sp) (hr : Rm k X.A) (hb : Binds X.K fd ps ds) (hd : Vals dvs ds) (hx : Passes CX X E)
    (J : Inv X pins σ H s) (r : Vals vs us) (h : sp (vs ++ dvs) H Q E) : wpAny (model X.prog X.w) X.A (call (.ref f) us) (EP X pins σ Q) X.xe s := by
  have r2 : Vals (vs ++ dvs) (us ++ ds) := r.append hd
  exact gn_go F hr hx J (hb s us J.kIn (r2.length.symm.trans (F.lens _ _ _ _ h))) r2 h
variable {x : Str} {p pos : Pos} {e : Expr} {es : List Expr} {kws : List Keyword} {t tk : TA}
theorem gn_call (F : GnOk X.prog X.w X.K X.mg X.base CX k f fd ps sp) (hr : Rm k X.A) (hg : Gl X x) (hm : X.mg x = some (.ref f)) (hkp : PySem.W.keepIn X.K (.ref f) = true) (hb : Binds X.K fd ps ds) (hd : Vals dvs ds) (hx : Passes CX X E) (ha : PA X (e :: es) t)
    (hdb : (x == ("__debug__" : Str)) = false) (he : starEach (e :: es) X.env = (false, eval e X.env) :: starEach es X.env) (hpl : (backTo pos (starEach es X.env)).any (·.1) = false) : PE X (.Call (.Name x p) (e :: es) [] pos) (tCall sp dvs E t) :=
  ⟨fun pins s σ H Q J h => wpAny_Call_Name_kw (ld_glob J hg hm (PySem.W.callWith_K (h₀ := X.base) J.ok.mod.kin hkp (thn (ha.run pos pins s σ H _ J h) fun us s1 ⟨vs, H1, J1, r, q⟩ => ⟨J1.kIn, gn_pos F hr hb hd hx J1 r q⟩) he hpl) hdb)⟩
end
end Dk
namespace Dk
open PySem L2
open PyProof.Rows (envOfC)
/-- an exception: its class, its fields -/
structure Ex where
  cls : Value
  flds : List (Str × D)
def ExRep (K : PySem.W.Frag) (I H : Hp) (cls : Value) (d : Option Addr) (x : Ex) : Prop :=
  cls = x.cls ∧ ((x.flds = [] ∧ d = none) ∨ ∃ dd fs, d = some dd ∧ I dd = some (.xd fs) ∧ fs.map (·.1) = x.flds.map (·.1) ∧ Reps K I (fs.map (·.2)) (x.flds.map (·.2)))
def finX (W : Wd) (K : PySem.W.Frag) (I H : Hp) (E : XK) : Ex → Prop := fun x => ∀ cls d I' H', Stp W I H I' H' → ExRep K I' H' cls d x → E cls d H'
structure DSp where
  n : Nat
  f : List D → (D → Prop) → (Ex → Prop) → Prop
  len : ∀ ds Q E, f ds Q E → ds.length = n
  mono : ∀ ds (Q Q' : D → Prop) (E E' : Ex → Prop), (∀ d, Q d → Q' d) → (∀ x, E x → E' x) → f ds Q E → f ds Q' E'
def spD (W : Wd) (K : PySem.W.Frag) (S : DSp) : Sp := fun vs H Q E => ∃ I ds, StI W I H ∧ Reps K I vs ds ∧ S.f ds (fin ⟨W, H, I⟩ K I H Q) (finX W K I H E)
theorem spD_len {W : Wd} {K : PySem.W.Frag} {S : DSp} : ∀ vs H Q E, spD W K S vs H Q E → vs.length = S.n := fun vs H Q E ⟨I, ds, _, r, h⟩ => r.length.trans (S.len _ _ _ h)
section
variable {F : Fx} {X : Cx} {K : PySem.W.Frag} {I H : Hp} {ρ : DEnv} {σ : St} {CX : CXT} {k : Nat} {f C : Addr} {fd : FuncData} {ps : List Str} {S : DSp} {E : XK} {x m : Str} {p pos apos : Pos} {e o : Expr} {es : List Expr} {ta : DT} {t : DAT}
def Lets (F : Fx) (K : PySem.W.Frag) (Ed : Ex → Prop) (E : XK) : Prop := ∀ I H, Stp F.W F.I0 F.B I H → ∀ x, Ed x → finX F.W K I H E x
theorem lets0 : Lets F K (fun _ => False) E := fun _ _ _ _ h => h.elim
theorem call_run {Ed : Ex → Prop} (le : Lets F K Ed E) (mono : ∀ ρ (Q Q' : List D → Prop), (∀ d, Q d → Q' d) → t ρ Q → t ρ Q') {Q : VK} (h : rdE F K (fun ρ Q => t ρ fun ds => S.f ds Q Ed) σ H Q) : rdA F K t σ H fun vs H1 => spD F.W K S vs H1 Q E := by
  obtain ⟨I, ρ, A, h⟩ := h
  refine rdA_next mono A h fun ds vs I' H' p s rs => ?_
  refine ⟨I', ds, s.st, rs, S.mono _ _ _ _ _ (fun d q v I2 H2 s2 rv => q v I2 H2 (s.trans s2) rv) (le I' H' (A.stp.trans s)) p⟩
theorem de_call {Ed : Ex → Prop} (Fn : GnOk X.prog X.w X.K X.mg X.base CX k f fd ps (spD F.W X.K S)) (hr : Rm k X.A) (hm : X.mg x = some (.ref f)) (hk : PySem.W.keepIn X.K (.ref f) = true) (hb : Binds X.K fd ps []) (hx : Passes CX X E) (le : Lets F X.K Ed E) (ha : DA F X (e :: es) t)
    (hg : Gl X x := by rfl) (hdb : (x == ("__debug__" : Str)) = false := by decide) (he : starEach (e :: es) X.env = (false, eval e X.env) :: starEach es X.env := by rfl) (hpl : (backTo pos (starEach es X.env)).any (·.1) = false := by rfl) :
    DE F X (.Call (.Name x p) (e :: es) [] pos) (fun ρ Q => t ρ fun ds => S.f ds Q Ed) := by
  refine ⟨fun ρ Q Q' k h => ha.mono _ _ _ (fun d h => S.mono _ _ _ _ _ k (fun _ h => h) h) h, (gn_call Fn hr hg hm hk hb .nil hx ha.run hdb he hpl).imp fun σ H Q h => ?_⟩
  have h := call_run le ha.mono h
  show rdA F X.K t σ H fun vs H1 => spD F.W X.K S (vs ++ []) H1 Q E
  simpa using h
/-- a built-in function, by its rule over data -/
def LiftC (F : Fx) (K : PySem.W.Frag) (R : List V → Hp → VK → Prop) (r : List D → (D → Prop) → Prop) : Prop :=
  ∀ (vs : List V) (ds : List D) (I H : Hp) (Q : VK), StI F.W I H → Reps K I vs ds → r ds (fin F K I H Q) → R vs H Q
variable {R : List V → Hp → VK → Prop} {r : List D → (D → Prop) → Prop} {id T : String}
theorem blt_run (mr : MonoN r) (l : LiftC F K R r) (mono : ∀ ρ (Q Q' : List D → Prop), (∀ d, Q d → Q' d) → t ρ Q → t ρ Q') {Q : VK} (h : rdE F K (fun ρ Q => t ρ fun ds => r ds Q) σ H Q) : rdA F K t σ H fun vs H1 => R vs H1 Q := by
  obtain ⟨I, ρ, A, h⟩ := h
  exact rdA_next mono A h fun ds vs I' H' p s rs => l vs ds I' H' Q s.st rs (mr _ _ _ (fun d q => q.of s) p)
theorem de_callB (mr : MonoN r) (l : LiftC F X.K R r) (hc : CallR X (.builtin id) R) (hm : X.mg x = none) (hv : bootBuiltins x = some (.builtin id)) (ha : DA F X (e :: es) t) (hg : Gl X x := by rfl) (hn : x ≠ "__name__" := by decide) (hdb : (x == ("__debug__" : Str)) = false := by decide)
    (he : starEach (e :: es) X.env = (false, eval e X.env) :: starEach es X.env := by rfl) (hpl : (backTo pos (starEach es X.env)).any (·.1) = false := by rfl) : DE F X (.Call (.Name x p) (e :: es) [] pos) (fun ρ Q => t ρ fun ds => r ds Q) :=
  ⟨fun ρ Q Q' k h => ha.mono _ _ _ (fun d h => mr _ _ _ k h) h, (pe_callB hc hg hm hv ha.run hn hdb he hpl).imp fun σ H Q h => blt_run mr l ha.mono h⟩
theorem de_callT (mr : MonoN r) (l : LiftC F X.K R r) (hc : CallR X (.type T) R) (hm : X.mg x = none) (hv : bootBuiltins x = some (.type T)) (ha : DA F X (e :: es) t) (hg : Gl X x := by rfl) (hn : x ≠ "__name__" := by decide) (hdb : (x == ("__debug__" : Str)) = false := by decide)
    (he : starEach (e :: es) X.env = (false, eval e X.env) :: starEach es X.env := by rfl) (hpl : (backTo pos (starEach es X.env)).any (·.1) = false := by rfl) : DE F X (.Call (.Name x p) (e :: es) [] pos) (fun ρ Q => t ρ fun ds => r ds Q) :=
  ⟨fun ρ Q Q' k h => ha.mono _ _ _ (fun d h => mr _ _ _ k h) h, (pe_callTy hc hg hm hv ha.run hn hdb he hpl).imp fun σ H Q h => blt_run mr l ha.mono h⟩
end
/-- other ways back: a list of our own; a thing, and what is held by then -/
inductive Ret where
  | own (ds : List D)
  | st (d : D) (ρ : DEnv)
structure DEnds where
  nx : DEnv → Prop
  rt : D → Prop
  bk : DEnv → Prop
  ct : DEnv → Prop
  ro : Ret → Prop
structure DEnds.le (a b : DEnds) : Prop where
  nx : ∀ ρ, a.nx ρ → b.nx ρ
  rt : ∀ d, a.rt d → b.rt d
  bk : ∀ ρ, a.bk ρ → b.bk ρ
  ct : ∀ ρ, a.ct ρ → b.ct ρ
  ro : ∀ ds, a.ro ds → b.ro ds
abbrev DTS := DEnds → DEnv → Prop
def ends (F : Fx) (K : PySem.W.Frag) (I0 : Hp) (Z : Ends) : DEnds where
  nx := fun ρ => ∀ I σ H, Same I0 I → At F K I ρ σ H → Z.nx σ H
  rt := fun d => ∀ v I H, Stp F.W F.I0 F.B I H → Rep K I v d → Z.rt v H
  bk := fun ρ => ∀ I σ H, Same I0 I → At F K I ρ σ H → Z.bk σ H
  ct := fun ρ => ∀ I σ H, Same I0 I → At F K I ρ σ H → Z.ct σ H
  ro := fun r => match r with
    | .own ds => ∀ p vs I H, Stp F.W F.I0 F.B I H → H p = none → Reps K I vs ds → Z.rt (.ref p) (upd H p (.lst vs))
    | .st d ρ => ∀ v I σ H, At F K I ρ σ H → Rep K I v d → Z.rt v H
def rdS (F : Fx) (K : PySem.W.Frag) (t : DTS) : TS := fun Z σ H => ∃ I ρ, At F K I ρ σ H ∧ t (ends F K I Z) ρ
structure DSt (F : Fx) (X : Cx) (st : Stmt) (t : DTS) : Prop where
  mono : ∀ Z Z' ρ, DEnds.le Z Z' → t Z ρ → t Z' ρ
  run : PS X st (rdS F X.K t)
structure DSts (F : Fx) (X : Cx) (st : List Stmt) (t : DTS) : Prop where
  mono : ∀ Z Z' ρ, DEnds.le Z Z' → t Z ρ → t Z' ρ
  run : PSs X st (rdS F X.K t)
theorem DEnds.le.rfl' {Z : DEnds} : DEnds.le Z Z := ⟨fun _ h => h, fun _ h => h, fun _ h => h, fun _ h => h, fun _ h => h⟩
theorem ends.le {F : Fx} {K : PySem.W.Frag} {I I' : Hp} {Z : Ends} (s : Same I I') : DEnds.le (ends F K I Z) (ends F K I' Z) :=
  ⟨fun _ h J σ H s' => h J σ H (Same.trans s s'), fun _ h => h, fun _ h J σ H s' => h J σ H (Same.trans s s'), fun _ h J σ H s' => h J σ H (Same.trans s s'), fun _ h => h⟩
theorem DEnds.le.withNx {Z Z' : DEnds} (l : DEnds.le Z Z') {a b : DEnv → Prop} (h : ∀ ρ, a ρ → b ρ) : DEnds.le { Z with nx := a } { Z' with nx := b } := ⟨h, l.rt, l.bk, l.ct, l.ro⟩
section
variable {F : Fx} {X : Cx} {K : PySem.W.Frag} {I H I' H' : Hp} {ρ : DEnv} {σ : St} {st : Stmt} {sts : List Stmt} {e c : Expr} {te : DT} {tc : DB} {t u : DTS} {pos : Pos}
theorem dss_nil : DSts F X [] (fun Z ρ => Z.nx ρ) := ⟨fun Z Z' ρ l h => l.nx _ h, pss_nil.imp fun Z σ H ⟨I, ρ, A, h⟩ => h I σ H (Same.refl I) A⟩
theorem dss_cons (h : DSt F X st t) (h' : DSts F X sts u) : DSts F X (st :: sts) (fun Z ρ => t { Z with nx := u Z } ρ) := by
  refine ⟨fun Z Z' ρ l q => h.mono _ _ _ (l.withNx fun ρ => h'.mono _ _ _ l) q, (pss_cons h.run h'.run).imp fun Z σ H ⟨I, ρ, A, q⟩ => ⟨I, ρ, A, h.mono { ends F X.K I Z with nx := u (ends F X.K I Z) } _ _ ⟨fun ρ q I σ H s A => ⟨I, ρ, A, h'.mono _ _ _ (ends.le s) q⟩, fun d q => q, fun ρ q => q, fun ρ q => q, fun d q => q⟩ q⟩⟩
theorem dss_one (h : DSt F X st t) : DSts F X [st] t := ⟨h.mono, pss_one h.run⟩
theorem ds_ret (h : DE F X e te) : DSt F X (.Return (some e) pos) (fun Z ρ => te ρ Z.rt) :=
  ⟨fun Z Z' ρ l q => h.mono _ _ _ l.rt q, (ps_ret h.run).imp fun Z σ H ⟨I, ρ, A, q⟩ => rdE_next h.mono A q fun d v I' H' p s rv => p v I' H' (A.stp.trans s) rv⟩
theorem ds_if {a b : List Stmt} (hc : DTest F X c tc) (ha : DSts F X a t) (hb : DSts F X b u) : DSt F X (.If c a b pos) (fun Z ρ => tc ρ fun k => if k = true then t Z ρ else u Z ρ) := by
  refine ⟨fun Z Z' ρ l q => hc.mono _ _ _ (fun k q => ?_) q, (ps_if hc.run ha.run hb.run).imp fun Z σ H ⟨I, ρ, A, q⟩ => rdT_next hc.mono A q fun k I' H' p s => ?_⟩
  · cases k
    · exact hb.mono _ _ _ l q
    · exact ha.mono _ _ _ l q
  · cases k
    · exact ⟨I', ρ, A.step s, hb.mono _ _ _ (ends.le s.i) p⟩
    · exact ⟨I', ρ, A.step s, ha.mono _ _ _ (ends.le s.i) p⟩
end
abbrev DGT := D → DEnv → (DEnv → Prop) → Prop
/-- σ' is σ but for the slots of js -/
def Only (js : List Nat) (σ σ' : St) : Prop := σ'.length = σ.length ∧ ∀ i, i ∉ js → σ'[i]? = σ[i]?
def rdG (F : Fx) (K : PySem.W.Frag) (js : List Nat) (g : DGT) : TG := fun v σ H Q => ∃ I ρ d, At F K I ρ σ H ∧ Rep K I v d ∧ g d ρ fun ρ' => ∀ I' σ' H', At F K I' ρ' σ' H' → Stp F.W I H I' H' → Only js σ σ' → Q σ' H'
/-- what is own in ρ' was so in ρ, off the slots of js -/
def Kept (js : List Nat) (ρ ρ' : DEnv) : Prop := ∀ (j : Nat) (e : Ent), ρ'[j]? = some (some e) → e.isOwn → j ∉ js ∧ ρ[j]? = some (some e)
structure DG (F : Fx) (X : Cx) (e : Expr) (js : List Nat) (g : DGT) : Prop where
  mono : ∀ d ρ (Q Q' : DEnv → Prop), (∀ ρ, Q ρ → Q' ρ) → g d ρ Q → g d ρ Q'
  keeps : ∀ d ρ (Q : DEnv → Prop), g d ρ Q → g d ρ fun ρ' => Q ρ' ∧ Kept js ρ ρ'
  run : PG X e (rdG F X.K js g)
abbrev DGTs := List D → DEnv → (DEnv → Prop) → Prop
def rdGs (F : Fx) (K : PySem.W.Frag) (js : List Nat) (g : DGTs) : TGs := fun v σ H Q => ∃ I ρ d, At F K I ρ σ H ∧ Reps K I v d ∧ g d ρ fun ρ' => ∀ I' σ' H', At F K I' ρ' σ' H' → Stp F.W I H I' H' → Only js σ σ' → Q σ' H'
structure DGs (F : Fx) (X : Cx) (e : List Expr) (js : List Nat) (g : DGTs) : Prop where
  mono : ∀ d ρ (Q Q' : DEnv → Prop), (∀ ρ, Q ρ → Q' ρ) → g d ρ Q → g d ρ Q'
  keeps : ∀ d ρ (Q : DEnv → Prop), g d ρ Q → g d ρ fun ρ' => Q ρ' ∧ Kept js ρ ρ'
  run : PGs X e (rdGs F X.K js g)
section
variable {F : Fx} {X : Cx} {K : PySem.W.Frag} {I H I' H' : Hp} {ρ : DEnv} {σ : St} {st : Stmt} {e tg : Expr} {es : List Expr} {te : DT} {g : DGT} {gs : DGTs} {pos : Pos}
theorem _root_.L2.PG.imp {e : Expr} {t u : TG} (h : PG X e t) (i : ∀ v σ H Q, u v σ H Q → t v σ H Q) : PG X e u := ⟨fun pins s σ H v w Q J r q => h.run pins s σ H v w Q J r (i v σ H Q q)⟩
theorem _root_.L2.PGs.imp {e : List Expr} {t u : TGs} (h : PGs X e t) (i : ∀ v σ H Q, u v σ H Q → t v σ H Q) : PGs X e u := ⟨fun pins s σ H v w Q J r q => h.run pins s σ H v w Q J r (i v σ H Q q)⟩
theorem set_at {ρ : DEnv} {i j : Nat} {x : Option Ent} {e : Ent} (h : (ρ.set i x)[j]? = some (some e)) : (i = j ∧ x = some e) ∨ (i ≠ j ∧ ρ[j]? = some (some e)) := by
  by_cases hij : i = j
  · subst hij
    left
    rw [List.getElem?_set] at h
    simp at h
    exact ⟨rfl, h.2⟩
  · rw [List.getElem?_set_ne hij] at h
    exact .inr ⟨hij, h⟩
theorem At.set (a : At F K I ρ σ H) {i : Nat} {v : V} {d : D} (r : Rep K I v d) : At F K I (ρ.set i (some (.dat d))) (σ.set i (some v)) H := by
  refine ⟨a.stp, by simp [a.len], fun j e h => ?_, fun j l e e' w hjl h1 h2 o1 o2 hw => ?_⟩
  · rcases set_at h with ⟨rfl, q⟩ | ⟨hij, q⟩
    · cases q
      have hi : i < ρ.length := by
        have := (List.getElem?_eq_some_iff.mp h).1
        simpa using this
      exact ⟨v, by rw [List.getElem?_set]; simp [← a.len, hi], .inl ⟨_, rfl, r⟩⟩
    · obtain ⟨w, h1, h2⟩ := a.env j e q
      exact ⟨w, by rw [List.getElem?_set_ne hij]; exact h1, h2⟩
  · rcases set_at h1 with ⟨rfl, q⟩ | ⟨hij, q⟩
    · cases q; exact o1.elim
    · rcases set_at h2 with ⟨rfl, q'⟩ | ⟨hil, q'⟩
      · cases q'; exact o2.elim
      · rw [List.getElem?_set_ne hij] at hw
        rw [List.getElem?_set_ne hil]
        exact a.dis j l e e' w hjl q q' o1 o2 hw
theorem dg_name {x : Str} (i : Nat) (hN : X.N.Nodup) (hi : X.N[i]? = some x := by rfl) (hx : Loc X.env.scope x := by first | exact Or.inl rfl | exact Or.inr rfl) (hf : X.fn x = true ∨ X.env.scope.names.lookup x = some .local := by first | exact .inl rfl | exact .inr rfl | assumption) : DG F X (.Name x pos) [i] (fun d ρ Q => Q (ρ.set i (some (.dat d)))) :=
  ⟨fun d ρ Q Q' k q => k _ q, fun d ρ Q q => ⟨q, fun j e hj ho => by
    rcases set_at hj with ⟨_, z⟩ | ⟨hij, z⟩
    · cases z; exact ho.elim
    · exact ⟨by simp [Ne.symm hij], z⟩⟩, (pg_name hN hi hx hf).imp fun v σ H Q ⟨I, ρ, d, A, r, q⟩ => q I _ H (A.set r) A.st.stp ⟨by simp, fun j hj => List.getElem?_set_ne (fun e => hj (by simp [e]))⟩⟩
theorem dgs_nil : DGs F X [] [] (fun ds ρ Q => ds = [] ∧ Q ρ) := by
  refine ⟨fun d ρ Q Q' k q => ⟨q.1, k _ q.2⟩, fun d ρ Q q => ⟨q.1, q.2, fun j e hj ho => ⟨by simp, hj⟩⟩, pgs_nil.imp fun v σ H Q ⟨I, ρ, d, A, r, e, q⟩ => ?_⟩
  subst e
  cases r
  exact ⟨rfl, q I _ H A A.st.stp ⟨rfl, fun _ _ => rfl⟩⟩
theorem dgs_cons {js ks : List Nat} (h : DG F X e js g) (h' : DGs F X es ks gs) (hs : (assignEach (e :: es) X.env).map (·.2) = assign e X.env :: (assignEach es X.env).map (·.2) := by rfl) : DGs F X (e :: es) (js ++ ks) (fun ds ρ Q => ∃ d r, ds = d :: r ∧ g d ρ fun ρ' => gs r ρ' Q) := by
  refine ⟨fun d ρ Q Q' k ⟨x, r, e, q⟩ => ⟨x, r, e, h.mono _ _ _ _ (fun ρ q => h'.mono _ _ _ _ k q) q⟩, fun d ρ Q ⟨x, r, e, q⟩ => ⟨x, r, e, h.mono _ _ _ _ (fun ρ1 ⟨q, k1⟩ => h'.mono _ _ _ _ (fun ρ2 ⟨q, k2⟩ => ⟨q, fun j e hj ho => have ⟨a, b⟩ := k2 j e hj ho; have ⟨c, d⟩ := k1 j e b ho; ⟨fun z => (List.mem_append.mp z).elim c a, d⟩⟩) (h'.keeps _ _ _ q)) (h.keeps _ _ _ q)⟩, (pgs_cons h.run h'.run hs).imp fun v σ H Q ⟨I, ρ, d, A, rv, x, r, e, q⟩ => ?_⟩
  subst e
  cases rv with
  | cons r1 r2 =>
    refine ⟨_, _, rfl, I, ρ, x, A, r1, h.mono _ _ _ _ (fun ρ' q I' σ' H' A' s o => ?_) q⟩
    exact ⟨I', ρ', r, A', r2.mono s.i, h'.mono _ _ _ _ (fun ρ2 q I2 σ2 H2 A2 s2 o2 => q I2 σ2 H2 A2 (s.trans s2) ⟨o2.1.trans o.1, fun j hj => (o2.2 j fun z => hj (List.mem_append_right _ z)).trans (o.2 j fun z => hj (List.mem_append_left _ z))⟩) q⟩
theorem dg_tup {n k : Nat} {js : List Nat} (hc : X.calm = true) (h : DGs F X es js gs) (hn : (assignEach es X.env).length = n := by rfl) (hst : (assignEach es X.env).findIdx? (·.1) = none := by rfl) : DG F X (.Tuple es k pos) js (fun d ρ Q => ∃ ds, d = .tup ds ∧ ds.length = n ∧ gs ds ρ Q) := by
  refine ⟨fun d ρ Q Q' k ⟨ds, e, l, q⟩ => ⟨ds, e, l, h.mono _ _ _ _ k q⟩, fun d ρ Q ⟨ds, e, l, q⟩ => ⟨ds, e, l, h.keeps _ _ _ q⟩, (pg_tup hc h.run hn hst).imp fun v σ H Q ⟨I, ρ, d, A, r, ds, e, l, q⟩ => ?_⟩
  subst e
  cases r with
  | tup a rs => exact ⟨_, _, rfl, Same.seqT A.st.sub a, by rw [rs.length]; exact l, I, ρ, ds, A, rs, q⟩
/-- target = value -/
theorem ds_asg {js : List Nat} (he : DE F X e te) (hg : DG F X tg js g) (hs : swapsWithSole [tg] e pos.line X.env = pure false := by rfl) (hw : swappedStores [tg] e X.env = pure none := by rfl) (h1 : (assignEach [tg] X.env).map (·.2) = [assign tg X.env] := by rfl) : DSt F X (.Assign [tg] e pos) (fun Z ρ => te ρ fun d => g d ρ Z.nx) := by
  refine ⟨fun Z Z' ρ l q => he.mono _ _ _ (fun d q => hg.mono _ _ _ _ l.nx q) q, (ps_asg he.run hg.run hs hw h1).imp fun Z σ H ⟨I, ρ, A, q⟩ => rdE_next he.mono A q fun d v I' H' p s rv => ?_⟩
  exact ⟨I', ρ, d, A.step s, rv, hg.mono _ _ _ _ (fun ρ2 q I2 σ2 H2 A2 s2 _ => q I2 σ2 H2 (Same.trans s.i s2.i) A2) p⟩
theorem ds_set {x : Str} {pos' : Pos} (i : Nat) (he : DE F X e te) (hN : X.N.Nodup) (hi : X.N[i]? = some x := by rfl) (hx : Loc X.env.scope x := by first | exact Or.inl rfl | exact Or.inr rfl) (hs : swapsWith e (some (.Name x pos')) pos.line X.env = pure false := by rfl)
    (hf : X.fn x = true ∨ X.env.scope.names.lookup x = some .local := by first | exact .inl rfl | exact .inr rfl | assumption) : DSt F X (.Assign [.Name x pos'] e pos) (fun Z ρ => te ρ fun d => Z.nx (ρ.set i (some (.dat d)))) := by
  refine ⟨fun Z Z' ρ l q => he.mono _ _ _ (fun d q => l.nx _ q) q, (ps_set hN hi hx he.run hs hf).imp fun Z σ H ⟨I, ρ, A, q⟩ => rdE_next he.mono A q fun d v I' H' p s rv => ?_⟩
  exact p I' _ H' s.i ((A.step s).set rv)
/-- a, b = x, y -/
theorem ds_par {i j : Nat} {x y : Str} {a b : Expr} {ta : DAT} {px py pt : Pos} {kt k2 pt2} (hc : X.calm = true) (hN : X.N.Nodup) (hi : X.N[i]? = some x) (hj : X.N[j]? = some y) (hij : i ≠ j) (hkx : X.env.scope.names.lookup x = some .local) (hky : X.env.scope.names.lookup y = some .local)
    (ha : DA F X [a, b] ta) (hsw : swappedStores [.Tuple [.Name x px, .Name y py] kt pt] (.Tuple [a, b] k2 pt2) X.env = pure (some [x, y]) := by rfl) (hs : swapsWithSole [.Tuple [.Name x px, .Name y py] kt pt] (.Tuple [a, b] k2 pt2) pos.line X.env = pure false := by rfl) : DSt F X (.Assign [.Tuple [.Name x px, .Name y py] kt pt] (.Tuple [a, b] k2 pt2) pos) (fun Z ρ => ta ρ fun ds => ∃ d e, ds = [d, e] ∧ Z.nx ((ρ.set i (some (.dat d))).set j (some (.dat e)))) := by
  refine ⟨fun Z Z' ρ l q => ha.mono _ _ _ (fun d ⟨x, y, e, q⟩ => ⟨x, y, e, l.nx _ q⟩) q, (ps_par hc hN hi hj hij hkx hky ha.run hsw hs).imp fun Z σ H ⟨I, ρ, A, q⟩ => rdA_next ha.mono A q fun ds vs I' H' p s rs => ?_⟩
  obtain ⟨d, e, rfl, q⟩ := p
  cases rs with
  | cons r1 r2 =>
    cases r2 with
    | cons r2 r3 =>
      cases r3
      exact ⟨_, _, rfl, q I' _ H' s.i (((A.step s).set r1).set r2)⟩
end
def startD (N : List Str) (ds : List D) : DEnv := ds.map (fun d => some (Ent.dat d)) ++ List.replicate (N.length - ds.length) none
theorem at_start {W : Wd} {K : PySem.W.Frag} {I H : Hp} {N : List Str} {vs : List V} {ds : List D} (s : StI W I H) (r : Reps K I vs ds) : At ⟨W, H, I⟩ K I (startD N ds) (L2.start N vs) H := by
  refine ⟨s.stp, by simp [startD, L2.start, r.length], fun i e h => ?_, fun i j e e' v hij h1 h2 o1 => ?_⟩
  · unfold startD at h
    by_cases hi : i < ds.length
    · rw [List.getElem?_append_left (by simpa using hi), List.getElem?_map] at h
      cases q : ds[i]? with
      | none => rw [q] at h; cases h
      | some d =>
        rw [q] at h
        cases h
        obtain ⟨v, h1, h2⟩ := r.get q
        refine ⟨v, ?_, .inl ⟨_, rfl, h2⟩⟩
        unfold L2.start
        rw [List.getElem?_append_left (by simpa [r.length] using hi), List.getElem?_map, h1]
        rfl
    · rw [List.getElem?_append_right (by simpa using hi), List.getElem?_replicate] at h
      split at h <;> cases h
  · unfold startD at h1
    by_cases hi : i < ds.length
    · rw [List.getElem?_append_left (by simpa using hi), List.getElem?_map] at h1
      cases q : ds[i]? with
      | none => rw [q] at h1; cases h1
      | some d => rw [q] at h1; cases h1; exact o1.elim
    · rw [List.getElem?_append_right (by simpa using hi), List.getElem?_replicate] at h1
      split at h1 <;> cases h1
def defEnds (Q : D → Prop) : DEnds := ⟨fun _ => Q .non, Q, fun _ => False, fun _ => False, fun _ => False⟩
section
variable {P : Program} {w : World} {K : PySem.W.Frag} {mg : Str → Option Value} {base : Heap}
theorem body_run {F : Fx} {X : Cx} {t : DTS} {body : List Stmt} {N : List Str} {vs : List V} {ds : List D} {Q : VK} {H I : Hp} {W : Wd} (hF : F = ⟨W, H, I⟩) (h : DSts F X body t) (s : StI W I H) (r : Reps X.K I vs ds) (q : t (defEnds (fin F X.K I H Q)) (startD N ds)) :
    rdS F X.K t { nx := fun _ H' => Q .non H', rt := Q } (L2.start N vs) H := by
  subst hF
  exact ⟨I, _, at_start s r, h.mono (defEnds (fin ⟨W, H, I⟩ X.K I H Q)) _ _ ⟨fun ρ q I' σ' H' s A => q _ I' H' A.stp .non, fun d q v I' H' s r => q v I' H' s r, fun _ q => q.elim, fun _ q => q.elim, fun _ q => q.elim⟩ q⟩
/-- a def of the text whose promise may lean on the guards -/
theorem _root_.L2.Fun.gn {CX : CXT} {x qual : Str} {st : Stmt} {f : Addr} {fd : FuncData} {N ps : List Str} {k : Nat} {sp : Sp} (Fn : Fun K x qual st f fd) (Sc : FnScope N ps (defScope st)) (hlen : ∀ vs H Q E, sp vs H Q E → vs.length = ps.length)
    (hb : ∀ (cdv : Value) (A : Around) (below : List Env) (s : Shared) (H : Hp) (vs : List V) (Q : VK) (E : XK), Rm k (A.deeper (envOfC qual (defScope st) s.heap.objs.size f cdv)) → sp vs H Q E →
      ∃ t, PSs (cxOf CX P w K mg base N qual (defScope st) f cdv A below s H E) (defBody st) t ∧ t { nx := fun _ H' => Q .non H', rt := Q } (L2.start N vs) H) : GnOk P w K mg base CX (k + 1) f fd ps sp := by
  obtain ⟨oc, od, kV, doc, pm, an, cdv, ct, osl, rfl, lk, hcd⟩ := Fn.ex
  exact gn_of lk hcd Sc hlen (hb cdv)
/-- a def that lets no exception out -/
theorem _root_.L2.Fun.okD {W : Wd} {S : DSp} {x qual : Str} {st : Stmt} {f : Addr} {fd : FuncData} {N ps : List Str} {k : Nat} (Fn : Fun K x qual st f fd) (Sc : FnScope N ps (defScope st)) (hn : S.n = ps.length)
    (hbody : ∀ (cdv : Value) (A : Around) (outer : List Env) (s : Shared) (H I : Hp) (ds : List D) (Q : D → Prop) (Ed : Ex → Prop) (E : XK), Rm k (A.deeper (envOfC qual (defScope st) s.heap.objs.size f cdv)) → S.f ds Q Ed →
      ∃ t, DSts ⟨W, H, I⟩ (cxOf CX0 P w K mg base N qual (defScope st) f cdv A outer s H E).nox (defBody st) t ∧ t (defEnds Q) (startD N ds)) : GnOk P w K mg base CX0 (k + 1) f fd ps (spD W K S) := by
  refine Fn.gn Sc (fun vs H Q E h => (spD_len _ _ _ _ h).trans hn) fun cdv A outer s H vs Q E hr ⟨I, ds, si, r, h⟩ => ?_
  obtain ⟨t, h1, h2⟩ := hbody cdv A outer s H I ds _ _ E hr h
  exact ⟨_, h1.run.nox, body_run rfl h1 si r h2⟩
end
end Dk
namespace Dk
open PySem L2
open PyProof.Rows (envOfC)
open RZ (ItzT pi_zipA iZipA)
structure JRep (W : Wd) (K : PySem.W.Frag) (J : It) (I : Hp) (ds : List D) : Prop where
  go : ∀ (i : Nat) I2 H2, Same I I2 → StI W I2 H2 → i < ds.length → J.go i H2
  yld : ∀ (i : Nat) I2 H2 x H3, i < ds.length → Same I I2 → StI W I2 H2 → J.yld i H2 x H3 → ∃ d I3, ds[i]? = some d ∧ Stp W I2 H2 I3 H3 ∧ Rep K I3 x d
  stop : ∀ I2 H2, Same I I2 → StI W I2 H2 → J.stop ds.length H2
def finI (F : Fx) (K : PySem.W.Frag) (I H : Hp) (R : It → Hp → Prop) : List D → Prop := fun ds => ∀ J I' H', Stp F.W I H I' H' → JRep F.W K J I' ds → R J H'
def rdI (F : Fx) (K : PySem.W.Frag) (t : DAT) : TI := fun σ H R => ∃ I ρ, At F K I ρ σ H ∧ t ρ (finI F K I H R)
structure DI (F : Fx) (X : Cx) (tg e : Expr) (t : DAT) : Prop where
  mono : ∀ ρ (Q Q' : List D → Prop), (∀ d, Q d → Q' d) → t ρ Q → t ρ Q'
  run : PI X tg e (rdI F X.K t)
section
variable {F : Fx} {X : Cx} {K : PySem.W.Frag} {W : Wd} {I H : Hp} {ρ : DEnv} {σ : St} {tg e e2 : Expr} {te tb : DT} {ta : DAT} {p pos : Pos}
theorem _root_.L2.PI.imp {t u : TI} (h : PI X tg e t) (i : ∀ σ H R, u σ H R → t σ H R) : PI X tg e u := ⟨fun pins s σ H R J q => h.run pins s σ H R J (i σ H R q)⟩
theorem jr_list {a : Addr} {vs : List V} {ds : List D} (h : I a = some (.lst vs)) (r : Reps K I vs ds) : JRep W K (Itl K a) I ds where
  go := fun i I2 H2 s st hi => by
    have hv : i < vs.length := by rw [r.length]; exact hi
    exact ⟨vs, vs[i], .of (st.sub _ _ (s _ _ h)), by simp [hv]⟩
  yld := fun i I2 H2 x H3 hi s st ⟨e, y⟩ => by
    subst e
    obtain ⟨d, h1, h2⟩ := (r.mono s).getV (y vs (.of (st.sub _ _ (s _ _ h))))
    exact ⟨d, I2, h1, st.stp, h2⟩
  stop := fun I2 H2 s st => ⟨vs, .of (st.sub _ _ (s _ _ h)), by rw [r.length]; exact Nat.le_refl _⟩
theorem jr_tup {a : Addr} {vs : List V} {ds : List D} (h : SqT K I a vs) (r : Reps K I vs ds) : JRep W K (Itt K a) I ds where
  go := fun i I2 H2 s st hi => by
    have hv : i < vs.length := by rw [r.length]; exact hi
    exact ⟨vs, vs[i], Same.seqT (Same.trans s st.sub) h, by simp [hv]⟩
  yld := fun i I2 H2 x H3 hi s st ⟨e, y⟩ => by
    subst e
    obtain ⟨d, h1, h2⟩ := (r.mono s).getV (y vs (Same.seqT (Same.trans s st.sub) h))
    exact ⟨d, I2, h1, st.stp, h2⟩
  stop := fun I2 H2 s st => ⟨vs, Same.seqT (Same.trans s st.sub) h, by rw [r.length]; exact Nat.le_refl _⟩
def rngD (lo : Int) (n : Nat) : List D := (List.range n).map fun i => D.int (lo + (i : Nat))
theorem rngD_length (lo : Int) (n : Nat) : (rngD lo n).length = n := by simp [rngD]
theorem jr_range {lo : Int} {n : Nat} : JRep W K (Itr lo n) I (rngD lo n) where
  go := fun i I2 H2 s st hi => by rw [rngD_length] at hi; exact hi
  yld := fun i I2 H2 x H3 hi s st ⟨e, y⟩ => by
    subst e y
    refine ⟨.int (lo + i), I2, ?_, st.stp, .int _⟩
    rw [rngD_length] at hi
    unfold rngD
    rw [List.getElem?_map, List.getElem?_range hi]
    rfl
  stop := fun I2 H2 s st => by show n ≤ _; rw [rngD_length]; exact Nat.le_refl _
def sgnD (x : Str) : List D := x.cps.toList.map fun c => D.str ⟨#[c]⟩
theorem jr_str {x : Str} : JRep W K (Its x) I (sgnD x) where
  go := fun i I2 H2 s st hi => by show i < x.cps.size; simpa [sgnD] using hi
  yld := fun i I2 H2 v H3 hi s st ⟨e, c, hc, y⟩ => by
    subst e y
    refine ⟨.str ⟨#[c]⟩, I2, ?_, st.stp, .str _⟩
    unfold sgnD
    rw [List.getElem?_map, Array.getElem?_toList, hc]
    rfl
  stop := fun I2 H2 s st => by show x.cps.size ≤ _; simp [sgnD]
theorem jr_keys {a : Addr} {o : Obj} {ws : List (Key × V)} {kvs : List (Key × D)} (h : I a = some (.frz o (.dK ws))) (k : ws.map (·.1) = kvs.map (·.1)) : JRep W K (Itk a o ws) I (kvs.map fun kv => keyD kv.1) where
  go := fun i I2 H2 s st hi => ⟨st.sub _ _ (s _ _ h), by have := congrArg List.length k; simp at this hi; omega⟩
  yld := fun i I2 H2 x H3 hi s st ⟨e, key, v, hk, y⟩ => by
    subst e y
    have e2 : (kvs.map (·.1))[i]? = some key := by rw [← k, List.getElem?_map, hk]; rfl
    refine ⟨keyD key, I2, ?_, st.stp, ?_⟩
    · rw [List.getElem?_map] at e2 ⊢
      cases q : kvs[i]? with
      | none => rw [q] at e2; cases e2
      | some p => rw [q] at e2; cases e2; rfl
    · cases key with
      | inl n => exact .int n
      | inr n => exact .str n
  stop := fun I2 H2 s st => ⟨st.sub _ _ (s _ _ h), by have := congrArg List.length k; simp at this ⊢; omega⟩
/-- a list, a tuple, a text, whichever comes -/
def iVal (K : PySem.W.Frag) (te : TE) : TI := fun σ H R => te σ H fun x H1 => (∃ a xs, x = .ref a ∧ SqL K H1 a xs ∧ R (Itl K a) H1) ∨ (∃ a xs, x = .ref a ∧ SqT K H1 a xs ∧ R (Itt K a) H1) ∨ (∃ z, x = .str z ∧ R (Its z) H1) ∨ ∃ d o kvs, x = .ref d ∧ H1 d = some (.frz o (.dK kvs)) ∧ R (Itk d o kvs) H1
theorem pi_val {e : Expr} {t : TE} (h : PE X e t) : PI X tg e (iVal X.K t) := by
  refine ⟨fun pn s0 σ0 H0 R0 J0 q0 => thn (h.run pn s0 σ0 H0 _ J0 q0) fun u s1 hu => ?_⟩
  obtain ⟨x, H1, J1, ru, c⟩ := hu
  rcases c with ⟨a, xs, rfl, hx, q⟩ | ⟨a, xs, rfl, hx, q⟩ | ⟨z, rfl, q⟩ | ⟨d, o, kvs, rfl, hd, q⟩
  · cases ru
    obtain ⟨its, _, pl, _⟩ := J1.list hx
    exact PySem.wpAny_pyIter_list pl.isList (pi_one (tk := s1.toks) J1 _ (turn_list a _) ⟨_, Heap.get?_push_size _ rfl, rfl, rfl⟩ q)
  · cases ru
    obtain ⟨its, _, pl, _⟩ := J1.tuple hx
    exact PySem.wpAny_pyIter_tuple (show s1.heap.IsTuple a its.toArray from pl) (pi_one (tk := s1.toks) J1 _ (turn_tuple a _) ⟨_, Heap.get?_push_size _ rfl, rfl, rfl⟩ q)
  · obtain ⟨t, rfl⟩ := ru
    cases hz : z.cps.all (· < 128)
    · exact PySem.wpAny_pyIter_wide hz (pi_one (tk := s1.toks) J1 _ (turn_str _ z t _ (.inr rfl)) ⟨_, Heap.get?_push_size _ rfl, rfl, rfl⟩ q)
    · exact PySem.wpAny_pyIter_ascii hz (pi_one (tk := s1.toks) J1 _ (turn_str _ z t _ (.inl rfl)) ⟨_, Heap.get?_push_size _ rfl, rfl, rfl⟩ q)
  · cases ru
    obtain ⟨hs, hgd, hx, es, ep, vs, hdt, hsz, kv, hm⟩ := J1.frzK hd
    refine iter_keys hs hgd hx hdt (pi_one (tk := s1.toks) J1 _ (turn_keys _ hdt) ⟨_, Heap.get?_push_size _ rfl, rfl, ?_⟩ q)
    rw [hsz]
    rfl
/-- what a for may walk -/
def itemsD : D → (List D → Prop) → Prop
  | .lst ds, Q => Q ds
  | .tup ds, Q => Q ds
  | .str x, Q => Q (sgnD x)
  | .dfz kvs, Q => Q (kvs.map fun kv => keyD kv.1)
  | _, _ => False
theorem itemsD.mono {d : D} {Q Q' : List D → Prop} (k : ∀ ds, Q ds → Q' ds) (h : itemsD d Q) : itemsD d Q' := by
  cases d <;> first | exact h.elim | exact k _ h
theorem di_seq (he : DE F X e te) : DI F X tg e (fun ρ Q => te ρ fun d => itemsD d Q) := by
  refine ⟨fun ρ Q Q' k q => he.mono _ _ _ (fun d => itemsD.mono k) q, (pi_val he.run).imp fun σ H R ⟨I, ρ, A, q⟩ => rdE_next he.mono A q fun d v I' H' p s rv => ?_⟩
  cases rv with
  | tup a r => exact .inr (.inl ⟨_, _, rfl, Same.seqT s.st.sub a, p _ _ _ s (jr_tup a r)⟩)
  | lst a r => exact .inl ⟨_, _, rfl, .of (s.st.sub _ _ a), p _ _ _ s (jr_list a r)⟩
  | str x => exact .inr (.inr (.inl ⟨_, rfl, p _ _ _ s jr_str⟩))
  | dfz a k r => exact .inr (.inr (.inr ⟨_, _, _, rfl, s.st.sub _ _ a, p _ _ _ s (jr_keys a k)⟩))
  | ptp _ _ _ => exact p.elim
  | non => exact p.elim
  | bl b => exact p.elim
  | int b => exact p.elim
  | dic _ _ _ => exact p.elim
  | obj _ _ _ => exact p.elim
  | opq _ => exact p.elim
theorem di_range1 (hm : X.mg "range" = none) (ha : DA F X [e] ta) (hg : Gl X "range" := by rfl) (hs : starEach [e] X.env = [(false, eval e X.env)] := by rfl) : DI F X tg (.Call (.Name "range" p) [e] [] pos) (fun ρ Q => ta ρ fun ds => ∃ j : Int, ds = [.int j] ∧ -(2 ^ 62) ≤ j ∧ j < 2 ^ 62 ∧ Q (rngD 0 j.toNat)) := by
  refine ⟨fun ρ Q Q' k q => ha.mono _ _ _ (fun ds ⟨j, e, a, b, q⟩ => ⟨j, e, a, b, k _ q⟩) q, (pi_range1 hg hm ha.run hs).imp fun σ H R ⟨I, ρ, A, q⟩ => rdA_next ha.mono A q fun ds vs I' H' p s rs => ?_⟩
  obtain ⟨j, rfl, a, b, q⟩ := p
  cases rs with
  | cons r1 r2 =>
    cases r2
    cases r1
    exact ⟨j, rfl, a, b, q _ _ _ s jr_range⟩
def zipD : List D → (List D → Prop) → Prop
  | [.lst xs, .lst ys], Q => Q (List.zipWith (fun d e => .tup [d, e]) xs ys)
  | [.tup xs, .tup ys], Q => Q (List.zipWith (fun d e => .tup [d, e]) xs ys)
  | _, _ => False
theorem zipD.mono {ds : List D} {Q Q' : List D → Prop} (k : ∀ ds, Q ds → Q' ds) (h : zipD ds Q) : zipD ds Q' := by
  unfold zipD at h ⊢
  split at h <;> first | exact k _ h | exact h.elim
end
def forD (g : DGT) (tb : DTS) (Z : DEnds) : List D → DEnv → Prop
  | [], ρ => Z.nx ρ
  | d :: ds, ρ => g d ρ fun ρ2 => tb { Z with nx := forD g tb Z ds, ct := forD g tb Z ds, bk := Z.nx } ρ2
theorem forD.mono {F : Fx} {X : Cx} {tg : Expr} {js : List Nat} {g : DGT} {body : List Stmt} {tb : DTS} (hg : DG F X tg js g) (hb : DSts F X body tb) {Z Z' : DEnds} (l : DEnds.le Z Z') : ∀ (ds : List D) (ρ : DEnv), forD g tb Z ds ρ → forD g tb Z' ds ρ
  | [], ρ, h => l.nx _ h
  | d :: ds, ρ, h => hg.mono _ _ _ _ (fun ρ2 q => hb.mono { Z with nx := forD g tb Z ds, ct := forD g tb Z ds, bk := Z.nx } _ _ ⟨forD.mono hg hb l ds, l.rt, l.nx, forD.mono hg hb l ds, l.ro⟩ q) h
section
variable {F : Fx} {X : Cx} {tg iter c : Expr} {js : List Nat} {g : DGT} {body : List Stmt} {tb : DTS} {ti : DAT} {tc : DB} {pos : Pos}
theorem ds_for (hp : PassesOwn (model X.prog X.w) X.A X.env X.xe) (hc : X.calm = true) (hi : DI F X tg iter ti) (hg : DG F X tg js g) (hb : DSts F X body tb) (hs : ∀ x, foldedSetIterable iter X.env x = pure x := by intro _; rfl) : DSt F X (.For tg iter body [] pos) (fun Z ρ => ti ρ fun ds => forD g tb Z ds ρ) := by
  refine ⟨fun Z Z' ρ l q => hi.mono _ _ _ (fun ds => forD.mono hg hb l ds ρ) q, (ps_for hp hc hi.run hg.run hb.run hs).imp fun Z σ H ⟨I, ρ, A, q⟩ => ?_⟩
  refine ⟨I, ρ, A, hi.mono _ _ _ (fun ds q J I' H' s jr => ?_) q⟩
  refine ⟨fun i m σ' H2 => m = ds.length - i ∧ i ≤ ds.length ∧ ∃ I2 ρ2, At F X.K I2 ρ2 σ' H2 ∧ Same I' I2 ∧ forD g tb (ends F X.K I' Z) (ds.drop i) ρ2, ⟨ds.length, by simp, Nat.zero_le _, I', ρ, A.step s, Same.refl _, by simpa using forD.mono hg hb (ends.le s.i) ds ρ q⟩, ?_⟩
  rintro i m σ' H2 ⟨rfl, hi', I2, ρ2, A2, s2, q2⟩
  by_cases hlt : i < ds.length
  · refine .inr ⟨jr.go i I2 H2 s2 A2.st hlt, fun σ3 H3 => ∃ I3 ρ3, At F X.K I3 ρ3 σ3 H3 ∧ Same I' I3 ∧ forD g tb (ends F X.K I' Z) (ds.drop (i + 1)) ρ3, fun σ3 H3 ⟨I3, ρ3, A3, s3, q3⟩ => ⟨ds.length - (i + 1), by omega, rfl, hlt, I3, ρ3, A3, s3, q3⟩, fun x H3 y => ?_⟩
    obtain ⟨d, I3, hd, st3, rx⟩ := jr.yld i I2 H2 x H3 hlt s2 A2.st y
    rw [List.drop_eq_getElem_cons hlt] at q2
    have hd' : ds[i] = d := by
      rw [List.getElem?_eq_getElem hlt] at hd
      exact Option.some.inj hd
    rw [hd'] at q2
    refine ⟨I3, ρ2, d, A2.step st3, rx, hg.mono _ _ _ _ (fun ρ4 q4 I4 σ4 H4 A4 s4 _ => ?_) q2⟩
    have s4' : Same I' I4 := Same.trans (Same.trans s2 st3.i) s4.i
    refine ⟨I4, ρ4, A4, hb.mono { ends F X.K I' Z with nx := forD g tb (ends F X.K I' Z) (ds.drop (i + 1)), ct := forD g tb (ends F X.K I' Z) (ds.drop (i + 1)), bk := (ends F X.K I' Z).nx } _ _ ⟨fun ρ5 q5 I5 σ5 H5 s5 A5 => ⟨I5, ρ5, A5, Same.trans s4' s5, q5⟩, fun d q => q, fun ρ5 q5 I5 σ5 H5 s5 A5 => q5 I5 σ5 H5 (Same.trans s4' s5) A5, fun ρ5 q5 I5 σ5 H5 s5 A5 => ⟨I5, ρ5, A5, Same.trans s4' s5, q5⟩, fun d q => q⟩ q4⟩
  · have e : i = ds.length := by omega
    subst e
    rw [List.drop_length] at q2
    exact .inl ⟨jr.stop I2 H2 s2 A2.st, q2 _ _ _ s2 A2⟩
def whileD (tc : DB) (tb : DTS) (Z : DEnds) (ρ : DEnv) : Prop := ∃ P : Nat → DEnv → Prop, (∃ m, P m ρ) ∧ ∀ m ρ, P m ρ → tc ρ fun b => if b = true then tb { Z with nx := fun ρ' => ∃ m', m' < m ∧ P m' ρ', ct := fun ρ' => ∃ m', m' < m ∧ P m' ρ', bk := Z.nx } ρ else Z.nx ρ
theorem ds_while (hp : PassesOwn (model X.prog X.w) X.A X.env X.xe) (hc : DTest F X c tc) (hb : DSts F X body tb) : DSt F X (.While c body [] pos) (whileD tc tb) := by
  refine ⟨fun Z Z' ρ l ⟨P, h0, hs⟩ => ⟨P, h0, fun m ρ p => hc.mono _ _ _ (fun b q => ?_) (hs m ρ p)⟩, (ps_while hp hc.run hb.run).imp fun Z σ H ⟨I, ρ, A, P, ⟨m, p⟩, hs⟩ => ?_⟩
  · cases b
    · exact l.nx _ q
    · exact hb.mono { Z with nx := fun ρ' => ∃ m', m' < m ∧ P m' ρ', ct := fun ρ' => ∃ m', m' < m ∧ P m' ρ', bk := Z.nx } _ _ ⟨fun _ h => h, l.rt, l.nx, fun _ h => h, l.ro⟩ q
  · refine ⟨fun m σ' H2 => ∃ I2 ρ2, At F X.K I2 ρ2 σ' H2 ∧ Same I I2 ∧ P m ρ2, ⟨m, I, ρ, A, Same.refl _, p⟩, fun m σ' H2 ⟨I2, ρ2, A2, s2, p2⟩ => ?_⟩
    refine rdT_next hc.mono A2 (hs m ρ2 p2) fun b I3 H3 q s => ?_
    have s3 : Same I I3 := Same.trans s2 s.i
    cases b
    · exact q _ _ _ s3 (A2.step s)
    · refine ⟨fun σ' H' => ∃ m', m' < m ∧ ∃ I4 ρ4, At F X.K I4 ρ4 σ' H' ∧ Same I I4 ∧ P m' ρ4, fun σ' H' h => h, I3, ρ2, A2.step s, hb.mono { ends F X.K I Z with nx := fun ρ' => ∃ m', m' < m ∧ P m' ρ', ct := fun ρ' => ∃ m', m' < m ∧ P m' ρ', bk := (ends F X.K I Z).nx } _ _ ?_ q⟩
      exact ⟨fun ρ' ⟨m', l, p'⟩ I4 σ4 H4 s4 A4 => ⟨m', l, I4, ρ', A4, Same.trans s3 s4, p'⟩, fun d q => q, fun ρ' q I4 σ4 H4 s4 A4 => q I4 σ4 H4 (Same.trans s3 s4) A4, fun ρ' ⟨m', l, p'⟩ I4 σ4 H4 s4 A4 => ⟨m', l, I4, ρ', A4, Same.trans s3 s4, p'⟩, fun d q => q⟩
end
end Dk
namespace Dk
open PySem L2
open PyProof.Rows (envOfC)
def wipeD (ρ : DEnv) : List Nat → DEnv
  | [] => ρ
  | v :: vs => (wipeD ρ vs).set v none
theorem wipeD_length (ρ : DEnv) : ∀ vs : List Nat, (wipeD ρ vs).length = ρ.length
  | [] => rfl
  | v :: vs => by unfold wipeD; rw [List.length_set, wipeD_length ρ vs]
theorem wipeD_some {ρ : DEnv} {i : Nat} {e : Ent} : ∀ {vs : List Nat}, (wipeD ρ vs)[i]? = some (some e) → ρ[i]? = some (some e) ∧ i ∉ vs
  | [], h => ⟨h, by simp⟩
  | v :: vs, h => by
    unfold wipeD at h
    rcases set_at h with ⟨_, q⟩ | ⟨hn, q⟩
    · cases q
    · obtain ⟨h1, h2⟩ := wipeD_some q
      exact ⟨h1, by simp [Ne.symm hn, h2]⟩
theorem wipe_at {σ : St} : ∀ {vs : List Nat} {i : Nat}, i ∈ vs → (wipe σ vs)[i]? ≠ some none → i ≥ σ.length
  | [], _, h, _ => by simp at h
  | v :: vs, i, h, hn => by
    unfold wipe at hn
    by_cases e : v = i
    · subst e
      rw [List.getElem?_set] at hn
      simp at hn
      rw [wipe_length] at hn
      exact hn
    · rw [List.getElem?_set_ne e] at hn
      exact wipe_at (by simpa [Ne.symm e] using h) hn
theorem wipe_only {σ σ' : St} {js vs : List Nat} (o : Only js σ σ') (h : ∀ j ∈ js, j ∈ vs) : wipe σ' vs = wipe σ vs := by
  have hl := o.1
  apply List.ext_getElem?
  intro i
  by_cases hi : i ∈ vs
  · by_cases hlt : i < σ.length
    · have a : (wipe σ vs)[i]? = some none := Classical.byContradiction fun z => absurd (wipe_at hi z) (by omega)
      have b : (wipe σ' vs)[i]? = some none := Classical.byContradiction fun z => absurd (wipe_at hi z) (by omega)
      rw [a, b]
    · rw [List.getElem?_eq_none (by rw [wipe_length]; omega), List.getElem?_eq_none (by rw [wipe_length]; omega)]
  · rw [wipe_out hi, wipe_out hi]
    exact o.2 i fun z => hi (h i z)
theorem wipe_wipe (σ : St) (vs : List Nat) : wipe (wipe σ vs) vs = wipe σ vs := by
  apply List.ext_getElem?
  intro i
  by_cases hi : i ∈ vs
  · by_cases hlt : i < σ.length
    · have a : (wipe σ vs)[i]? = some none := Classical.byContradiction fun z => absurd (wipe_at hi z) (by omega)
      have b : (wipe (wipe σ vs) vs)[i]? = some none := Classical.byContradiction fun z => absurd (wipe_at hi z) (by rw [wipe_length]; omega)
      rw [a, b]
    · rw [List.getElem?_eq_none (by rw [wipe_length, wipe_length]; omega), List.getElem?_eq_none (by rw [wipe_length]; omega)]
  · rw [wipe_out hi]
section
variable {F : Fx} {K : PySem.W.Frag} {I H I' H' : Hp} {ρ : DEnv} {σ : St}
theorem At.wipe (a : At F K I ρ σ H) (vs : List Nat) : At F K I (wipeD ρ vs) (wipe σ vs) H := by
  refine ⟨a.stp, by rw [wipeD_length, wipe_length]; exact a.len, fun i e h => ?_, fun i j e e' v hij h1 h2 o1 o2 hv => ?_⟩
  · obtain ⟨h1, h2⟩ := wipeD_some h
    obtain ⟨v, h3, h4⟩ := a.env i e h1
    exact ⟨v, by rw [wipe_out h2]; exact h3, h4⟩
  · obtain ⟨h3, h4⟩ := wipeD_some h1
    obtain ⟨h5, h6⟩ := wipeD_some h2
    rw [wipe_out h4] at hv
    rw [wipe_out h6]
    exact a.dis i j e e' v hij h3 h5 o1 o2 hv
/-- D is no list of a slot's own -/
def Apart (ρ : DEnv) (σ : St) (D : Addr) : Prop := ∀ (i : Nat) e, ρ[i]? = some (some e) → e.isOwn → σ[i]? ≠ some (some (.ref D))
theorem At.apart (a : At F K I ρ σ H) {D : Addr} (h : H D = none) : Apart ρ σ D := fun i e he o hv => by
  obtain ⟨v, h1, h2⟩ := a.env i e he
  rw [hv] at h1
  cases h1
  obtain ⟨p, u, q, w⟩ := h2.own o
  cases q
  rw [w.hp] at h
  cases h
theorem At.write (a : At F K I ρ σ H) {D : Addr} (o : HO) (hI : I D = none) (hm : ¬ F.W.mv D) (hB : F.B D = none) (hp : Apart ρ σ D) : At F K I ρ σ (upd H D o) := by
  refine ⟨⟨a.stp.i, ⟨fun b u e => ?_, a.st.imm, F.W.frame (.refl _) (fun b m => upd_ne fun z => hm (z ▸ m)) a.st.inv⟩, fun b u e m => ?_, a.stp.new⟩, a.len, fun i e h => ?_, a.dis⟩
  · rw [upd_ne (ne_of_none e hI)]; exact a.st.sub _ _ e
  · rw [upd_ne (ne_of_none e hB)]; exact a.stp.h _ _ e m
  · obtain ⟨v, h1, h2⟩ := a.env i e h
    refine ⟨v, h1, ?_⟩
    rcases h2 with ⟨d, rfl, r⟩ | ⟨p, u, rfl, w⟩
    · exact .inl ⟨d, rfl, r⟩
    · exact .inr ⟨p, u, rfl, by rw [upd_ne fun z => by subst z; exact hp i _ h w.rep.isOwn h1]; exact w.hp, w.rep, w.ni, w.nm, w.nb, w.ad⟩
theorem Stp.write {W : Wd} (s : Stp W I H I' H') {D : Addr} (o : HO) (hI : I' D = none) (hm : ¬ W.mv D) (hn : H D = none) : Stp W I H I' (upd H' D o) := by
  refine ⟨s.i, ⟨fun b u e => ?_, s.st.imm, W.frame (.refl _) (fun b m => upd_ne fun z => hm (z ▸ m)) s.st.inv⟩, fun b u e m => ?_, s.new⟩
  · rw [upd_ne (ne_of_none e hI)]; exact s.st.sub _ _ e
  · rw [upd_ne (ne_of_none e hn)]; exact s.h _ _ e m
/-- what was made since stands still from now on -/
theorem Stp.freeze {W : Wd} (s : Stp W I H I' H') {D : Addr} {o : HO} (hI : I' D = none) (hm : ¬ W.mv D) (hn : H D = none) (hD : H' D = some o) : Stp W I H (upd I' D o) H' := by
  refine ⟨fun b u e => ?_, ⟨fun b u e => ?_, fun b u e => ?_, W.frame (.of fun b u e => by rw [upd_ne (ne_of_none e hI)]; exact e) (fun _ _ => rfl) s.st.inv⟩, s.h, fun b u e n => ?_⟩
  · have e' := s.i _ _ e
    rw [upd_ne (ne_of_none e' hI)]; exact e'
  · by_cases hb : b = D
    · subst hb; rw [upd_same] at e; cases e; exact hD
    · rw [upd_ne hb] at e; exact s.st.sub _ _ e
  · by_cases hb : b = D
    · subst hb; exact hm
    · rw [upd_ne hb] at e; exact s.st.imm _ _ e
  · rw [upd_ne (ne_of_none e hn)]; exact s.new _ _ e n
theorem Same.laid {I : Hp} {D : Addr} {o : HO} (h : I D = none) : Same I (upd I D o) := fun b u e => by rw [upd_ne (ne_of_none e h)]; exact e
end
/-- a comprehension's tests -/
structure DIfs (F : Fx) (X : Cx) (ifs : List Expr) (t : DB) : Prop where
  mono : ∀ ρ (Q Q' : Bool → Prop), (∀ d, Q d → Q' d) → t ρ Q → t ρ Q'
  run : PTs X ifs (rdT F X.K t)
theorem _root_.L2.PTs.imp {X : Cx} {ifs : List Expr} {t u : TT} (h : PTs X ifs t) (i : ∀ σ H Q, u σ H Q → t σ H Q) : PTs X ifs u := ⟨fun pins s σ H Q J q => h.run pins s σ H Q J (i σ H Q q)⟩
theorem dif_nil {F : Fx} {X : Cx} : DIfs F X [] (fun _ Q => Q true) := ⟨fun _ _ _ k q => k _ q, pts_nil.imp fun σ H Q ⟨I, ρ, A, q⟩ => q I H A.st.stp⟩
theorem dif_one {F : Fx} {X : Cx} {c : Expr} {t : DB} (h : DTest F X c t) : DIfs F X [c] t := ⟨h.mono, pts_one h.run⟩
def lcD (g : DGT) (tc : DB) (te : DT) (ρ : DEnv) : List D → (List D → Prop) → Prop
  | [], Q => Q []
  | d :: ds, Q => g d ρ fun ρ2 => tc ρ2 fun b => if b = true then te ρ2 fun y => lcD g tc te ρ ds fun ys => Q (y :: ys) else lcD g tc te ρ ds Q
section
variable {F : Fx} {X Y : Cx} {elt tg iter : Expr} {ifs : List Expr} {scope : Scope} {own : List (Str × Nat)} {pos : Pos} {ti : DAT} {js : List Nat} {g : DGT} {tc : DB} {te : DT}
theorem lcD.mono (hg : DG F Y tg js g) (ht : DIfs F Y ifs tc) (he : DE F Y elt te) (ρ : DEnv) : ∀ (ds : List D) (Q Q' : List D → Prop), (∀ ys, Q ys → Q' ys) → lcD g tc te ρ ds Q → lcD g tc te ρ ds Q'
  | [], Q, Q', k, h => k _ h
  | d :: ds, Q, Q', k, h => hg.mono _ _ _ _ (fun ρ2 q => ht.mono _ _ _ (fun b q => by
      cases b
      · exact lcD.mono hg ht he ρ ds _ _ k q
      · exact he.mono _ _ _ (fun y q => lcD.mono hg ht he ρ ds _ _ (fun ys => k _) q) q) q) h
/-- the reading of the block -/
theorem lc_run {vs : List Nat} {K : PySem.W.Frag} (hgm : ∀ d ρ (Q Q' : DEnv → Prop), (∀ ρ, Q ρ → Q' ρ) → g d ρ Q → g d ρ Q') (htm : ∀ ρ (Q Q' : Bool → Prop), (∀ d, Q d → Q' d) → tc ρ Q → tc ρ Q') (hem : ∀ ρ (Q Q' : D → Prop), (∀ d, Q d → Q' d) → te ρ Q → te ρ Q')
    (him : ∀ ρ (Q Q' : List D → Prop), (∀ d, Q d → Q' d) → ti ρ Q → ti ρ Q') (hjs : ∀ j ∈ js, j ∈ vs) {σ : St} {H : Hp} {Q : VK} {I : Hp} {ρ : DEnv} (A : At F K I ρ σ H) {P : List D → Prop}
    (q : ti ρ fun ds => ds.length ≤ sizeLine ∧ lcD g tc te (wipeD ρ vs) ds P) (hP : ∀ ys, P ys → ∀ p I' H', Stp F.W I H I' H' → H p = none → I' p = none → F.B p = none → ¬ F.W.mv p → (∃ ws, H' p = some (.lst ws) ∧ Reps K I' ws ys) → Q (.ref p) H') :
    tLc (rdI F K ti) (rdG F K js g) (rdT F K tc) (rdE F K te) vs σ H Q := by
  refine ⟨I, ρ, A, him _ _ _ (fun ds q J I1 H1 s jr E hE => ?_) q⟩
  obtain ⟨hl, q⟩ := q
  have A1 := (A.step s).wipe vs
  have hp : Apart (wipeD ρ vs) (wipe σ vs) E := A1.apart hE
  have hI1 : I1 E = none := s.st.free hE
  have hm : ¬ F.W.mv E := fun m => F.W.live s.st.inv m hE
  have hB : F.B E = none := by
    cases z : F.B E with
    | none => rfl
    | some u => have := A1.stp.h _ _ z hm; rw [hE] at this; cases this
  have hHE : H E = none := by
    cases z : H E with
    | none => rfl
    | some u => have := s.h _ _ z hm; rw [hE] at this; cases this
  refine ⟨fun i m H2 => m = ds.length - i ∧ i ≤ ds.length ∧ ∃ I2 ws ys, At F K I2 (wipeD ρ vs) (wipe σ vs) H2 ∧ Stp F.W I1 H1 I2 H2 ∧ H2 E = some (.lst ws) ∧ I2 E = none ∧ Reps K I2 ws ys ∧ ws.length ≤ i ∧ lcD g tc te (wipeD ρ vs) (ds.drop i) (fun zs => P (ys ++ zs)),
    ⟨ds.length, by simp, Nat.zero_le _, I1, [], [], A1.write _ hI1 hm hB hp, s.st.stp.write _ hI1 hm hE, upd_same, hI1, .nil, Nat.zero_le _, by simpa using q⟩, ?_⟩
  rintro i m H2 ⟨rfl, hi, I2, ws, ys, A2, s2, h2, n2, r2, l2, q2⟩
  by_cases hlt : i < ds.length
  · refine .inr ⟨jr.go i I2 H2 s2.i A2.st hlt, fun H3 => ∃ I3 ws3 ys3, At F K I3 (wipeD ρ vs) (wipe σ vs) H3 ∧ Stp F.W I1 H1 I3 H3 ∧ H3 E = some (.lst ws3) ∧ I3 E = none ∧ Reps K I3 ws3 ys3 ∧ ws3.length ≤ i + 1 ∧ lcD g tc te (wipeD ρ vs) (ds.drop (i + 1)) (fun zs => P (ys3 ++ zs)),
      fun H3 h => ⟨ds.length - (i + 1), by omega, rfl, hlt, h⟩, fun x H3 y => ?_⟩
    obtain ⟨d, I3, hd, st3, rx⟩ := jr.yld i I2 H2 x H3 hlt s2.i A2.st y
    rw [List.drop_eq_getElem_cons hlt] at q2
    rw [List.getElem?_eq_getElem hlt] at hd
    rw [Option.some.inj hd] at q2
    refine ⟨I3, wipeD ρ vs, d, A2.step st3, rx, hgm _ _ _ _ (fun ρ4 q4 I4 σ4 H4 A4 st4 o4 => ⟨(wipe_only o4 hjs).trans (wipe_wipe σ vs), ?_⟩) q2⟩
    refine rdT_next htm A4 q4 fun b I5 H5 q5 st5 => ?_
    have s25 : Stp F.W I2 H2 I5 H5 := (st3.trans st4).trans st5
    cases b
    · exact ⟨I5, ws, ys, A2.step s25, s2.trans s25, s25.h _ _ h2 hm, s25.new _ _ h2 n2, r2.mono s25.i, by omega, q5⟩
    · refine rdE_next hem (A4.step st5) q5 fun y' v I6 H6 q6 st6 rv => ?_
      have s26 : Stp F.W I2 H2 I6 H6 := s25.trans st6
      have n6 := s26.new _ _ h2 n2
      refine ⟨ws, s26.h _ _ h2 hm, by omega, I6, ws ++ [v], ys ++ [y'], (A2.step s26).write _ n6 hm hB hp, (s2.trans s26).write _ n6 hm hE, upd_same, n6, (r2.mono s26.i).append (.cons rv .nil), by simp; omega, ?_⟩
      simpa using q6
  · have e : i = ds.length := by omega
    subst e
    rw [List.drop_length] at q2
    refine .inl ⟨jr.stop I2 H2 s2.i A2.st, hP ys (by simpa [lcD] using q2) E I2 H2 (s.trans s2) hHE n2 hB hm ⟨ws, h2, r2⟩⟩
theorem de_lc (hc : X.calm = true) (hN : X.N.Nodup) (hi : DI F X tg iter ti) (ok : BlkOk X.N X.env.scope scope own)
    (hg : ∀ (s : Shared) (H : Hp) (C : Addr) (cl : List (Str × Addr)) (fp : List Addr), DG F (X.blk s H scope (compEnvC scope cl C X.env) fp) tg js g)
    (ht : ∀ (s : Shared) (H : Hp) (C : Addr) (cl : List (Str × Addr)) (fp : List Addr), DIfs F (X.blk s H scope (compEnvC scope cl C X.env) fp) ifs tc)
    (he : ∀ (s : Shared) (H : Hp) (C : Addr) (cl : List (Str × Addr)) (fp : List Addr), DE F (X.blk s H scope (compEnvC scope cl C X.env) fp) elt te)
    (hjs : ∀ j ∈ js, j ∈ own.map (·.2) := by decide) (hs : ∀ x, foldedSetIterable iter X.env x = pure x := by intro _; rfl) :
    DE F X (.ListComp elt [⟨tg, iter, ifs, 0⟩] scope pos) (fun ρ Q => ti ρ fun ds => ds.length ≤ sizeLine ∧ lcD g tc te (wipeD ρ (own.map (·.2))) ds fun ys => Q (.lst ys)) := by
  have g0 := hg X.s_0 X.H_0 0 [] []
  have t0 := ht X.s_0 X.H_0 0 [] []
  have e0 := he X.s_0 X.H_0 0 [] []
  refine ⟨fun ρ Q Q' k q => hi.mono _ _ _ (fun ds q => ⟨q.1, lcD.mono g0 t0 e0 _ _ _ _ (fun ys => k _) q.2⟩) q, (pe_lc (g := rdG F X.K js g) (tt := rdT F X.K tc) (te := rdE F X.K te) hc hN hi.run ok (fun s H C cl fp => (hg s H C cl fp).run) (fun s H C cl fp => (ht s H C cl fp).run) (fun s H C cl fp => (he s H C cl fp).run) hs).imp fun σ H Q ⟨I, ρ, A, q⟩ => ?_⟩
  refine lc_run g0.mono t0.mono e0.mono hi.mono hjs A q fun ys q p I' H' s hp ip bp mp ⟨ws, h, r⟩ => ?_
  exact q _ _ _ (s.freeze ip mp hp h) (.lst upd_same (r.mono (Same.laid ip)))
/-- y = [..]: the list stands still -/
theorem ds_setLc {i : Nat} {y : Str} {py spos : Pos} (hc : X.calm = true) (hN : X.N.Nodup) (hy : X.N[i]? = some y) (hyl : X.env.scope.names.lookup y = some .local)
    (hsw : swapsWith (.ListComp elt [⟨tg, iter, ifs, 0⟩] scope pos) (some (.Name y py)) spos.line X.env = pure true) (hi : DI F X tg iter ti) (ok : BlkOk X.N X.env.scope scope own)
    (hg : ∀ (s : Shared) (H : Hp) (C : Addr) (cl : List (Str × Addr)) (fp : List Addr), DG F (X.blk s H scope (compEnvC scope cl C X.env) fp) tg js g)
    (ht : ∀ (s : Shared) (H : Hp) (C : Addr) (cl : List (Str × Addr)) (fp : List Addr), DIfs F (X.blk s H scope (compEnvC scope cl C X.env) fp) ifs tc)
    (he : ∀ (s : Shared) (H : Hp) (C : Addr) (cl : List (Str × Addr)) (fp : List Addr), DE F (X.blk s H scope (compEnvC scope cl C X.env) fp) elt te)
    (hjs : ∀ j ∈ js, j ∈ own.map (·.2) := by decide) (hs : ∀ x, foldedSetIterable iter X.env x = pure x := by intro _; rfl) :
    DSt F X (.Assign [.Name y py] (.ListComp elt [⟨tg, iter, ifs, 0⟩] scope pos) spos) (fun Z ρ => ti ρ fun ds => ds.length ≤ sizeLine ∧ lcD g tc te (wipeD ρ (own.map (·.2))) ds fun ys => Z.nx (ρ.set i (some (.dat (.lst ys))))) := by
  have g0 := hg X.s_0 X.H_0 0 [] []
  have t0 := ht X.s_0 X.H_0 0 [] []
  have e0 := he X.s_0 X.H_0 0 [] []
  refine ⟨fun Z Z' ρ l q => hi.mono _ _ _ (fun ds q => ⟨q.1, lcD.mono g0 t0 e0 _ _ _ _ (fun ys => l.nx _) q.2⟩) q, (ps_setLc (g := rdG F X.K js g) (tt := rdT F X.K tc) (te := rdE F X.K te) hc hN hy hyl hsw hi.run ok (fun s H C cl fp => (hg s H C cl fp).run) (fun s H C cl fp => (ht s H C cl fp).run) (fun s H C cl fp => (he s H C cl fp).run) hs).imp fun Z σ H ⟨I, ρ, A, q⟩ => ?_⟩
  refine lc_run g0.mono t0.mono e0.mono hi.mono hjs A q fun ys q p I' H' s hp ip bp mp ⟨ws, h, r⟩ => ?_
  have s' := s.freeze ip mp hp h
  exact q _ _ _ s'.i ((A.step s').set (.lst upd_same (r.mono (Same.laid ip))))
end
end Dk
namespace Dk
open PySem L2
def ixD : D → D → (D → Prop) → Prop
  | .lst xs, .int i, Q => ∃ d, atI xs i = some d ∧ Q d
  | .tup xs, .int i, Q => ∃ d, atI xs i = some d ∧ Q d
  | .str z, .int i, Q => z.length ≤ sizeLine ∧ ∃ c, atI z.cps.toList i = some c ∧ Q (.str ⟨#[c]⟩)
  | .dic kvs, y, Q => ∃ k d, y = keyD k ∧ lookD kvs k = some d ∧ Q d
  | .dfz kvs, y, Q => ∃ k d, y = keyD k ∧ lookD kvs k = some d ∧ Q d
  | _, _, _ => False
theorem mono_ix : Mono2 ixD := by
  intro x y Q Q' k h
  cases x <;> cases y <;> first | exact h.elim | (obtain ⟨d, e, q⟩ := h; exact ⟨d, e, k _ q⟩) | (obtain ⟨l, d, e, q⟩ := h; exact ⟨l, d, e, k _ q⟩) | (obtain ⟨l, d, e, e2, q⟩ := h; exact ⟨l, d, e, e2, k _ q⟩)
def rIxG (K : PySem.W.Frag) : R2 := fun x y H Q => rIx K x y H Q ∨ ∃ a v, x = .ref a ∧ DGet H a y (some v) ∧ Q v H
theorem ix_dict {X : Cx} (hu : X.A.units + 64 < cLine) : IxR X (fun x y H Q => ∃ a v, x = .ref a ∧ DGet H a y (some v) ∧ Q v H) := by
  intro value slice pins s σ H x y v u Q J rx ry h hs
  obtain ⟨a, w, rfl, g, q⟩ := h
  cases rx
  exact PyProof.Rows.tail_any (dict_typeIs J g) PySem.F.slot_dict_getitem.lookup (d_getItem (by omega) J g ry fun w' s3 J3 rw' => ⟨w, H, J3, rw', q⟩) hs
theorem ix_all {X : Cx} (hu : X.A.units + 64 < cLine) : IxR X (rIxG X.K) := ix_seq.or (ix_dict hu)
theorem Reps.atI {K : PySem.W.Frag} {I : Hp} {vs : List V} {ds : List D} {i : Int} {d : D} (r : Reps K I vs ds) (h : atI ds i = some d) : ∃ v, L2.atI vs i = some v ∧ Rep K I v d := by
  unfold L2.atI at h ⊢
  rw [r.length]
  cases e : ixN ds.length i with
  | none => rw [e] at h; cases h
  | some j =>
    rw [e] at h
    obtain ⟨v, h1, h2⟩ := r.get (show ds[j]? = some d from h)
    exact ⟨v, h1, h2⟩
section
variable {F : Fx} {X : Cx} {K : PySem.W.Frag} {I H : Hp} {a b e : Expr} {ta tb te : DT} {pos p2 : Pos}
theorem lf_ix : LiftR F K (rIxG K) ixD := by
  intro x y dx dy I H Q st rx ry h
  cases dx with
  | dic kvs =>
    obtain ⟨k, d, rfl, e, q⟩ := h
    cases rx with
    | @dic p ws _ a kk r =>
      rcases lookD_rep (k := k) kk r with ⟨_, z⟩ | ⟨v, d', h1, h2, h3⟩
      · rw [e] at z; cases z
      · rw [e] at h2
        cases h2
        refine .inr ⟨p, v, rfl, .inl ⟨ws, k, .of (st.sub _ _ a), keyD_rep ry, h1.symm⟩, q _ I H st.stp h3⟩
  | dfz kvs =>
    obtain ⟨k, d, rfl, e, q⟩ := h
    cases rx with
    | @dfz p _ ws _ a kk r =>
      rcases lookD_rep (k := k) kk r with ⟨_, z⟩ | ⟨v, d', h1, h2, h3⟩
      · rw [e] at z; cases z
      · rw [e] at h2
        cases h2
        refine .inr ⟨p, v, rfl, .inl ⟨ws, k, .inr ⟨_, st.sub _ _ a⟩, keyD_rep ry, h1.symm⟩, q _ I H st.stp h3⟩
  | str z =>
    cases dy <;> first | exact h.elim | skip
    cases rx; cases ry
    obtain ⟨l, c, e, q⟩ := h
    exact .inl (.inr (.inr ⟨_, _, c, rfl, rfl, l, e, q _ I H st.stp (.str _)⟩))
  | tup xs =>
    cases dy <;> first | exact h.elim | skip
    cases ry
    cases rx with
    | tup a r =>
      obtain ⟨d, e, q⟩ := h
      obtain ⟨v, h1, h2⟩ := r.atI e
      exact .inl (.inr (.inl ⟨_, _, _, v, rfl, rfl, Same.seqT st.sub a, h1, q _ I H st.stp h2⟩))
  | lst xs =>
    cases dy <;> first | exact h.elim | skip
    cases ry
    cases rx with
    | lst a r =>
      obtain ⟨d, e, q⟩ := h
      obtain ⟨v, h1, h2⟩ := r.atI e
      exact .inl (.inl ⟨_, _, _, v, rfl, rfl, .of (st.sub _ _ a), h1, q _ I H st.stp h2⟩)
  | _ => cases dy <;> exact h.elim
theorem de_at (hu : X.A.units + 64 < cLine) (ha : DE F X a ta) (hb : DE F X b tb) (hs : PlainIx b := by exact fun _ _ => rfl) : DE F X (.Subscript a b pos) (fun ρ Q => ta ρ fun x => tb ρ fun y => ixD x y Q) := de_ix mono_ix (ix_all hu) lf_ix ha hb hs
/-- parts of a slice -/
abbrev DOT := DEnv → (Option Int → Prop) → Prop
def rdO (F : Fx) (K : PySem.W.Frag) (t : DOT) : TO := fun σ H Q => ∃ I ρ, At F K I ρ σ H ∧ t ρ fun o => ∀ I' H', Stp F.W I H I' H' → Q o H'
structure DO (F : Fx) (X : Cx) (e : Option Expr) (t : DOT) : Prop where
  mono : ∀ ρ (Q Q' : Option Int → Prop), (∀ d, Q d → Q' d) → t ρ Q → t ρ Q'
  run : PO X e (rdO F X.K t)
theorem _root_.L2.PO.imp {e : Option Expr} {t u : TO} (h : PO X e t) (i : ∀ σ H Q, u σ H Q → t σ H Q) : PO X e u := ⟨fun pins s σ H Q J q => h.run pins s σ H Q J (i σ H Q q)⟩
theorem do_none : DO F X none (fun _ Q => Q none) := ⟨fun _ _ _ k q => k _ q, po_none.imp fun σ H Q ⟨I, ρ, A, q⟩ => q I H A.st.stp⟩
def intD (d : D) (Q : Int → Prop) : Prop := ∃ i, d = .int i ∧ Q i
theorem do_some (h : DE F X e te) : DO F X (some e) (fun ρ Q => te ρ fun d => intD d fun i => Q (some i)) := by
  refine ⟨fun _ _ _ k q => h.mono _ _ _ (fun d ⟨i, e, q⟩ => ⟨i, e, k _ q⟩) q, (po_some h.run).imp fun σ H Q ⟨I, ρ, A, q⟩ => rdE_next h.mono A q fun d v I' H' p s rv => ?_⟩
  obtain ⟨i, rfl, p⟩ := p
  cases rv
  exact ⟨i, rfl, p I' H' s⟩
def cutD (xs : List D) (lo hi : Option Int) : List D := (xs.drop (HT.sIx xs.length 0 lo)).take (HT.sIx xs.length xs.length hi - HT.sIx xs.length 0 lo)
def sliceD : D → Option Int → Option Int → (D → Prop) → Prop
  | .lst xs, lo, hi, Q => Q (.lst (cutD xs lo hi))
  | .tup xs, lo, hi, Q => Q (.tup (cutD xs lo hi))
  | .str z, lo, hi, Q => z.length ≤ sizeLine ∧ Q (.str (cutS z lo hi))
  | _, _, _, _ => False
theorem sliceD.mono {d : D} {lo hi : Option Int} {Q Q' : D → Prop} (k : ∀ d, Q d → Q' d) (h : sliceD d lo hi Q) : sliceD d lo hi Q' := by
  cases d <;> first | exact h.elim | exact k _ h | exact ⟨h.1, k _ h.2⟩
theorem de_slice {lo hi : Option Expr} {tl th : DOT} (he : DE F X e te) (hl : DO F X lo tl) (hh : DO F X hi th) : DE F X (.Subscript e (.Slice lo hi none p2) pos) (fun ρ Q => te ρ fun d => tl ρ fun l => th ρ fun u => sliceD d l u Q) := by
  refine ⟨fun ρ Q Q' k q => he.mono _ _ _ (fun d q => hl.mono _ _ _ (fun l q => hh.mono _ _ _ (fun u => sliceD.mono k) q) q) q, (pe_slice (sl_list.or (sl_tupA.or sl_str)) he.run hl.run hh.run).imp fun σ H Q ⟨I, ρ, A, q⟩ => rdE_next he.mono A q fun d v I1 H1 q1 s1 rv => ?_⟩
  refine ⟨I1, ρ, A.step s1, hl.mono _ _ _ (fun l q2 I2 H2 s2 => ?_) q1⟩
  refine ⟨I2, ρ, (A.step s1).step s2, hh.mono _ _ _ (fun u q3 I3 H3 s3 => ?_) q2⟩
  have s := (s1.trans s2).trans s3
  have rv := rv.mono (Same.trans s2.i s3.i)
  cases rv with
  | @lst q zs es a r =>
    refine .inl ⟨_, _, rfl, .of (s3.st.sub _ _ a), fun p hp => ?_⟩
    have l' := s3.st.laid hp (.lst (cutV zs l u))
    exact q3 _ _ _ (s.trans l') (.lst upd_same ((r.cut l u).mono l'.i))
  | @tup q zs es a r =>
    refine .inr (.inl ⟨_, _, rfl, Same.seqT s3.st.sub a, fun hw => ?_, fun hw p hp => ?_⟩)
    · have e : cutD es l u = es := by
        unfold cutD
        rw [← r.length, hw.1, hw.2, Nat.sub_zero, List.drop_zero, r.length, List.take_length]
      have q3 : fin F X.K I H Q (.tup (cutD es l u)) := q3
      rw [e] at q3
      exact q3 _ _ _ s (.tup a r)
    · have l' := s3.st.laid hp (.tup (cutV zs l u))
      exact q3 _ _ _ (s.trans l') (.tup (.of upd_same) ((r.cut l u).mono l'.i))
  | str z => exact .inr (.inr ⟨_, rfl, q3.1, q3.2 _ _ _ s (.str _)⟩)
  | non => exact q3.elim
  | bl _ => exact q3.elim
  | int _ => exact q3.elim
  | dic _ _ _ => exact q3.elim
  | obj _ _ _ => exact q3.elim
  | opq _ => exact q3.elim
  | dfz _ _ _ => exact q3.elim
  | ptp _ _ _ => exact q3.elim
end
def lenD : List D → (D → Prop) → Prop
  | [.lst xs], Q => Q (.int xs.length)
  | [.tup xs], Q => Q (.int xs.length)
  | [.str z], Q => z.length ≤ sizeLine ∧ Q (.int z.length)
  | _, _ => False
def allD : List D → (D → Prop) → Prop
  | [.lst xs], Q => ∃ ns : List Bool, xs = ns.map D.bl ∧ Q (.bl (ns.all id))
  | _, _ => False
def anyD : List D → (D → Prop) → Prop
  | [.lst xs], Q => ∃ ns : List Bool, xs = ns.map D.bl ∧ Q (.bl (ns.any id))
  | _, _ => False
def listD : List D → (D → Prop) → Prop
  | [.lst xs], Q => Q (.lst xs)
  | [.tup xs], Q => Q (.lst xs)
  | _, _ => False
def tupleD : List D → (D → Prop) → Prop
  | [.lst xs], Q => Q (.tup xs)
  | [.tup xs], Q => Q (.tup xs)
  | _, _ => False
section
variable {F : Fx} {X : Cx} {K : PySem.W.Frag}
theorem Reps.one {I : Hp} {vs : List V} {d : D} (h : Reps K I vs [d]) : ∃ v, vs = [v] ∧ Rep K I v d := by
  cases h with
  | cons a b => cases b; exact ⟨_, rfl, a⟩
theorem Reps.two {I : Hp} {vs : List V} {d e : D} (h : Reps K I vs [d, e]) : ∃ v w, vs = [v, w] ∧ Rep K I v d ∧ Rep K I w e := by
  cases h with
  | cons a b =>
    obtain ⟨w, rfl, r⟩ := b.one
    exact ⟨_, _, rfl, a, r⟩
theorem mono_lenD : MonoN lenD := by
  intro ds Q Q' k h
  unfold lenD at h ⊢
  split at h <;> first | exact h.elim | exact k _ h | exact ⟨h.1, k _ h.2⟩ | (obtain ⟨n, e, q⟩ := h; exact ⟨n, e, k _ q⟩) | (obtain ⟨n, e, l, q⟩ := h; exact ⟨n, e, l, k _ q⟩)
theorem mono_allD : MonoN allD := by
  intro ds Q Q' k h
  unfold allD at h ⊢
  split at h <;> first | exact h.elim | exact k _ h | exact ⟨h.1, k _ h.2⟩ | (obtain ⟨n, e, q⟩ := h; exact ⟨n, e, k _ q⟩) | (obtain ⟨n, e, l, q⟩ := h; exact ⟨n, e, l, k _ q⟩)
theorem mono_anyD : MonoN anyD := by
  intro ds Q Q' k h
  unfold anyD at h ⊢
  split at h <;> first | exact h.elim | exact k _ h | exact ⟨h.1, k _ h.2⟩ | (obtain ⟨n, e, q⟩ := h; exact ⟨n, e, k _ q⟩) | (obtain ⟨n, e, l, q⟩ := h; exact ⟨n, e, l, k _ q⟩)
theorem mono_listD : MonoN listD := by
  intro ds Q Q' k h
  unfold listD at h ⊢
  split at h <;> first | exact h.elim | exact k _ h | exact ⟨h.1, k _ h.2⟩ | (obtain ⟨n, e, q⟩ := h; exact ⟨n, e, k _ q⟩) | (obtain ⟨n, e, l, q⟩ := h; exact ⟨n, e, l, k _ q⟩)
theorem mono_tupleD : MonoN tupleD := by
  intro ds Q Q' k h
  unfold tupleD at h ⊢
  split at h <;> first | exact h.elim | exact k _ h | exact ⟨h.1, k _ h.2⟩ | (obtain ⟨n, e, q⟩ := h; exact ⟨n, e, k _ q⟩) | (obtain ⟨n, e, l, q⟩ := h; exact ⟨n, e, l, k _ q⟩)
theorem lc_len : LiftC F K (fun xs H Q => ∃ x n, xs = [x] ∧ LenV K x H n ∧ Q (.int n) H) lenD := by
  intro vs ds I H Q st rs h
  unfold lenD at h
  split at h
  · obtain ⟨v, rfl, r⟩ := rs.one
    cases r with
    | lst a r => exact ⟨_, _, rfl, .inl ⟨_, .of (st.sub _ _ a), r.length.symm⟩, h _ I H st.stp (.int _)⟩
  · obtain ⟨v, rfl, r⟩ := rs.one
    cases r with
    | tup a r => exact ⟨_, _, rfl, .inr ⟨_, Same.seqT st.sub a, r.length.symm⟩, h _ I H st.stp (.int _)⟩
  · obtain ⟨v, rfl, r⟩ := rs.one
    cases r
    exact ⟨_, _, rfl, ⟨h.1, rfl⟩, h.2 _ I H st.stp (.int _)⟩
  · exact h.elim
theorem lc_all : LiftC F K (rAll K) allD := by
  intro vs ds I H Q st rs h
  unfold allD at h
  split at h
  · obtain ⟨v, rfl, r⟩ := rs.one
    obtain ⟨ns, rfl, q⟩ := h
    cases r with
    | lst a r => exact ⟨_, ns, rfl, r.blsV ▸ .of (st.sub _ _ a), q _ I H st.stp (.bl _)⟩
  · exact h.elim
theorem lc_any : LiftC F K (rAny K) anyD := by
  intro vs ds I H Q st rs h
  unfold anyD at h
  split at h
  · obtain ⟨v, rfl, r⟩ := rs.one
    obtain ⟨ns, rfl, q⟩ := h
    cases r with
    | lst a r => exact ⟨_, ns, rfl, r.blsV ▸ .of (st.sub _ _ a), q _ I H st.stp (.bl _)⟩
  · exact h.elim
theorem lc_list : LiftC F K (fun xs H Q => ∃ p ys, xs = [.ref p] ∧ (SqL K H p ys ∨ SqT K H p ys) ∧ ∀ l, H l = none → Q (.ref l) (upd H l (.lst ys))) listD := by
  intro vs ds I H Q st rs h
  unfold listD at h
  split at h
  · obtain ⟨v, rfl, r⟩ := rs.one
    cases r with
    | @lst q zs es a r =>
      refine ⟨_, _, rfl, .inl (.of (st.sub _ _ a)), fun p hp => ?_⟩
      have l := st.laid hp (.lst zs)
      exact h _ _ _ l (.lst upd_same (r.mono l.i))
  · obtain ⟨v, rfl, r⟩ := rs.one
    cases r with
    | @tup q zs es a r =>
      refine ⟨_, _, rfl, .inr (Same.seqT st.sub a), fun p hp => ?_⟩
      have l := st.laid hp (.lst zs)
      exact h _ _ _ l (.lst upd_same (r.mono l.i))
  · exact h.elim
theorem lc_tuple : LiftC F K (fun xs H Q => ∃ p ys, xs = [.ref p] ∧ ((SqL K H p ys ∧ ∀ l, H l = none → Q (.ref l) (upd H l (.tup ys))) ∨ (SqT K H p ys ∧ Q (.ref p) H))) tupleD := by
  intro vs ds I H Q st rs h
  unfold tupleD at h
  split at h
  · obtain ⟨v, rfl, r⟩ := rs.one
    cases r with
    | @lst q zs es a r =>
      refine ⟨_, _, rfl, .inl ⟨.of (st.sub _ _ a), fun p hp => ?_⟩⟩
      have l := st.laid hp (.tup zs)
      exact h _ _ _ l (.tup (.of upd_same) (r.mono l.i))
  · obtain ⟨v, rfl, r⟩ := rs.one
    cases r with
    | tup a r => exact ⟨_, _, rfl, .inr ⟨Same.seqT st.sub a, h _ _ _ st.stp (.tup a r)⟩⟩
  · exact h.elim
variable {p pos : Pos} {e e2 : Expr} {es : List Expr} {t : DAT} {te : DT}
theorem de_len (hm : X.mg "len" = none) (ha : DA F X [e] t) (hg : Gl X "len" := by rfl) (he : starEach [e] X.env = (false, eval e X.env) :: starEach [] X.env := by rfl) : DE F X (.Call (.Name "len" p) [e] [] pos) (fun ρ Q => t ρ fun ds => lenD ds Q) := de_callB mono_lenD lc_len call_len hm PySem.boot_len ha hg (by decide) (by decide) he rfl
theorem de_all (hc : X.calm = true) (hm : X.mg "all" = none) (ha : DA F X [e] t) (hg : Gl X "all" := by rfl) (he : starEach [e] X.env = (false, eval e X.env) :: starEach [] X.env := by rfl) : DE F X (.Call (.Name "all" p) [e] [] pos) (fun ρ Q => t ρ fun ds => allD ds Q) := de_callB mono_allD lc_all (cr_all hc) hm (by decide +kernel) ha hg (by decide) (by decide) he rfl
theorem de_any (hc : X.calm = true) (hm : X.mg "any" = none) (ha : DA F X [e] t) (hg : Gl X "any" := by rfl) (he : starEach [e] X.env = (false, eval e X.env) :: starEach [] X.env := by rfl) : DE F X (.Call (.Name "any" p) [e] [] pos) (fun ρ Q => t ρ fun ds => anyD ds Q) := de_callB mono_anyD lc_any (cr_any hc) hm (by decide +kernel) ha hg (by decide) (by decide) he rfl
theorem de_list (hm : X.mg "list" = none) (ha : DA F X [e] t) (hg : Gl X "list" := by rfl) (he : starEach [e] X.env = (false, eval e X.env) :: starEach [] X.env := by rfl) : DE F X (.Call (.Name "list" p) [e] [] pos) (fun ρ Q => t ρ fun ds => listD ds Q) := de_callT mono_listD lc_list call_list_of hm (by decide +kernel) ha hg (by decide) (by decide) he rfl
theorem de_tuple (hm : X.mg "tuple" = none) (ha : DA F X [e] t) (hg : Gl X "tuple" := by rfl) (he : starEach [e] X.env = (false, eval e X.env) :: starEach [] X.env := by rfl) : DE F X (.Call (.Name "tuple" p) [e] [] pos) (fun ρ Q => t ρ fun ds => tupleD ds Q) := de_callT mono_tupleD lc_tuple call_tuple_of hm (by decide +kernel) ha hg (by decide) (by decide) he rfl
end
end Dk
namespace Dk
open PySem L2
section
variable {F : Fx} {X : Cx} {K : PySem.W.Frag} {I H I' H' : Hp} {ρ : DEnv} {σ : St} {e : Expr} {es : List Expr} {te : DT} {ta : DAT} {t : DTS} {sts : List Stmt} {pos : Pos}
theorem At.newOwn (a : At F K I ρ σ H) {i : Nat} {p : Addr} {en : Ent} {o : HO} (hp : H p = none) (r : OwnRep K I en o) (ad : ∀ q, en.adr = some q → p = q := by intro _ h; cases h) : At F K I (ρ.set i (some en)) (σ.set i (some (.ref p))) (upd H p o) := by
  have hm : ¬ F.W.mv p := fun m => F.W.live a.st.inv m hp
  have hI := a.st.free hp
  have hB : F.B p = none := by
    cases z : F.B p with
    | none => rfl
    | some u => have := a.stp.h _ _ z hm; rw [hp] at this; cases this
  have ap := a.apart hp
  have w := a.write o hI hm hB ap
  refine ⟨w.stp, by simp [a.len], fun j e h => ?_, fun j l e e' v hjl h1 h2 o1 o2 hv => ?_⟩
  · rcases set_at h with ⟨rfl, q⟩ | ⟨hij, q⟩
    · cases q
      have hi : i < ρ.length := by simpa using (List.getElem?_eq_some_iff.mp h).1
      exact ⟨.ref p, by rw [List.getElem?_set]; simp [← a.len, hi], .inr ⟨p, o, rfl, upd_same, r, hI, hm, hB, ad⟩⟩
    · obtain ⟨v, h1, h2⟩ := w.env j e q
      exact ⟨v, by rw [List.getElem?_set_ne hij]; exact h1, h2⟩
  · rcases set_at h1 with ⟨rfl, q⟩ | ⟨hij, q⟩
    · cases q
      have hi : i < ρ.length := by simpa using (List.getElem?_eq_some_iff.mp h1).1
      have hv' : v = .ref p := by
        rw [List.getElem?_set] at hv
        simp [← a.len, hi] at hv
        exact hv.symm
      subst hv'
      rcases set_at h2 with ⟨rfl, q'⟩ | ⟨hil, q'⟩
      · exact absurd rfl hjl
      · rw [List.getElem?_set_ne hil]
        exact ap l e' q' o2
    · rcases set_at h2 with ⟨rfl, q'⟩ | ⟨hil, q'⟩
      · cases q'
        rw [List.getElem?_set_ne hij] at hv
        intro z
        have hi : i < ρ.length := by simpa using (List.getElem?_eq_some_iff.mp h2).1
        rw [List.getElem?_set] at z
        simp [← a.len, hi] at z
        subst z
        exact ap j e q o1 hv
      · rw [List.getElem?_set_ne hij] at hv
        rw [List.getElem?_set_ne hil]
        exact a.dis j l e e' v hjl q q' o1 o2 hv
theorem OwnAt.other {e : Ent} {p q : Addr} {o u : HO} (h : OwnAt F K I H e p o) (n : p ≠ q) : OwnAt F K I (upd H q u) e p o := ⟨by rw [upd_ne n]; exact h.hp, h.rep, h.ni, h.nm, h.nb, h.ad⟩
/-- .. turned -/
theorem At.turnOwn (a : At F K I ρ σ H) {i : Nat} {en : Ent} (h : ρ[i]? = some (some en)) (ho : en.isOwn) : ∃ p o, σ[i]? = some (some (.ref p)) ∧ OwnAt F K I H en p o ∧ ∀ en' o', OwnRep K I en' o' → (∀ q, en'.adr = some q → p = q) → At F K I (ρ.set i (some en')) σ (upd H p o') := by
  obtain ⟨v, h1, h2⟩ := a.env i _ h
  obtain ⟨p, o, rfl, w⟩ := h2.own ho
  refine ⟨p, o, h1, w, fun en' o' rw' ad => ?_⟩
  refine ⟨⟨a.stp.i, ⟨fun c u e => ?_, a.st.imm, F.W.frame (.refl _) (fun c hm => upd_ne fun z => w.nm (z ▸ hm)) a.st.inv⟩, fun c u e hm => ?_, a.stp.new⟩, by simp [a.len], fun j e hj => ?_, fun j l e e' v hjl h3 h4 o1 o2 hv => ?_⟩
  · rw [upd_ne (ne_of_none e w.ni)]; exact a.st.sub _ _ e
  · rw [upd_ne (ne_of_none e w.nb)]; exact a.stp.h _ _ e hm
  · rcases set_at hj with ⟨rfl, q⟩ | ⟨hij, q⟩
    · cases q
      exact ⟨.ref p, h1, .inr ⟨p, o', rfl, upd_same, rw', w.ni, w.nm, w.nb, ad⟩⟩
    · obtain ⟨u, h3, h4⟩ := a.env j e q
      refine ⟨u, h3, ?_⟩
      rcases h4 with ⟨d, rfl, r⟩ | ⟨p', o2, rfl, w'⟩
      · exact .inl ⟨d, rfl, r⟩
      · exact .inr ⟨p', o2, rfl, w'.other fun z => by subst z; exact a.dis i j _ _ _ hij h q ho w'.rep.isOwn h1 h3⟩
  · have back : ∀ (k : Nat) (f : Ent), (ρ.set i (some en'))[k]? = some (some f) → f.isOwn → ∃ f', ρ[k]? = some (some f') ∧ f'.isOwn := fun k f hk hf => by
      rcases set_at hk with ⟨rfl, _⟩ | ⟨_, q⟩
      · exact ⟨_, h, ho⟩
      · exact ⟨f, q, hf⟩
    obtain ⟨f, q1, p1⟩ := back j e h3 o1
    obtain ⟨f', q2, p2⟩ := back l e' h4 o2
    exact a.dis j l f f' v hjl q1 q2 p1 p2 hv
/-- .. it stands still from now on -/
theorem At.freeze (a : At F K I ρ σ H) {i : Nat} {en : Ent} (h : ρ[i]? = some (some en)) (ho : en.isOwn) : ∃ p o, σ[i]? = some (some (.ref p)) ∧ OwnAt F K I H en p o ∧ Same I (upd I p o) ∧ At F K (upd I p o) (ρ.set i (some (.dat en.toD))) σ H := by
  obtain ⟨v, h1, h2⟩ := a.env i _ h
  obtain ⟨p, o, rfl, w⟩ := h2.own ho
  have s : Same I (upd I p o) := Same.laid w.ni
  refine ⟨p, o, h1, w, s, a.stp.freeze w.ni w.nm w.nb w.hp, by simp [a.len], fun j e hj => ?_, fun j l e e' v hjl h3 h4 o1 o2 hv => ?_⟩
  · rcases set_at hj with ⟨rfl, q⟩ | ⟨hij, q⟩
    · cases q
      exact ⟨.ref p, h1, .inl ⟨_, rfl, (w.rep.mono s).rep upd_same w.ad⟩⟩
    · obtain ⟨u, h3, h4⟩ := a.env j e q
      refine ⟨u, h3, ?_⟩
      rcases h4 with ⟨d, rfl, r⟩ | ⟨p', o2, rfl, w'⟩
      · exact .inl ⟨d, rfl, r.mono s⟩
      · exact .inr ⟨p', o2, rfl, w'.hp, w'.rep.mono s, by rw [upd_ne fun z => by subst z; exact a.dis i j _ _ _ hij h q ho w'.rep.isOwn h1 h3]; exact w'.ni, w'.nm, w'.nb, w'.ad⟩
  · have back : ∀ (k : Nat) (f : Ent), (ρ.set i (some (.dat en.toD)))[k]? = some (some f) → f.isOwn → ρ[k]? = some (some f) := fun k f hk hf => by
      rcases set_at hk with ⟨rfl, q⟩ | ⟨_, q⟩
      · cases q; exact hf.elim
      · exact q
    exact a.dis j l e e' v hjl (back j e h3 o1) (back l e' h4 o2) o1 o2 hv
/-- x = [..], to grow -/
theorem ds_own {x : Str} {pos' p2 : Pos} (i : Nat) (ha : DA F X es ta) (hN : X.N.Nodup) (hi : X.N[i]? = some x := by rfl) (hx : Loc X.env.scope x := by first | exact Or.inl rfl | exact Or.inr rfl) (hs : swapsWith (.List es p2) (some (.Name x pos')) pos.line X.env = pure false := by rfl)
    (hf : X.fn x = true ∨ X.env.scope.names.lookup x = some .local := by first | exact .inl rfl | exact .inr rfl | assumption) : DSt F X (.Assign [.Name x pos'] (.List es p2) pos) (fun Z ρ => ta ρ fun ds => ds.length ≤ sizeLine ∧ Z.nx (ρ.set i (some (.own ds)))) := by
  refine ⟨fun Z Z' ρ l q => ha.mono _ _ _ (fun d q => ⟨q.1, l.nx _ q.2⟩) q, (ps_set hN hi hx (pe_lst ha.run) hs hf).imp fun Z σ H ⟨I, ρ, A, q⟩ => rdA_next ha.mono A q fun ds vs I' H' p s rs => ⟨rs.length ▸ p.1, fun a hz => ?_⟩⟩
  exact p.2 I' _ _ s.i ((A.step s).newOwn hz ⟨_, rfl, rs⟩)
/-- x.append(e) -/
theorem ds_append {x : Str} {p1 p2 p3 : Pos} (i : Nat) (he : DE F X e te) (hN : X.N[i]? = some x := by rfl) (hv : Vis X.env.scope x := by first | exact Or.inl rfl | exact Or.inr (Or.inl rfl) | exact Or.inr (Or.inr rfl)) (hd : (x == ("__debug__" : Str)) = false := by decide)
    (hcd : (x == ("__classdict__" : Str)) = false := by decide) (hsw : swapsWith (.Call (.Attribute (.Name x p1) "append" p2) [e] [] p3) none pos.line X.env = pure false := by rfl) (hbase : attributeBase (.Name x p1) "append" X.env (eval (.Name x p1) X.env) = eval (.Name x p1) X.env := by rfl)
    (hfew : ((backTo p3 (starEach [e] X.env)).all (fun x => !x.1) && (backToKw p3 (keywordEach [] X.env)).all (fun x => x.1.isSome) && decide ([e].length + ([] : List Keyword).length + (if ([] : List Keyword).isEmpty then 0 else 1) < 30)) = true := by rfl)
    (hline : (p2.endLine == p3.line) = true := by rfl) (hst : starEach [e] X.env = (false, eval e X.env) :: starEach [] X.env := by rfl) (hpl : (backTo p3 (starEach [] X.env)).any (·.1) = false := by rfl) :
    DSt F X (.Expr (.Call (.Attribute (.Name x p1) "append" p2) [e] [] p3) pos) (fun Z ρ => ∃ xs, ρ[i]? = some (some (.own xs)) ∧ te ρ fun d => xs.length < sizeLine ∧ Z.nx (ρ.set i (some (.own (xs ++ [d]))))) := by
  refine ⟨fun Z Z' ρ l ⟨xs, h, q⟩ => ⟨xs, h, he.mono _ _ _ (fun d q => ⟨q.1, l.nx _ q.2⟩) q⟩,
    (ps_expr (pe_bm PySem.F.plainAttrs_list PySem.F.slot_list_append PySem.F.type_list_append mt_append (pv i hN hv hd hcd) (pa_cons he.run pa_nil hst) hbase hfew hline hst hpl) hsw).imp fun Z σ H ⟨I, ρ, A, q⟩ => ?_⟩
  obtain ⟨xs, hx, q⟩ := q
  obtain ⟨p, o, h1, w, _⟩ := A.turnOwn hx trivial
  obtain ⟨vs, rfl, _⟩ := w.rep
  refine ⟨_, h1, .inl ⟨rfl, vs, .of w.hp⟩, rdE_next he.mono A q fun d v I' H' q' s rv => ?_⟩
  have A' := A.step s
  obtain ⟨p', o', h1', w', turn⟩ := A'.turnOwn hx trivial
  obtain ⟨ws, rfl, r⟩ := w'.rep
  rw [h1] at h1'
  cases h1'
  exact ⟨p, ws, v, rfl, rfl, w'.hp, by rw [r.length]; exact q'.1, q'.2 I' σ _ s.i (turn _ _ ⟨_, rfl, r.append (.cons rv .nil)⟩ (by intro _ h; cases h))⟩
/-- what a slot holds, own or not -/
def ownOf (ρ : DEnv) (i : Nat) (Q : Ent → Prop) : Prop := ∃ en, ρ[i]? = some (some en) ∧ en.isOwn ∧ Q en
/-- from here on x only stands -/
theorem dss_freeze (i : Nat) (h : DSts F X sts t) : DSts F X sts (fun Z ρ => ownOf ρ i fun en => t Z (ρ.set i (some (.dat en.toD)))) := by
  refine ⟨fun Z Z' ρ l ⟨xs, e, o, q⟩ => ⟨xs, e, o, h.mono _ _ _ l q⟩, h.run.imp fun Z σ H ⟨I, ρ, A, en, e, o, q⟩ => ?_⟩
  obtain ⟨p, vs, _, _, s, A'⟩ := A.freeze e o
  exact ⟨_, _, A', h.mono _ _ _ (ends.le s) q⟩
theorem OwnRep.noext {K : PySem.W.Frag} {I : Hp} {e : Ent} {o : HO} (h : OwnRep K I e o) : ∀ φ, o ≠ .ext φ := by
  intro φ z
  subst z
  cases e with
  | dat _ => exact h
  | own _ => exact nomatch h.choose_spec.1
  | ownD _ => exact nomatch h.choose_spec.1
  | ownO _ _ _ => exact nomatch h.choose_spec.choose_spec.1
  | ownQ _ _ => exact nomatch h.choose_spec.1
  | ownF _ _ => exact nomatch h.choose_spec.choose_spec.1
  | ownL _ _ => exact nomatch h.choose_spec.1
  | ownT _ _ => exact nomatch h.choose_spec.1
theorem lend_step {p : Addr} {o : HO} (n : I p = none) (hp : H p = some o) (hx : ∀ φ, o ≠ .ext φ) (s2 : Stp F.W (upd I p o) H I' H') : Stp F.W I H (fun b => if b = p then none else I' b) H' := by
  have np : ∀ b u, I b = some u → b ≠ p := fun b u e => ne_of_none e n
  have s := Same.laid (o := o) n
  refine ⟨fun c u e => ?_, ⟨fun c u e => ?_, fun c u e => ?_, F.W.frame (fun c φ e => ?_) (fun _ _ => rfl) s2.st.inv⟩, s2.h, fun c u e z => ?_⟩
  · rw [if_neg (np c u e)]; exact s2.i _ _ (s _ _ e)
  · split at e
    · cases e
    · exact s2.st.sub _ _ e
  · split at e
    · cases e
    · exact s2.st.imm _ _ e
  · rw [if_neg fun z => hx φ (by rw [z, s2.i p o upd_same] at e; exact Option.some.inj e)]; exact e
  · by_cases hc : c = p
    · rw [if_pos hc]
    · rw [if_neg hc]; exact s2.new _ _ e (by rw [upd_ne hc]; exact z)
/-- x is read in an expression whose value holds nothing of it -/
theorem de_lend (i : Nat) (h : DE F X e te) : DE F X e (fun ρ Q => ownOf ρ i fun en => te (ρ.set i (some (.dat en.toD))) fun d => scalD d = true ∧ Q d) := by
  refine ⟨fun ρ Q Q' k ⟨xs, e, o, q⟩ => ⟨xs, e, o, h.mono _ _ _ (fun d q => ⟨q.1, k _ q.2⟩) q⟩, h.run.imp fun σ H Q ⟨I, ρ, A, en, e, o, q⟩ => ?_⟩
  obtain ⟨p, u, _, w, s, A'⟩ := A.freeze e o
  refine ⟨_, _, A', h.mono _ _ _ (fun d ⟨sc, q⟩ v I2 H2 s2 rv => q v _ H2 (lend_step w.ni w.hp w.rep.noext s2) ?_) q⟩
  cases rv <;> first | (cases sc; done) | constructor
theorem dt_lend (i : Nat) {tc : DB} (h : DTest F X e tc) : DTest F X e (fun ρ Q => ownOf ρ i fun en => tc (ρ.set i (some (.dat en.toD))) Q) := by
  refine ⟨fun ρ Q Q' k ⟨xs, e, o, q⟩ => ⟨xs, e, o, h.mono _ _ _ k q⟩, h.run.imp fun σ H Q ⟨I, ρ, A, en, e, o, q⟩ => ?_⟩
  obtain ⟨p, u, _, w, s, A'⟩ := A.freeze e o
  exact ⟨_, _, A', h.mono _ _ _ (fun d q I2 H2 s2 => q _ H2 (lend_step w.ni w.hp w.rep.noext s2)) q⟩
end
def tyN : D → Option String
  | .non => some "NoneType"
  | .bl _ => some "bool"
  | .int _ => some "int"
  | .str _ => some "str"
  | .tup _ => some "tuple"
  | .lst _ => some "list"
  | .dic _ => some "dict"
  | .dfz _ => some "dict"
  | _ => none
def isTup : D → Bool | .tup _ => true | _ => false
def isStr : D → Bool | .str _ => true | _ => false
def isBl : D → Bool | .bl _ => true | _ => false
/-- a built-in kind of value -/
def known (d : D) : Bool := (tyN d).isSome
structure IsT (T : String) (p : D → Bool) : Prop where
  k : ∀ d t, tyN d = some t → kitB t T = some (p d)
theorem is_tup : IsT "tuple" isTup := ⟨fun d t h => by cases d <;> first | (cases h; done) | (cases h; exact (show kitB _ _ = some true by decide +kernel)) | (cases h; exact (show kitB _ _ = some false by decide +kernel))⟩
theorem is_str : IsT "str" isStr := ⟨fun d t h => by cases d <;> first | (cases h; done) | (cases h; exact (show kitB _ _ = some true by decide +kernel)) | (cases h; exact (show kitB _ _ = some false by decide +kernel))⟩
theorem is_bool : IsT "bool" isBl := ⟨fun d t h => by cases d <;> first | (cases h; done) | (cases h; exact (show kitB _ _ = some true by decide +kernel)) | (cases h; exact (show kitB _ _ = some false by decide +kernel))⟩
section
variable {F : Fx} {X : Cx} {K : PySem.W.Frag} {I H : Hp} {e : Expr} {te : DT} {T : String} {p : D → Bool} {x : Str} {q1 q2 pos : Pos}
theorem Rep.ty {v : V} {d : D} {t : String} (s : Same I H) (r : Rep K I v d) (h : tyN d = some t) : TyX K H v (.type t) := by
  cases r with
  | non => cases h; exact .base .non
  | bl b => cases h; exact .base (.bl b)
  | int b => cases h; exact .base (.int b)
  | str b => cases h; exact .base (.str b)
  | tup a r =>
    cases h
    rcases Same.seqT s a with (a | ⟨o, a⟩) | ⟨o, its, n, a, c, _⟩
    · exact .base (.tup a)
    · exact .fTuple a
    · exact .kTuple a c
  | lst a r => cases h; exact .base (.lst (s _ _ a))
  | dic a _ r => cases h; exact .base (.dK (s _ _ a))
  | obj _ _ _ => cases h
  | opq _ => cases h
  | dfz a _ r => cases h; exact .fDict (s _ _ a)
  | ptp _ _ _ => cases h
theorem de_isi (hT : IsT T p) (hm : X.mg "isinstance" = none) (hx : X.mg x = none) (hv : bootBuiltins x = some (.type T)) (he : DE F X e te) (hg : Gl X "isinstance" := by rfl) (hgx : Gl X x := by rfl) (hn : x ≠ "__name__" := by decide) (hdb : (x == ("__debug__" : Str)) = false := by decide)
    (h1 : starEach [e, .Name x q2] X.env = (false, eval e X.env) :: starEach [.Name x q2] X.env := by rfl) (h2 : starEach [Expr.Name x q2] X.env = (false, eval (.Name x q2) X.env) :: starEach [] X.env := by rfl) (hpl : (backTo pos (starEach [Expr.Name x q2] X.env)).any (·.1) = false := by rfl) :
    DE F X (.Call (.Name "isinstance" q1) [e, .Name x q2] [] pos) (fun ρ Q => te ρ fun d => known d = true ∧ Q (.bl (p d))) := by
  refine ⟨fun ρ Q Q' k q => he.mono _ _ _ (fun d q => ⟨q.1, k _ q.2⟩) q, (pe_callB call_isi hg hm (by decide +kernel) (pa_cons he.run (pa_cons (pe_bltn (v := .ty T) hgx hx hv rfl hn hdb) pa_nil h2) h1) (by decide) (by decide) h1 hpl).imp fun σ H Q ⟨I, ρ, A, q⟩ => ?_⟩
  refine rdE_next he.mono A q fun d v I' H' q' s rv => ?_
  obtain ⟨kn, q'⟩ := q'
  unfold known at kn
  obtain ⟨t, ht⟩ := Option.isSome_iff_exists.mp kn
  exact ⟨v, .ty T, .type t, .type T, p d, rfl, .ty T, rv.ty s.st.sub ht, kit_ty (hT.k d t ht), q' _ _ _ s (.bl _)⟩
end
def strD (x : D) (Q : Str → Prop) : Prop := ∃ a, x = .str a ∧ Q a
theorem strD.mono {x : D} {Q Q' : Str → Prop} (k : ∀ a, Q a → Q' a) (h : strD x Q) : strD x Q' := let ⟨a, e, q⟩ := h; ⟨a, e, k a q⟩
section
variable {F : Fx} {X : Cx} {K : PySem.W.Frag} {o e : Expr} {to te : DT} {apos pos : Pos} {R : V → List V → Hp → VK → Prop}
/-- s.m(e), by values -/
theorem m1_run {r : Str → D → (D → Prop) → Prop} (mr : ∀ a y (Q Q' : D → Prop), (∀ d, Q d → Q' d) → r a y Q → r a y Q') (l : ∀ a (y : V) (dy : D) (I H : Hp) (Q : VK), StI F.W I H → Rep X.K I y dy → r a dy (fin F X.K I H Q) → R (.str a) [y] H Q)
    (ho : DE F X o to) (he : DE F X e te) {σ : St} {H : Hp} {Q : VK} (h : rdE F X.K (fun ρ Q => to ρ fun x => strD x fun a => te ρ fun y => r a y Q) σ H Q) : tM1 R (rdE F X.K to) (rdE F X.K te) σ H Q := by
  obtain ⟨I, ρ, A, h⟩ := h
  refine rdE_next ho.mono A h fun d v I1 H1 q1 s1 r1 => ?_
  obtain ⟨a, rfl, q1⟩ := q1
  cases r1
  refine ⟨⟨a, rfl⟩, rdE_next he.mono (A.step s1) q1 fun y w I2 H2 q2 s2 r2 => ?_⟩
  exact l a w y I2 H2 Q s2.st r2 (mr _ _ _ _ (fun z hz => hz.of (s1.trans s2)) q2)
theorem m1_mono {r : Str → D → (D → Prop) → Prop} (mr : ∀ a y (Q Q' : D → Prop), (∀ d, Q d → Q' d) → r a y Q → r a y Q') (ho : DE F X o to) (he : DE F X e te) :
    ∀ ρ (Q Q' : D → Prop), (∀ d, Q d → Q' d) → (to ρ fun x => strD x fun a => te ρ fun y => r a y Q) → (to ρ fun x => strD x fun a => te ρ fun y => r a y Q') :=
  fun ρ Q Q' k h => ho.mono _ _ _ (fun d h => h.mono fun a h => he.mono _ _ _ (fun y h => mr _ _ _ _ k h) h) h
def joinD (a : Str) (y : D) (Q : D → Prop) : Prop := ∃ ys : List Str, (y = .lst (ys.map D.str) ∨ y = .tup (ys.map D.str)) ∧ (ys.map (·.length)).sum + ys.length * a.length ≤ 16777216 ∧ Q (.str (Txt.join a ys))
theorem mono_join : ∀ a y (Q Q' : D → Prop), (∀ d, Q d → Q' d) → joinD a y Q → joinD a y Q' := fun a y Q Q' k ⟨ys, h2, h3, q⟩ => ⟨ys, h2, h3, k _ q⟩
theorem de_join (ho : DE F X o to) (he : DE F X e te) (hs : starEach [e] X.env = [(false, eval e X.env)] := by rfl) (hbase : attributeBase o "join" X.env (eval o X.env) = eval o X.env := by rfl) (hline : (apos.endLine == pos.line) = true := by rfl) :
    DE F X (.Call (.Attribute o "join" apos) [e] [] pos) (fun ρ Q => to ρ fun x => strD x fun a => te ρ fun y => joinD a y Q) := by
  refine ⟨m1_mono mono_join ho he, (pe_join ho.run he.run hs hbase hline).imp fun σ H Q q => m1_run mono_join (fun a y dy I H Q st ry h => ?_) ho he q⟩
  obtain ⟨ys, h1, h2, q⟩ := h
  rcases h1 with rfl | rfl
  · cases ry with
    | lst b r => exact ⟨a, _, ys, rfl, rfl, .inl (r.strsV ▸ .of (st.sub _ _ b)), h2, q _ _ _ st.stp (.str _)⟩
  · cases ry with
    | tup b r => exact ⟨a, _, ys, rfl, rfl, .inr (r.strsV ▸ Same.seqT st.sub b), h2, q _ _ _ st.stp (.str _)⟩
/-- s.index(y), found -/
def sidxD (a : Str) (y : D) (Q : D → Prop) : Prop := ∃ b k, y = .str b ∧ Txt.index0 a b = some k ∧ Q (.int (k : Nat))
theorem de_sindex {W : WX} (hc : X.calm = true) (tk : Takes X W) (ho : DE F X o to) (he : DE F X e te) (hbase : attributeBase o "index" X.env (eval o X.env) = eval o X.env := by rfl)
    (hfew : ((backTo pos (starEach [e] X.env)).all (fun x => !x.1) && (backToKw pos (keywordEach [] X.env)).all (fun x => x.1.isSome) && decide ([e].length + ([] : List Keyword).length + (if ([] : List Keyword).isEmpty then 0 else 1) < 30)) = true := by rfl)
    (hline : (apos.endLine == pos.line) = true := by rfl) (hs : starEach [e] X.env = (false, eval e X.env) :: starEach [] X.env := by rfl) (hplain : (backTo pos (starEach [] X.env)).any (·.1) = false := by rfl) :
    DE F X (.Call (.Attribute o "index" apos) [e] [] pos) (fun ρ Q => to ρ fun x => strD x fun a => te ρ fun y => sidxD a y Q) := by
  refine ⟨m1_mono (fun a y Q Q' k ⟨b, j, h1, h2, q⟩ => ⟨b, j, h1, h2, k _ q⟩) ho he, (pe_bmS PySem.F.plainAttrs_str PySem.F.slot_str_index PySem.F.type_str_index (mt_indexX hc tk) ho.run (pa_cons he.run pa_nil hs) hbase hfew hline hs hplain).imp fun σ H Q ⟨I, ρ, A, h⟩ => ?_⟩
  refine rdE_next ho.mono A h fun d v I1 H1 q1 s1 r1 => ?_
  obtain ⟨a, rfl, q1⟩ := q1
  cases r1
  refine ⟨rfl, rdE_next he.mono (A.step s1) q1 fun y w I2 H2 q2 s2 r2 => ?_⟩
  obtain ⟨b, k, rfl, hk, q2⟩ := q2
  cases r2
  refine ⟨a, b, rfl, rfl, fun k' hk' => ?_, fun z => by rw [hk] at z; cases z⟩
  rw [hk] at hk'
  cases hk'
  exact q2 _ _ _ (s1.trans s2) (.int _)
end
def sortedD : List D → (D → Prop) → Prop
  | [.lst xs], Q => plainDs xs = true ∧ PySem.W.AllAlike (xs.map toPy) ∧ PySem.W.Sortable (xs.map toPy) ∧ xs.length ≤ sizeLine ∧ (∀ x ∈ xs, (toPy x).depth ≤ 50) ∧ Q (.lst (xs.mergeSort (PySem.W.dataLe false toPy)))
  | _, _ => False
theorem mono_sortedD : MonoN sortedD := by
  intro ds Q Q' k h
  unfold sortedD at h ⊢
  split at h
  · exact ⟨h.1, h.2.1, h.2.2.1, h.2.2.2.1, h.2.2.2.2.1, k _ h.2.2.2.2.2⟩
  · exact h.elim
theorem plainDs_mem : ∀ {xs : List D}, plainDs xs = true → ∀ x ∈ xs, plainD x = true
  | [], _, x, h => by simp at h
  | d :: ds, p, x, h => by
    unfold plainDs at p
    rw [Bool.and_eq_true] at p
    rcases List.mem_cons.mp h with rfl | h
    · exact p.1
    · exact plainDs_mem p.2 x h
section
variable {F : Fx} {X : Cx} {e : Expr} {t : DAT} {p pos : Pos}
theorem each_of {K : PySem.W.Frag} {I : Hp} : ∀ {us : List Value} {vs : List V} {ds : List D}, Vals vs us → Reps K I vs ds → PySem.W.EachIs (fun u d => ∃ v, RelV v u ∧ Rep K I v d) us ds
  | _, _, _, .nil, h => by cases h; exact .nil
  | _, _, _, .cons r t, h => by
    cases h with
    | cons a b => exact .cons ⟨_, r, a⟩ (each_of t b)
theorem each_back {K : PySem.W.Frag} {I : Hp} : ∀ {us : List Value} {ds : List D}, PySem.W.EachIs (fun u d => ∃ v, RelV v u ∧ Rep K I v d) us ds → ∃ vs, Vals vs us ∧ Reps K I vs ds
  | _, _, .nil => ⟨[], .nil, .nil⟩
  | _, _, .cons ⟨v, r, a⟩ t => by
    obtain ⟨vs, h1, h2⟩ := each_back t
    exact ⟨v :: vs, .cons r h1, .cons a h2⟩
theorem each_imp {α β : Type} {R S : α → β → Prop} : ∀ {as : List α} {bs : List β}, PySem.W.EachIs R as bs → (∀ a b, b ∈ bs → R a b → S a b) → PySem.W.EachIs S as bs
  | _, _, .nil, _ => .nil
  | _, _, .cons r t, k => .cons (k _ _ (by simp) r) (each_imp t fun a b hb => k a b (List.mem_cons_of_mem _ hb))
theorem de_sorted (hm : X.mg "sorted" = none) (hu : X.A.units + 64 < cLine) (ha : DA F X [e] t) (hg : Gl X "sorted" := by rfl) (he : starEach [e] X.env = (false, eval e X.env) :: starEach [] X.env := by rfl) : DE F X (.Call (.Name "sorted" p) [e] [] pos) (fun ρ Q => t ρ fun ds => sortedD ds Q) := by
  refine de_callB (id := "sorted") (R := fun vs H Q => ∃ I ds, StI F.W I H ∧ Reps X.K I vs ds ∧ sortedD ds (fin F X.K I H Q)) mono_sortedD (fun vs ds I H Q st rs h => ⟨I, ds, st, rs, h⟩) ?_ hm (by decide +kernel) ha hg (by decide) (by decide) he rfl
  intro pins s σ H xs us Q J r h
  obtain ⟨I, ds, st, rs, h⟩ := h
  unfold sortedD at h
  split at h
  · rename_i es
    obtain ⟨pl, al, so, hl, dp, q⟩ := h
    obtain ⟨v, rfl, rv⟩ := rs.one
    obtain ⟨u, rfl, ru⟩ := vals1 r
    cases rv with
    | @lst a ws _ ha' rw' =>
      cases ru
      obtain ⟨its, rI, hL, hz⟩ := J.list (.of (st.sub _ _ ha'))
      have e1 := each_of rI rw'
      refine PySem.W.sorted_data (enc := toPy) hL.isList e1 (each_imp e1 fun u d hd ⟨v, h1, h2⟩ => ?_) al so hl (fun b hb => by have := dp b hb; omega) fun out hlen eo => ?_
      · exact Dp.reads J _ _ _ (h2.dp st.sub (plainDs_mem pl d hd)) h1
      · obtain ⟨vs', v1, v2⟩ := each_back eo
        obtain ⟨ep, he'⟩ := PyProof.Rows.sortedAll_at s.heap its (List.toArray out)
        have hf : H (s.heap.objs.size + 1) = none := J.hok.fresh (Nat.le_succ _)
        have lay := st.laid hf (.lst vs')
        refine ⟨.ref _, upd H (s.heap.objs.size + 1) (.lst vs'), J.laid (t' := s.toks) (fun _ _ => PyProof.Rows.sortedAll_old) (Nat.le_succ _) ⟨by rw [v2.length, List.length_mergeSort]; exact hl, out, ep, v1, he'⟩, rfl, ?_⟩
        exact q _ _ _ lay (.lst upd_same (v2.mono lay.i))
  · exact h.elim
end
end Dk
namespace Dk
open PySem L2
structure Cal (P : Program) (w : World) (K : PySem.W.Frag) (mg : Str → Option Value) (base : Heap) (CX : CXT) (W : Wd) (k : Nat) (x : Str) (ps : List Str) (S : DSp) : Prop where
  ex : ∃ f fd, GnOk P w K mg base CX k f fd ps (spD W K S) ∧ mg x = some (.ref f) ∧ PySem.W.keepIn K (.ref f) = true ∧ Binds K fd ps []
/-- .. by keywords alone: ks their names as written, g their order -/
structure CalK (P : Program) (w : World) (K : PySem.W.Frag) (mg : Str → Option Value) (base : Heap) (CX : CXT) (W : Wd) (k : Nat) (x : Str) (ps ks : List Str) (g : {α : Type} → List α → List α) (S : DSp) : Prop where
  ex : ∃ f fd, GnOk P w K mg base CX k f fd ps (spD W K S) ∧ mg x = some (.ref f) ∧ PySem.W.keepIn K (.ref f) = true ∧ KBn K fd ps 0 ks (fun _ ws => g ws) (fun _ zs => g zs)
  rel : ∀ {K : PySem.W.Frag} {I : Hp} {vs : List V} {ds : List D}, Reps K I vs ds → Reps K I (g vs) (g ds)
section
variable {F : Fx} {X : Cx} {K : PySem.W.Frag} {CX : CXT} {W : Wd} {k : Nat} {x nm : Str} {ps ks : List Str} {S : DSp} {E : XK} {p pos kpos : Pos} {e : Expr} {es : List Expr} {t tk : DAT} {te : DT} {Ed : Ex → Prop} {kws : List Keyword} {g : {α : Type} → List α → List α}
theorem _root_.L2.PK.imp {t u : TA} (h : PK X kws t) (i : ∀ σ H Q, u σ H Q → t σ H Q) : PK X kws u := ⟨fun pos pins s σ H Q J q => h.run pos pins s σ H Q J (i σ H Q q)⟩
theorem de_fn (C : Cal X.prog X.w X.K X.mg X.base CX F.W k x ps S) (hr : Rm k X.A) (hx : Passes CX X E) (le : Lets F X.K Ed E) (ha : DA F X (e :: es) t)
    (hg : Gl X x := by rfl) (hdb : (x == ("__debug__" : Str)) = false := by decide) (he : starEach (e :: es) X.env = (false, eval e X.env) :: starEach es X.env := by rfl) (hpl : (backTo pos (starEach es X.env)).any (·.1) = false := by rfl) :
    DE F X (.Call (.Name x p) (e :: es) [] pos) (fun ρ Q => t ρ fun ds => S.f ds Q Ed) := by
  obtain ⟨f, fd, h1, h2, h3, h4⟩ := C.ex
  exact de_call h1 hr h2 h3 h4 hx le ha hg hdb he hpl
end
theorem pss_any {X : Cx} {sts : List Stmt} {ι : Type} {F : ι → Fx} {t : ι → DTS} (h : ∀ i, DSts (F i) X sts (t i)) : PSs X sts (fun Z σ H => ∃ i, rdS (F i) X.K (t i) Z σ H) := ⟨fun pins s σ H Z J ⟨i, q⟩ => (h i).run.run pins s σ H Z J q⟩
section
variable {P : Program} {w : World} {K : PySem.W.Frag} {mg : Str → Option Value} {base : Heap} {CX : CXT} {W : Wd} {k : Nat} {x qual : Str} {st : Stmt} {f : Addr} {fd : FuncData} {ps ks : List Str} {S : DSp} {g : {α : Type} → List α → List α}
theorem Cal.of (Fn : Fun K x qual st f fd) (G : GnOk P w K mg base CX k f fd ps (spD W K S)) (m : mg x = some (.ref f))
    (h : ∀ (kV doc pm : Value) (an : Option Addr) (cdv ct : Value) (us : List Value), us.length = ps.length → bindArgs (PySem.W.fnOf x qual (defArgs st) (defBody st) (defScope st) .none kV doc pm an cdv ct) ⟨us, []⟩ = pure (ps.zip us)) : Cal P w K mg base CX W k x ps S :=
  ⟨f, fd, G, m, Fn.kp, Fn.binds h⟩
theorem CalK.of (Fn : Fun K x qual st f fd) (G : GnOk P w K mg base CX k f fd ps (spD W K S)) (m : mg x = some (.ref f)) (rV : ∀ {vs : List V} {us : List Value}, Vals vs us → Vals (g vs) (g us)) (rD : ∀ {K : PySem.W.Frag} {I : Hp} {vs : List V} {ds : List D}, Reps K I vs ds → Reps K I (g vs) (g ds))
    (h : ∀ (kV doc pm : Value) (an : Option Addr) (cdv ct : Value) (ws : List Value), ws.length = ks.length → bindArgs (PySem.W.fnOf x qual (defArgs st) (defBody st) (defScope st) .none kV doc pm an cdv ct) ⟨[], ks.zip ws⟩ = pure (ps.zip (g ws))) : CalK P w K mg base CX W k x ps ks g S := by
  refine ⟨⟨f, fd, G, m, Fn.kp, ⟨fun s us ws _ l1 l2 => ?_, fun _ r => rV r⟩⟩, rD⟩
  obtain ⟨oc, od, kV, doc, pm, an, cdv, ct, osl, rfl, lk, hcd⟩ := Fn.ex
  obtain rfl : us = [] := List.length_eq_zero_iff.mp l1
  exact .of_eq (h kV doc pm an cdv ct ws l2)
end
/-- what a draw tells: any number below the most -/
def spDraw (a : Addr) : DSp where
  n := 2
  f := fun ds Q _ => ∃ m : Int, ds = [.opq a, .int m] ∧ 0 < m ∧ m.natAbs.log2 < 9000 ∧ ∀ v : Int, 0 ≤ v → v < m → Q (.int v)
  len := fun ds Q E ⟨m, e, _⟩ => by rw [e]; rfl
  mono := fun ds Q Q' E E' k _ ⟨m, e, h, h', q⟩ => ⟨m, e, h, h', fun v a b => k _ (q v a b)⟩
theorem shaped_ints (ns : List Int) : SeqAt.shaped (.list (ns.map .int)) = true := by
  have h1 : ∀ ns : List Int, PyData.canLayAll0 (ns.map .int) = true := fun ns => by
    induction ns with
    | nil => simp [PyData.canLayAll0]
    | cons n ns ih => simp [PyData.canLayAll0, PyData.canLay0, ih]
  have h2 : ∀ ns : List Int, PyData.depthAll (ns.map .int) = 0 := PySem.W.depth_ints
  unfold SeqAt.shaped
  simp [PyData.canLay0, PyData.depth, h1, h2]
theorem dp_ints {K : PySem.W.Frag} {H : Hp} : ∀ ns : List Int, DpAll K H (ns.map V.int) (ns.map PyData.int)
  | [] => .nil
  | n :: ns => .cons (.int n) (dp_ints ns)
theorem eqv_nil (ns : List Int) : PyData.eqv (.list (ns.map .int)) (.list []) = ns.isEmpty := by
  cases ns <;> simp [PyData.eqv, PyData.eqvAll]
end Dk
namespace Dk
open PySem L2
def deckAt (a l : Addr) (H : Hp) : Prop := ∃ (ns : List Int) (s t : Int), H a = some (.lst [.ref l, .int s, .int t]) ∧ H l = some (.lst (ns.map V.int)) ∧ ns.length ≤ 63 ∧ a ≠ l
def DeckW (a l : Addr) : Wd where
  mv := fun b => b = a ∨ b = l
  inv := fun _ => deckAt a l
  frame := fun {I I' H H'} _ h ⟨ns, s, t, h1, h2, h3⟩ => ⟨ns, s, t, by rw [h a (.inl rfl)]; exact h1, by rw [h l (.inr rfl)]; exact h2, h3⟩
  live := fun {I H b} ⟨ns, s, t, h1, h2, h3⟩ m => by
    rcases m with rfl | rfl
    · rw [h1]; exact fun z => nomatch z
    · rw [h2]; exact fun z => nomatch z
theorem stp_deck {a l : Addr} {I H H' : Hp} (s : StI (DeckW a l) I H) (h : ∀ b o, H b = some o → b ≠ a → b ≠ l → H' b = some o) (d : deckAt a l H') : Stp (DeckW a l) I H I H' := by
  refine ⟨Same.refl I, ⟨fun b o e => ?_, s.imm, d⟩, fun b o e m => h b o e (fun z => m (.inl z)) (fun z => m (.inr z)), fun b o e n => n⟩
  have m := s.imm b o e
  exact h b o (s.sub b o e) (fun z => m (.inl z)) (fun z => m (.inr z))
theorem deck_of {a l : Addr} {I H : Hp} (s : StI (DeckW a l) I H) : deckAt a l H := s.inv
/-- the world of a deck, at the def that has made it -/
theorem at_deck {K : PySem.W.Frag} {a l : Addr} {H : Hp} {σ : St} (i : Nat) (d : deckAt a l H) (hi : σ[i]? = some (some (.ref a))) : At ⟨DeckW a l, H, fun _ => none⟩ K (fun _ => none) ((List.replicate σ.length none).set i (some (.dat (.opq a)))) σ H := by
  refine ⟨⟨fun b o e => (nomatch (show (none : Option HO) = some o from e)), ⟨fun b o e => (nomatch (show (none : Option HO) = some o from e)), fun b o e => (nomatch (show (none : Option HO) = some o from e)), d⟩, fun b o e _ => e, fun b o e n => n⟩, by simp, fun j e h => ?_, fun j j' e e' v hj h1 h2 o1 => ?_⟩
  · rcases set_at h with ⟨rfl, q⟩ | ⟨_, q⟩
    · cases q
      exact ⟨_, hi, .inl ⟨_, rfl, .opq a⟩⟩
    · rw [List.getElem?_replicate] at q
      split at q <;> cases q
  · rcases set_at h1 with ⟨rfl, q⟩ | ⟨_, q⟩
    · cases q
      exact o1.elim
    · rw [List.getElem?_replicate] at q
      split at q <;> cases q
end Dk
namespace Dk
open PySem L2
/-- how it is written -/
def shw (d : D) : Str := (toPy d).shown
section
variable {F : Fx} {X : Cx} {e : Expr} {t : DAT} {p pos : Pos}
/-- a constant of the module -/
theorem de_gs {x y : Str} {pos : Pos} (h : ∃ t, X.mg x = some (.str y t)) (hg : Gl X x := by rfl) (hd : (x == ("__debug__" : Str)) = false := by decide) : DE F X (.Name x pos) (fun _ Q => Q (.str y)) := by
  obtain ⟨t, e⟩ := h
  exact de_gstr hg e ⟨t, rfl⟩ hd
theorem de_gi {x : Str} {y : Int} {pos : Pos} (h : ∃ t, X.mg x = some (.int y t)) (hg : Gl X x := by rfl) (hd : (x == ("__debug__" : Str)) = false := by decide) : DE F X (.Name x pos) (fun _ Q => Q (.int y)) := by
  obtain ⟨t, e⟩ := h
  exact de_gint hg e ⟨t, rfl⟩ hd
end
theorem getD_0 {d : D} {ρ : DEnv} {Q : D → Prop} : getD (some (.dat d) :: ρ) 0 Q = Q d := by simp [getD]
theorem getD_s {x : Option Ent} {ρ : DEnv} {n : Nat} {Q : D → Prop} : getD (x :: ρ) (n + 1) Q = getD ρ n Q := by simp [getD]
theorem set_0 {x y : Option Ent} {ρ : DEnv} : (x :: ρ).set 0 y = y :: ρ := rfl
theorem set_s {x y : Option Ent} {ρ : DEnv} {n : Nat} : (x :: ρ).set (n + 1) y = x :: ρ.set n y := rfl
theorem forD_ind {g : DGT} {tb : DTS} {Z : DEnds} (P : List D → DEnv → Prop) (h0 : ∀ ρ, P [] ρ → Z.nx ρ) (h1 : ∀ d ds ρ (R : DEnv → Prop), P (d :: ds) ρ → (∀ ρ', P ds ρ' → R ρ') → g d ρ fun ρ2 => tb { Z with nx := R, ct := R, bk := Z.nx } ρ2) : ∀ (ds : List D) (ρ : DEnv), P ds ρ → forD g tb Z ds ρ
  | [], ρ, h => h0 ρ h
  | d :: ds, ρ, h => h1 d ds ρ (forD g tb Z ds) h fun ρ' h' => forD_ind P h0 h1 ds ρ' h'
theorem eqD_int {x y : Int} {Q : D → Prop} : eqD (.int x) (.int y) Q = Q (.bl (decide (x = y))) := by
  have e : deq (.int x) (.int y) = decide (x = y) := by simp [deq, toPy, PyData.eqv]; rfl
  simp [eqD, canEq, scalD, mixD, e]
theorem neD_int {x y : Int} {Q : D → Prop} : neD (.int x) (.int y) Q = Q (.bl (!decide (x = y))) := by
  have e : deq (.int x) (.int y) = decide (x = y) := by simp [deq, toPy, PyData.eqv]; rfl
  simp [neD, canEq, scalD, mixD, e]
theorem eqD_str {x y : Str} {Q : D → Prop} : eqD (.str x) (.str y) Q = Q (.bl (decide (x = y))) := by
  have e : deq (.str x) (.str y) = decide (x = y) := by simp [deq, toPy, PyData.eqv]; rfl
  simp [eqD, canEq, scalD, mixD, e]
theorem neD_str {x y : Str} {Q : D → Prop} : neD (.str x) (.str y) Q = Q (.bl (!decide (x = y))) := by
  have e : deq (.str x) (.str y) = decide (x = y) := by simp [deq, toPy, PyData.eqv]; rfl
  simp [neD, canEq, scalD, mixD, e]
theorem boolD_bl {b : Bool} {Q : Bool → Prop} : boolD (.bl b) Q = Q b := by simp [boolD]
theorem intD_int {i : Int} {Q : Int → Prop} : intD (.int i) Q = Q i := by simp [intD]
structure OkN (k : Nat) (d : D) : Prop where
  pl : plainD d = true
  cl : (toPy d).canLay0 = true
  dp : (toPy d).depth ≤ k
theorem OkN.mono {j k : Nat} {d : D} (h : OkN j d) (l : j ≤ k) : OkN k d := ⟨h.pl, h.cl, Nat.le_trans h.dp l⟩
theorem okN_str {x : Str} (h : PyData.strOk x = true) : OkN 0 (.str x) := ⟨rfl, by simp [toPy, PyData.canLay0, h], by simp [toPy, PyData.depth]⟩
theorem okNs {k : Nat} : ∀ {xs : List D}, (∀ x ∈ xs, OkN k x) → plainDs xs = true ∧ PyData.canLayAll0 (toPys xs) = true ∧ PyData.depthAll (toPys xs) ≤ k
  | [], _ => by simp [plainDs, toPys, PyData.canLayAll0, PyData.depthAll]
  | x :: xs, h => by
    have h1 := h x (by simp)
    obtain ⟨a, b, c⟩ := okNs fun y hy => h y (List.mem_cons_of_mem _ hy)
    simp only [plainDs, toPys, PyData.canLayAll0, PyData.depthAll, h1.pl, h1.cl, a, b, Bool.and_self, true_and]
    exact Nat.max_le.mpr ⟨h1.dp, c⟩
theorem okN_tup {k : Nat} {xs : List D} (h : ∀ x ∈ xs, OkN k x) : OkN (k + 1) (.tup xs) := by
  obtain ⟨a, b, c⟩ := okNs h
  exact ⟨by simp [plainD, a], by simp [toPy, PyData.canLay0, b], by simp [toPy, PyData.depth]; exact c⟩
theorem okN_lst {k : Nat} {xs : List D} (h : ∀ x ∈ xs, OkN k x) : OkN (k + 1) (.lst xs) := by
  obtain ⟨a, b, c⟩ := okNs h
  exact ⟨by simp [plainD, a], by simp [toPy, PyData.canLay0, b], by simp [toPy, PyData.depth]; exact c⟩
theorem OkN.okE {k : Nat} {d : D} (h : OkN k d) (l : k ≤ 64) : Dk.okE d = true := by
  unfold Dk.okE SeqAt.shaped
  simp only [h.pl, h.cl, Bool.and_self, Bool.true_and, decide_eq_true_eq]
  exact Nat.le_trans h.dp l
/-- a comprehension over a list of things, each taken or left -/
theorem lcD_map {α : Type} {g : DGT} {tc : DB} {te : DT} {ρ : DEnv} (f h : α → D) (p : α → Bool) {Q : List D → Prop} : ∀ {l : List α}, (∀ a ∈ l, ∀ (R : D → Prop) (S : Prop), (p a = true → R (h a)) → (p a = false → S) → g (f a) ρ fun ρ2 => tc ρ2 fun b => if b = true then te ρ2 R else S) → Q ((l.filter p).map h) → lcD g tc te ρ (l.map f) Q := by
  intro l
  induction l generalizing Q with
  | nil => intro _ q; exact q
  | cons a l ih =>
    intro hs q
    refine hs a (by simp) _ _ (fun e => ?_) fun e => ?_
    · refine ih (fun b hb => hs b (List.mem_cons_of_mem _ hb)) ?_
      rw [List.filter_cons_of_pos e] at q
      exact q
    · refine ih (fun b hb => hs b (List.mem_cons_of_mem _ hb)) ?_
      rw [List.filter_cons_of_neg (by simp [e])] at q
      exact q
theorem lcD_all {α : Type} {g : DGT} {tc : DB} {te : DT} {ρ : DEnv} (f h : α → D) {Q : List D → Prop} {l : List α} (hs : ∀ a ∈ l, ∀ (R : D → Prop) (S : Prop), R (h a) → g (f a) ρ fun ρ2 => tc ρ2 fun b => if b = true then te ρ2 R else S) (q : Q (l.map h)) : lcD g tc te ρ (l.map f) Q :=
  lcD_map f h (fun _ => true) (fun a ha R S r _ => hs a ha R S (r rfl)) (by rw [List.filter_eq_self.mpr (by simp)]; exact q)
end Dk
namespace Dk
open PySem L2 PySem.Spec PyProof.Rows
theorem law_gn {P : Program} {w : World} {K : PySem.W.Frag} {mg mb : Str → Option Value} {CX : CXT} {k : Nat} {fa a : Addr} {fd : FuncData} {x : Str} {sp : Sp} {s1 : Shared} {us : List Value} {ns : List Int}
    (inK : K.In s1.heap) (inM : s1.heap.Ns mainGlobals mg) (inB : s1.heap.Ns builtinsNs mb) (boots : ∀ x : Str, x ≠ "__name__" → mb x = bootBuiltins x) (noLim : s1.heap.NoLimit) (noGen : s1.gens = #[])
    (isL : s1.heap.get? a = some { cls := .type "list", data := .seq us.toArray }) (its0 : IntsAre us ns) (small : ns.length ≤ sizeLine) (room : Room k callerA)
    (F : ∀ base : Heap, K.In base → base.Ns mainGlobals mg → GnOk P w K mg base CX k fa fd [x] sp) (binds : ∀ (s : Shared) (u : Value), BindsTo s fd ⟨[u], []⟩ [(x, u)])
    (says : ∀ H : Hp, L2.Only H → SqL K H a (ns.map V.int) → sp [.ref a] H (fun v _ => v = .bl true) fun _ _ _ => False) (lets : ∀ H e s', CX [] H s1 (fun _ _ _ => False) e s' → False) :
    codeAny (model P w) callerA (.call (.ref fa) ⟨[.ref a], []⟩) (fun r s' => r = .ok (.ret (.bool true)) ∧ OldK s1.heap s'.heap ∧ s'.os = s1.os ∧ AllBare s'.gens) s1 := by
  have vals := vals_ints its0
  -- a heap that tells of the script, or of nothing
  have main : ∀ H : Hp, L2.Only H → SqL K H a (ns.map V.int) → HOk P w H s1.heap → (∀ b, H b ≠ none → b = a ∧ K.lookup b = none) →
      codeAny (model P w) callerA (.call (.ref fa) ⟨[.ref a], []⟩) (fun r s' => r = .ok (.ret (.bool true)) ∧ OldK s1.heap s'.heap ∧ s'.os = s1.os ∧ AllBare s'.gens) s1 := by
    intro H only sq ok few
    have dict_out : ∀ {b : Addr} {m : Str → Option Value}, s1.heap.Ns b m → (hidT s1.heap H).Ns b m := by
      rintro b m ⟨o, es, ep, e1, e2, e3⟩
      refine ⟨o, es, ep, hidT_get e1 ?_, e2, e3⟩
      rcases hb : H b with _ | u
      · rfl
      · obtain ⟨rfl, _⟩ := few b (by rw [hb]; simp)
        rw [isL] at e1
        cases e1
        exact Data.noConfusion e2
    have inK' : K.In (hidT s1.heap H) := fun b o e => hidT_get (inK b o e) (by
      rcases hb : H b with _ | u
      · rfl
      · have := (few b (by rw [hb]; simp)).2
        rw [this] at e
        cases e)
    obtain ⟨mc, lim1, lim2⟩ := noLim
    have env : Env0 P w K mg (hidT s1.heap H) callerA [] s1 H := { frames := rfl, mod := ⟨inK', dict_out inM, ⟨mb, dict_out inB, boots⟩, ⟨mc, dict_out lim1, lim2⟩⟩, bs := fun b o e => of_hidT e, bsz := Nat.le_of_eq (hidT_size _ _), funs := trivial, frf := (by simp [frs]), hok := ok, bare := .of_eq noGen }
    refine codeAny_mono ((F _ inK' (dict_out inM)).go callerA [] s1 H ⟨[.ref a], []⟩ [.ref a] [.ref a] _ _ ⟨room, rfl⟩ env (binds s1 (.ref a)) (.cons rfl .nil) (says H only sq)) fun r s' q => ?_
    match r, q with
    | .error e, q => exact (lets H e s' q).elim
    | .ok .next, q => exact q.elim
    | .ok .brk, q => exact q.elim
    | .ok .cont, q => exact q.elim
    | .ok (.ret u), ⟨v, H2, os, bare, un, ok2, rel, q⟩ =>
      have q : v = .bl true := q
      subst q
      obtain rfl : u = Value.bool true := rel
      refine ⟨rfl, OldK.of_keep fun b o e => ?_, os, bare⟩
      rcases only b with z | ⟨ob, xs, z⟩
      · exact un.keep b o e z (by simp [frs]) (by simp)
      · obtain ⟨e1, _⟩ := ok b _ z
        obtain ⟨e2, _⟩ := ok2 b _ (un.frzs b ob _ z)
        rw [e1] at e
        cases e
        exact e2
  rcases hk : K.lookup a with _ | o
  · -- the script stands beside the module's objects
    have told : ∀ b u, (if b = a then some (HO.frz { cls := .type "list", data := .seq us.toArray } (.lst (ns.map V.int))) else none) = some u → b = a ∧ u = HO.frz { cls := .type "list", data := .seq us.toArray } (.lst (ns.map V.int)) := fun b u z => by
      split at z
      · exact ⟨by assumption, (Option.some.inj z).symm⟩
      · cases z
    refine main (fun b => if b = a then some (.frz { cls := .type "list", data := .seq us.toArray } (.lst (ns.map V.int))) else none) (fun b => ?_) (.inl (.inr ⟨_, if_pos rfl⟩)) (fun b u z => ?_) fun b z => ?_
    · by_cases hb : b = a
      · right; exact ⟨_, _, if_pos hb⟩
      · left; exact if_neg hb
    · obtain ⟨rfl, rfl⟩ := told b u z
      exact ⟨isL, by rw [List.length_map]; exact small, us, _, vals, isL⟩
    · rcases hb : (if b = a then some (HO.frz { cls := .type "list", data := .seq us.toArray } (.lst (ns.map V.int))) else none) with _ | u
      · exact absurd hb z
      · obtain ⟨rfl, _⟩ := told b u hb
        exact ⟨rfl, hk⟩
  · -- it is one of them
    have e := inK a o hk
    rw [isL] at e
    cases e
    exact main (fun _ => none) (fun _ => .inl rfl) (.inr ⟨_, us.toArray, _, hk, rfl, rfl, rfl, by rw [List.size_toArray, its0.length]; exact small, by simpa using vals⟩) (fun b u z => (nomatch (show (none : Option HO) = some u from z))) fun b z => absurd rfl z
end Dk
namespace Dk
open PySem L2 PySem.Spec PyProof.Rows
/-- all tests of a clause -/
def tests (ifs : List Expr) (env : Env) : Sem Bool := forIn ifs true fun c r => if r = true then do let ok ← isTrue c env (eval c env); pure (ForInStep.yield ok) else pure (ForInStep.yield r)
/-- what follows the k-th clause's tests -/
def behind (e : Expr) (gens : List Comprehension) (emit : Sem Unit) (k : Nat) (acc : Value) (env : Env) (next : Sem Fin) : Sem Fin :=
  match gens[k + 1]? with
  | none => do
    emit
    next
  | some g => do
    let x ← eval g.iter env
    standAt g.iter.pos
    let y ← foldedSetIterable g.iter env x
    let it ← holding [y] (pyIter y)
    let _ ← runOwn (.compStart e (k + 1) it acc env) env
    next
/-- a comprehension: its clauses, what it does with an element -/
structure IsCp (e : Expr) (gens : List Comprehension) (emit : Value → Env → Sem Unit) : Prop where
  cl : clausesOf e = gens
  fl : ∀ (k : Nat) (it acc : Value) (env : Env), (Code.compLoop e k it acc env).isFrame = false ∧ (Code.compStart e k it acc env).isFrame = false
  un : ∀ (A : Around) (k : Nat) (it acc : Value) (env : Env), A.under (.compLoop e k it acc env) = A ∧ A.under (.compStart e k it acc env) = A
  turn : ∀ (k : Nat) (tg iter : Expr) (ifs : List Expr) (it acc : Value) (env : Env), gens[k]? = some ⟨tg, iter, ifs, 0⟩ → (∀ g, gens[k + 1]? = some g → g.is_async = 0) → compTurn e k it acc env = (do
    standAt iter.pos
    match ← pyNext it with
    | none => pure (.done .next)
    | some v => do
      letOwnedTupleGo tg it v
      assign tg env v
      let ok ← tests ifs env
      if ok then behind e gens (emit acc env) k acc env (again (.compLoop e k it acc env))
      else again (.compLoop e k it acc env))
theorem cp_list (elt : Expr) (gens : List Comprehension) (scope : Scope) (pos : Pos) : IsCp (.ListComp elt gens scope pos) gens (fun acc env => do let _ ← call (.builtin "list.append") [acc, ← eval elt env]) := by
  refine ⟨rfl, fun _ _ _ _ => ⟨rfl, rfl⟩, fun _ _ _ _ _ => ⟨rfl, rfl⟩, fun k tg iter ifs it acc env hg hn => ?_⟩
  unfold compTurn behind tests
  simp only [hg]
  cases h : gens[k + 1]? with
  | none => rfl
  | some g => 
    have := hn g h
    simp only [this]
    rfl
theorem cp_set (elt : Expr) (gens : List Comprehension) (scope : Scope) (pos : Pos) : IsCp (.SetComp elt gens scope pos) gens (fun acc env => do let v ← eval elt env; standAt elt.pos; let _ ← call (.builtin "set.add") [acc, v]) := by
  refine ⟨rfl, fun _ _ _ _ => ⟨rfl, rfl⟩, fun _ _ _ _ _ => ⟨rfl, rfl⟩, fun k tg iter ifs it acc env hg hn => ?_⟩
  unfold compTurn behind tests
  simp only [hg]
  cases h : gens[k + 1]? with
  | none => rfl
  | some g => 
    have := hn g h
    simp only [this]
    rfl
theorem cp_dict (kx vx : Expr) (gens : List Comprehension) (scope : Scope) (pos : Pos) : IsCp (.DictComp kx vx gens scope pos) gens (fun acc env => do
    let kv ← eval kx env
    let vv ← holding [kv] (eval vx env)
    match acc with
    | .ref d => do
      standAt { kx.pos with endLine := vx.pos.endLine, endCol := vx.pos.endCol }
      holding [kv, vv] (dictSet d kv vv)
    | _ => unsupported "internal:dictcomp") := by
  refine ⟨rfl, fun _ _ _ _ => ⟨rfl, rfl⟩, fun _ _ _ _ _ => ⟨rfl, rfl⟩, fun k tg iter ifs it acc env hg hn => ?_⟩
  unfold compTurn behind tests
  simp only [hg]
  cases h : gens[k + 1]? with
  | none => rfl
  | some g => 
    have := hn g h
    simp only [this]
    rfl
/-- it runs on to what comes next, in a state that the post tells -/
def Onward (M : Model) (A : Around) (bh : Sem Fin → Sem Fin) (post : Shared → Prop) (s : Shared) : Prop :=
  ∀ (next : Sem Fin) (Q : Fin → Shared → Prop) (E : Value → Shared → Prop), (∀ s', post s' → wpAny M A next Q E s') → wpAny M A (bh next) Q E s
section
variable {prog : Program} {w : World} {A : Around} {R : Result → Shared → Prop} {s : Shared} {e tg iter : Expr} {ifs : List Expr} {gens : List Comprehension} {emit : Value → Env → Sem Unit} {k : Nat} {it acc : Value} {env : Env}
theorem cp_loop (c : IsCp e gens emit) (hg : gens[k]? = some ⟨tg, iter, ifs, 0⟩) (hn : ∀ g, gens[k + 1]? = some g → g.is_async = 0) (I : Nat → Shared → Prop)
    (turn : ∀ n s, I n s → wpAny (model prog w) A (pyNext it) (fun r s1 => match r with
      | none => R (.ok .next) s1
      | some v => wpAny (model prog w) A (letOwnedTupleGo tg it v) (fun _ s2 => wpAny (model prog w) A (assign tg env v) (fun _ s3 => wpAny (model prog w) A (tests ifs env) (fun b s4 =>
          if b = true then Onward (model prog w) A (behind e gens (emit acc env) k acc env) (fun s5 => ∃ m, m < n ∧ I m s5) s4 else ∃ m, m < n ∧ I m s4) (fun _ _ => False) s3) (fun _ _ => False) s2) (fun _ _ => False) s1) (fun _ _ => False) s)
    (n : Nat) (h : I n s) : codeAny (model prog w) A (.compLoop e k it acc env) R s := by
  refine codeAny_loop rfl I (fun n s hI => ?_) n h
  have ed : (model prog w).den (.compLoop e k it acc env) = (compTurn e k it acc env).onRaise (fun x => do noteFrame x env; theTreesLotGoes x) := by
    show (if (Code.compLoop e k it acc env).isFrame = true then _ else _) = _
    rw [if_neg (by rw [(c.fl k it acc env).1]; exact Bool.false_ne_true)]
  rw [ed, (c.un A k it acc env).1]
  refine wpAny_noted ?_
  rw [c.turn k tg iter ifs it acc env hg hn]
  refine wpAny_bind (wpAny_standAt (wpAny_bind (thnF (turn n s hI) fun r s1 h1 => ?_)))
  cases r with
  | none => exact wpAny_pure h1
  | some v =>
    refine wpAny_bind (thnF h1 fun _ s2 h2 => wpAny_bind (thnF h2 fun _ s3 h3 => wpAny_bind (thnF h3 fun b s4 h4 => ?_)))
    cases b with
    | false => exact wpAny_pure ⟨rfl, h4⟩
    | true => exact h4 _ _ _ fun s5 h5 => wpAny_pure ⟨rfl, h5⟩
theorem cp_start (c : IsCp e gens emit) (hg : gens[k]? = some ⟨tg, iter, ifs, 0⟩) (h0 : codeAny (model prog w) A (.compLoop e k it acc env) R s)
    (h : wpAny (model prog w) A (pyIter it) (fun it' s' => codeAny (model prog w) A (.compLoop e k it' acc env) R s') (fun _ _ => False) s) : codeAny (model prog w) A (.compStart e k it acc env) R s := by
  refine codeAny_of_tree ?_
  have ed : (model prog w).den (.compStart e k it acc env) = (compStart e k it acc env).onRaise (fun x => do noteFrame x env; standAt theWindowsPlace) := by
    show (if (Code.compStart e k it acc env).isFrame = true then _ else _) = _
    rw [if_neg (by rw [(c.fl k it acc env).2]; exact Bool.false_ne_true)]
  rw [ed, (c.un A k it acc env).2]
  refine wpAny_notedAt ?_
  unfold compStart
  rw [c.cl, hg]
  show wpAny _ _ (ask >>= _) _ _ s
  refine wpAny_bind (wpAny_askSetting (wpAny_ite ?_))
  split
  · first
      | exact wpAny_bind (wpAny_pure (wpAny_pure (And.intro rfl h0)))
      | exact wpAny_pure (And.intro rfl h0)
  · first
      | exact wpAny_bind (wpAny_rule (wpAny_bind (wpAny_standAt (wpAny_bind (thnF h fun it' s' h' => wpAny_pure (And.intro rfl h'))))))
      | (refine wpAny_bind (wpAny_rule ?_); show wpAny _ _ (standAt iter.pos >>= _) _ _ s; exact wpAny_bind (wpAny_standAt (wpAny_bind (thnF h fun it' s' h' => wpAny_pure (And.intro rfl h')))))
end
abbrev TN := L2.St → Hp → (Hp → Prop) → Prop
/-- what is done with an element, to the object at D -/
structure Emit (Y : Cx) (em : Sem Unit) (T : TN) : Prop where
  run : ∀ (pins : List (Addr × Obj)) (s : Shared) (σ : L2.St) (H : Hp) (Nx : Hp → Prop), Inv Y pins σ H s → T σ H Nx → wpAny (model Y.prog Y.w) Y.A em (fun _ s' => ∃ H', Inv Y pins σ H' s' ∧ Nx H') (fun _ _ => False) s
/-- the clauses behind the k-th; vs: the slots that they store in -/
structure Nest (Y : Cx) (e : Expr) (gens : List Comprehension) (em : Sem Unit) (k : Nat) (D : Addr) (vs : List Nat) (T : TN) : Prop where
  run : ∀ (pins : List (Addr × Obj)) (s : Shared) (σ : L2.St) (H : Hp) (Nx : Hp → Prop), Inv Y pins σ H s → T σ H Nx → Onward (model Y.prog Y.w) Y.A (behind e gens em k (.ref D) Y.env) (fun s' => ∃ H', Inv Y pins (wipe σ vs) H' s' ∧ Nx H') s
section
variable {Y : Cx} {e tg iter : Expr} {ifs : List Expr} {gens : List Comprehension} {em : Sem Unit} {emit : Value → Env → Sem Unit} {k : Nat} {D : Addr} {vs vs' : List Nat} {T T' : TN} {wi : TI} {g : TG} {tt : TT}
theorem nest_nil (hk : gens[k + 1]? = none) (h : Emit Y em T) : Nest Y e gens em k D [] T := by
  refine ⟨fun pins s σ H Nx J q next Q E hn => ?_⟩
  unfold behind
  rw [hk]
  exact wpAny_bind (thnF (h.run pins s σ H Nx J q) fun _ s' h' => hn s' h')
/-- one loop of a clause, over an iterator that has come -/
def tLoop (vs : List Nat) (g : TG) (tt : TT) (T' : TN) (J : It) (σ : L2.St) (H4 : Hp) (Nx : Hp → Prop) : Prop :=
  ∃ W : Nat → Nat → Hp → Prop, (∃ m, W 0 m H4) ∧ ∀ i m H, W i m H → (J.stop i H ∧ Nx H) ∨ (J.go i H ∧ ∃ N1 : Hp → Prop, (∀ H', N1 H' → ∃ m', m' < m ∧ W (i + 1) m' H') ∧
    ∀ x H', J.yld i H x H' → g x (wipe σ vs) H' fun σ2 H2 => wipe σ2 vs = wipe σ vs ∧ tt σ2 H2 fun b H3 => if b = true then T' σ2 H3 N1 else N1 H3)
theorem nest_loop {R : Result → Shared → Prop} {s : Shared} {pins : List (Addr × Obj)} {σ : L2.St} {H : Hp} {Nx : Hp → Prop} {J : It} {fp : List Addr} {it : Addr} {tn : Nat → Heap → Prop} (hx : ∀ e s, ¬ Y.xe e s) (hc : Y.calm = true) (c : IsCp e gens emit) (hk : gens[k]? = some ⟨tg, iter, ifs, 0⟩) (hn : ∀ g, gens[k + 1]? = some g → g.is_async = 0)
    (hg : PG Y tg g) (ht : PTs Y ifs tt) (h : Nest Y e gens (emit (.ref D) Y.env) k D vs' T') (hv : ∀ i ∈ vs', i ∈ vs) (I : Inv Y pins σ H s) (Tu : Turn Y.prog Y.w Y.K tg J fp it tn) (st : tn 0 s.heap) (f : ∀ b ∈ fp, FpOk Y pins H b) (q : tLoop vs g tt T' J σ H Nx)
    (hR : ∀ s' H', Inv Y pins (wipe σ vs) H' s' → Nx H' → R (.ok .next) s') : codeAny (model Y.prog Y.w) Y.A (.compLoop e k (.ref it) (.ref D) Y.env) R s := by
  obtain ⟨W, ⟨m0, w0⟩, turn⟩ := q
  have stat : ∀ {H' : Hp}, (∀ b ∈ fp, H' b = none) → ∀ b ∈ fp, FpOk Y pins H' b := fun hn b hb => ⟨hn b hb, (f b hb).2⟩
  refine cp_loop c hk hn (fun n s' => ∃ i H', Inv Y pins (wipe σ vs) H' s' ∧ tn i s'.heap ∧ (∀ b ∈ fp, H' b = none) ∧ W i n H') ?_ m0 ⟨0, H, I.weak (wipe_length _ _) (fun j v e => (wipe_some e).1), st, fun b hb => (f b hb).1, w0⟩
  rintro n s1 ⟨i, H1, I1, st1, n1, w1⟩
  rcases turn i n H1 w1 with ⟨stop, nx⟩ | ⟨go, N1, hN, step⟩
  · refine thnF (Tu.done Y rfl rfl rfl hc i _ s1 (wipe σ vs) H1 (fun _ _ => False) I1 (stat n1) st1 stop) fun r s2 ⟨hr, I2⟩ => ?_
    subst hr
    exact hR s2 H1 I2 nx
  · refine thnF (Tu.item Y rfl rfl rfl hc i _ s1 (wipe σ vs) H1 (fun _ _ => False) I1 (stat n1) st1 go) fun r s2 ⟨u, hr, h2⟩ => ?_
    subst hr
    refine thnF h2 fun _ s3 ⟨x, H3, I3, r3, y3, st3, n3⟩ => ?_
    have I3' := I3.pinned (stat n3) (Tu.obj _ _ st3)
    refine wpAny_mono (hg.run _ s3 (wipe σ vs) H3 x u _ I3' r3 (step x H3 y3)) (fun _ s4 ⟨σ4, H4, I4, hw4, q4⟩ => ?_) fun e s' z => hx e s' z
    refine wpAny_mono (ht.run _ s4 σ4 H4 _ I4 q4) (fun b s5 ⟨H5, I5, q5⟩ => ?_) fun e s' z => hx e s' z
    have fin : ∀ {σ' : L2.St} {s' : Shared} {H' : Hp}, Inv Y (pins ++ pinsAt fp s3.heap) σ' H' s' → wipe σ' vs = wipe σ vs → N1 H' → ∃ m, m < n ∧ ∃ i H', Inv Y pins (wipe σ vs) H' s' ∧ tn i s'.heap ∧ (∀ b ∈ fp, H' b = none) ∧ W i m H' := fun {σ' s' H'} I' hw nx => by
      obtain ⟨m', hm, w'⟩ := hN H' nx
      have pin' : ∀ b ∈ fp, ∀ o, s3.heap.get? b = some o → s'.heap.get? b = some o ∧ H' b = none := fun b hb o e =>
        let z := I'.pin (b, o) (List.mem_append_right _ (List.mem_append_right _ (mem_pinsAt hb e)))
        ⟨z.1, z.2.1⟩
      refine ⟨m', hm, i + 1, H', I'.unpinned.weak (by rw [← hw, wipe_length]) (fun j v e => by rw [← hw] at e; exact (wipe_some e).1), Tu.keep _ _ _ st3 fun b hb o e => (pin' b hb o e).1, fun b hb => ?_, w'⟩
      obtain ⟨o, e, _⟩ := Tu.obj _ _ st3 b hb
      exact (pin' b hb o e).2
    cases b with
    | false =>
      simp only [Bool.false_eq_true, if_false] at q5 ⊢
      exact fin I5 hw4 q5
    | true =>
      simp only [if_true] at q5 ⊢
      intro next Q E hnext
      refine h.run _ s5 σ4 H5 N1 I5 q5 next Q E fun s6 ⟨H6, I6, nx⟩ => hnext s6 (fin I6 ?_ nx)
      rw [← hw4]
      apply List.ext_getElem?
      intro j
      by_cases hj : j ∈ vs
      · by_cases hlt : j < σ4.length
        · rw [Classical.byContradiction fun z => absurd (wipe_at hj z) (by rw [wipe_length]; omega), Classical.byContradiction fun z => absurd (wipe_at hj z) (by omega)]
        · rw [List.getElem?_eq_none (by rw [wipe_length, wipe_length]; omega), List.getElem?_eq_none (by rw [wipe_length]; omega)]
      · rw [wipe_out hj, wipe_out hj, wipe_out fun z => hj (hv j z)]
theorem nest_cons (hx : ∀ e s, ¬ Y.xe e s) (hc : Y.calm = true) (c : IsCp e gens emit) (hk : gens[k + 1]? = some ⟨tg, iter, ifs, 0⟩) (hn : ∀ g, gens[k + 1 + 1]? = some g → g.is_async = 0) (hi : PI Y tg iter wi) (hg : PG Y tg g) (ht : PTs Y ifs tt)
    (h : Nest Y e gens (emit (.ref D) Y.env) (k + 1) D vs' T') (hv : ∀ i ∈ vs', i ∈ vs) (hs : ∀ x, foldedSetIterable iter Y.env x = pure x) :
    Nest Y e gens (emit (.ref D) Y.env) k D vs (fun σ H Nx => wi σ H fun J H4 => tLoop vs g tt T' J σ H4 Nx) := by
  refine ⟨fun pins s σ H Nx I q next Q E hnext => ?_⟩
  unfold behind
  rw [hk]
  refine wpAny_bind (wpAny_mono (hi.run pins s σ H _ I q) (fun x s1 h1 => ?_) fun e s' z => (hx e s' z).elim)
  refine wpAny_bind (wpAny_standAt (wpAny_bind (wpAny_of_eq (hs x) (wpAny_bind (wpAny_holding (wpAny_mono h1 (fun itv s2 h2 => ?_) fun e s' z => (hx e s' z).elim))))))
  obtain ⟨it, fp, tn, J, H2, rfl, I2, Tu, st2, f2, q2⟩ := h2
  refine wpAny_bind (wpAny_runOwn ?_)
  rw [Around.mark_none]
  have loop := nest_loop (R := fun r s' => match r with
    | .ok _ => ∃ H', Inv Y pins (wipe σ vs) H' s' ∧ Nx H'
    | .error _ => False) hx hc c hk hn hg ht h hv I2 Tu st2 f2 q2 fun s' H' I' nx => ⟨H', I', nx⟩
  refine codeAny_mono (cp_start c hk loop (Tu.self Y.A 0 _ _ _ st2 loop)) fun r s' hr => ?_
  cases r with
  | ok f => exact hnext s' hr
  | error e => exact hr.elim
end
/-- a comprehension as a value: o0 the new object, T what follows the first clause's tests -/
def tCp (o0 : Addr → HO) (wi : TI) (vs : List Nat) (g : TG) (tt : TT) (T : Addr → TN) : TE := fun σ H Q => wi σ H fun J H1 => ∀ D, H1 D = none → tLoop vs g tt (T D) J σ (upd H1 D (o0 D)) fun H' => Q (.ref D) H'
section
variable {X : Cx} {e tg iter : Expr} {ifs : List Expr} {rest : List Comprehension} {emit : Value → Env → Sem Unit} {vs' : List Nat} {T : Addr → TN} {wi : TI} {g : TG} {tt : TT} {scope : Scope} {own : List (Str × Nat)} {ob0 : Obj} {o0 : Addr → HO} {newAcc : Sem Value}
theorem cp_core {pins : List (Addr × Obj)} {s : Shared} {σ : L2.St} {H : Hp} {Q : VK} {pos' : Pos} {use : Option (Value → Sem Unit)} {Qf : Value → Shared → Prop}
    (c : IsCp e (⟨tg, iter, ifs, 0⟩ :: rest) emit) (hnw : ∀ {A : Around} {E : Value → Shared → Prop} {Q : Value → Shared → Prop} {s : Shared}, Q (.ref s.heap.objs.size) { s with heap := s.heap.push ob0 } → wpAny (model X.prog X.w) A newAcc Q E s)
    (hob : ∀ (pins : List (Addr × Obj)) (σ : L2.St) (H : Hp) (s : Shared), Inv X pins σ H s → ObjOk X.prog X.w (upd H s.heap.objs.size (o0 s.heap.objs.size)) (s.heap.push ob0) s.heap.objs.size (o0 s.heap.objs.size))
    (hc : X.calm = true) (hN : X.N.Nodup) (I : Inv X pins σ H s) (hi : PI X tg iter wi) (ok : BlkOk X.N X.env.scope scope own) (hrest : ∀ g ∈ rest, g.is_async = 0) (hv : ∀ i ∈ vs', i ∈ own.map (·.2))
    (hg : ∀ (s : Shared) (H : Hp) (C : Addr) (cl : List (Str × Addr)) (fp : List Addr), PG (X.blk s H scope (compEnvC scope cl C X.env) fp) tg g) (ht : ∀ (s : Shared) (H : Hp) (C : Addr) (cl : List (Str × Addr)) (fp : List Addr), PTs (X.blk s H scope (compEnvC scope cl C X.env) fp) ifs tt)
    (hb : ∀ (s : Shared) (H : Hp) (C : Addr) (cl : List (Str × Addr)) (fp : List Addr) (D : Addr), Nest (X.blk s H scope (compEnvC scope cl C X.env) fp) e (⟨tg, iter, ifs, 0⟩ :: rest) (emit (.ref D) (compEnvC scope cl C X.env)) 0 D vs' (T D))
    (hs : ∀ x, foldedSetIterable iter X.env x = pure x) (h : tCp o0 wi (own.map (·.2)) g tt T σ H Q)
    (hRR : ∀ D C s' m H', Inv X pins σ H' s' → Q (.ref D) H' → s'.heap.Ns C m → FpOk X pins H' C → compPost (model X.prog X.w) X.A X.xe use Qf (.ref D) C (.ok .next) s') :
    wpAny (model X.prog X.w) X.A (comprehension e scope X.env pos' newAcc false (eval iter X.env) use) Qf X.xe s := by
  have hfree : ∀ y ∈ scope.names, y.2 = .free → ∃ c, X.env.cells.lookup y.1 = some c := fun y hy e => (ok.free y hy e).elim (fun k => I.ok.has _ (.inl k)) fun k => I.ok.has _ (.inr k)
  refine wpAny_comprehension_free (use := use) c.cl hs (closure_ok hfree) ok.kind (fun y hy e => by rw [ok.uniq y hy, e]) (thn (hi.run pins s σ H _ I h) fun xv s1 hx => thn hx fun itv s2 h2 => ?_)
  obtain ⟨it, fp, tn, J, H2, rfl, I2, Tu, st2, f2, q⟩ := h2
  refine hnw (newEnv_comp ?_)
  generalize hD : s2.heap.objs.size = D
  have hDn : H2 D = none := I2.hok.fresh (Nat.le_of_eq hD)
  have q := q D hDn
  generalize hs3 : ({ s2 with heap := s2.heap.push ob0 } : Shared) = s3
  have I3 : Inv X pins σ (upd H2 D (o0 D)) s3 := by
    subst hs3 hD
    exact I2.laid (t' := s2.toks) (fun b o e => Heap.get?_push_of_some _ e) (Nat.le_refl _) (hob _ _ _ _ I2)
  have h3 : s3.heap = s2.heap.push ob0 := by rw [← hs3]
  have f3 : ∀ b ∈ fp, FpOk X pins (upd H2 D (o0 D)) b ∧ b < s3.heap.objs.size := fun b hb => by
    obtain ⟨o, e, _⟩ := Tu.obj _ _ st2 b hb
    have hlt := Heap.lt_size e
    refine ⟨⟨?_, (f2 b hb).2⟩, by rw [h3, Heap.size_push]; exact Nat.lt_succ_of_lt hlt⟩
    rw [upd_ne (by rw [← hD]; exact Nat.ne_of_lt hlt)]
    exact (f2 b hb).1
  have st3 : tn 0 s3.heap := Tu.keep _ _ _ st2 fun b _ o e => by rw [h3]; exact Heap.get?_push_of_some _ e
  have I4 := block_start I3 ok hN f3
  have pg := hg s3 (upd H2 D (o0 D)) s3.heap.objs.size (cellsFrom (s3.heap.objs.size + 1) scope.names (cloFrom X.env.cells scope.names [])) fp
  have pt := ht s3 (upd H2 D (o0 D)) s3.heap.objs.size (cellsFrom (s3.heap.objs.size + 1) scope.names (cloFrom X.env.cells scope.names [])) fp
  have pb := hb s3 (upd H2 D (o0 D)) s3.heap.objs.size (cellsFrom (s3.heap.objs.size + 1) scope.names (cloFrom X.env.cells scope.names [])) fp D
  show codeAny _ _ (.compStart e 0 (.ref it) (.ref D) (compEnvC scope (cellsFrom (s3.heap.objs.size + 1) scope.names (cloFrom X.env.cells scope.names [])) s3.heap.objs.size X.env)) (compPost (model X.prog X.w) X.A X.xe use Qf (.ref D) s3.heap.objs.size) { s3 with heap := pushCells (s3.heap.push { cls := .type "dict", data := .dict #[] }) scope.names }
  have nfp : ∀ b ∈ fp, (upd H2 D (o0 D)) b = none := fun b hb => (f3 b hb).1.1
  generalize hce : compEnvC scope (cellsFrom (s3.heap.objs.size + 1) scope.names (cloFrom X.env.cells scope.names [])) s3.heap.objs.size X.env = ce at I4 pg pt pb ⊢
  have cL : ce.locals = s3.heap.objs.size := by subst hce; rfl
  generalize hH3 : upd H2 D (o0 D) = H3 at I3 I4 pg pt pb q nfp f3
  generalize hs4 : ({ s3 with heap := pushCells (s3.heap.push { cls := .type "dict", data := .dict #[] }) scope.names } : Shared) = s4 at I4 ⊢
  have st4 : tn 0 s4.heap := Tu.keep _ _ _ st3 fun b _ o e => by rw [← hs4]; exact pushCells_keeps _ _ _ _ (Heap.get?_push_of_some _ e)
  have stat : ∀ b ∈ fp, FpOk (X.blk s3 H3 scope ce fp) [] H3 b := fun b hb =>
    ⟨nfp b hb, (I4.ok.exf b hb).1, I4.ok.exfs b hb, .inl hb, fun x c e => (I4.ok.exf b hb).2 x c e, fun p hp => absurd (show p ∈ ([] : List (Addr × Obj)) ++ [] from hp) (by simp)⟩
  have loop := nest_loop (Y := X.blk s3 H3 scope ce fp) (k := 0) (D := D) (pins := []) (vs := own.map (·.2)) (σ := wipe σ (own.map (·.2))) (H := H3) (Nx := fun H' => Q (.ref D) H') (J := J) (fp := fp) (it := it) (tn := tn) (s := s4) (R := compPost (model X.prog X.w) X.A X.xe use Qf (.ref D) s3.heap.objs.size) (fun _ _ z => z) hc c rfl (fun g hg => hrest g (List.mem_of_getElem? (by simpa using hg))) pg pt pb hv I4 Tu st4 stat
    (by
      obtain ⟨W, w0, turn⟩ := q
      exact ⟨W, w0, fun i m H w => by rw [wipe_wipe]; exact turn i m H w⟩)
    fun s' H' I6 qq => by
      have I7 : Inv X pins σ H' s' := I3.call' (ch := fp) I6.os I6.base I6.hok I6.bare fun b hb => ⟨(f3 b hb).1.2.2.2.1, (f3 b hb).1.2.1, (f3 b hb).1.2.2.2.2.1, (f3 b hb).1.2.2.2.2.2⟩
      have nC : H' s3.heap.objs.size = none := by
        have z : H' ce.locals = none := I6.free
        rw [cL] at z
        exact z
      obtain ⟨m, hn, _⟩ := I6.loc
      have hn : s'.heap.Ns ce.locals m := hn
      rw [cL] at hn
      exact hRR D s3.heap.objs.size s' m H' I7 qq hn (I3.fpOk (Nat.le_refl _) nC)
  exact cp_start c rfl loop (Tu.self X.A 0 _ _ _ st4 loop)
end
end Dk
namespace Dk
open PySem L2
/-- all but the object at D -/
def dropA (H : Hp) (D : Addr) : Hp := fun b => if b = D then none else H b
theorem dropA_ne {H : Hp} {D b : Addr} (h : b ≠ D) : dropA H D b = H b := if_neg h
theorem dropA_at {H : Hp} {D b : Addr} {o : HO} (h : dropA H D b = some o) : b ≠ D ∧ H b = some o := by
  unfold dropA at h
  split at h
  · cases h
  · exact ⟨by assumption, h⟩
section
variable {W : Wd} {I H I' H' : Hp} {D : Addr} {F : Fx} {K : PySem.W.Frag} {ρ : DEnv} {σ : L2.St}
theorem StI.drop (s : StI W I H) (n : I D = none) (m : ¬ W.mv D) : StI W I (dropA H D) :=
  ⟨fun b o e => by rw [dropA_ne (ne_of_none e n)]; exact s.sub b o e, s.imm, W.frame (.refl _) (fun b hb => dropA_ne fun z => m (z ▸ hb)) s.inv⟩
theorem Stp.dropR (s : Stp W I (dropA H D) I' H') (n : I' D = none) (m : ¬ W.mv D) : Stp W I (dropA H D) I' (dropA H' D) :=
  ⟨s.i, s.st.drop n m, fun b o e k => by rw [dropA_ne (dropA_at e).1]; exact s.h b o e k, fun b o e k => s.new b o e k⟩
theorem Stp.dropL (s : Stp W I H I' H') (n : I' D = none) (m : ¬ W.mv D) : Stp W I (dropA H D) I' (dropA H' D) :=
  ⟨s.i, s.st.drop n m, fun b o e k => by rw [dropA_ne (dropA_at e).1]; exact s.h b o (dropA_at e).2 k, fun b o e k => s.new b o (dropA_at e).2 k⟩
theorem Stp.intro (s : Stp W I (dropA H D) I' (dropA H' D)) : Stp W I (dropA H D) I' H' := by
  refine ⟨s.i, ⟨fun b o e => (dropA_at (s.st.sub b o e)).2, s.st.imm, ?_⟩, fun b o e k => (dropA_at (s.h b o e k)).2, s.new⟩
  refine W.frame (.refl _) (fun b hb => ?_) s.st.inv
  by_cases hd : b = D
  · exact absurd (show dropA H' D b = none from if_pos hd) (W.live s.st.inv hb)
  · exact (dropA_ne hd).symm
/-- the object at D is written, still no one's -/
structure InD (F : Fx) (I H : Hp) (ρ : DEnv) (σ : L2.St) (D : Addr) : Prop where
  ni : I D = none
  nm : ¬ F.W.mv D
  nb : F.B D = none
  ap : Apart ρ σ D
theorem At.drop (a : At F K I ρ σ H) (d : InD F I H ρ σ D) : At F K I ρ σ (dropA H D) := by
  refine ⟨⟨a.stp.i, a.st.drop d.ni d.nm, fun b o e k => by rw [dropA_ne (ne_of_none e d.nb)]; exact a.stp.h b o e k, a.stp.new⟩, a.len, fun i e h => ?_, a.dis⟩
  obtain ⟨v, h1, h2⟩ := a.env i e h
  refine ⟨v, h1, ?_⟩
  rcases h2 with ⟨x, rfl, r⟩ | ⟨p, o, rfl, w⟩
  · exact .inl ⟨x, rfl, r⟩
  · exact .inr ⟨p, o, rfl, by rw [dropA_ne fun z => by subst z; exact d.ap i _ h w.rep.isOwn h1]; exact w.hp, w.rep, w.ni, w.nm, w.nb, w.ad⟩
theorem InD.step (d : InD F I H ρ σ D) (s : I' D = none) : InD F I' H' ρ σ D := ⟨s, d.nm, d.nb, d.ap⟩
theorem Apart.wipe (h : Apart ρ σ D) (vs : List Nat) : Apart (wipeD ρ vs) (wipe σ vs) D := fun i e he o hv => by
  obtain ⟨h1, h2⟩ := wipeD_some he
  exact h i e h1 o (wipe_some hv).1
theorem Apart.kept {ρ' : DEnv} {σ' : L2.St} {js : List Nat} (h : Apart ρ σ D) (k : Kept js ρ ρ') (o : Only js σ σ') : Apart ρ' σ' D := fun i e he ow hv => by
  obtain ⟨h1, h2⟩ := k i e he ow
  exact h i e h2 ow ((o.2 i h1).symm.trans hv)
end
/-- what is told of the object at D: β its state -/
abbrev HoldsD (β : Type) := Addr → PySem.W.Frag → Hp → HO → β → Prop
abbrev DNT (β : Type) := DEnv → β → (β → Prop) → Prop
def finN {β : Type} (F : Fx) (K : PySem.W.Frag) (Hd : HoldsD β) (D : Addr) (I H : Hp) (Nx : Hp → Prop) : β → Prop :=
  fun b => ∀ I' H' o, Stp F.W I (dropA H D) I' H' → H' D = some o → I' D = none → Hd D K I' o b → Nx H'
/-- the reading t stands for the raw reading T -/
def NSays {β : Type} (F : Fx) (K : PySem.W.Frag) (Hd : HoldsD β) (D : Addr) (t : DNT β) (T : TN) : Prop :=
  ∀ (I H : Hp) (ρ : DEnv) (σ : L2.St) (o : HO) (b : β) (Nx : Hp → Prop), At F K I ρ σ H → InD F I H ρ σ D → H D = some o → Hd D K I o b → t ρ b (finN F K Hd D I H Nx) → T σ H Nx
structure DNest (F : Fx) (Y : Cx) (e : Expr) (gens : List Comprehension) (emit : Value → Env → Sem Unit) (k : Nat) (vs : List Nat) {β : Type} (Hd : HoldsD β) (t : DNT β) : Prop where
  mono : ∀ ρ b (Q Q' : β → Prop), (∀ b, Q b → Q' b) → t ρ b Q → t ρ b Q'
  run : ∀ D, ∃ T, Nest Y e gens (emit (.ref D) Y.env) k D vs T ∧ NSays F Y.K Hd D t T
structure DEmit (F : Fx) (Y : Cx) (emit : Value → Env → Sem Unit) {β : Type} (Hd : HoldsD β) (t : DNT β) : Prop where
  mono : ∀ ρ b (Q Q' : β → Prop), (∀ b, Q b → Q' b) → t ρ b Q → t ρ b Q'
  run : ∀ D, ∃ T, Emit Y (emit (.ref D) Y.env) T ∧ NSays F Y.K Hd D t T
def loopD {β : Type} (g : DGT) (tc : DB) (t : DNT β) (ρ : DEnv) : List D → β → (β → Prop) → Prop
  | [], b, Q => Q b
  | d :: ds, b, Q => g d ρ fun ρ2 => tc ρ2 fun c => if c = true then t ρ2 b fun b' => loopD g tc t ρ ds b' Q else loopD g tc t ρ ds b Q
section
variable {F : Fx} {X Y : Cx} {K : PySem.W.Frag} {e tg iter : Expr} {ifs : List Expr} {gens rest : List Comprehension} {emit : Value → Env → Sem Unit} {k : Nat} {vs vs' js : List Nat} {β : Type} {Hd : HoldsD β} {t : DNT β} {ti : DAT} {g : DGT} {tc : DB}
theorem loopD.mono (hgm : ∀ d ρ (Q Q' : DEnv → Prop), (∀ ρ, Q ρ → Q' ρ) → g d ρ Q → g d ρ Q') (htm : ∀ ρ (Q Q' : Bool → Prop), (∀ d, Q d → Q' d) → tc ρ Q → tc ρ Q') (hm : ∀ ρ b (Q Q' : β → Prop), (∀ b, Q b → Q' b) → t ρ b Q → t ρ b Q') (ρ : DEnv) :
    ∀ (ds : List D) (b : β) (Q Q' : β → Prop), (∀ b, Q b → Q' b) → loopD g tc t ρ ds b Q → loopD g tc t ρ ds b Q'
  | [], b, Q, Q', k, h => k _ h
  | d :: ds, b, Q, Q', k, h => hgm _ _ _ _ (fun ρ2 q => htm _ _ _ (fun c q => by
      cases c
      · exact loopD.mono hgm htm hm ρ ds b _ _ k q
      · exact hm _ _ _ _ (fun b' => loopD.mono hgm htm hm ρ ds b' _ _ k) q) q) h
theorem dn_nil (hk : gens[k + 1]? = none) (h : DEmit F Y emit Hd t) : DNest F Y e gens emit k [] Hd t :=
  ⟨h.mono, fun D => let ⟨T, h1, h2⟩ := h.run D; ⟨T, nest_nil hk h1, h2⟩⟩
theorem loop_run {J : It} {I H : Hp} {ρ : DEnv} {σ : L2.St} {o : HO} {b : β} {D : Addr} {Nx : Hp → Prop} {T : TN} {ds : List Dk.D} (Hmono : ∀ D K I I' o b, Same I I' → Hd D K I o b → Hd D K I' o b)
    (hgm : DG F Y tg js g) (htm : ∀ ρ (Q Q' : Bool → Prop), (∀ d, Q d → Q' d) → tc ρ Q → tc ρ Q') (tm : ∀ ρ b (Q Q' : β → Prop), (∀ b, Q b → Q' b) → t ρ b Q → t ρ b Q') (says : NSays F K Hd D t T) (hjs : ∀ j ∈ js, j ∈ vs)
    (jr : JRep F.W K J I ds) (A : At F K I ρ σ H) (d : InD F I H ρ σ D) (hD : H D = some o) (hb : Hd D K I o b) (q : loopD g tc t (wipeD ρ vs) ds b (finN F K Hd D I H Nx)) :
    tLoop vs (rdG F K js g) (rdT F K tc) T J σ H Nx := by
  have s0 : Stp F.W I (dropA H D) I H := Stp.intro (A.st.drop d.ni d.nm).stp
  refine ⟨fun i m H2 => m = ds.length - i ∧ i ≤ ds.length ∧ ∃ I2 o2 b2, Stp F.W I (dropA H D) I2 H2 ∧ H2 D = some o2 ∧ I2 D = none ∧ Hd D K I2 o2 b2 ∧ loopD g tc t (wipeD ρ vs) (ds.drop i) b2 (finN F K Hd D I H Nx), ⟨ds.length, by simp, Nat.zero_le _, I, o, b, s0, hD, d.ni, hb, by simpa using q⟩, ?_⟩
  rintro i m H2 ⟨rfl, hi, I2, o2, b2, s2, hD2, n2, hb2, q2⟩
  have A0 := (A.drop d).wipe vs
  by_cases hlt : i < ds.length
  · refine .inr ⟨jr.go i I2 H2 s2.i s2.st hlt, fun H3 => ∃ I3 o3 b3, Stp F.W I (dropA H D) I3 H3 ∧ H3 D = some o3 ∧ I3 D = none ∧ Hd D K I3 o3 b3 ∧ loopD g tc t (wipeD ρ vs) (ds.drop (i + 1)) b3 (finN F K Hd D I H Nx), fun H3 h => ⟨ds.length - (i + 1), by omega, rfl, hlt, h⟩, fun x H3 y => ?_⟩
    obtain ⟨dx, I3, hd, s3, rx⟩ := jr.yld i I2 H2 x H3 hlt s2.i s2.st y
    rw [List.drop_eq_getElem_cons hlt] at q2
    have hdx : ds[i] = dx := by
      rw [List.getElem?_eq_getElem hlt] at hd
      exact Option.some.inj hd
    rw [hdx] at q2
    -- step over the turn's start
    have n3 : I3 D = none := s3.new D o2 hD2 n2
    have s23 : Stp F.W I (dropA H D) I3 H3 := Stp.intro ((s2.dropR n2 d.nm).trans (s3.dropL n3 d.nm))
    have A3 : At F K I3 (wipeD ρ vs) (wipe σ vs) H3 := A0.step s23
    have q2 : g dx (wipeD ρ vs) fun ρ2 => tc ρ2 fun c => if c = true then t ρ2 b2 fun b' => loopD g tc t (wipeD ρ vs) (ds.drop (i + 1)) b' (finN F K Hd D I H Nx) else loopD g tc t (wipeD ρ vs) (ds.drop (i + 1)) b2 (finN F K Hd D I H Nx) := q2
    refine ⟨I3, wipeD ρ vs, dx, A3, rx, hgm.mono _ _ _ _ (fun ρ4 ⟨q4, kp⟩ I4 σ4 H4 A4 s4 o4 => ⟨?_, ?_⟩) (hgm.keeps _ _ _ q2)⟩
    · rw [wipe_only o4 hjs, wipe_wipe]
    have d4 : H4 D = some o2 := s4.h _ _ (s3.h _ _ hD2 d.nm) d.nm
    have n4 : I4 D = none := s4.new _ _ (s3.h _ _ hD2 d.nm) n3
    have s24 : Stp F.W I (dropA H D) I4 H4 := Stp.intro ((s23.dropR n3 d.nm).trans (s4.dropL n4 d.nm))
    refine ⟨I4, ρ4, A4, htm _ _ _ (fun c q5 I5 H5 s5 => ?_) q4⟩
    have d5 : H5 D = some o2 := s5.h _ _ d4 d.nm
    have n5 : I5 D = none := s5.new _ _ d4 n4
    have s25 : Stp F.W I (dropA H D) I5 H5 := Stp.intro ((s24.dropR n4 d.nm).trans (s5.dropL n5 d.nm))
    have hb5 : Hd D K I5 o2 b2 := Hmono _ _ _ _ _ _ (Same.trans s3.i (Same.trans s4.i s5.i)) hb2
    cases c with
    | false => exact ⟨I5, o2, b2, s25, d5, n5, hb5, q5⟩
    | true =>
      refine says I5 H5 ρ4 σ4 o2 b2 _ (A4.step s5) ⟨n5, d.nm, d.nb, (d.ap.wipe vs).kept kp o4⟩ d5 hb5 (tm _ _ _ _ (fun b6 q6 I6 H6 o6 s6 d6 n6 hb6 => ?_) q5)
      exact ⟨I6, o6, b6, Stp.intro ((s25.dropR n5 d.nm).trans (s6.dropR n6 d.nm)), d6, n6, hb6, q6⟩
  · have e : i = ds.length := by omega
    subst e
    rw [List.drop_length] at q2
    have q2 : finN F K Hd D I H Nx b2 := q2
    exact .inl ⟨jr.stop I2 H2 s2.i s2.st, q2 I2 H2 o2 s2 hD2 n2 hb2⟩
theorem DI.raw (hi : DI F Y tg iter ti) : PI Y tg iter (rdI F Y.K ti) := hi.run
theorem dn_cons (hx : ∀ e s, ¬ Y.xe e s) (hc : Y.calm = true) (c : IsCp e gens emit) (hk : gens[k + 1]? = some ⟨tg, iter, ifs, 0⟩) (hn : ∀ g, gens[k + 1 + 1]? = some g → g.is_async = 0) (Hmono : ∀ D K I I' o b, Same I I' → Hd D K I o b → Hd D K I' o b)
    (hi : DI F Y tg iter ti) (hg : DG F Y tg js g) (ht : DIfs F Y ifs tc) (h : DNest F Y e gens emit (k + 1) vs' Hd t) (hs : ∀ x, foldedSetIterable iter Y.env x = pure x) :
    DNest F Y e gens emit k (js ++ vs') Hd (fun ρ b Q => ti ρ fun ds => loopD g tc t (wipeD ρ (js ++ vs')) ds b Q) := by
  refine ⟨fun ρ b Q Q' k q => hi.mono _ _ _ (fun ds => loopD.mono hg.mono ht.mono h.mono _ ds b _ _ k) q, fun D => ?_⟩
  obtain ⟨T, h1, h2⟩ := h.run D
  refine ⟨_, nest_cons hx hc c hk hn hi.run hg.run ht.run h1 (vs := js ++ vs') (fun i hi => List.mem_append_right _ hi) hs, fun I H ρ σ o b Nx A d hD hb q => ?_⟩
  refine ⟨I, ρ, A, hi.mono _ _ _ (fun ds q J I' H' s jr => ?_) q⟩
  have hD' := s.h _ _ hD d.nm
  have n' := s.new _ _ hD d.ni
  refine loop_run Hmono hg ht.mono h.mono h2 (fun j hj => List.mem_append_left _ hj) jr (A.step s) ⟨n', d.nm, d.nb, d.ap⟩ hD' (Hmono _ _ _ _ _ _ s.i hb) (loopD.mono hg.mono ht.mono h.mono _ _ _ _ _ (fun b2 q2 I2 H2 o2 s2 d2 n2 hb2 => q2 I2 H2 o2 (Stp.intro ((s.dropL n' d.nm).trans (s2.dropR n2 d.nm))) d2 n2 hb2) q)
end
def HdL : HoldsD (List D) := fun _ K I o ds => ∃ vs, o = .lst vs ∧ Reps K I vs ds
def HdK : HoldsD (List (Key × D)) := fun _ K I o ds => ∃ kvs, o = .dK kvs ∧ kvs.map (·.1) = ds.map (·.1) ∧ Reps K I (kvs.map (·.2)) (ds.map (·.2))
theorem HdL.mono : ∀ (D : Addr) (K : PySem.W.Frag) (I I' : Hp) (o : HO) (b : List Dk.D), Same I I' → HdL D K I o b → HdL D K I' o b := fun D K I I' o b s ⟨vs, e, r⟩ => ⟨vs, e, r.mono s⟩
theorem HdK.mono : ∀ (D : Addr) (K : PySem.W.Frag) (I I' : Hp) (o : HO) (b : List (Key × Dk.D)), Same I I' → HdK D K I o b → HdK D K I' o b := fun D K I I' o b s ⟨vs, e, k, r⟩ => ⟨vs, e, k, r.mono s⟩
def putD (kvs : List (Key × D)) (k : Key) (d : D) : List (Key × D) :=
  if (kvs.any fun kv => decide (kv.1 = k)) = true then kvs.map fun kv => if kv.1 = k then (kv.1, d) else kv else kvs ++ [(k, d)]
theorem any_keys {α : Type} (k : Key) (kvs : List (Key × α)) : (kvs.any fun kv => decide (kv.1 = k)) = (kvs.map (·.1)).any fun j => decide (j = k) := by
  rw [List.any_map]
  rfl
theorem putD_rep {K : PySem.W.Frag} {I : Hp} {v : V} {d : D} {k : Key} (rv : Rep K I v d) {kvs : List (Key × V)} {ds : List (Key × D)} (h : kvs.map (·.1) = ds.map (·.1)) (r : Reps K I (kvs.map (·.2)) (ds.map (·.2))) :
    (putK kvs k v).map (·.1) = (putD ds k d).map (·.1) ∧ Reps K I ((putK kvs k v).map (·.2)) ((putD ds k d).map (·.2)) := by
  have e : (kvs.any fun kv => decide (kv.1 = k)) = ds.any fun kv => decide (kv.1 = k) := by rw [any_keys, any_keys, h]
  unfold putK putD
  rw [e]
  split
  · have m : ∀ {kvs : List (Key × V)} {ds : List (Key × D)}, kvs.map (·.1) = ds.map (·.1) → Reps K I (kvs.map (·.2)) (ds.map (·.2)) →
        ((kvs.map fun kv => if kv.1 = k then (kv.1, v) else kv).map (·.1) = (ds.map fun kv => if kv.1 = k then (kv.1, d) else kv).map (·.1) ∧ Reps K I ((kvs.map fun kv => if kv.1 = k then (kv.1, v) else kv).map (·.2)) ((ds.map fun kv => if kv.1 = k then (kv.1, d) else kv).map (·.2))) := by
      intro kvs
      induction kvs with
      | nil => intro ds h _; cases ds with | nil => exact ⟨rfl, .nil⟩ | cons _ _ => simp at h
      | cons p kvs ih =>
        intro ds h r
        cases ds with
        | nil => simp at h
        | cons q ds =>
          obtain ⟨i, x⟩ := p
          obtain ⟨j, y⟩ := q
          simp only [List.map_cons, List.cons.injEq] at h
          obtain ⟨rfl, h⟩ := h
          cases r with
          | cons r1 r2 =>
            obtain ⟨a, b⟩ := ih h r2
            by_cases e : i = k
            · simp only [List.map_cons, e, if_true]
              exact ⟨by rw [a], .cons rv b⟩
            · simp only [List.map_cons, e, if_false]
              exact ⟨by rw [a], .cons r1 b⟩
    exact m h r
  · simp only [List.map_append, h]
    exact ⟨rfl, r.append (.cons rv .nil)⟩
section
variable {F : Fx} {Y : Cx} {elt kx vx : Expr} {te tk tv : DT}
theorem dm_list (hx : ∀ e s, ¬ Y.xe e s) (h : DE F Y elt te) : DEmit F Y (fun acc env => do let _ ← call (.builtin "list.append") [acc, ← eval elt env]) HdL (fun ρ b Q => te ρ fun y => b.length < sizeLine ∧ Q (b ++ [y])) := by
  refine ⟨fun ρ b Q Q' k q => h.mono _ _ _ (fun d q => ⟨q.1, k _ q.2⟩) q, fun D => ⟨fun σ H Nx => rdE F Y.K te σ H fun y H2 => ∃ acc, H2 D = some (.lst acc) ∧ acc.length < sizeLine ∧ Nx (upd H2 D (.lst (acc ++ [y]))), ⟨fun pins s σ H Nx J q => ?_⟩, ?_⟩⟩
  · refine wpAny_bind (wpAny_mono (h.run.run pins s σ H _ J q) (fun u s2 ⟨y, H2, J2, ry, acc, hD, hz, nx⟩ => ?_) fun e s' z => (hx e s' z).elim)
    exact wpAny_bind (app_ok J2 hD hz ry fun s3 J3 => wpAny_pure ⟨_, J3, nx⟩)
  · rintro I H ρ σ o b Nx A d hD ⟨vs, rfl, r⟩ q
    refine rdE_next h.mono A q fun y v I2 H2 q2 s rv => ?_
    refine ⟨vs, s.h _ _ hD d.nm, by rw [r.length]; exact q2.1, q2.2 I2 _ _ ?_ upd_same (s.new _ _ hD d.ni) ⟨_, rfl, (r.mono s.i).append (.cons rv .nil)⟩⟩
    have n2 := s.new _ _ hD d.ni
    refine Stp.intro ?_
    have e : dropA (upd H2 D (.lst (vs ++ [v]))) D = dropA H2 D := by
      funext b
      unfold dropA
      split
      · rfl
      · rw [upd_ne (by assumption)]
    rw [e]
    exact s.dropL n2 d.nm
theorem drop_upd {H : Hp} {D : Addr} {o : HO} : dropA (upd H D o) D = dropA H D := by
  funext b
  unfold dropA
  split
  · rfl
  · rw [upd_ne (by assumption)]
theorem dm_dict (hx : ∀ e s, ¬ Y.xe e s) (hk : DE F Y kx tk) (hv : DE F Y vx tv) : DEmit F Y (fun acc env => do
    let kv ← eval kx env
    let vv ← holding [kv] (eval vx env)
    match acc with
    | .ref d => do
      standAt { kx.pos with endLine := vx.pos.endLine, endCol := vx.pos.endCol }
      holding [kv, vv] (dictSet d kv vv)
    | _ => unsupported "internal:dictcomp") HdK (fun ρ b Q => tk ρ fun y => tv ρ fun z => ∃ k, y = keyD k ∧ b.length < sizeLine ∧ Q (putD b k z)) := by
  refine ⟨fun ρ b Q Q' k q => hk.mono _ _ _ (fun d q => hv.mono _ _ _ (fun z ⟨k0, e, l, q⟩ => ⟨k0, e, l, k _ q⟩) q) q,
    fun D => ⟨fun σ H Nx => rdE F Y.K tk σ H fun y H2 => ∃ I2 ρ2, At F Y.K I2 ρ2 σ H2 ∧ tv ρ2 (fin F Y.K I2 H2 fun z H3 => ∃ kvs k, y = kV k ∧ H3 D = some (.dK kvs) ∧ kvs.length < sizeLine ∧ Nx (upd H3 D (.dK (putK kvs k z)))), ⟨fun pins s σ H Nx J q => ?_⟩, ?_⟩⟩
  · refine wpAny_bind (wpAny_mono (hk.run.run pins s σ H _ J q) (fun u s2 ⟨y, H2, J2, ry, q2⟩ => ?_) fun e s' z => (hx e s' z).elim)
    refine wpAny_bind (wpAny_holding (wpAny_mono (hv.run.run pins s2 σ H2 _ J2 q2) (fun u2 s3 ⟨z, H3, J3, rz, kvs, k, e, hD, hz, nx⟩ => ?_) fun e s' z => (hx e s' z).elim))
    subst e
    exact wpAny_bind (wpAny_standAt (wpAny_holding (d_dictSet J3 hD hz ry rz fun s4 J4 => ⟨_, J4, nx⟩)))
  · rintro I H ρ σ o b Nx A d hD ⟨kvs, rfl, kk, r⟩ q
    refine rdE_next hk.mono A q fun y v I2 H2 q2 s rv => ⟨I2, ρ, A.step s, hv.mono _ _ _ (fun z q3 v3 I3 H3 s3 rz => ?_) q2⟩
    obtain ⟨k0, rfl, l, q3⟩ := q3
    have st := s.trans s3
    have n3 := st.new _ _ hD d.ni
    have ll : kvs.length = b.length := by simpa using congrArg List.length kk
    obtain ⟨a1, a2⟩ := putD_rep (k := k0) rz kk (r.mono st.i)
    refine ⟨kvs, k0, keyD_rep rv, st.h _ _ hD d.nm, by omega, q3 I3 _ _ (Stp.intro ?_) upd_same n3 ⟨_, rfl, a1, a2⟩⟩
    rw [drop_upd]
    exact st.dropL n3 d.nm
end
def rdN {β : Type} (F : Fx) (K : PySem.W.Frag) (Hd : HoldsD β) (D : Addr) (t : DNT β) : TN := fun σ H Nx => ∃ I ρ o b, At F K I ρ σ H ∧ InD F I H ρ σ D ∧ H D = some o ∧ Hd D K I o b ∧ t ρ b (finN F K Hd D I H Nx)
theorem DNest.nest {F : Fx} {Y : Cx} {e : Expr} {gens : List Comprehension} {emit : Value → Env → Sem Unit} {k : Nat} {vs : List Nat} {β : Type} {Hd : HoldsD β} {t : DNT β} (h : DNest F Y e gens emit k vs Hd t) (D : Addr) : Nest Y e gens (emit (.ref D) Y.env) k D vs (rdN F Y.K Hd D t) := by
  obtain ⟨T, h1, h2⟩ := h.run D
  exact ⟨fun pins s σ H Nx J ⟨I, ρ, o, b, A, d, hD, hb, q⟩ => h1.run pins s σ H Nx J (h2 I H ρ σ o b Nx A d hD hb q)⟩
theorem rdN_says {F : Fx} {K : PySem.W.Frag} {β : Type} {Hd : HoldsD β} {D : Addr} {t : DNT β} : NSays F K Hd D t (rdN F K Hd D t) := fun I H ρ σ o b Nx A d hD hb q => ⟨I, ρ, o, b, A, d, hD, hb, q⟩
section
variable {F : Fx} {X : Cx} {K : PySem.W.Frag} {e elt kx vx tg iter : Expr} {ifs : List Expr} {rest : List Comprehension} {emit : Value → Env → Sem Unit} {vs' js : List Nat} {β : Type} {Hd : HoldsD β} {t : DNT β} {ti : DAT} {g : DGT} {tc : DB} {scope : Scope} {own : List (Str × Nat)} {ob0 : Obj} {o0 : Addr → HO} {newAcc : Sem Value} {pos pos' spos : Pos}
/-- the reading of the whole -/
theorem cp_read {σ : L2.St} {H : Hp} {Q Q1 : VK} {b0 : β} {vs : List Nat} {fd : β → (D → Prop) → Prop} (Hmono : ∀ D K I I' o b, Same I I' → Hd D K I o b → Hd D K I' o b) (him : ∀ ρ (Q Q' : List D → Prop), (∀ d, Q d → Q' d) → ti ρ Q → ti ρ Q') (hgm : DG F X tg js g) (htm : ∀ ρ (Q Q' : Bool → Prop), (∀ d, Q d → Q' d) → tc ρ Q → tc ρ Q')
    (tm : ∀ ρ b (Q Q' : β → Prop), (∀ b, Q b → Q' b) → t ρ b Q → t ρ b Q') (hjs : ∀ j ∈ js, j ∈ vs) (h0 : ∀ D I, Hd D K I (o0 D) b0) (q : rdE F K (fun ρ Q => ti ρ fun ds => loopD g tc t (wipeD ρ vs) ds b0 fun b => fd b Q) σ H Q)
    (hfin : ∀ (D : Addr) (I H : Hp) (o : HO) (b : β), I D = none → ¬ F.W.mv D → H D = some o → Hd D K I o b → StI F.W I H → fd b (fun d => ∀ v I' H', Stp F.W I H I' H' ∨ (I' = upd I D o ∧ H' = H) → Rep K I' v d → Q v H') → Q1 (.ref D) H)
    (hfm : ∀ b (Q Q' : D → Prop), (∀ d, Q d → Q' d) → fd b Q → fd b Q') :
    tCp o0 (rdI F K ti) vs (rdG F K js g) (rdT F K tc) (fun D => rdN F K Hd D t) σ H Q1 := by
  obtain ⟨I, ρ, A, q⟩ := q
  refine ⟨I, ρ, A, him _ _ _ (fun ds q J I1 H1 s1 jr D hD => ?_) q⟩
  have A1 := A.step s1
  have m1 : ¬ F.W.mv D := fun m => F.W.live s1.st.inv m hD
  have n1 := s1.st.free hD
  have b1 : F.B D = none := by
    cases z : F.B D with
    | none => rfl
    | some u => have := A1.stp.h _ _ z m1; rw [hD] at this; cases this
  have ap := A1.apart hD
  have A2 := A1.write (o0 D) n1 m1 b1 ap
  have hn : H D = none := by
    cases z : H D with
    | none => rfl
    | some u => have := s1.h _ _ z m1; rw [hD] at this; cases this
  refine loop_run Hmono hgm htm tm rdN_says hjs ?_ A2 ⟨n1, m1, b1, ap⟩ upd_same (h0 D I1) (loopD.mono hgm.mono htm tm _ _ _ _ _ (fun b qb I2 H2 o2 s2 d2 n2 hb2 => ?_) q)
  · exact jr
  · have sd : dropA (upd H1 D (o0 D)) D = H1 := by
      rw [drop_upd]
      funext c
      unfold dropA
      split
      · rw [(by assumption : c = D), hD]
      · rfl
    rw [sd] at s2
    refine hfin D I2 H2 o2 b n2 m1 d2 hb2 s2.st (hfm _ _ _ (fun d qd v I' H' st rv => ?_) qb)
    rcases st with st | ⟨rfl, rfl⟩
    · exact qd v I' H' ((s1.trans s2).trans st) rv
    · exact qd v _ _ ((s1.trans s2).freeze n2 m1 hn d2) rv
theorem pe_cp {wi : TI} {gg : TG} {tt : TT} {T : Addr → TN} (hev : eval e X.env = comprehension e scope X.env pos' newAcc false (eval iter X.env)) (c : IsCp e (⟨tg, iter, ifs, 0⟩ :: rest) emit)
    (hnw : ∀ {A : Around} {E : Value → Shared → Prop} {Q : Value → Shared → Prop} {s : Shared}, Q (.ref s.heap.objs.size) { s with heap := s.heap.push ob0 } → wpAny (model X.prog X.w) A newAcc Q E s)
    (hob : ∀ (pins : List (Addr × Obj)) (σ : L2.St) (H : Hp) (s : Shared), Inv X pins σ H s → ObjOk X.prog X.w (upd H s.heap.objs.size (o0 s.heap.objs.size)) (s.heap.push ob0) s.heap.objs.size (o0 s.heap.objs.size))
    (hc : X.calm = true) (hN : X.N.Nodup) (hi : PI X tg iter wi) (ok : BlkOk X.N X.env.scope scope own) (hrest : ∀ g ∈ rest, g.is_async = 0) (hv : ∀ i ∈ vs', i ∈ own.map (·.2))
    (hg : ∀ (s : Shared) (H : Hp) (C : Addr) (cl : List (Str × Addr)) (fp : List Addr), PG (X.blk s H scope (compEnvC scope cl C X.env) fp) tg gg) (ht : ∀ (s : Shared) (H : Hp) (C : Addr) (cl : List (Str × Addr)) (fp : List Addr), PTs (X.blk s H scope (compEnvC scope cl C X.env) fp) ifs tt)
    (hb : ∀ (s : Shared) (H : Hp) (C : Addr) (cl : List (Str × Addr)) (fp : List Addr) (D : Addr), Nest (X.blk s H scope (compEnvC scope cl C X.env) fp) e (⟨tg, iter, ifs, 0⟩ :: rest) (emit (.ref D) (compEnvC scope cl C X.env)) 0 D vs' (T D))
    (hs : ∀ x, foldedSetIterable iter X.env x = pure x) : PE X e (tCp o0 wi (own.map (·.2)) gg tt T) := by
  refine ⟨fun pins s σ H Q I h => ?_⟩
  rw [hev]
  refine cp_core c hnw hob hc hN I hi ok hrest hv hg ht hb hs h fun D C s' m H' I' q hn f => ⟨m, hn, fun h'' sb => ?_⟩
  obtain ⟨f0, f1, f2, f3, f4, f5⟩ := f
  exact ⟨.ref D, H', I'.turned (t' := s'.toks) (fun b o hb e => (sb.2 b hb).trans e) f0 f1 f3 f4 f5, rfl, q⟩
theorem ps_setCp {wi : TI} {gg : TG} {tt : TT} {T : Addr → TN} {i : Nat} {y : Str} {py : Pos} (hev : evalThenUse e X.env (assign (.Name y py) X.env) = (do let _ ← comprehension e scope X.env pos' newAcc false (eval iter X.env) (some (assign (.Name y py) X.env)))) (c : IsCp e (⟨tg, iter, ifs, 0⟩ :: rest) emit)
    (hnw : ∀ {A : Around} {E : Value → Shared → Prop} {Q : Value → Shared → Prop} {s : Shared}, Q (.ref s.heap.objs.size) { s with heap := s.heap.push ob0 } → wpAny (model X.prog X.w) A newAcc Q E s)
    (hob : ∀ (pins : List (Addr × Obj)) (σ : L2.St) (H : Hp) (s : Shared), Inv X pins σ H s → ObjOk X.prog X.w (upd H s.heap.objs.size (o0 s.heap.objs.size)) (s.heap.push ob0) s.heap.objs.size (o0 s.heap.objs.size))
    (hc : X.calm = true) (hN : X.N.Nodup) (hy : X.N[i]? = some y) (hyl : X.env.scope.names.lookup y = some .local) (hsw : swapsWith e (some (.Name y py)) spos.line X.env = pure true)
    (hi : PI X tg iter wi) (ok : BlkOk X.N X.env.scope scope own) (hrest : ∀ g ∈ rest, g.is_async = 0) (hv : ∀ i ∈ vs', i ∈ own.map (·.2))
    (hg : ∀ (s : Shared) (H : Hp) (C : Addr) (cl : List (Str × Addr)) (fp : List Addr), PG (X.blk s H scope (compEnvC scope cl C X.env) fp) tg gg) (ht : ∀ (s : Shared) (H : Hp) (C : Addr) (cl : List (Str × Addr)) (fp : List Addr), PTs (X.blk s H scope (compEnvC scope cl C X.env) fp) ifs tt)
    (hb : ∀ (s : Shared) (H : Hp) (C : Addr) (cl : List (Str × Addr)) (fp : List Addr) (D : Addr), Nest (X.blk s H scope (compEnvC scope cl C X.env) fp) e (⟨tg, iter, ifs, 0⟩ :: rest) (emit (.ref D) (compEnvC scope cl C X.env)) 0 D vs' (T D))
    (hs : ∀ x, foldedSetIterable iter X.env x = pure x) : PS X (.Assign [.Name y py] e spos) (tAsg (tCp o0 wi (own.map (·.2)) gg tt T) (gName i)) := by
  refine ⟨fun pins s σ H Z I h => ?_⟩
  rw [exec_Assign_Name_used _ _ _ _ hsw, hev]
  refine wpAny_bind (wpAny_standAt (wpAny_bind ?_))
  have h : tCp o0 wi (own.map (·.2)) gg tt T σ H (fun x H1 => gName i x σ H1 Z.nx) := h
  refine wpAny_bind (thn (cp_core (Qf := fun _ s' => SP X pins Z .next s') c hnw hob hc hN I hi ok hrest hv hg ht hb hs h fun L C s' m H' I' q hn f => ?_) fun _ s' hq => wpAny_pure (wpAny_pure hq))
  show wpAny _ _ (assign (.Name y py) X.env (.ref L)) _ _ _
  refine wpAny_assign_Name (store_ok2 (v := V.ref L) I' hN hy (.inl hyl) rfl (fun s2 I2 ⟨a, sb, ha⟩ => ?_) (.inr hyl))
  obtain ⟨f0, f1, f2, f3, f4, f5⟩ := f
  have ne : C ≠ a := by
    rcases ha with z | z
    · rw [z]; exact f1
    · intro e; exact f4 y a z e.symm
  exact ⟨m, hn.sameBut sb ne, fun h3 sb3 => ⟨_, H', I2.turned (t' := s2.toks) (fun b o hb e => (sb3.2 b hb).trans e) f0 f1 f3 f4 f5, q⟩⟩
theorem nw_list {M : Model} {A : Around} {E : Value → Shared → Prop} {Q : Value → Shared → Prop} {s : Shared} (h : Q (.ref s.heap.objs.size) { s with heap := s.heap.push { cls := .type "list", data := .seq ([] : List Value).toArray } }) : wpAny M A (newList []) Q E s :=
  wpAny_newObj_type h (by show 0 ≤ sizeLine; decide)
theorem ob_list (pins : List (Addr × Obj)) (σ : L2.St) (H : Hp) (s : Shared) (I : Inv X pins σ H s) : ObjOk X.prog X.w (upd H s.heap.objs.size (.lst [])) (s.heap.push { cls := .type "list", data := .seq ([] : List Value).toArray }) s.heap.objs.size (.lst []) := ⟨Nat.zero_le _, [], 0, .nil, Heap.get?_push_size _ rfl⟩
theorem nw_dict {M : Model} {A : Around} {E : Value → Shared → Prop} {Q : Value → Shared → Prop} {s : Shared} (h : Q (.ref s.heap.objs.size) { s with heap := s.heap.push { cls := .type "dict", data := .dict #[] } }) : wpAny M A newDict Q E s :=
  wpAny_newObj_type h
theorem ob_dict (pins : List (Addr × Obj)) (σ : L2.St) (H : Hp) (s : Shared) (I : Inv X pins σ H s) : ObjOk X.prog X.w (upd H s.heap.objs.size (.dK [])) (s.heap.push { cls := .type "dict", data := .dict #[] }) s.heap.objs.size (.dK []) := dk_empty s.heap I.big
theorem rd_cpL {σ : L2.St} {H : Hp} {Q : VK} {vs : List Nat} {t : DNT (List D)} (him : ∀ ρ (Q Q' : List D → Prop), (∀ d, Q d → Q' d) → ti ρ Q → ti ρ Q') (hgm : DG F X tg js g) (htm : ∀ ρ (Q Q' : Bool → Prop), (∀ d, Q d → Q' d) → tc ρ Q → tc ρ Q') (tm : ∀ ρ b (Q Q' : List D → Prop), (∀ b, Q b → Q' b) → t ρ b Q → t ρ b Q')
    (hjs : ∀ j ∈ js, j ∈ vs) (q : rdE F K (fun ρ Q => ti ρ fun ds => loopD g tc t (wipeD ρ vs) ds [] fun ys => Q (.lst ys)) σ H Q) : tCp (fun _ => .lst []) (rdI F K ti) vs (rdG F K js g) (rdT F K tc) (fun D => rdN F K HdL D t) σ H Q :=
  cp_read (fd := fun ys Q => Q (.lst ys)) HdL.mono him hgm htm tm hjs (fun D I => ⟨[], rfl, .nil⟩) q (fun D I H o b n m hD hb st h => by
    obtain ⟨ws, rfl, r⟩ := hb
    exact h _ _ _ (.inr ⟨rfl, rfl⟩) (.lst upd_same (r.mono (Same.laid n)))) fun b Q Q' k h => k _ h
theorem rd_cpD {σ : L2.St} {H : Hp} {Q : VK} {vs : List Nat} {t : DNT (List (Key × D))} (him : ∀ ρ (Q Q' : List D → Prop), (∀ d, Q d → Q' d) → ti ρ Q → ti ρ Q') (hgm : DG F X tg js g) (htm : ∀ ρ (Q Q' : Bool → Prop), (∀ d, Q d → Q' d) → tc ρ Q → tc ρ Q') (tm : ∀ ρ b (Q Q' : List (Key × D) → Prop), (∀ b, Q b → Q' b) → t ρ b Q → t ρ b Q')
    (hjs : ∀ j ∈ js, j ∈ vs) (q : rdE F K (fun ρ Q => ti ρ fun ds => loopD g tc t (wipeD ρ vs) ds [] fun ys => Q (.dic ys)) σ H Q) : tCp (fun _ => .dK []) (rdI F K ti) vs (rdG F K js g) (rdT F K tc) (fun D => rdN F K HdK D t) σ H Q :=
  cp_read (fd := fun ys Q => Q (.dic ys)) HdK.mono him hgm htm tm hjs (fun D I => ⟨[], rfl, rfl, .nil⟩) q (fun D I H o b n m hD hb st h => by
    obtain ⟨ws, rfl, k, r⟩ := hb
    exact h _ _ _ (.inr ⟨rfl, rfl⟩) (.dic upd_same k (r.mono (Same.laid n)))) fun b Q Q' k h => k _ h
abbrev AllBlk (X : Cx) (scope : Scope) (p : Cx → Prop) : Prop := ∀ (s : Shared) (H : Hp) (C : Addr) (cl : List (Str × Addr)) (fp : List Addr), p (X.blk s H scope (compEnvC scope cl C X.env) fp)
theorem AllBlk.one {scope : Scope} {p : Cx → Prop} (h : AllBlk X scope p) : p (X.blk X.s_0 X.H_0 scope (compEnvC scope [] 0 X.env) []) := h _ _ _ _ _
/-- [.. for .. in .. ..] -/
theorem de_cpL {t : DNT (List D)} (hc : X.calm = true) (hN : X.N.Nodup) (hi : DI F X tg iter ti) (ok : BlkOk X.N X.env.scope scope own) (hg : AllBlk X scope fun Y => DG F Y tg js g) (ht : AllBlk X scope fun Y => DIfs F Y ifs tc)
    (hb : AllBlk X scope fun Y => DNest F Y (.ListComp elt (⟨tg, iter, ifs, 0⟩ :: rest) scope pos) (⟨tg, iter, ifs, 0⟩ :: rest) (fun acc env => do let _ ← call (.builtin "list.append") [acc, ← eval elt env]) 0 vs' HdL t)
    (hjs : ∀ j ∈ js ++ vs', j ∈ own.map (·.2) := by decide) (hrest : (rest.all fun g => g.is_async == 0) = true := by rfl) (hs : ∀ x, foldedSetIterable iter X.env x = pure x := by intro _; rfl) :
    DE F X (.ListComp elt (⟨tg, iter, ifs, 0⟩ :: rest) scope pos) (fun ρ Q => ti ρ fun ds => loopD g tc t (wipeD ρ (own.map (·.2))) ds [] fun ys => Q (.lst ys)) := by
  have hr : ∀ g ∈ rest, g.is_async = 0 := fun g h => by simpa using List.all_eq_true.mp hrest g h
  have g1 := hg.one
  have t1 := ht.one
  have b1 := hb.one
  refine ⟨fun ρ Q Q' k q => hi.mono _ _ _ (fun ds => loopD.mono g1.mono t1.mono b1.mono _ ds _ _ _ fun ys => k _) q, (pe_cp (o0 := fun _ => .lst []) (gg := rdG F X.K js g) (tt := rdT F X.K tc) (T := fun D => rdN F X.K HdL D t) rfl (cp_list _ _ _ _) nw_list ob_list hc hN hi.run ok hr (fun j hj => hjs j (List.mem_append_right _ hj)) (fun s H C cl fp => (hg s H C cl fp).run) (fun s H C cl fp => (ht s H C cl fp).run) (fun s H C cl fp D => (hb s H C cl fp).nest D) hs).imp fun σ H Q q => ?_⟩
  exact rd_cpL hi.mono g1 t1.mono b1.mono (fun j hj => hjs j (List.mem_append_left _ hj)) q
theorem ds_setCpL {t : DNT (List D)} {i : Nat} {y : Str} {py : Pos} (hc : X.calm = true) (hN : X.N.Nodup) (hy : X.N[i]? = some y) (hyl : X.env.scope.names.lookup y = some .local) (hsw : swapsWith (.ListComp elt (⟨tg, iter, ifs, 0⟩ :: rest) scope pos) (some (.Name y py)) spos.line X.env = pure true)
    (hi : DI F X tg iter ti) (ok : BlkOk X.N X.env.scope scope own) (hg : AllBlk X scope fun Y => DG F Y tg js g) (ht : AllBlk X scope fun Y => DIfs F Y ifs tc)
    (hb : AllBlk X scope fun Y => DNest F Y (.ListComp elt (⟨tg, iter, ifs, 0⟩ :: rest) scope pos) (⟨tg, iter, ifs, 0⟩ :: rest) (fun acc env => do let _ ← call (.builtin "list.append") [acc, ← eval elt env]) 0 vs' HdL t)
    (hjs : ∀ j ∈ js ++ vs', j ∈ own.map (·.2) := by decide) (hrest : (rest.all fun g => g.is_async == 0) = true := by rfl) (hs : ∀ x, foldedSetIterable iter X.env x = pure x := by intro _; rfl) :
    DSt F X (.Assign [.Name y py] (.ListComp elt (⟨tg, iter, ifs, 0⟩ :: rest) scope pos) spos) (fun Z ρ => ti ρ fun ds => loopD g tc t (wipeD ρ (own.map (·.2))) ds [] fun ys => Z.nx (ρ.set i (some (.dat (.lst ys))))) := by
  have hr : ∀ g ∈ rest, g.is_async = 0 := fun g h => by simpa using List.all_eq_true.mp hrest g h
  have g1 := hg.one
  have t1 := ht.one
  have b1 := hb.one
  refine ⟨fun Z Z' ρ l q => hi.mono _ _ _ (fun ds => loopD.mono g1.mono t1.mono b1.mono _ ds _ _ _ fun ys => l.nx _) q, (ps_setCp (o0 := fun _ => .lst []) (gg := rdG F X.K js g) (tt := rdT F X.K tc) (T := fun D => rdN F X.K HdL D t) rfl (cp_list _ _ _ _) nw_list ob_list hc hN hy hyl hsw hi.run ok hr (fun j hj => hjs j (List.mem_append_right _ hj)) (fun s H C cl fp => (hg s H C cl fp).run) (fun s H C cl fp => (ht s H C cl fp).run) (fun s H C cl fp D => (hb s H C cl fp).nest D) hs).imp fun Z σ H ⟨I, ρ, A, q⟩ => ?_⟩
  refine rd_cpL (Q := fun x H1 => gName i x σ H1 Z.nx) hi.mono g1 t1.mono b1.mono (fun j hj => hjs j (List.mem_append_left _ hj)) ⟨I, ρ, A, hi.mono _ _ _ (fun ds => loopD.mono g1.mono t1.mono b1.mono _ ds _ _ _ fun ys q v I' H' s rv => ?_) q⟩
  exact q I' _ H' s.i ((A.step s).set rv)
/-- {k: v for .. in .. ..} -/
theorem de_cpD {t : DNT (List (Key × D))} (hc : X.calm = true) (hN : X.N.Nodup) (hi : DI F X tg iter ti) (ok : BlkOk X.N X.env.scope scope own) (hg : AllBlk X scope fun Y => DG F Y tg js g) (ht : AllBlk X scope fun Y => DIfs F Y ifs tc)
    (hb : AllBlk X scope fun Y => DNest F Y (.DictComp kx vx (⟨tg, iter, ifs, 0⟩ :: rest) scope pos) (⟨tg, iter, ifs, 0⟩ :: rest) (fun acc env => do
      let kv ← eval kx env
      let vv ← holding [kv] (eval vx env)
      match acc with
      | .ref d => do
        standAt { kx.pos with endLine := vx.pos.endLine, endCol := vx.pos.endCol }
        holding [kv, vv] (dictSet d kv vv)
      | _ => unsupported "internal:dictcomp") 0 vs' HdK t)
    (hjs : ∀ j ∈ js ++ vs', j ∈ own.map (·.2) := by decide) (hrest : (rest.all fun g => g.is_async == 0) = true := by rfl) (hs : ∀ x, foldedSetIterable iter X.env x = pure x := by intro _; rfl) :
    DE F X (.DictComp kx vx (⟨tg, iter, ifs, 0⟩ :: rest) scope pos) (fun ρ Q => ti ρ fun ds => loopD g tc t (wipeD ρ (own.map (·.2))) ds [] fun ys => Q (.dic ys)) := by
  have hr : ∀ g ∈ rest, g.is_async = 0 := fun g h => by simpa using List.all_eq_true.mp hrest g h
  have g1 := hg.one
  have t1 := ht.one
  have b1 := hb.one
  refine ⟨fun ρ Q Q' k q => hi.mono _ _ _ (fun ds => loopD.mono g1.mono t1.mono b1.mono _ ds _ _ _ fun ys => k _) q, (pe_cp (o0 := fun _ => .dK []) (gg := rdG F X.K js g) (tt := rdT F X.K tc) (T := fun D => rdN F X.K HdK D t) rfl (cp_dict _ _ _ _ _) nw_dict ob_dict hc hN hi.run ok hr (fun j hj => hjs j (List.mem_append_right _ hj)) (fun s H C cl fp => (hg s H C cl fp).run) (fun s H C cl fp => (ht s H C cl fp).run) (fun s H C cl fp D => (hb s H C cl fp).nest D) hs).imp fun σ H Q q => ?_⟩
  exact rd_cpD hi.mono g1 t1.mono b1.mono (fun j hj => hjs j (List.mem_append_left _ hj)) q
end
end Dk
namespace Dk
open PySem L2
def hasK (ks : List Key) (j : Key) : Bool := ks.any fun x => decide (x = j)
def HdS (P : Program) (w : World) : HoldsD (List Key) := fun D _ _ o ks => o = SetK P w D (hasK ks) ks.length
theorem HdS.mono {P : Program} {w : World} : ∀ (D : Addr) (K : PySem.W.Frag) (I I' : Hp) (o : HO) (b : List Key), Same I I' → HdS P w D K I o b → HdS P w D K I' o b := fun D K I I' o b s h => h
def addK (ks : List Key) (k : Key) : List Key := if hasK ks k = true then ks else ks ++ [k]
theorem addK_mem {ks : List Key} {k : Key} : hasK (addK ks k) = fun j => hasK ks j || decide (j = k) := by
  funext j
  unfold addK
  split
  · by_cases h : j = k
    · subst h; simp; assumption
    · simp [h]
  · have e : decide (k = j) = decide (j = k) := decide_eq_decide.mpr ⟨Eq.symm, Eq.symm⟩
    simp [hasK, List.any_append, e]
theorem addK_len {ks : List Key} {k : Key} : (addK ks k).length = if hasK ks k = true then ks.length else ks.length + 1 := by
  unfold addK
  split <;> simp
section
variable {F : Fx} {X Y : Cx} {K : PySem.W.Frag} {elt tg iter : Expr} {ifs : List Expr} {rest : List Comprehension} {te : DT} {vs' js : List Nat} {t : DNT (List Key)} {ti : DAT} {g : DGT} {tc : DB} {scope : Scope} {own : List (Str × Nat)} {p pos pos2 : Pos}
theorem dm_set (hx : ∀ e s, ¬ Y.xe e s) (h : DE F Y elt te) : DEmit F Y (fun acc env => do let v ← eval elt env; standAt elt.pos; let _ ← call (.builtin "set.add") [acc, v]) (HdS Y.prog Y.w) (fun ρ b Q => te ρ fun y => ∃ k, y = keyD k ∧ b.length < 4000 ∧ Q (addK b k)) := by
  refine ⟨fun ρ b Q Q' k q => h.mono _ _ _ (fun d ⟨k0, e, l, q⟩ => ⟨k0, e, l, k _ q⟩) q, fun D => ⟨fun σ H Nx => rdE F Y.K te σ H fun y H2 => ∃ k S n, y = kV k ∧ H2 D = some (SetK Y.prog Y.w D S n) ∧ n + 1 < scanBound ∧ Nx (upd H2 D (SetK Y.prog Y.w D (fun j => S j || decide (j = k)) (if S k = true then n else n + 1))), ⟨fun pins s σ H Nx J q => ?_⟩, ?_⟩⟩
  · refine wpAny_bind (wpAny_mono (h.run.run pins s σ H _ J q) (fun u s2 ⟨y, H2, J2, ry, k, S, n, e, hD, room, nx⟩ => ?_) fun e s' z => (hx e s' z).elim)
    subst e
    refine wpAny_bind (wpAny_standAt (wpAny_bind (wpAny_mono (mt_saddK pins s2 σ H2 (.ref D) [kV k] (.ref D) [u] (fun _ H3 => Nx H3) J2 rfl (.cons ry .nil) ⟨D, k, S, n, rfl, rfl, hD, room, nx⟩) (fun _ s3 ⟨_, H3, J3, _, nx3⟩ => wpAny_pure ⟨H3, J3, nx3⟩) fun e s' z => (hx e s' z).elim)))
  · rintro I H ρ σ o b Nx A d hD rfl q
    refine rdE_next h.mono A q fun y v I2 H2 q2 s rv => ?_
    obtain ⟨k, rfl, l, q2⟩ := q2
    have n2 := s.new _ _ hD d.ni
    refine ⟨k, _, _, keyD_rep rv, s.h _ _ hD d.nm, by unfold scanBound; omega, q2 I2 _ _ (Stp.intro ?_) upd_same n2 ?_⟩
    · rw [drop_upd]; exact s.dropL n2 d.nm
    · show SetK _ _ _ _ _ = SetK _ _ _ _ _
      rw [addK_mem, addK_len]
theorem call_lenK : CallR X (.builtin "len") (fun xs H Q => ∃ a S n, xs = [.ref a] ∧ H a = some (SetK X.prog X.w a S n) ∧ Q (.int (n : Nat)) H) := by
  intro pins s σ H xs us Q J r h
  obtain ⟨a, S, n, rfl, ha, q⟩ := h
  obtain ⟨u, rfl, ru⟩ := vals1 r
  cases ru
  obtain ⟨o, es, ep, t, ho, hex, hd, _, _, hb, hf, rfl⟩ := setK_get J ha
  refine call_len_set ho hex hd hf ?_ ⟨.int _, H, J.tok _, ⟨_, rfl⟩, q⟩
  have : scanBound = 4096 := rfl
  omega
theorem ob_set (pins : List (Addr × Obj)) (σ : L2.St) (H : Hp) (s : Shared) (I : Inv X pins σ H s) : ObjOk X.prog X.w (upd H s.heap.objs.size (SetK X.prog X.w s.heap.objs.size (fun _ => false) 0)) (s.heap.push { cls := .type "set", dict := none, data := .set #[] 0 (.fresh 0 0 (!X.w.params.followText "set-order")) }) s.heap.objs.size (SetK X.prog X.w s.heap.objs.size (fun _ => false) 0) :=
  setK_new ⟨_, #[], 0, _, Heap.get?_push_size _ rfl, ⟨rfl, rfl, rfl⟩, rfl, (fun e he => by simp at he), (fun k => by simp), (by decide), (by rfl), rfl⟩
theorem nw_set {P : Program} {w : World} {A : Around} {E : Value → Shared → Prop} {Q : Value → Shared → Prop} {s : Shared} (h : Q (.ref s.heap.objs.size) { s with heap := s.heap.push { cls := .type "set", dict := none, data := .set #[] 0 (.fresh 0 0 (!w.params.followText "set-order")) } }) : wpAny (model P w) A (newSet (.type "set")) Q E s := PpSet.newSet_ok h
/-- len({.. for .. in ..}) -/
theorem de_lenSc (hm : X.mg "len" = none) (hc : X.calm = true) (hN : X.N.Nodup) (hi : DI F X tg iter ti) (ok : BlkOk X.N X.env.scope scope own) (hg : AllBlk X scope fun Y => DG F Y tg js g) (ht : AllBlk X scope fun Y => DIfs F Y ifs tc)
    (hb : AllBlk X scope fun Y => DNest F Y (.SetComp elt (⟨tg, iter, ifs, 0⟩ :: rest) scope pos) (⟨tg, iter, ifs, 0⟩ :: rest) (fun acc env => do let v ← eval elt env; standAt elt.pos; let _ ← call (.builtin "set.add") [acc, v]) 0 vs' (HdS Y.prog Y.w) t)
    (hgl : Gl X "len" := by rfl) (hjs : ∀ j ∈ js ++ vs', j ∈ own.map (·.2) := by decide) (hrest : (rest.all fun g => g.is_async == 0) = true := by rfl) (hs : ∀ x, foldedSetIterable iter X.env x = pure x := by intro _; rfl)
    (hst : starEach [Expr.SetComp elt (⟨tg, iter, ifs, 0⟩ :: rest) scope pos] X.env = (false, eval (.SetComp elt (⟨tg, iter, ifs, 0⟩ :: rest) scope pos) X.env) :: starEach [] X.env := by rfl) :
    DE F X (.Call (.Name "len" p) [.SetComp elt (⟨tg, iter, ifs, 0⟩ :: rest) scope pos] [] pos2) (fun ρ Q => ti ρ fun ds => loopD g tc t (wipeD ρ (own.map (·.2))) ds [] fun ks => Q (.int ks.length)) := by
  have hr : ∀ g ∈ rest, g.is_async = 0 := fun g h => by simpa using List.all_eq_true.mp hrest g h
  have g1 := hg.one
  have t1 := ht.one
  have b1 := hb.one
  refine ⟨fun ρ Q Q' k q => hi.mono _ _ _ (fun ds => loopD.mono g1.mono t1.mono b1.mono _ ds _ _ _ fun ys => k _) q, (pe_callB call_lenK hgl hm (by decide +kernel) (pa_cons (pe_cp (o0 := fun D => SetK X.prog X.w D (fun _ => false) 0) (gg := rdG F X.K js g) (tt := rdT F X.K tc) (T := fun D => rdN F X.K (HdS X.prog X.w) D t) rfl (cp_set _ _ _ _) nw_set ob_set hc hN hi.run ok hr (fun j hj => hjs j (List.mem_append_right _ hj)) (fun s H C cl fp => (hg s H C cl fp).run) (fun s H C cl fp => (ht s H C cl fp).run) (fun s H C cl fp D => (hb s H C cl fp).nest D) hs) pa_nil hst) (by decide) (by decide) hst rfl).imp fun σ H Q q => ?_⟩
  refine cp_read (b0 := ([] : List Key)) (Hd := HdS X.prog X.w) (o0 := fun D => SetK X.prog X.w D (fun _ => false) 0) (Q1 := fun v H1 => ∃ a S n, [v] = [V.ref a] ∧ H1 a = some (SetK X.prog X.w a S n) ∧ Q (.int (n : Nat)) H1) (fd := fun ks Q => Q (.int (ks.length : Nat))) HdS.mono hi.mono g1 t1.mono b1.mono (fun j hj => hjs j (List.mem_append_left _ hj)) (fun D I => rfl) q (fun D I H o b n m hD hb st h => ?_) fun b Q Q' k h => k _ h
  obtain rfl := hb
  exact ⟨D, _, _, rfl, hD, h _ _ _ (.inl st.stp) (.int _)⟩
end
end Dk
namespace Dk
open PySem L2
def negD : D → (D → Prop) → Prop
  | .int i, Q => Q (.int (-i))
  | _, _ => False
/-- is the text a a part of z -/
def subS (a z : Str) : Bool := !(Builtin.Str.occurrences z a 0 z.length 1).isEmpty
theorem subS_one (c : Nat) (z : Str) : subS ⟨#[c]⟩ z = decide (c ∈ z.cps.toList) := PySem.StrLaws.found_one z c
def flip (n b : Bool) : Bool := if n = true then !b else b
def inD (n : Bool) (x : D) (y : D) (Q : D → Prop) : Prop := match y with
  | .str z => ∃ a, x = .str a ∧ Q (.bl (flip n (subS a z)))
  | .lst ys => okE x = true ∧ okE (.lst ys) = true ∧ Q (.bl (flip n (ys.any fun z => deq z x)))
  | .tup ys => ∃ a, ∃ ss : List Str, x = .str a ∧ ys = ss.map D.str ∧ Q (.bl (flip n (ss.any fun s => s == a)))
  | .dic kvs => ∃ k, x = keyD k ∧ Q (.bl (flip n (lookD kvs k).isSome))
  | .dfz kvs => ∃ k, x = keyD k ∧ Q (.bl (flip n (lookD kvs k).isSome))
  | _ => False
theorem mono_in (n : Bool) : Mono2 (inD n) := by
  intro x y Q Q' k h
  cases y <;> first | exact h.elim | (obtain ⟨a, e, q⟩ := h; exact ⟨a, e, k _ q⟩) | (obtain ⟨a, e, e2, e3, q⟩ := h; exact ⟨a, e, e2, e3, k _ q⟩)
def RIn (K : PySem.W.Frag) (n : Bool) : R2 := fun x y H Q => (∃ i j, x = .str i ∧ y = .str j ∧ Q (.bl (flip n (subS i j))) H) ∨ (∃ d ds, Dp K H x d ∧ Dp K H y (.list ds) ∧ SeqAt.shaped d = true ∧ SeqAt.shaped (.list ds) = true ∧ Q (.bl (flip n (ds.any fun z => PyData.eqv z d))) H) ∨ rIn K n x y H Q ∨ ∃ a o, y = .ref a ∧ DGet H a x o ∧ Q (.bl (flip n o.isSome)) H
section
variable {F : Fx} {X : Cx} {K : PySem.W.Frag} {a b c : Expr} {ta tb tc : DT} {pos : Pos}
theorem or_in (hu : X.A.units + 66 < cLine) : OpR X (compareOp .In) (RIn X.K false) := by
  refine op_in_str.or ((op_inD (by omega)).or (op_in_seq.or ?_))
  intro pins s σ H x y v u Q J rx ry h
  obtain ⟨a, o, rfl, g, q⟩ := h
  cases ry
  exact d_in (by omega) J g rx fun s3 J3 => ⟨.bl o.isSome, H, J3, rfl, q⟩
theorem or_notin (hu : X.A.units + 66 < cLine) : OpR X (compareOp .NotIn) (RIn X.K true) := by
  refine op_notin_str.or ((op_notInD (by omega)).or (op_notIn_seq.or ?_))
  intro pins s σ H x y v u Q J rx ry h
  obtain ⟨a, o, rfl, g, q⟩ := h
  cases ry
  exact d_notIn (by omega) J g rx fun s3 J3 => ⟨.bl (!o.isSome), H, J3, rfl, q⟩
theorem toPys_map : ∀ ds : List D, toPys ds = ds.map toPy
  | [] => rfl
  | d :: ds => by simp only [toPys, List.map_cons, toPys_map ds]
theorem lf_in (n : Bool) : LiftR F K (RIn K n) (inD n) := by
  intro x y dx dy I H Q st rx ry h
  cases ry with
  | str z =>
    obtain ⟨a, rfl, q⟩ := h
    cases rx
    exact .inl ⟨_, _, rfl, rfl, q _ I H st.stp (.bl _)⟩
  | @lst p vs ys a r =>
    obtain ⟨ox, oy, q⟩ := h
    have q := q _ I H st.stp (.bl _)
    refine .inr (.inl ⟨toPy dx, ys.map toPy, rx.dp st.sub (okE_split ox).1, ?_, (okE_split ox).2, ?_, ?_⟩)
    · have := (Rep.lst a r).dp st.sub (okE_split oy).1
      unfold toPy at this
      rwa [toPys_map] at this
    · have := (okE_split oy).2
      unfold toPy at this
      rwa [toPys_map] at this
    · rw [List.any_map]
      exact q
  | @tup p vs ys a r =>
    obtain ⟨z, ss, rfl, rfl, q⟩ := h
    cases rx
    have q := q _ I H st.stp (.bl _)
    rw [r.strsV] at a
    refine .inr (.inr (.inl ⟨p, ss.map V.str, rfl, .inr (Same.seqT st.sub a), rfl, flat_strs ss, ?_⟩))
    have e : inV (.str z) (ss.map V.str) = ss.any fun s => s == z := by
      unfold inV
      rw [List.any_map]
      rfl
    rw [e]
    exact q
  | @dic p ws kvs a kk r =>
    obtain ⟨k, rfl, q⟩ := h
    have q := q _ I H st.stp (.bl _)
    refine .inr (.inr (.inr ⟨p, valV ws k, rfl, .inl ⟨ws, k, .of (st.sub _ _ a), keyD_rep rx, rfl⟩, ?_⟩))
    rcases lookD_rep (k := k) kk r with ⟨h1, h2⟩ | ⟨v, d, h1, h2, _⟩
    · rw [h1]; rw [h2] at q; exact q
    · rw [h1]; rw [h2] at q; exact q
  | @dfz p f ws kvs a kk r =>
    obtain ⟨k, rfl, q⟩ := h
    have q := q _ I H st.stp (.bl _)
    refine .inr (.inr (.inr ⟨p, valV ws k, rfl, .inl ⟨ws, k, .inr ⟨_, st.sub _ _ a⟩, keyD_rep rx, rfl⟩, ?_⟩))
    rcases lookD_rep (k := k) kk r with ⟨h1, h2⟩ | ⟨v, d, h1, h2, _⟩
    · rw [h1]; rw [h2] at q; exact q
    · rw [h1]; rw [h2] at q; exact q
  | _ => exact h.elim
theorem de_in (hu : X.A.units + 66 < cLine) (ha : DE F X a ta) (hb : DE F X b tb) (hm : behindInMarks .In b = false := by first | exact nomark _ | rfl) : DE F X (.Compare a [.In] [b] pos) (fun ρ Q => ta ρ fun x => tb ρ fun y => inD false x y Q) := de_cmp (mono_in _) (or_in hu) (lf_in _) ha hb hm
theorem dt_notin (hu : X.A.units + 66 < cLine) (ha : DE F X a ta) (hb : DE F X b tb) (hm : behindInMarks .NotIn b = false := by first | exact nomark _ | rfl) : DTest F X (.Compare a [.NotIn] [b] pos) (fun ρ Q => ta ρ fun x => tb ρ fun y => inD true x y fun z => boolD z Q) := dt_cmp (mono_in _) (or_notin hu) (lf_in _) ha hb hm
theorem de_neg (ha : DE F X a ta) : DE F X (.UnaryOp .USub a pos) (fun ρ Q => ta ρ fun x => negD x Q) := by
  refine ⟨fun ρ Q Q' k q => ha.mono _ _ _ (fun d q => by cases d <;> first | exact q.elim | exact k _ q) q, (pe_un un_neg ha.run).imp fun σ H Q ⟨I, ρ, A, q⟩ => rdE_next ha.mono A q fun d v I1 H1 q1 s rv => ?_⟩
  cases rv with
  | int i => exact ⟨i, rfl, q1 _ _ _ s (.int _)⟩
  | _ => exact q1.elim
def isNon : D → Bool | .non => true | _ => false
theorem isNon_rep {K : PySem.W.Frag} {I : Hp} {v : V} {d : D} (r : Rep K I v d) : decide (v = .non) = isNon d := by cases r <;> rfl
theorem dt_isN (ha : DE F X a ta) {k : Nat} {p : Pos} : DTest F X (.Compare a [.Is] [.Constant .none k p] pos) (fun ρ Q => ta ρ fun x => Q (isNon x)) := by
  refine ⟨fun ρ Q Q' k q => ha.mono _ _ _ (fun d => k _) q, (pt_cmpR op_isN ha.run pe_non (by first | exact nomark _ | rfl)).imp fun σ H Q ⟨I, ρ, A, q⟩ => rdE_next ha.mono A q fun d v I1 H1 q1 s rv => ⟨rfl, ?_⟩⟩
  rw [isNon_rep rv]
  exact ⟨_, rfl, q1 _ _ s⟩
theorem dt_chain {op op' : CmpOp} {R R' : R2} {r r'} (h : Cmp X op R r) (h' : Cmp X op' R' r') (ha : DE F X a ta) (hb : DE F X b tb) (hc : DE F X c tc) (hm : lastMarks [op, op'] [b, c] = false := by with_unfolding_all rfl) :
    DTest F X (.Compare a [op, op'] [b, c] pos) (fun ρ Q => ta ρ fun x => tb ρ fun y => r x y fun z => boolD z fun k => if k = true then tc ρ fun w => r' y w fun z => boolD z Q else Q false) := by
  refine ⟨fun ρ Q Q' k q => ha.mono _ _ _ (fun x q => hb.mono _ _ _ (fun y q => h.mono _ _ _ _ (fun z q => q.mono fun b q => by
      cases b
      · exact k _ q
      · exact hc.mono _ _ _ (fun w => h'.mono _ _ _ _ fun z => boolD.mono k) q) q) q) q, (pt_chain h.op h'.op ha.run hb.run hc.run hm).imp fun σ H Q ⟨I, ρ, A, q⟩ => ?_⟩
  · refine rdE_next ha.mono A q fun x v I1 H1 q1 s1 rx => rdE_next hb.mono (A.step s1) q1 fun y u I2 H2 q2 s2 ry => ?_
    refine h.lf v u x y I2 H2 _ s2.st (rx.mono s2.i) ry (h.mono _ _ _ _ (fun z qz => ?_) q2)
    obtain ⟨k, rfl, qz⟩ := qz
    intro w I3 H3 s3 rw'
    cases rw'
    refine ⟨k, rfl, ?_⟩
    cases k
    · exact ⟨false, rfl, qz I3 H3 ((s1.trans s2).trans s3)⟩
    · refine rdE_next hc.mono (((A.step s1).step s2).step s3) qz fun w u' I4 H4 q4 s4 rw' => ?_
      refine h'.lf u u' y w I4 H4 _ s4.st ((ry.mono s3.i).mono s4.i) rw' (h'.mono _ _ _ _ (fun z hz => ?_) q4)
      obtain ⟨b, rfl, qb⟩ := hz
      intro w2 I5 H5 s5 r5
      cases r5
      exact ⟨b, rfl, qb I5 H5 ((((s1.trans s2).trans s3).trans s4).trans s5)⟩
end
end Dk
namespace Dk
open PySem L2
abbrev DTS2 := DEnv → (D → DEnv → Prop) → Prop
abbrev DATS := DEnv → (List D → DEnv → Prop) → Prop
/-- held in a slot -/
def heldIn (ρ : DEnv) (σ : St) (p : Addr) : Prop := ∃ (i : Nat) (e : Ent), ρ[i]? = some (some e) ∧ e.isOwn ∧ σ[i]? = some (some (V.ref p))
/-- what is held may have turned, nothing else -/
structure Moved (F : Fx) (σ : St) (ρ : DEnv) (I H : Hp) (ρ' : DEnv) (I' H' : Hp) : Prop where
  i : Same I I'
  kp : ∀ p o, H p = some o → I p = none → ¬ F.W.mv p → ¬ heldIn ρ σ p → H' p = some o ∧ I' p = none
  sub : ∀ (i : Nat) (e : Ent), ρ'[i]? = some (some e) → e.isOwn → ∃ e0, ρ[i]? = some (some e0) ∧ e0.isOwn
theorem Moved.refl {F : Fx} {σ : St} {ρ : DEnv} {I H : Hp} : Moved F σ ρ I H ρ I H := ⟨Same.refl I, fun _ _ e n _ _ => ⟨e, n⟩, fun _ e h o => ⟨e, h, o⟩⟩
theorem Moved.of {F : Fx} {σ : St} {ρ : DEnv} {I H I' H' : Hp} (s : Stp F.W I H I' H') : Moved F σ ρ I H ρ I' H' := ⟨s.i, fun p o e n m _ => ⟨s.h _ _ e m, s.new _ _ e n⟩, fun _ e h o => ⟨e, h, o⟩⟩
theorem Moved.trans {F : Fx} {σ : St} {ρ ρ' ρ'' : DEnv} {I H I' H' I'' H'' : Hp} (a : Moved F σ ρ I H ρ' I' H') (b : Moved F σ ρ' I' H' ρ'' I'' H'') : Moved F σ ρ I H ρ'' I'' H'' :=
  ⟨Same.trans a.i b.i, fun p o e n m nh => let ⟨e1, n1⟩ := a.kp p o e n m nh; b.kp p o e1 n1 m fun ⟨i, e, h, ho, hs⟩ => nh (let ⟨e0, h0, o0⟩ := a.sub i e h ho; ⟨i, e0, h0, o0, hs⟩),
    fun i e h o => let ⟨e1, h1, o1⟩ := b.sub i e h o; a.sub i e1 h1 o1⟩
def rdES (F : Fx) (K : PySem.W.Frag) (t : DTS2) : TE := fun σ H Q => ∃ I ρ, At F K I ρ σ H ∧ t ρ fun d ρ' => ∀ v I' H', Moved F σ ρ I H ρ' I' H' → At F K I' ρ' σ H' → Rep K I' v d → Q v H'
def rdAS (F : Fx) (K : PySem.W.Frag) (t : DATS) : TA := fun σ H Q => ∃ I ρ, At F K I ρ σ H ∧ t ρ fun ds ρ' => ∀ vs I' H', Moved F σ ρ I H ρ' I' H' → At F K I' ρ' σ H' → Reps K I' vs ds → Q vs H'
structure DES (F : Fx) (X : Cx) (e : Expr) (t : DTS2) : Prop where
  mono : ∀ ρ (Q Q' : D → DEnv → Prop), (∀ d ρ, Q d ρ → Q' d ρ) → t ρ Q → t ρ Q'
  run : PE X e (rdES F X.K t)
structure DAS (F : Fx) (X : Cx) (es : List Expr) (t : DATS) : Prop where
  mono : ∀ ρ (Q Q' : List D → DEnv → Prop), (∀ d ρ, Q d ρ → Q' d ρ) → t ρ Q → t ρ Q'
  run : PA X es (rdAS F X.K t)
section
variable {F : Fx} {X : Cx} {K : PySem.W.Frag} {I H I' H' : Hp} {ρ : DEnv} {σ : St} {e : Expr} {es : List Expr} {te : DT} {ts : DTS2} {ta : DATS} {x : Str} {p1 p2 p3 pos pos' : Pos}
theorem des_of (h : DE F X e te) : DES F X e (fun ρ Q => te ρ fun d => Q d ρ) :=
  ⟨fun ρ Q Q' k q => h.mono _ _ _ (fun d => k d ρ) q, h.run.imp fun σ H Q ⟨I, ρ, A, q⟩ => rdE_next h.mono A q fun d v I' H' p s rv => p v I' H' (.of s) (A.step s) rv⟩
theorem des_pop (i : Nat) (hN : X.N[i]? = some x := by rfl) (hv : Vis X.env.scope x := by first | exact Or.inl rfl | exact Or.inr (Or.inl rfl) | exact Or.inr (Or.inr rfl)) (hd : (x == ("__debug__" : Str)) = false := by decide) (hcd : (x == ("__classdict__" : Str)) = false := by decide)
    (hbase : attributeBase (.Name x p1) "pop" X.env (eval (.Name x p1) X.env) = eval (.Name x p1) X.env := by rfl) (hline : (p2.endLine == p3.line) = true := by rfl) :
    DES F X (.Call (.Attribute (.Name x p1) "pop" p2) [] [] p3) (fun ρ Q => ∃ xs d, ρ[i]? = some (some (.own (xs ++ [d]))) ∧ Q d (ρ.set i (some (.own xs)))) := by
  refine ⟨fun ρ Q Q' k ⟨xs, d, e, q⟩ => ⟨xs, d, e, k _ _ q⟩, (pe_bm0 PySem.F.plainAttrs_list PySem.F.slot_list_pop PySem.F.type_list_pop mt_pop (pv i hN hv hd hcd) hbase hline).imp fun σ H Q ⟨I, ρ, A, xs, d, hx, q⟩ => ?_⟩
  obtain ⟨p, o, h1, w, turn⟩ := A.turnOwn hx trivial
  obtain ⟨vs, rfl, r⟩ := w.rep
  have hl := r.length
  have hn : vs ≠ [] := by rintro rfl; simp at hl
  obtain ⟨us, u, rfl⟩ : ∃ us u, vs = us ++ [u] := ⟨_, _, (List.dropLast_concat_getLast hn).symm⟩
  have hl2 : us.length = xs.length := by simpa using hl
  have r1 : Reps X.K I us xs := by
    have := r.take us.length
    rwa [List.take_left' rfl, List.take_left' hl2.symm] at this
  have r2 : Rep X.K I u d := by
    have := r.drop us.length
    rw [List.drop_left' rfl, List.drop_left' hl2.symm] at this
    cases this with
    | cons a b => exact a
  refine ⟨_, h1, .inl ⟨rfl, _, .of w.hp⟩, p, _, u, rfl, rfl, w.hp, by simp, ?_⟩
  rw [List.dropLast_concat]
  have mv : Moved F σ ρ I H (ρ.set i (some (.own xs))) I (upd H p (.lst us)) := by
    refine ⟨Same.refl I, fun b w e n m nh => ⟨?_, n⟩, fun k e hk ho => ?_⟩
    · rw [upd_ne fun z => nh ⟨i, _, hx, trivial, by rw [z]; exact h1⟩]; exact e
    · rcases set_at hk with ⟨rfl, _⟩ | ⟨_, q⟩
      · exact ⟨_, hx, trivial⟩
      · exact ⟨e, q, ho⟩
  exact q u I _ mv (turn _ _ ⟨us, rfl, r1⟩ (by intro _ h; cases h)) r2
theorem das_nil : DAS F X [] (fun ρ Q => Q [] ρ) := ⟨fun ρ Q Q' k q => k _ _ q, pa_nil.imp fun σ H Q ⟨I, ρ, A, q⟩ => q [] I H .refl A .nil⟩
theorem das_cons (h : DES F X e ts) (h' : DAS F X es ta) (hs : starEach (e :: es) X.env = (false, eval e X.env) :: starEach es X.env := by rfl) : DAS F X (e :: es) (fun ρ Q => ts ρ fun d ρ1 => ta ρ1 fun ds ρ2 => Q (d :: ds) ρ2) := by
  refine ⟨fun ρ Q Q' k q => h.mono _ _ _ (fun d ρ1 q => h'.mono _ _ _ (fun ds ρ2 => k _ _) q) q, (pa_cons h.run h'.run hs).imp fun σ H Q ⟨I, ρ, A, q⟩ => ?_⟩
  refine ⟨I, ρ, A, h.mono _ _ _ (fun d ρ1 q v I1 H1 s1 A1 rv => ?_) q⟩
  exact ⟨I1, ρ1, A1, h'.mono _ _ _ (fun ds ρ2 q vs I2 H2 s2 A2 rs => q (v :: vs) I2 H2 (s1.trans s2) A2 (.cons (rv.mono s2.i) rs)) q⟩
theorem des_tup {k : Nat} (h : DAS F X es ta) : DES F X (.Tuple es k pos) (fun ρ Q => ta ρ fun ds ρ' => ds.length ≤ sizeLine ∧ Q (.tup ds) ρ') := by
  refine ⟨fun ρ Q Q' k q => h.mono _ _ _ (fun d ρ q => ⟨q.1, k _ _ q.2⟩) q, (pe_tup h.run).imp fun σ H Q ⟨I, ρ, A, q⟩ => ⟨I, ρ, A, h.mono _ _ _ (fun ds ρ' q vs I' H' s A' rs => ⟨rs.length ▸ q.1, fun a ha => ?_⟩) q⟩⟩
  have l := A'.st.laid ha (.tup vs)
  exact q.2 _ _ _ (s.trans (.of l)) (A'.step l) (.tup (.of upd_same) (rs.mono l.i))
/-- x = [..] of our own -/
theorem ds_ownS {p2 : Pos} (i : Nat) (ha : DAS F X es ta) (hN : X.N.Nodup) (hi : X.N[i]? = some x := by rfl) (hx : Loc X.env.scope x := by first | exact Or.inl rfl | exact Or.inr rfl) (hs : swapsWith (.List es p2) (some (.Name x pos')) pos.line X.env = pure false := by rfl)
    (hf : X.fn x = true ∨ X.env.scope.names.lookup x = some .local := by first | exact .inl rfl | exact .inr rfl | assumption) : DSt F X (.Assign [.Name x pos'] (.List es p2) pos) (fun Z ρ => ta ρ fun ds ρ' => ds.length ≤ sizeLine ∧ Z.nx (ρ'.set i (some (.own ds)))) := by
  refine ⟨fun Z Z' ρ l q => ha.mono _ _ _ (fun d ρ q => ⟨q.1, l.nx _ q.2⟩) q, (ps_set hN hi hx (pe_lst ha.run) hs hf).imp fun Z σ H ⟨I, ρ, A, q⟩ => ⟨I, ρ, A, ha.mono _ _ _ (fun ds ρ' q vs I' H' s A' rs => ⟨rs.length ▸ q.1, fun a hz => ?_⟩) q⟩⟩
  exact q.2 I' _ _ s.i (A'.newOwn hz ⟨_, rfl, rs⟩)
/-- x.append(e) -/
theorem ds_appendS (i : Nat) (he : DES F X e ts) (hN : X.N[i]? = some x := by rfl) (hv : Vis X.env.scope x := by first | exact Or.inl rfl | exact Or.inr (Or.inl rfl) | exact Or.inr (Or.inr rfl)) (hd : (x == ("__debug__" : Str)) = false := by decide)
    (hcd : (x == ("__classdict__" : Str)) = false := by decide) (hsw : swapsWith (.Call (.Attribute (.Name x p1) "append" p2) [e] [] p3) none pos.line X.env = pure false := by rfl) (hbase : attributeBase (.Name x p1) "append" X.env (eval (.Name x p1) X.env) = eval (.Name x p1) X.env := by rfl)
    (hfew : ((backTo p3 (starEach [e] X.env)).all (fun x => !x.1) && (backToKw p3 (keywordEach [] X.env)).all (fun x => x.1.isSome) && decide ([e].length + ([] : List Keyword).length + (if ([] : List Keyword).isEmpty then 0 else 1) < 30)) = true := by rfl)
    (hline : (p2.endLine == p3.line) = true := by rfl) (hst : starEach [e] X.env = (false, eval e X.env) :: starEach [] X.env := by rfl) (hpl : (backTo p3 (starEach [] X.env)).any (·.1) = false := by rfl) :
    DSt F X (.Expr (.Call (.Attribute (.Name x p1) "append" p2) [e] [] p3) pos) (fun Z ρ => ∃ xs, ρ[i]? = some (some (.own xs)) ∧ ts ρ fun d ρ' => ∃ ys, ρ'[i]? = some (some (.own ys)) ∧ ys.length < sizeLine ∧ Z.nx (ρ'.set i (some (.own (ys ++ [d]))))) := by
  refine ⟨fun Z Z' ρ l ⟨xs, h, q⟩ => ⟨xs, h, he.mono _ _ _ (fun d ρ ⟨ys, h, q⟩ => ⟨ys, h, q.1, l.nx _ q.2⟩) q⟩,
    (ps_expr (pe_bm PySem.F.plainAttrs_list PySem.F.slot_list_append PySem.F.type_list_append mt_append (pv i hN hv hd hcd) (pa_cons he.run pa_nil hst) hbase hfew hline hst hpl) hsw).imp fun Z σ H ⟨I, ρ, A, q⟩ => ?_⟩
  obtain ⟨xs, hx, q⟩ := q
  obtain ⟨p, o, h1, w, _⟩ := A.turnOwn hx trivial
  obtain ⟨vs, rfl, _⟩ := w.rep
  refine ⟨_, h1, .inl ⟨rfl, vs, .of w.hp⟩, I, ρ, A, he.mono _ _ _ (fun d ρ' q' v I' H' s A' rv => ?_) q⟩
  obtain ⟨ys, hy, hl, q'⟩ := q'
  obtain ⟨p', o', h1', w', turn⟩ := A'.turnOwn hy trivial
  obtain ⟨ws, rfl, r⟩ := w'.rep
  rw [h1] at h1'
  cases h1'
  exact ⟨p, ws, v, rfl, rfl, w'.hp, by rw [r.length]; exact hl, q' I' σ _ s.i (turn _ _ ⟨_, rfl, r.append (.cons rv .nil)⟩ (by intro _ h; cases h))⟩
end
end Dk
namespace Dk
open PySem L2
section
variable {F : Fx} {X : Cx} {K : PySem.W.Frag} {I H I' H' : Hp} {ρ : DEnv} {σ : St} {e i : Expr} {te ti : DT} {x : Str} {p1 p2 pos pos' : Pos}
/-- x = {} -/
theorem ds_ownD (i : Nat) (hN : X.N.Nodup) (hi : X.N[i]? = some x := by rfl) (hx : Loc X.env.scope x := by first | exact Or.inl rfl | exact Or.inr rfl) (hs : swapsWith (.Dict [] [] p2) (some (.Name x pos')) pos.line X.env = pure false := by rfl)
    (hf : X.fn x = true ∨ X.env.scope.names.lookup x = some .local := by first | exact .inl rfl | exact .inr rfl | assumption) : DSt F X (.Assign [.Name x pos'] (.Dict [] [] p2) pos) (fun Z ρ => Z.nx (ρ.set i (some (.ownD [])))) := by
  refine ⟨fun Z Z' ρ l q => l.nx _ q, (ps_set hN hi hx pe_dnewK hs hf).imp fun Z σ H ⟨I, ρ, A, q⟩ a hz => ?_⟩
  exact q I _ _ (Same.refl I) (A.newOwn hz ⟨[], rfl, rfl, .nil⟩)
/-- x[k] = e -/
theorem ds_dput (j : Nat) (hu : X.A.units + 64 < cLine) (hk : DE F X i ti) (he : DE F X e te) (hN : X.N[j]? = some x := by rfl) (hv : Vis X.env.scope x := by first | exact Or.inl rfl | exact Or.inr (Or.inl rfl) | exact Or.inr (Or.inr rfl)) (hd : (x == ("__debug__" : Str)) = false := by decide)
    (hcd : (x == ("__classdict__" : Str)) = false := by decide) (hs : swapsWith e (some (.Subscript (.Name x p1) i pos')) pos.line X.env = pure false := by rfl) :
    DSt F X (.Assign [.Subscript (.Name x p1) i pos'] e pos) (fun Z ρ => te ρ fun d => ∃ kvs, ρ[j]? = some (some (.ownD kvs)) ∧ ti ρ fun y => ∃ k, y = keyD k ∧ kvs.length < sizeLine ∧ Z.nx (ρ.set j (some (.ownD (putD kvs k d))))) := by
  refine ⟨fun Z Z' ρ l q => he.mono _ _ _ (fun d ⟨kvs, h, q⟩ => ⟨kvs, h, hk.mono _ _ _ (fun y ⟨k, e, l', q⟩ => ⟨k, e, l', l.nx _ q⟩) q⟩) q, (ps_dput (by omega) (pv j hN hv hd hcd) hk.run he.run hs).imp fun Z σ H ⟨I, ρ, A, q⟩ => ?_⟩
  refine rdE_next he.mono A q fun d v I1 H1 q1 s1 rv => ?_
  obtain ⟨kvs, hx, q1⟩ := q1
  have A1 := A.step s1
  obtain ⟨p, o, h1, w, _⟩ := A1.turnOwn hx trivial
  obtain ⟨ws, rfl, _, _⟩ := w.rep
  refine ⟨_, h1, rdE_next hk.mono A1 q1 fun y u I2 H2 q2 s2 ry => ?_⟩
  obtain ⟨k, rfl, hl, q2⟩ := q2
  have A2 := A1.step s2
  obtain ⟨p', o', h1', w', turn⟩ := A2.turnOwn hx trivial
  obtain ⟨us, rfl, kk, r⟩ := w'.rep
  rw [h1] at h1'
  cases h1'
  obtain ⟨a1, a2⟩ := putD_rep (k := k) (rv.mono s2.i) kk r
  have ll : us.length = kvs.length := by simpa using congrArg List.length kk
  refine ⟨p, _, rfl, .inl ⟨us, k, w'.hp, keyD_rep ry, by omega, rfl⟩, q2 I2 σ _ (Same.trans s1.i s2.i) (turn _ _ ⟨_, rfl, a1, a2⟩ (by intro _ h; cases h))⟩
end
end Dk
namespace Dk
open PySem L2
open PyProof.Rows (envOfC)
def fldD (C : Addr) (f : Str) (d : D) (Q : D → Prop) : Prop := ∃ fs x, d = .obj C fs ∧ fs.lookup f = some x ∧ Q x
theorem lookup_rep {K : PySem.W.Frag} {I : Hp} {f : Str} {d : D} : ∀ {ws : List (Str × V)} {fs : List (Str × D)}, ws.map (·.1) = fs.map (·.1) → Reps K I (ws.map (·.2)) (fs.map (·.2)) → fs.lookup f = some d → ∃ v, ws.lookup f = some v ∧ Rep K I v d
  | [], [], _, _, h => by simp at h
  | [], _ :: _, h, _, _ => by simp at h
  | _ :: _, [], h, _, _ => by simp at h
  | (i, x) :: ws, (j, y) :: fs, h, r, e => by
    simp only [List.map_cons, List.cons.injEq] at h
    obtain ⟨rfl, h⟩ := h
    cases r with
    | cons r1 r2 =>
      rw [List.lookup_cons] at e ⊢
      cases hb : f == i with
      | true => rw [hb] at e; cases e; exact ⟨_, rfl, r1⟩
      | false => rw [hb] at e; exact lookup_rep h r2 e
/-- a field put -/
def putFD (f : Str) (v : D) : List (Str × D) → List (Str × D)
  | [] => [(f, v)]
  | (g, x) :: r => if g = f then (g, v) :: r else (g, x) :: putFD f v r
theorem putF_rep {K : PySem.W.Frag} {I : Hp} {f : Str} {v : V} {d : D} (rv : Rep K I v d) : ∀ {ws : List (Str × V)} {fs : List (Str × D)}, ws.map (·.1) = fs.map (·.1) → Reps K I (ws.map (·.2)) (fs.map (·.2)) → (putF f v ws).map (·.1) = (putFD f d fs).map (·.1) ∧ Reps K I ((putF f v ws).map (·.2)) ((putFD f d fs).map (·.2))
  | [], [], _, _ => ⟨rfl, .cons rv .nil⟩
  | [], _ :: _, h, _ => by simp at h
  | _ :: _, [], h, _ => by simp at h
  | (i, x) :: ws, (j, y) :: fs, h, r => by
    simp only [List.map_cons, List.cons.injEq] at h
    obtain ⟨rfl, h⟩ := h
    cases r with
    | cons r1 r2 =>
      obtain ⟨a, b⟩ := putF_rep rv h r2
      unfold putF putFD
      by_cases e : i = f
      · rw [if_pos e, if_pos e]
        exact ⟨by simp [h], .cons rv r2⟩
      · rw [if_neg e, if_neg e]
        exact ⟨by simp [a], .cons r1 b⟩
section
variable {F : Fx} {X : Cx} {K : PySem.W.Frag} {I H I' H' : Hp} {ρ : DEnv} {σ : St} {e o : Expr} {te to : DT} {C : Addr} {f m x : Str} {p p1 pos pos' apos : Pos}
theorem de_fld (c : Cls X.K C) (n : NoAttr X.K C f) (he : DE F X e te) (hb : attributeBase e f X.env (eval e X.env) = eval e X.env := by rfl) : DE F X (.Attribute e f pos) (fun ρ Q => te ρ fun d => fldD C f d Q) := by
  refine ⟨fun ρ Q Q' k q => he.mono _ _ _ (fun d ⟨fs, x, e, l, q⟩ => ⟨fs, x, e, l, k _ q⟩) q, (pe_fld he.run hb).imp fun σ H Q ⟨I, ρ, A, q⟩ => rdE_next he.mono A q fun d v I1 H1 q1 s rv => ?_⟩
  obtain ⟨fs, x, rfl, l, q1⟩ := q1
  cases rv with
  | @obj a _ dx ws _ ha kk r =>
    obtain ⟨w, h1, h2⟩ := lookup_rep kk r l
    exact ⟨a, C, dx, ws, w, rfl, s.st.sub _ _ ha, c, n, h1, q1 _ _ _ s h2⟩
/-- self.f = e -/
theorem ds_setA (j : Nat) (he : DE F X e te) (hN : X.N[j]? = some x := by rfl) (hv : Vis X.env.scope x := by first | exact Or.inl rfl | exact Or.inr (Or.inl rfl) | exact Or.inr (Or.inr rfl)) (hd : (x == ("__debug__" : Str)) = false := by decide)
    (hcd : (x == ("__classdict__" : Str)) = false := by decide) (hs : swapsWith e (some (.Attribute (.Name x p1) f pos')) pos.line X.env = pure false := by rfl) (cl : Cls X.K C) (n : NoAttr X.K C f) :
    DSt F X (.Assign [.Attribute (.Name x p1) f pos'] e pos) (fun Z ρ => te ρ fun d => ∃ q fs, ρ[j]? = some (some (.ownO q C fs)) ∧ fs.length < 1000 ∧ Z.nx (ρ.set j (some (.ownO q C (putFD f d fs))))) := by
  refine ⟨fun Z Z' ρ l q => he.mono _ _ _ (fun d ⟨q0, fs, h, hl, q⟩ => ⟨q0, fs, h, hl, l.nx _ q⟩) q, (ps_fld (pv j hN hv hd hcd) he.run hs).imp fun Z σ H ⟨I, ρ, A, q⟩ => rdE_next he.mono A q fun d v I1 H1 q1 s rv => ?_⟩
  obtain ⟨q0, fs, hx, hl, q1⟩ := q1
  have A1 := A.step s
  obtain ⟨p, o, h1, w, turn⟩ := A1.turnOwn hx trivial
  have hpq : p = q0 := w.ad _ rfl
  obtain ⟨dx, ws, rfl, kk, r⟩ := w.rep
  obtain ⟨a1, a2⟩ := putF_rep (f := f) rv kk r
  have ll : ws.length = fs.length := by simpa using congrArg List.length kk
  refine ⟨_, h1, p, C, dx, ws, rfl, w.hp, cl, n, by omega, q1 I1 σ _ s.i (turn (.ownO q0 C (putFD f d fs)) _ ⟨dx, _, rfl, a1, a2⟩ fun q h => ?_)⟩
  cases h
  exact hpq
end
theorem Rm.make {k : Nat} {A : Around} (r : Rm (k + 1) A) (C : Addr) (us : List Value) (kw : List (Str × Value)) : Rm k (A.under (.builtin "type.__call__" ⟨.ref C :: us, kw⟩)) := by
  refine ⟨r.room.make C us kw, ?_⟩
  show pushGuards (Code.guards (.builtin "type.__call__" ⟨.ref C :: us, kw⟩)) A.guards = some []
  have e : Code.guards (.builtin "type.__call__" ⟨.ref C :: us, kw⟩) = [] := by
    have g : Code.isGuard (.builtin "type.__call__" ⟨.ref C :: us, kw⟩) = false := show guardIds.contains "type.__call__" = false by decide +kernel
    unfold Code.guards
    rw [g]
    rfl
  rw [e]
  exact r.gd
/-- what __init__ promises: the object that comes of it -/
def spInit (W : Wd) (K : PySem.W.Frag) (C : Addr) (S : DSp) : Sp := fun vs H Q E => ∃ x dx us I ds, vs = .ref x :: us ∧ H x = some (.ins C dx []) ∧ I x = none ∧ ¬ W.mv x ∧ StI W I H ∧ Reps K I us ds ∧
  S.f ds (fun d => ∀ I' H', Stp W I (dropA H x) I' H' → Rep K I' (.ref x) d → Q .non H') fun e => ∀ cls d I' H', Stp W I (dropA H x) I' H' → ExRep K I' H' cls d e → E cls d H'
def initEnds (x C : Addr) (Q : D → Prop) : DEnds := ⟨fun ρ => ∃ fs, ρ[0]? = some (some (.ownO x C fs)) ∧ Q (.obj C fs), fun _ => False, fun _ => False, fun _ => False, fun _ => False⟩
def startI (N : List Str) (x C : Addr) (ds : List D) : DEnv := some (.ownO x C []) :: (ds.map (fun d => some (Ent.dat d)) ++ List.replicate (N.length - (ds.length + 1)) none)
theorem at_startI {W : Wd} {K : PySem.W.Frag} {I H : Hp} {N : List Str} {us : List V} {ds : List D} {x dx C : Addr} (s : StI W I H) (hx : H x = some (.ins C dx [])) (ni : I x = none) (nm : ¬ W.mv x) (r : Reps K I us ds) :
    At ⟨W, dropA H x, I⟩ K I (startI N x C ds) (L2.start N (.ref x :: us)) H := by
  refine ⟨⟨Same.refl I, s, fun b o e _ => (dropA_at e).2, fun b o e n => n⟩, by simp [startI, L2.start, r.length], fun i e h => ?_, fun i j e e' v hij h1 h2 o1 o2 hv => ?_⟩
  · unfold startI at h
    cases i with
    | zero =>
      simp only [List.getElem?_cons_zero, Option.some.injEq] at h
      subst h
      exact ⟨.ref x, by simp [L2.start], .inr ⟨x, _, rfl, hx, ⟨dx, [], rfl, rfl, .nil⟩, ni, nm, if_pos rfl, fun q h => by cases h; rfl⟩⟩
    | succ i =>
      rw [List.getElem?_cons_succ] at h
      by_cases hi : i < ds.length
      · rw [List.getElem?_append_left (by simpa using hi), List.getElem?_map] at h
        cases q : ds[i]? with
        | none => rw [q] at h; cases h
        | some d =>
          rw [q] at h
          cases h
          obtain ⟨v, h1, h2⟩ := r.get q
          refine ⟨v, ?_, .inl ⟨_, rfl, h2⟩⟩
          unfold L2.start
          rw [List.map_cons, List.cons_append, List.getElem?_cons_succ, List.getElem?_append_left (by simpa [r.length] using hi), List.getElem?_map, h1]
          rfl
      · rw [List.getElem?_append_right (by simpa using hi), List.getElem?_replicate] at h
        split at h <;> cases h
  · have only : ∀ (i : Nat) (e : Ent), (startI N x C ds)[i]? = some (some e) → e.isOwn → i = 0 := fun i e h o => by
      cases i with
      | zero => rfl
      | succ i =>
        unfold startI at h
        rw [List.getElem?_cons_succ] at h
        by_cases hi : i < ds.length
        · rw [List.getElem?_append_left (by simpa using hi), List.getElem?_map] at h
          cases q : ds[i]? with
          | none => rw [q] at h; cases h
          | some d => rw [q] at h; cases h; exact o.elim
        · rw [List.getElem?_append_right (by simpa using hi), List.getElem?_replicate] at h
          split at h <;> cases h
    exact absurd ((only i e h1 o1).trans (only j e' h2 o2).symm) hij
/-- a class that may be called -/
structure CalC (P : Program) (w : World) (K : PySem.W.Frag) (mg : Str → Option Value) (base : Heap) (CX : CXT) (W : Wd) (k : Nat) (x : Str) (C : Addr) (ps : List Str) (S : DSp) : Prop where
  ex : ∃ f fd, Mk K C f ∧ GnOk P w K mg base CX k f fd ps (spInit W K C S) ∧ mg x = some (.ref C) ∧ Binds K fd ps [] ∧ ps.length = S.n + 1
section
variable {F : Fx} {X : Cx} {CX : CXT} {k : Nat} {x : Str} {C : Addr} {ps : List Str} {S : DSp} {E : XK} {p pos : Pos} {e : Expr} {es : List Expr} {t : DAT} {Ed : Ex → Prop}
theorem new_run {W : Wd} {K : PySem.W.Frag} {I H : Hp} {x dx : Addr} {o : HO} (s : StI W I H) (hx : H x = none) (hd : H dx = none) (ne : dx ≠ x) : I x = none ∧ ¬ W.mv x ∧ StI W I (upd (upd H dx (.own x)) x o) ∧ ∀ I' H', Stp W I (dropA (upd (upd H dx (.own x)) x o) x) I' H' → Stp W I H I' H' := by
  have s1 := s.laidM hd (.own x)
  have hx1 : upd H dx (.own x) x = none := by rw [upd_ne (Ne.symm ne)]; exact hx
  have s2 := s1.st.laidM hx1 o
  refine ⟨s.free hx, fun m => W.live s.inv m hx, s2.st, fun I' H' st => ⟨st.i, st.st, fun b u e m => ?_, fun b u e n => ?_⟩⟩
  · have hb : b ≠ x := ne_of_none e hx
    exact st.h b u (by rw [dropA_ne hb]; exact s2.h _ _ (s1.h _ _ e m) m) m
  · have hb : b ≠ x := ne_of_none e hx
    exact st.new b u (by rw [dropA_ne hb, upd_ne hb, upd_ne (ne_of_none e hd)]; exact e) n
end
end Dk
namespace Dk
open PySem L2
end Dk
namespace Dk
open PySem L2
open PyProof.Rows (envOfC)
abbrev DTO := DEnv → (List D → Prop) → Prop
def finO (F : Fx) (K : PySem.W.Frag) (I H : Hp) (Q : VK) : List D → Prop := fun ds => ∀ p vs I' H', Stp F.W I H I' H' → H' p = none → Reps K I' vs ds → Q (.ref p) (upd H' p (.lst vs))
def rdO' (F : Fx) (K : PySem.W.Frag) (t : DTO) : TE := fun σ H Q => ∃ I ρ, At F K I ρ σ H ∧ t ρ (finO F K I H Q)
structure DEO (F : Fx) (X : Cx) (e : Expr) (t : DTO) : Prop where
  mono : ∀ ρ (Q Q' : List D → Prop), (∀ d, Q d → Q' d) → t ρ Q → t ρ Q'
  run : PE X e (rdO' F X.K t)
section
variable {F : Fx} {X : Cx} {K : PySem.W.Frag} {I H I' H' : Hp} {ρ : DEnv} {σ : St} {a b e : Expr} {es : List Expr} {ta tb te : DT} {t : DTO} {x : Str} {p p2 pos pos' : Pos}
/-- x = a list of our own -/
theorem ds_setO (i : Nat) (he : DEO F X e t) (hN : X.N.Nodup) (hi : X.N[i]? = some x := by rfl) (hx : Loc X.env.scope x := by first | exact Or.inl rfl | exact Or.inr rfl) (hs : swapsWith e (some (.Name x pos')) pos.line X.env = pure false := by rfl)
    (hf : X.fn x = true ∨ X.env.scope.names.lookup x = some .local := by first | exact .inl rfl | exact .inr rfl | assumption) : DSt F X (.Assign [.Name x pos'] e pos) (fun Z ρ => t ρ fun ds => Z.nx (ρ.set i (some (.own ds)))) := by
  refine ⟨fun Z Z' ρ l q => he.mono _ _ _ (fun d q => l.nx _ q) q, (ps_set hN hi hx he.run hs hf).imp fun Z σ H ⟨I, ρ, A, q⟩ => ⟨I, ρ, A, he.mono _ _ _ (fun ds q p vs I' H' s hp rs => ?_) q⟩⟩
  exact q I' _ _ s.i ((A.step s).newOwn hp ⟨_, rfl, rs⟩)
theorem ds_retO (he : DEO F X e t) : DSt F X (.Return (some e) pos) (fun Z ρ => t ρ fun ds => Z.ro (.own ds)) :=
  ⟨fun Z Z' ρ l q => he.mono _ _ _ (fun ds => l.ro _) q, (ps_ret he.run).imp fun Z σ H ⟨I, ρ, A, q⟩ => ⟨I, ρ, A, he.mono _ _ _ (fun ds q p vs I' H' s hp rs => q p vs I' H' (A.stp.trans s) hp rs) q⟩⟩
def catD (x y : D) (Q : List D → Prop) : Prop := ∃ xs ys, x = .lst xs ∧ y = .lst ys ∧ xs.length + ys.length ≤ sizeLine ∧ Q (xs ++ ys)
theorem deo_add (ha : DE F X a ta) (hb : DE F X b tb) : DEO F X (.BinOp a .Add b pos) (fun ρ Q => ta ρ fun x => tb ρ fun y => catD x y Q) := by
  refine ⟨fun ρ Q Q' k h => ha.mono _ _ _ (fun d h => hb.mono _ _ _ (fun e ⟨xs, ys, e1, e2, l, q⟩ => ⟨xs, ys, e1, e2, l, k _ q⟩) h) h, (pe_op op_cat ha.run hb.run).imp fun σ H Q ⟨I, ρ, A, q⟩ => rdE_next ha.mono A q fun x v I1 H1 q1 s1 rx => rdE_next hb.mono (A.step s1) q1 fun y u I2 H2 q2 s2 ry => ?_⟩
  obtain ⟨xs, ys, rfl, rfl, l, q2⟩ := q2
  have rx := rx.mono s2.i
  cases rx with
  | @lst p vs _ a r =>
    cases ry with
    | @lst q ws _ a' r' => exact ⟨p, q, vs, ws, rfl, rfl, s2.st.sub _ _ a, s2.st.sub _ _ a', by rw [r.length, r'.length]; exact l, fun z hz => q2 z _ I2 H2 (s1.trans s2) hz (r.append r')⟩
def cutLD (d : D) (lo hi : Option Int) (Q : List D → Prop) : Prop := ∃ xs, d = .lst xs ∧ Q (cutD xs lo hi)
theorem deo_slice {lo hi : Option Expr} {tl th : DOT} (he : DE F X e te) (hl : DO F X lo tl) (hh : DO F X hi th) : DEO F X (.Subscript e (.Slice lo hi none p2) pos) (fun ρ Q => te ρ fun d => tl ρ fun l => th ρ fun u => cutLD d l u Q) := by
  refine ⟨fun ρ Q Q' k q => he.mono _ _ _ (fun d q => hl.mono _ _ _ (fun l q => hh.mono _ _ _ (fun u ⟨xs, e, q⟩ => ⟨xs, e, k _ q⟩) q) q) q, (pe_slice sl_list he.run hl.run hh.run).imp fun σ H Q ⟨I, ρ, A, q⟩ => rdE_next he.mono A q fun d v I1 H1 q1 s1 rv => ?_⟩
  refine ⟨I1, ρ, A.step s1, hl.mono _ _ _ (fun l q2 I2 H2 s2 => ?_) q1⟩
  refine ⟨I2, ρ, (A.step s1).step s2, hh.mono _ _ _ (fun u q3 I3 H3 s3 => ?_) q2⟩
  obtain ⟨xs, rfl, q3⟩ := q3
  have s := (s1.trans s2).trans s3
  have rv := rv.mono (Same.trans s2.i s3.i)
  cases rv with
  | @lst q zs _ a r => exact ⟨q, zs, rfl, .of (s3.st.sub _ _ a), fun p hp => q3 p _ I3 H3 s hp (r.cut l u)⟩
theorem deo_lst {ta : DAT} (h : DA F X es ta) : DEO F X (.List es pos) (fun ρ Q => ta ρ fun ds => ds.length ≤ sizeLine ∧ Q ds) :=
  ⟨fun ρ Q Q' k q => h.mono _ _ _ (fun d q => ⟨q.1, k _ q.2⟩) q, (pe_lst h.run).imp fun σ H Q ⟨I, ρ, A, q⟩ => rdA_next h.mono A q fun ds vs I' H' p s rs => ⟨rs.length ▸ p.1, fun a ha => p.2 a vs I' H' s ha rs⟩⟩
end
structure DSpO where
  n : Nat
  f : List D → (List D → Prop) → Prop
  len : ∀ ds Q, f ds Q → ds.length = n
  mono : ∀ ds (Q Q' : List D → Prop), (∀ d, Q d → Q' d) → f ds Q → f ds Q'
def spO (W : Wd) (K : PySem.W.Frag) (S : DSpO) : Sp := fun vs H Q _ => ∃ I ds, StI W I H ∧ Reps K I vs ds ∧ S.f ds (finO ⟨W, H, I⟩ K I H Q)
def retO (Q : List D → Prop) : Ret → Prop
  | .own ds => Q ds
  | .st _ _ => False
def ownEnds (Q : List D → Prop) : DEnds := ⟨fun _ => False, fun _ => False, fun _ => False, fun _ => False, retO Q⟩
section
variable {P : Program} {w : World} {K : PySem.W.Frag} {mg : Str → Option Value} {base : Heap}
theorem _root_.L2.Fun.okO {W : Wd} {S : DSpO} {x qual : Str} {st : Stmt} {f : Addr} {fd : FuncData} {N ps : List Str} {k : Nat} (Fn : Fun K x qual st f fd) (Sc : FnScope N ps (defScope st)) (hn : S.n = ps.length)
    (hbody : ∀ (cdv : Value) (A : Around) (outer : List Env) (s : Shared) (H I : Hp) (ds : List D) (Q : List D → Prop) (E : XK), Rm k (A.deeper (envOfC qual (defScope st) s.heap.objs.size f cdv)) → S.f ds Q →
      ∃ t, DSts ⟨W, H, I⟩ (cxOf CX0 P w K mg base N qual (defScope st) f cdv A outer s H E).nox (defBody st) t ∧ t (ownEnds Q) (startD N ds)) : GnOk P w K mg base CX0 (k + 1) f fd ps (spO W K S) := by
  refine Fn.gn Sc (fun vs H Q E ⟨I, ds, _, r, h⟩ => r.length.trans ((S.len _ _ h).trans hn)) fun cdv A outer s H vs Q E hr ⟨I, ds, si, r, h⟩ => ?_
  obtain ⟨t, h1, h2⟩ := hbody cdv A outer s H I ds _ E hr h
  exact ⟨_, h1.run.nox, I, _, at_start si r, h1.mono (ownEnds (finO ⟨W, H, I⟩ K I H Q)) _ _ ⟨fun _ q => q.elim, fun _ q => q.elim, fun _ q => q.elim, fun _ q => q.elim, fun r q => match r, q with | .own ds, q => q | .st _ _, q => q.elim⟩ h2⟩
end
structure CalO (P : Program) (w : World) (K : PySem.W.Frag) (mg : Str → Option Value) (base : Heap) (W : Wd) (k : Nat) (x : Str) (ps : List Str) (S : DSpO) : Prop where
  ex : ∃ f fd, GnOk P w K mg base CX0 k f fd ps (spO W K S) ∧ mg x = some (.ref f) ∧ PySem.W.keepIn K (.ref f) = true ∧ Binds K fd ps []
theorem CalO.of {P : Program} {w : World} {K : PySem.W.Frag} {mg : Str → Option Value} {base : Heap} {W : Wd} {k : Nat} {x qual : Str} {st : Stmt} {f : Addr} {fd : FuncData} {ps : List Str} {S : DSpO} (Fn : Fun K x qual st f fd) (G : GnOk P w K mg base CX0 k f fd ps (spO W K S)) (m : mg x = some (.ref f))
    (h : ∀ (kV doc pm : Value) (an : Option Addr) (cdv ct : Value) (us : List Value), us.length = ps.length → bindArgs (PySem.W.fnOf x qual (defArgs st) (defBody st) (defScope st) .none kV doc pm an cdv ct) ⟨us, []⟩ = pure (ps.zip us)) : CalO P w K mg base W k x ps S :=
  ⟨f, fd, G, m, Fn.kp, Fn.binds h⟩
/-- .. as plain data -/
def DSpO.dat (S : DSpO) : DSp := ⟨S.n, fun ds Q _ => S.f ds fun es => Q (.lst es), fun ds Q _ h => S.len _ _ h, fun ds Q Q' _ _ k _ h => S.mono _ _ _ (fun d => k _) h⟩
theorem CalO.cal {P : Program} {w : World} {K : PySem.W.Frag} {mg : Str → Option Value} {base : Heap} {W : Wd} {k : Nat} {x : Str} {ps : List Str} {S : DSpO} (c : CalO P w K mg base W k x ps S) : Cal P w K mg base CX0 W k x ps S.dat := by
  obtain ⟨f, fd, G, h2, h3, h4⟩ := c.ex
  refine ⟨f, fd, G.weak fun vs H Q E ⟨I, ds, st, r, h⟩ => ⟨I, ds, st, r, S.mono _ _ _ (fun es q p us I' H' s hp rs => ?_) h⟩, h2, h3, h4⟩
  have l := s.st.laid hp (.lst us)
  exact q _ _ _ (s.trans l) (.lst upd_same (rs.mono l.i))
section
variable {F : Fx} {X : Cx} {k : Nat} {x : Str} {ps : List Str} {S : DSpO} {p pos : Pos} {e : Expr} {es : List Expr} {t : DAT}
theorem deo_fn (C : CalO X.prog X.w X.K X.mg X.base F.W k x ps S) (hr : Rm k X.A) (ha : DA F X (e :: es) t)
    (hg : Gl X x := by rfl) (hdb : (x == ("__debug__" : Str)) = false := by decide) (he : starEach (e :: es) X.env = (false, eval e X.env) :: starEach es X.env := by rfl) (hpl : (backTo pos (starEach es X.env)).any (·.1) = false := by rfl) :
    DEO F X (.Call (.Name x p) (e :: es) [] pos) (fun ρ Q => t ρ fun ds => S.f ds Q) := by
  obtain ⟨f, fd, h1, h2, h3, h4⟩ := C.ex
  refine ⟨fun ρ Q Q' k h => ha.mono _ _ _ (fun d h => S.mono _ _ _ k h) h, (gn_call h1 hr hg h2 h3 h4 .nil (pass0 (X := X)) ha.run hdb he hpl).imp fun σ H Q ⟨I, ρ, A, h⟩ => ?_⟩
  show rdA F X.K t σ H fun vs H1 => spO F.W X.K S (vs ++ []) H1 Q E0
  refine rdA_next ha.mono A h fun ds vs I' H' q s rs => ?_
  rw [List.append_nil]
  exact ⟨I', ds, s.st, rs, S.mono _ _ _ (fun es q p us I2 H2 s2 hp r2 => q p us I2 H2 (s.trans s2) hp r2) q⟩
end
section
variable {F : Fx} {X : Cx} {a b : Expr} {ta : DT} {tb : DTO} {px py pt pos : Pos} {x y : Str}
/-- a, b = x, y: the second one a list of our own -/
theorem ds_parO {i j : Nat} {kt k2 pt2} (hc : X.calm = true) (hN : X.N.Nodup) (hi : X.N[i]? = some x) (hj : X.N[j]? = some y) (hij : i ≠ j) (hkx : X.env.scope.names.lookup x = some .local) (hky : X.env.scope.names.lookup y = some .local)
    (ha : DE F X a ta) (hb : DEO F X b tb) (hs1 : starEach [a, b] X.env = (false, eval a X.env) :: starEach [b] X.env := by rfl) (hs2 : starEach [b] X.env = (false, eval b X.env) :: starEach [] X.env := by rfl)
    (hsw : swappedStores [.Tuple [.Name x px, .Name y py] kt pt] (.Tuple [a, b] k2 pt2) X.env = pure (some [x, y]) := by rfl) (hs : swapsWithSole [.Tuple [.Name x px, .Name y py] kt pt] (.Tuple [a, b] k2 pt2) pos.line X.env = pure false := by rfl) : DSt F X (.Assign [.Tuple [.Name x px, .Name y py] kt pt] (.Tuple [a, b] k2 pt2) pos) (fun Z ρ => ta ρ fun d => tb ρ fun es => Z.nx ((ρ.set i (some (.dat d))).set j (some (.own es)))) := by
  refine ⟨fun Z Z' ρ l q => ha.mono _ _ _ (fun d q => hb.mono _ _ _ (fun es q => l.nx _ q) q) q, (ps_par hc hN hi hj hij hkx hky (pa_cons ha.run (pa_cons hb.run pa_nil hs2) hs1) hsw hs).imp fun Z σ H ⟨I, ρ, A, q⟩ => ?_⟩
  refine rdE_next ha.mono A q fun d v I1 H1 q1 s1 rv => ⟨I1, ρ, A.step s1, hb.mono _ _ _ (fun es q p vs I2 H2 s2 hp rs => ?_) q1⟩
  have A2 := ((A.step s1).step s2).set (i := i) (rv.mono s2.i)
  exact ⟨_, _, rfl, q I2 _ _ (Same.trans s1.i s2.i) (A2.newOwn hp ⟨_, rfl, rs⟩)⟩
end
/-- a loop that adds some to a list at each turn -/
theorem loopD_app {α : Type} {g : DGT} {tc : DB} {t : DNT (List D)} {ρ : DEnv} (f : α → D) (out : α → List D) (N : Nat) : ∀ {l : List α} {b : List D} {Q : List D → Prop}, (∀ a ∈ l, ∀ (b : List D) (R : List D → Prop) (S : Prop), b.length + (out a).length ≤ N → R (b ++ out a) → g (f a) ρ fun ρ2 => tc ρ2 fun c => if c = true then t ρ2 b R else S) →
    b.length + (l.flatMap out).length ≤ N → Q (b ++ l.flatMap out) → loopD g tc t ρ (l.map f) b Q := by
  intro l
  induction l with
  | nil => intro b Q _ _ q; simpa [loopD] using q
  | cons a l ih =>
    intro b Q hs hl q
    rw [List.flatMap_cons, List.length_append] at hl
    rw [List.flatMap_cons, ← List.append_assoc] at q
    exact hs a (by simp) b _ _ (by omega) (ih (fun x hx => hs x (List.mem_cons_of_mem _ hx)) (by rw [List.length_append]; omega) q)
/-- a comprehension within another one -/
def nestSc (sc0 csc : Scope) : Scope := relabel csc (PyProof.Rows.envOfC "" sc0 0 0 .none)
theorem blkOk_nest {X : Cx} {s : Shared} {H : Hp} {csc c2 : Scope} {cl : List (Str × Addr)} {C : Addr} {fp : List Addr} {N : List Str} {own : List (Str × Nat)} (sc0 : Scope) (h0 : X.env.scope = sc0) (h : blkC N (nestSc sc0 csc) c2 own = true) : BlkOk N (X.blk s H csc (compEnvC csc cl C X.env) fp).env.scope c2 own := by
  subst h0
  exact blkOk_by h
/-- .. that puts new ones in a dict at each turn -/
theorem loopD_put {α : Type} {g : DGT} {tc : DB} {t : DNT (List (Key × D))} {ρ : DEnv} (f : α → D) (out : α → List (Key × D)) (N : Nat) : ∀ {l : List α} {b : List (Key × D)} {Q : List (Key × D) → Prop}, (∀ a ∈ l, ∀ (b : List (Key × D)) (R : List (Key × D) → Prop) (S : Prop), b.length + (out a).length ≤ N → ((b ++ out a).map (·.1)).Nodup → R (b ++ out a) → g (f a) ρ fun ρ2 => tc ρ2 fun c => if c = true then t ρ2 b R else S) →
    b.length + (l.flatMap out).length ≤ N → ((b ++ l.flatMap out).map (·.1)).Nodup → Q (b ++ l.flatMap out) → loopD g tc t ρ (l.map f) b Q := by
  intro l
  induction l with
  | nil => intro b Q _ _ _ q; simpa [loopD] using q
  | cons a l ih =>
    intro b Q hs hl hn q
    rw [List.flatMap_cons, List.length_append] at hl
    rw [List.flatMap_cons, ← List.append_assoc] at q hn
    refine hs a (by simp) b _ _ (by omega) ?_ (ih (fun x hx => hs x (List.mem_cons_of_mem _ hx)) (by rw [List.length_append]; omega) hn q)
    rw [List.map_append] at hn
    exact (List.nodup_append.mp hn).1
theorem putD_new {b : List (Key × D)} {k : Key} {d : D} (h : ((b ++ [(k, d)]).map (·.1)).Nodup) : putD b k d = b ++ [(k, d)] := by
  unfold putD
  rw [if_neg]
  rw [Bool.not_eq_true, List.any_eq_false]
  intro x hx
  rw [decide_eq_true_eq]
  intro e
  rw [List.map_append, List.nodup_append] at h
  exact h.2.2 x.1 (List.mem_map_of_mem hx) k (by simp) e
end Dk
namespace Dk
open PySem L2
/-- a list of drawn things -/
theorem lcD_any {β : Type} {g : DGT} {tc : DB} {te : DT} {ρ : DEnv} (g' : β → D) (p : β → Prop) : ∀ {l : List D} {Q : List D → Prop}, (∀ a ∈ l, ∀ (R : D → Prop) (S : Prop), (∀ b, p b → R (g' b)) → g a ρ fun ρ2 => tc ρ2 fun b => if b = true then te ρ2 R else S) →
    (∀ bs : List β, bs.length = l.length → (∀ b ∈ bs, p b) → Q (bs.map g')) → lcD g tc te ρ l Q := by
  intro l
  induction l with
  | nil => intro Q _ q; exact q [] rfl (by simp)
  | cons a l ih =>
    intro Q hs q
    refine hs a (by simp) _ _ fun b hb => ih (fun x hx => hs x (List.mem_cons_of_mem _ hx)) fun bs hl hp => q (b :: bs) (by simp [hl]) fun y hy => ?_
    rcases List.mem_cons.mp hy with rfl | hy
    · exact hb
    · exact hp y hy
def txt (l : List Nat) : Str := ⟨l.toArray⟩
theorem txt_app (a b : List Nat) : txt a ++ txt b = txt (a ++ b) := by
  show Str.mk (a.toArray ++ b.toArray) = Str.mk (a ++ b).toArray
  rw [List.append_toArray]
theorem txt_len (l : List Nat) : (txt l).length = l.length := by
  show l.toArray.size = _
  simp
theorem txt_list (l : List Nat) : (txt l).cps.toList = l := by simp [txt]
theorem txt_inj {a b : List Nat} (h : txt a = txt b) : a = b := by
  have := congrArg (fun z => z.cps.toList) h
  simpa [txt] using this
theorem join_txt (l : List Nat) : Txt.join "" (l.map fun c => txt [c]) = txt l := by
  show Builtin.Str.glued "" _ = _
  rw [StrLaws.glued_eq_join]
  induction l with
  | nil => rfl
  | cons c r ih =>
    cases r with
    | nil => rfl
    | cons d r =>
      rw [List.map_cons, List.map_cons]
      show txt [c] ++ "" ++ Str.join "" (txt [d] :: r.map fun c => txt [c]) = _
      rw [List.map_cons] at ih
      rw [ih]
      have : (txt [c] ++ "" : Str) = txt [c] := by
        show txt [c] ++ txt [] = _
        rw [txt_app]; rfl
      rw [this, txt_app]
      rfl
theorem cut_txt_to (l : List Nat) (k : Nat) : cutS (txt l) none (some (k : Int)) = txt (l.take k) := by
  unfold cutS txt
  congr 2
  rw [HT.sIx_none, HT.sIx_nat, List.drop_zero, Nat.sub_zero]
  show List.take (min k l.toArray.size) l.toArray.toList = _
  simp
theorem cut_txt (l : List Nat) (a b : Nat) : cutS (txt l) (some (a : Int)) (some (b : Int)) = txt ((l.drop a).take (b - a)) := by
  unfold cutS txt
  congr 2
  rw [HT.sIx_nat, HT.sIx_nat]
  show List.take (min b l.toArray.size - min a l.toArray.size) (List.drop (min a l.toArray.size) l.toArray.toList) = _
  simp only [List.size_toArray]
  by_cases h : a ≤ l.length
  · rw [Nat.min_eq_left h]
    by_cases h2 : b ≤ l.length
    · rw [Nat.min_eq_left h2]
    · rw [Nat.min_eq_right (by omega), List.take_of_length_le (by simp), List.take_of_length_le (by simp; omega)]
  · rw [Nat.min_eq_right (by omega : l.length ≤ a), List.drop_of_length_le (by simp), List.drop_of_length_le (by omega : l.length ≤ a)]
    simp
section
variable {F : Fx} {X : Cx} {a b : Expr} {ta : DT} {tb : DTO} {px py pt pos : Pos} {x y : Str}
/-- a, b = x, y: the second one a list of our own; one of the names is held by a comprehension -/
theorem ds_parOc {i j : Nat} {kt k2 pt2} (hc : X.calm = true) (hN : X.N.Nodup) (hi : X.N[i]? = some x) (hj : X.N[j]? = some y) (hij : i ≠ j) (hkx : Loc X.env.scope x) (hky : Loc X.env.scope y)
    (hfx : X.fn x = true ∨ X.env.scope.names.lookup x = some .local) (hfy : X.fn y = true ∨ X.env.scope.names.lookup y = some .local)
    (ha : DE F X a ta) (hb : DEO F X b tb) (hs1 : starEach [a, b] X.env = (false, eval a X.env) :: starEach [b] X.env := by rfl) (hs2 : starEach [b] X.env = (false, eval b X.env) :: starEach [] X.env := by rfl)
    (hsw : swappedStores [.Tuple [.Name x px, .Name y py] kt pt] (.Tuple [a, b] k2 pt2) X.env = pure none := by rfl) (hs : swapsWithSole [.Tuple [.Name x px, .Name y py] kt pt] (.Tuple [a, b] k2 pt2) pos.line X.env = pure false := by rfl)
    (h1 : (assignEach [.Tuple [.Name x px, .Name y py] kt pt] X.env).map (·.2) = [assign (.Tuple [.Name x px, .Name y py] kt pt) X.env] := by rfl)
    (hn : (assignEach [.Name x px, .Name y py] X.env).length = 2 := by rfl) (hst : (assignEach [.Name x px, .Name y py] X.env).findIdx? (·.1) = none := by rfl)
    (hg1 : (assignEach [.Name x px, .Name y py] X.env).map (·.2) = assign (.Name x px) X.env :: (assignEach [.Name y py] X.env).map (·.2) := by rfl) (hg2 : (assignEach [.Name y py] X.env).map (·.2) = assign (.Name y py) X.env :: (assignEach [] X.env).map (·.2) := by rfl) :
    DSt F X (.Assign [.Tuple [.Name x px, .Name y py] kt pt] (.Tuple [a, b] k2 pt2) pos) (fun Z ρ => ta ρ fun d => tb ρ fun es => Z.nx ((ρ.set i (some (.dat d))).set j (some (.own es)))) := by
  refine ⟨fun Z Z' ρ l q => ha.mono _ _ _ (fun d q => hb.mono _ _ _ (fun es q => l.nx _ q) q) q, (ps_asg (pe_tup (pa_cons ha.run (pa_cons hb.run pa_nil hs2) hs1)) (pg_tup (n := 2) hc (pgs_cons (pg_name hN hi hkx hfx) (pgs_cons (pg_name hN hj hky hfy) pgs_nil hg2) hg1) hn hst) hs hsw h1).imp fun Z σ H ⟨I, ρ, A, q⟩ => ?_⟩
  refine rdE_next ha.mono A q fun d v I1 H1 q1 s1 rv => ⟨I1, ρ, A.step s1, hb.mono _ _ _ (fun es q p vs I2 H2 s2 hp rs => ?_) q1⟩
  have A2 := ((A.step s1).step s2).set (i := i) (rv.mono s2.i)
  have A3 := A2.newOwn (i := j) (en := .own es) hp ⟨_, rfl, rs⟩
  refine ⟨show 2 ≤ sizeLine by decide, fun t ht => ?_⟩
  have st := A3.st.laidM ht (.tup [v, .ref p])
  exact ⟨t, _, rfl, .of upd_same, rfl, _, _, rfl, _, _, rfl, rfl, q I2 _ _ (Same.trans s1.i s2.i) (A3.step st)⟩
end
theorem Stp.dropNew {W : Wd} {I H I' H' : Hp} {p : Addr} (s : Stp W I H I' H') (hp : H p = none) (n : I' p = none) (m : ¬ W.mv p) : Stp W I H I' (dropA H' p) :=
  ⟨s.i, s.st.drop n m, fun b o e k => by rw [dropA_ne (ne_of_none e hp)]; exact s.h b o e k, s.new⟩
theorem upd_dropA {H : Hp} {p : Addr} {o : HO} (h : H p = some o) : upd (dropA H p) p o = H := by
  funext b
  by_cases e : b = p
  · subst e; rw [upd_same, h]
  · rw [upd_ne e, dropA_ne e]
section
variable {F : Fx} {X Y : Cx} {elt tg iter : Expr} {ifs : List Expr} {scope : Scope} {own : List (Str × Nat)} {pos : Pos} {ti : DAT} {js : List Nat} {g : DGT} {tc : DB} {te : DT}
theorem deo_lc (hc : X.calm = true) (hN : X.N.Nodup) (hi : DI F X tg iter ti) (ok : BlkOk X.N X.env.scope scope own)
    (hg : ∀ (s : Shared) (H : Hp) (C : Addr) (cl : List (Str × Addr)) (fp : List Addr), DG F (X.blk s H scope (compEnvC scope cl C X.env) fp) tg js g)
    (ht : ∀ (s : Shared) (H : Hp) (C : Addr) (cl : List (Str × Addr)) (fp : List Addr), DIfs F (X.blk s H scope (compEnvC scope cl C X.env) fp) ifs tc)
    (he : ∀ (s : Shared) (H : Hp) (C : Addr) (cl : List (Str × Addr)) (fp : List Addr), DE F (X.blk s H scope (compEnvC scope cl C X.env) fp) elt te)
    (hjs : ∀ j ∈ js, j ∈ own.map (·.2) := by decide) (hs : ∀ x, foldedSetIterable iter X.env x = pure x := by intro _; rfl) :
    DEO F X (.ListComp elt [⟨tg, iter, ifs, 0⟩] scope pos) (fun ρ Q => ti ρ fun ds => ds.length ≤ sizeLine ∧ lcD g tc te (wipeD ρ (own.map (·.2))) ds fun ys => Q ys) := by
  have g0 := hg X.s_0 X.H_0 0 [] []
  have t0 := ht X.s_0 X.H_0 0 [] []
  have e0 := he X.s_0 X.H_0 0 [] []
  refine ⟨fun ρ Q Q' k q => hi.mono _ _ _ (fun ds q => ⟨q.1, lcD.mono g0 t0 e0 _ _ _ _ (fun ys => k _) q.2⟩) q, (pe_lc (g := rdG F X.K js g) (tt := rdT F X.K tc) (te := rdE F X.K te) hc hN hi.run ok (fun s H C cl fp => (hg s H C cl fp).run) (fun s H C cl fp => (ht s H C cl fp).run) (fun s H C cl fp => (he s H C cl fp).run) hs).imp fun σ H Q ⟨I, ρ, A, q⟩ => ?_⟩
  refine lc_run g0.mono t0.mono e0.mono hi.mono hjs A q fun ys q p I' H' s hp ip bp mp ⟨ws, h, r⟩ => ?_
  have := q p ws I' (dropA H' p) (Stp.dropNew s hp ip mp) (if_pos rfl) r
  rwa [upd_dropA h] at this
theorem ds_setLcO {i : Nat} {y : Str} {py spos : Pos} (hc : X.calm = true) (hN : X.N.Nodup) (hy : X.N[i]? = some y) (hyl : X.env.scope.names.lookup y = some .local)
    (hsw : swapsWith (.ListComp elt [⟨tg, iter, ifs, 0⟩] scope pos) (some (.Name y py)) spos.line X.env = pure true) (hi : DI F X tg iter ti) (ok : BlkOk X.N X.env.scope scope own)
    (hg : ∀ (s : Shared) (H : Hp) (C : Addr) (cl : List (Str × Addr)) (fp : List Addr), DG F (X.blk s H scope (compEnvC scope cl C X.env) fp) tg js g)
    (ht : ∀ (s : Shared) (H : Hp) (C : Addr) (cl : List (Str × Addr)) (fp : List Addr), DIfs F (X.blk s H scope (compEnvC scope cl C X.env) fp) ifs tc)
    (he : ∀ (s : Shared) (H : Hp) (C : Addr) (cl : List (Str × Addr)) (fp : List Addr), DE F (X.blk s H scope (compEnvC scope cl C X.env) fp) elt te)
    (hjs : ∀ j ∈ js, j ∈ own.map (·.2) := by decide) (hs : ∀ x, foldedSetIterable iter X.env x = pure x := by intro _; rfl) :
    DSt F X (.Assign [.Name y py] (.ListComp elt [⟨tg, iter, ifs, 0⟩] scope pos) spos) (fun Z ρ => ti ρ fun ds => ds.length ≤ sizeLine ∧ lcD g tc te (wipeD ρ (own.map (·.2))) ds fun ys => Z.nx (ρ.set i (some (.own ys)))) := by
  have g0 := hg X.s_0 X.H_0 0 [] []
  have t0 := ht X.s_0 X.H_0 0 [] []
  have e0 := he X.s_0 X.H_0 0 [] []
  refine ⟨fun Z Z' ρ l q => hi.mono _ _ _ (fun ds q => ⟨q.1, lcD.mono g0 t0 e0 _ _ _ _ (fun ys => l.nx _) q.2⟩) q, (ps_setLc (g := rdG F X.K js g) (tt := rdT F X.K tc) (te := rdE F X.K te) hc hN hy hyl hsw hi.run ok (fun s H C cl fp => (hg s H C cl fp).run) (fun s H C cl fp => (ht s H C cl fp).run) (fun s H C cl fp => (he s H C cl fp).run) hs).imp fun Z σ H ⟨I, ρ, A, q⟩ => ?_⟩
  refine lc_run g0.mono t0.mono e0.mono hi.mono hjs A q fun ys q p I' H' s hp ip bp mp ⟨ws, h, r⟩ => ?_
  have s' := Stp.dropNew s hp ip mp
  have A' := (A.step s').newOwn (i := i) (en := .own ys) (p := p) (if_pos rfl) ⟨_, rfl, r⟩
  rw [upd_dropA h] at A'
  exact q _ _ _ s.i A'
end
end Dk
namespace Dk
open PySem L2
def fill : List (Key × Option D) → List Addr → List (Key × D)
  | [], _ => []
  | (k, some d) :: r, bs => (k, d) :: fill r bs
  | (k, none) :: r, b :: bs => (k, .opq b) :: fill r bs
  | (k, none) :: r, [] => (k, .non) :: fill r []
/-- what the pairs of a display leave: ws the values, bs the empty dicts among them -/
structure Made (F : Fx) (K : PySem.W.Frag) (I H I' H' : Hp) (its : List (Key × Option D)) (kvs : List (Key × V)) (bs : List Addr) : Prop where
  stp : Stp F.W I H I' H'
  keys : kvs.map (·.1) = its.map (·.1)
  reps : Reps K I' (kvs.map (·.2)) ((fill its bs).map (·.2))
  len : bs.length = (its.filter (·.2.isNone)).length
  nd : bs.Nodup
  fresh : ∀ b ∈ bs, H b = none ∧ H' b = some (.dK []) ∧ I' b = none
end Dk
namespace Dk
open PySem L2
open PyProof.Rows (envOfC)
theorem Rm.in1 {k : Nat} {A : Around} (r : Rm (k + 1) A) : Rm k A.in1 := ⟨r.room.in1, r.gd⟩
end Dk
namespace Dk
open PySem L2
def objD (C : Addr) (d : D) (P : Prop) : Prop := ∃ fs, d = .obj C fs ∧ P
theorem objD.mono {C : Addr} {d : D} {P P' : Prop} (k : P → P') : objD C d P → objD C d P' := fun ⟨fs, e, p⟩ => ⟨fs, e, k p⟩
theorem Rep.ins {K : PySem.W.Frag} {I : Hp} {v : V} {C : Addr} {fs : List (Str × D)} (r : Rep K I v (.obj C fs)) : ∃ a dx ws, v = .ref a ∧ I a = some (.ins C dx ws) := by
  cases r with
  | @obj a C dx ws ds h _ _ => exact ⟨a, dx, ws, rfl, h⟩
section
variable {F : Fx} {X : Cx} {K : PySem.W.Frag} {k : Nat} {C : Addr} {S : DSp} {ps : List Str} {e a b : Expr} {te ta tb : DT} {t : DAT} {p pos q1 q2 : Pos} {T : V → Hp → VK → Prop} {m x : Str}
def tStrD (r : D) (Q : D → Prop) : Prop := ∃ x, r = .str x ∧ Q (.str x)
theorem tStrD.mono : ∀ r (Q Q' : D → Prop), (∀ d, Q d → Q' d) → tStrD r Q → tStrD r Q' := fun r Q Q' k ⟨n, e, q⟩ => ⟨n, e, k _ q⟩
/-- the class's way to be shown in an f-string -/
structure Fmt (K : PySem.W.Frag) (C : Addr) : Prop where
  fm : PySem.W.findIn K (.ref C) "__format__" = some (some (.builtin "object.__format__"))
  ob : PySem.W.subIn K (.ref C) (.type "object") = some true
structure Isi (K : PySem.W.Frag) (C : Addr) : Prop where
  cl : Cls K C
  ha : PySem.W.findIn K (.ref C) "__class__" = some (some (.builtin "object.__class__"))
  hn : PySem.W.specialIn K (.builtin "object.__class__") "__get__" = some (some (.builtin "getset_descriptor.__get__"))
  ht : PySem.W.takesIn K (.builtin "object.__class__") = some true
  hm : PySem.W.mroIn K C (.type "object") = some true
end
end Dk
namespace Dk
open PySem L2
end Dk
namespace Dk
open PySem PySem.Spec PyProof.Rows L2
theorem tuple_mul1 (l : Addr) (items : Array Value) (n : Nat) (u : Tok) :
    Meets (Builtin.«tuple.__mul__» ⟨[.ref l, .int 1 u], []⟩) (fun _ R s => (∃ dd sl, s.heap.get? l = some { cls := .type "tuple", dict := dd, data := .seq items n, slots := sl }) ∧ ∀ tk, R (.ok (.ret (Value.ref l))) { s with toks := tk }) :=
  .of_wp fun prog w A R s h => by
    obtain ⟨hp, g, d, tk, os⟩ := s
    obtain ⟨⟨dd, sl, hl⟩, h⟩ := h
    have f1 := AutoSeq1.idx_int
    have c1 : (items.isEmpty || (1 : Int) == 1) = true := by simp
    wp_walk using wpAny_loadPart' hl
    repeat (first
      | (refine wpAny_ite_true (decide_eq_true (by rw [c1])) ?_; wp_walk using wpAny_loadPart' hl)
      | (rw [if_pos c1]; wp_walk using wpAny_loadPart' hl))
    exact ⟨_, rfl, h _⟩
theorem tuple_mul0 (l : Addr) (items : Array Value) (n : Nat) (u : Tok) (hne : items.isEmpty = false) :
    Meets (Builtin.«tuple.__mul__» ⟨[.ref l, .int 0 u], []⟩) (fun _ R s => (∃ dd sl, s.heap.get? l = some { cls := .type "tuple", dict := dd, data := .seq items n, slots := sl }) ∧ R (.ok (.ret (Value.ref s.heap.objs.size))) { s with heap := s.heap.push { cls := Value.type "tuple", data := Data.seq #[] }, toks := s.toks }) :=
  .of_wp fun prog w A R s h => by
    obtain ⟨hp, g, d, tk, os⟩ := s
    obtain ⟨⟨dd, sl, hl⟩, h⟩ := h
    have f1 := AutoSeq1.idx_int
    have c1 : (items.isEmpty || (0 : Int) == 1) = false := by rw [hne]; rfl
    have c2 : (decide ((0 : Int) ≤ 0) || items.isEmpty) = true := by simp
    wp_walk using wpAny_loadPart' hl
    repeat (first
      | (refine wpAny_ite_false (decide_eq_false (by rw [c1]; exact Bool.false_ne_true)) ?_; wp_walk using wpAny_loadPart' hl)
      | (rw [if_neg (by rw [c1]; exact Bool.false_ne_true)]; wp_walk using wpAny_loadPart' hl)
      | (refine wpAny_ite_true (decide_eq_true (by rw [c2])) ?_; wp_walk using wpAny_loadPart' hl)
      | (rw [if_pos c2]; wp_walk using wpAny_loadPart' hl))
    exact ⟨_, rfl, h⟩
/-- xs * k, k a small number -/
def rRepA (K : PySem.W.Frag) : R2 := fun x y H Q => ∃ (l : Addr) (k : Nat) (xs : List V), x = .ref l ∧ y = .int k ∧ SqT K H l xs ∧ xs ≠ [] ∧ k ≤ 1000 ∧ xs.length ≤ 1000 ∧ ((k = 1 ∧ Q (.ref l) H) ∨ (k ≠ 1 ∧ ∀ p, H p = none → Q (.ref p) (upd H p (.tup (List.replicate k xs).flatten))))
section
variable {X : Cx}
theorem op_repA : OpR X (binaryOp .Mult) (rRepA X.K) := by
  intro pins s σ H x y v u Q I rx ry h
  obtain ⟨l, k, xs, rfl, rfl, hT, hne, h2, hz, q⟩ := h
  by_cases hk : 2 ≤ k
  · refine op_repT pins s σ H _ _ v u Q I rx ry ⟨l, (k : Int), xs, rfl, rfl, hT, hne, by omega, by omega, hz, ?_⟩
    rcases q with ⟨e, _⟩ | ⟨_, q⟩
    · omega
    · exact q
  cases rx
  obtain ⟨t, rfl⟩ := ry
  obtain ⟨its, r, ⟨⟨cls, dd, data, sl⟩, ho, hc, n, hd⟩, hs⟩ := I.tuple hT
  simp only at hc hd
  subst hc hd
  have hle : its.length = xs.length := r.length.symm
  have hn : its ≠ [] := fun e => hne (by
    rw [e] at hle
    exact List.eq_nil_of_length_eq_zero hle.symm)
  have hi : its.toArray.isEmpty = false := by
    cases its with
    | nil => exact absurd rfl hn
    | cons a b => rfl
  rcases q with ⟨rfl, q⟩ | ⟨h1, q⟩
  · refine wpAny_binaryOp_repeat_ref (T := "tuple") (U := "int") (by decide) ⟨_, ho, rfl⟩ (fun s' => typeIs_int s' _ t) noFill_tuple_mul F.fills_int_mul F.slot_int_rmul repeat_tuple F.slot_int_index.lookup
      (call_meets F.slot_int_rmul (typeIs_int s _ t) F.entry_int_rmul (F.args_int_rmul_2 _ _) (int_rmul_tuple _ t l its.toArray n dd sl)
        ⟨ho, rfl, ⟨_, ho, rfl⟩, call_meets F.slot_tuple_mul ⟨_, ho, rfl⟩ F.entry_tuple_mul (F.args_tuple_mul_2 _ _) (tuple_mul1 l its.toArray n t) ⟨⟨dd, sl, ho⟩, fun tk => ?_⟩⟩)
    exact ⟨.ref l, H, I.tok tk, rfl, q⟩
  · obtain rfl : k = 0 := by omega
    refine wpAny_binaryOp_repeat_ref (T := "tuple") (U := "int") (by decide) ⟨_, ho, rfl⟩ (fun s' => typeIs_int s' _ t) noFill_tuple_mul F.fills_int_mul F.slot_int_rmul repeat_tuple F.slot_int_index.lookup
      (call_meets F.slot_int_rmul (typeIs_int s _ t) F.entry_int_rmul (F.args_int_rmul_2 _ _) (int_rmul_tuple _ t l its.toArray n dd sl)
        ⟨ho, rfl, ⟨_, ho, rfl⟩, call_meets F.slot_tuple_mul ⟨_, ho, rfl⟩ F.entry_tuple_mul (F.args_tuple_mul_2 _ _) (tuple_mul0 l its.toArray n t hi) ⟨⟨dd, sl, ho⟩, ?_⟩⟩)
    refine ⟨.ref s.heap.objs.size, _, I.laid (t' := s.toks) (o := .tup []) (fun b ob q => Heap.get?_push_of_some _ q) (Nat.le_refl _) ?_, rfl, by simpa using q _ (I.hok.fresh (Nat.le_refl _))⟩
    exact ⟨Nat.zero_le _, [], .nil, IsTup.new _ _⟩
end
def mulTD (x y : D) (Q : D → Prop) : Prop := ∃ (xs : List D) (k : Nat), x = .tup xs ∧ y = .int k ∧ xs ≠ [] ∧ k ≤ 1000 ∧ xs.length ≤ 1000 ∧ Q (.tup (List.replicate k xs).flatten)
section
variable {F : Fx} {X : Cx} {K : PySem.W.Frag} {a b : Expr} {ta tb : DT} {pos : Pos}
theorem mono_mulT : Mono2 mulTD := fun x y Q Q' k ⟨xs, n, h1, h2, h3, h4, h5, q⟩ => ⟨xs, n, h1, h2, h3, h4, h5, k _ q⟩
theorem lf_mulT : LiftR F K (rRepA K) mulTD := by
  rintro x y dx dy I H Q st rx ry ⟨xs, n, rfl, rfl, h3, h4, h5, q⟩
  cases ry
  cases rx with
  | @tup l vs ds hT r =>
    refine ⟨l, n, vs, rfl, rfl, Same.seqT st.sub hT, fun e => h3 ?_, h4, by rw [r.length]; exact h5, ?_⟩
    · have := r.length
      rw [e] at this
      exact List.eq_nil_of_length_eq_zero this.symm
    · by_cases h1 : n = 1
      · subst h1
        refine .inl ⟨rfl, q _ _ _ st.stp ?_⟩
        have e : (List.replicate 1 xs).flatten = xs := by simp
        rw [e]
        exact .tup hT r
      · refine .inr ⟨h1, fun p hp => ?_⟩
        have l' := st.laid hp (.tup (List.replicate n vs).flatten)
        exact q _ _ _ l' (.tup (.of upd_same) ((r.rep n).mono l'.i))
theorem de_mulT (ha : DE F X a ta) (hb : DE F X b tb) : DE F X (.BinOp a .Mult b pos) (fun ρ Q => ta ρ fun x => tb ρ fun y => mulTD x y Q) := de_op mono_mulT op_repA lf_mulT ha hb
end
end Dk
namespace Dk
open PySem PySem.W L2
open Builtin Builtin.ObjectAttr
structure XB (nB newId iB initId : String) (tl : List Value) : Prop where
  nw : ∃ jd tl0, ExcBaseFacts nB newId jd tl0
  slot : Slot iB "__init__" initId
  entry : entryFor table initId = some Builtin.«BaseException.__init__»
  kind : builtinKind initId = some .slot
  split : splitId initId = some (iB, "__init__")
  sig : Manifest.signature? initId = some ⟨.positional, "*", iB, .self, [⟨"args", .varPos, false⟩]⟩
  star : (iB != "*") = true
  hn : tl.contains (.type nB) = true
  hi : tl.contains (.type iB) = true
  hA : tl.contains (.type "AttributeError") = false
  hN : tl.contains (.type "NameError") = false
  hO : tl.contains (.type "object") = true
  SF : StoreFacts iB tl "object.__setattr__" "object"
abbrev veTl : List Value := [.type "ValueError", .type "Exception", .type "BaseException", .type "object"]
theorem xb_ve : XB "ValueError" "ValueError.__new__" "ValueError" "ValueError.__init__" veTl where
  nw := ⟨_, _, PySem.F.excBase_ValueError⟩
  slot := PySem.F.excBase_ValueError.init
  entry := PySem.F.excBase_ValueError.initEntry
  kind := PySem.F.excBase_ValueError.initKind
  split := PySem.F.excBase_ValueError.initSplit
  sig := PySem.F.excBase_ValueError.initRow
  star := PySem.F.excBase_ValueError.noStar
  hn := by decide +kernel
  hi := by decide +kernel
  hA := by decide +kernel
  hN := by decide +kernel
  hO := by decide +kernel
  SF := PySem.F.store_ValueError
section
variable {M : Model} {A : Around} {E : Value → Shared → Prop} {h : Heap} {g : Array GenState} {d : Drawn} {t : Nat} {os : OsState}
variable {nm q : Str} {C N : Addr} {bs bm tl : List Value} {hdct : Bool} {sn : List Str} {sub : List Value} {ab : Bool} {col : Option Bool} {dd : Option Addr} {k0 k1 k2 k3 k5 : Option Value} {nB newId iB initId : String}
theorem x_has (hT : ∀ X : String, bm.contains (.type X) = tl.contains (.type X)) {X : String} {b : Bool} (h : tl.contains (.type X) = b) : (Value.ref C :: bm).contains (.type X) = b := by
  rw [List.contains_cons, hT, h]
  rfl
theorem x_check_new (B : XB nB newId iB initId tl) (hT : ∀ X : String, bm.contains (.type X) = tl.contains (.type X)) {rest : List Value} {Q : Unit → Shared → Prop}
    (hC : h.get? C = some (excClassObj nm q C N bs bm hdct sn sub ab col dd k0 k1 k2 k3 k5 newId)) (hq : Q () ⟨h, g, d, t, os⟩) : wpAny M A (checkBuiltinCall newId ⟨.ref C :: rest, []⟩) Q E ⟨h, g, d, t, os⟩ := by
  obtain ⟨jd, tl0, F⟩ := B.nw
  have has := x_has (C := C) hT B.hn
  have nostar := F.noStar
  simp only [checkBuiltinCall, F.newKind, F.newSplit, F.newRow]
  repeat (first
    | refine wpAny_loadPart_at hC ?_
    | (refine wpAny_isSubtype_exc hC ?_; rw [has])
    | refine wpAny_staticBase_exc hC ?_
    | refine wpAny_madeBy_exc hC ?_
    | simp only [bne_self_eq_false, Bool.false_eq_true, if_false]
    | wp_step)
  exact hq
theorem x_check_init (B : XB nB newId iB initId tl) (hT : ∀ X : String, bm.contains (.type X) = tl.contains (.type X)) {e : Addr} {oe : Obj} {rest : List Value} {Q : Unit → Shared → Prop}
    (hC : h.get? C = some (excClassObj nm q C N bs bm hdct sn sub ab col dd k0 k1 k2 k3 k5 newId)) (he : h.get? e = some oe) (hcls : oe.cls = .ref C) (hq : Q () ⟨h, g, d, t, os⟩) : wpAny M A (checkBuiltinCall initId ⟨.ref e :: rest, []⟩) Q E ⟨h, g, d, t, os⟩ := by
  have has := x_has (C := C) hT B.hi
  have nostar := B.star
  simp only [checkBuiltinCall, B.kind, B.split, B.sig]
  repeat (first
    | (with_reducible refine wpAny_loadPart_at he ?_; rw [hcls])
    | with_reducible refine wpAny_loadPart_at hC ?_
    | (with_reducible refine wpAny_isSubtype_exc hC ?_; rw [has])
    | wp_step)
  refine wpAny_onRaise ?_
  have cs := fun a b n => check_star_args "*" iB a b .self n
  show wpAny _ _ (Bind.check _ _ _ _ []) _ _ _
  rw [cs]
  exact wpAny_pure hq
end
section
variable {prog : Program} {w : World} {A : Around} {E : Value → Shared → Prop} {R : Result → Shared → Prop} {h : Heap} {g : Array GenState} {d : Drawn} {t : Nat} {os : OsState}
variable {nm q : Str} {C N : Addr} {bs bm tl : List Value} {hdct : Bool} {sn : List Str} {sub : List Value} {ab : Bool} {col : Option Bool} {dd : Option Addr} {k0 k1 k2 k3 k5 : Option Value} {nB newId iB initId : String}
/-- the new record and its args -/
abbrev xNew (h : Heap) (C : Addr) (rest : List Value) : Heap := (h.push (PySem.W.kdv_tup rest)).push (PySem.HandSPX.excO C h.objs.size)
theorem x_new (B : XB nB newId iB initId tl) (hT : ∀ X : String, bm.contains (.type X) = tl.contains (.type X)) {rest : List Value}
    (hC : h.get? C = some (excClassObj nm q C N bs bm hdct sn sub ab col dd k0 k1 k2 k3 k5 newId)) (hq : R (.ok (.ret (.ref (h.objs.size + 1)))) ⟨xNew h C rest, g, d, t, os⟩) (hrest : rest.length ≤ sizeLine) :
    codeAny (model prog w) A (.builtin newId ⟨.ref C :: rest, []⟩) R ⟨h, g, d, t, os⟩ := by
  obtain ⟨jd, tl0, F⟩ := B.nw
  have ends := F.ends
  have c1 := x_has (C := C) hT B.hn
  have c2 := x_has (C := C) hT B.hA
  have c3 := x_has (C := C) hT B.hN
  refine codeAny_builtinAt F.entry ?_
  unfold Builtin.«BaseException.__new__»
  refine wpAt_bind ?_
  show wpAt _ _ _ (stack >>= _) _ _ _
  refine wpAt_bind (wpAt_stack fun p below => wpAt_of_wpAny ?_)
  wp_walk
  refine wpAt_of_wpAny ?_
  rw [F.owner]
  repeat (first
    | with_reducible refine wpAny_madeHere_exc F.canon hC ?_
    | with_reducible refine wpAny_loadPart_at hC ?_
    | (with_reducible refine wpAny_isSubtype_exc hC ?_; first | rw [c1] | rw [c2] | rw [c3])
    | wp_step)
  show R _ _
  rw [Heap.size_push]
  exact hq
theorem x_type_call (B : XB nB newId iB initId tl) (hT : ∀ X : String, bm.contains (.type X) = tl.contains (.type X)) {rest : List Value} {fI : Addr} {Q : Fin → Shared → Prop}
    (hC : h.get? C = some (excClassObj nm q C N bs bm hdct sn sub ab col dd k0 k1 k2 k3 k5 newId)) (hi : Looks (model prog w) h (typeLookup (.ref C) "__init__") (some (.ref fI)))
    (hb : ∀ self, Looks (model prog w) h (bindSpecial (.ref fI) self) (.ref fI, [self])) (hrest : rest.length ≤ sizeLine)
    (hq : codeAny (model prog w) A (.call (.ref fI) ⟨.ref (h.objs.size + 1) :: rest, []⟩)
      (fun r s' => match r with | .ok (.ret v) => v = .none ∧ Q (.done (.ret (.ref (h.objs.size + 1)))) s' | .ok _ => False | .error e => E e s') ⟨xNew h C rest, g, d, t, os⟩) :
    wpAny (model prog w) A (Builtin.«type.__call__» ⟨.ref C :: rest, []⟩) Q E ⟨h, g, d, t, os⟩ := by
  obtain ⟨jd, tl0, F⟩ := B.nw
  repeat (first | with_reducible refine wpAny_loadPart_at hC ?_ | with_reducible refine wpAny_madeBy_exc hC ?_ | wp_step)
  refine codeAny_call_builtin_code (Code.quiet_builtin _ F.quiet) (x_check_new B hT hC (x_new B hT hC ?_ hrest))
  show wpAny _ _ _ _ _ _
  have k : ∀ b o, h.get? b = some o → (xNew h C rest).get? b = some o := fun b o e => Heap.get?_push_of_some _ (Heap.get?_push_of_some _ e)
  have at1 : (xNew h C rest).get? (h.objs.size + 1) = some (PySem.HandSPX.excO C h.objs.size) := by heap_get
  have self1 : (Value.ref C :: bm).contains (.ref C) = true := by simp
  have hC1 := k _ _ hC
  have i1 := hi.keeps k
  have b1 := (hb (.ref (h.objs.size + 1))).keeps k
  unfold isInstance
  repeat (first | with_reducible refine wpAny_loadPart_at at1 ?_ | (with_reducible refine wpAny_isSubtype_exc hC1 ?_; rw [self1]) | wp_step)
  show wpAny _ _ (typeLookup (.ref C) _) _ _ _
  refine i1.at (wpAny_holding (wpAny_bind (b1.at (wpAny_bind (wpAny_call (codeAny_mono hq fun r s' z => ?_))))))
  rcases r with e | (v | _ | _ | _) <;> first | exact z | exact z.elim | skip
  obtain ⟨rfl, z⟩ := z
  first
    | exact wpAny_pure (wpAny_pure z)
    | (wp_walk; exact z)
/-- C(..), C's own __init__ at fI -/
theorem x_call (B : XB nB newId iB initId tl) (hT : ∀ X : String, bm.contains (.type X) = tl.contains (.type X)) {rest : List Value} {fI : Addr}
    (hC : h.get? C = some (excClassObj nm q C N bs bm hdct sn sub ab col dd k0 k1 k2 k3 k5 newId)) (hi : Looks (model prog w) h (typeLookup (.ref C) "__init__") (some (.ref fI)))
    (hb : ∀ self, Looks (model prog w) h (bindSpecial (.ref fI) self) (.ref fI, [self])) (hrest : rest.length ≤ sizeLine)
    (hq : codeAny (model prog w) (A.under (.builtin "type.__call__" ⟨.ref C :: rest, []⟩)) (.call (.ref fI) ⟨.ref (h.objs.size + 1) :: rest, []⟩) (W.InitBack (h.objs.size + 1) R) ⟨xNew h C rest, g, d, t, os⟩) :
    codeAny (model prog w) A (.call (.ref C) ⟨rest, []⟩) R ⟨h, g, d, t, os⟩ := by
  have f1 := tc_lookup
  have f2 := tc_bind (.ref C)
  have ty : (⟨h, g, d, t, os⟩ : Shared).TypeIs (.ref C) "type" := ⟨_, hC, rfl⟩
  refine codeAny_of_tree ?_
  show wpAny _ _ (callAny (.ref C) _) _ _ _
  repeat (any_goals (first | assumption | with_reducible refine wpAny_loadPart_at hC ?_ | wp_step))
  refine ⟨rfl, codeAny_call_builtin_at (Code.quiet_builtin _ (by decide +kernel)) entry_typeCall (wpAny_check_type_call_sub hC (x_type_call B hT hC hi hb hrest (codeAny_mono hq fun r s' z => ?_)))⟩
  rcases r with e | (v | _ | _ | _) <;> exact z
/-- iB.__init__(e, ..) -/
theorem x_init (B : XB nB newId iB initId tl) (hT : ∀ X : String, bm.contains (.type X) = tl.contains (.type X)) {e t0 : Addr} {rest : List Value}
    (hC : h.get? C = some (excClassObj nm q C N bs bm hdct sn sub ab col dd k0 k1 k2 k3 k5 newId)) (he : h.get? e = some (PySem.HandSPX.excO C t0)) (hrest : rest.length ≤ sizeLine)
    (hq : ∀ h' t1, (∀ b o, b ≠ e → h.get? b = some o → h'.get? b = some o) → h'.get? e = some (PySem.HandSPX.excO C t1) → R (.ok (.ret .none)) ⟨h', g, d, t, os⟩) :
    codeAny (model prog w) A (.call (.builtin initId) ⟨.ref e :: rest, []⟩) R ⟨h, g, d, t, os⟩ := by
  refine codeAny_call_builtin B.slot.plain B.entry (x_check_init B hT hC he rfl ?_)
  wp_walk
  have he2 := Heap.get?_push_of_some (PySem.W.kdv_tup rest) he
  refine hq _ h.objs.size (fun b o hb ho => (Heap.get?_update_other _ _ (Ne.symm hb)).trans (Heap.get?_push_of_some _ ho)) ?_
  exact (Heap.get?_update_self _ he2 rfl).trans rfl
end
end Dk
namespace Dk
open PySem PySem.W
def initVE (K : Frag) (D : Addr) : Bool := match findCls K (.ref D) (.type "type") "__init__" with
  | some (.val v) => v == .builtin "ValueError.__init__"
  | _ => false
theorem initVE_of {K : Frag} {D : Addr} (h : initVE K D = true) : findCls K (.ref D) (.type "type") "__init__" = some (.val (.builtin "ValueError.__init__")) := by
  unfold initVE at h
  split at h
  · rename_i v e
    rw [e, eq_of_beq h]
  · cases h
end Dk
namespace KB
open PySem L2 Dk PySem.Spec PyProof.Rows
def hTop (i : Nat) : Stmt := PySem.Challenge.pw_dressedkinds_k01_what_are_names_and_kind.main.body.getD i (.Pass ⟨0, 0, 0, 0⟩)
def hB0 (K : PySem.W.Frag) : Bool := decide ((PySem.W.nsIn K mainGlobals "Book" = some (some (.ref (He.ga K "Book")))) ∧ (PySem.W.nsIn K mainGlobals "Bare" = some (some (.ref (He.ga K "Bare")))) ∧ (PySem.W.nsIn K mainGlobals "Gap" = some (some (.ref (He.ga K "Gap")))) ∧ (PySem.W.nsIn K mainGlobals "InUse" = some (some (.ref (He.ga K "InUse")))) ∧ (PySem.W.nsIn K mainGlobals "NoBack" = some (some (.ref (He.ga K "NoBack")))) ∧ (PySem.W.nsIn K mainGlobals "NoDress" = some (some (.ref (He.ga K "NoDress")))) ∧ (PySem.W.nsIn K mainGlobals "NoFall" = some (some (.ref (He.ga K "NoFall")))) ∧ (PySem.W.nsIn K mainGlobals "NoFilling" = some (some (.ref (He.ga K "NoFilling")))) ∧ (PySem.W.nsIn K mainGlobals "NoFun" = some (some (.ref (He.ga K "NoFun")))) ∧ (PySem.W.nsIn K mainGlobals "NoIndex" = some (some (.ref (He.ga K "NoIndex")))) ∧ (PySem.W.nsIn K mainGlobals "NoName" = some (some (.ref (He.ga K "NoName")))) ∧ (PySem.W.nsIn K mainGlobals "NoOrnament" = some (some (.ref (He.ga K "NoOrnament")))) ∧ (PySem.W.nsIn K mainGlobals "NoText" = some (some (.ref (He.ga K "NoText")))) ∧ (PySem.W.nsIn K mainGlobals "Taken" = some (some (.ref (He.ga K "Taken")))) ∧ (PySem.W.nsIn K mainGlobals "TooLong" = some (some (.ref (He.ga K "TooLong")))) ∧ (PySem.W.nsIn K mainGlobals "Unlike" = some (some (.ref (He.ga K "Unlike")))) ∧ (PySem.W.nsIn K mainGlobals "KindError" = some (some (.ref (He.ga K "KindError")))) ∧ (PySem.W.nsIn K mainGlobals "is_name" = some (some (.ref (He.fAd K ("is_name", none))))) ∧ (PySem.W.keepIn K (.ref (He.fAd K ("is_name", none))) = true) ∧ (PySem.W.nsIn K mainGlobals "is_bough" = some (some (.ref (He.fAd K ("is_bough", none))))) ∧ (PySem.W.keepIn K (.ref (He.fAd K ("is_bough", none))) = true) ∧ (PySem.W.nsIn K mainGlobals "is_kind" = some (some (.ref (He.fAd K ("is_kind", none))))) ∧ (PySem.W.keepIn K (.ref (He.fAd K ("is_kind", none))) = true) ∧ (PySem.W.nsIn K mainGlobals "are_unlike" = some (some (.ref (He.fAd K ("are_unlike", none))))) ∧ (PySem.W.keepIn K (.ref (He.fAd K ("are_unlike", none))) = true))
def hB1 (K : PySem.W.Frag) : Bool := decide ((PySem.W.nsIn K mainGlobals "is_kinds" = some (some (.ref (He.fAd K ("is_kinds", none))))) ∧ (PySem.W.keepIn K (.ref (He.fAd K ("is_kinds", none))) = true) ∧ (PySem.W.nsIn K mainGlobals "with_worths" = some (some (.ref (He.fAd K ("with_worths", none))))) ∧ (PySem.W.keepIn K (.ref (He.fAd K ("with_worths", none))) = true) ∧ (PySem.W.findIn K (.ref (He.ga K "Book")) "__init__" = some (some (.ref (He.fAd K ("Book", some "__init__"))))) ∧ (PySem.W.keepIn K (.ref (He.fAd K ("Book", some "__init__"))) = true) ∧ (PySem.W.isFn K (.ref (He.fAd K ("Book", some "__init__"))) = true) ∧ (PySem.W.findIn K (.ref (He.ga K "Bare")) "__init__" = some (some (.ref (He.fAd K ("Bare", some "__init__"))))) ∧ (PySem.W.keepIn K (.ref (He.fAd K ("Bare", some "__init__"))) = true) ∧ (PySem.W.isFn K (.ref (He.fAd K ("Bare", some "__init__"))) = true) ∧ (PySem.W.nsIn K mainGlobals "_law_deck" = some (some (.ref (He.fAd K ("_law_deck", none))))) ∧ (PySem.W.keepIn K (.ref (He.fAd K ("_law_deck", none))) = true) ∧ (PySem.W.nsIn K mainGlobals "_law_draw" = some (some (.ref (He.fAd K ("_law_draw", none))))) ∧ (PySem.W.keepIn K (.ref (He.fAd K ("_law_draw", none))) = true) ∧ (PySem.W.nsIn K mainGlobals "_law_pick" = some (some (.ref (He.fAd K ("_law_pick", none))))) ∧ (PySem.W.keepIn K (.ref (He.fAd K ("_law_pick", none))) = true) ∧ (PySem.W.nsIn K mainGlobals "_law_names" = some (some (.ref (He.fAd K ("_law_names", none))))) ∧ (PySem.W.keepIn K (.ref (He.fAd K ("_law_names", none))) = true) ∧ (PySem.W.nsIn K mainGlobals "_law_letters" = some (some (.ref (He.fAd K ("_law_letters", none))))) ∧ (PySem.W.keepIn K (.ref (He.fAd K ("_law_letters", none))) = true) ∧ (PySem.W.nsIn K mainGlobals "_law_kinds" = some (some (.ref (He.fAd K ("_law_kinds", none))))) ∧ (PySem.W.keepIn K (.ref (He.fAd K ("_law_kinds", none))) = true) ∧ (PySem.W.nsIn K mainGlobals "_law_great_kinds" = some (some (.ref (He.fAd K ("_law_great_kinds", none))))) ∧ (PySem.W.keepIn K (.ref (He.fAd K ("_law_great_kinds", none))) = true) ∧ (PySem.W.nsIn K mainGlobals "_law_any_kinds" = some (some (.ref (He.fAd K ("_law_any_kinds", none))))))
def hB2 (K : PySem.W.Frag) : Bool := decide ((PySem.W.keepIn K (.ref (He.fAd K ("_law_any_kinds", none))) = true) ∧ (PySem.W.nsIn K mainGlobals "_law_is_name" = some (some (.ref (He.fAd K ("_law_is_name", none))))) ∧ (PySem.W.keepIn K (.ref (He.fAd K ("_law_is_name", none))) = true) ∧ (PySem.W.nsIn K mainGlobals "_law_is_named" = some (some (.ref (He.fAd K ("_law_is_named", none))))) ∧ (PySem.W.keepIn K (.ref (He.fAd K ("_law_is_named", none))) = true) ∧ (PySem.W.nsIn K mainGlobals "_law_is_kinds" = some (some (.ref (He.fAd K ("_law_is_kinds", none))))) ∧ (PySem.W.keepIn K (.ref (He.fAd K ("_law_is_kinds", none))) = true) ∧ (PySem.W.nsIn K mainGlobals "_law_names_in" = some (some (.ref (He.fAd K ("_law_names_in", none))))) ∧ (PySem.W.keepIn K (.ref (He.fAd K ("_law_names_in", none))) = true) ∧ (PySem.W.nsIn K mainGlobals "_law_odd" = some (some (.ref (He.fAd K ("_law_odd", none))))) ∧ (PySem.W.keepIn K (.ref (He.fAd K ("_law_odd", none))) = true) ∧ (PySem.W.nsIn K mainGlobals "_law_spoilt" = some (some (.ref (He.fAd K ("_law_spoilt", none))))) ∧ (PySem.W.keepIn K (.ref (He.fAd K ("_law_spoilt", none))) = true) ∧ (PySem.W.nsIn K mainGlobals "_law_bare" = some (some (.ref (He.fAd K ("_law_bare", none))))) ∧ (PySem.W.keepIn K (.ref (He.fAd K ("_law_bare", none))) = true) ∧ (PySem.W.nsIn K mainGlobals "_law_heard" = some (some (.ref (He.fAd K ("_law_heard", none))))) ∧ (PySem.W.keepIn K (.ref (He.fAd K ("_law_heard", none))) = true) ∧ (PySem.W.nsIn K mainGlobals "_law_right" = some (some (.ref (He.fAd K ("_law_right", none))))) ∧ (PySem.W.keepIn K (.ref (He.fAd K ("_law_right", none))) = true) ∧ (PySem.W.nsIn K mainGlobals "_law_far_kinds" = some (some (.ref (He.fAd K ("_law_far_kinds", none))))) ∧ (PySem.W.keepIn K (.ref (He.fAd K ("_law_far_kinds", none))) = true) ∧ (PySem.W.nsIn K mainGlobals "_law_few_bare" = some (some (.ref (He.fAd K ("_law_few_bare", none))))) ∧ (PySem.W.keepIn K (.ref (He.fAd K ("_law_few_bare", none))) = true) ∧ (PySem.W.nsIn K mainGlobals "law" = some (some (.ref (He.fAd K ("law", none))))) ∧ (PySem.W.keepIn K (.ref (He.fAd K ("law", none))) = true))
def hB3 (K : PySem.W.Frag) : Bool := decide (((He.Fa.str "LETTERS" "abcdefghijklmnopqrstuvwxyz").ok K = true) ∧ ((He.Fa.int "LONGEST" (8)).ok K = true) ∧ ((He.Fa.str "NUM" "num").ok K = true) ∧ (PySem.W.nsIn K mainGlobals "isinstance" = some none) ∧ (PySem.W.nsIn K mainGlobals "str" = some none) ∧ (PySem.W.nsIn K mainGlobals "tuple" = some none) ∧ (PySem.W.nsIn K mainGlobals "len" = some none) ∧ (PySem.W.nsIn K mainGlobals "all" = some none) ∧ (PySem.W.nsIn K mainGlobals "any" = some none) ∧ (PySem.W.nsIn K mainGlobals "range" = some none) ∧ (PySem.W.nsIn K mainGlobals "sum" = some none) ∧ (PySem.W.nsIn K mainGlobals "min" = some none) ∧ (PySem.W.nsIn K mainGlobals "max" = some none) ∧ (PySem.W.nsIn K mainGlobals "int" = some none) ∧ (PySem.W.nsIn K mainGlobals "repr" = some none) ∧ (PySem.W.nsIn K mainGlobals "list" = some none) ∧ (PySem.W.nsIn K mainGlobals "sorted" = some none) ∧ (PySem.W.nsIn K mainGlobals "zip" = some none) ∧ (PySem.W.plainGet K (He.ga K "Book") Str.empty = true) ∧ (PySem.W.hasDictIn K (He.ga K "Book") = true) ∧ (PySem.W.plainOver K (He.ga K "Book") = true) ∧ (PySem.W.findIn K (.ref (He.ga K "Book")) "__setattr__" = some (some (.builtin "object.__setattr__"))) ∧ (PySem.W.makesIn K (He.ga K "Book") = true) ∧ (PySem.W.keepIn K (.ref (He.ga K "Book")) = true) ∧ (PySem.W.findIn K (.ref (He.ga K "Book")) "__format__" = some (some (.builtin "object.__format__"))))
def hB4 (K : PySem.W.Frag) : Bool := decide ((PySem.W.subIn K (.ref (He.ga K "Book")) (.type "object") = some true) ∧ (PySem.W.findIn K (.ref (He.ga K "Book")) "__class__" = some (some (.builtin "object.__class__"))) ∧ (PySem.W.specialIn K (.builtin "object.__class__") "__get__" = some (some (.builtin "getset_descriptor.__get__"))) ∧ (PySem.W.takesIn K (.builtin "object.__class__") = some true) ∧ (PySem.W.mroIn K (He.ga K "Book") (.type "object") = some true) ∧ (PySem.W.findIn K (.ref (He.ga K "Book")) "kinds" = some none) ∧ (PySem.W.findIn K (.ref (He.ga K "Book")) "names_by" = some none) ∧ (PySem.W.findIn K (.ref (He.ga K "Book")) "kinds_by" = some none) ∧ (PySem.W.findIn K (.ref (He.ga K "Book")) "fields_by" = some none) ∧ (PySem.W.excInitIn K (He.ga K "Bare") ([.type "ValueError", .type "Exception", .type "BaseException", .type "object"] : List Value) "ValueError.__new__" = true) ∧ (PySem.W.excOver K (He.ga K "Bare") ([.type "ValueError", .type "Exception", .type "BaseException", .type "object"] : List Value) = true) ∧ (PySem.W.hasDictIn K (He.ga K "Bare") = true) ∧ (PySem.W.findIn K (.ref (He.ga K "Bare")) "__setattr__" = some (some (.builtin "object.__setattr__"))) ∧ (PySem.W.subIn K (.ref (He.ga K "Bare")) (.type "BaseException") = some true) ∧ (PySem.W.typeIn K (.ref (He.ga K "Bare")) = some (.type "type")) ∧ (PySem.W.keepIn K (.ref (He.ga K "Bare")) = true) ∧ (PySem.W.findIn K (.ref (He.ga K "Bare")) "__getattribute__" = some (some (.builtin "BaseException.__getattribute__"))) ∧ (PySem.W.findIn K (.ref (He.ga K "Bare")) "__getattr__" = some none) ∧ (PySem.W.findIn K (.ref (He.ga K "Bare")) "__class__" = some (some (.builtin "object.__class__"))) ∧ (PySem.W.specialIn K (.builtin "object.__class__") "__get__" = some (some (.builtin "getset_descriptor.__get__"))) ∧ (PySem.W.takesIn K (.builtin "object.__class__") = some true) ∧ (PySem.W.mroIn K (He.ga K "Bare") (.type "object") = some true) ∧ (PySem.W.findIn K (.ref (He.ga K "Bare")) "kind" = some none) ∧ (PySem.W.nsIn K mainGlobals "NoBook" = some (some (.ref (He.ga K "NoBook")))) ∧ (PySem.W.excIn K (He.ga K "NoBook") ([.type "ValueError", .type "Exception", .type "BaseException", .type "object"] : List Value) "ValueError.__new__" = true))
def hB5 (K : PySem.W.Frag) : Bool := decide ((PySem.W.hasDictIn K (He.ga K "NoBook") = true) ∧ (PySem.W.subIn K (.ref (He.ga K "NoBook")) (.type "BaseException") = some true) ∧ (PySem.W.typeIn K (.ref (He.ga K "NoBook")) = some (.type "type")) ∧ (PySem.W.keepIn K (.ref (He.ga K "NoBook")) = true) ∧ (PySem.W.findIn K (.ref (He.ga K "NoBook")) "__getattribute__" = some (some (.builtin "BaseException.__getattribute__"))) ∧ (PySem.W.findIn K (.ref (He.ga K "NoBook")) "__getattr__" = some none) ∧ (PySem.W.findIn K (.ref (He.ga K "NoBook")) "__class__" = some (some (.builtin "object.__class__"))) ∧ (PySem.W.specialIn K (.builtin "object.__class__") "__get__" = some (some (.builtin "getset_descriptor.__get__"))) ∧ (PySem.W.takesIn K (.builtin "object.__class__") = some true) ∧ (PySem.W.mroIn K (He.ga K "NoBook") (.type "object") = some true) ∧ (PySem.W.nsIn K mainGlobals "ValueError" = some none) ∧ (PySem.W.nsIn K mainGlobals "bool" = some none) ∧ (PySem.W.nsIn K mainGlobals "set" = some none) ∧ (PySem.W.exmOne K (.ref (He.ga K "Bare")) (.ref (He.ga K "KindError")) = some true) ∧ (PySem.W.kitAny K (.ref (He.ga K "Bare")) [.ref (He.ga K "Gap"), .ref (He.ga K "InUse"), .ref (He.ga K "NoBack"), .ref (He.ga K "NoDress"), .ref (He.ga K "NoFall"), .ref (He.ga K "NoFilling"), .ref (He.ga K "NoFun"), .ref (He.ga K "NoIndex"), .ref (He.ga K "NoName"), .ref (He.ga K "NoOrnament")] = some false) ∧ (PySem.W.kitAny K (.ref (He.ga K "Bare")) [.ref (He.ga K "NoText"), .ref (He.ga K "Taken"), .ref (He.ga K "TooLong"), .ref (He.ga K "Unlike")] = some false) ∧ (PySem.W.kitOne K (.ref (He.ga K "Bare")) (.type "ValueError") = some true) ∧ (PySem.W.kitOne K (.ref (He.ga K "Bare")) (.ref (He.ga K "NoBook")) = some false) ∧ (PySem.W.kitOne K (.ref (He.ga K "Bare")) (.ref (He.ga K "Bare")) = some true) ∧ (PySem.W.exmOne K (.ref (He.ga K "NoBook")) (.ref (He.ga K "KindError")) = some true) ∧ (PySem.W.kitAny K (.ref (He.ga K "NoBook")) [.ref (He.ga K "Gap"), .ref (He.ga K "InUse"), .ref (He.ga K "NoBack"), .ref (He.ga K "NoDress"), .ref (He.ga K "NoFall"), .ref (He.ga K "NoFilling"), .ref (He.ga K "NoFun"), .ref (He.ga K "NoIndex"), .ref (He.ga K "NoName"), .ref (He.ga K "NoOrnament")] = some false) ∧ (PySem.W.kitAny K (.ref (He.ga K "NoBook")) [.ref (He.ga K "NoText"), .ref (He.ga K "Taken"), .ref (He.ga K "TooLong"), .ref (He.ga K "Unlike")] = some false) ∧ (PySem.W.kitOne K (.ref (He.ga K "NoBook")) (.type "ValueError") = some true) ∧ (PySem.W.kitOne K (.ref (He.ga K "NoBook")) (.ref (He.ga K "NoBook")) = some true) ∧ (PySem.W.kitOne K (.ref (He.ga K "NoBook")) (.ref (He.ga K "Bare")) = some false))
def hB6 (K : PySem.W.Frag) : Bool := decide ((PySem.W.specialIn K (.ref (He.ga K "KindError")) "__getattribute__" = some (some (.builtin "type.__getattribute__"))) ∧ (PySem.W.readsIn K (He.ga K "KindError") (.type "type") = true) ∧ (Dk.initVE K (He.ga K "KindError") = true))
def hBs (K : PySem.W.Frag) : Bool := (hB0 K && (hB1 K && (hB2 K && (hB3 K && (hB4 K && (hB5 K && (hB6 K)))))))
def hFn : List He.FnD := [⟨("is_name", none), "is_name", "is_name", defArgs (hTop 24), defBody (hTop 24), defScope (hTop 24)⟩, ⟨("is_bough", none), "is_bough", "is_bough", defArgs (hTop 26), defBody (hTop 26), defScope (hTop 26)⟩, ⟨("is_kind", none), "is_kind", "is_kind", defArgs (hTop 27), defBody (hTop 27), defScope (hTop 27)⟩, ⟨("are_unlike", none), "are_unlike", "are_unlike", defArgs (hTop 28), defBody (hTop 28), defScope (hTop 28)⟩, ⟨("is_kinds", none), "is_kinds", "is_kinds", defArgs (hTop 29), defBody (hTop 29), defScope (hTop 29)⟩, ⟨("with_worths", none), "with_worths", "with_worths", defArgs (hTop 30), defBody (hTop 30), defScope (hTop 30)⟩, ⟨("Book", some "__init__"), "__init__", "Book.__init__", defArgs (inClass (hTop 32) 0), defBody (inClass (hTop 32) 0), defScope (inClass (hTop 32) 0)⟩, ⟨("Bare", some "__init__"), "__init__", "Bare.__init__", defArgs (inClass (hTop 7) 0), defBody (inClass (hTop 7) 0), defScope (inClass (hTop 7) 0)⟩, ⟨("_law_deck", none), "_law_deck", "_law_deck", defArgs (hTop 34), defBody (hTop 34), defScope (hTop 34)⟩, ⟨("_law_draw", none), "_law_draw", "_law_draw", defArgs (hTop 35), defBody (hTop 35), defScope (hTop 35)⟩, ⟨("_law_pick", none), "_law_pick", "_law_pick", defArgs (hTop 36), defBody (hTop 36), defScope (hTop 36)⟩, ⟨("_law_names", none), "_law_names", "_law_names", defArgs (hTop 37), defBody (hTop 37), defScope (hTop 37)⟩, ⟨("_law_letters", none), "_law_letters", "_law_letters", defArgs (hTop 38), defBody (hTop 38), defScope (hTop 38)⟩, ⟨("_law_kinds", none), "_law_kinds", "_law_kinds", defArgs (hTop 39), defBody (hTop 39), defScope (hTop 39)⟩, ⟨("_law_great_kinds", none), "_law_great_kinds", "_law_great_kinds", defArgs (hTop 40), defBody (hTop 40), defScope (hTop 40)⟩, ⟨("_law_any_kinds", none), "_law_any_kinds", "_law_any_kinds", defArgs (hTop 41), defBody (hTop 41), defScope (hTop 41)⟩, ⟨("_law_is_name", none), "_law_is_name", "_law_is_name", defArgs (hTop 42), defBody (hTop 42), defScope (hTop 42)⟩, ⟨("_law_is_named", none), "_law_is_named", "_law_is_named", defArgs (hTop 43), defBody (hTop 43), defScope (hTop 43)⟩, ⟨("_law_is_kinds", none), "_law_is_kinds", "_law_is_kinds", defArgs (hTop 44), defBody (hTop 44), defScope (hTop 44)⟩, ⟨("_law_names_in", none), "_law_names_in", "_law_names_in", defArgs (hTop 45), defBody (hTop 45), defScope (hTop 45)⟩, ⟨("_law_odd", none), "_law_odd", "_law_odd", defArgs (hTop 46), defBody (hTop 46), defScope (hTop 46)⟩, ⟨("_law_spoilt", none), "_law_spoilt", "_law_spoilt", defArgs (hTop 47), defBody (hTop 47), defScope (hTop 47)⟩, ⟨("_law_bare", none), "_law_bare", "_law_bare", defArgs (hTop 48), defBody (hTop 48), defScope (hTop 48)⟩, ⟨("_law_heard", none), "_law_heard", "_law_heard", defArgs (hTop 49), defBody (hTop 49), defScope (hTop 49)⟩, ⟨("_law_right", none), "_law_right", "_law_right", defArgs (hTop 50), defBody (hTop 50), defScope (hTop 50)⟩, ⟨("_law_far_kinds", none), "_law_far_kinds", "_law_far_kinds", defArgs (hTop 51), defBody (hTop 51), defScope (hTop 51)⟩, ⟨("_law_few_bare", none), "_law_few_bare", "_law_few_bare", defArgs (hTop 52), defBody (hTop 52), defScope (hTop 52)⟩, ⟨("law", none), "law", "law", defArgs (hTop 53), defBody (hTop 53), defScope (hTop 53)⟩]
def hL0 : List PySem.Str := ["_wall", "KindError", "NoBook", "NoText", "NoBack", "Unlike", "Bare", "NoFun", "NoFall", "TooLong", "NoOrnament", "NoDress", "NoFilling", "NoIndex", "NoName", "Taken", "InUse", "Gap", "NoKind", "NUM", "LETTERS", "LONGEST", "is_name", "is_bough", "is_kind", "are_unlike", "is_kinds", "with_worths", "kind_text", "Book"]
def hL1 : List PySem.Str := ["_law_deck", "_law_draw", "_law_pick", "_law_names", "_law_letters", "_law_kinds", "_law_great_kinds", "_law_any_kinds", "_law_is_name", "_law_is_named", "_law_is_kinds", "_law_names_in", "_law_odd", "_law_spoilt", "_law_bare", "_law_heard", "_law_right", "_law_far_kinds", "_law_few_bare"]
def hLoose : List PySem.Str := hL0 ++ hL1
abbrev hR : PySem.W.OpenRow := PySem.W.OpenLaw.row PySem.Challenge.rw_dressedkinds_k01_what_are_names_and_kind
def hAs : List Addr := mainGlobals :: (List.range 1000).reverse
abbrev hH : PySem.W.Hook := Dk.hookX hAs hBs hFn
set_option maxHeartbeats 0 in
theorem hrun (w : World) : HandSHeadRun.RunEq hR (PySem.W.view hR.prog [53]) hH (Dk.obX hAs hBs hFn) 15000 hLoose w := by
  intro os
  kernel_rfl
end KB
namespace Dk
open PySem PySem.W L2 PySem.Spec
open Builtin Builtin.ObjectAttr
/-- what the written part says of such a class -/
structure OxC (K : PySem.W.Frag) (newId : String) (tl : List Value) (C : Addr) : Prop where
  ob : excInitIn K C tl newId = true
  ov : excOver K C tl = true
  hd : hasDictIn K C = true
  sa : findIn K (.ref C) "__setattr__" = some (some (.builtin "object.__setattr__"))
  exC : subIn K (.ref C) (.type "BaseException") = some true
  tyC : typeIn K (.ref C) = some (.type "type")
  kC : keepIn K (.ref C) = true
section
variable {prog : Program} {w : World} {A : Around} {R : Result → Shared → Prop} {hp : Heap} {g : Array GenState} {d : Drawn} {t : Nat} {os : OsState} {K : Frag} {name : Str} {tk : Tok} {v : Value} {x C : Addr} {fv : Array Value} {iB : String} {tl : List Value}
theorem taker_none (ha : findIn K (.ref C) name = some none) : takerIn K C name = some none := by
  unfold takerIn
  rw [ha]
  rfl
theorem x_set_new (SF : StoreFacts iB tl "object.__setattr__" "object") (X : K.In hp) (hx : hp.get? x = some { cls := .ref C, data := .fields fv }) (ov : excOver K C tl = true) (hdc : hasDictIn K C = true) (ha : findIn K (.ref C) name = some none)
    (hq : ∀ h' tk' dx, (∀ b o, b ≠ x → hp.get? b = some o → h'.get? b = some o) → hp.objs.size ≤ dx → dx ≠ x → h'.get? x = some { cls := .ref C, dict := some dx, data := .fields fv } → h'.Ns1 dx (fun y => if y = name then some v else none) →
      R (.ok (.ret .none)) ⟨h', g, d, tk', os⟩) : codeAny (model prog w) A (.call (.builtin "object.__setattr__") ⟨[.ref x, .str name tk, v], []⟩) R ⟨hp, g, d, t, os⟩ := by
  have I : W.InstAt hp x { cls := .ref C, data := .fields fv } C none := ⟨hx, rfl, rfl, trivial⟩
  have ne : x ≠ hp.objs.size := Nat.ne_of_lt (Heap.lt_size hx)
  obtain ⟨cd, hcd, hh⟩ := any_some hdc
  have Lc : W.Looks (model prog w) hp (classData C) cd := W.looks_clsIn X hcd
  refine osa_openX (s := ⟨hp, g, d, t, os⟩) SF X I ov (taker_none ha) fun b => ?_
  show wpAny _ _ (storeInOwnDict (.ref x) (.ref C) (.str name tk) name v b) _ _ _
  obtain ⟨nm, bs, mro, ns, qn, hd, sn, sb, ab, col, del⟩ := cd
  dsimp only at hh
  subst hh
  unfold storeInOwnDict ownDictForStores
  repeat (first
    | with_reducible refine PySem.HandSPX.store_in_new ?_ ?_
    | with_reducible refine wpAny_loadPart_at hx ?_
    | with_reducible refine Lc.at ?_
    | wp_step)
  · have gd : ((hp.push { cls := .type "dict", data := .dict #[] }).update x fun o => { o with dict := some hp.objs.size }).get? hp.objs.size = some { cls := .type "dict", data := .dict #[] } :=
      (Heap.get?_update_ne _ _ _ _ ne.symm).trans (Heap.get?_push_at rfl rfl)
    exact ⟨_, #[], _, gd, rfl, fun e he => absurd he (by simp), fun _ => rfl⟩
  · intro h' tk' hn' hs
    have hx1 : (hp.push { cls := .type "dict", data := .dict #[] }).get? x = some { cls := .ref C, data := .fields fv } := Heap.get?_push_of_some _ hx
    refine hq h' tk' hp.objs.size (fun b o hb ho => ?_) (Nat.le_refl _) ne.symm ?_ hn'
    · have bn := Nat.ne_of_lt (Heap.lt_size ho)
      exact (hs.2 b bn).trans ((Heap.get?_update_ne _ _ _ _ hb).trans (Heap.get?_push_of_some _ ho))
    · exact (hs.2 x ne).trans (Heap.get?_update_self _ hx1 rfl)
end
section
variable {X : Cx} {pins : List (Addr × Obj)} {σ : St} {H : Hp} {s : Shared} {a C dx : Addr} {f : Str} {y : V} {u : Value} {fs : List (Str × V)} {Q : Unit → Shared → Prop} {E : Value → Shared → Prop} {A : Around} {nB newId iB initId : String} {tl : List Value}
/-- self.f = y, the first one -/
theorem x_ost (B : XB nB newId iB initId tl) (T : OxC X.K newId tl C) (J : Inv X pins σ H s) (e : H a = some (exo a C none)) (hno : findIn X.K (.ref C) f = some none) (ry : RelV y u)
    (h : ∀ dx s', H dx = none → dx ≠ a → Inv X pins σ (upd (upd H dx (exd dx [(f, y)])) a (exo a C (some dx))) s' → Q () s') : wpAny (model X.prog X.w) A (setAttr (.ref a) f u) Q E s := by
  obtain ⟨t1, ho⟩ := exo_at J.hok e
  obtain ⟨hp, g, d, t, os⟩ := s
  refine PySem.W.set_plain J.kIn (od := none) ⟨ho, rfl, rfl, trivial⟩ T.sa ?_
  refine x_set_new B.SF J.kIn ho T.ov T.hd hno fun h' tk' dx k dn dne hx hn => ?_
  have hnd : H dx = none := J.hok.fresh dn
  have nd : ∀ {b : Addr} {o : Obj}, hp.get? b = some o → b ≠ dx := fun {b o} q => Nat.ne_of_lt (Nat.lt_of_lt_of_le (Heap.lt_size q) dn)
  have na : ∀ {b : Addr}, H b = none → b ≠ a := fun {b} n z => by subst z; rw [e] at n; cases n
  have U : Un X.fs [] H (upd (upd H dx (exd dx [(f, y)])) a (exo a C (some dx))) hp h' := by
    refine ⟨fun b o q n _ _ => k b o (na n) q, fun b o q n _ _ => ⟨o.slots, k b o (na n) q⟩, fun b o q n _ => ?_, fun b o q _ => ?_, fun b xs q => ?_, fun b o v q => ?_, fun b ps q => ⟨#[], ?_⟩⟩
    · rw [upd_ne (na n), upd_ne (nd q)]
      exact n
    · by_cases hb : b = a
      · subst hb; exact ⟨_, hx⟩
      · exact ⟨o, k b o hb q⟩
    · rw [upd_ne (at_ne e q exo_tup), upd_ne (ne_of_none q hnd)]
      exact q
    · rw [upd_ne (at_ne e q exo_frz), upd_ne (ne_of_none q hnd)]
      exact q
    · rw [upd_ne (at_ne e q exo_tbl), upd_ne (ne_of_none q hnd), q]
      simp
  refine h dx _ hnd dne (J.un (t' := tk') U fun b o q => ?_)
  by_cases hb : b = a
  · subst hb
    rw [upd_same] at q
    cases q
    exact exo_ok hx
  rw [upd_ne hb] at q
  by_cases hd : b = dx
  · subst hd
    rw [upd_same] at q
    cases q
    exact exd_ok hn (relO_put (fs := []) ry fun g => True.intro)
  rw [upd_ne hd] at q
  refine (J.hok b o q).stay (fun c v hc z => k c v ?_ z) (fun c hc => ?_) fun c xs hc => ?_
  · rcases hc with rfl | hc
    · exact hb
    · exact at_ne e hc exo_own
  · rw [upd_ne (at_ne e hc exo_own), upd_ne (ne_of_none hc hnd)]
    exact hc
  · rw [upd_ne (at_ne e hc exo_tup), upd_ne (ne_of_none hc hnd)]
    exact hc
/-- the base's __init__ -/
theorem x_oinit {us : List Value} {Q : Value → Shared → Prop} (B : XB nB newId iB initId tl) (T : OxC X.K newId tl C) (J : Inv X pins σ H s) (e : H a = some (exo a C none)) (hl : us.length ≤ sizeLine) (h : ∀ s', Inv X pins σ H s' → Q .none s') :
    wpAny (model X.prog X.w) A (call (.builtin initId) (.ref a :: us)) Q E s := by
  obtain ⟨nm, N, qn, bs, bm, hd, sn, sub, ab, col, dd, k0, k1, k2, k3, k5, hC, hT⟩ := excInit_of J.kIn T.ob
  obtain ⟨t1, ho⟩ := exo_at J.hok e
  obtain ⟨hp, g, d, t, os⟩ := s
  refine wpAny_call (x_init B hT hC ho hl fun h' t2 k hx => h _ ?_)
  have J2 := J.write (t' := t) (x := a) (e := a) (o := exo a C none) (by rw [e]; exact True.intro) (.inl rfl) k ⟨_, hx⟩ (exo_ok hx)
  have same : upd H a (exo a C none) = H := funext fun b => by
    by_cases hb : b = a
    · subst hb; rw [upd_same, e]
    · exact upd_ne hb
  rwa [same] at J2
end
/-- B.__init__(self, ..) -/
def tXi (K : PySem.W.Frag) (newId : String) (tl : List Value) (ta : TA) : TE := fun σ H Q => ta σ H fun vs H1 => ∃ (a C : Addr) (ws : List V), vs = .ref a :: ws ∧ ws.length ≤ 1000 ∧ OxC K newId tl C ∧ H1 a = some (exo a C none) ∧ Q .non H1
/-- self.f = e -/
def tXs (K : PySem.W.Frag) (newId : String) (tl : List Value) (f : Str) (to te : TE) : TS := fun D σ H => te σ H fun y H1 => to σ H1 fun x H2 => ∃ a C : Addr, x = .ref a ∧ OxC K newId tl C ∧ findIn K (.ref C) f = some none ∧
  H2 a = some (exo a C none) ∧ ∀ dx, H2 dx = none → dx ≠ a → D.nx σ (upd (upd H2 dx (exd dx [(f, y)])) a (exo a C (some dx)))
section
variable {X : Cx} {o e : Expr} {es : List Expr} {to te : TE} {ta : TA} {f x : Str} {p p' p1 p2 pos : Pos} {nB newId iB initId : String} {tl : List Value} {pl : Sem Bool}
/-- .. by an own class without an __init__ of its own -/
theorem pe_xinitO {D : Addr} {mc : Value} (B : XB nB newId iB initId tl) (hg : Gl X x) (hm : X.mg x = some (.ref D)) (ga : specialIn X.K (.ref D) "__getattribute__" = some (some (.builtin "type.__getattribute__"))) (rd : readsIn X.K D mc = true) (vV : findCls X.K (.ref D) mc "__init__" = some (.val (.builtin initId))) (hh : handedIn (.builtin initId) = true) (ha : PA X (e :: es) ta)
    (hdb : (x == ("__debug__" : Str)) = false := by decide)
    (hc : eval (.Call (.Attribute (.Name x p1) "__init__" p2) (e :: es) [] pos) X.env = (do
      let ov ← eval (.Name x p1) X.env
      standAt p2.atName
      let (f, first) ← holding [ov] (getMethod ov "__init__" pl)
      callWith pos f first (backTo pos (starEach (e :: es) X.env)) (backToKw pos (keywordEach [] X.env))) := by rfl)
    (he : starEach (e :: es) X.env = (false, eval e X.env) :: starEach es X.env := by rfl) (hpl : (backTo pos (starEach es X.env)).any (·.1) = false := by rfl) : PE X (.Call (.Attribute (.Name x p1) "__init__" p2) (e :: es) [] pos) (tXi X.K newId tl ta) := by
  refine ⟨fun pins s σ H Q J h => PySem.W.methodCall_KW (ld_glob J hg hm ?_ hdb) hc⟩
  refine PySem.W.method_cls J.kIn ga (PySem.W.cls_value J.kIn rd vV hh ?_)
  show wpAny _ _ (callWith pos (Value.builtin initId) [] (backTo pos (starEach (e :: es) X.env)) []) _ _ _
  refine PyProof.Rows.callWith_method1 (thn (ha.run pos pins _ σ H _ (J.tok _) h) fun us s1 ⟨vs, H1, J1, r1, a, C, ws, ev, hl, T, ea, q⟩ => ?_) he hpl
  subst ev
  cases r1 with
  | @cons _ u0 _ ur ra rw' =>
    cases (show u0 = Value.ref a from ra)
    have few : ur.length ≤ sizeLine := by rw [← Paired.length rw', sizeLine_eq]; omega
    exact x_oinit B T J1 ea few fun s' J2 => ⟨.non, H1, J2, rfl, q⟩
theorem ps_xs (B : XB nB newId iB initId tl) (ho : PE X o to) (he : PE X e te) (hs : swapsWith e (some (.Attribute o f p')) pos.line X.env = pure false := by rfl) : PS X (.Assign [.Attribute o f p'] e pos) (tXs X.K newId tl f to te) := by
  refine ⟨fun pins s σ H D J h => plainObj_wpAny_Assign_Attribute (thn (he.run pins s σ H _ J h) fun v s1 ⟨y, H1, J1, r1, q1⟩ => ?_) hs⟩
  refine thn (ho.run pins s1 σ H1 _ J1 q1) fun u s2 ⟨x, H2, J2, r2, a, C, ex, T, hno, ea, q⟩ => ?_
  subst ex
  cases (show u = Value.ref a from r2)
  exact x_ost B T J2 ea hno r1 fun dx s' n ne J3 => ⟨σ, _, J3, q dx n ne⟩
/-- what such an __init__ keeps: one field -/
def spX (C : Addr) (f : Str) : Sp := fun vs H Q _ => ∃ a y, vs = [.ref a, y] ∧ H a = some (exo a C none) ∧ ∀ d, H d = none → d ≠ a → Q .non (upd (upd H d (exd d [(f, y)])) a (exo a C (some d)))
/-- C(e): the exception that comes -/
def tXm (C : Addr) (f : Str) (te : TE) : St → Hp → XK → Prop := fun σ H Q => te σ H fun y H1 => ∀ d, H1 d = none → Q (.ref C) (some d) (upd H1 d (.xd [(f, y)]))
theorem pmk_x {CX : CXT} {C fI : Addr} {k : Nat} {fd : FuncData} {ps : List Str} (B : XB nB newId iB initId tl) (T : OxC X.K newId tl C) (iC : findIn X.K (.ref C) "__init__" = some (some (.ref fI))) (tI : typeIn X.K (.ref fI) = some (.type "function"))
    (G : GnOk X.prog X.w X.K X.mg X.base CX k fI fd ps (spX C f)) (hr : Rm (k + 1) X.A) (hb : Binds X.K fd ps []) (hx : Passes CX X (fun _ _ _ => False)) (hg : Gl X x) (hm : X.mg x = some (.ref C)) (he : PE X e te)
    (hdb : (x == ("__debug__" : Str)) = false := by decide) (hs : starEach [e] X.env = (false, eval e X.env) :: starEach [] X.env := by rfl) : PMk X (.Call (.Name x p) [e] [] pos) (tXm C f te) := by
  intro pins s σ H Q J h
  refine wpAny_Call_Name_kw (ld_glob J hg hm ?_ hdb)
  refine PySem.W.callWith_K (h₀ := X.base) J.ok.mod.kin T.kC ?_ hs (by rfl)
  rw [hs]
  show wpAny _ _ (spliced ((false, eval e X.env) :: backTo pos (starEach [] X.env))) _ _ s
  refine Calls.spliced_cons (thn (he.run pins s σ H _ J h) fun u s1 ⟨y, H1, J1, r1, q1⟩ => ?_)
  refine Calls.spliced_nil ⟨J1.kIn, ?_⟩
  show wpAny _ _ (call (.ref C) [u]) _ _ _
  obtain ⟨nm, N, qn, bs, bm, hd, sn, sub, ab, col, dd, k0, k1, k2, k3, k5, hC, hT⟩ := excInit_of J1.kIn T.ob
  obtain ⟨hp, g, dr, tk, os⟩ := s1
  have hsz : hp.objs.size ≤ hp.objs.size + 1 := Nat.le_succ _
  have hn : H1 (hp.objs.size + 1) = none := J1.hok.fresh hsz
  have kk : ∀ b o, hp.get? b = some o → (xNew hp C [u]).get? b = some o := fun b o z => Heap.get?_push_of_some _ (Heap.get?_push_of_some _ z)
  have hget : (xNew hp C [u]).get? (hp.objs.size + 1) = some (PySem.HandSPX.excO C hp.objs.size) := by heap_get
  have J2 := J1.laid (t' := tk) (a := hp.objs.size + 1) (o := exo (hp.objs.size + 1) C none) (h' := xNew hp C [u]) kk hsz (exo_ok hget)
  have r2 : Vals [V.ref (hp.objs.size + 1), y] [Value.ref (hp.objs.size + 1), u] := .cons rfl (.cons r1 .nil)
  have q3 : spX C f [V.ref (hp.objs.size + 1), y] (upd H1 (hp.objs.size + 1) (exo (hp.objs.size + 1) C none)) (fun v H2 => v = .non ∧ ∃ d fs, H2 (hp.objs.size + 1) = some (exo (hp.objs.size + 1) C (some d)) ∧ H2 d = some (exd d fs) ∧ H1 d = none ∧
      Q (.ref C) (some d) (upd (del H2 (hp.objs.size + 1)) d (.xd fs))) (fun _ _ _ => False) := by
    refine ⟨_, y, rfl, upd_same, fun d hd ne => ⟨rfl, d, _, upd_same, by rw [upd_ne ne, upd_same], by rwa [upd_ne ne] at hd, ?_⟩⟩
    have hd1 : H1 d = none := by rwa [upd_ne ne] at hd
    refine cast (congrArg (Q (.ref C) (some d)) (funext fun b => ?_)) (q1 d hd1)
    by_cases hb : b = d
    · subst hb; rw [upd_same, upd_same]
    rw [upd_ne hb, upd_ne hb]
    by_cases ha : b = hp.objs.size + 1
    · subst ha; rw [del_same, hn]
    rw [del_ne ha, upd_ne ha, upd_ne hb, upd_ne ha]
  have b2 := hb _ [Value.ref (hp.objs.size + 1), u] J2.kIn (by rw [List.append_nil, ← r2.length]; exact G.lens _ _ _ _ q3)
  rw [List.append_nil] at b2
  refine wpAny_call (x_call B hT hC (PySem.W.looks_findIn J1.kIn iC) (fun self => PySem.W.bind_fn J1.kIn self tI) (by show 1 ≤ sizeLine; rw [sizeLine_eq]; omega)
    (codeAny_mono (G.go _ X.stack _ _ ⟨[Value.ref (hp.objs.size + 1), u], []⟩ _ _ _ (fun _ _ _ => False) (hr.make C [u] []) (J2.env0.make C [u] []) b2 r2 q3) fun r s' z => ?_))
  cases r with
  | error er => exact hx pins σ _ _ er s' J2 z
  | ok fl => cases fl with
    | ret u' =>
      obtain ⟨v, H2, os2, bare2, un2, hok2, rv, ev, d, fs, ea, ed, hd1, q2⟩ := z
      subst ev
      obtain ⟨h2, g2, d2, t2, os'⟩ := s'
      exact ⟨rv, mk_end (raises_own T.exC T.tyC) J1 hsz kk un2 hok2 os2 bare2 ea ed hd1 q2⟩
    | next => exact z.elim
    | brk => exact z.elim
    | cont => exact z.elim
end
end Dk
namespace Dk
open PySem L2
structure DMk (F : Fx) (X : Cx) (e : Expr) (t : DEnv → (Ex → Prop) → Prop) : Prop where
  mono : ∀ ρ (Q Q' : Ex → Prop), (∀ x, Q x → Q' x) → t ρ Q → t ρ Q'
  run : PMk X e (fun σ H Q => ∃ I ρ, At F X.K I ρ σ H ∧ t ρ (finX F.W X.K I H Q))
/-- what is wished of an exception, by the names where it comes -/
abbrev WD := DEnv → Ex → Prop
def LetsS (F : Fx) (K : PySem.W.Frag) (w : WD) (W : WX) : Prop := ∀ I ρ σ H, At F K I ρ σ H → ∀ x, w ρ x → finX F.W K I H (fun cls d H' => W cls d σ H') x
theorem letsS_def {F : Fx} {K : PySem.W.Frag} {E : XK} : LetsS F K (fun _ => finX F.W K F.I0 F.B E) (fun cls d _ H => E cls d H) := fun I ρ σ H A x h cls d I' H' s r => h cls d I' H' (A.stp.trans s) r
theorem _root_.L2.PMk.imp {X : Cx} {e : Expr} {t u : St → Hp → XK → Prop} (h : PMk X e t) (i : ∀ σ H Q, u σ H Q → t σ H Q) : PMk X e u := fun pins s σ H Q J q => h pins s σ H Q J (i _ _ _ q)
section
variable {F : Fx} {X : Cx} {K : PySem.W.Frag} {I H I' H' : Hp} {ρ : DEnv} {σ : St} {W : WX} {w : WD} {e o : Expr} {es : List Expr} {te to : DT} {t : DEnv → (Ex → Prop) → Prop} {p pos apos : Pos} {x f m : Str} {nB newId iB initId : String} {tl : List Value}
theorem dmk_x {CX : CXT} {C fI : Addr} {k : Nat} {fd : FuncData} {ps : List Str} (B : XB nB newId iB initId tl) (T : OxC X.K newId tl C) (iC : PySem.W.findIn X.K (.ref C) "__init__" = some (some (.ref fI))) (tI : PySem.W.typeIn X.K (.ref fI) = some (.type "function"))
    (G : GnOk X.prog X.w X.K X.mg X.base CX k fI fd ps (spX C f)) (hr : Rm (k + 1) X.A) (hb : Binds X.K fd ps []) (hx : Passes CX X (fun _ _ _ => False)) (hm : X.mg x = some (.ref C)) (he : DE F X e te) (hg : Gl X x := by rfl)
    (hdb : (x == ("__debug__" : Str)) = false := by decide) (hs : starEach [e] X.env = (false, eval e X.env) :: starEach [] X.env := by rfl) : DMk F X (.Call (.Name x p) [e] [] pos) (fun ρ Q => te ρ fun d => Q ⟨.ref C, [(f, d)]⟩) := by
  refine ⟨fun ρ Q Q' k h => he.mono _ _ _ (fun d h => k _ h) h, (pmk_x B T iC tI G hr hb hx hg hm he.run hdb hs).imp fun σ H Q ⟨I, ρ, A, h⟩ => ?_⟩
  refine rdE_next he.mono A h fun d v I1 H1 q s rv dd hd => ?_
  have l := s.st.laid hd (.xd [(f, v)])
  exact q _ _ _ _ (s.trans l) ⟨rfl, .inr ⟨dd, _, rfl, upd_same, rfl, .cons (rv.mono l.i) .nil⟩⟩
theorem dmk_own {C : Addr} {bmB : List Value} {B newId initId : String} {y : Str} {j : Nat} {p2 : Pos} (G : ExcBaseFacts B newId initId bmB) (q : PySem.W.excIn X.K C bmB newId = true) (gC : X.mg x = some (.ref C)) (kC : PySem.W.keepIn X.K (.ref C) = true) (r : Raises X (.ref C)) (hg : Gl X x := by rfl)
    (hdb : (x == ("__debug__" : Str)) = false := by decide) : DMk F X (.Call (.Name x p) [.Constant (.str y) j p2] [] pos) (fun _ Q => Q ⟨.ref C, []⟩) :=
  ⟨fun ρ Q Q' k h => k _ h, (pmk_own G q gC kC r hg hdb).imp fun σ H Q ⟨I, ρ, A, h⟩ => h _ _ _ _ A.st.stp ⟨rfl, .inl ⟨rfl, rfl⟩⟩⟩
theorem ds_raise (hc : X.calm = true) (tk : Takes X W) (le : LetsS F X.K w W) (h : DMk F X e t) : DSt F X (.Raise (some e) none pos) (fun _ ρ => t ρ (w ρ)) :=
  ⟨fun Z Z' ρ l q => q, (ps_raise hc tk h.run).imp fun Z σ H ⟨I, ρ, A, q⟩ => ⟨I, ρ, A, h.mono _ _ _ (fun x q => le I ρ σ H A x q) q⟩⟩
end
section
variable {F : Fx} {K : PySem.W.Frag} {I H : Hp} {ρ : DEnv} {σ : St}
/-- what the frame's own things hide -/
def baseOf (F : Fx) (H : Hp) : Hp := fun b => if F.B b = none then none else H b
theorem At.rebase (A : At F K I ρ σ H) : At ⟨F.W, baseOf F H, I⟩ K I ρ σ H := by
  refine ⟨⟨Same.refl I, A.st, fun b o e _ => ?_, fun b o e n => n⟩, A.len, fun i e h => ?_, A.dis⟩
  · have e2 : (if F.B b = none then none else H b) = some o := e
    split at e2
    · cases e2
    · exact e2
  · obtain ⟨v, h1, h2⟩ := A.env i e h
    refine ⟨v, h1, ?_⟩
    rcases h2 with h2 | ⟨p, o, e1, w⟩
    · exact .inl h2
    · exact .inr ⟨p, o, e1, w.hp, w.rep, w.ni, w.nm, if_pos w.nb, w.ad⟩
theorem Stp.back {I' H' : Hp} (s0 : Stp F.W F.I0 F.B I H) (s : Stp F.W I (baseOf F H) I' H') : Stp F.W F.I0 F.B I' H' := by
  have see : ∀ b o, F.B b = some o → H b = some o → baseOf F H b = some o := fun b o e h => by
    unfold baseOf
    rw [if_neg (by rw [e]; exact fun z => nomatch z)]
    exact h
  refine ⟨Same.trans s0.i s.i, s.st, fun b o e m => s.h b o (see b o e (s0.h b o e m)) m, fun b o e n => ?_⟩
  by_cases m : F.W.mv b
  · cases q : I' b with
    | none => rfl
    | some u => exact absurd m (s.st.imm b u q)
  · exact s.new b o (see b o e (s0.h b o e m)) (s0.new b o e n)
theorem At.back {I' H' : Hp} {ρ' : DEnv} {σ' : St} (A : At F K I ρ σ H) (A' : At ⟨F.W, baseOf F H, I⟩ K I' ρ' σ' H') : At F K I' ρ' σ' H' := by
  refine ⟨Stp.back A.stp A'.stp, A'.len, fun i e h => ?_, A'.dis⟩
  obtain ⟨v, h1, h2⟩ := A'.env i e h
  refine ⟨v, h1, ?_⟩
  rcases h2 with h2 | ⟨p, o, e1, w⟩
  · exact .inl h2
  refine .inr ⟨p, o, e1, w.hp, w.rep, w.ni, w.nm, ?_, w.ad⟩
  cases q : F.B p with
  | none => rfl
  | some u =>
    have hp := A.stp.h p u q w.nm
    have z : (if F.B p = none then none else H p) = none := w.nb
    rw [if_neg (by rw [q]; exact fun z => nomatch z), hp] at z
    cases z
theorem ends.rebase (A : At F K I ρ σ H) {Z : Ends} : DEnds.le (ends F K I Z) (ends ⟨F.W, baseOf F H, I⟩ K I Z) :=
  ⟨fun ρ' h I' σ' H' s A' => h I' σ' H' s (A.back A'), fun d h v I' H' s r => h v I' H' (Stp.back A.stp s) r, fun ρ' h I' σ' H' s A' => h I' σ' H' s (A.back A'), fun ρ' h I' σ' H' s A' => h I' σ' H' s (A.back A'), fun u h => match u, h with
    | .own ds, h => fun p vs I' H' s hp r => h p vs I' H' (Stp.back A.stp s) hp r
    | .st d ρ', h => fun v I' σ' H' A' r => h v I' σ' H' (A.back A') r⟩
end
end Dk
namespace Dk
open PySem L2 PySem.Spec
/-- a clause: its class, the slot of its name, what its suite does -/
abbrev Cls1 := Value × Option Nat × (Addr → Value → Option Addr → TS)
def endsAs (D : Ends) : Option Nat → Ends
  | none => D
  | some i => { nx := fun σ H => D.nx (σ.set i none) H, rt := D.rt, bk := fun σ H => D.bk (σ.set i none) H, ct := fun σ H => D.ct (σ.set i none) H }
def nameAs (a : Addr) (σ : St) : Option Nat → St
  | none => σ
  | some i => σ.set i (some (.ref a))
def wTry (K : PySem.W.Frag) (Wout : WX) (D : Ends) : List Cls1 → WX
  | [] => Wout
  | (c, i, ts) :: r => fun cls d σ H => ∃ b, PySem.W.exmOne K cls c = some b ∧ (b = true → ∀ a, H a = none → ts a cls d (endsAs D i) (nameAs a σ i) H) ∧ (b = false → wTry K Wout D r cls d σ H)
abbrev SuiteOk (X : Cx) (sts : List Stmt) (ts : Addr → Value → Option Addr → TS) : Prop :=
  ∀ (a : Addr) (oe : Obj) (cls : Value) (d : Option Addr) (pn : List (Addr × Obj)), Zc cls d oe → (∃ vs, oe.data = .fields vs) → PSs (X.suite a ((a, oe) :: pn)) sts (ts a cls d)
inductive HdsS (X : Cx) : List ExceptHandler → List Cls1 → Prop
  | nil : HdsS X [] []
  | one {x : Str} {c : Value} {ts : Addr → Value → Option Addr → TS} {b₀ : Stmt} {suite : List Stmt} {np pos' : Pos} {hds : List ExceptHandler} {l : List Cls1} (hc : Names X x c) (hsu : SuiteOk X (b₀ :: suite) ts) (r : HdsS X hds l) :
      HdsS X (.ExceptHandler (some (.Name x np)) none (b₀ :: suite) pos' :: hds) ((c, none, ts) :: l)
  | as {x n : Str} {i : Nat} {c : Value} {ts : Addr → Value → Option Addr → TS} {b₀ : Stmt} {suite : List Stmt} {np pos' : Pos} {hds : List ExceptHandler} {l : List Cls1} (hc : Names X x c) (hi : X.N[i]? = some n) (hln : X.env.kindOf n = some .local) (hsu : SuiteOk X (b₀ :: suite) ts) (r : HdsS X hds l) :
      HdsS X (.ExceptHandler (some (.Name x np)) (some n) (b₀ :: suite) pos' :: hds) ((c, some i, ts) :: l)
section
variable {X : Cx} {body : List Stmt} {h₀ : ExceptHandler} {hds : List ExceptHandler} {l : List Cls1} {pos : Pos} {tb : WX → TS} {Wout : WX}
theorem ps_tryS (hs : X.stack = X.env :: X.outer) (hf : X.env.frame = some X.env.locals) (hN : X.N.Nodup) (tk : Takes X Wout)
    (hb : ∀ (W : WX) (pn : List (Addr × Obj)) (xe : Value → Shared → Prop), Takes (X.tr pn xe) W → PSs (X.tr pn xe) body (tb W))
    (hh : HdsS X (h₀ :: hds) l) : PS X (.Try body (h₀ :: hds) [] [] pos) (fun D σ H => tb (wTry X.K Wout D l) D σ H) := by
  refine ⟨fun pins s σ H D J h => wpAny_Try_except ?_⟩
  have ok := J.ok
  have frs1 : X.A.frames = some (X.env :: X.outer) := by rw [ok.frames, hs]
  have caught := hb (wTry X.K Wout D l) (X.pn ++ pins) (fun e s1 => wpAny (model X.prog X.w) X.A (noteFrame e X.env) (fun _ s2 => wpAny (model X.prog X.w) X.A (setFlight e none) (fun _ s3 => wpAny (model X.prog X.w) X.A (handleBy e X.env (h₀ :: hds)) (SP X pins D) X.xe s3) X.xe s2) X.xe s1)
  refine wpAny_mono ((caught fun u s' xx => ?_).run [] s σ H D (J.toTry _) h) (fun f s1 hsp => ?_) fun e s1 he => he
  · obtain ⟨a, B, sI, pins', σ', H', cls, d, rfl, J', nb, up, sky, na, os, ag, w⟩ := xx
    have J1 : Inv X pins σ' H' sI := J'.ofTry ok
    rw [hs] at sky
    show wpAny (model X.prog X.w) X.A (noteFrame (.ref a) X.env) _ _ _
    refine Sky.land Zc.steady frs1 hf sky fun h3 fl3 up3 => ?_
    have J3 : Inv X pins σ' H' { s' with heap := h3 } := J1.landed nb fl3.1 (up.trans up3) os ag
    obtain ⟨oe3, vs3, he3, hz3, hd3⟩ := fl3.there
    have off : a ∉ frs (X.env :: X.outer) := fun hm => by
      obtain ⟨_, o', e', hnf⟩ := fl3.2.2.1.mem hm
      rw [he3] at e'
      cases e'
      exact hnf _ hd3
    have nL : a ≠ X.env.locals := fun z => off (List.mem_filterMap.mpr ⟨X.env, List.mem_cons_self, by rw [hf, z]⟩)
    have nF : a ∉ X.fs := fun hm => by
      obtain ⟨e, he, q⟩ := List.mem_filterMap.mp hm
      exact off (List.mem_filterMap.mpr ⟨e, List.mem_cons_of_mem _ he, q⟩)
    have S3 := J3.suite he3 hd3 na nL nF
    have LT : PySem.W.Looks (model X.prog X.w) h3 (typeOf (.ref a)) cls := fun A Q E s k q => wpAny_typeOf_ref (k _ _ he3) (by rw [hz3.1]; exact q)
    have test : ∀ {x : Str} {c : Value} {np : Pos}, Names X x c → ∀ {Q E : Value → Shared → Prop}, Q c { s' with heap := h3 } → wpAny (model X.prog X.w) (X.A.mark (some (.ref a))) (eval (.Name x np) X.env) Q E { s' with heap := h3 } := by
      rintro x c np ⟨hg, hdbg, hm | ⟨hm, hv, hnn⟩⟩ Q E q
      · exact ld_glob (X := X.suite a ((a, oe3) :: (X.pn ++ pins))) S3 hg hm q hdbg
      · exact ld_blt (X := X.suite a ((a, oe3) :: (X.pn ++ pins))) S3 hg hm hv q hnn hdbg
    have go : ∀ {hs2 : List ExceptHandler} {l2 : List Cls1}, HdsS X hs2 l2 → wTry X.K Wout D l2 cls d σ' H' → wpAny (model X.prog X.w) X.A (handleBy (.ref a) X.env hs2) (SP X pins D) X.xe { s' with heap := h3 } := by
      intro hs2 l2 hk
      induction hk with
      | nil =>
        intro w
        refine wpAny_handleBy_nil ?_
        obtain ⟨k1, k2, k3, oe, vs, T, oT, ts', he, hz, hd, h1, hr⟩ := id fl3
        have some1 : ¬ ((Value.ref T == Value.none) = true) := by simp
        unfold PySem.passOn
        refine wpAny_bind (wpAny_field he hd h1 ?_)
        rw [if_neg some1]
        have out : wpAny (model X.prog X.w) X.A (setFlight (.ref a) X.env.frame) (fun _ s4 => wpAny (model X.prog X.w) X.A (throw (.ref a) : Sem Flow) (SP X pins D) X.xe s4) X.xe { s' with heap := h3 } := by
          rw [hf]
          refine HandSPX.setFlight_upZ fl3 fun h4 hh4 up4 => wpAny_throw (tk _ _ ⟨a, B, sI, pins, σ', H', cls, d, rfl, J1, nb, (up.trans up3).trans up4, ?_, na, os, ag, w⟩)
          rw [hs]
          exact .inr (.inr hh4)
        first
          | exact wpAny_bind (wpAny_pure (wpAny_bind out))
          | exact wpAny_bind out
      | @one x c ts b₀ suite np pos' hds3 l3 hc hsu r ih =>
        rintro ⟨b, hb1, yes, no⟩
        refine wpAny_handleBy_cons (codeAny_handlers_test ?_) (by intro q; cases q)
        refine test hc ((PySem.W.exm_one (M := model X.prog X.w) J3.kIn LT hb1).here ?_)
        cases b with
        | false => exact ih (no rfl)
        | true =>
          refine codeAny_handlers_suite (HandSPX.lands_againZ fl3 fun h4 fl4 up4 => ?_)
          have J4 : Inv X pins σ' H' { s' with heap := h4 } := J1.landed nb fl4.1 ((up.trans up3).trans up4) os ag
          obtain ⟨oe4, vs4, he4, hz4, hd4⟩ := fl4.there
          refine wpAny_mono ((hsu a oe4 cls d (X.pn ++ pins) hz4 ⟨_, hd4⟩).run [] _ _ H' _ (J4.suite he4 hd4 na nL nF) (yes rfl a na)) (fun f s6 hsp => ?_) fun _ _ z => False.elim z
          cases f with
          | ret u => obtain ⟨v6, σ6, H6, S6, r6, q6⟩ := hsp; exact ⟨_, _, _, S6.unsuite ok, r6, q6⟩
          | next => obtain ⟨σ6, H6, S6, q6⟩ := hsp; exact ⟨_, _, S6.unsuite ok, q6⟩
          | brk => obtain ⟨σ6, H6, S6, q6⟩ := hsp; exact ⟨_, _, S6.unsuite ok, q6⟩
          | cont => obtain ⟨σ6, H6, S6, q6⟩ := hsp; exact ⟨_, _, S6.unsuite ok, q6⟩
      | @as x n i c ts b₀ suite np pos' hds3 l3 hc hi hln hsu r ih =>
        rintro ⟨b, hb1, yes, no⟩
        refine wpAny_handleBy_cons (codeAny_handlers_test ?_) (by intro q; cases q)
        refine test hc ((PySem.W.exm_one (M := model X.prog X.w) J3.kIn LT hb1).here ?_)
        cases b with
        | false => exact ih (no rfl)
        | true =>
          refine codeAny_handlers_suite_as (HandSPX.lands_againZ fl3 fun h4 fl4 up4 => ?_)
          have J4 : Inv X pins σ' H' { s' with heap := h4 } := J1.landed nb fl4.1 ((up.trans up3).trans up4) os ag
          obtain ⟨oe4, vs4, he4, hz4, hd4⟩ := fl4.there
          refine store_ok (X := X.suite a ((a, oe4) :: (X.pn ++ pins))) (v := .ref a) (J4.suite he4 hd4 na nL nF) hN hi (.inl hln) rfl (fun s5 S5 => ?_) (.inr hln)
          refine wpAny_mono ((hsu a oe4 cls d (X.pn ++ pins) hz4 ⟨_, hd4⟩).run [] s5 _ H' _ S5 (yes rfl a na)) (fun f s6 hsp => ?_) fun _ _ z => False.elim z
          have gone : ∀ {σ6 : St} {H6 : Hp} {Q : Shared → Prop}, Inv (X.suite a ((a, oe4) :: (X.pn ++ pins))) [] σ6 H6 s6 → (∀ s7, Inv X pins (σ6.set i none) H6 s7 → Q s7) →
              wpAny (model X.prog X.w) X.A (do bindName X.env n .none; unbindBehindTheSuite X.env n pos') (fun _ s7 => Q s7) X.xe s6 := fun S6 hq => gone_ok (S6.unsuite ok) hN hi hln hq
          cases f with
          | ret u => obtain ⟨v6, σ6, H6, S6, r6, q6⟩ := hsp; exact gone S6 fun s7 J7 => ⟨_, _, _, J7, r6, q6⟩
          | next => obtain ⟨σ6, H6, S6, q6⟩ := hsp; exact gone S6 fun s7 J7 => ⟨_, _, J7, q6⟩
          | brk => obtain ⟨σ6, H6, S6, q6⟩ := hsp; exact gone S6 fun s7 J7 => ⟨_, _, J7, q6⟩
          | cont => obtain ⟨σ6, H6, S6, q6⟩ := hsp; exact gone S6 fun s7 J7 => ⟨_, _, J7, q6⟩
    exact go hh w
  · cases f with
    | ret u => obtain ⟨v, σ', H', J', r, q⟩ := hsp; exact ⟨v, σ', H', J'.ofTry ok, r, q⟩
    | next => obtain ⟨σ', H', J', q⟩ := hsp; exact wpAny_execs_nil ⟨σ', H', J'.ofTry ok, q⟩
    | brk => obtain ⟨σ', H', J', q⟩ := hsp; exact ⟨σ', H', J'.ofTry ok, q⟩
    | cont => obtain ⟨σ', H', J', q⟩ := hsp; exact ⟨σ', H', J'.ofTry ok, q⟩
end
/-- a clause over data -/
abbrev Cls2 := Value × Option Nat × (Addr → Ex → DTS)
def wipeZ (Z : DEnds) : Option Nat → DEnds
  | none => Z
  | some i => ⟨fun ρ => Z.nx (ρ.set i none), Z.rt, fun ρ => Z.bk (ρ.set i none), fun ρ => Z.ct (ρ.set i none), Z.ro⟩
def nameD (a : Addr) (ρ : DEnv) : Option Nat → DEnv
  | none => ρ
  | some i => ρ.set i (some (.dat (.opq a)))
/-- what the clauses wish of an exception -/
def handD (K : PySem.W.Frag) (w : WD) (Z : DEnds) : List Cls2 → WD
  | [], ρ, x => w ρ x
  | (c, i, ts) :: r, ρ, x => ∃ b, PySem.W.exmOne K x.cls c = some b ∧ (b = true → ∀ a, ts a x (wipeZ Z i) (nameD a ρ i)) ∧ (b = false → handD K w Z r ρ x)
def tSuite (F : Fx) (K : PySem.W.Frag) (ts : Addr → Ex → DTS) (a : Addr) (cls : Value) (d : Option Addr) : TS := fun D σ H => ∃ I ρ x, At F K I ρ σ H ∧ ExRep K I H cls d x ∧ ts a x (ends F K I D) ρ
abbrev SuiteD (F : Fx) (X : Cx) (sts : List Stmt) (ts : Addr → Ex → DTS) : Prop :=
  ∀ (B' I' : Hp) (a : Addr) (oe : Obj) (cls : Value) (d : Option Addr) (pn : List (Addr × Obj)) (x : Ex), Zc cls d oe → (∃ vs, oe.data = .fields vs) → ExRep X.K I' B' cls d x → DSts ⟨F.W, B', I'⟩ (X.suite a ((a, oe) :: pn)) sts (ts a x)
inductive HdsD (F : Fx) (X : Cx) : List ExceptHandler → List Cls2 → Prop
  | nil : HdsD F X [] []
  | one {x : Str} {c : Value} {ts : Addr → Ex → DTS} {b₀ : Stmt} {suite : List Stmt} {np pos' : Pos} {hds : List ExceptHandler} {l : List Cls2} (hc : Names X x c) (hsu : SuiteD F X (b₀ :: suite) ts) (r : HdsD F X hds l) :
      HdsD F X (.ExceptHandler (some (.Name x np)) none (b₀ :: suite) pos' :: hds) ((c, none, ts) :: l)
  | as {x n : Str} {c : Value} {ts : Addr → Ex → DTS} {b₀ : Stmt} {suite : List Stmt} {np pos' : Pos} {hds : List ExceptHandler} {l : List Cls2} (i : Nat) (hc : Names X x c) (hi : X.N[i]? = some n) (hln : X.env.kindOf n = some .local) (hsu : SuiteD F X (b₀ :: suite) ts) (r : HdsD F X hds l) :
      HdsD F X (.ExceptHandler (some (.Name x np)) (some n) (b₀ :: suite) pos' :: hds) ((c, some i, ts) :: l)
section
variable {F : Fx} {X : Cx} {K : PySem.W.Frag} {I H : Hp} {ρ : DEnv} {σ : St}
theorem ends.as {D : Ends} {i : Option Nat} : DEnds.le (wipeZ (ends F K I D) i) (ends F K I (endsAs D i)) := by
  cases i with
  | none => exact DEnds.le.rfl'
  | some i => exact ⟨fun ρ h I' σ H s A => h I' _ H s (A.wipe [i]), fun d h => h, fun ρ h I' σ H s A => h I' _ H s (A.wipe [i]), fun ρ h I' σ H s A => h I' _ H s (A.wipe [i]), fun d h => h⟩
theorem wipeZ.le {Z Z' : DEnds} {i : Option Nat} (l : DEnds.le Z Z') : DEnds.le (wipeZ Z i) (wipeZ Z' i) := by
  cases i with
  | none => exact l
  | some i => exact ⟨fun ρ h => l.nx _ h, l.rt, fun ρ h => l.bk _ h, fun ρ h => l.ct _ h, l.ro⟩
theorem DEnds.le.trans {a b c : DEnds} (l : DEnds.le a b) (m : DEnds.le b c) : DEnds.le a c :=
  ⟨fun _ h => m.nx _ (l.nx _ h), fun _ h => m.rt _ (l.rt _ h), fun _ h => m.bk _ (l.bk _ h), fun _ h => m.ct _ (l.ct _ h), fun _ h => m.ro _ (l.ro _ h)⟩
theorem at_name (A : At F K I ρ σ H) (a : Addr) (i : Option Nat) : At F K I (nameD a ρ i) (nameAs a σ i) H := by
  cases i with
  | none => exact A
  | some i => exact A.set (.opq a)
theorem suite_ok {sts : List Stmt} {ts : Addr → Ex → DTS} (h : SuiteD F X sts ts) : SuiteOk X sts (tSuite F X.K ts) := by
  refine fun a oe cls d pn hz hf => ⟨fun pins s σ H D J ⟨I, ρ, x, A, e, q⟩ => ?_⟩
  have S := h (baseOf F H) I a oe cls d pn x hz hf e
  exact S.run.run pins s σ H D J ⟨I, ρ, A.rebase, S.mono _ _ _ (ends.rebase A) q⟩
def clsR (F : Fx) (K : PySem.W.Frag) (l : List Cls2) : List Cls1 := l.map fun (c, i, ts) => (c, i, tSuite F K ts)
theorem hds_ok {hs : List ExceptHandler} {l : List Cls2} (h : HdsD F X hs l) : HdsS X hs (clsR F X.K l) := by
  induction h with
  | nil => exact .nil
  | one hc hsu r ih => exact .one hc (suite_ok hsu) ih
  | as i hc hi hln hsu r ih => exact .as hc hi hln (suite_ok hsu) ih
theorem hand_run {Wout : WX} {w : WD} {D : Ends} {Z : DEnds} {hs : List ExceptHandler} {l : List Cls2} (h : HdsD F X hs l) (le : LetsS F X.K w Wout) (A : At F X.K I ρ σ H) (lz : DEnds.le Z (ends F X.K I D)) {x : Ex} {cls : Value} {d : Option Addr} (er : ExRep X.K I H cls d x)
    (q : handD X.K w Z l ρ x) : wTry X.K Wout D (clsR F X.K l) cls d σ H := by
  have one : ∀ {c : Value} {i : Option Nat} {ts : Addr → Ex → DTS} {sts : List Stmt} {r : List Cls2}, SuiteD F X sts ts → (handD X.K w Z r ρ x → wTry X.K Wout D (clsR F X.K r) cls d σ H) → handD X.K w Z ((c, i, ts) :: r) ρ x → wTry X.K Wout D (clsR F X.K ((c, i, ts) :: r)) cls d σ H := by
    rintro c i ts sts r hsu ih ⟨b, hb, yes, no⟩
    refine ⟨b, er.1 ▸ hb, fun e a na => ⟨I, _, x, at_name A a i, er, ?_⟩, fun e => ih (no e)⟩
    have S := hsu I I a ⟨cls, d, .fields #[], #[]⟩ cls d [] x ⟨rfl, rfl⟩ ⟨_, rfl⟩ er
    exact S.mono _ _ _ (DEnds.le.trans (wipeZ.le lz) ends.as) (yes e a)
  induction h with
  | nil => exact le I ρ σ H A x q cls d I H A.st.stp er
  | one hc hsu r ih => exact one hsu ih q
  | as i hc hi hln hsu r ih => exact one hsu ih q
variable {Wout : WX} {w : WD} {body : List Stmt} {h₀ : ExceptHandler} {hs : List ExceptHandler} {l : List Cls2} {pos : Pos} {tb : WD → DTS}
/-- try: body / except C as n: .. / except ..; u: what the body's exceptions are wished -/
theorem ds_try (h1 : X.stack = X.env :: X.outer) (h2 : X.env.frame = some X.env.locals) (hN : X.N.Nodup) (tk : Takes X Wout) (le : LetsS F X.K w Wout)
    (hb : ∀ (B' I' : Hp) (W' : WX) (pn : List (Addr × Obj)) (xe : Value → Shared → Prop) (u : WD), Takes (X.tr pn xe) W' → LetsS ⟨F.W, B', I'⟩ X.K u W' → DSts ⟨F.W, B', I'⟩ (X.tr pn xe) body (tb u)) (hh : HdsD F X (h₀ :: hs) l) :
    DSt F X (.Try body (h₀ :: hs) [] [] pos) (fun Z ρ => ∃ (u : WD) (Z' : DEnds), DEnds.le Z' Z ∧ (∀ ρ' x, u ρ' x → handD X.K w Z' l ρ' x) ∧ tb u Z' ρ) := by
  refine ⟨fun Z Z' ρ lz ⟨u, Z1, l1, h, q⟩ => ⟨u, Z1, l1.trans lz, h, q⟩, ⟨fun pins s σ H D J ⟨I, ρ, A, u, Z, lz, h, q⟩ => ?_⟩⟩
  refine (ps_tryS (tb := fun W' D' σ' H' => W' = wTry X.K Wout D (clsR F X.K l) ∧ D' = D ∧ σ' = σ ∧ H' = H) h1 h2 hN tk (fun W' pn xe tk' => ⟨fun pins' s' σ' H' D' J' ⟨eW, eD, es, eH⟩ => ?_⟩) (hds_ok hh)).run pins s σ H D J ⟨rfl, rfl, rfl, rfl⟩
  subst eW eD es eH
  have S := hb (baseOf F H') I _ pn xe u tk' fun I2 ρ2 σ2 H2 A2 x hx cls d I3 H3 s3 er => ?_
  · refine S.run.run pins' s' σ' H' D' J' ⟨I, ρ, A.rebase, S.mono _ _ _ (lz.trans (ends.rebase A)) q⟩
  · have A3 := A.back (A2.step s3)
    have same : Same I I3 := Same.trans A2.stp.i s3.i
    exact hand_run hh le A3 (lz.trans (ends.le same)) er (h _ _ hx)
end
end Dk
namespace Dk
open PySem L2 PySem.Spec
section
variable {X : Cx} {a C D : Addr} {oe : Obj} {cls : Value} {d : Option Addr} {pn : List (Addr × Obj)} {F : Fx} {B' : Hp} {e : Expr} {te : DT} {x : Ex} {f : Str} {pos p q1 q2 : Pos}
theorem ex_at {K : PySem.W.Frag} {I0 I H : Hp} {W : Wd} (er : ExRep K I0 B' cls d x) (s : Same I0 I) (st : StI W I H) : ∀ y, d = some y → ∃ fs, H y = some (.xd fs) := fun y e => by
  rcases er.2 with ⟨_, h⟩ | ⟨dd, fs, h, hi, _⟩
  · rw [h] at e
    cases e
  · rw [h] at e
    cases e
    exact ⟨fs, st.sub _ _ (s _ _ hi)⟩
/-- e.f -/
theorem de_xf (hz : Zc cls d oe) (hf : ∃ vs, oe.data = .fields vs) (er : ExRep X.K F.I0 B' cls d x) (he : DE F (X.suite a ((a, oe) :: pn)) e te) (hb : attributeBase e f X.env (eval e X.env) = eval e X.env := by rfl) :
    DE F (X.suite a ((a, oe) :: pn)) (.Attribute e f pos) (fun ρ Q => ∃ C, x.cls = .ref C ∧ XfC X.K C ∧ PySem.W.findIn X.K (.ref C) f = some none ∧ te ρ fun z => z = .opq a ∧ ∃ y, x.flds.lookup f = some y ∧ Q y) := by
  refine ⟨fun ρ Q Q' k ⟨C, e1, t, n, h⟩ => ⟨C, e1, t, n, he.mono _ _ _ (fun z ⟨ez, y, l, q⟩ => ⟨ez, y, l, k _ q⟩) h⟩, ⟨fun pins s σ H Q J ⟨I, ρ, A, C, e1, t, n, h⟩ => ?_⟩⟩
  refine (pe_xf t n hz hf he.run hb).run pins s σ H Q J (rdE_next he.mono A h fun z v I1 H1 q1 s1 rv => ?_)
  obtain ⟨rfl, y, l, q1⟩ := q1
  cases rv
  rcases er.2 with ⟨h0, _⟩ | ⟨dd, fs, h0, hi, kk, r⟩
  · rw [h0] at l
    cases l
  have same := Same.trans A.stp.i s1.i
  obtain ⟨w, l1, rw1⟩ := lookup_rep kk (r.mono same) l
  exact ⟨rfl, er.1.trans e1, dd, fs, w, h0, s1.st.sub _ _ (same _ _ hi), l1, q1 _ _ _ s1 rw1⟩
/-- what its class says, so that isinstance is answered -/
structure XiC (K : PySem.W.Frag) (D : Addr) : Prop where
  hd : PySem.W.hasDictIn K D = true
  hg : PySem.W.findIn K (.ref D) "__getattribute__" = some (some (.builtin "BaseException.__getattribute__"))
  hk : PySem.W.findIn K (.ref D) "__getattr__" = some none
  hs : PySem.W.subIn K (.ref D) (.type "BaseException") = some true
  ha : PySem.W.findIn K (.ref D) "__class__" = some (some (.builtin "object.__class__"))
  hn : PySem.W.specialIn K (.builtin "object.__class__") "__get__" = some (some (.builtin "getset_descriptor.__get__"))
  ht : PySem.W.takesIn K (.builtin "object.__class__") = some true
  hm : PySem.W.mroIn K D (.type "object") = some true
theorem XiC.xf {K : PySem.W.Frag} {D : Addr} (T : XiC K D) : XfC K D := ⟨T.hg, T.hk, T.hs, T.hd⟩
/-- isinstance of it -/
def rIsX (K : PySem.W.Frag) (D a : Addr) (d : Option Addr) : List V → Hp → VK → Prop := fun xs H Q => ∃ (c : V) (cv : Value) (b : Bool), xs = [.ref a, c] ∧ ClsV c cv ∧ PySem.W.kitOne K (.ref D) cv = some b ∧ (∀ y, d = some y → ∃ fs, H y = some (.xd fs)) ∧ Q (.bl b) H
def rIsXT (K : PySem.W.Frag) (D a : Addr) (d : Option Addr) : List V → Hp → VK → Prop := fun xs H Q => ∃ (tp : Addr) (cs : List V) (us : List Value) (b : Bool), xs = [.ref a, .ref tp] ∧ H tp = some (.tup cs) ∧ Paired ClsV cs us ∧ PySem.W.kitAny K (.ref D) us = some b ∧ (∀ y, d = some y → ∃ fs, H y = some (.xd fs)) ∧ Q (.bl b) H
theorem x_inst {pins : List (Addr × Obj)} {σ : St} {H : Hp} {s : Shared} (hz : Zc (.ref D) d oe) (hf : ∃ vs, oe.data = .fields vs) (J : Inv (X.suite a ((a, oe) :: pn)) pins σ H s) (hd : ∀ y, d = some y → ∃ fs, H y = some (.xd fs)) : ∃ od, PySem.W.InstAt s.heap a oe D od := by
  obtain ⟨ha, _⟩ := J.pin (a, oe) (List.mem_append.mpr (.inl List.mem_cons_self))
  obtain ⟨vs, hv⟩ := hf
  have nc : PySem.W.notCls oe = true := by unfold PySem.W.notCls; rw [hv] <;> rfl
  cases hdd : d with
  | none => exact ⟨none, ha, hz.1, nc, by rw [hz.2, hdd]; trivial⟩
  | some y =>
    obtain ⟨fs, hy⟩ := hd y hdd
    obtain ⟨mA, hns, _⟩ := (show ObjOk X.prog X.w H s.heap y (.xd fs) from J.hok y _ hy)
    obtain ⟨od, ho, _⟩ := lookIn_ns hns
    exact ⟨some od, ha, hz.1, nc, by rw [hz.2, hdd]; exact ho⟩
theorem x_kit {K : PySem.W.Frag} (T : XiC K D) (od : Option Obj) : PySem.W.KitX K (.ref a) (.ref D) (fun h => PySem.W.InstAt h a oe D od) := by
  obtain ⟨cd, hc, _⟩ := PySem.W.any_some T.hd
  exact PySem.W.kitx_exc (by rw [hc]; rfl) T.hg T.hk T.hs T.ha T.hn T.ht T.hm
theorem call_isX (T : XiC X.K D) (hz : Zc (.ref D) d oe) (hf : ∃ vs, oe.data = .fields vs) : CallR (X.suite a ((a, oe) :: pn)) (.builtin "isinstance") (rIsX X.K D a d) := by
  rintro pins s σ H xs us Q J r ⟨c, cv, b, rfl, k, e, hd, q⟩
  obtain ⟨u1, u2, rfl, r1, r2⟩ := vals2 r
  cases (show u1 = Value.ref a from r1)
  cases k.eq r2
  obtain ⟨od, i⟩ := x_inst hz hf J hd
  exact PySem.W.kia_one (x_kit T od) J.kIn i e (fun z => nomatch z) fun tk => ⟨.bl b, H, J.tok tk, rfl, q⟩
theorem call_isXT (T : XiC X.K D) (hz : Zc (.ref D) d oe) (hf : ∃ vs, oe.data = .fields vs) : CallR (X.suite a ((a, oe) :: pn)) (.builtin "isinstance") (rIsXT X.K D a d) := by
  rintro pins s σ H xs us Q J r ⟨tp, cs, ws, b, rfl, hT, k, e, hd, q⟩
  obtain ⟨u1, u2, rfl, r1, r2⟩ := vals2 r
  cases (show u1 = Value.ref a from r1)
  cases (show u2 = Value.ref tp from r2)
  obtain ⟨od, i⟩ := x_inst hz hf J hd
  obtain ⟨_, its, rv, o, h1, h2, n, h3⟩ := (show ObjOk X.prog X.w H s.heap tp (.tup cs) from J.hok tp _ hT)
  cases ClsV.all k rv
  obtain ⟨oc, od', dt, sl⟩ := o
  simp only at h2 h3
  subst h2 h3
  exact PySem.W.kia_tup (x_kit T od) J.kIn i h1 e (fun z => nomatch z) fun tk => ⟨.bl b, H, J.tok tk, rfl, q⟩
/-- names of classes -/
theorem cn_b {X : Cx} {y : Str} {n : String} {pos : Pos} (hm : X.mg y = none) (hv : bootBuiltins y = some (.type n) := by decide +kernel) (hg : Gl X y := by rfl) (hn : y ≠ "__name__" := by decide) (hd : (y == ("__debug__" : Str)) = false := by decide) : PE X (.Name y pos) (tC (.ty n)) := pe_bltn hg hm hv rfl hn hd
theorem cn_o {X : Cx} {y : Str} {C : Addr} {pos : Pos} (hm : X.mg y = some (.ref C)) (hg : Gl X y := by rfl) (hd : (y == ("__debug__" : Str)) = false := by decide) : PE X (.Name y pos) (tC (.ref C)) := pe_glob hg hm rfl hd
structure PCl (X : Cx) (es : List Expr) (us : List Value) : Prop where
  ex : ∃ cs, Paired ClsV cs us ∧ cs.length = us.length ∧ PA X es (fun _ H Q => Q cs H)
theorem pcl_nil {X : Cx} : PCl X [] [] := ⟨[], .nil, rfl, pa_nil.imp fun σ H Q q => q⟩
theorem pcl_cons {X : Cx} {c : V} {u : Value} {us : List Value} {e : Expr} {es : List Expr} (he : PE X e (tC c)) (k : ClsV c u) (h : PCl X es us) (hs : starEach (e :: es) X.env = (false, eval e X.env) :: starEach es X.env := by rfl) : PCl X (e :: es) (u :: us) := by
  obtain ⟨cs, h1, h2, h3⟩ := h.ex
  exact ⟨c :: cs, .cons k h1, by simp [h2], (pa_cons he h3 hs).imp fun σ H Q q => q⟩
/-- isinstance(e, C) -/
theorem de_isX {c : V} {u : Value} {ce : Expr} (hz : Zc cls d oe) (hf : ∃ vs, oe.data = .fields vs) (er : ExRep X.K F.I0 B' cls d x) (hm : X.mg "isinstance" = none) (he : DE F (X.suite a ((a, oe) :: pn)) e te) (hc : PE (X.suite a ((a, oe) :: pn)) ce (tC c)) (k : ClsV c u) (hg : Gl X "isinstance" := by rfl)
    (h1 : starEach [e, ce] X.env = (false, eval e X.env) :: starEach [ce] X.env := by rfl) (h2 : starEach [ce] X.env = (false, eval ce X.env) :: starEach [] X.env := by rfl) (hpl : (backTo pos (starEach [ce] X.env)).any (·.1) = false := by rfl) :
    DE F (X.suite a ((a, oe) :: pn)) (.Call (.Name "isinstance" q1) [e, ce] [] pos) (fun ρ Q => ∃ D b, x.cls = .ref D ∧ XiC X.K D ∧ PySem.W.kitOne X.K (.ref D) u = some b ∧ te ρ fun z => z = .opq a ∧ Q (.bl b)) := by
  refine ⟨fun ρ Q Q' k ⟨D, b, e1, t, ki, h⟩ => ⟨D, b, e1, t, ki, he.mono _ _ _ (fun z ⟨ez, q⟩ => ⟨ez, k _ q⟩) h⟩, ⟨fun pins s σ H Q J ⟨I, ρ, A, D, b, e1, t, ki, h⟩ => ?_⟩⟩
  have hz' : Zc (.ref D) d oe := by rw [← e1, ← er.1]; exact hz
  refine (pe_callB (X := X.suite a ((a, oe) :: pn)) (call_isX t hz' hf) hg hm (by decide +kernel) (pa_cons he.run (pa_cons hc pa_nil h2) h1) (by decide) (by decide) h1 hpl).run pins s σ H Q J ?_
  refine rdE_next he.mono A h fun z v I1 H1 q1 s1 rv => ?_
  obtain ⟨rfl, q1⟩ := q1
  cases rv
  exact ⟨c, u, b, rfl, k, ki, ex_at er (Same.trans A.stp.i s1.i) s1.st, q1 _ _ _ s1 (.bl b)⟩
theorem de_isXT {us : List Value} {ces : List Expr} {kt : Nat} {pt : Pos} (hz : Zc cls d oe) (hf : ∃ vs, oe.data = .fields vs) (er : ExRep X.K F.I0 B' cls d x) (hm : X.mg "isinstance" = none) (he : DE F (X.suite a ((a, oe) :: pn)) e te) (hc : PCl (X.suite a ((a, oe) :: pn)) ces us) (hl : us.length ≤ 100 := by simp) (hg : Gl X "isinstance" := by rfl)
    (h1 : starEach [e, .Tuple ces kt pt] X.env = (false, eval e X.env) :: starEach [.Tuple ces kt pt] X.env := by rfl) (h2 : starEach [Expr.Tuple ces kt pt] X.env = (false, eval (.Tuple ces kt pt) X.env) :: starEach [] X.env := by rfl) (hpl : (backTo pos (starEach [Expr.Tuple ces kt pt] X.env)).any (·.1) = false := by rfl) :
    DE F (X.suite a ((a, oe) :: pn)) (.Call (.Name "isinstance" q1) [e, .Tuple ces kt pt] [] pos) (fun ρ Q => ∃ D b, x.cls = .ref D ∧ XiC X.K D ∧ PySem.W.kitAny X.K (.ref D) us = some b ∧ te ρ fun z => z = .opq a ∧ Q (.bl b)) := by
  obtain ⟨cs, c1, c2, c3⟩ := hc.ex
  refine ⟨fun ρ Q Q' k ⟨D, b, e1, t, ki, h⟩ => ⟨D, b, e1, t, ki, he.mono _ _ _ (fun z ⟨ez, q⟩ => ⟨ez, k _ q⟩) h⟩, ⟨fun pins s σ H Q J ⟨I, ρ, A, D, b, e1, t, ki, h⟩ => ?_⟩⟩
  have hz' : Zc (.ref D) d oe := by rw [← e1, ← er.1]; exact hz
  refine (pe_callB (X := X.suite a ((a, oe) :: pn)) (call_isXT t hz' hf) hg hm (by decide +kernel) (pa_cons he.run (pa_cons (pe_tup c3) pa_nil h2) h1) (by decide) (by decide) h1 hpl).run pins s σ H Q J ?_
  refine rdE_next he.mono A h fun z v I1 H1 q1 s1 rv => ?_
  obtain ⟨rfl, q1⟩ := q1
  cases rv
  refine ⟨by rw [c2, sizeLine_eq]; omega, fun tp hp => ?_⟩
  have l := s1.st.laid hp (.tup cs)
  exact ⟨tp, cs, us, b, rfl, upd_same, c1, ki, ex_at er (Same.trans (Same.trans A.stp.i s1.i) l.i) l.st, q1 _ _ _ (s1.trans l) (.bl b)⟩
end
end Dk
namespace Dk
open PySem L2 PySem.Spec
open PyProof.Rows (envOfC)
theorem takes_def {P : Program} {w : World} {K : PySem.W.Frag} {mg : Str → Option Value} {base : Heap} {N : List Str} {qual : Str} {scope : Scope} {f : Addr} {cd : Value} {A : Around} {outer : List Env} {s : Shared} {H : Hp} {E : XK} :
    Takes (cxOf (L2.CX P w) P w K mg base N qual scope f cd A outer s H E) (fun cls d _ H' => E cls d H') := takes_of rfl rfl rfl rfl
theorem letsS_none {F : Fx} {K : PySem.W.Frag} {W : WX} : LetsS F K (fun _ _ => False) W := fun _ _ _ _ _ _ h => h.elim
/-- an own class of exceptions whose __init__ stores one field -/
structure CalE (P : Program) (w : World) (K : PySem.W.Frag) (mg : Str → Option Value) (base : Heap) (k : Nat) (x : Str) (C : Addr) (f : Str) : Prop where
  ex : ∃ nB newId iB initId tl fI fd ps, XB nB newId iB initId tl ∧ OxC K newId tl C ∧ PySem.W.findIn K (.ref C) "__init__" = some (some (.ref fI)) ∧ PySem.W.typeIn K (.ref fI) = some (.type "function") ∧ GnOk P w K mg base CX0 k fI fd ps (spX C f) ∧ Binds K fd ps [] ∧ mg x = some (.ref C)
/-- .. without an __init__ of its own, made with a text -/
structure CalN (K : PySem.W.Frag) (mg : Str → Option Value) (x : Str) (C : Addr) : Prop where
  ex : ∃ B newId initId bmB, ExcBaseFacts B newId initId bmB ∧ PySem.W.excIn K C bmB newId = true ∧ mg x = some (.ref C) ∧ PySem.W.keepIn K (.ref C) = true ∧ PySem.W.subIn K (.ref C) (.type "BaseException") = some true ∧ PySem.W.typeIn K (.ref C) = some (.type "type")
section
variable {F : Fx} {X : Cx} {e : Expr} {te : DT} {k : Nat} {x f y : Str} {C : Addr} {p p2 pos : Pos} {j : Nat}
theorem dmk_e (c : CalE X.prog X.w X.K X.mg X.base k x C f) (hr : Rm (k + 1) X.A) (he : DE F X e te) (hg : Gl X x := by rfl) (hdb : (x == ("__debug__" : Str)) = false := by decide) (hs : starEach [e] X.env = (false, eval e X.env) :: starEach [] X.env := by rfl) :
    DMk F X (.Call (.Name x p) [e] [] pos) (fun ρ Q => te ρ fun d => Q ⟨.ref C, [(f, d)]⟩) := by
  obtain ⟨nB, newId, iB, initId, tl, fI, fd, ps, B, T, iC, tI, G, hb, hm⟩ := c.ex
  exact dmk_x B T iC tI G hr hb pass0 hm he hg hdb hs
theorem dmk_n (c : CalN X.K X.mg x C) (hg : Gl X x := by rfl) (hdb : (x == ("__debug__" : Str)) = false := by decide) : DMk F X (.Call (.Name x p) [.Constant (.str y) j p2] [] pos) (fun _ Q => Q ⟨.ref C, []⟩) := by
  obtain ⟨B, newId, initId, bmB, G, q, hm, kC, sb, ty⟩ := c.ex
  exact dmk_own G q hm kC (raises_own sb ty) hg hdb
end
theorem hh_VE : PySem.W.handedIn (.builtin "ValueError.__init__") = true := by decide +kernel
section
variable {P : Program} {w : World} {K : PySem.W.Frag} {mg : Str → Option Value} {base : Heap} {k : Nat}
/-- __init__(self, p): B.__init__(self, 'm'); self.f = p -/
theorem run_xinit {X : Cx} {a C : Addr} {f b p y : Str} {v : V} {H : Hp} {Q : VK} {nB newId iB initId : String} {tl : List Value} {p1 p2 p3 p4 p5 p6 p7 p8 p9 p0 : Pos} {j : Nat} (B : XB nB newId iB initId tl) (T : OxC X.K newId tl C) (hno : PySem.W.findIn X.K (.ref C) f = some none)
    (hcall : ∀ ta, PA X [.Name "self" p3, .Constant (.str y) j p4] ta → PE X (.Call (.Attribute (.Name b p1) "__init__" p2) [.Name "self" p3, .Constant (.str y) j p4] [] p5) (tXi X.K newId tl ta)) (hN : X.N = [Str.ofString "self", p])
    (hv0 : Vis X.env.scope "self") (hv1 : Vis X.env.scope p) (h1 : (p == ("__debug__" : Str)) = false) (h2 : (p == ("__classdict__" : Str)) = false)
    (sw1 : swapsWith (.Call (.Attribute (.Name b p1) "__init__" p2) [.Name "self" p3, .Constant (.str y) j p4] [] p5) none p6.line X.env = pure false)
    (sw2 : swapsWith (.Name p p9) (some (.Attribute (.Name "self" p7) f p8)) p0.line X.env = pure false)
    (hs : starEach [.Name "self" p3, .Constant (.str y) j p4] X.env = (false, eval (.Name "self" p3) X.env) :: starEach [.Constant (.str y) j p4] X.env)
    (hs2 : starEach [.Constant (.str y) j p4] X.env = (false, eval (.Constant (.str y) j p4) X.env) :: starEach [] X.env)
    (ha : H a = some (exo a C none)) (q : ∀ d, H d = none → d ≠ a → Q .non (upd (upd H d (exd d [(f, v)])) a (exo a C (some d)))) :
    ∃ t, PSs X [.Expr (.Call (.Attribute (.Name b p1) "__init__" p2) [.Name "self" p3, .Constant (.str y) j p4] [] p5) p6, .Assign [.Attribute (.Name "self" p7) f p8] (.Name p p9) p0] t ∧
      t { nx := fun _ H' => Q .non H', rt := Q } (L2.start [Str.ofString "self", p] [.ref a, v]) H := by
  have s0 : X.N[0]? = some (Str.ofString "self") := by rw [hN]; rfl
  have s1 : X.N[1]? = some p := by rw [hN]; rfl
  refine ⟨_, pss_cons (ps_expr (hcall _ (pa_cons (pv 0 s0 hv0 (by decide) (by decide)) (pa_cons pe_str pa_nil hs2) hs)) sw1) (pss_one (ps_xs B (pv 0 s0 hv0 (by decide) (by decide)) (pv 1 s1 hv1 h1 h2) sw2)), ?_⟩
  refine ⟨_, rfl, ⟨a, C, _, rfl, by simp, T, ha, ?_⟩⟩
  exact ⟨_, rfl, _, rfl, a, C, rfl, T, hno, ha, q⟩
end
end Dk
namespace Dk
open PySem L2 PySem.Spec
section
variable {F : Fx} {X : Cx} {K : PySem.W.Frag} {I H I' H' I2 H2 : Hp} {ρ : DEnv} {σ : St} {e i k v o : Expr} {te ti tk tv to : DT} {x : Str} {p1 pos pos' : Pos} {W : Wd}
theorem de_dict0 : DE F X (.Dict [] [] pos) (fun _ Q => Q (.dic [])) :=
  ⟨fun ρ Q Q' k q => k _ q, pe_dnewK.imp fun σ H Q ⟨I, ρ, A, q⟩ p hp => q _ _ _ (A.st.laid hp _) (.dic upd_same rfl .nil)⟩
/-- o.upper() -/
theorem de_upper (ho : DE F X o to) (hb : attributeBase o "upper" X.env (eval o X.env) = eval o X.env := by rfl) (hl : (p1.endLine == pos.line) = true := by rfl) : DE F X (.Call (.Attribute o "upper" p1) [] [] pos) (fun ρ Q => to ρ fun d => ∃ z, d = .str z ∧ z.length ≤ 5592405 ∧ Q (.str (Txt.upper z))) := by
  refine ⟨fun ρ Q Q' k q => ho.mono _ _ _ (fun d ⟨z, e, l, q⟩ => ⟨z, e, l, k _ q⟩) q, (show PE X _ (fun σ H Q => rdE F X.K to σ H fun x H1 => ∃ z, x = .str z ∧ z.length ≤ 5592405 ∧ Q (.str (Txt.upper z)) H1) from ⟨fun pins s σ H Q J h => ?_⟩).imp fun σ H Q ⟨I, ρ, A, q⟩ => rdE_next ho.mono A q fun d v I1 H1 q1 s rv => ?_⟩
  · refine J1.ev_upper hb hl (thn (ho.run.run pins s σ H _ J h) fun u s1 ⟨x, H1, J1, r1, z, ex, hz, q⟩ => ?_)
    subst ex
    obtain ⟨t, rfl⟩ := r1
    exact ⟨z, t, rfl, hz, fun t' k => ⟨.str (Txt.upper z), H1, J1.tok k, ⟨t', rfl⟩, q⟩⟩
  · obtain ⟨z, rfl, hz, q⟩ := q1
    cases rv
    exact ⟨z, rfl, hz, q _ _ _ s (.str _)⟩
end
structure CalMK (P : Program) (w : World) (K : PySem.W.Frag) (mg : Str → Option Value) (base : Heap) (CX : CXT) (W : Wd) (k : Nat) (C : Addr) (m : Str) (ps ks : List Str) (g : {α : Type} → List α → List α → List α) (S : DSp) : Prop where
  ex : ∃ f fd, Cls K C ∧ Meth K C m f ∧ GnOk P w K mg base CX k f fd ps (spD W K S) ∧ KBn K fd ps 1 ks (fun us ws => g us ws) (fun vs zs => g vs zs)
  rel : ∀ {K : PySem.W.Frag} {I : Hp} {us vs : List V} {ds es : List D}, Reps K I us ds → Reps K I vs es → Reps K I (g us vs) (g ds es)
end Dk
namespace KB
open PySem L2 Dk
abbrev Bough := Str × List Str
abbrev Kind := Str × List Bough
def boughD (b : Bough) : D := .tup [.str b.1, .tup (b.2.map D.str)]
def kindD (k : Kind) : D := .tup [.str k.1, .tup (k.2.map boughD)]
def kindsD (ks : List Kind) : D := .tup (ks.map kindD)
def numS : Str := "num"
def signOk (c : Nat) : Bool := decide (97 ≤ c) && decide (c ≤ 122)
def nameOk (x : Str) : Bool := decide (1 ≤ x.length) && (decide (x.length ≤ 8) && (!decide (x = numS) && x.cps.toList.all signOk))
theorem nameOk_split {x : Str} (h : nameOk x = true) : 1 ≤ x.length ∧ x.length ≤ 8 ∧ x ≠ numS ∧ ∀ c ∈ x.cps.toList, 97 ≤ c ∧ c ≤ 122 := by
  unfold nameOk at h
  simp only [Bool.and_eq_true, decide_eq_true_eq, Bool.not_eq_true', decide_eq_false_iff_not, List.all_eq_true] at h
  obtain ⟨a, b, c, d⟩ := h
  refine ⟨a, b, c, fun x hx => ?_⟩
  have := d x hx
  unfold signOk at this
  simpa using this
def kNames (ks : List Kind) : List Str := ks.map (·.1)
def bNames (ks : List Kind) : List Str := ks.flatMap fun k => k.2.map (·.1)
def fNames (ks : List Kind) : List Str := ks.flatMap fun k => k.2.flatMap fun b => b.2
/-- what the fields of a bough weigh -/
def wsum (s : Str → Nat) (fs : List Str) : Nat := ((fs.filter fun f => !decide (f = numS)).map s).sum
structure Good (ks : List Kind) : Prop where
  ne : ks ≠ []
  kn : ∀ k ∈ ks, nameOk k.1 = true
  kb : ∀ k ∈ ks, k.2 ≠ []
  bn : ∀ k ∈ ks, ∀ b ∈ k.2, nameOk b.1 = true
  nd : (kNames ks).Nodup
  bd : (bNames ks).Nodup
  fl : ∀ k ∈ ks, ∀ b ∈ k.2, ∀ f ∈ b.2, f = numS ∨ f ∈ kNames ks
  wf : ∃ r s : Str → Nat, ∀ k ∈ ks, r k.1 < ks.length ∧ s k.1 ≤ 29 ∧ ∃ b ∈ k.2, (∀ f ∈ b.2, f = numS ∨ (f ∈ kNames ks ∧ r f < r k.1)) ∧ 1 + wsum s b.2 ≤ s k.1
  s1 : ks.length ≤ 6
  s2 : ∀ k ∈ ks, k.2.length ≤ 8
  s3 : ∀ k ∈ ks, ∀ b ∈ k.2, b.2.length ≤ 8
theorem strOk_name {x : Str} (h : nameOk x = true) : PyData.strOk x = true := by
  unfold PyData.strOk
  rw [← Array.all_toList, List.all_eq_true]
  intro c hc
  have := (nameOk_split h).2.2.2 c hc
  simp
  omega
theorem okN_name {x : Str} (h : nameOk x = true) : OkN 0 (.str x) := okN_str (strOk_name h)
theorem okN_num : OkN 0 (.str numS) := okN_str (by decide +kernel)
theorem Good.field {ks : List Kind} (g : Good ks) {k : Kind} (hk : k ∈ ks) {b : Bough} (hb : b ∈ k.2) {f : Str} (hf : f ∈ b.2) : OkN 0 (.str f) := by
  rcases g.fl k hk b hb f hf with rfl | h
  · exact okN_num
  · obtain ⟨k', h1, rfl⟩ := List.mem_map.mp h
    exact okN_name (g.kn k' h1)
theorem Good.okBough {ks : List Kind} (g : Good ks) {k : Kind} (hk : k ∈ ks) {b : Bough} (hb : b ∈ k.2) : OkN 2 (boughD b) := okN_tup (k := 1) fun x hx => by
  simp only [List.mem_cons, List.not_mem_nil, or_false] at hx
  rcases hx with rfl | rfl
  · exact (okN_name (g.bn k hk b hb)).mono (by decide)
  · refine okN_tup (k := 0) fun y hy => ?_
    obtain ⟨f, hf, rfl⟩ := List.mem_map.mp hy
    exact g.field hk hb hf
theorem Good.okKind {ks : List Kind} (g : Good ks) {k : Kind} (hk : k ∈ ks) : OkN 4 (kindD k) := okN_tup (k := 3) fun x hx => by
  simp only [List.mem_cons, List.not_mem_nil, or_false] at hx
  rcases hx with rfl | rfl
  · exact (okN_name (g.kn k hk)).mono (by decide)
  · refine okN_tup (k := 2) fun y hy => ?_
    obtain ⟨b, hb, rfl⟩ := List.mem_map.mp hy
    exact g.okBough hk hb
theorem Good.ok {ks : List Kind} (g : Good ks) : OkN 5 (kindsD ks) := okN_tup (k := 4) fun x hx => by
  obtain ⟨k, hk, rfl⟩ := List.mem_map.mp hx
  exact g.okKind hk
theorem deq_strs (x y : Str) : deq (.str x) (.str y) = decide (x = y) := by simp [deq, toPy, PyData.eqv]; rfl
theorem in_abc {c : Nat} : subS ⟨#[c]⟩ "abcdefghijklmnopqrstuvwxyz" = signOk c := by
  rw [subS_one]
  have e : ("abcdefghijklmnopqrstuvwxyz" : Str).cps.toList = (List.range 26).map (97 + ·) := by decide +kernel
  rw [e]
  unfold signOk
  by_cases h : 97 ≤ c ∧ c ≤ 122
  · have : c ∈ (List.range 26).map (97 + ·) := List.mem_map.mpr ⟨c - 97, List.mem_range.mpr (by omega), by omega⟩
    simp [this, h.1, h.2]
  · have : c ∉ (List.range 26).map (97 + ·) := by
      intro hc
      obtain ⟨d, h1, h2⟩ := List.mem_map.mp hc
      have := List.mem_range.mp h1
      omega
    simp only [this, decide_false]
    symm
    rw [Bool.and_eq_false_iff]
    by_cases h1 : 97 ≤ c
    · right; simp; omega
    · left; simp; omega
theorem in_names {xs : List Str} {f : Str} (ok : ∀ x ∈ xs, OkN 0 (.str x)) (hf : OkN 0 (.str f)) {Q : D → Prop} (q : Q (.bl (decide (f ∈ xs)))) : inD false (.str f) (.lst (xs.map D.str)) Q := by
  refine ⟨hf.okE (by decide), (okN_lst (k := 0) fun x hx => ?_).okE (by decide), ?_⟩
  · obtain ⟨y, hy, rfl⟩ := List.mem_map.mp hx
    exact ok y hy
  · have e : ((xs.map D.str).any fun z => deq z (.str f)) = decide (f ∈ xs) := by
      rw [List.any_map, List.any_eq]
      congr 1
      simp only [Function.comp_apply, deq_strs, decide_eq_true_eq, eq_iff_iff]
      exact ⟨fun ⟨x, h1, h2⟩ => h2 ▸ h1, fun h => ⟨f, h, rfl⟩⟩
    rw [e]
    exact q
/-- the names of a dict -/
def hasN (kvs : List (Key × D)) (f : Str) : Bool := (lookD kvs (.inr f)).isSome
theorem hasN_put (kvs : List (Key × D)) (n : Str) (d : D) (f : Str) : hasN (putD kvs (.inr n) d) f = (hasN kvs f || decide (f = n)) := by
  have main : ∀ kvs : List (Key × D), (lookD (putD kvs (.inr n) d) (.inr f)).isSome = ((lookD kvs (.inr f)).isSome || decide (f = n)) := by
    intro kvs
    have any_iff : ∀ (l : List (Key × D)) (k : Key), (lookD l k).isSome = l.any fun kv => decide (kv.1 = k) := by
      intro l k
      unfold lookD
      rw [Option.isSome_map, Bool.eq_iff_iff, List.find?_isSome, List.any_eq_true]
    rw [any_iff, any_iff]
    unfold putD
    split
    · rename_i hc
      have e : ((kvs.map fun kv => if kv.1 = .inr n then (kv.1, d) else kv).any fun kv => decide (kv.1 = (.inr f : Key))) = kvs.any fun kv => decide (kv.1 = (.inr f : Key)) := by
        rw [List.any_map]
        congr 1
        funext kv
        simp only [Function.comp_apply]
        split <;> rfl
      rw [e]
      by_cases hf : f = n
      · subst hf; rw [hc]; simp
      · simp [hf]
    · rw [List.any_append]
      congr 1
      simp only [List.any_cons, List.any_nil, Bool.or_false]
      rw [decide_eq_decide]
      exact ⟨fun h => (Sum.inr.inj h).symm, fun h => by rw [h]⟩
  exact main kvs
end KB
namespace KB
open PySem L2 Dk
def tl (x : Str) : List Nat := x.cps.toList
theorem S_eq (x : Str) : SX.S (tl x) = x := SX.S_tl x
theorem map_S (ys : List Str) : (ys.map tl).map SX.S = ys := by
  rw [List.map_map]
  conv => rhs; rw [← List.map_id ys]
  exact List.map_congr_left fun y _ => S_eq y
/-- letters alone -/
def clean (x : Str) : Prop := x.length ≤ 8 ∧ ∀ c ∈ tl x, 97 ≤ c ∧ c ≤ 122
theorem clean_name {x : Str} (h : nameOk x = true) : clean x := ⟨(nameOk_split h).2.1, (nameOk_split h).2.2.2⟩
theorem clean_num : clean numS := by unfold clean; exact ⟨by decide +kernel, by decide +kernel⟩
theorem Good.cleanF {ks : List Kind} (g : Good ks) {k : Kind} (hk : k ∈ ks) {b : Bough} (hb : b ∈ k.2) : ∀ f ∈ b.1 :: b.2, clean f := fun f hf => by
  rcases List.mem_cons.mp hf with rfl | hf
  · exact clean_name (g.bn k hk b hb)
  · rcases g.fl k hk b hb f hf with rfl | h
    · exact clean_num
    · obtain ⟨k', h1, rfl⟩ := List.mem_map.mp h
      exact clean_name (g.kn k' h1)
theorem len_join {y : Str} {m : Nat} : ∀ {parts : List Str}, (∀ p ∈ parts, p.length ≤ m) → (Txt.join y parts).length ≤ parts.length * (m + y.length) := by
  intro parts h
  have e : (Txt.join y parts).length = (TL.joinL (tl y) (parts.map tl)).length := by
    have : Txt.join y parts = SX.S (TL.joinL (tl y) (parts.map tl)) := by rw [← SX.join_S, S_eq, map_S]
    rw [this, SX.S_len]
  rw [e]
  clear e
  induction parts with
  | nil => simp [TL.joinL]
  | cons p r ih =>
    have hp := h p (by simp)
    have ep : (tl p).length = p.length := by simp [tl, Str.length]
    have ey : (tl y).length = y.length := by simp [tl, Str.length]
    cases r with
    | nil =>
      show (tl p).length ≤ _
      rw [List.length_singleton]
      omega
    | cons q r =>
      have h2 := ih fun z hz => h z (List.mem_cons_of_mem _ hz)
      show (tl p ++ (tl y ++ TL.joinL (tl y) ((q :: r).map tl))).length ≤ _
      rw [List.length_append, List.length_append]
      rw [List.length_cons, Nat.succ_mul]
      omega
end KB
namespace KB
open PySem L2 Dk
/-- may be shown, in at most m signs -/
structure Sh (m : Nat) (d : D) : Prop where
  sh : (toPy d).showable = true
  ln : (shw d).length ≤ m
theorem shownAll_map : ∀ ds : List D, PyData.shownAll (toPys ds) = ds.map shw
  | [] => by simp [toPys, PyData.shownAll]
  | d :: ds => by simp [toPys, PyData.shownAll, shownAll_map ds, shw]
theorem showableAll_of : ∀ {ds : List D}, (∀ d ∈ ds, (toPy d).showable = true) → PyData.showableAll (toPys ds) = true
  | [], _ => by simp [toPys, PyData.showableAll]
  | d :: ds, h => by
    simp only [toPys, PyData.showableAll, Bool.and_eq_true]
    exact ⟨h d (by simp), showableAll_of fun x hx => h x (List.mem_cons_of_mem _ hx)⟩
theorem len_app (a b : Str) : (a ++ b).length = a.length + b.length := by
  show (a.cps ++ b.cps).size = _
  exact Array.size_append
theorem Sh.tup {m n : Nat} {ds : List D} (h : ∀ d ∈ ds, Sh m d) (hn : ds.length ≤ n) : Sh (n * (m + 2) + 3) (.tup ds) where
  sh := by
    simp only [toPy, PyData.showable]
    exact showableAll_of fun d hd => (h d hd).sh
  ln := by
    have e : shw (.tup ds) = (PyData.tuple (toPys ds)).shown := by simp [shw, toPy]
    rw [e, PyData.shown_tuple, shownAll_map, len_app, len_app]
    have h1 := len_join (y := ", ") (m := m) (parts := ds.map shw) fun p hp => by
      obtain ⟨d, hd, rfl⟩ := List.mem_map.mp hp
      exact (h d hd).ln
    rw [TL.join_eq, List.length_map] at h1
    have e2 : (", " : Str).length = 2 := rfl
    rw [e2] at h1
    have h2 : ds.length * (m + 2) ≤ n * (m + 2) := Nat.mul_le_mul_right _ hn
    have e1 : ("(" : Str).length = 1 := rfl
    rw [e1]
    have h3 : (((if (toPys ds).length == 1 then ",)" else ")" : String) : Str)).length ≤ 2 := by split <;> decide
    omega
theorem Sh.lst {m n : Nat} {ds : List D} (h : ∀ d ∈ ds, Sh m d) (hn : ds.length ≤ n) : Sh (n * (m + 2) + 3) (.lst ds) where
  sh := by
    simp only [toPy, PyData.showable]
    exact showableAll_of fun d hd => (h d hd).sh
  ln := by
    have e : shw (.lst ds) = (PyData.list (toPys ds)).shown := by simp [shw, toPy]
    rw [e, PyData.shown_list, shownAll_map, len_app, len_app]
    have h1 := len_join (y := ", ") (m := m) (parts := ds.map shw) fun p hp => by
      obtain ⟨d, hd, rfl⟩ := List.mem_map.mp hp
      exact (h d hd).ln
    rw [TL.join_eq, List.length_map] at h1
    have e2 : (", " : Str).length = 2 := rfl
    rw [e2] at h1
    have h2 : ds.length * (m + 2) ≤ n * (m + 2) := Nat.mul_le_mul_right _ hn
    have e1 : ("[" : Str).length = 1 := rfl
    have e3 : ("]" : Str).length = 1 := rfl
    rw [e1, e3]
    omega
theorem Sh.mono {m n : Nat} {d : D} (h : Sh m d) (l : m ≤ n) : Sh n d := ⟨h.sh, Nat.le_trans h.ln l⟩
theorem Sh.name {x : Str} (h : clean x) : Sh 82 (.str x) where
  sh := by simp [toPy, PyData.showable]
  ln := by
    have e : shw (.str x) = reprText x := by simp [shw, toPy, PyData.shown]
    rw [e]
    have := StrLaws.reprText_len x fun c hc => Nat.lt_of_le_of_lt (h.2 c hc).2 (by decide)
    have := h.1
    omega
theorem Good.sh {ks : List Kind} (g : Good ks) : Sh 130557 (kindsD ks) := by
  refine Sh.tup (m := 21757) (n := 6) (fun d hd => ?_) (by rw [List.length_map]; exact g.s1)
  obtain ⟨k, hk, rfl⟩ := List.mem_map.mp hd
  refine Sh.tup (m := 10875) (n := 2) (fun d hd => ?_) (by simp)
  simp only [List.mem_cons, List.not_mem_nil, or_false] at hd
  rcases hd with rfl | rfl
  · exact (Sh.name (clean_name (g.kn k hk))).mono (by decide)
  refine Sh.tup (m := 1357) (n := 8) (fun d hd => ?_) (by rw [List.length_map]; exact g.s2 k hk)
  obtain ⟨b, hb, rfl⟩ := List.mem_map.mp hd
  refine Sh.tup (m := 675) (n := 2) (fun d hd => ?_) (by simp)
  simp only [List.mem_cons, List.not_mem_nil, or_false] at hd
  rcases hd with rfl | rfl
  · exact (Sh.name (clean_name (g.bn k hk b hb))).mono (by decide)
  refine Sh.tup (m := 82) (n := 8) (fun d hd => ?_) (by rw [List.length_map]; exact g.s3 k hk b hb)
  obtain ⟨f, hf, rfl⟩ := List.mem_map.mp hd
  exact Sh.name (g.cleanF hk hb f (List.mem_cons_of_mem _ hf))
end KB
namespace Dk
open PySem L2 PySem.Spec
def scals (kvs : List (Key × D)) : Bool := kvs.all fun kv => scalD kv.2
def pyE0 : D → PyData
  | .dic kvs => .dict (kvs.map fun kv => (toPy (keyD kv.1), toPy kv.2))
  | d => toPy d
def pyE : D → PyData
  | .dic kvs => .dict (kvs.map fun kv => (toPy (keyD kv.1), toPy kv.2))
  | .tup xs => .tuple (xs.map pyE0)
  | d => toPy d
/-- a plain thing, a dict of plain ones, a tuple of such -/
inductive ShE : D → Prop
  | pl {d : D} : plainD d = true → (∀ xs, d ≠ .tup xs) → ShE d
  | dic {kvs : List (Key × D)} : scals kvs = true → ShE (.dic kvs)
  | two {xs : List D} : (∀ x ∈ xs, plainD x = true) → ShE (.tup xs)
  | tup {xs : List D} : (∀ x ∈ xs, scalD x = true ∨ ∃ kvs, x = .dic kvs ∧ scals kvs = true) → ShE (.tup xs)
section
variable {X : Cx} {pins : List (Addr × Obj)} {σ : St} {I H : Hp} {s : Shared}
theorem pyE0_pl {d : D} (h : plainD d = true) : pyE0 d = toPy d := by
  cases d <;> first | rfl | cases h
end
end Dk
namespace KB
open PySem L2 Dk
theorem ok_app {a b : Str} (h : PyData.strOk a = true) (h' : PyData.strOk b = true) : PyData.strOk (a ++ b) = true := by
  unfold PyData.strOk at h h' ⊢
  show (a.cps ++ b.cps).all _ = true
  rw [Array.all_append, h, h']
  rfl
theorem ok_lit (s : String) : PyData.strOk (Str.ofString s) = true := by
  unfold PyData.strOk
  rw [Str.ofString_eq_toList]
  rw [List.all_toArray, List.all_eq_true]
  intro c hc
  obtain ⟨x, _, rfl⟩ := List.mem_map.mp hc
  have hv : x.val.toNat < 0xd800 ∨ 0xdfff < x.val.toNat ∧ x.val.toNat < 0x110000 := x.valid
  have e : x.toNat = x.val.toNat := rfl
  simp only [decide_eq_true_eq]
  omega
end KB
namespace Dk
open PySem L2
/-- a method of the text called by its object and by names -/
theorem CalMK.of {P : Program} {w : World} {K : PySem.W.Frag} {mg : Str → Option Value} {base : Heap} {CX : CXT} {W : Wd} {k : Nat} {C : Addr} {x m qual : Str} {st : Stmt} {f : Addr} {fd : FuncData} {ps ks : List Str} {S : DSp} (cl : Cls K C) (me : Meth K C m f) (Fn : Fun K x qual st f fd) (G : GnOk P w K mg base CX k f fd ps (spD W K S))
    (h : ∀ (kV doc pm : Value) (an : Option Addr) (cdv ct : Value) (us ws : List Value), us.length = 1 → ws.length = ks.length → bindArgs (PySem.W.fnOf x qual (defArgs st) (defBody st) (defScope st) .none kV doc pm an cdv ct) ⟨us, ks.zip ws⟩ = pure (ps.zip (us ++ ws))) :
    CalMK P w K mg base CX W k C m ps ks (fun us ws => us ++ ws) S := by
  refine ⟨⟨f, fd, cl, me, G, ⟨fun s us ws _ l1 l2 => ?_, fun a b => a.append b⟩⟩, fun a b => a.append b⟩
  obtain ⟨oc, od, kV, doc, pm, an, cdv, ct, osl, rfl, lk, hcd⟩ := Fn.ex
  exact .of_eq (h kV doc pm an cdv ct us ws l1 l2)
end Dk
namespace KB
open PySem L2 Dk
def small (l : List Nat) : Prop := ∀ c ∈ l, c < 0x110000
theorem ok_small {x : Str} : PyData.strOk x = true ↔ small (tl x) := by
  unfold PyData.strOk small tl
  rw [← Array.all_toList, List.all_eq_true]
  simp only [decide_eq_true_eq]
theorem small_char (x : Char) : x.toNat < 0x110000 := by
  have hv : x.val.toNat < 0xd800 ∨ 0xdfff < x.val.toNat ∧ x.val.toNat < 0x110000 := x.valid
  have e : x.toNat = x.val.toNat := rfl
  omega
theorem small_reprChar {q c : Nat} (hc : c < 0x110000) : small (Builtin.Str.reprChar q c) := by
  have hx : ∀ w, small (List.replicate (w - ((Nat.toDigits 16 c).map Char.toNat).length) 48 ++ (Nat.toDigits 16 c).map Char.toNat) := fun w d hd => by
    rcases List.mem_append.mp hd with h | h
    · rw [(List.mem_replicate.mp h).2]; decide
    · obtain ⟨y, _, rfl⟩ := List.mem_map.mp h
      exact small_char y
  have two : ∀ a b : Nat, a < 0x110000 → b < 0x110000 → small [a, b] := fun a b ha hb d hd => by
    simp only [List.mem_cons, List.not_mem_nil, or_false] at hd
    rcases hd with rfl | rfl <;> assumption
  have cat : ∀ {l m : List Nat}, small l → small m → small (l ++ m) := fun hl hm d hd => (List.mem_append.mp hd).elim (hl d) (hm d)
  unfold Builtin.Str.reprChar
  dsimp only
  split
  · exact two _ _ (by decide) hc
  split
  · exact two _ _ (by decide) (by decide)
  split
  · exact two _ _ (by decide) (by decide)
  split
  · exact two _ _ (by decide) (by decide)
  split
  · intro d hd
    have : d = c := by simpa using hd
    omega
  split
  · exact cat (two _ _ (by decide) (by decide)) (hx 2)
  split
  · exact cat (two _ _ (by decide) (by decide)) (hx 4)
  · exact cat (two _ _ (by decide) (by decide)) (hx 8)
theorem small_fold {q : Nat} : ∀ (l : List Nat) (acc : Array Nat), small l → small acc.toList → small (l.foldl (fun out c => out ++ (Builtin.Str.reprChar q c).toArray) acc).toList
  | [], acc, _, h => h
  | c :: r, acc, hl, h => by
    rw [List.foldl_cons]
    refine small_fold r _ (fun d hd => hl d (List.mem_cons_of_mem _ hd)) fun d hd => ?_
    rw [Array.toList_append] at hd
    rcases List.mem_append.mp hd with z | z
    · exact h d z
    · exact small_reprChar (hl c (by simp)) d (by simpa using z)
theorem ok_reprText {x : Str} (h : PyData.strOk x = true) : PyData.strOk (reprText x) = true := by
  rw [ok_small] at h ⊢
  have hq : reprQuote x < 0x110000 := by
    unfold reprQuote
    split <;> decide
  unfold reprText tl
  intro c hc
  rw [Array.toList_push] at hc
  rcases List.mem_append.mp hc with z | z
  · rw [← Array.foldl_toList] at z
    exact small_fold _ _ h (fun d hd => by have : d = reprQuote x := by simpa using hd
                                           omega) c z
  · have : c = reprQuote x := by simpa using z
    omega
theorem ok_join {y : Str} (hy : PyData.strOk y = true) : ∀ {parts : List Str}, (∀ p ∈ parts, PyData.strOk p = true) → PyData.strOk (Str.join y parts) = true := by
  intro parts h
  rw [ok_small]
  show small (TL.tl (Str.join y parts))
  rw [TL.tl_join]
  induction parts with
  | nil => intro c hc; cases hc
  | cons p r ih =>
    have hp := ok_small.mp (h p (by simp))
    cases r with
    | nil => exact hp
    | cons q r =>
      have h2 := ih fun z hz => h z (List.mem_cons_of_mem _ hz)
      show small (TL.tl p ++ (TL.tl y ++ TL.joinL (TL.tl y) ((q :: r).map TL.tl)))
      intro c hc
      rcases List.mem_append.mp hc with z | z
      · exact hp c z
      rcases List.mem_append.mp z with z | z
      · exact ok_small.mp hy c z
      · exact h2 c z
/-- may be shown in at most m signs, k deep at most -/
structure Sn (m k : Nat) (p : PyData) : Prop where
  sh : p.showable = true
  ln : p.shown.length ≤ m
  ok : PyData.strOk p.shown = true
  dp : p.depth ≤ k
theorem Sn.mono {m k m' k' : Nat} {p : PyData} (h : Sn m k p) (a : m ≤ m') (b : k ≤ k') : Sn m' k' p := ⟨h.sh, Nat.le_trans h.ln a, h.ok, Nat.le_trans h.dp b⟩
theorem shownAll_eq : ∀ ps : List PyData, PyData.shownAll ps = ps.map PyData.shown
  | [] => by simp only [PyData.shownAll, List.map_nil]
  | p :: ps => by simp only [PyData.shownAll, List.map_cons, shownAll_eq ps]
theorem sn_all {m k : Nat} : ∀ {ps : List PyData}, (∀ p ∈ ps, Sn m k p) → PyData.showableAll ps = true ∧ PyData.depthAll ps ≤ k
  | [], _ => by simp [PyData.showableAll, PyData.depthAll]
  | p :: ps, h => by
    obtain ⟨a, b⟩ := sn_all fun x hx => h x (List.mem_cons_of_mem _ hx)
    have h1 := h p (by simp)
    simp only [PyData.showableAll, PyData.depthAll, h1.sh, a, Bool.and_self, true_and]
    exact Nat.max_le.mpr ⟨h1.dp, b⟩
theorem sn_join {m k n : Nat} {ps : List PyData} (h : ∀ p ∈ ps, Sn m k p) (hn : ps.length ≤ n) : (Str.join ", " (PyData.shownAll ps)).length ≤ n * (m + 2) ∧ PyData.strOk (Str.join ", " (PyData.shownAll ps)) = true := by
  rw [shownAll_eq]
  refine ⟨?_, ok_join (ok_lit ", ") fun p hp => ?_⟩
  · have h1 := len_join (y := ", ") (m := m) (parts := ps.map PyData.shown) fun p hp => by
      obtain ⟨d, hd, rfl⟩ := List.mem_map.mp hp
      exact (h d hd).ln
    rw [TL.join_eq, List.length_map] at h1
    have e2 : (", " : Str).length = 2 := rfl
    rw [e2] at h1
    exact Nat.le_trans h1 (Nat.mul_le_mul_right _ hn)
  · obtain ⟨d, hd, rfl⟩ := List.mem_map.mp hp
    exact (h d hd).ok
theorem Sn.tuple {m k n : Nat} {ps : List PyData} (h : ∀ p ∈ ps, Sn m k p) (hn : ps.length ≤ n) : Sn (n * (m + 2) + 3) (k + 1) (.tuple ps) := by
  obtain ⟨a, b⟩ := sn_all h
  obtain ⟨c, d⟩ := sn_join h hn
  refine ⟨by simp only [PyData.showable]; exact a, ?_, ?_, by simp only [PyData.depth]; omega⟩
  · rw [PyData.shown_tuple, len_app, len_app]
    have e1 : ("(" : Str).length = 1 := rfl
    have h3 : (((if ps.length == 1 then ",)" else ")" : String) : Str)).length ≤ 2 := by split <;> decide
    omega
  · rw [PyData.shown_tuple]
    exact ok_app (ok_app (ok_lit _) d) (ok_lit _)
theorem Sn.list {m k n : Nat} {ps : List PyData} (h : ∀ p ∈ ps, Sn m k p) (hn : ps.length ≤ n) : Sn (n * (m + 2) + 3) (k + 1) (.list ps) := by
  obtain ⟨a, b⟩ := sn_all h
  obtain ⟨c, d⟩ := sn_join h hn
  refine ⟨by simp only [PyData.showable]; exact a, ?_, ?_, by simp only [PyData.depth]; omega⟩
  · rw [PyData.shown_list, len_app, len_app]
    have e1 : ("[" : Str).length = 1 := rfl
    have e3 : ("]" : Str).length = 1 := rfl
    omega
  · rw [PyData.shown_list]
    exact ok_app (ok_app (ok_lit _) d) (ok_lit _)
theorem Sn.str {m : Nat} {x : Str} (hl : x.length ≤ m) (h : PyData.strOk x = true) : Sn (10 * m + 2) 0 (.str x) := by
  refine ⟨by simp [PyData.showable], ?_, ?_, by simp [PyData.depth]⟩
  · have e : (PyData.str x).shown = reprText x := by simp only [PyData.shown]
    rw [e]
    have := StrLaws.reprText_len x fun c hc => Nat.lt_of_lt_of_le (ok_small.mp h c hc) (by decide)
    omega
  · have e : (PyData.str x).shown = reprText x := by simp only [PyData.shown]
    rw [e]
    exact ok_reprText h
theorem strOk_clean {x : Str} (h : clean x) : PyData.strOk x = true := ok_small.mpr fun c hc => Nat.lt_of_le_of_lt (h.2 c hc).2 (by decide)
theorem Sn.name {x : Str} (h : clean x) : Sn 82 0 (.str x) := Sn.str h.1 (strOk_clean h)
/-- a thing that a book may be asked -/
structure Thing (d : D) : Prop where
  kn : known d = true
  sn : Sn 200000 8 (pyE0 d)
  sh : plainD d = true ∨ ∃ kvs, d = .dic kvs ∧ scals kvs = true
  tx : ∀ x, d = .str x → PyData.strOk x = true
theorem Thing.pl {m k : Nat} {d : D} (kn : known d = true) (pl : plainD d = true) (ns : ∀ x, d ≠ .str x) (h : Sn m k (toPy d)) (a : m ≤ 200000 := by decide) (b : k ≤ 8 := by decide) : Thing d := ⟨kn, by rw [pyE0_pl pl]; exact h.mono a b, .inl pl, fun x e => absurd e (ns x)⟩
theorem Thing.str {m : Nat} {x : Str} (hl : x.length ≤ m) (h : PyData.strOk x = true) (a : m ≤ 1000 := by decide) : Thing (.str x) :=
  ⟨rfl, by rw [pyE0_pl rfl, show toPy (.str x) = .str x from by simp [toPy]]; exact (Sn.str hl h).mono (by omega) (by decide), .inl rfl, fun y e => by cases e; exact h⟩
/-- ("kind", thing) may be shown -/
theorem Thing.two {d : D} (t : Thing d) {x : Str} (h : clean x) : ShE (.tup [.str x, d]) ∧ Sn 400007 9 (pyE (.tup [.str x, d])) := by
  refine ⟨?_, ?_⟩
  · rcases t.sh with pl | ⟨kvs, rfl, sc⟩
    · refine .two fun y hy => ?_
      simp only [List.mem_cons, List.not_mem_nil, or_false] at hy
      rcases hy with rfl | rfl
      · rfl
      · exact pl
    · refine .tup fun y hy => ?_
      simp only [List.mem_cons, List.not_mem_nil, or_false] at hy
      rcases hy with rfl | rfl
      · exact .inl rfl
      · exact .inr ⟨kvs, rfl, sc⟩
  · unfold pyE
    refine Sn.tuple (m := 200000) (n := 2) (k := 8) (fun p hp => ?_) (by simp)
    simp only [List.map_cons, List.map_nil, List.mem_cons, List.not_mem_nil, or_false] at hp
    rcases hp with rfl | rfl
    · have e : pyE0 (.str x) = .str x := by simp [pyE0, toPy]
      rw [e]
      exact (Sn.name h).mono (by decide) (by decide)
    · exact t.sn
end KB
namespace Dk
open PySem L2 PySem.Spec
mutual
def pyF : D → PyData
  | .dic kvs => .dict (pyFk kvs)
  | .tup xs => .tuple (pyFs xs)
  | .lst xs => .list (pyFs xs)
  | .bl b => .bool b
  | .int i => .int i
  | .str x => .str x
  | .non => .none
  | .obj _ _ => .none
  | .opq _ => .none
  | .ptp _ => .none
  | .dfz _ => .none
def pyFs : List D → List PyData
  | [] => []
  | d :: ds => pyF d :: pyFs ds
def pyFk : List (Key × D) → List (PyData × PyData)
  | [] => []
  | (k, d) :: ds => (toPy (keyD k), pyF d) :: pyFk ds
end
mutual
/-- nothing of an object in it -/
def shF : D → Bool
  | .dic kvs => shFk kvs
  | .tup xs => shFs xs
  | .lst xs => shFs xs
  | .bl _ => true
  | .int _ => true
  | .str _ => true
  | .non => true
  | .obj _ _ => false
  | .opq _ => false
  | .ptp _ => false
  | .dfz _ => false
def shFs : List D → Bool
  | [] => true
  | d :: ds => shF d && shFs ds
def shFk : List (Key × D) → Bool
  | [] => true
  | (_, d) :: ds => shF d && shFk ds
end
section
variable {X : Cx} {pins : List (Addr × Obj)} {σ : St} {I H : Hp} {s : Shared}
/-- what is needed of a thing's text -/
structure Rk (X : Cx) (h : Heap) (u : Value) (p : PyData) : Prop where
  ex : ∃ as bs, Reads h u p as ∧ ReadAtMost h p.depth bs ∧ ReprK X.prog X.w bs h p.depth u p.shown
structure Rks (X : Cx) (h : Heap) (us : List Value) (ps : List PyData) : Prop where
  ex : ∃ as bs, ReadsAll h us ps as ∧ ReadAtMost h (PyData.depthAll ps) bs ∧ ReprAllK X.prog X.w bs h (PyData.depthAll ps) us (PyData.shownAll ps)
theorem Rks.nil {h : Heap} : Rks X h [] [] := ⟨[], [], .nil, fun _ z => (nomatch z), by simp only [PyData.shownAll]; exact .nil⟩
theorem Rks.cons {h : Heap} {u : Value} {us : List Value} {p : PyData} {ps : List PyData} (a : Rk X h u p) (b : Rks X h us ps) : Rks X h (u :: us) (p :: ps) := by
  obtain ⟨as, b1, r1, m1, k1⟩ := a.ex
  obtain ⟨as2, b2, r2, m2, k2⟩ := b.ex
  have le1 : p.depth ≤ PyData.depthAll (p :: ps) := by simp only [PyData.depthAll]; exact Nat.le_max_left _ _
  have le2 : PyData.depthAll ps ≤ PyData.depthAll (p :: ps) := by simp only [PyData.depthAll]; exact Nat.le_max_right _ _
  refine ⟨as ++ as2, b1 ++ b2, .cons r1 r2, (m1.mono le1).append (m2.mono le2), ?_⟩
  simp only [PyData.shownAll]
  exact .cons ((k1.more fun c hc => List.mem_append_left _ hc).level_le le1) (k2.more_le (fun c hc => List.mem_append_right _ hc) le2)
theorem Rk.lst {h : Heap} {a : Addr} {o : Obj} {vs : Array Value} {n : Nat} {ps : List PyData} (ho : h.get? a = some o) (hc : o.cls = .type "list") (hd : o.data = .seq vs n) (k : Rks X h vs.toList ps) : Rk X h (.ref a) (.list ps) := by
  obtain ⟨as, bs, r1, m1, k1⟩ := k.ex
  have r : Reads h (.ref a) (.list ps) _ := .list ho hc hd r1
  have fr : a ∉ bs := not_mem_of_deeper r (by simp only [PyData.depth]; omega) m1
  refine ⟨_, a :: bs, r, ReadAtMost.cons r (by simp only [PyData.depth]; omega) m1, ?_⟩
  simp only [PyData.depth, PyData.shown]
  obtain ⟨l⟩ := vs
  cases l with
  | nil =>
    have r0 : ReadsAll h [] ps _ := r1
    cases r0
    simp only [PyData.shownAll, listText_nil]
    exact ReprK.listEmpty ho hc hd
  | cons x l => exact ReprK.list ho hc hd fr (by simpa using k1.length_eq) (fun i y e => k1.item i y (by simpa using e))
theorem Rk.tup {h : Heap} {a : Addr} {o : Obj} {vs : Array Value} {n : Nat} {ps : List PyData} (ho : h.get? a = some o) (hc : o.cls = .type "tuple") (hd : o.data = .seq vs n) (k : Rks X h vs.toList ps) : Rk X h (.ref a) (.tuple ps) := by
  obtain ⟨as, bs, r1, m1, k1⟩ := k.ex
  have r : Reads h (.ref a) (.tuple ps) _ := .tuple ho hc hd r1
  have fr : a ∉ bs := not_mem_of_deeper r (by simp only [PyData.depth]; omega) m1
  refine ⟨_, a :: bs, r, ReadAtMost.cons r (by simp only [PyData.depth]; omega) m1, ?_⟩
  simp only [PyData.depth, PyData.shown]
  exact ReprK.tuple ho hc hd fr k1
theorem Rk.dic {h : Heap} {a : Addr} {o : Obj} {es : Array DictEntry} {n : Nat} {ps : List (PyData × PyData)} (ho : h.get? a = some o) (hc : o.cls = .type "dict") (hd : o.data = .dict es n) (hs : (a == sysModules) = false)
    (k : Rks X h (es.toList.map (·.key)) (ps.map (·.1))) (k' : Rks X h (es.toList.map (·.val)) (ps.map (·.2))) : Rk X h (.ref a) (.dict ps) := by
  obtain ⟨as, b1, r1, m1, k1⟩ := k.ex
  obtain ⟨as2, b2, r2, m2, k2⟩ := k'.ex
  have r : Reads h (.ref a) (.dict ps) _ := .dict ho hc hd r1 r2
  have m : ReadAtMost h (PyData.depthKv ps) (b1 ++ b2) := (m1.mono (PyData.depthAll_keys_le ps)).append (m2.mono (PyData.depthAll_vals_le ps))
  have fr : a ∉ b1 ++ b2 := not_mem_of_deeper r (by simp only [PyData.depth]; omega) m
  refine ⟨_, a :: (b1 ++ b2), r, ReadAtMost.cons r (by simp only [PyData.depth]; omega) m, ?_⟩
  simp only [PyData.depth, PyData.shown, PyData.shownKv_eq]
  exact ReprK.dict ho hc hd hs fr (ReprEntriesK.of_two es.toList _ _ (k1.more_le (fun c hc => List.mem_append_left _ hc) (PyData.depthAll_keys_le ps)) (k2.more_le (fun c hc => List.mem_append_right _ hc) (PyData.depthAll_vals_le ps)))
mutual
/-- each text in it is short -/
def shortP : PyData → Bool
  | .int i => decide (i.natAbs.log2 < 1920)
  | .str x => decide ((reprText x).length ≤ sizeLine)
  | .tuple xs => shortPs xs
  | .list xs => shortPs xs
  | .dict kvs => shortPk kvs
  | _ => true
def shortPs : List PyData → Bool
  | [] => true
  | x :: xs => shortP x && shortPs xs
def shortPk : List (PyData × PyData) → Bool
  | [] => true
  | (k, x) :: xs => shortP k && (shortP x && shortPk xs)
end
theorem rk_key {h : Heap} {k : Key} {u : Value} (e : keyIs k u = true) (hs : shortP (toPy (keyD k)) = true) : Rk X h u (toPy (keyD k)) := by
  rcases keyIs_shape e with ⟨i, t, rfl, rfl⟩ | ⟨x, t, rfl, rfl⟩
  · simp only [keyD, toPy, shortP, decide_eq_true_eq] at hs ⊢
    exact ⟨[], [], .int i t, (fun _ h => nomatch h), by simp only [PyData.shown]; exact .of_is (ReprIs.int t hs) _ _ _⟩
  · simp only [keyD, toPy, shortP, decide_eq_true_eq] at hs ⊢
    exact ⟨[], [], .str x t, (fun _ h => nomatch h), by simp only [PyData.shown]; exact .of_is (ReprIs.str x t hs) _ _ _⟩
mutual
theorem rk_any (J : Inv X pins σ H s) (st : Same I H) : ∀ (d : D) {v : V} {u : Value}, shF d = true → shortP (pyF d) = true → Rep X.K I v d → RelV v u → Rk X s.heap u (pyF d)
  | .non, _, _, _, _, r, ru => by cases r; cases ru; unfold pyF; exact ⟨[], [], .none, (fun _ h => nomatch h), by simp only [PyData.shown]; exact .of_is ReprIs.none _ _ _⟩
  | .bl b, _, _, _, _, r, ru => by cases r; cases ru; unfold pyF; exact ⟨[], [], .bool b, (fun _ h => nomatch h), by simp only [PyData.shown]; exact .of_is (ReprIs.bool b) _ _ _⟩
  | .int i, _, _, _, hs, r, ru => by
    cases r
    obtain ⟨t, rfl⟩ := ru
    unfold pyF at hs ⊢
    simp only [shortP, decide_eq_true_eq] at hs
    exact ⟨[], [], .int i t, (fun _ h => nomatch h), by simp only [PyData.shown]; exact .of_is (ReprIs.int t hs) _ _ _⟩
  | .str x, _, _, _, hs, r, ru => by
    cases r
    obtain ⟨t, rfl⟩ := ru
    unfold pyF at hs ⊢
    simp only [shortP, decide_eq_true_eq] at hs
    exact ⟨[], [], .str x t, (fun _ h => nomatch h), by simp only [PyData.shown]; exact .of_is (ReprIs.str x t hs) _ _ _⟩
  | .tup xs, v, u, h, hs, r, ru => by
    unfold shF at h
    unfold pyF shortP at hs
    cases r with
    | @tup a vs _ ha rs =>
      cases (show u = Value.ref a from ru)
      obtain ⟨its, rv, ⟨o, ho, hc, n, hd⟩, _⟩ := J.tuple (Same.seqT st ha)
      unfold pyF
      exact .tup ho hc hd (rk_anys J st xs h hs rs rv)
  | .lst xs, v, u, h, hs, r, ru => by
    unfold shF at h
    unfold pyF shortP at hs
    cases r with
    | @lst a vs _ ha rs =>
      cases (show u = Value.ref a from ru)
      obtain ⟨its, rv, pl, _⟩ := J.list (.of (st _ _ ha))
      obtain ⟨o, ho, hc, n, hd⟩ := pl.isList
      unfold pyF
      exact .lst ho hc hd (rk_anys J st xs h hs rs rv)
  | .dic kvs, v, u, h, hs, r, ru => by
    unfold shF at h
    unfold pyF shortP at hs
    cases r with
    | @dic a ws _ ha kk rr =>
      cases (show u = Value.ref a from ru)
      obtain ⟨_, sy, vs, kv, o, es, ep, ho, ex, hd, _, pr, _⟩ := dk_of J.hok (st _ _ ha)
      obtain ⟨h1, h2⟩ := rk_anyk J st kvs h hs kk rr kv pr
      unfold pyF
      exact .dic ho ex.1 hd sy h1 h2
  | .obj _ _, _, _, h, _, _, _ => by unfold shF at h; cases h
  | .opq _, _, _, h, _, _, _ => by unfold shF at h; cases h
  | .ptp _, _, _, h, _, _, _ => by unfold shF at h; cases h
  | .dfz _, _, _, h, _, _, _ => by unfold shF at h; cases h
theorem rk_anys (J : Inv X pins σ H s) (st : Same I H) : ∀ (xs : List D) {vs : List V} {us : List Value}, shFs xs = true → shortPs (pyFs xs) = true → Reps X.K I vs xs → Vals vs us → Rks X s.heap us (pyFs xs)
  | [], _, _, _, _, r, ru => by cases r; cases ru; unfold pyFs; exact .nil
  | x :: xs, _, _, h, hs, r, ru => by
    unfold shFs at h
    rw [Bool.and_eq_true] at h
    unfold pyFs shortPs at hs
    rw [Bool.and_eq_true] at hs
    cases r with
    | cons r1 r2 =>
      cases ru with
      | cons u1 u2 =>
        unfold pyFs
        exact .cons (rk_any J st x h.1 hs.1 r1 u1) (rk_anys J st xs h.2 hs.2 r2 u2)
theorem rk_anyk (J : Inv X pins σ H s) (st : Same I H) : ∀ (ds : List (Key × D)) {kvs : List (Key × V)} {vs : List (Key × Value)} {es : List DictEntry}, shFk ds = true → shortPk (pyFk ds) = true → kvs.map (·.1) = ds.map (·.1) → Reps X.K I (kvs.map (·.2)) (ds.map (·.2)) → KV kvs vs → Pairs (mixKind X.prog X.w) es vs →
    Rks X s.heap (es.map (·.key)) ((pyFk ds).map (·.1)) ∧ Rks X s.heap (es.map (·.val)) ((pyFk ds).map (·.2))
  | [], kvs, vs, es, _, _, hk, _, kv, pr => by
    obtain rfl : kvs = [] := by simpa using hk
    cases kv
    cases pr
    unfold pyFk
    exact ⟨.nil, .nil⟩
  | (k, d) :: ds, kvs, vs, es, h, hs, hk, r, kv, pr => by
    unfold shFk at h
    rw [Bool.and_eq_true] at h
    unfold pyFk shortPk at hs
    rw [Bool.and_eq_true, Bool.and_eq_true] at hs
    cases kvs with
    | nil => simp at hk
    | cons p kvs =>
      obtain ⟨k', v⟩ := p
      simp only [List.map_cons, List.cons.injEq] at hk
      obtain ⟨rfl, hk⟩ := hk
      cases r with
      | cons r1 r2 =>
        cases kv with
        | @cons _ q _ qs a b =>
          cases pr with
          | @cons e _ es _ c1 c2 c3 =>
            obtain ⟨h1, h2⟩ := rk_anyk J st ds (kvs := kvs) h.2 hs.2.2 hk r2 b c3
            obtain ⟨ea, ra⟩ := a
            have e1 : keyIs k' e.key = true := by have : keyIs q.1 e.key = true := c1; rwa [← ea] at this
            have e2 : RelV v e.val := by rw [c2]; exact ra
            unfold pyFk
            exact ⟨.cons (rk_key e1 hs.1) h1, .cons (rk_any J st d h.1 hs.2.1 r1 e2) h2⟩
end
end
end Dk
namespace RZ
open PySem
open PySem.Sem (wp)
def SqAt (k : Bool) (h : Heap) (l : Addr) (xs : Array Value) : Prop := if k then h.IsList l xs else h.IsTuple l xs
def ItAt (k : Bool) (h : Heap) (it l : Addr) (n : Nat) : Prop := if k then h.IsListIter it l n else h.IsTupleIter it l n
theorem ItAt.at {k : Bool} {h h' : Heap} {it l : Addr} {n : Nat} (a : ItAt k h it l n) (e : ∀ o, h.get? it = some o → h'.get? it = some o) : ItAt k h' it l n := by
  cases k
  · exact Heap.IsTupleIter.at (show h.IsTupleIter it l n from a) e
  · exact Heap.IsListIter.at (show h.IsListIter it l n from a) e
theorem ItAt.obj {k : Bool} {h : Heap} {it l : Addr} {n : Nat} (a : ItAt k h it l n) : ∃ o, h.get? it = some o ∧ o.data = .fields #[.ref l, .int n 0] := by
  cases k
  · obtain ⟨o, e, _, d⟩ := (show h.IsTupleIter it l n from a)
    exact ⟨o, e, d⟩
  · obtain ⟨o, e, _, d⟩ := (show h.IsListIter it l n from a)
    exact ⟨o, e, d⟩
end RZ
namespace RZ
open PySem
open PySem.Sem (wp)
end RZ
namespace RZ
open PySem
open PySem.Sem (wp)
theorem SqAt.push {k : Bool} {h : Heap} {l : Addr} {xs : Array Value} (a : SqAt k h l xs) (o : Obj) : SqAt k (h.push o) l xs := by
  cases k
  · exact Heap.IsTuple.push (show h.IsTuple l xs from a) _
  · exact Heap.IsList.push (show h.IsList l xs from a) _
end RZ
namespace RZ
open PySem PySem.Spec PyProof.Rows L2
def SqK (K : PySem.W.Frag) (k : Bool) (H : Hp) (a : Addr) (xs : List V) : Prop := if k then SqL K H a xs else SqT K H a xs
theorem SqK.at {X : Cx} {pins : List (Addr × Obj)} {σ : L2.St} {H : Hp} {s : Shared} {k : Bool} {a : Addr} {xs : List V} (h : SqK X.K k H a xs) (I : Inv X pins σ H s) : ∃ its : List Value, Vals xs its ∧ SqAt k s.heap a its.toArray := by
  cases k
  · obtain ⟨its, rv, p, _⟩ := I.tuple (show SqT X.K H a xs from h)
    exact ⟨its, rv, p⟩
  · obtain ⟨its, rv, p, _⟩ := I.list (show SqL X.K H a xs from h)
    exact ⟨its, rv, p.isList⟩
theorem SqK.inj {X : Cx} {pins : List (Addr × Obj)} {σ : L2.St} {H : Hp} {s : Shared} {k : Bool} {a : Addr} {xs ys : List V} (h : SqK X.K k H a xs) (h' : SqK X.K k H a ys) (I : Inv X pins σ H s) : xs = ys := by
  cases k
  · exact I.tuple_inj (show SqT X.K H a xs from h) h'
  · exact I.list_inj (show SqL X.K H a xs from h) h'
theorem SqAt.lt {k : Bool} {h : Heap} {l : Addr} {xs : Array Value} (a : SqAt k h l xs) : l < h.objs.size := by
  cases k
  · obtain ⟨o, e, _⟩ := (show h.IsTuple l xs from a)
    exact Heap.lt_size e
  · obtain ⟨o, e, _⟩ := (show h.IsList l xs from a)
    exact Heap.lt_size e
end RZ
namespace Dk
open PySem L2
open RZ
section
variable {F : Fx} {X : Cx} {K : PySem.W.Frag} {W : Wd} {I : Hp} {e e2 : Expr} {ta : DAT} {p pos : Pos}
/-- what may be zipped -/
def seqD : D → Option (List D)
  | .lst xs => some xs
  | .tup xs => some xs
  | _ => none
def zipGD (st : Bool) (ds : List D) (Q : List D → Prop) : Prop := ∃ d e xs ys, ds = [d, e] ∧ seqD d = some xs ∧ seqD e = some ys ∧ (st = true → xs.length = ys.length) ∧ Q (List.zipWith (fun d e => .tup [d, e]) xs ys)
theorem zipGD.mono {st : Bool} {ds : List D} {Q Q' : List D → Prop} (k : ∀ ds, Q ds → Q' ds) : zipGD st ds Q → zipGD st ds Q' := fun ⟨d, e, xs, ys, a, b, c, l, q⟩ => ⟨d, e, xs, ys, a, b, c, l, k _ q⟩
end
end Dk
namespace Dk
open PySem L2 PySem.Spec
section
variable {X : Cx} {pins : List (Addr × Obj)} {σ : St} {I H : Hp} {s : Shared}
theorem shows_lst {h : Heap} {a : Addr} {o : Obj} {vs : Array Value} {n : Nat} {ps : List PyData} (ho : h.get? a = some o) (hc : o.cls = .type "list") (hd : o.data = .seq vs n) (k : Rks X h vs.toList ps) (hz : (PyData.list ps).shown.length ≤ sizeLine) : ∃ T idr, ShowsBy X.prog X.w h a (.list ps) T idr := by
  obtain ⟨as, bs, r1, m1, k1⟩ := k.ex
  have r : Reads h (.ref a) (.list ps) _ := .list ho hc hd r1
  have fr : a ∉ bs := not_mem_of_deeper r (by simp only [PyData.depth]; omega) m1
  have hz2 : (listText (PyData.shownAll ps)).length ≤ sizeLine := by simpa only [PyData.shown] using hz
  refine ⟨"list", "list.__repr__", F.slot_list_repr.toG, F.slot_list_str, F.slot_list_format, fun s e => ⟨o, e _ _ ho, hc⟩, fun A E s Q hg hu e hQ => ?_⟩
  simp only [PyData.depth] at hu
  simp only [PyData.shown] at hQ
  obtain ⟨l⟩ := vs
  cases l with
  | nil =>
    have r0 : ReadsAll h [] ps _ := r1
    cases r0
    simp only [PyData.shownAll, listText_nil] at hQ
    exact call_list_repr_empty ⟨o, e _ _ ho, hc⟩ (e _ _ ho) hd (hQ s.heap _ _ fun _ _ z => z)
  | cons x l => exact call_list_reprK ho hc hd fr (by simpa using k1.length_eq) (fun i y q => k1.item i y (by simpa using q)) hg (fun b _ => Clear.nil b) hu e hQ hz2
theorem shows_tup {h : Heap} {a : Addr} {o : Obj} {vs : Array Value} {n : Nat} {ps : List PyData} (ho : h.get? a = some o) (hc : o.cls = .type "tuple") (hd : o.data = .seq vs n) (k : Rks X h vs.toList ps) (hz : (PyData.tuple ps).shown.length ≤ sizeLine) : ∃ T idr, ShowsBy X.prog X.w h a (.tuple ps) T idr := by
  obtain ⟨as, bs, r1, m1, k1⟩ := k.ex
  have r : Reads h (.ref a) (.tuple ps) _ := .tuple ho hc hd r1
  have fr : a ∉ bs := not_mem_of_deeper r (by simp only [PyData.depth]; omega) m1
  have hz2 : (tupleText (PyData.shownAll ps)).length ≤ sizeLine := by simpa only [PyData.shown] using hz
  refine ⟨"tuple", "tuple.__repr__", F.slot_tuple_repr, F.slot_tuple_str, F.slot_tuple_format, fun s e => ⟨o, e _ _ ho, hc⟩, fun A E s Q hg hu e hQ => ?_⟩
  simp only [PyData.depth] at hu
  simp only [PyData.shown] at hQ
  exact call_tuple_reprK ho hc hd fr k1 hg (fun b _ => Clear.nil b) hu e hQ hz2
theorem shows_dic {h : Heap} {a : Addr} {o : Obj} {es : Array DictEntry} {n : Nat} {ps : List (PyData × PyData)} (ho : h.get? a = some o) (hc : o.cls = .type "dict") (hd : o.data = .dict es n) (hs : (a == sysModules) = false)
    (k : Rks X h (es.toList.map (·.key)) (ps.map (·.1))) (k' : Rks X h (es.toList.map (·.val)) (ps.map (·.2))) (hz : (PyData.dict ps).shown.length ≤ sizeLine) : ∃ T idr, ShowsBy X.prog X.w h a (.dict ps) T idr := by
  obtain ⟨as, b1, r1, m1, k1⟩ := k.ex
  obtain ⟨as2, b2, r2, m2, k2⟩ := k'.ex
  have r : Reads h (.ref a) (.dict ps) _ := .dict ho hc hd r1 r2
  have m : ReadAtMost h (PyData.depthKv ps) (b1 ++ b2) := (m1.mono (PyData.depthAll_keys_le ps)).append (m2.mono (PyData.depthAll_vals_le ps))
  have fr : a ∉ b1 ++ b2 := not_mem_of_deeper r (by simp only [PyData.depth]; omega) m
  have hz2 : (dictText (PyData.shownKv ps)).length ≤ sizeLine := by simpa only [PyData.shown] using hz
  refine ⟨"dict", "dict.__repr__", F.slot_dict_repr, F.slot_dict_str, F.slot_dict_format, fun s e => ⟨o, e _ _ ho, hc⟩, fun A E s Q hg hu e hQ => ?_⟩
  simp only [PyData.depth] at hu
  simp only [PyData.shown, PyData.shownKv_eq] at hQ
  exact call_dict_reprK ho hc hd hs fr (ReprEntriesK.of_two es.toList _ _ (k1.more_le (fun c hc => List.mem_append_left _ hc) (PyData.depthAll_keys_le ps)) (k2.more_le (fun c hc => List.mem_append_right _ hc) (PyData.depthAll_vals_le ps))) hg (fun b _ => Clear.nil b) hu e hQ (by rw [← PyData.shownKv_eq]; exact hz2)
/-- repr of anything -/
def reprF : List D → (D → Prop) → Prop
  | [d], Q => shF d = true ∧ shortP (pyF d) = true ∧ (pyF d).depth ≤ 62 ∧ (pyF d).shown.length ≤ sizeLine ∧ Q (.str (pyF d).shown)
  | _, _ => False
theorem mono_reprF : MonoN reprF := by
  intro ds Q Q' k h
  unfold reprF at h ⊢
  split at h
  · exact ⟨h.1, h.2.1, h.2.2.1, h.2.2.2.1, k _ h.2.2.2.2⟩
  · exact h.elim
def RReprF (K : PySem.W.Frag) : List V → Hp → VK → Prop := fun xs H Q => ∃ v d I, xs = [v] ∧ Same I H ∧ Rep K I v d ∧ shF d = true ∧ shortP (pyF d) = true ∧ (pyF d).depth ≤ 62 ∧ (pyF d).shown.length ≤ sizeLine ∧ Q (.str (pyF d).shown) H
theorem call_reprF (hg : X.A.guards = some []) (hu : X.A.units + 64 < cLine) : CallR X (.builtin "repr") (RReprF X.K) := by
  rintro pins s σ H xs us Q J r ⟨v, d, I, rfl, st, rp, h0, h1, h2, h3, q⟩
  obtain ⟨u, rfl, ru⟩ := vals1 r
  have fin : ∀ (tk : Nat) (u' : Tok), EP X pins σ Q (.str (pyF d).shown u') { s with toks := tk } := fun tk u' => ⟨.str (pyF d).shown, H, J.tok tk, ⟨u', rfl⟩, q⟩
  have go : ∀ a, u = .ref a → (∃ T idr, ShowsBy X.prog X.w s.heap a (pyF d) T idr) → wpAny (model X.prog X.w) X.A (call (.builtin "repr") [u]) (EP X pins σ Q) X.xe s := by
    rintro a rfl ⟨T, idr, S⟩
    exact call_repr_slot (by omega) (S.typeIs s fun _ _ e => e) S.slotRepr (S.call X.A.in1 X.xe s _ hg (by show X.A.units + 1 + (pyF d).depth < cLine; omega) (fun _ _ e => e) fun h' u tk hk => ⟨_, _, rfl, ⟨.str _, H, J.kept hk, ⟨u, rfl⟩, q⟩⟩)
  cases rp with
  | non => cases ru; exact PySem.P.repr_of_none (by unfold pyF PyData.shown at fin; exact fin _ _)
  | bl b => cases ru; exact PySem.P.repr_of_bool (by unfold pyF PyData.shown at fin; exact fin _ _)
  | int i =>
    obtain ⟨t, rfl⟩ := ru
    unfold pyF at h1 fin
    simp only [shortP, decide_eq_true_eq] at h1
    exact PySem.P.repr_of_int h1 (by unfold PyData.shown at fin; exact fin _ _)
  | str x =>
    obtain ⟨t, rfl⟩ := ru
    unfold pyF PyData.shown at fin h3
    exact PySem.P.repr_of_str (fin _ _) h3
  | @tup a vs xs ha rs =>
    cases (show u = Value.ref a from ru)
    unfold shF at h0
    unfold pyF shortP at h1
    unfold pyF at h3 go
    obtain ⟨its, rv, ⟨o, ho, hc, n, hd⟩, _⟩ := J.tuple (Same.seqT st ha)
    exact go a rfl (shows_tup ho hc hd (rk_anys J st xs h0 h1 rs rv) h3)
  | @lst a vs xs ha rs =>
    cases (show u = Value.ref a from ru)
    unfold shF at h0
    unfold pyF shortP at h1
    unfold pyF at h3 go
    obtain ⟨its, rv, pl, _⟩ := J.list (.of (st _ _ ha))
    obtain ⟨o, ho, hc, n, hd⟩ := pl.isList
    exact go a rfl (shows_lst ho hc hd (rk_anys J st xs h0 h1 rs rv) h3)
  | @dic a ws kvs ha kk rr =>
    cases (show u = Value.ref a from ru)
    unfold shF at h0
    unfold pyF shortP at h1
    unfold pyF at h3 go
    obtain ⟨_, sy, vs, kv, o, es, ep, ho, ex, hd, _, pr, _⟩ := dk_of J.hok (st _ _ ha)
    obtain ⟨k1, k2⟩ := rk_anyk J st kvs h0 h1 kk rr kv pr
    exact go a rfl (shows_dic ho ex.1 hd sy k1 k2 h3)
  | obj _ _ _ => unfold shF at h0; cases h0
  | opq _ => unfold shF at h0; cases h0
  | dfz _ _ _ => unfold shF at h0; cases h0
  | ptp _ _ _ => unfold shF at h0; cases h0
end
section
variable {F : Fx} {X : Cx} {e a b : Expr} {te ta tb : DT} {t : DAT} {p pos : Pos}
theorem de_reprF (hm : X.mg "repr" = none) (hg : X.A.guards = some []) (hu : X.A.units + 64 < cLine) (ha : DA F X [e] t) (hgl : Gl X "repr" := by rfl) (he : starEach [e] X.env = (false, eval e X.env) :: starEach [] X.env := by rfl) : DE F X (.Call (.Name "repr" p) [e] [] pos) (fun ρ Q => t ρ fun ds => reprF ds Q) := by
  refine de_callB (id := "repr") mono_reprF (fun vs ds I H Q st rs h => ?_) (call_reprF hg hu) hm (by decide +kernel) ha hgl (by decide) (by decide) he rfl
  match ds, rs, h with
  | [], _, h => exact h.elim
  | _ :: _ :: _, _, h => exact h.elim
  | [d], rs, h =>
    obtain ⟨h0, h1, h2, h3, q⟩ := h
    obtain ⟨v, rfl, rv⟩ := rs.one
    exact ⟨v, d, I, rfl, st.sub, rv, h0, h1, h2, h3, q _ _ _ st.stp (.str _)⟩
def RT0 (K : PySem.W.Frag) : R2 := fun x y H Q => ∃ a b xs, x = .ref a ∧ y = .ref b ∧ SqT K H a xs ∧ SqT K H b [] ∧ Q (.bl xs.isEmpty) H
theorem or_eqT0 (hu : X.A.units < cLine) : OpR X (compareOp .Eq) (RT0 X.K) := by
  intro pins s σ H x y v u Q J rx ry h
  obtain ⟨l, m, xs, rfl, rfl, hx, hy, q⟩ := h
  cases rx
  cases ry
  obtain ⟨its, rv, t1, _⟩ := J.tuple hx
  obtain ⟨its2, rv2, t2, _⟩ := J.tuple hy
  cases rv2
  show wpAny (model X.prog X.w) X.A (richCompare .Eq (.ref l) (.ref m)) (EP X pins σ Q) X.xe s
  refine SeqAt.RcAt.tuples (e := fun _ => true) (show s.heap.IsTuple l its.toArray from t1) (show s.heap.IsTuple m #[] from t2) hu (fun j _ h2 => absurd h2 (Nat.not_lt_zero _)) X.prog X.w _ _ ?_
  have e : ((List.range (min its.toArray.size (#[] : Array Value).size)).all (fun _ => true) && its.toArray.size == (#[] : Array Value).size) = xs.isEmpty := by
    have hl := rv.length
    have : its.toArray.size = xs.length := by simp [hl]
    rw [this]
    cases xs <;> simp
  rw [e]
  exact ⟨.bl _, H, J, rfl, q⟩
def eqT0 (x y : D) (Q : D → Prop) : Prop := ∃ xs, x = .tup xs ∧ y = .tup [] ∧ Q (.bl xs.isEmpty)
theorem mono_eqT0 : Mono2 eqT0 := fun x y Q Q' k ⟨xs, a, b, q⟩ => ⟨xs, a, b, k _ q⟩
theorem lf_eqT0 {K : PySem.W.Frag} : LiftR F K (RT0 K) eqT0 := by
  rintro x y dx dy I H Q st rx ry ⟨xs, rfl, rfl, q⟩
  cases rx with
  | @tup a vs _ ha rs =>
    cases ry with
    | @tup b ws _ hb rs2 =>
      cases rs2
      refine ⟨a, b, vs, rfl, rfl, Same.seqT st.sub ha, Same.seqT st.sub hb, ?_⟩
      have e : vs.isEmpty = xs.isEmpty := by have := rs.length; cases vs <;> cases xs <;> simp_all
      rw [e]
      exact q _ _ _ st.stp (.bl _)
theorem dt_eqT0 (hu : X.A.units + 64 < cLine) (ha : DE F X a ta) (hb : DE F X b tb) (hm : behindInMarks .Eq b = false := by rfl) : DTest F X (.Compare a [.Eq] [b] pos) (fun ρ Q => ta ρ fun x => tb ρ fun y => eqT0 x y fun z => boolD z Q) := dt_cmp mono_eqT0 (or_eqT0 (by omega)) lf_eqT0 ha hb hm
end
end Dk
namespace KB
open PySem L2 Dk
/-- signs from the blank to ~ -/
def ascii (x : Str) : Bool := x.cps.all fun c => decide (32 ≤ c ∧ c < 127)
def keyOk : Key → Bool
  | .inl i => decide (i.natAbs.log2 < 1900)
  | .inr x => ascii x
def keyWt : Key → Nat
  | .inl i => i.natAbs.log2 + 12
  | .inr x => 10 * x.length + 2
mutual
def gd : D → Bool
  | .dic kvs => gdk kvs
  | .tup xs => gds xs
  | .lst xs => gds xs
  | .bl _ => true
  | .int i => decide (i.natAbs.log2 < 1900)
  | .str x => ascii x
  | .non => true
  | .obj _ _ => false
  | .opq _ => false
  | .ptp _ => false
  | .dfz _ => false
def gds : List D → Bool
  | [] => true
  | d :: ds => gd d && gds ds
def gdk : List (Key × D) → Bool
  | [] => true
  | (k, d) :: ds => keyOk k && (gd d && gdk ds)
end
mutual
def wtD : D → Nat
  | .dic kvs => wtk kvs + 12
  | .tup xs => wts xs + 13
  | .lst xs => wts xs + 13
  | .bl _ => 10
  | .int i => 40 * i.natAbs.log2 + 12
  | .str x => 10 * x.length + 12
  | .non => 10
  | .obj _ _ => 10
  | .opq _ => 10
  | .ptp _ => 10
  | .dfz _ => 10
def wts : List D → Nat
  | [] => 0
  | d :: ds => wtD d + 2 + wts ds
def wtk : List (Key × D) → Nat
  | [] => 0
  | (k, d) :: ds => keyWt k + 2 + wtD d + 2 + wtk ds
end
def dpD (d : D) : Nat := (pyF d).depth
theorem ascii_ok {x : Str} (h : ascii x = true) : PyData.strOk x = true := by
  unfold ascii at h
  unfold PyData.strOk
  rw [Array.all_eq_true] at h ⊢
  intro i hi
  have := h i hi
  rw [decide_eq_true_eq] at this ⊢
  omega
theorem gds_mem : ∀ {xs : List D}, gds xs = true ↔ ∀ x ∈ xs, gd x = true
  | [] => by simp [gds]
  | x :: xs => by simp [gds, gds_mem (xs := xs)]
theorem wts_app : ∀ xs ys : List D, wts (xs ++ ys) = wts xs + wts ys
  | [], ys => by simp [wts]
  | x :: xs, ys => by simp only [List.cons_append, wts, wts_app xs ys]; omega
theorem wts_mem : ∀ {xs : List D} {x : D}, x ∈ xs → wtD x + 2 ≤ wts xs
  | y :: ys, x, h => by
    rcases List.mem_cons.mp h with rfl | h
    · simp only [wts]; omega
    · have := wts_mem h
      simp only [wts]; omega
theorem wt_pos (d : D) : 10 ≤ wtD d := by cases d <;> simp only [wtD] <;> omega
theorem wts_len : ∀ xs : List D, 12 * xs.length ≤ wts xs
  | [] => by simp
  | x :: xs => by have := wts_len xs; have := wt_pos x; simp only [wts, List.length_cons]; omega
theorem wts_take_drop (n : Nat) (xs : List D) : wts (xs.take n) + wts (xs.drop n) = wts xs := by
  rw [← wts_app, List.take_append_drop]
theorem wts_rev : ∀ xs : List D, wts xs.reverse = wts xs
  | [] => rfl
  | x :: xs => by rw [List.reverse_cons, wts_app, wts_rev xs]; simp only [wts]; omega
theorem shown_join : ∀ ps : List PyData, (∀ p ∈ ps, PyData.strOk p.shown = true) → (Str.join ", " (PyData.shownAll ps)).length ≤ (ps.map fun p => p.shown.length + 2).sum ∧ PyData.strOk (Str.join ", " (PyData.shownAll ps)) = true := by
  intro ps h
  refine ⟨?_, ?_⟩
  · clear h
    induction ps with
    | nil => simp only [PyData.shownAll, List.map_nil, List.sum_nil]; exact Nat.le_refl _
    | cons p r ih =>
      cases r with
      | nil => simp only [PyData.shownAll, List.map_cons, List.map_nil, List.sum_cons, List.sum_nil]; show p.shown.length ≤ _; omega
      | cons q r =>
        simp only [PyData.shownAll, List.map_cons, List.sum_cons] at ih ⊢
        show (p.shown ++ ", " ++ Str.join ", " (q.shown :: PyData.shownAll r)).length ≤ _
        rw [len_app, len_app]
        have e2 : (", " : Str).length = 2 := rfl
        omega
  · rw [shownAll_eq]
    refine ok_join (ok_lit ", ") fun p hp => ?_
    obtain ⟨d, hd, rfl⟩ := List.mem_map.mp hp
    exact h d hd
theorem log_len {i : Int} (h : i.natAbs.log2 < 1900) : (PyData.int i).shown.length ≤ i.natAbs.log2 + 12 ∧ PyData.strOk (PyData.int i).shown = true := by
  have e : (PyData.int i).shown = Str.ofString (toString i) := by simp only [PyData.shown]
  rw [e]
  refine ⟨?_, ok_lit _⟩
  rw [PySem.ofString_length]
  have := PySem.int_text_length_le (a := i) (k := i.natAbs.log2 + 1) (by omega) (by omega)
  omega
mutual
theorem shown_any : ∀ d : D, gd d = true → wtD d ≤ 1000000 → shF d = true ∧ shortP (pyF d) = true ∧ (pyF d).shown.length ≤ wtD d ∧ PyData.strOk (pyF d).shown = true
  | .non, _, _ => by simp only [pyF, shF, shortP, wtD, PyData.shown, true_and]; exact ⟨by decide, ok_lit _⟩
  | .bl b, _, _ => by cases b <;> (simp only [pyF, shF, shortP, wtD, PyData.shown, true_and]; exact ⟨by decide, ok_lit _⟩)
  | .int i, hg, w => by
    simp only [wtD] at w
    simp only [gd, decide_eq_true_eq] at hg
    have h : i.natAbs.log2 < 1900 := hg
    simp only [pyF, shF, shortP, wtD, decide_eq_true_eq, true_and]
    exact ⟨by omega, Nat.le_trans (log_len h).1 (by omega), (log_len h).2⟩
  | .str x, h, w => by
    simp only [gd] at h
    simp only [wtD] at w
    have h2 := Sn.str (m := x.length) (Nat.le_refl _) (ascii_ok h)
    simp only [pyF, shF, shortP, wtD, decide_eq_true_eq, true_and]
    refine ⟨?_, Nat.le_trans h2.ln (by omega), h2.ok⟩
    have := h2.ln
    have e : (PyData.str x).shown = reprText x := by simp only [PyData.shown]
    rw [e] at this
    rw [sizeLine_eq]
    omega
  | .tup xs, h, w => by
    simp only [gd] at h
    simp only [wtD] at w
    obtain ⟨a, b, c, d⟩ := shown_anys xs h (by omega)
    obtain ⟨l, o⟩ := shown_join (pyFs xs) d
    simp only [pyF, shF, shortP, wtD, a, b, true_and]
    rw [PyData.shown_tuple]
    refine ⟨?_, ok_app (ok_app (ok_lit _) o) (ok_lit _)⟩
    rw [len_app, len_app]
    have e1 : ("(" : Str).length = 1 := rfl
    have h3 : (((if (pyFs xs).length == 1 then ",)" else ")" : String) : Str)).length ≤ 2 := by split <;> decide
    omega
  | .lst xs, h, w => by
    simp only [gd] at h
    simp only [wtD] at w
    obtain ⟨a, b, c, d⟩ := shown_anys xs h (by omega)
    obtain ⟨l, o⟩ := shown_join (pyFs xs) d
    simp only [pyF, shF, shortP, wtD, a, b, true_and]
    rw [PyData.shown_list]
    refine ⟨?_, ok_app (ok_app (ok_lit _) o) (ok_lit _)⟩
    rw [len_app, len_app]
    have e1 : ("[" : Str).length = 1 := rfl
    have e3 : ("]" : Str).length = 1 := rfl
    omega
  | .dic kvs, h, w => by
    simp only [gd] at h
    simp only [wtD] at w
    obtain ⟨a, b, c, d⟩ := shown_anyk kvs h (by omega)
    simp only [pyF, shF, shortP, wtD, a, b, true_and]
    rw [PyData.shown_dict]
    refine ⟨?_, ok_app (ok_app (ok_lit _) d) (ok_lit _)⟩
    rw [len_app, len_app]
    have e1 : ("{" : Str).length = 1 := rfl
    have e3 : ("}" : Str).length = 1 := rfl
    omega
  | .obj _ _, h, _ => by simp [gd] at h
  | .opq _, h, _ => by simp [gd] at h
  | .ptp _, h, _ => by simp [gd] at h
  | .dfz _, h, _ => by simp [gd] at h
theorem shown_anys : ∀ xs : List D, gds xs = true → wts xs ≤ 1000000 → shFs xs = true ∧ shortPs (pyFs xs) = true ∧ ((pyFs xs).map fun p => p.shown.length + 2).sum ≤ wts xs ∧ ∀ p ∈ pyFs xs, PyData.strOk p.shown = true
  | [], _, _ => by simp [pyFs, shFs, shortPs, wts]
  | x :: xs, h, w => by
    simp only [gds, Bool.and_eq_true] at h
    simp only [wts] at w
    obtain ⟨a, b, c, d⟩ := shown_any x h.1 (by omega)
    obtain ⟨a', b', c', d'⟩ := shown_anys xs h.2 (by omega)
    simp only [pyFs, shFs, shortPs, wts, a, b, a', b', Bool.and_self, true_and, List.map_cons, List.sum_cons]
    refine ⟨by omega, fun p hp => ?_⟩
    rcases List.mem_cons.mp hp with rfl | hp
    · exact d
    · exact d' p hp
theorem shown_anyk : ∀ ks : List (Key × D), gdk ks = true → wtk ks ≤ 1000000 → shFk ks = true ∧ shortPk (pyFk ks) = true ∧ (Str.join ", " (PyData.shownKv (pyFk ks))).length ≤ wtk ks ∧ PyData.strOk (Str.join ", " (PyData.shownKv (pyFk ks))) = true
  | [], _, _ => by simp only [pyFk, shFk, shortPk, wtk, PyData.shownKv, true_and]; exact ⟨Nat.le_refl _, ok_join (ok_lit _) fun p hp => by cases hp⟩
  | (k, x) :: ks, h, w => by
    simp only [gdk, Bool.and_eq_true] at h
    simp only [wtk] at w
    obtain ⟨a, b, c, d⟩ := shown_any x h.2.1 (by omega)
    obtain ⟨a', b', c', d'⟩ := shown_anyk ks h.2.2 (by omega)
    have key : shortP (toPy (keyD k)) = true ∧ (toPy (keyD k)).shown.length ≤ keyWt k ∧ PyData.strOk (toPy (keyD k)).shown = true := by
      cases k with
      | inl i =>
        have h1 := h.1
        simp only [keyOk, decide_eq_true_eq] at h1
        simp only [keyD, toPy, shortP, keyWt, decide_eq_true_eq]
        exact ⟨by omega, log_len h1⟩
      | inr y =>
        have h1 := h.1
        simp only [keyOk] at h1
        simp only [keyWt] at w
        have h2 := Sn.str (m := y.length) (Nat.le_refl _) (ascii_ok h1)
        simp only [keyD, toPy, shortP, keyWt, decide_eq_true_eq]
        refine ⟨?_, h2.ln, h2.ok⟩
        have := h2.ln
        have e : (PyData.str y).shown = reprText y := by simp only [PyData.shown]
        rw [e] at this
        rw [sizeLine_eq]
        omega
    have one : ((toPy (keyD k)).shown ++ ": " ++ (pyF x).shown).length ≤ keyWt k + 2 + wtD x ∧ PyData.strOk ((toPy (keyD k)).shown ++ ": " ++ (pyF x).shown) = true := by
      refine ⟨?_, ok_app (ok_app key.2.2 (ok_lit _)) d⟩
      rw [len_app, len_app]
      have e2 : (": " : Str).length = 2 := rfl
      have := key.2.1
      omega
    simp only [pyFk, shFk, shortPk, wtk, a, b, a', b', key.1, Bool.and_self, true_and, PyData.shownKv]
    cases ks with
    | nil =>
      simp only [pyFk, PyData.shownKv, wtk]
      exact ⟨Nat.le_trans one.1 (by omega), one.2⟩
    | cons p ks =>
      obtain ⟨k2, x2⟩ := p
      simp only [pyFk, PyData.shownKv] at c' d' ⊢
      have e : ∀ (a b : Str) (r : List Str), Str.join ", " (a :: b :: r) = a ++ ", " ++ Str.join ", " (b :: r) := fun _ _ _ => rfl
      rw [e]
      refine ⟨?_, ok_app (ok_app one.2 (ok_lit _)) d'⟩
      rw [len_app, len_app]
      have e2 : (", " : Str).length = 2 := rfl
      have := one.1
      omega
end
theorem repr_any {d : D} {Q : D → Prop} (h : gd d = true) (w : wtD d ≤ 1000000) (dp : dpD d ≤ 62) (q : Q (.str (pyF d).shown)) : reprF [d] Q := by
  obtain ⟨a, b, c, _⟩ := shown_any d h w
  exact ⟨a, b, dp, Nat.le_trans c (Nat.le_trans w (by rw [sizeLine_eq]; decide)), q⟩
end KB
namespace KB
open PySem L2 Dk
theorem u_any {ys : List Str} {x : Str} : ((ys.map D.str).any fun z => deq z (.str x)) = decide (x ∈ ys) := by
  have e : ∀ y : Str, deq (.str y) (.str x) = decide (y = x) := fun y => by simp [deq, toPy, PyData.eqv]; rfl
  rw [List.any_map, Bool.eq_iff_iff, List.any_eq_true, decide_eq_true_eq]
  constructor
  · rintro ⟨y, hy, h⟩
    have : y = x := by simpa [e] using h
    exact this ▸ hy
  · intro hx
    exact ⟨x, hx, by simp [e]⟩
theorem depth_mem : ∀ {xs : List D} {x : D} {n : Nat}, PyData.depthAll (pyFs xs) ≤ n → x ∈ xs → dpD x ≤ n
  | y :: ys, x, n, h, hx => by
    simp only [pyFs, PyData.depthAll] at h
    have h1 := Nat.le_trans (Nat.le_max_left _ _) h
    have h2 := Nat.le_trans (Nat.le_max_right _ _) h
    rcases List.mem_cons.mp hx with rfl | hx
    · exact h1
    · exact depth_mem h2 hx
theorem dp_tup {xs : List D} : dpD (.tup xs) = PyData.depthAll (pyFs xs) + 1 := by
  unfold dpD
  rw [pyF, PyData.depth]
  try omega
end KB
namespace Dk
open PySem L2 PySem.Spec
end Dk
namespace Dk
open PySem L2 PySem.Spec PyProof.Rows HT
section
variable {prog : Program} {w : World} {A : Around} {E : Value → Shared → Prop} {s : Shared}
theorem rev_places (n : Nat) : Builtin.Slice.slicePlaces ((n : Int) - 1) (-1) (-1) = n := by
  unfold Builtin.Slice.slicePlaces
  rw [if_neg (by decide)]
  by_cases h : (n : Int) - 1 > -1
  · rw [if_pos h, show (- -1 : Int) = 1 from by decide, Int.ediv_one]
    omega
  · rw [if_neg h]
    omega
theorem fm_congr {α β : Type} {f g : α → Option β} : ∀ {l : List α}, (∀ k ∈ l, f k = g k) → l.filterMap f = l.filterMap g
  | [], _ => rfl
  | a :: l, h => by
    rw [List.filterMap_cons, List.filterMap_cons, h a (by simp), fm_congr fun k hk => h k (List.mem_cons_of_mem _ hk)]
theorem rev_pick (xs : Array Value) : ((List.range xs.size).filterMap fun (k : Nat) => xs[(((xs.size : Int) - 1) + (k : Int) * (-1)).toNat]?).toArray = xs.toList.reverse.toArray := by
  have e : (List.range xs.size).filterMap (fun (k : Nat) => xs[(((xs.size : Int) - 1) + (k : Int) * (-1)).toNat]?) = ((List.range xs.size).map fun k => xs.size - 1 - k).filterMap (xs[·]?) := by
    rw [List.filterMap_map]
    refine fm_congr fun k hk => ?_
    have := List.mem_range.mp hk
    show xs[_]? = xs[_]?
    rw [show (((xs.size : Int) - 1) + (k : Int) * (-1)).toNat = xs.size - 1 - k from by omega]
  rw [e, PySem.W.krv_range, List.filterMap_reverse, PySem.W.krv_all]
theorem getItem_tuple_rev {t sl : Addr} {items : Array Value} {vl vu vs : Value} {Q : Value → Shared → Prop} (ht : IsTup s.heap t items) (hs : s.heap.IsSliceOf sl vl vu vs) (pl : IsPart vl none) (pu : IsPart vu none) (ps : IsPart vs (some (-1)))
    (h : Q (.ref s.heap.objs.size) { s with heap := s.heap.push { cls := .type "tuple", data := .seq items.toList.reverse.toArray } }) (hsz : items.size ≤ sizeLine) : wpAny (model prog w) A (getItem (.ref t) (.ref sl)) Q E s := by
  have htake : sizeOk (.seq items.toList.reverse.toArray) := by
    show items.toList.reverse.toArray.size ≤ sizeLine
    simpa using hsz
  obtain ⟨os, hos, hcs, hds⟩ := id hs
  have hTs : s.TypeIs (.ref sl) "slice" := ⟨os, hos, hcs⟩
  unfold getItem
  try with_reducible refine wpAny_holding ?_
  first | refine wpAny_bind (wpAny_pure ?_) | skip
  refine wpAny_bind (wpAny_sequenceKey ht.typeIs (by decide) ?_)
  refine wpAny_bind (wpAny_callSpecial?_slot (name := Str.ofString "__getitem__") ht.typeIs PyProof.Rows.slot_tuple_getitem
    (wpAny_call_entry PyProof.Rows.slot_tuple_getitem ht.typeIs entry_tuple_getitem ?_ (args_tuple_getitem _ _)))
  show wpAny _ _ (Builtin.Tuple.tupleItemsOf (.ref t) >>= _) _ _ s
  refine wpAny_bind (tupleItemsOf_ ht ?_)
  refine wpAny_bind (wpAny_typeOf hTs ?_)
  rw [if_pos (by decide)]
  have ap : ∀ {Q : Int × Int × Nat → Shared → Prop}, Q ((items.size : Int) - 1, -1, items.size) s → wpAny (model prog w) A.in1 (Builtin.Slice.sliceApplied (.ref sl) (pure (items.size : Int))) Q E s := fun {Q} q => by
    unfold Builtin.Slice.sliceApplied Builtin.Slice.sliceFields
    refine wpAny_bind (wpAny_bind (wpAny_field hos hds (x := vl) rfl (wpAny_bind (wpAny_field hos hds (x := vu) rfl (wpAny_bind (wpAny_field hos hds (x := vs) rfl (wpAny_pure ?_)))))))
    refine wpAny_bind (slicePart_ ps ?_)
    show wpAny _ _ (if ((-1 : Int) == 0) = true then _ else _) _ _ s
    rw [if_neg (by decide)]
    refine wpAny_bind (slicePart_ pl (wpAny_bind (slicePart_ pu (wpAny_bind (wpAny_pure ?_)))))
    show wpAny _ _ (pure ((items.size : Int) - 1, (-1 : Int), Builtin.Slice.slicePlaces ((items.size : Int) - 1) (-1) (-1))) _ _ s
    rw [rev_places]
    exact wpAny_pure q
  refine wpAny_bind (ap ?_)
  show wpAny _ _ (if (((items.size : Int) - 1) == 0 && (-1 : Int) == 1 && items.size == items.size) = true then _ else _) _ _ s
  rw [if_neg (by simp), rev_pick]
  first
    | exact wpAny_bind (m := Builtin.Tuple.tupleExact _) (wpAny_newObj_type (wpAny_pure ⟨_, rfl, wpAny_pure h⟩) htake)
    | exact wpAny_bind (m := Builtin.Tuple.tupleExact _) (wpAny_newObj_type (wpAny_bind (wpAny_pure (wpAny_pure ⟨_, rfl, wpAny_pure h⟩))) htake)
    | exact wpAny_bind (wpAny_bind (m := Builtin.Tuple.tupleExact _) (wpAny_newObj_type (wpAny_pure (wpAny_pure ⟨_, rfl, wpAny_pure h⟩)) htake))
    | exact wpAny_bind (wpAny_bind (m := Builtin.Tuple.tupleExact _) (wpAny_newObj_type (wpAny_pure ⟨_, rfl, wpAny_pure h⟩) htake))
end
/-- a text turned about -/
def revS (z : Str) : Str := ⟨((Builtin.Str.strSliceIndices none none (-1) z.length).filterMap (z.cps[·]?)).toArray⟩
theorem revS_eq (z : Str) : revS z = ⟨z.cps.toList.reverse.toArray⟩ := by
  unfold revS Builtin.Str.strSliceIndices
  simp only [show ¬ ((-1 : Int) > 0) from by decide, if_false]
  rw [PySem.W.krv_sliceRange, PySem.W.krv_range, List.filterMap_reverse]
  have e : z.length = z.cps.size := rfl
  rw [e, PySem.W.krv_all]
theorem revS_len (z : Str) : (revS z).length = z.length := by
  rw [revS_eq]
  show (z.cps.toList.reverse.toArray).size = z.cps.size
  simp
def tRevG (K : PySem.W.Frag) (te : TE) : TE := fun σ H Q => te σ H fun x H1 => (∃ a xs, x = .ref a ∧ SqL K H1 a xs ∧ ∀ p, H1 p = none → Q (.ref p) (upd H1 p (.lst xs.reverse))) ∨ (∃ a xs, x = .ref a ∧ SqT K H1 a xs ∧ ∀ p, H1 p = none → Q (.ref p) (upd H1 p (.tup xs.reverse))) ∨
  ∃ z, x = .str z ∧ z.length ≤ sizeLine ∧ Q (.str (revS z)) H1
theorem pe_revG {X : Cx} {e : Expr} {te : TE} {k : Nat} {p1 p2 p3 pos : Pos} (he : PE X e te) : PE X (.Subscript e (.Slice none none (some (.UnaryOp .USub (.Constant (.int 1) k p1) p2)) p3) pos) (tRevG X.K te) := by
  refine ⟨fun pins s σ H Q I h => ?_⟩
  refine Subscript_ (thn (he.run pins s σ H _ I h) fun v s1 ⟨x, H1, I1, r1, q1⟩ => ?_)
  have hst : PO X (some (.UnaryOp .USub (.Constant (.int 1) k p1) p2)) (tPart (tUn (rU fun i => .int (-i)) (tC (.int 1)))) := po_some (pe_un un_neg pe_int)
  refine wpAny_Slice (thn (po_none.run pins s1 σ H1 (fun o H2 => o = none ∧ H2 = H1) I1 ⟨rfl, rfl⟩) fun vl s2 ⟨l, H2, I2, pl, el, e2⟩ => ?_)
  subst el e2
  refine thn (po_none.run pins s2 σ H2 (fun o H3 => o = none ∧ H3 = H2) I2 ⟨rfl, rfl⟩) fun vu s3 ⟨u, H3, I3, pu, eu, e3⟩ => ?_
  subst eu e3
  refine thn (hst.run pins s3 σ H3 (fun o H4 => o = some (-1) ∧ H4 = H3) I3 ⟨1, rfl, -1, rfl, rfl, rfl⟩) fun vs s4 ⟨o, H4, I4, ps, eo, e4⟩ => ?_
  subst eo e4
  have I5 : Inv X pins σ H4 { s4 with heap := s4.heap.push { cls := .type "slice", data := .fields #[vl, vu, vs] } } := I4.kept (t' := s4.toks) fun b ob q => Heap.get?_push_of_some _ q
  rcases q1 with ⟨a, xs, ex, hx, q⟩ | ⟨a, xs, ex, hx, q⟩ | ⟨z, ex, hz, q⟩
  · subst ex
    cases r1
    obtain ⟨its, r, ht, hz⟩ := I5.list hx
    have hlen := r.length
    refine tail_any (ops := [.ref a, .ref s4.heap.objs.size]) ht.isList.typeIs (PySem.slot_list_getitem.lookup) ?_ (by with_unfolding_all rfl)
    refine wpAny_getItem_list_slice ht.isList (Heap.IsSliceOf.new _ vl vu vs) pl pu ps (by decide) ?_ (by rw [List.size_toArray]; omega)
    rw [PySem.W.krv_pick]
    refine ⟨.ref _, _, I5.laid (t' := s4.toks) (o := .lst xs.reverse) (fun b ob q => Heap.get?_push_of_some _ q) (Nat.le_refl _) ?_, rfl, q _ (I5.hok.fresh (Nat.le_refl _))⟩
    exact ⟨by rw [List.length_reverse]; exact hz, _, 0, r.reverse, Heap.get?_push_size _ rfl⟩
  · subst ex
    cases r1
    obtain ⟨its, r, ht, hz⟩ := I5.tuple hx
    have hlen := r.length
    refine tail_any (ops := [.ref a, .ref s4.heap.objs.size]) ht.typeIs (PyProof.Rows.slot_tuple_getitem.lookup) ?_ (by with_unfolding_all rfl)
    refine getItem_tuple_rev ht (Heap.IsSliceOf.new _ vl vu vs) pl pu ps ?_ (by rw [List.size_toArray]; omega)
    refine ⟨.ref _, _, I5.laid (t' := s4.toks) (o := .tup xs.reverse) (fun b ob q => Heap.get?_push_of_some _ q) (Nat.le_refl _) ?_, rfl, q _ (I5.hok.fresh (Nat.le_refl _))⟩
    exact ⟨by rw [List.length_reverse]; exact hz, _, r.reverse, IsTup.new _ _⟩
  · subst ex
    obtain ⟨t, rfl⟩ := r1
    obtain ⟨lo, rfl, el⟩ := IsPart.raw pl
    obtain ⟨up, rfl, eu⟩ := IsPart.raw pu
    obtain ⟨sp, rfl, es⟩ := IsPart.raw ps
    obtain rfl : lo = none := by cases lo <;> simp_all
    obtain rfl : up = none := by cases up <;> simp_all
    refine tail_any (ops := [.str z t, .ref s4.heap.objs.size]) (typeIs_str _ _ _) (F.slot_str_getitem.lookup) ?_ (by with_unfolding_all rfl)
    refine wpAny_getItem_str_slice (l := none) (u := none) (st := sp) ⟨_, Heap.get?_push_size _ rfl, rfl, rfl⟩ (by rw [es]; rfl) ?_
    unfold sliceMade slicePicked
    rw [es]
    rw [if_neg (by simp)]
    refine ⟨?_, .str (revS z), H4, I5.tok _, ⟨_, rfl⟩, q⟩
    have := revS_len z
    show (revS z).length ≤ sizeLine
    omega
/-- any of these turned about -/
def revGD : D → (D → Prop) → Prop
  | .lst xs, Q => Q (.lst xs.reverse)
  | .tup xs, Q => Q (.tup xs.reverse)
  | .str z, Q => z.length ≤ sizeLine ∧ Q (.str (revS z))
  | _, _ => False
theorem de_revG {F : Fx} {X : Cx} {e : Expr} {te : DT} {k : Nat} {p1 p2 p3 pos : Pos} (he : DE F X e te) : DE F X (.Subscript e (.Slice none none (some (.UnaryOp .USub (.Constant (.int 1) k p1) p2)) p3) pos) (fun ρ Q => te ρ fun d => revGD d Q) := by
  refine ⟨fun ρ Q Q' k q => he.mono _ _ _ (fun d q => by cases d <;> first | exact q.elim | exact k _ q | exact ⟨q.1, k _ q.2⟩) q, (pe_revG he.run).imp fun σ H Q ⟨I, ρ, A, q⟩ => rdE_next he.mono A q fun d v I1 H1 q1 s rv => ?_⟩
  cases rv with
  | @lst q zs es a r =>
    refine .inl ⟨_, _, rfl, .of (s.st.sub _ _ a), fun p hp => ?_⟩
    have l' := s.st.laid hp (.lst zs.reverse)
    exact q1 _ _ _ (s.trans l') (.lst upd_same (r.reverse.mono l'.i))
  | @tup q zs es a r =>
    refine .inr (.inl ⟨_, _, rfl, Same.seqT s.st.sub a, fun p hp => ?_⟩)
    have l' := s.st.laid hp (.tup zs.reverse)
    exact q1 _ _ _ (s.trans l') (.tup (.of upd_same) (r.reverse.mono l'.i))
  | str z => exact .inr (.inr ⟨z, rfl, q1.1, q1.2 _ _ _ s (.str _)⟩)
  | _ => exact q1.elim
end Dk
namespace KB
open PySem L2 Dk
/-- a thing of at most n levels, of at most this weight -/
structure Tg (n m : Nat) (d : D) : Prop where
  g : gd d = true
  dp : dpD d ≤ n
  wt : wtD d ≤ m
theorem Tg.mono {n m n' m' : Nat} {d : D} (h : Tg n m d) (a : n ≤ n') (b : m ≤ m') : Tg n' m' d := ⟨h.g, Nat.le_trans h.dp a, Nat.le_trans h.wt b⟩
theorem depth_all : ∀ {xs : List D} {n : Nat}, (∀ x ∈ xs, dpD x ≤ n) → PyData.depthAll (pyFs xs) ≤ n
  | [], n, _ => by simp [pyFs, PyData.depthAll]
  | x :: xs, n, h => by
    simp only [pyFs, PyData.depthAll]
    exact Nat.max_le.mpr ⟨h x (by simp), depth_all fun y hy => h y (List.mem_cons_of_mem _ hy)⟩
theorem dp_lst {xs : List D} : dpD (.lst xs) = PyData.depthAll (pyFs xs) + 1 := by
  unfold dpD
  rw [pyF, PyData.depth]
  try omega
structure Tgs (n m : Nat) (xs : List D) : Prop where
  g : ∀ x ∈ xs, gd x = true
  dp : ∀ x ∈ xs, dpD x ≤ n
  wt : wts xs ≤ m
theorem Tgs.tup {n m : Nat} {xs : List D} (h : Tgs n m xs) : Tg (n + 1) (m + 13) (.tup xs) := ⟨by rw [gd]; exact gds_mem.mpr h.g, by rw [dp_tup]; have := depth_all h.dp; omega, by rw [wtD]; have := h.wt; omega⟩
theorem Tgs.lst {n m : Nat} {xs : List D} (h : Tgs n m xs) : Tg (n + 1) (m + 13) (.lst xs) := ⟨by rw [gd]; exact gds_mem.mpr h.g, by rw [dp_lst]; have := depth_all h.dp; omega, by rw [wtD]; have := h.wt; omega⟩
theorem Tgs.nil {n m : Nat} : Tgs n m [] := ⟨by simp, by simp, by simp [wts]⟩
theorem Tgs.cons {n m m' : Nat} {x : D} {xs : List D} (h : Tg n m x) (h' : Tgs n m' xs) : Tgs n (m + 2 + m') (x :: xs) := by
  refine ⟨fun y hy => ?_, fun y hy => ?_, by rw [wts]; have := h.wt; have := h'.wt; omega⟩
  · rcases List.mem_cons.mp hy with rfl | hy
    · exact h.g
    · exact h'.g y hy
  · rcases List.mem_cons.mp hy with rfl | hy
    · exact h.dp
    · exact h'.dp y hy
theorem Tgs.app {n m m' : Nat} {xs ys : List D} (h : Tgs n m xs) (h' : Tgs n m' ys) : Tgs n (m + m') (xs ++ ys) :=
  ⟨fun y hy => (List.mem_append.mp hy).elim (h.g y) (h'.g y), fun y hy => (List.mem_append.mp hy).elim (h.dp y) (h'.dp y), by rw [wts_app]; have := h.wt; have := h'.wt; omega⟩
theorem Tgs.mono {n m n' m' : Nat} {d : List D} (h : Tgs n m d) (a : n ≤ n') (b : m ≤ m') : Tgs n' m' d := ⟨h.g, fun x hx => Nat.le_trans (h.dp x hx) a, Nat.le_trans h.wt b⟩
theorem Tgs.get {n m : Nat} {xs : List D} (h : Tgs n m xs) {x : D} (hx : x ∈ xs) : Tg n m x := ⟨h.g x hx, h.dp x hx, by have := wts_mem hx; have := h.wt; omega⟩
theorem Tg.tups {n m : Nat} {xs : List D} (h : Tg n m (.tup xs)) : ∃ n' m', n = n' + 1 ∧ m = m' + 13 ∧ Tgs n' m' xs := by
  have h1 := h.dp
  have h2 := h.wt
  rw [dp_tup] at h1
  rw [wtD] at h2
  refine ⟨n - 1, m - 13, by omega, by omega, gds_mem.mp (by have := h.g; rwa [gd] at this), fun x hx => depth_mem (xs := xs) (by omega) hx, by omega⟩
theorem wts_cut {xs : List D} {lo hi : Option Int} : wts (cutD xs lo hi) ≤ wts xs := by
  unfold cutD
  have h1 := wts_take_drop (HT.sIx xs.length 0 lo) xs
  have h2 := wts_take_drop (HT.sIx xs.length xs.length hi - HT.sIx xs.length 0 lo) (xs.drop (HT.sIx xs.length 0 lo))
  omega
theorem cut_mem {xs : List D} {lo hi : Option Int} {x : D} (h : x ∈ cutD xs lo hi) : x ∈ xs := List.mem_of_mem_drop (List.mem_of_mem_take h)
theorem Tgs.cut {n m : Nat} {xs : List D} (h : Tgs n m xs) (lo hi : Option Int) : Tgs n m (cutD xs lo hi) := ⟨fun x hx => h.g x (cut_mem hx), fun x hx => h.dp x (cut_mem hx), Nat.le_trans wts_cut h.wt⟩
theorem Tgs.rev {n m : Nat} {xs : List D} (h : Tgs n m xs) : Tgs n m xs.reverse := ⟨fun x hx => h.g x (List.mem_reverse.mp hx), fun x hx => h.dp x (List.mem_reverse.mp hx), by rw [wts_rev]; exact h.wt⟩
theorem sIx_nat {n d i : Nat} (h : i ≤ n) : HT.sIx n d (some (i : Int)) = i := by
  unfold HT.sIx
  first
    | (simp; omega)
    | (simp only; rw [if_neg (by omega)]; simp; omega)
    | (have : ¬ ((i : Int) < 0) := by omega
       simp [this]; omega)
theorem cut_take {xs : List D} {i : Nat} (h : i ≤ xs.length) : cutD xs none (some (i : Int)) = xs.take i := by
  unfold cutD
  rw [sIx_nat h]
  rfl
theorem cut_drop {xs : List D} {i : Nat} (h : i ≤ xs.length) : cutD xs (some (i : Int)) none = xs.drop i := by
  unfold cutD
  rw [sIx_nat h]
  show (xs.drop i).take (xs.length - i) = _
  rw [List.take_of_length_le (by rw [List.length_drop]; omega)]
/-- signs -/
theorem ascii_mem {x : Str} : ascii x = true ↔ ∀ c ∈ x.cps.toList, 32 ≤ c ∧ c < 127 := by
  unfold ascii
  rw [← Array.all_toList, List.all_eq_true]
  simp only [decide_eq_true_eq]
theorem ascii_app {x y : Str} (h : ascii x = true) (h' : ascii y = true) : ascii (x ++ y) = true := by
  rw [ascii_mem] at h h' ⊢
  intro c hc
  rw [show (x ++ y).cps = x.cps ++ y.cps from rfl, Array.toList_append] at hc
  exact (List.mem_append.mp hc).elim (h c) (h' c)
theorem ascii_sub {x y : Str} (h : ascii x = true) (s : ∀ c ∈ y.cps.toList, c ∈ x.cps.toList) : ascii y = true := by
  rw [ascii_mem] at h ⊢
  exact fun c hc => h c (s c hc)
theorem ascii_upper {x : Str} (h : ascii x = true) : ascii (Txt.upper x) = true ∧ (Txt.upper x).length = x.length := by
  rw [ascii_mem] at h
  rw [PyProof.Rows.upper_ascii fun c hc => by have := h c hc; omega]
  refine ⟨?_, ?_⟩
  · rw [ascii_mem]
    intro c hc
    rw [Array.toList_map] at hc
    obtain ⟨d, hd, rfl⟩ := List.mem_map.mp hc
    have := h d hd
    unfold PyProof.Rows.up1
    split <;> omega
  · unfold Str.length
    simp
theorem Tg.str {n m : Nat} {x : Str} (h : ascii x = true) (l : 10 * x.length + 12 ≤ m) : Tg n m (.str x) := ⟨by rw [gd]; exact h, by simp [dpD, pyF, PyData.depth], by rw [wtD]; exact l⟩
theorem Tg.int {n m : Nat} {i : Int} (h : i.natAbs.log2 < 1900) (l : 40 * i.natAbs.log2 + 12 ≤ m) : Tg n m (.int i) := ⟨by rw [gd]; exact decide_eq_true h, by simp [dpD, pyF, PyData.depth], by rw [wtD]; exact l⟩
theorem Tg.bl {n m : Nat} {b : Bool} (l : 10 ≤ m) : Tg n m (.bl b) := ⟨by simp [gd], by simp [dpD, pyF, PyData.depth], by rw [wtD]; exact l⟩
theorem Tg.non {n m : Nat} (l : 10 ≤ m) : Tg n m .non := ⟨by simp [gd], by simp [dpD, pyF, PyData.depth], by rw [wtD]; exact l⟩
theorem ix_any {xs : List D} {i : Int} {Q : D → Prop} (h0 : 0 ≤ i) (h1 : i < xs.length) (q : ∀ x ∈ xs, Q x) : ixD (.lst xs) (.int i) Q := by
  obtain ⟨j, rfl⟩ := Int.eq_ofNat_of_zero_le h0
  have hj : j < xs.length := by omega
  exact ⟨xs[j], atI_nat (List.getElem?_eq_getElem hj), q _ (List.getElem_mem hj)⟩
theorem forall_cons {α : Type} {a : α} {l : List α} {P : α → Prop} (h : P a) (h' : ∀ x ∈ l, P x) : ∀ x ∈ a :: l, P x := fun x hx => by
  rcases List.mem_cons.mp hx with rfl | hx
  · exact h
  · exact h' x hx
theorem forall_nil {α : Type} {P : α → Prop} : ∀ x ∈ ([] : List α), P x := fun x hx => by cases hx
theorem gd_str {x : Str} (h : gd (.str x) = true) : ascii x = true := by rwa [gd] at h
theorem wt_str {n m : Nat} {x : Str} (h : Tg n m (.str x)) : 10 * x.length + 12 ≤ m := by have := h.wt; rwa [wtD] at this
theorem log_le {a b : Nat} (h : a ≤ b) : a.log2 ≤ b.log2 := by
  by_cases z : a = 0
  · subst z; simp
  have hb : b ≠ 0 := by omega
  exact (Nat.le_log2 hb).mpr (Nat.le_trans (Nat.log2_self_le z) h)
end KB
namespace Dk
open PySem L2
open PyProof.Rows (envOfC)
def adrs (es : List Ent) : List Addr := es.filterMap Ent.adr
/-- they are all there, each at its place, none of them known to others -/
structure Held (F : Fx) (K : PySem.W.Frag) (I H : Hp) (es : List Ent) : Prop where
  nd : (adrs es).Nodup
  at_ : ∀ e ∈ es, ∃ p o, e.adr = some p ∧ OwnAt F K I H e p o
section
variable {F : Fx} {K : PySem.W.Frag} {I H I' H' : Hp} {ρ : DEnv} {σ : St} {es : List Ent}
theorem Held.step (h : Held F K I H es) (s : Stp F.W I H I' H') : Held F K I' H' es := ⟨h.nd, fun e he => let ⟨p, o, a, b⟩ := h.at_ e he; ⟨p, o, a, b.step s⟩⟩
end
end Dk
namespace Dk
open PySem L2
open PyProof.Rows (envOfC)
section
variable {F : Fx} {K : PySem.W.Frag} {I H I' H' : Hp} {ρ : DEnv} {σ : St} {es : List Ent}
/-- nothing is held as yet: any base will do -/
theorem At.base {W : Wd} {B : Hp} (A : At ⟨W, H, I⟩ K I ρ σ H) (hB : ∀ b o, B b = some o → H b = some o) : At ⟨W, B, I⟩ K I ρ σ H ∧ ∀ (i : Nat) e, ρ[i]? = some (some e) → ¬ e.isOwn := by
  have no : ∀ (i : Nat) e, ρ[i]? = some (some e) → ¬ e.isOwn := fun i e h o => by
    obtain ⟨v, h1, h2⟩ := A.env i e h
    obtain ⟨p, u, _, w⟩ := h2.own o
    have e1 : H p = none := w.nb
    rw [w.hp] at e1
    cases e1
  refine ⟨⟨⟨Same.refl I, A.st, fun b o e _ => hB b o e, fun b o e n => n⟩, A.len, fun i e h => ?_, A.dis⟩, no⟩
  obtain ⟨v, h1, h2⟩ := A.env i e h
  refine ⟨v, h1, ?_⟩
  rcases h2 with h2 | ⟨p, o, rfl, w⟩
  · exact .inl h2
  · exact absurd w.rep.isOwn (no i e h)
end
end Dk
namespace Dk
open PySem L2
end Dk
namespace Dk
open PySem L2
def lcS (g : DGT) (tc : DB) (te : DTS2) (vs : List Nat) : List D → DEnv → (List D → DEnv → Prop) → Prop
  | [], ρ, Q => Q [] ρ
  | d :: ds, ρ, Q => g d ρ fun ρ2 => tc ρ2 fun b => if b = true then te ρ2 fun y ρ3 => lcS g tc te vs ds (wipeD ρ3 vs) fun ys ρ4 => Q (y :: ys) ρ4 else lcS g tc te vs ds (wipeD ρ2 vs) Q
section
variable {F : Fx} {X Y : Cx} {K : PySem.W.Frag} {I H I' H' : Hp} {ρ : DEnv} {σ : St} {elt tg iter : Expr} {ifs : List Expr} {scope : Scope} {own : List (Str × Nat)} {pos : Pos} {ti : DAT} {js vs : List Nat} {g : DGT} {tc : DB} {te : DTS2}
theorem lcS.mono (hg : ∀ d ρ (Q Q' : DEnv → Prop), (∀ ρ, Q ρ → Q' ρ) → g d ρ Q → g d ρ Q') (ht : ∀ ρ (Q Q' : Bool → Prop), (∀ d, Q d → Q' d) → tc ρ Q → tc ρ Q') (he : ∀ ρ (Q Q' : D → DEnv → Prop), (∀ d ρ, Q d ρ → Q' d ρ) → te ρ Q → te ρ Q') : ∀ (ds : List D) (ρ : DEnv) (Q Q' : List D → DEnv → Prop), (∀ ys ρ, Q ys ρ → Q' ys ρ) → lcS g tc te vs ds ρ Q → lcS g tc te vs ds ρ Q'
  | [], ρ, Q, Q', k, h => k _ _ h
  | d :: ds, ρ, Q, Q', k, h => hg _ _ _ _ (fun ρ2 q => ht _ _ _ (fun b q => by
      cases b
      · exact lcS.mono hg ht he ds _ _ _ k q
      · exact he _ _ _ (fun y ρ3 q => lcS.mono hg ht he ds _ _ _ (fun ys ρ4 => k _ _) q) q) q) h
end
end Dk
namespace Dk
open PySem L2
open PyProof.Rows (envOfC)
end Dk
namespace Dk
open PySem L2
end Dk
namespace Dk
open PySem L2
end Dk
namespace Dk
open PySem L2
end Dk
namespace Dk
open PySem L2
open PyProof.Rows (envOfC)
end Dk
namespace Dk
open PySem L2
end Dk
namespace Dk
open PySem L2
inductive Prs (F : Fx) (K : PySem.W.Frag) (H0 I H : Hp) : List (D × List D) → List Addr → List V → Prop
  | nil : Prs F K H0 I H [] [] []
  | cons {t q : Addr} {v : V} {d : D} {ds : List D} {us : List V} {ps : List (D × List D)} {qs : List Addr} {ws : List V} : I t = some (.tup [v, .ref q]) → Rep K I v d → H q = some (.lst us) → Reps K I us ds → I q = none → ¬ F.W.mv q → H0 q = none → Prs F K H0 I H ps qs ws → Prs F K H0 I H ((d, ds) :: ps) (q :: qs) (.ref t :: ws)
section
variable {F : Fx} {K : PySem.W.Frag} {H0 I H I' H' : Hp} {ps ps' : List (D × List D)} {qs qs' : List Addr} {ws ws' : List V}
theorem Prs.step (h : Prs F K H0 I H ps qs ws) (s : Stp F.W I H I' H') : Prs F K H0 I' H' ps qs ws := by
  induction h with
  | nil => exact .nil
  | cons a b c d e f g _ ih => exact .cons (s.i _ _ a) (b.mono s.i) (s.h _ _ c f) (d.mono s.i) (s.new _ _ c e) f g ih
theorem Prs.write (h : Prs F K H0 I H ps qs ws) {E : Addr} {o : HO} (hE : E ∉ qs) : Prs F K H0 I (upd H E o) ps qs ws := by
  induction h with
  | nil => exact .nil
  | cons a b c d e f g _ ih => exact .cons a b (by rw [upd_ne fun z => hE (by simp [z])]; exact c) d e f g (ih fun z => hE (List.mem_cons_of_mem _ z))
theorem Prs.append (h : Prs F K H0 I H ps qs ws) (h' : Prs F K H0 I H ps' qs' ws') : Prs F K H0 I H (ps ++ ps') (qs ++ qs') (ws ++ ws') := by
  induction h with
  | nil => exact h'
  | cons a b c d e f g _ ih => exact .cons a b c d e f g ih
theorem Prs.len (h : Prs F K H0 I H ps qs ws) : ps.length = qs.length ∧ ws.length = qs.length := by
  induction h with
  | nil => exact ⟨rfl, rfl⟩
  | cons _ _ _ _ _ _ _ _ ih => simp [ih]
theorem Prs.some (h : Prs F K H0 I H ps qs ws) : ∀ q ∈ qs, ∃ us, H q = Option.some (.lst us) := by
  induction h with
  | nil => intro q hq; simp at hq
  | cons a b c d e f g _ ih =>
    intro q hq
    rcases List.mem_cons.mp hq with rfl | hq
    · exact ⟨_, c⟩
    · exact ih q hq
end
/-- a list, a dict -/
def Mut (o : HO) : Prop := (∃ vs, o = .lst vs) ∨ ∃ kvs, o = .dK kvs
theorem Mut.noext {o : HO} (m : Mut o) : ∀ φ, o ≠ .ext φ := fun φ z => by
  rcases m with ⟨_, e⟩ | ⟨_, e⟩ <;> rw [z] at e <;> cases e
end Dk
namespace Dk
open PySem L2
end Dk
namespace Dk
open PySem L2
end Dk
namespace PySem.SeqAt
open AutoSeq1 (wpAny_loadPart')
open MeetsSeq MeetsSeq2 MeetsSeq3 SeqRoads2
end PySem.SeqAt
namespace Dk
open PySem L2 PySem.SeqAt
open MeetsSeq MeetsSeq2 MeetsSeq3 SeqRoads2
end Dk
namespace PySem.SeqAt
open AutoSeq1 (wpAny_loadPart')
open MeetsSeq MeetsSeq2 MeetsSeq3 SeqRoads2
/-- a value of a built-in type of our data -/
inductive Pv (h : Heap) : Value → String → Prop
  | non : Pv h .none "NoneType"
  | bl (b : Bool) : Pv h (.bool b) "bool"
  | int (i : Int) (t : Tok) : Pv h (.int i t) "int"
  | str (x : Str) (t : Tok) : Pv h (.str x t) "str"
  | lst {a : Addr} {o : Obj} : h.get? a = some o → o.cls = .type "list" → Pv h (.ref a) "list"
  | tup {a : Addr} {o : Obj} : h.get? a = some o → o.cls = .type "tuple" → Pv h (.ref a) "tuple"
  | dic {a : Addr} {o : Obj} : h.get? a = some o → o.cls = .type "dict" → Pv h (.ref a) "dict"
section
variable {prog : Program} {w : World} {A : Around} {E : Value → Shared → Prop} {s : Shared} {u : Value} {T : String} {l C dx : Addr}
theorem Pv.type (p : Pv s.heap u T) : s.TypeIs u T := by
  cases p with
  | non => rfl
  | bl b => rfl
  | int i t => rfl
  | str x t => exact typeIs_str _ _ _
  | lst h c => exact ⟨_, h, c⟩
  | tup h c => exact ⟨_, h, c⟩
  | dic h c => exact ⟨_, h, c⟩
theorem Pv.mono {h h' : Heap} (k : ∀ b o, h.get? b = some o → h'.get? b = some o) (p : Pv h u T) : Pv h' u T := by
  cases p with
  | non => exact .non
  | bl b => exact .bl b
  | int i t => exact .int i t
  | str x t => exact .str x t
  | lst h c => exact .lst (k _ _ h) c
  | tup h c => exact .tup (k _ _ h) c
  | dic h c => exact .dic (k _ _ h) c
end
end PySem.SeqAt
namespace PySem.SeqAt
open AutoSeq1 (wpAny_loadPart')
open MeetsSeq MeetsSeq2 MeetsSeq3 SeqRoads2
end PySem.SeqAt
namespace Dk
open PySem L2 PySem.SeqAt
/-- a thing of a built-in type -/
def isPl : D → Bool
  | .obj _ _ => false
  | .opq _ => false
  | _ => true
section
variable {F : Fx} {X : Cx} {pins : List (Addr × Obj)} {σ : St} {I H : Hp} {s : Shared} {C : Addr} {S : DSp} {k : Nat} {ps : List Str}
/-- == of two things one of which is an object of the class at C -/
def eqM (C : Addr) (S : DSp) (d e : D) (Q : Bool → Prop) : Prop :=
  (∃ fs, d = .obj C fs ∧ (isPl e = true ∨ ∃ gs, e = .obj C gs) ∧ S.f [d, e] (fun r => ∃ b, r = .bl b ∧ Q b) fun _ => False) ∨
  (isPl d = true ∧ ∃ gs, e = .obj C gs ∧ S.f [e, d] (fun r => ∃ b, r = .bl b ∧ Q b) fun _ => False)
theorem eqM.mono {d e : D} {Q Q' : Bool → Prop} (k : ∀ b, Q b → Q' b) (h : eqM C S d e Q) : eqM C S d e Q' := by
  rcases h with ⟨fs, e1, e2, h⟩ | ⟨e1, gs, e2, h⟩
  · exact .inl ⟨fs, e1, e2, S.mono _ _ _ _ _ (fun r ⟨b, e, q⟩ => ⟨b, e, k _ q⟩) (fun _ h => h) h⟩
  · exact .inr ⟨e1, gs, e2, S.mono _ _ _ _ _ (fun r ⟨b, e, q⟩ => ⟨b, e, k _ q⟩) (fun _ h => h) h⟩
end
end Dk
namespace Dk
open PySem L2 PySem.SeqAt
mutual
def rigT : D → Bool
  | .str _ => true
  | .tup xs => rigTs xs
  | _ => false
def rigTs : List D → Bool
  | [] => true
  | d :: ds => rigT d && rigTs ds
end
/-- == of two items: the same object is equal to itself -/
def itM (C : Addr) (nm : Str) (S : DSp) (d e : D) (Q : Bool → Prop) : Prop :=
  (eqM C S d e Q ∧ ∀ fs gs, d = .obj C fs → e = .obj C gs → ∃ t t' fs' gs', fs = (nm, t) :: fs' ∧ gs = (nm, t') :: gs' ∧ rigT t = true ∧ rigT t' = true ∧ (t = t' → Q true)) ∨ ∃ i j, d = .int i ∧ e = .int j ∧ Q (i == j)
def tupM (C : Addr) (nm : Str) (S : DSp) : List D → List D → (Bool → Prop) → Prop
  | [], [], Q => Q true
  | d :: ds, e :: es, Q => itM C nm S d e fun b => (b = true → tupM C nm S ds es Q) ∧ (b = false → Q false)
  | _, _, _ => False
def inM (C : Addr) (nm : Str) (S : DSp) (x : D) : List D → (Bool → Prop) → Prop
  | [], Q => Q false
  | y :: ys, Q => itM C nm S y x fun b => (b = true → Q true) ∧ (b = false → inM C nm S x ys Q)
theorem itM.mono {C : Addr} {nm : Str} {S : DSp} {d e : D} {Q Q' : Bool → Prop} (k : ∀ b, Q b → Q' b) (h : itM C nm S d e Q) : itM C nm S d e Q' := by
  rcases h with ⟨h, g⟩ | ⟨i, j, e1, e2, q⟩
  · refine .inl ⟨h.mono k, fun fs gs e1 e2 => ?_⟩
    obtain ⟨t, t', fs', gs', a, b, c, d, q⟩ := g fs gs e1 e2
    exact ⟨t, t', fs', gs', a, b, c, d, fun z => k _ (q z)⟩
  · exact .inr ⟨i, j, e1, e2, k _ q⟩
theorem tupM.mono {C : Addr} {nm : Str} {S : DSp} {Q Q' : Bool → Prop} (k : ∀ b, Q b → Q' b) : ∀ {ds es : List D}, tupM C nm S ds es Q → tupM C nm S ds es Q'
  | [], [], h => k _ h
  | d :: ds, e :: es, h => itM.mono (fun b q => ⟨fun z => tupM.mono k (q.1 z), fun z => k _ (q.2 z)⟩) h
  | [], _ :: _, h => h.elim
  | _ :: _, [], h => h.elim
theorem inM.mono {C : Addr} {nm : Str} {S : DSp} {x : D} {Q Q' : Bool → Prop} (k : ∀ b, Q b → Q' b) : ∀ {ys : List D}, inM C nm S x ys Q → inM C nm S x ys Q'
  | [], h => k _ h
  | y :: ys, h => itM.mono (fun b q => ⟨fun z => k _ (q.1 z), fun z => inM.mono k (q.2 z)⟩) h
end Dk
namespace KB
open PySem L2 Dk
/-- kinds such as a book has, with worths or without -/
structure Wel (ks : List Kind) : Prop where
  ne : ks ≠ []
  kn : ∀ k ∈ ks, nameOk k.1 = true
  kb : ∀ k ∈ ks, k.2 ≠ []
  bn : ∀ k ∈ ks, ∀ b ∈ k.2, nameOk b.1 = true
  nd : (kNames ks).Nodup
  bd : (bNames ks).Nodup
  fl : ∀ k ∈ ks, ∀ b ∈ k.2, ∀ f ∈ b.2, f = numS ∨ f ∈ kNames ks
  s1 : ks.length ≤ 6
  s2 : ∀ k ∈ ks, k.2.length ≤ 8
  s3 : ∀ k ∈ ks, ∀ b ∈ k.2, b.2.length ≤ 8
theorem Wel.field {ks : List Kind} (g : Wel ks) {k : Kind} (hk : k ∈ ks) {b : Bough} (hb : b ∈ k.2) {f : Str} (hf : f ∈ b.2) : OkN 0 (.str f) := by
  rcases g.fl k hk b hb f hf with rfl | h
  · exact okN_num
  · obtain ⟨k', h1, rfl⟩ := List.mem_map.mp h
    exact okN_name (g.kn k' h1)
theorem Wel.okBough {ks : List Kind} (g : Wel ks) {k : Kind} (hk : k ∈ ks) {b : Bough} (hb : b ∈ k.2) : OkN 2 (boughD b) := okN_tup (k := 1) fun x hx => by
  simp only [List.mem_cons, List.not_mem_nil, or_false] at hx
  rcases hx with rfl | rfl
  · exact (okN_name (g.bn k hk b hb)).mono (by decide)
  · refine okN_tup (k := 0) fun y hy => ?_
    obtain ⟨f, hf, rfl⟩ := List.mem_map.mp hy
    exact g.field hk hb hf
theorem Wel.okKind {ks : List Kind} (g : Wel ks) {k : Kind} (hk : k ∈ ks) : OkN 4 (kindD k) := okN_tup (k := 3) fun x hx => by
  simp only [List.mem_cons, List.not_mem_nil, or_false] at hx
  rcases hx with rfl | rfl
  · exact (okN_name (g.kn k hk)).mono (by decide)
  · refine okN_tup (k := 2) fun y hy => ?_
    obtain ⟨b, hb, rfl⟩ := List.mem_map.mp hy
    exact g.okBough hk hb
theorem Wel.ok {ks : List Kind} (g : Wel ks) : OkN 5 (kindsD ks) := okN_tup (k := 4) fun x hx => by
  obtain ⟨k, hk, rfl⟩ := List.mem_map.mp hx
  exact g.okKind hk
def goodB (S : Str → Bool) (b : Bough) : Bool := b.2.all fun f => decide (f = numS) || S f
def stepK (S : Str → Bool) (k : Kind) : Str → Bool := fun f => S f || (decide (f = k.1) && k.2.any (goodB S))
def rnd (ks : List Kind) (S : Str → Bool) : Str → Bool := ks.foldl stepK S
def rnds (ks : List Kind) : Nat → Str → Bool
  | 0 => fun _ => false
  | n + 1 => rnd ks (rnds ks n)
def wthy (ks : List Kind) : Str → Bool := rnds ks ks.length
theorem map_inj {α : Type} {g : α → D} (h : ∀ a b, g a = g b → a = b) : ∀ {l l' : List α}, l.map g = l'.map g → l = l'
  | [], [], _ => rfl
  | [], _ :: _, e => by cases e
  | _ :: _, [], e => by cases e
  | a :: l, b :: l', e => by
    rw [List.map_cons, List.map_cons] at e
    obtain ⟨e1, e2⟩ := List.cons.inj e
    rw [h a b e1, map_inj h e2]
theorem kindsD_inj {ks ks' : List Kind} (e : kindsD ks = kindsD ks') : ks = ks' := by
  unfold kindsD at e
  refine map_inj (fun k k' e => ?_) (D.tup.inj e)
  unfold kindD at e
  have e1 := D.tup.inj e
  obtain ⟨a, e2⟩ := List.cons.inj e1
  obtain ⟨b, _⟩ := List.cons.inj e2
  have hb := map_inj (g := boughD) (fun x y e => by
    unfold boughD at e
    have e1 := D.tup.inj e
    obtain ⟨a, e2⟩ := List.cons.inj e1
    obtain ⟨b, _⟩ := List.cons.inj e2
    have := map_inj (g := D.str) (fun x y e => D.str.inj e) (D.tup.inj b)
    exact Prod.ext (D.str.inj a) this) (D.tup.inj b)
  exact Prod.ext (D.str.inj a) hb
end KB
namespace Dk
open PySem L2
abbrev DATS2 := DEnv → (List D → DEnv → Prop) → Prop
def rdIS (F : Fx) (K : PySem.W.Frag) (ti : DATS2) : TI := fun σ H QI => ∃ I ρ, At F K I ρ σ H ∧ ti ρ fun ds ρ1 => ∀ J I1 H1, Moved F σ ρ I H ρ1 I1 H1 → At F K I1 ρ1 σ H1 → JRep F.W K J I1 ds → QI J H1
structure DIS (F : Fx) (X : Cx) (tg e : Expr) (ti : DATS2) : Prop where
  mono : ∀ ρ (Q Q' : List D → DEnv → Prop), (∀ d ρ, Q d ρ → Q' d ρ) → ti ρ Q → ti ρ Q'
  run : PI X tg e (rdIS F X.K ti)
section
variable {F : Fx} {X : Cx} {tg e : Expr} {ti : DAT} {ts : DTS2}
theorem DI.dis (h : DI F X tg e ti) : DIS F X tg e (fun ρ Q => ti ρ fun ds => Q ds ρ) :=
  ⟨fun ρ Q Q' k q => h.mono _ _ _ (fun ds => k ds ρ) q, h.run.imp fun σ H R ⟨I, ρ, A, q⟩ => ⟨I, ρ, A, h.mono _ _ _ (fun ds q J I1 H1 s jr => q J I1 H1 (.of s) (A.step s) jr) q⟩⟩
end
/-- the list at E is no one's; the state that it was made in -/
structure AccB (F : Fx) (σ0 : St) (ρ0 : DEnv) (H0 : Hp) (E : Addr) : Prop where
  hm : ¬ F.W.mv E
  hB : F.B E = none
  hH : H0 E = none
  no : ¬ heldIn ρ0 σ0 E
/-- so far it holds ys -/
structure AccS (F : Fx) (K : PySem.W.Frag) (σ0 : St) (ρ0 : DEnv) (I0 H0 : Hp) (va : List Nat) (E : Addr) (I : Hp) (ρ : DEnv) (σ : St) (H : Hp) (ws : List V) (ys : List D) : Prop where
  A : At F K I ρ σ H
  sl : ∀ i, i ∉ va → σ[i]? = σ0[i]?
  ow : ∀ (i : Nat) e, ρ[i]? = some (some e) → e.isOwn → i ∉ va
  M : Moved F σ0 ρ0 I0 H0 ρ I H
  hE : H E = some (.lst ws)
  nE : I E = none
  r : Reps K I ws ys
section
variable {F : Fx} {K : PySem.W.Frag} {σ0 σ : St} {ρ0 ρ : DEnv} {I0 H0 I H I' H' : Hp} {va vs : List Nat} {E : Addr} {ws : List V} {ys : List D}
theorem AccS.wipe (S : AccS F K σ0 ρ0 I0 H0 va E I ρ σ H ws ys) (h : ∀ i ∈ vs, i ∈ va) : AccS F K σ0 ρ0 I0 H0 va E I (wipeD ρ vs) (wipe σ vs) H ws ys where
  A := S.A.wipe vs
  sl := fun i hi => (wipe_out fun z => hi (h i z)).trans (S.sl i hi)
  ow := fun i e a o => S.ow i e (wipeD_some a).1 o
  M := ⟨S.M.i, S.M.kp, fun i e a o => S.M.sub i e (wipeD_some a).1 o⟩
  hE := S.hE
  nE := S.nE
  r := S.r
theorem AccS.step (S : AccS F K σ0 ρ0 I0 H0 va E I ρ σ H ws ys) (B : AccB F σ0 ρ0 H0 E) (s : Stp F.W I H I' H') : AccS F K σ0 ρ0 I0 H0 va E I' ρ σ H' ws ys where
  A := S.A.step s
  sl := S.sl
  ow := S.ow
  M := ⟨Same.trans S.M.i s.i, fun p o e n mm nh => let ⟨e1, n1⟩ := S.M.kp p o e n mm nh; ⟨s.h _ _ e1 mm, s.new _ _ e1 n1⟩, S.M.sub⟩
  hE := s.h _ _ S.hE B.hm
  nE := s.new _ _ S.hE S.nE
  r := S.r.mono s.i
/-- held then is held at first -/
theorem AccS.back (S : AccS F K σ0 ρ0 I0 H0 va E I ρ σ H ws ys) {p : Addr} (h : heldIn ρ σ p) : heldIn ρ0 σ0 p := by
  obtain ⟨i, e, a, o, b⟩ := h
  obtain ⟨e0, a0, o0⟩ := S.M.sub i e a o
  exact ⟨i, e0, a0, o0, by rw [← S.sl i (S.ow i e a o)]; exact b⟩
end
abbrev DBT := Nat → DEnv → (List D → DEnv → Prop) → Prop
def loopE (g : DGT) (tc : DB) (bt : DBT) (vs : List Nat) : Nat → List D → DEnv → (List D → DEnv → Prop) → Prop
  | _, [], ρ, Q => Q [] ρ
  | n, d :: ds, ρ, Q => g d ρ fun ρ2 => tc ρ2 fun b => if b = true then bt n ρ2 fun zs ρ3 => loopE g tc bt vs (n + zs.length) ds (wipeD ρ3 vs) fun ys ρ4 => Q (zs ++ ys) ρ4 else loopE g tc bt vs n ds (wipeD ρ2 vs) Q
theorem loopE.mono {g : DGT} {tc : DB} {bt : DBT} {vs : List Nat} (hg : ∀ d ρ (Q Q' : DEnv → Prop), (∀ ρ, Q ρ → Q' ρ) → g d ρ Q → g d ρ Q') (ht : ∀ ρ (Q Q' : Bool → Prop), (∀ d, Q d → Q' d) → tc ρ Q → tc ρ Q') (hb : ∀ n ρ (Q Q' : List D → DEnv → Prop), (∀ d ρ, Q d ρ → Q' d ρ) → bt n ρ Q → bt n ρ Q') :
    ∀ (n : Nat) (ds : List D) (ρ : DEnv) (Q Q' : List D → DEnv → Prop), (∀ ys ρ, Q ys ρ → Q' ys ρ) → loopE g tc bt vs n ds ρ Q → loopE g tc bt vs n ds ρ Q'
  | n, [], ρ, Q, Q', k, h => k _ _ h
  | n, d :: ds, ρ, Q, Q', k, h => hg _ _ _ _ (fun ρ2 q => ht _ _ _ (fun b q => by
      cases b
      · exact loopE.mono hg ht hb n ds _ _ _ k q
      · exact hb _ _ _ _ (fun zs ρ3 q => loopE.mono hg ht hb _ ds _ _ _ (fun ys ρ4 => k _ _) q) q) q) h
end Dk
namespace Dk
open PySem L2
end Dk
namespace Dk
open PySem L2
/-- the inner list of slot g, where there is one, goes into the dict of slot i -/
def sinkR (i g : Nat) (t : DEnv → Prop) (ρ : DEnv) : Prop := t ρ ∨ ∃ n kvs k q xs, ρ[i]? = some (some (.ownD kvs)) ∧ ρ[g]? = some (some (.ownL q xs)) ∧ kvs[n]? = some (k, .opq q) ∧ t ((ρ.set g (some (.dat (.lst xs)))).set i (some (.ownD (kvs.set n (k, .lst xs)))))
theorem sinkR.of {i g : Nat} {t : DEnv → Prop} {ρ : DEnv} (P : DEnv → Prop) (h : ∀ ρ', P ρ' → t ρ') (hc : sinkR i g P ρ) : sinkR i g t ρ :=
  hc.imp (h _) fun ⟨n, kvs, k, q, xs, a, b, c, d⟩ => ⟨n, kvs, k, q, xs, a, b, c, h _ d⟩
end Dk
namespace Dk
open PySem L2
end Dk
namespace Dk
open PySem L2
end Dk
namespace Dk
open PySem L2
end Dk
namespace Tre
open PySem PySem.SeqAt PySem.W PyProof.Rows
open PySem.AutoSeq1 (wpAny_loadPart')
open PySem.MeetsSeq PySem.MeetsSeq2 PySem.MeetsSeq3 PySem.SeqRoads2
mutual
/-- comparable up to the first place that differs -/
def cmpU : PyData → PyData → Bool
  | .int _, .int _ => true
  | .str _, .str _ => true
  | .tuple xs, .tuple ys => cmpUs xs ys
  | _, _ => false
def cmpUs : List PyData → List PyData → Bool
  | x :: xs, y :: ys => cmpU x y && (!PyData.eqv x y || cmpUs xs ys)
  | [], _ => true
  | _ :: _, [] => true
end
end Tre
namespace Tre
open PySem PySem.SeqAt PySem.W PyProof.Rows Srt SrtO
/-- the order of what reads as data -/
def ltD (dat : Value → PyData) (u v : Value) : Bool := dataLt (dat u) (dat v)
section
variable {prog : Program} {w : World} {A : Around} {E : Value → Shared → Prop} {s : Shared}
/-- rows that may be sorted -/
structure KeysU (h : Heap) (A : Around) (vs : List Value) (dat : Value → PyData) (T : Value) : Prop where
  rd : ∀ v, v ∈ vs → ∃ as, Reads h v (dat v) as
  tup : ∀ v, v ∈ vs → ∃ x r, dat v = .tuple (x :: r) ∧ dataType x = T
  nt : (T != Value.type "tuple") = true
  tt : (T == T) = true
  cmp : ∀ v, v ∈ vs → ∀ u, u ∈ vs → cmpU (dat v) (dat u) = true
  lay : ∀ v, v ∈ vs → (dat v).canLay0 = true
  rm : ∀ v, v ∈ vs → A.units + (dat v).depth < cLine
theorem KeysU.keeps {h h' : Heap} {vs : List Value} {dat : Value → PyData} {T : Value} (K : KeysU h A vs dat T) (k : ∀ b o, h.get? b = some o → h'.get? b = some o) : KeysU h' A vs dat T :=
  ⟨fun v hv => let ⟨as, r⟩ := K.rd v hv; ⟨as, PyProof.Rows.Reads.keeps k r⟩, K.tup, K.nt, K.tt, K.cmp, K.lay, K.rm⟩
theorem each_dat {h : Heap} {dat : Value → PyData} : ∀ {vs : List Value}, (∀ v, v ∈ vs → ∃ as, Reads h v (dat v) as) → EachIs (fun v d => ∃ as, Reads h v d as) vs (vs.map dat)
  | [], _ => .nil
  | v :: vs, k => .cons (k v (List.mem_cons_self ..)) (each_dat fun u hu => k u (List.mem_cons_of_mem _ hu))
theorem KeysU.kind {vs : List Value} {dat : Value → PyData} {T : Value} {Q : SortKind → Shared → Prop} (K : KeysU s.heap A vs dat T) (h2 : 0 < vs.length) (hq : Q (tuples' true) s) : wpAny (model prog w) A (keyKind' vs.toArray) Q E s := by
  obtain ⟨fs, t1, t2, t3⟩ := each_katTups (each_dat K.rd) fun d hd => by
    obtain ⟨v, hv, rfl⟩ := List.mem_map.mp hd
    obtain ⟨x, r, e, _⟩ := K.tup v hv
    exact ⟨x, r, e⟩
  refine kat_kind (T := T) t1 (by omega) (fun f hf => ?_) K.tt (by rw [K.nt]; exact hq)
  obtain ⟨x, r, as, m1, m2⟩ := t3 f hf
  obtain ⟨v, hv, e⟩ := List.mem_map.mp m1
  obtain ⟨x', r', e', tx⟩ := K.tup v hv
  rw [e'] at e
  injection e with e
  obtain ⟨rfl, rfl⟩ := List.cons.inj e
  rw [← tx]
  exact looks_reads m2
end
end Tre
namespace Tre
open PySem PySem.SeqAt PySem.W PyProof.Rows Srt SrtO
theorem each_map {α β γ : Type} {R : α → γ → Prop} (f : β → γ) : ∀ {as : List α} {bs : List β}, EachIs (fun a b => R a (f b)) as bs → EachIs R as (bs.map f)
  | _, _, .nil => .nil
  | _, _, .cons r t => .cons r (each_map f t)
end Tre
namespace Dk
open PySem L2 Tre
end Dk
namespace Dk
open PySem L2 Tre
open PyProof.Rows Srt SrtO
end Dk
namespace Dk
open PySem L2 LamX
/-- the table at P: each code object that it tells stands still, and bears the name q -/
def TabI (I H : Hp) (P : Addr) (q : Str) : Prop := ∃ ps : Array Value, H P = some (.tbl ps) ∧ TriplesOk ps.toList ∧ ∀ (pos : Pos) (cv : Value), codeAmong pos ps.toList = some cv → ∃ c, cv = .ref c ∧ I c = some (CodeO c q)
theorem TabI.keep {I H I' H' : Hp} {P : Addr} {q : Str} (t : TabI I H P q) (s : SameX I I') (e : H' P = H P) : TabI I' H' P q := by
  obtain ⟨ps, h1, h2, h3⟩ := t
  refine ⟨ps, e.trans h1, h2, fun pos cv hc => ?_⟩
  obtain ⟨c, e1, e2⟩ := h3 pos cv hc
  exact ⟨c, e1, s _ _ e2⟩
theorem TabI.nil {I H : Hp} {P : Addr} {q : Str} (h : H P = some (.tbl #[])) : TabI I H P q := ⟨#[], h, True.intro, fun pos cv hc => by
  have z : codeAmong pos [] = some cv := hc
  simp [codeAmong] at z⟩
end Dk
namespace Dk
open PySem L2 NdefX LamX
end Dk
namespace Dk
open PySem L2 NdefX LamX
open PyProof.Rows (seqObj listItems_at listUpdate_at get?_update_seq)
end Dk
namespace Dk
open PySem L2 NdefX LamX
open PyProof.Rows (envOfC)
/-- a def of the text, its defaults dV, its code at c -/
structure FunV (K : PySem.W.Frag) (x qual : Str) (st : Stmt) (f : Addr) (fd : FuncData) (dV : Value) (c : Addr) : Prop where
  ex : ∃ (oc : Value) (od : Option Addr) (kV doc pm : Value) (an : Option Addr) (ct : Value) (osl : Array (Option Value)),
    fd = PySem.W.fnOf x qual (defArgs st) (defBody st) (defScope st) dV kV doc pm an (.ref c) ct ∧ K.lookup f = some ⟨oc, od, .func fd, osl⟩ ∧ PySem.W.codeIn K (.ref c) qual = true
  kp : PySem.W.keepIn K (.ref f) = true
section
variable {P : Program} {w : World} {K : PySem.W.Frag} {mg : Str → Option Value} {base : Heap} {dV : Value} {c : Addr}
theorem FunV.okD {W : Wd} {S : DSp} {x qual : Str} {st : Stmt} {f : Addr} {fd : FuncData} {N ps : List Str} {k : Nat} (Fn : FunV K x qual st f fd dV c) (Sc : FnScope N ps (defScope st)) (hn : S.n = ps.length)
    (hbody : ∀ (A : Around) (outer : List Env) (s : Shared) (H I : Hp) (ds : List D) (Q : D → Prop) (Ed : Ex → Prop) (E : XK), Rm k (A.deeper (envOfC qual (defScope st) s.heap.objs.size f (.ref c))) → S.f ds Q Ed →
      ∃ t, DSts ⟨W, H, I⟩ (cxOf CX0 P w K mg base N qual (defScope st) f (.ref c) A outer s H E).nox (defBody st) t ∧ t (defEnds Q) (startD N ds)) : GnOk P w K mg base CX0 (k + 1) f fd ps (spD W K S) := by
  obtain ⟨oc, od, kV, doc, pm, an, ct, osl, rfl, lk, hcd⟩ := Fn.ex
  refine gn_of lk hcd Sc (fun vs H Q E h => (spD_len _ _ _ _ h).trans hn) fun A outer s H vs Q E hr ⟨I, ds, si, r, h⟩ => ?_
  obtain ⟨t, h1, h2⟩ := hbody A outer s H I ds _ _ E hr h
  exact ⟨_, h1.run.nox, body_run rfl h1 si r h2⟩
/-- how it is called: the arguments us, behind them its own defaults from the j-th on -/
theorem FunV.binds {x qual : Str} {st : Stmt} {f T : Addr} {o : Obj} {its : List Value} {m n j : Nat} {fd : FuncData} {ps : List Str} (Fn : FunV K x qual st f fd (.ref T) c) (lT : K.lookup T = some o) (oT : o.data = .seq its.toArray m) (hn : n + (its.length - j) = ps.length)
    (h : ∀ (T : Addr) (kV doc pm : Value) (an : Option Addr) (cdv ct : Value) (us js : List Value), us.length = n → js.length = its.length → ∃ k, bindArgs (PySem.W.fnOf x qual (defArgs st) (defBody st) (defScope st) (.ref T) kV doc pm an cdv ct) ⟨us, []⟩ = seqItems? (.ref T) >>= k ∧ k (some js.toArray) = pure (ps.zip (us ++ js.drop j))) : Binds K fd ps (its.drop j) := by
  obtain ⟨oc, od, kV, doc, pm, an, ct, osl, rfl, lk, hcd⟩ := Fn.ex
  refine fun s us X hlen => ?_
  have l2 : us.length = n := by
    rw [List.length_append, List.length_drop] at hlen
    omega
  obtain ⟨k, e1, e2⟩ := h T kV doc pm an (.ref c) ct us its l2 rfl
  refine BindsTo.of_looks fun M => ?_
  rw [e1]
  exact looks_items X lT oT (.of_pure e2)
end
end Dk
namespace Dk
open PySem L2
end Dk
namespace Dk
open PySem L2
/-- a class that may be called: n by place, ks by name (as written); g their order -/
structure CalCK (P : Program) (w : World) (K : PySem.W.Frag) (mg : Str → Option Value) (base : Heap) (CX : CXT) (W : Wd) (k : Nat) (x : Str) (C : Addr) (ps : List Str) (n : Nat) (ks : List Str) (g : {α : Type} → List α → List α → List α) (S : DSp) : Prop where
  ex : ∃ f fd, Mk K C f ∧ GnOk P w K mg base CX k f fd ps (spInit W K C S) ∧ mg x = some (.ref C) ∧ KBn K fd ps (n + 1) ks (fun us ws => g us ws) (fun vs zs => g vs zs)
  len : ps.length = S.n + 1
  own : ∀ {α : Type} (a : α) (us ws : List α), g (a :: us) ws = a :: g us ws
  rel : ∀ {K : PySem.W.Frag} {I : Hp} {us vs : List V} {ds es : List D}, Reps K I us ds → Reps K I vs es → Reps K I (g us vs) (g ds es)
section
variable {P : Program} {w : World} {K : PySem.W.Frag} {mg : Str → Option Value} {base : Heap} {CX : CXT} {W : Wd} {k n : Nat} {x qual : Str} {C : Addr} {st : Stmt} {f : Addr} {fd : FuncData} {ps ks : List Str} {S : DSp} {g : {α : Type} → List α → List α → List α}
theorem CalCK.of (Fn : Fun K "__init__" qual st f fd) (M : Mk K C f) (G : GnOk P w K mg base CX k f fd ps (spInit W K C S)) (m : mg x = some (.ref C)) (hl : ps.length = S.n + 1) (own : ∀ {α : Type} (a : α) (us ws : List α), g (a :: us) ws = a :: g us ws)
    (rV : ∀ {vs zs : List V} {us ws : List Value}, Vals vs us → Vals zs ws → Vals (g vs zs) (g us ws)) (rD : ∀ {K : PySem.W.Frag} {I : Hp} {us vs : List V} {ds es : List D}, Reps K I us ds → Reps K I vs es → Reps K I (g us vs) (g ds es))
    (h : ∀ (kV doc pm : Value) (an : Option Addr) (cdv ct : Value) (us ws : List Value), us.length = n + 1 → ws.length = ks.length → bindArgs (PySem.W.fnOf "__init__" qual (defArgs st) (defBody st) (defScope st) .none kV doc pm an cdv ct) ⟨us, ks.zip ws⟩ = pure (ps.zip (g us ws))) : CalCK P w K mg base CX W k x C ps n ks g S := by
  refine ⟨⟨f, fd, M, G, m, fun s us ws _ l1 l2 => ?_, fun r z => rV r z⟩, hl, own, rD⟩
  obtain ⟨oc, od, kV, doc, pm, an, cdv, ct, osl, rfl, lk, hcd⟩ := Fn.ex
  exact .of_eq (h kV doc pm an cdv ct us ws l1 l2)
end
end Dk
namespace Dk
open PySem L2 PySem.Spec PyProof.Rows
end Dk
namespace Dk
open PySem L2
open PyProof.Rows (IntsAre)
theorem depth_ints : ∀ ns : List Int, PyData.depthAll (ns.map PyData.int) = 0
  | [] => by simp [PyData.depthAll]
  | n :: ns => by simp [PyData.depthAll, PyData.depth, depth_ints ns]
end Dk
namespace RZ
open PySem PySem.Spec PyProof.Rows L2
theorem ItAt.lt {k : Bool} {h : Heap} {it l : Addr} {n : Nat} (a : ItAt k h it l n) : it < h.objs.size := by
  obtain ⟨o, e, _⟩ := a.obj
  exact Heap.lt_size e
end RZ
namespace Dk
open PySem PySem.Spec PyProof.Rows L2 RZ
def zipLD (st : Bool) (ds : List D) (Q : D → Prop) : Prop := zipGD st ds fun rs => rs.length ≤ 1000 ∧ Q (.lst rs)
theorem zipLD.mono {st : Bool} {ds : List D} {Q Q' : D → Prop} (k : ∀ d, Q d → Q' d) : zipLD st ds Q → zipLD st ds Q' := zipGD.mono fun _ ⟨l, q⟩ => ⟨l, k _ q⟩
end Dk
namespace Dk
open PySem L2
/-- the first place of y among texts -/
def tixD (x y : D) (Q : D → Prop) : Prop := ∃ (ys : List Str) (z : Str) (j : Nat), x = .lst (ys.map D.str) ∧ y = .str z ∧ ys[j]? = some z ∧ (∀ m, m < j → ys[m]? ≠ some z) ∧ Q (.int (j : Nat))
theorem tixD.mono {x y : D} {Q Q' : D → Prop} (k : ∀ d, Q d → Q' d) : tixD x y Q → tixD x y Q' := fun ⟨ys, z, j, a, b, c, d, q⟩ => ⟨ys, z, j, a, b, c, d, k _ q⟩
end Dk
namespace Dk
open PySem L2
end Dk
namespace Dk
open PySem L2
end Dk
namespace Dk
open PySem L2
open PyProof.Rows (envOfC)
end Dk
namespace Dk
open PySem L2
section
variable {F : Fx} {K : PySem.W.Frag} {I H I' H' : Hp} {ρ ρ' ρ2 : DEnv} {σ σ' σ2 : L2.St}
theorem At.more {d : D} {v : V} (A : At F K I ρ σ H) (r : Rep K I v d) : At F K I (ρ ++ [some (.dat d)]) (σ ++ [some v]) H := by
  have hl := A.len
  refine ⟨A.stp, by simp [hl], fun j e hj => ?_, fun i j e e' w hij h1 h2 o1 o2 => ?_⟩
  · by_cases lt : j < ρ.length
    · rw [List.getElem?_append_left lt] at hj
      obtain ⟨u, a, b⟩ := A.env j e hj
      exact ⟨u, by rw [List.getElem?_append_left (by omega)]; exact a, b⟩
    · rw [List.getElem?_append_right (by omega)] at hj
      have h0 : j - ρ.length = 0 := by
        have := (List.getElem?_eq_some_iff.mp hj).1
        simpa using this
      rw [h0] at hj
      cases hj
      exact ⟨v, by rw [List.getElem?_append_right (by omega), show j - σ.length = 0 by omega]; rfl, .inl ⟨d, rfl, r⟩⟩
  · have own : ∀ (k : Nat) (en : Ent), (ρ ++ [some (Ent.dat d)])[k]? = some (some en) → en.isOwn → k < ρ.length ∧ ρ[k]? = some (some en) := fun k en hk ho => by
      by_cases lt : k < ρ.length
      · rw [List.getElem?_append_left lt] at hk
        exact ⟨lt, hk⟩
      · rw [List.getElem?_append_right (by omega)] at hk
        have h0 : k - ρ.length = 0 := by
          have := (List.getElem?_eq_some_iff.mp hk).1
          simpa using this
        rw [h0] at hk
        cases hk
        exact ho.elim
    obtain ⟨l1, a1⟩ := own i e h1 o1
    obtain ⟨l2, a2⟩ := own j e' h2 o2
    rw [List.getElem?_append_left (by omega), List.getElem?_append_left (by omega)]
    exact A.dis i j e e' w hij a1 a2 o1 o2
end
end Dk
namespace Dk
open PySem L2
open PyProof.Rows (IsTup IsTup.new sortedS)
end Dk
namespace Dk
open PySem L2 PySem.Spec PyProof.Rows
section
variable {F : Fx} {X : Cx} {o : Expr} {td : DT} {p pos apos mpos : Pos}
theorem vals_ints {K : PySem.W.Frag} {I : Hp} {ns : List Int} {ws : List V} (h : Reps K I ws (ns.map D.int)) : ws = ns.map V.int := h.intsV
end
end Dk
namespace Dk
open PySem L2
end Dk
namespace Dk
open PySem L2
end Dk
namespace Dk
open PySem L2
end Dk
namespace Dk
open PySem L2 PySem.Spec PyProof.Rows
section
variable {F : Fx} {X : Cx} {c a b e o : Expr} {tc : DB} {va vb to te : DT} {sa sb : DTS2} {oa ob t : DTO} {x f : Str} {C : Addr} {pos pos' p p1 p2 p3 apos cpos : Pos} {kk : Nat}
def RL0 (b0 : Bool) (K : PySem.W.Frag) : R2 := fun x y H Q => ∃ a b xs, x = .ref a ∧ y = .ref b ∧ SqL K H a xs ∧ SqL K H b [] ∧ Q (.bl (b0 == xs.isEmpty)) H
theorem or_eqL0 (hu : X.A.units < cLine) : OpR X (compareOp .Eq) (RL0 true X.K) := by
  intro pins s σ H x y v u Q J rx ry h
  obtain ⟨l, m, xs, rfl, rfl, hx, hy, q⟩ := h
  cases rx
  cases ry
  obtain ⟨its, rv, t1, _⟩ := J.list hx
  obtain ⟨its2, rv2, t2, _⟩ := J.list hy
  cases rv2
  have hl := rv.length
  show wpAny (model X.prog X.w) X.A (richCompare .Eq (.ref l) (.ref m)) (EP X pins σ Q) X.xe s
  cases xs with
  | nil =>
    cases rv
    exact SeqAt.RcAt.lists (e := fun _ => true) t1.isList t2.isList rfl hu (fun j _ h2 => absurd h2 (Nat.not_lt_zero _)) X.prog X.w _ _ ⟨.bl true, H, J, rfl, q⟩
  | cons x xs =>
    refine SeqAt.RcAt.lists_lengths t1.isList t2.isList ?_ hu X.prog X.w _ _ ⟨.bl false, H, J, rfl, q⟩
    cases its with
    | nil => simp at hl
    | cons _ _ => simp
theorem or_neL0 (hu : X.A.units < cLine) : OpR X (compareOp .NotEq) (RL0 false X.K) := by
  intro pins s σ H x y v u Q J rx ry h
  obtain ⟨l, m, xs, rfl, rfl, hx, hy, q⟩ := h
  cases rx
  cases ry
  obtain ⟨its, rv, t1, _⟩ := J.list hx
  obtain ⟨its2, rv2, t2, _⟩ := J.list hy
  cases rv2
  have hl := rv.length
  show wpAny (model X.prog X.w) X.A (richCompare .NotEq (.ref l) (.ref m)) (EP X pins σ Q) X.xe s
  cases xs with
  | nil =>
    cases rv
    exact SeqAt.RcNeAt.lists (e := fun _ => true) t1.isList t2.isList rfl hu (fun j _ h2 => absurd h2 (Nat.not_lt_zero _)) X.prog X.w _ _ ⟨.bl false, H, J, rfl, q⟩
  | cons x xs =>
    refine SeqAt.RcNeAt.lists_lengths t1.isList t2.isList ?_ hu X.prog X.w _ _ ⟨.bl true, H, J, rfl, q⟩
    cases its with
    | nil => simp at hl
    | cons _ _ => simp
end
end Dk
namespace Dk
open PySem L2
end Dk
namespace PySem
end PySem
namespace Dk
open PySem L2
end Dk
namespace Dk
open PySem L2
end Dk
namespace DkS
open PySem PySem.Spec PyProof.Rows
section
variable {prog : Program} {w : World} {A : Around} {E : Value → Shared → Prop} {s : Shared}
/-- the set that is made ahead -/
abbrev bareSet (led : Bool) : Obj := { cls := .type "set", dict := none, data := .set #[] 0 (.fresh 0 0 led) }
end
end DkS
namespace Dk
open PySem L2 PySem.Spec PyProof.Rows
theorem reps_texts {K : PySem.W.Frag} {I : Hp} : ∀ {xs : List Str} {vs : List V}, Reps K I vs (xs.map D.str) → vs = xs.map V.str
  | [], vs, r => by cases r; rfl
  | x :: xs, vs, r => by
    cases r with
    | cons h r =>
      cases h
      rw [reps_texts r]
      rfl
end Dk
namespace Dk
open PySem L2
section
variable {F : Fx} {X : Cx} {K : PySem.W.Frag} {a b : Expr} {ta tb : DT} {pos : Pos}
def l0D (b0 : Bool) (x y : D) (Q : D → Prop) : Prop := ∃ xs, x = .lst xs ∧ y = .lst [] ∧ Q (.bl (b0 == xs.isEmpty))
theorem mono_l0 (b0 : Bool) : Mono2 (l0D b0) := fun x y Q Q' k ⟨xs, a, b, q⟩ => ⟨xs, a, b, k _ q⟩
theorem lf_l0 {K : PySem.W.Frag} (b0 : Bool) : LiftR F K (RL0 b0 K) (l0D b0) := by
  rintro x y dx dy I H Q st rx ry ⟨xs, rfl, rfl, q⟩
  cases rx with
  | @lst a vs _ ha rs =>
    cases ry with
    | @lst b ws _ hb rs2 =>
      cases rs2
      refine ⟨a, b, vs, rfl, rfl, .of (st.sub _ _ ha), .of (st.sub _ _ hb), ?_⟩
      have e : vs.isEmpty = xs.isEmpty := by have := rs.length; cases vs <;> cases xs <;> simp_all
      rw [e]
      exact q _ _ _ st.stp (.bl _)
theorem de_eqLD (hu : X.A.units + 64 < cLine) (ha : DE F X a ta) (hb : DE F X b tb) (hm : behindInMarks .Eq b = false := by rfl) : DE F X (.Compare a [.Eq] [b] pos) (fun ρ Q => ta ρ fun x => tb ρ fun y => l0D true x y Q) := de_cmp (mono_l0 true) (or_eqL0 (by omega)) (lf_l0 true) ha hb hm
theorem dt_eqLD (hu : X.A.units + 64 < cLine) (ha : DE F X a ta) (hb : DE F X b tb) (hm : behindInMarks .Eq b = false := by rfl) : DTest F X (.Compare a [.Eq] [b] pos) (fun ρ Q => ta ρ fun x => tb ρ fun y => l0D true x y fun z => boolD z Q) := dt_cmp (mono_l0 true) (or_eqL0 (by omega)) (lf_l0 true) ha hb hm
theorem dt_neLD (hu : X.A.units + 64 < cLine) (ha : DE F X a ta) (hb : DE F X b tb) (hm : behindInMarks .NotEq b = false := by rfl) : DTest F X (.Compare a [.NotEq] [b] pos) (fun ρ Q => ta ρ fun x => tb ρ fun y => l0D false x y fun z => boolD z Q) := dt_cmp (mono_l0 false) (or_neL0 (by omega)) (lf_l0 false) ha hb hm
end
end Dk
namespace KB
open PySem L2 Dk
theorem tl_inj {x y : Str} (h : tl x = tl y) : x = y := by
  cases x with | mk a => cases y with | mk b => exact congrArg Str.mk (Array.toList_inj.mp h)
def leT (a b : Str) : Bool := decide (tl a ≤ tl b)
theorem perm_srt {α : Type} {le : α → α → Bool} (trans : ∀ a b c, le a b = true → le b c = true → le a c = true) (total : ∀ a b, (le a b || le b a) = true) (anti : ∀ a b, le a b = true → le b a = true → a = b) {xs ys : List α} (h : xs.Perm ys) : xs.mergeSort le = ys.mergeSort le := by
  have p : (xs.mergeSort le).Perm (ys.mergeSort le) := (List.mergeSort_perm xs le).trans (h.trans (List.mergeSort_perm ys le).symm)
  exact p.eq_of_pairwise (le := fun a b => le a b = true) (fun a b _ _ h1 h2 => anti a b h1 h2) (List.pairwise_mergeSort trans total xs) (List.pairwise_mergeSort trans total ys)
theorem srt_strs_map (zs : List Str) : (zs.map D.str).mergeSort (PySem.W.dataLe false toPy) = (zs.mergeSort leT).map D.str := (PySem.W.sort_maps D.str fun a _ b _ => by
    have := congrFun (congrFun (PySem.W.dataLe_str (fun x : Str => x)) a) b
    exact this.symm).symm
theorem sorted_strs {xs : List Str} {Q : D → Prop} (h : ∀ x ∈ xs, PyData.strOk x = true) (hl : xs.length ≤ 4000) (q : Q (.lst ((xs.map D.str).mergeSort (PySem.W.dataLe false toPy)))) : sortedD [.lst (xs.map D.str)] Q := by
  have ok : ∀ d ∈ xs.map D.str, OkN 0 d := fun d hd => by
    obtain ⟨x, hx, rfl⟩ := List.mem_map.mp hd
    exact okN_str (h x hx)
  simp only [sortedD]
  refine ⟨(okNs (k := 0) ok).1, ?_, .inr fun d hd => ?_, by rw [List.length_map]; exact (Nat.le_trans hl (by decide)), fun x hx => Nat.le_trans (ok x hx).dp (by decide), q⟩
  · rw [List.map_map]
    exact PySem.W.AllAlike.of (enc := toPy ∘ D.str) fun a b => by simp [toPy, PySem.W.alike]
  · rw [List.map_map] at hd
    obtain ⟨n, _, rfl⟩ := List.mem_map.mp hd
    simp [toPy]
theorem lcD_fun {g : DGT} {tc : DB} {te : DT} {ρ : DEnv} (f : D → D) {l : List D} {Q : List D → Prop} (h : ∀ a ∈ l, ∀ (R : D → Prop) (S : Prop), R (f a) → g a ρ fun ρ2 => tc ρ2 fun b => if b = true then te ρ2 R else S) (q : Q (l.map f)) : lcD g tc te ρ l Q := by
  have := lcD_all (g := g) (tc := tc) (te := te) (ρ := ρ) id f (l := l) h q
  rwa [List.map_id] at this
end KB
namespace DkT
open PySem PySem.Spec PyProof.Rows L2
def TextE (P : Program) (w : World) (e : Int × Value) : Prop := ∃ x t, e.2 = Value.str x t ∧ e.1 = (PySem.strKind P w).hash x
def textE (e : Int × Value) : Str := match e.2 with | .str x _ => x | _ => Str.empty
/-- the set at a holds just these texts, unlike ones; it can be walked -/
def SetT (P : Program) (w : World) (h : Heap) (a : Addr) (ks : List Str) : Prop :=
  ∃ o es ep t, h.get? a = some o ∧ o.ExactSet ∧ o.data = .set es ep t ∧ ((∀ e ∈ es.toList, TextE P w e) ∧ (es.toList.map textE).Perm ks ∧ ks.Nodup) ∧ (es.size < scanBound ∧ t.fits es.size = true) ∧ Ris t.place.toList ∧ (w.params.followText "set-order" = true ∨ t.led = true)
section
variable {P : Program} {w : World} {A : Around} {E : Value → Shared → Prop} {s : Shared} {h h' : Heap} {a : Addr} {ks : List Str}
theorem SetT.stays (R : SetT P w h a ks) (k : ∀ o, h.get? a = some o → h'.get? a = some o) : SetT P w h' a ks := by
  obtain ⟨o, es, ep, t, ho, more⟩ := R
  exact ⟨o, es, ep, t, k o ho, more⟩
theorem textE_is {e : Int × Value} (g : TextE P w e) (k : Str) : (PySem.strKind P w).is k e.2 = true ↔ textE e = k := by
  obtain ⟨x, t, h1, _⟩ := g
  unfold textE
  rw [h1]
  show Value.isStrOf k (.str x t) = true ↔ x = k
  simp [Value.isStrOf]
theorem textE_elems {l : List (Int × Value)} (g : ∀ e ∈ l, TextE P w e) : ElemsOf (PySem.strKind P w) l := fun e he => by
  obtain ⟨x, t, h1, h2⟩ := g e he
  exact ⟨⟨x, by rw [h1]; exact PySem.strKind_is _ _ _ _, h2⟩, by rw [h1]; rfl⟩
theorem len_es {es : Array (Int × Value)} {ks : List Str} (p : (es.toList.map textE).Perm ks) : es.size = ks.length := by
  rw [← p.length_eq, List.length_map, Array.length_toList]
theorem tail_add {g : Bool → Sem Unit} (hg : ∀ (b : Bool) (s₁ : Shared) (Q' : Unit → Shared → Prop), Q' () s₁ → wpAny (model P w) A (g b) Q' E s₁)
    {o : Obj} {es : Array (Int × Value)} {ep : Nat} {t : SetTable} (ho : s.heap.get? a = some o) (hex : o.ExactSet) (hd : o.data = .set es ep t)
    {es1 : Array (Int × Value)} {t2 : SetTable} (g1 : (∀ e ∈ es1.toList, TextE P w e) ∧ (es1.toList.map textE).Perm ks ∧ ks.Nodup) (hb1 : es1.size < scanBound) (hf2 : t2.fits es1.size = true)
    (hr : Ris t2.place.toList) (hl : w.params.followText "set-order" = true ∨ t2.led = true) {wasDummy : Bool} {R : Option Bool → Shared → Prop} (hR : ∀ h', Heap.SameBut a s.heap h' → SetT P w h' a ks → R (some true) { s with heap := h' }) :
    wpAny (model P w) A (do
        storeSet a es1 t2
        if (!wasDummy && t2.tooFull) = true then do
            g (relayAll t2 es1 (SetTable.grown es1.size)).2.2
            storeSet a (relayAll t2 es1 (SetTable.grown es1.size)).1 (relayAll t2 es1 (SetTable.grown es1.size)).2.1
            pure (some true)
          else pure (some true)) R E s := by
  have at1 := store_at (es' := es1) (t' := t2) ho hd
  have same1 := Heap.SameBut.update s.heap a (Obj.putSet es1 t2)
  refine wpAny_bind (wpAny_storeSet_of ho hd ?_ (fits_of_scanBound hb1))
  split
  · have hr3 := relayAll_ris t2 es1 (SetTable.grown es1.size)
    have hl3 := relayAll_led t2 es1 (SetTable.grown es1.size)
    have hf3 := relayAll_fits t2 es1 (SetTable.grown es1.size)
    have pm := relayAll_perm t2 es1 (SetTable.grown es1.size)
    generalize relayAll t2 es1 (SetTable.grown es1.size) = Z at pm hf3 hr3 hl3 ⊢
    obtain ⟨es2, t3, gave⟩ := Z
    simp only at pm hf3 hr3 hl3 ⊢
    have size2 : es2.size = es1.size := by rw [← Array.length_toList, pm.length_eq, Array.length_toList]
    refine wpAny_bind (hg _ _ _ ?_)
    refine wpAny_bind (wpAny_storeSet_of at1 rfl ?_ (fits_of_scanBound (by rw [size2]; exact hb1)))
    refine wpAny_pure (hR _ (same1.trans (Heap.SameBut.update _ a _)) ⟨_, es2, _, t3, store_at (es' := es2) (t' := t3) at1 rfl, hex, rfl, ⟨fun e he => g1.1 e (pm.mem_iff.mp he), (pm.map textE).trans g1.2.1, g1.2.2⟩, ⟨by rw [size2]; exact hb1, hf3⟩, hr3, hl.imp id fun z => by rw [hl3]; exact z⟩)
  · exact wpAny_pure (hR _ same1 ⟨_, es1, _, t2, at1, hex, rfl, g1, ⟨hb1, hf2⟩, hr, hl⟩)
def addU (ks : List Str) (x : Str) : List Str := if x ∈ ks then ks else x :: ks
theorem setT_add {x : Str} {tk : Tok} {Q : Bool → Shared → Prop} (R : SetT P w s.heap a ks) (room : ks.length + 1 < scanBound) (hQ : ∀ b h', Heap.SameBut a s.heap h' → SetT P w h' a (addU ks x) → Q b { s with heap := h' }) :
    wpAny (model P w) A (setAddHashed a (.str x tk) ((PySem.strKind P w).hash x)) Q E s := by
  obtain ⟨o, es, ep, t, ho, hex, hd, ⟨g, pk, nd⟩, ⟨hb, hf⟩, hr, hl⟩ := R
  have hkey : (PySem.strKind P w).is x (.str x tk) = true := PySem.strKind_is _ _ _ _
  have hel : ElemsOf (PySem.strKind P w) es.toList := textE_elems g
  have hsc : (Value.str x tk).scannable = true := rfl
  have size0 := len_es pk
  unfold setAddHashed setAddHashedIn
  refine wpAny_holding (wpAny_bind (wpAny_setState_of ho hd hf ?_))
  dsimp only
  rw [byScan_of hsc hb hel]
  simp only [↓reduceIte]
  unfold setAddByScan
  refine wpAny_bind (wpAny_bind (wpAny_rule (wpAny_bind (wpAny_setScan_of hkey ho hd hf hel ?_))))
  cases hfi : List.findIdx? (fun e => (PySem.strKind P w).is x e.2) es.toList with
  | some j =>
    obtain ⟨hj, pj, _⟩ := List.findIdx?_eq_some_iff_getElem.mp hfi
    have hx : x ∈ ks := pk.mem_iff.mp (List.mem_map.mpr ⟨es.toList[j], List.getElem_mem hj, (textE_is (g _ (List.getElem_mem hj)) x).mp pj⟩)
    dsimp only
    exact wpAny_pure (wpAny_pure (hQ _ s.heap (Heap.SameBut.refl a s.heap) (by unfold addU; rw [if_pos hx]; exact ⟨o, es, ep, t, ho, hex, hd, ⟨g, pk, nd⟩, ⟨hb, hf⟩, hr, hl⟩)))
  | none =>
    have hx : x ∉ ks := fun z => by
      obtain ⟨e, he, q⟩ := List.mem_map.mp (pk.mem_iff.mpr z)
      have c := List.findIdx?_eq_none_iff.mp hfi e he
      rw [(textE_is (g e he) x).mpr q] at c
      cases c
    dsimp only
    have gave0 : ∀ (b : Bool) {s₁ : Shared} {Q' : Unit → Shared → Prop}, Q' () s₁ → wpAny (model P w) A (match b with | true => rule "set.scan.the-table-gave-way" | false => pure ()) Q' E s₁ :=
      fun b s₁ Q' q => match b with | true => wpAny_rule q | false => wpAny_pure q
    have hr1 := layNew_ris t es ((PySem.strKind P w).hash x) (.str x tk) hr
    have hl1 := layNew_led t es ((PySem.strKind P w).hash x) (.str x tk)
    have pm := layNew_perm t es ((PySem.strKind P w).hash x) (.str x tk)
    have hf1 := layNew_fits t es ((PySem.strKind P w).hash x) (.str x tk)
    generalize layNew t es ((PySem.strKind P w).hash x) (.str x tk) = Z at pm hf1 hr1 hl1 ⊢
    obtain ⟨es1, t1, wasDummy, gave⟩ := Z
    simp only at pm hf1 hr1 hl1 ⊢
    rw [Array.toList_push] at pm
    have pc : es1.toList.Perm (((PySem.strKind P w).hash x, Value.str x tk) :: es.toList) := pm.trans (List.perm_append_singleton _ _)
    have g1 : (∀ e ∈ es1.toList, TextE P w e) ∧ (es1.toList.map textE).Perm (addU ks x) ∧ (addU ks x).Nodup := by
      unfold addU
      rw [if_neg hx]
      refine ⟨fun e he => ?_, (pc.map textE).trans (List.Perm.cons x pk), List.nodup_cons.mpr ⟨hx, nd⟩⟩
      rcases List.mem_cons.mp (pc.mem_iff.mp he) with z | z
      · rw [z]; exact ⟨x, tk, rfl, rfl⟩
      · exact g e z
    have size1 : es1.size = ks.length + 1 := by rw [← Array.length_toList, pc.length_eq, List.length_cons, Array.length_toList, size0]
    have hled : w.params.followText "set-order" = true ∨ t1.led = true := hl.imp id fun z => by rw [hl1]; exact z
    refine wpAny_bind (gave0 _ ?_)
    split
    · refine wpAny_bind ?_
      rw [hashByValue_scannable 8 hsc]
      refine wpAny_pure (tail_add (ks := addU ks x) (fun b s₁ Q' q => ?_) ho hex hd g1 (by rw [size1]; exact room) ?_ ?_ ?_ fun h' sb r => ?_)
      · cases b <;> first | exact wpAny_pure q | exact wpAny_rule q
      · first | (split <;> first | exact hf1 | exact SetTable.fits_plain_off hf1) | exact hf1
      · first | (split <;> exact hr1) | exact hr1
      · first | (split <;> exact hled) | exact hled
      · dsimp only; exact wpAny_pure (hQ _ h' sb r)
    · refine wpAny_bind (wpAny_pure ?_)
      simp only [↓reduceIte]
      refine tail_add (ks := addU ks x) (fun b s₁ Q' q => ?_) ho hex hd g1 (by rw [size1]; exact room) hf1 hr1 hled fun h' sb r => ?_
      · cases b <;> first | exact wpAny_pure q | exact wpAny_rule q
      · dsimp only; exact wpAny_pure (hQ _ h' sb r)
theorem setT_new {ho : s.heap.get? a = some { cls := .type "set", dict := none, data := .set #[] 0 (.fresh 0 0 (!w.params.followText "set-order")) }} : SetT P w s.heap a [] :=
  ⟨_, #[], 0, _, ho, ⟨rfl, rfl, rfl⟩, rfl, ⟨(fun e he => by simp at he), List.Perm.refl _, List.nodup_nil⟩, ⟨by decide, by rfl⟩, List.Pairwise.nil, by
    cases w.params.followText "set-order"
    · exact .inr rfl
    · exact .inl rfl⟩
def uq (xs : List Str) : List Str := xs.foldl addU []
theorem addU_mem {ks : List Str} {x y : Str} : y ∈ addU ks x ↔ y ∈ ks ∨ y = x := by
  unfold addU
  split
  · exact ⟨.inl, fun h => h.elim id fun e => e ▸ by assumption⟩
  · rw [List.mem_cons]; exact Or.comm
theorem addU_len {ks : List Str} {x : Str} : (addU ks x).length ≤ ks.length + 1 := by unfold addU; split <;> simp
theorem addU_nd {ks : List Str} {x : Str} (h : ks.Nodup) : (addU ks x).Nodup := by
  unfold addU
  split
  · exact h
  · exact List.nodup_cons.mpr ⟨by assumption, h⟩
theorem uq_go : ∀ (xs ks : List Str), ks.Nodup → (xs.foldl addU ks).Nodup ∧ (∀ y, y ∈ xs.foldl addU ks ↔ y ∈ ks ∨ y ∈ xs) ∧ (xs.foldl addU ks).length ≤ ks.length + xs.length
  | [], ks, h => ⟨h, fun y => by simp, by simp⟩
  | x :: xs, ks, h => by
    obtain ⟨a, b, c⟩ := uq_go xs (addU ks x) (addU_nd h)
    refine ⟨a, fun y => ?_, ?_⟩
    · rw [List.foldl_cons, b y, addU_mem, List.mem_cons, or_assoc]
    · have := addU_len (ks := ks) (x := x)
      rw [List.foldl_cons, List.length_cons]
      omega
theorem uq_nd (xs : List Str) : (uq xs).Nodup := (uq_go xs [] List.nodup_nil).1
theorem uq_mem {xs : List Str} {y : Str} : y ∈ uq xs ↔ y ∈ xs := by rw [uq, (uq_go xs [] List.nodup_nil).2.1 y]; simp
theorem uq_len (xs : List Str) : (uq xs).length ≤ xs.length := by have := (uq_go xs [] List.nodup_nil).2.2; unfold uq; simpa using this
end
section
variable {prog : Program} {w : World} {A : Around} {R : Result → Shared → Prop} {I : Addr} {fp wr : List Addr} {G : Array GenState → Array GenState → Prop} {n : Nat} {Pv : Nat → Value → Prop} {St : Nat → Shared → Prop}
theorem texts_loop (walk : WalksS prog w A.in1 I fp wr G n Pv St) (S : Addr) (out : S ∉ fp) (xs : List Str) (len : xs.length = n) (few : n + 1 < scanBound) (text : ∀ i v, Pv i v → ∃ t, v = .str (xs.getD i Str.empty) t) :
    ∀ (left i : Nat) (s : Shared), i + left = n → St i s → SetT prog w s.heap S (uq (xs.take i)) → (∀ s', Moved (S :: wr) G s s' → SetT prog w s'.heap S (uq xs) → R (.ok (.ret .none)) s') → codeAny (model prog w) A (.builtin "set.update.loop" ⟨[.ref S, .ref I], []⟩) R s := by
  have apart : S ∉ wr := fun h => out (walk.sub _ h)
  have wide : ∀ b ∈ wr, b ∈ S :: wr := fun b hb => List.mem_cons_of_mem _ hb
  have keep : ∀ {s s' : Shared} {ks : List Str}, Moved wr G s s' → SetT prog w s.heap S ks → SetT prog w s'.heap S ks := fun mv t => t.stays fun o e => mv.heap S o apart e
  intro left
  induction left with
  | zero =>
    intro i s sum at_i set_i last
    obtain rfl : i = n := sum
    rw [List.take_of_length_le (by omega)] at set_i
    refine codeAny_builtin PyProof.Rows.F.entry_set_update_loop ?_
    rw [Around.under_plainId PyProof.Rows.F.plain_set_update_loop _]
    refine wpAny_bind (m := pyNext (.ref I)) (walk.done s _ _ at_i fun s' mv => ?_)
    exact wpAny_pure (last s' (mv.mono wide) (keep mv set_i))
  | succ left ih =>
    intro i s sum at_i set_i last
    have lt : i < n := by omega
    have step : uq (xs.take (i + 1)) = addU (uq (xs.take i)) (xs.getD i Str.empty) := by
      rw [List.take_add_one, List.getD_eq_getElem?_getD, List.getElem?_eq_getElem (by omega)]
      unfold uq
      rw [List.foldl_append]
      rfl
    have room : (uq (xs.take i)).length + 1 < scanBound := by
      have h1 := uq_len (xs.take i)
      rw [List.length_take] at h1
      omega
    refine codeAny_builtin PyProof.Rows.F.entry_set_update_loop ?_
    rw [Around.under_plainId PyProof.Rows.F.plain_set_update_loop _]
    refine wpAny_bind (m := pyNext (.ref I)) (walk.item i s _ _ lt at_i fun v s1 pv at1 mv => ?_)
    obtain ⟨t, rfl⟩ := text i v pv
    refine wpAny_bind (m := holding [Value.str (xs.getD i Str.empty) t] (setAdd S (.str (xs.getD i Str.empty) t))) (wpAny_holding ?_)
    unfold setAdd
    refine wpAny_holding (wpAny_bind ((PySem.strKind prog w).pyHash (k := xs.getD i Str.empty) (strKind_is _ _ _ _) ?_))
    refine setT_add (s := { s1 with toks := s1.toks + 1 }) (show SetT prog w s1.heap S _ from keep mv set_i) room fun b0 h2 sb set2 => ?_
    rw [← step] at set2
    refine wpAny_pure ⟨plainId_quiet PyProof.Rows.F.plain_set_update_loop _, ih (i + 1) _ (by omega) (walk.frame _ s1 _ _ at1 (Nat.le_succ _) fun b hb o e => ?_) set2 fun s3 mv3 set4 => ?_⟩
    · exact (sb.2 b fun q : b = S => out (q ▸ hb)).trans e
    · refine last s3 (Moved.trans walk.gtrans ((mv.mono wide).then_heap (Nat.le_succ _) fun b o hb e => ?_) mv3) set4
      exact (sb.2 b fun q : b = S => hb (by rw [q]; exact List.mem_cons_self)).trans e
end
section
variable {prog : Program} {w : World} {A : Around} {E : Value → Shared → Prop} {s : Shared}
set_option maxHeartbeats 3200000 in
theorem set_of_texts {l : Addr} {its : Array Value} {xs : List Str} {Q : Value → Shared → Prop} (calm : A.handled = none) (hl : s.heap.IsList l its) (hx : PyProof.Rows.StrsAre its.toList xs) (few : xs.length ≤ 4000)
    (go : ∀ (h2 : Heap) (tk : Nat), SetT prog w h2 s.heap.objs.size (uq xs) → (∀ b o, b < s.heap.objs.size → s.heap.get? b = some o → h2.get? b = some o) → Q (.ref s.heap.objs.size) { s with heap := h2, toks := tk }) :
    wpAny (model prog w) A (call (.type "set") [.ref l]) Q E s := by
  obtain ⟨_, _, mro⟩ := PySem.F.called_set.mro
  have made := PySem.F.called_set.made
  have sub := PySem.F.called_set.sub
  have noType := PySem.F.called_set.notType
  have creates := PySem.F.called_set.canCreate
  have typed := PySem.F.typeCall_set_1 (.ref l)
  refine wpAny_call (codeAny_of_tree ?_)
  refine wpAny_pure ⟨Code.quiet_builtin _ (by decide +kernel), codeAny_builtin PySem.F.entry_type_call ?_⟩
  rw [Around.under_plain (weight_type_call_type "set" [.ref l] []) rfl]
  repeat (any_goals (first | assumption | wp_step))
  refine codeAny_mono (code_set_led1 (.ref l) (E := E) (Q₁ := fun obj s1 => obj = .ref s.heap.objs.size ∧ s1 = { s with heap := s.heap.push (DkS.bareSet (!w.params.followText "set-order")) }) ⟨rfl, rfl⟩) fun r s1 hr => ?_
  match r, hr with
  | .error _, hr => exact hr
  | .ok (.ret obj), hr =>
    obtain ⟨rfl, rfl⟩ := hr
    have at_set : (s.heap.push (DkS.bareSet (!w.params.followText "set-order"))).get? s.heap.objs.size = some (DkS.bareSet (!w.params.followText "set-order")) := Heap.get?_push_size _ rfl
    generalize hled : (!w.params.followText "set-order") = led at at_set
    have is_set : Shared.TypeIs { s with heap := s.heap.push (DkS.bareSet led) } (.ref s.heap.objs.size) "set" := ⟨_, at_set, rfl⟩
    have look := PySem.F.called_set.init.lookup
    have bind := PySem.F.called_set.init.bind (.ref s.heap.objs.size)
    repeat (any_goals (first | assumption | wp_step))
    refine codeAny_mono (codeAny_call_builtin (R := wants (fun r s2 => r = .none ∧ ∃ h2 tk, s2 = { s with heap := h2, toks := tk } ∧ SetT prog w h2 s.heap.objs.size (uq xs) ∧ (∀ b o, b < s.heap.objs.size → s.heap.get? b = some o → h2.get? b = some o)) E) PySem.F.called_set.init.plain PySem.F.entry_set_init (check_set_init_1 is_set ?_)) fun r2 s2 hr2 => ?_
    · obtain ⟨⟨_, od, odata, osl⟩, at_l, rfl, nl, hd⟩ := hl
      obtain rfl : odata = .seq its nl := hd
      have at_l2 := Heap.get?_push_of_some (DkS.bareSet led) at_l
      have is_l : (s.heap.push (DkS.bareSet led)).IsList l its := ⟨_, at_l2, rfl, nl, rfl⟩
      have s1 := PySem.F.sub_list_set
      have s2 := PySem.F.sub_list_frozenset
      have s3 : (Value.type "list" == Value.type "dict") = false := by decide
      have l_lt : l < s.heap.objs.size := Heap.lt_size at_l
      have c3 : A.in1.in1.in1.handled = none := by simp [calm]
      have l_ne : l ≠ (s.heap.push (DkS.bareSet led)).objs.size := by rw [Heap.size_push]; exact Nat.ne_of_lt (Nat.lt_succ_of_lt l_lt)
      have S_out : s.heap.objs.size ∉ [(s.heap.push (DkS.bareSet led)).objs.size, l] := by
        rw [Heap.size_push, List.mem_cons, List.mem_singleton]
        exact not_or.mpr ⟨Nat.ne_of_lt (Nat.lt_succ_self _), Nat.ne_of_gt l_lt⟩
      have size_x : xs.length = its.size := by rw [← StrsAre.len_eq hx, Array.length_toList]
      unfold Builtin.«set.__init__» noKeywords Builtin.Frozenset.updateFrom
      generalize hPI : pyIter = PI
      wp_walk
      subst hPI
      refine wpAny_pyIter_list is_l (wpAny_bind (wpAny_runValue ?_))
      refine texts_loop ((Walks.list c3 _ l l_ne its).toS) s.heap.objs.size S_out xs size_x (by unfold scanBound; omega) (fun i v hv => SS.strs_at hx i v (by rw [Array.getElem?_toList]; exact hv)) its.size 0 _ (by omega)
        ⟨⟨_, Heap.get?_push_size _ rfl, rfl, rfl⟩, (is_l.push _)⟩ ?start ?done
      case start =>
        refine SetT.stays (h := s.heap.push (DkS.bareSet led)) ?_ fun o e => Heap.get?_push_of_some _ e
        subst hled
        exact setT_new (s := { s with heap := s.heap.push (DkS.bareSet (!w.params.followText "set-order")) }) (ho := at_set)
      case done =>
        rintro ⟨h2, g2, d2, t2, o2⟩ mv set2
        obtain rfl : g2 = s.gens := mv.gens
        obtain rfl : d2 = s.drawn := mv.drawn
        obtain rfl : o2 = s.os := mv.os
        refine wpAny_pure (wpAny_pure ⟨rfl, h2, t2, rfl, set2, fun b o hb e => mv.heap b o ?_ (Heap.get?_push_of_some _ (Heap.get?_push_of_some _ e))⟩)
        rw [Heap.size_push, List.mem_cons, List.mem_cons]
        exact not_or.mpr ⟨Nat.ne_of_lt hb, not_or.mpr ⟨Nat.ne_of_lt (Nat.lt_succ_of_lt hb), List.not_mem_nil⟩⟩
    · match r2, hr2 with
      | .error _, hr2 => exact hr2
      | .ok (.ret _), hr2 =>
        obtain ⟨rfl, h2, tk, rfl, set2, old⟩ := hr2
        repeat (any_goals (first | assumption | wp_step))
        exact go _ _ set2 old
def IsTx (v : Value) (x : Str) : Prop := ∃ t, v = Value.str x t
theorem each_tx : ∀ {vs : List Value}, (∀ v ∈ vs, ∃ x t, v = Value.str x t) → ∃ xs, PySem.W.EachIs IsTx vs xs ∧ xs = vs.map fun v => match v with | .str x _ => x | _ => Str.empty
  | [], _ => ⟨[], .nil, rfl⟩
  | v :: vs, h => by
    obtain ⟨x, t, rfl⟩ := h v (by simp)
    obtain ⟨xs, a, b⟩ := each_tx (vs := vs) fun v hv => h v (List.mem_cons_of_mem _ hv)
    exact ⟨x :: xs, .cons ⟨t, rfl⟩ a, by rw [b]; rfl⟩
/-- sorted(x), x a set of texts -/
theorem sorted_setT {a : Addr} {ks : List Str} {Q : Value → Shared → Prop} (R : SetT prog w s.heap a ks) (hh : A.handled = none) (hu : A.units + 8 < cLine)
    (hQ : ∀ s' p (out : List Value) (c : Nat) (bs : List Str), (∀ b o, s.heap.get? b = some o → s'.heap.get? b = some o) → s'.gens = s.gens → s'.os = s.os → s.heap.objs.size ≤ p → s'.heap.get? p = some (seqObj "list" out.toArray c) → bs.Perm ks → PySem.W.EachIs IsTx out (bs.mergeSort (PySem.W.dataLe false PyData.str)) → Q (.ref p) s') :
    wpAny (model prog w) A (call (.builtin "sorted") [.ref a]) Q E s := by
  obtain ⟨o, es, ep, t, ho, hex, hd, ⟨g, pk, nd⟩, ⟨hb, hf⟩, hr, hl⟩ := R
  refine Calls.call_function_entry kind_sorted plain_sorted entry_sorted (args_sorted1 _) ?_
  unfold Builtin.«sorted»
  refine wpAny_bind (m := checkCount "sorted" 1 1 _) (wpAny_pure ?_)
  refine wpAny_bind (collect_set (A := A.in1) hh ⟨o, ho, hex.1, hd⟩ hf hb hr hl fun s1 vs k1 hz g1 o1 pm => ?_)
  obtain ⟨bs, eb, hbs⟩ := each_tx (vs := vs) fun v hv => by
    obtain ⟨e, he, q⟩ := List.mem_map.mp (pm.mem_iff.mp hv)
    obtain ⟨x, t, h1, _⟩ := g e he
    exact ⟨x, t, by rw [← q]; exact h1⟩
  have pb : bs.Perm ks := by
    rw [hbs]
    have q := pm.map fun v => match v with | Value.str x _ => x | _ => Str.empty
    rw [List.map_map] at q
    exact q.trans pk
  have lv : vs.length = bs.length := eb.length
  have lb : bs.length < 4096 := by
    rw [pb.length_eq, ← len_es pk]
    exact hb
  refine wpAny_bind (wpAny_newList ?_ (by rw [lv, sizeLine_eq]; omega))
  have hoL : (s1.heap.push (seqObj "list" vs.toArray 0)).get? s1.heap.objs.size = some (seqObj "list" vs.toArray 0) := Heap.get?_push_size _ rfl
  have er : PySem.W.EachIs (fun v b => ∃ as, Reads (PySem.W.sortingHeap (s1.heap.push (seqObj "list" vs.toArray 0)) s1.heap.objs.size vs) v (PyData.str b) as) vs bs := eb.mono fun v b ⟨t, e⟩ => ⟨[], by rw [e]; exact .str _ _⟩
  have hal : PySem.W.AllAlike (bs.map PyData.str) := PySem.W.AllAlike.of fun a b => by simp [PySem.W.alike]
  have hso : PySem.W.Sortable (bs.map PyData.str) := PySem.W.Sortable.others fun b => ⟨(fun z => by cases z), fun xs z => by cases z⟩
  refine wpAny_bind (wpAny_holding (wpAny_call_entry slot_list_sort ⟨_, hoL, rfl⟩ entry_list_sort (PySem.W.list_sort_vals (κ := PySem.W.dataKind (PySem.W.sortingHeap (s1.heap.push (seqObj "list" vs.toArray 0)) s1.heap.objs.size vs) (bs.map PyData.str)) hoL (PySem.W.SortsAt.data (s := { s1 with heap := PySem.W.sortingHeap (s1.heap.push (seqObj "list" vs.toArray 0)) s1.heap.objs.size vs }) (PySem.W.each_map (R := fun v d => ∃ as, Reads (PySem.W.sortingHeap (s1.heap.push (seqObj "list" vs.toArray 0)) s1.heap.objs.size vs) v d as) PyData.str er) hal hso (PySem.W.bound_map fun b _ => ?_)) (by rw [lv, sizeLine_eq]; omega) ⟨_, rfl, ?_⟩) (args_list_sort _)))
  · simp only [PyData.depth]
    exact Nat.lt_of_le_of_lt (Nat.le_of_eq rfl) (by first | exact Nat.lt_of_le_of_lt (by simp) hu | omega)
  have so := PySem.W.sortVals_data (R := IsTx) (enc := PyData.str) false eb er hal
  obtain ⟨c, hc⟩ := sortedHeap_at (vs := vs) (out := (PySem.W.sortVals (PySem.W.dataKind (PySem.W.sortingHeap (s1.heap.push (seqObj "list" vs.toArray 0)) s1.heap.objs.size vs) (bs.map PyData.str)) false vs vs).toArray) hoL
  refine wpAny_pure ⟨_, rfl, hQ _ s1.heap.objs.size _ c bs (fun b u e => ?_) g1 o1 hz hc pb so⟩
  have q := k1 b u e
  have hlt := Heap.lt_size q
  show (sortedHeap (s1.heap.push (seqObj "list" vs.toArray 0)) s1.heap.objs.size vs _).get? b = some u
  rw [sortedHeap_old (Nat.ne_of_lt hlt) (by rw [size_push']; exact Nat.lt_succ_of_lt hlt)]
  exact Heap.get?_push_of_some _ q
end
end DkT
namespace Dk
open PySem L2 PySem.Spec PyProof.Rows
section
variable {X : Cx} {a : Expr} {ta : TE} {p p2 q pos : Pos}
theorem vals_tx : ∀ {out : List Value} {zs : List Str}, PySem.W.EachIs DkT.IsTx out zs → Vals (zs.map V.str) out
  | _, _, .nil => .nil
  | _, _, .cons ⟨t, e⟩ r => .cons ⟨t, e⟩ (vals_tx r)
def tSortedTexts (K : PySem.W.Frag) (ta : TE) : TE := fun σ H Q => ta σ H fun x H1 => ∃ (l : Addr) (xs : List Str), x = .ref l ∧ SqL K H1 l (xs.map V.str) ∧ xs.length ≤ 4000 ∧ ∀ (bs : List Str) (r : Addr), bs.Nodup → (∀ y, y ∈ bs ↔ y ∈ xs) → H1 r = none → Q (.ref r) (upd H1 r (.lst ((bs.mergeSort (PySem.W.dataLe false PyData.str)).map V.str)))
theorem pe_sortedTexts (hu : X.A.units + 64 < cLine) (hc : X.calm = true) (hg : Gl X "sorted") (hm : X.mg "sorted" = none) (hg2 : Gl X "set") (hm2 : X.mg "set" = none) (ha : PE X a ta) (na : starEach [a] X.env = (false, eval a X.env) :: starEach [] X.env := by rfl) :
    PE X (.Call (.Name "sorted" p) [.Call (.Name "set" p2) [a] [] q] [] pos) (tSortedTexts X.K ta) := by
  refine ⟨fun pins s σ H Q I h => ?_⟩
  refine Call_ (ld_blt I hg hm boot_sorted (PyProof.Rows.callWith_builtin1 (PyProof.Rows.args_cons ?_ rfl) rfl rfl))
  refine Call_ (ld_blt I hg2 hm2 boot_set (PyProof.Rows.callWith_type1 (PyProof.Rows.args_cons (thn (ha.run pins s σ H _ I h) fun v s1 ⟨x, H1, I1, r1, l, xs, ex, hq, few, q1⟩ => PyProof.Rows.args_nil ?_) na) na rfl))
  subst ex
  cases r1
  obtain ⟨its, r, pl, _⟩ := I1.list hq
  refine DkT.set_of_texts (I1.ok.hd hc) pl.isList (xs := xs) (by simpa using strsAre_of r) few fun h2 tk set2 old => PyProof.Rows.args_nil ?_
  have I2 : Inv X pins σ H1 { s1 with heap := h2, toks := tk } := I1.kept fun b o e => old b o (Heap.lt_size e) e
  refine DkT.sorted_setT set2 (I2.ok.hd hc) (by omega) fun s' p out c bs k g o hp hgt pb eo => ?_
  have lb : bs.length ≤ 4000 := by rw [pb.length_eq]; exact Nat.le_trans (DkT.uq_len xs) few
  have hlen : ((bs.mergeSort (PySem.W.dataLe false PyData.str)).map V.str).length ≤ sizeLine := by rw [List.length_map, List.length_mergeSort, sizeLine_eq]; omega
  have hn : H1 p = none := I2.hok.fresh hp
  have J : Inv X pins σ (upd H1 p (.lst ((bs.mergeSort (PySem.W.dataLe false PyData.str)).map V.str))) { ({ s1 with heap := h2, toks := tk } : Shared) with heap := s'.heap, gens := s'.gens, drawn := s'.drawn, toks := s'.toks } :=
    I2.call (ch := []) (Un.laid k hp hn) (I2.hok.laid k hp ⟨hlen, out, c, vals_tx eo, hgt⟩) (by rw [g]; exact I2.bare) (fun _ z => nomatch z)
  have e : s' = { ({ s1 with heap := h2, toks := tk } : Shared) with heap := s'.heap, gens := s'.gens, drawn := s'.drawn, toks := s'.toks } := by
    cases s'
    cases s1
    cases o
    rfl
  rw [e]
  exact ⟨.ref p, _, J, rfl, q1 bs p (pb.nodup_iff.mpr (DkT.uq_nd xs)) (fun y => by rw [pb.mem_iff, DkT.uq_mem]) hn⟩
end
theorem texts_reps {K : PySem.W.Frag} {I : Hp} : ∀ xs : List Str, Reps K I (xs.map V.str) (xs.map D.str)
  | [] => .nil
  | x :: xs => .cons (.str x) (texts_reps xs)
def sortedTxD (d : D) (Q : D → Prop) : Prop := ∃ xs : List Str, d = .lst (xs.map D.str) ∧ xs.length ≤ 4000 ∧ ∀ bs : List Str, bs.Nodup → (∀ y, y ∈ bs ↔ y ∈ xs) → Q (.lst ((bs.map D.str).mergeSort (PySem.W.dataLe false toPy)))
section
variable {F : Fx} {X : Cx} {e : Expr} {te : DT} {p p2 q pos : Pos}
theorem de_sortedTx (hu : X.A.units + 64 < cLine) (hc : X.calm = true) (hm : X.mg "sorted" = none) (hm2 : X.mg "set" = none) (he : DE F X e te) (hg : Gl X "sorted" := by rfl) (hg2 : Gl X "set" := by rfl) (na : starEach [e] X.env = (false, eval e X.env) :: starEach [] X.env := by rfl) :
    DE F X (.Call (.Name "sorted" p) [.Call (.Name "set" p2) [e] [] q] [] pos) (fun ρ Q => te ρ fun d => sortedTxD d Q) := by
  refine ⟨fun ρ Q Q' k h => he.mono _ _ _ (fun d ⟨ns, a, b, c⟩ => ⟨ns, a, b, fun bs x y => k _ (c bs x y)⟩) h, (pe_sortedTexts hu hc hg hm hg2 hm2 he.run na).imp fun σ H Q ⟨I, ρ, A, h⟩ => ?_⟩
  refine rdE_next he.mono A h fun d v I1 H1 q s rv => ?_
  obtain ⟨xs, rfl, hl, q⟩ := q
  cases rv with
  | @lst l vs _ hs hr =>
    obtain rfl := reps_texts hr
    refine ⟨l, xs, rfl, SqL.of (s.st.sub _ _ hs), hl, fun bs r hp hk hr0 => ?_⟩
    have ll := s.st.laid hr0 (.lst ((bs.mergeSort (PySem.W.dataLe false PyData.str)).map V.str))
    have em : (bs.map D.str).mergeSort (PySem.W.dataLe false toPy) = (bs.mergeSort (PySem.W.dataLe false PyData.str)).map D.str := (PySem.W.sort_maps D.str fun a _ b _ => by first | rfl | simp [PySem.W.dataLe, toPy]).symm
    have := q bs hp hk
    rw [em] at this
    exact this _ _ _ (s.trans ll) (.lst upd_same (texts_reps _))
end
section
variable {F : Fx} {X : Cx} {a b : Expr} {ta tb : DT} {pos : Pos}
def RN0 (K : PySem.W.Frag) : R2 := fun x y H Q => ∃ a b xs, x = .ref a ∧ y = .ref b ∧ SqT K H a xs ∧ SqT K H b [] ∧ Q (.bl (!xs.isEmpty)) H
theorem or_neT0 (hu : X.A.units < cLine) : OpR X (compareOp .NotEq) (RN0 X.K) := by
  intro pins s σ H x y v u Q J rx ry h
  obtain ⟨l, m, xs, rfl, rfl, hx, hy, q⟩ := h
  cases rx
  cases ry
  obtain ⟨its, rv, t1, _⟩ := J.tuple hx
  obtain ⟨its2, rv2, t2, _⟩ := J.tuple hy
  cases rv2
  show wpAny (model X.prog X.w) X.A (richCompare .NotEq (.ref l) (.ref m)) (EP X pins σ Q) X.xe s
  refine SeqAt.RcNeAt.tuples (e := fun _ => true) (show s.heap.IsTuple l its.toArray from t1) (show s.heap.IsTuple m #[] from t2) hu (fun j _ h2 => absurd h2 (Nat.not_lt_zero _)) X.prog X.w _ _ ?_
  have e : (!((List.range (min its.toArray.size (#[] : Array Value).size)).all (fun _ => true) && its.toArray.size == (#[] : Array Value).size)) = !xs.isEmpty := by
    have hl := rv.length
    have : its.toArray.size = xs.length := by simp [hl]
    rw [this]
    cases xs <;> simp
  rw [e]
  exact ⟨.bl _, H, J, rfl, q⟩
def neT0 (x y : D) (Q : D → Prop) : Prop := ∃ xs, x = .tup xs ∧ y = .tup [] ∧ Q (.bl (!xs.isEmpty))
theorem mono_neT0 : Mono2 neT0 := fun x y Q Q' k ⟨xs, a, b, q⟩ => ⟨xs, a, b, k _ q⟩
theorem lf_neT0 {K : PySem.W.Frag} : LiftR F K (RN0 K) neT0 := by
  rintro x y dx dy I H Q st rx ry ⟨xs, rfl, rfl, q⟩
  cases rx with
  | @tup a vs _ ha rs =>
    cases ry with
    | @tup b ws _ hb rs2 =>
      cases rs2
      refine ⟨a, b, vs, rfl, rfl, Same.seqT st.sub ha, Same.seqT st.sub hb, ?_⟩
      have e : vs.isEmpty = xs.isEmpty := by have := rs.length; cases vs <;> cases xs <;> simp_all
      rw [e]
      exact q _ _ _ st.stp (.bl _)
theorem de_neT0 (hu : X.A.units + 64 < cLine) (ha : DE F X a ta) (hb : DE F X b tb) (hm : behindInMarks .NotEq b = false := by rfl) : DE F X (.Compare a [.NotEq] [b] pos) (fun ρ Q => ta ρ fun x => tb ρ fun y => neT0 x y Q) := de_cmp mono_neT0 (or_neT0 (by omega)) lf_neT0 ha hb hm
end
end Dk
namespace KB
open PySem L2 Dk
theorem atI_0 {d : D} {ps : List D} : L2.atI (d :: ps) 0 = some d := atI_nat (j := 0) rfl
theorem atI_1 {c d : D} {ps : List D} : L2.atI (c :: d :: ps) 1 = some d := atI_nat (j := 1) rfl
theorem gd_known {d : D} (h : gd d = true) : known d = true := by
  cases d <;> first | rfl | (simp [gd] at h)
theorem tup_of {d : D} (h : isTup d = true) : ∃ xs, d = .tup xs := by
  cases d <;> first | (cases h; done) | exact ⟨_, rfl⟩
theorem str_of' {d : D} (h : isStr d = true) : ∃ x, d = .str x := by
  cases d <;> first | (cases h; done) | exact ⟨_, rfl⟩
def isNm : D → Bool
  | .str x => nameOk x
  | _ => false
theorem isNm_not {d : D} (h : isStr d = false) : isNm d = false := by cases d <;> first | (cases h; done) | rfl
def tupB (p : List D → Bool) : D → Bool
  | .tup bs => p bs
  | _ => false
theorem tupB_not {p : List D → Bool} {d : D} (h : isTup d = false) : tupB p d = false := by cases d <;> first | (cases h; done) | rfl
/-- (name, tuple of which p is so) -/
def isTwo (p : List D → Bool) : D → Bool
  | .tup [a, b] => isNm a && tupB p b
  | _ => false
theorem isTwo_not {p : List D → Bool} {d : D} (h : isTup d = false) : isTwo p d = false := by cases d <;> first | (cases h; done) | rfl
theorem isTwo_len {p : List D → Bool} {xs : List D} (h : xs.length ≠ 2) : isTwo p (.tup xs) = false := by
  match xs, h with
  | [], _ => rfl
  | [_], _ => rfl
  | [_, _], h => exact absurd rfl h
  | _ :: _ :: _ :: _, _ => rfl
theorem two_of {xs : List D} (h : xs.length = 2) : ∃ a b, xs = [a, b] := by
  match xs, h with
  | [a, b], _ => exact ⟨a, b, rfl⟩
theorem isTwo_iff {p : List D → Bool} {d : D} : isTwo p d = true ↔ ∃ x bs, d = .tup [.str x, .tup bs] ∧ nameOk x = true ∧ p bs = true := by
  constructor
  · intro h
    cases ht : isTup d with
    | false => rw [isTwo_not ht] at h; cases h
    | true =>
      obtain ⟨xs, rfl⟩ := tup_of ht
      by_cases hl : xs.length = 2
      · obtain ⟨a, b, rfl⟩ := two_of hl
        rw [isTwo, Bool.and_eq_true] at h
        cases a <;> first | (cases h.1; done) | skip
        cases b <;> first | (cases h.2; done) | skip
        exact ⟨_, _, rfl, h.1, h.2⟩
      · rw [isTwo_len hl] at h; cases h
  · rintro ⟨x, bs, rfl, h1, h2⟩
    show (nameOk x && p bs) = true
    rw [h1, h2]
    rfl
def isBg : D → Bool := isTwo fun fs => fs.all isStr
def isKd : D → Bool := isTwo fun bs => !bs.isEmpty && bs.all isBg
theorem all_of {α : Type} {p : D → Bool} {f : α → D} {R : α → Prop} (h : ∀ d, p d = true ↔ ∃ a, d = f a ∧ R a) : ∀ ds : List D, ds.all p = true ↔ ∃ as : List α, ds = as.map f ∧ ∀ a ∈ as, R a
  | [] => ⟨fun _ => ⟨[], rfl, fun _ h => nomatch h⟩, fun _ => rfl⟩
  | d :: ds => by
    rw [List.all_cons, Bool.and_eq_true, h d, all_of h ds]
    constructor
    · rintro ⟨⟨a, rfl, ha⟩, as, rfl, has⟩
      exact ⟨a :: as, rfl, fun x hx => (List.mem_cons.mp hx).elim (fun e => e ▸ ha) (has x)⟩
    · rintro ⟨as, e, has⟩
      cases as with
      | nil => cases e
      | cons a as =>
        obtain ⟨rfl, rfl⟩ := List.cons.inj e
        exact ⟨⟨a, rfl, has a (by simp)⟩, as, rfl, fun x hx => has x (List.mem_cons_of_mem _ hx)⟩
theorem str_iff (d : D) : isStr d = true ↔ ∃ x : Str, d = .str x ∧ True := ⟨fun h => let ⟨x, e⟩ := str_of' h; ⟨x, e, trivial⟩, fun ⟨x, e, _⟩ => by rw [e]; rfl⟩
theorem isBg_iff (d : D) : isBg d = true ↔ ∃ b : Bough, d = boughD b ∧ nameOk b.1 = true := by
  unfold isBg
  rw [isTwo_iff]
  constructor
  · rintro ⟨x, bs, rfl, h1, h2⟩
    obtain ⟨fs, rfl, _⟩ := (all_of str_iff bs).mp h2
    exact ⟨(x, fs), rfl, h1⟩
  · rintro ⟨b, rfl, h⟩
    exact ⟨b.1, _, rfl, h, (all_of str_iff _).mpr ⟨b.2, rfl, fun _ _ => trivial⟩⟩
theorem isKd_iff (d : D) : isKd d = true ↔ ∃ k : Kind, d = kindD k ∧ nameOk k.1 = true ∧ k.2 ≠ [] ∧ ∀ b ∈ k.2, nameOk b.1 = true := by
  unfold isKd
  rw [isTwo_iff]
  constructor
  · rintro ⟨x, bs, rfl, h1, h2⟩
    rw [Bool.and_eq_true] at h2
    obtain ⟨fs, rfl, hf⟩ := (all_of isBg_iff bs).mp h2.2
    refine ⟨(x, fs), rfl, h1, ?_, hf⟩
    rintro rfl
    cases h2.1
  · rintro ⟨k, rfl, h, hne, hb⟩
    refine ⟨k.1, _, rfl, h, ?_⟩
    rw [Bool.and_eq_true]
    refine ⟨?_, (all_of isBg_iff _).mpr ⟨k.2, rfl, hb⟩⟩
    cases hk : k.2 with
    | nil => exact absurd hk hne
    | cons x xs => rfl
/-- kinds, whatever the fields are called, alike names or not -/
structure Pk (ks : List Kind) : Prop where
  ne : ks ≠ []
  kn : ∀ k ∈ ks, nameOk k.1 = true
  kb : ∀ k ∈ ks, k.2 ≠ []
  bn : ∀ k ∈ ks, ∀ b ∈ k.2, nameOk b.1 = true
def preK : D → Bool := tupB fun xs => !xs.isEmpty && xs.all isKd
theorem preK_iff {d : D} : preK d = true ↔ ∃ ks, d = kindsD ks ∧ Pk ks := by
  unfold preK
  constructor
  · intro h
    cases ht : isTup d with
    | false => rw [tupB_not ht] at h; cases h
    | true =>
      obtain ⟨xs, rfl⟩ := tup_of ht
      rw [tupB, Bool.and_eq_true] at h
      obtain ⟨ks, rfl, hk⟩ := (all_of isKd_iff xs).mp h.2
      refine ⟨ks, rfl, ?_, fun k hkk => (hk k hkk).1, fun k hkk => (hk k hkk).2.1, fun k hkk => (hk k hkk).2.2⟩
      rintro rfl
      cases h.1
  · rintro ⟨ks, rfl, g⟩
    show (_ && _) = true
    rw [Bool.and_eq_true]
    refine ⟨?_, (all_of isKd_iff _).mpr ⟨ks, rfl, fun k hk => ⟨g.kn k hk, g.kb k hk, g.bn k hk⟩⟩⟩
    cases hk : ks with
    | nil => exact absurd hk g.ne
    | cons x xs => rfl
/-- the names unlike, the fields numbers or kinds -/
def okK (ks : List Kind) : Bool := decide (kNames ks).Nodup && (decide (bNames ks).Nodup && (fNames ks).all fun f => decide (f = numS) || decide (f ∈ kNames ks))
/-- whether anything is kinds -/
noncomputable def okD (d : D) : Bool := @decide (∃ ks, d = kindsD ks ∧ Pk ks ∧ okK ks = true) (Classical.propDecidable _)
theorem okD_kinds {ks : List Kind} (g : Pk ks) : okD (kindsD ks) = okK ks := by
  unfold okD
  rw [Bool.eq_iff_iff]
  constructor
  · intro h
    obtain ⟨ks', e, _, h⟩ := @of_decide_eq_true _ (Classical.propDecidable _) h
    rw [kindsD_inj e]
    exact h
  · intro h
    exact @decide_eq_true _ (Classical.propDecidable _) ⟨ks, rfl, g, h⟩
theorem okD_not {d : D} (h : preK d = false) : okD d = false := by
  refine @decide_eq_false _ (Classical.propDecidable _) ?_
  rintro ⟨ks, rfl, g, _⟩
  rw [preK_iff.mpr ⟨ks, rfl, g⟩] at h
  cases h
theorem okD_iff {d : D} : okD d = true ↔ ∃ ks, d = kindsD ks ∧ Pk ks ∧ okK ks = true := ⟨fun h => @of_decide_eq_true _ (Classical.propDecidable _) h, fun h => @decide_eq_true _ (Classical.propDecidable _) h⟩
theorem wts_ge {α : Type} {f : α → D} {g : α → Nat} : ∀ {l : List α}, (∀ a ∈ l, g a ≤ wtD (f a) + 2) → (l.map g).sum ≤ wts (l.map f)
  | [], _ => by simp
  | a :: l, h => by
    have h1 := h a (by simp)
    have h2 := wts_ge (l := l) fun x hx => h x (List.mem_cons_of_mem _ hx)
    rw [List.map_cons, List.map_cons, List.sum_cons, wts]
    omega
theorem wt_bough {b : Bough} (hn : 1 ≤ b.1.length) : 52 + 14 * b.2.length ≤ wtD (boughD b) := by
  have := wts_ge (f := D.str) (g := fun _ => 14) (l := b.2) fun a _ => by rw [wtD]; omega
  unfold boughD
  rw [wtD, wts, wts, wts, wtD, wtD]
  have e : (b.2.map fun _ => 14).sum = 14 * b.2.length := by rw [List.map_const', List.sum_replicate_nat]; omega
  omega
theorem sum_up {α : Type} (g : α → Nat) (c : Nat) : ∀ l : List α, (l.map fun a => c + g a).sum = c * l.length + (l.map g).sum
  | [] => by simp
  | a :: l => by
    rw [List.map_cons, List.map_cons, List.sum_cons, List.sum_cons, sum_up g c l, List.length_cons, Nat.mul_succ]
    omega
theorem len_flat {α β : Type} (g : α → List β) : ∀ l : List α, (l.flatMap g).length = (l.map fun a => (g a).length).sum := fun l => by rw [List.length_flatMap]
theorem wt_kind {k : Kind} (hn : 1 ≤ k.1.length) (hb : ∀ b ∈ k.2, 1 ≤ b.1.length) : 52 + (54 * k.2.length + 14 * (k.2.flatMap fun b => b.2).length) ≤ wtD (kindD k) := by
  have h1 := wts_ge (f := boughD) (g := fun b => 54 + 14 * b.2.length) (l := k.2) fun b h => by have := wt_bough (hb b h); omega
  rw [sum_up (fun b : Bough => 14 * b.2.length) 54 k.2] at h1
  have h2 : (k.2.map fun b => 14 * b.2.length).sum = 14 * (k.2.flatMap fun b => b.2).length := by
    rw [len_flat]
    induction k.2 with
    | nil => rfl
    | cons a l ih => simp only [List.map_cons, List.sum_cons, ih]; omega
  unfold kindD
  rw [wtD, wts, wts, wts, wtD, wtD]
  omega
theorem wt_kinds {ks : List Kind} (g : ∀ k ∈ ks, 1 ≤ k.1.length ∧ ∀ b ∈ k.2, 1 ≤ b.1.length) : 54 * ks.length + 54 * (bNames ks).length + 14 * (fNames ks).length ≤ wtD (kindsD ks) := by
  have h1 := wts_ge (f := kindD) (g := fun k => 54 + (54 * k.2.length + 14 * (k.2.flatMap fun b => b.2).length)) (l := ks) fun b h => by have := wt_kind (g b h).1 (g b h).2; omega
  rw [sum_up (fun k : Kind => 54 * k.2.length + 14 * (k.2.flatMap fun b => b.2).length) 54 ks] at h1
  have h2 : (ks.map fun k => 54 * k.2.length + 14 * (k.2.flatMap fun b => b.2).length).sum = 54 * (bNames ks).length + 14 * (fNames ks).length := by
    unfold bNames fNames
    rw [len_flat, len_flat]
    clear h1 g
    induction ks with
    | nil => rfl
    | cons a l ih =>
      simp only [List.map_cons, List.sum_cons, ih, List.length_map]
      omega
  unfold kindsD
  rw [wtD]
  omega
theorem gd_tups {xs : List D} (h : gd (.tup xs) = true) : ∀ x ∈ xs, gd x = true := gds_mem.mp (by rwa [gd] at h)
theorem wt_tup {xs : List D} : wtD (.tup xs) = wts xs + 13 := by rw [wtD]
/-- the fields may be shown -/
theorem gd_field {ks : List Kind} (h : gd (kindsD ks) = true) : ∀ k ∈ ks, ∀ b ∈ k.2, ∀ f ∈ b.2, ascii f = true := fun k hk b hb f hf => by
  have h1 := gd_tups h (kindD k) (List.mem_map_of_mem hk)
  have h2 := gd_tups (gd_tups h1 (.tup (k.2.map boughD)) (by simp)) (boughD b) (List.mem_map_of_mem hb)
  have h3 := gd_tups (gd_tups h2 (.tup (b.2.map D.str)) (by simp)) (.str f) (List.mem_map_of_mem hf)
  rwa [gd] at h3
end KB
namespace KB
open PySem L2 Dk
open PyProof.Rows (envOfC)
def top (i : Nat) : Stmt := PySem.Challenge.pw_dressedkinds_k01_what_are_names_and_kind.main.body.getD i (.Pass ⟨0, 0, 0, 0⟩)
abbrev s_is_name : Stmt := top 24
theorem sc_is_name : FnScope ["thing", "sign"] ["thing"] (defScope s_is_name) := ⟨rfl, rfl, rfl, by decide +kernel, rfl, by decide +kernel, by decide +kernel⟩
theorem bd_is_name (kV doc pm : Value) (an : Option Addr) (cdv ct : Value) (us : List Value) (hl : us.length = 1) : bindArgs (PySem.W.fnOf "is_name" "is_name" (defArgs s_is_name) (defBody s_is_name) (defScope s_is_name) .none kV doc pm an cdv ct) ⟨us, []⟩ = pure ((["thing"] : List Str).zip us) := by
  match us, hl with
  | [v0], _ => rfl
abbrev s_is_bough : Stmt := top 26
theorem sc_is_bough : FnScope ["thing", "field"] ["thing"] (defScope s_is_bough) := ⟨rfl, rfl, rfl, by decide +kernel, rfl, by decide +kernel, by decide +kernel⟩
theorem bd_is_bough (kV doc pm : Value) (an : Option Addr) (cdv ct : Value) (us : List Value) (hl : us.length = 1) : bindArgs (PySem.W.fnOf "is_bough" "is_bough" (defArgs s_is_bough) (defBody s_is_bough) (defScope s_is_bough) .none kV doc pm an cdv ct) ⟨us, []⟩ = pure ((["thing"] : List Str).zip us) := by
  match us, hl with
  | [v0], _ => rfl
abbrev s_is_kind : Stmt := top 27
theorem sc_is_kind : FnScope ["thing", "bough"] ["thing"] (defScope s_is_kind) := ⟨rfl, rfl, rfl, by decide +kernel, rfl, by decide +kernel, by decide +kernel⟩
theorem bd_is_kind (kV doc pm : Value) (an : Option Addr) (cdv ct : Value) (us : List Value) (hl : us.length = 1) : bindArgs (PySem.W.fnOf "is_kind" "is_kind" (defArgs s_is_kind) (defBody s_is_kind) (defScope s_is_kind) .none kV doc pm an cdv ct) ⟨us, []⟩ = pure ((["thing"] : List Str).zip us) := by
  match us, hl with
  | [v0], _ => rfl
abbrev s_are_unlike : Stmt := top 28
theorem sc_are_unlike : FnScope ["names", "name"] ["names"] (defScope s_are_unlike) := ⟨rfl, rfl, rfl, by decide +kernel, rfl, by decide +kernel, by decide +kernel⟩
theorem bd_are_unlike (kV doc pm : Value) (an : Option Addr) (cdv ct : Value) (us : List Value) (hl : us.length = 1) : bindArgs (PySem.W.fnOf "are_unlike" "are_unlike" (defArgs s_are_unlike) (defBody s_are_unlike) (defScope s_are_unlike) .none kV doc pm an cdv ct) ⟨us, []⟩ = pure ((["names"] : List Str).zip us) := by
  match us, hl with
  | [v0], _ => rfl
abbrev s_is_kinds : Stmt := top 29
theorem sc_is_kinds : FnScope ["thing", "kind", "names", "name", "boughs", "bough", "fields", "some", "field"] ["thing"] (defScope s_is_kinds) := ⟨rfl, rfl, rfl, by decide +kernel, rfl, by decide +kernel, by decide +kernel⟩
theorem bd_is_kinds (kV doc pm : Value) (an : Option Addr) (cdv ct : Value) (us : List Value) (hl : us.length = 1) : bindArgs (PySem.W.fnOf "is_kinds" "is_kinds" (defArgs s_is_kinds) (defBody s_is_kinds) (defScope s_is_kinds) .none kV doc pm an cdv ct) ⟨us, []⟩ = pure ((["thing"] : List Str).zip us) := by
  match us, hl with
  | [v0], _ => rfl
abbrev s_with_worths : Stmt := top 30
theorem sc_with_worths : FnScope ["kinds", "found", "turn", "name", "boughs", "field", "bough", "fields"] ["kinds"] (defScope s_with_worths) := ⟨rfl, rfl, rfl, by decide +kernel, rfl, by decide +kernel, by decide +kernel⟩
theorem bd_with_worths (kV doc pm : Value) (an : Option Addr) (cdv ct : Value) (us : List Value) (hl : us.length = 1) : bindArgs (PySem.W.fnOf "with_worths" "with_worths" (defArgs s_with_worths) (defBody s_with_worths) (defScope s_with_worths) .none kV doc pm an cdv ct) ⟨us, []⟩ = pure ((["kinds"] : List Str).zip us) := by
  match us, hl with
  | [v0], _ => rfl
structure TxtB (K : PySem.W.Frag) (C : Addr) (mg : Str → Option Value) : Prop where
  g_LETTERS : ∃ t, mg "LETTERS" = some (.str "abcdefghijklmnopqrstuvwxyz" t)
  g_LONGEST : ∃ t, mg "LONGEST" = some (.int 8 t)
  g_NUM : ∃ t, mg "NUM" = some (.str "num" t)
  b_isinstance : mg "isinstance" = none
  b_str : mg "str" = none
  b_tuple : mg "tuple" = none
  b_len : mg "len" = none
  b_all : mg "all" = none
  b_any : mg "any" = none
  b_range : mg "range" = none
  b_sum : mg "sum" = none
  b_min : mg "min" = none
  b_max : mg "max" = none
  b_int : mg "int" = none
  b_repr : mg "repr" = none
  b_list : mg "list" = none
  b_sorted : mg "sorted" = none
  b_zip : mg "zip" = none
  cl_Book : Cls K C
  na_Book_kinds : NoAttr K C "kinds"
  na_Book_names_by : NoAttr K C "names_by"
  na_Book_kinds_by : NoAttr K C "kinds_by"
  na_Book_fields_by : NoAttr K C "fields_by"
end KB
namespace KB
open PySem L2 Dk
open PyProof.Rows (envOfC)
def spOf (R : D → Prop) (g : D → Bool) : DSp where
  n := 1
  f := fun ds Q _ => ∃ x, ds = [x] ∧ R x ∧ Q (.bl (g x))
  len := fun ds Q E ⟨m, e, _⟩ => by rw [e]; rfl
  mono := fun ds Q Q' E E' k _ ⟨m, e, h, q⟩ => ⟨m, e, h, k _ q⟩
/-- what may be looked at: not too great a thing -/
structure Fit (d : D) : Prop where
  g : gd d = true
  w : wtD d ≤ 200000
theorem Fit.mem {xs : List D} (h : Fit (.tup xs)) {x : D} (hx : x ∈ xs) : Fit x := ⟨gd_tups h.g x hx, by have := h.w; rw [wt_tup] at this; have := wts_mem hx; omega⟩
theorem Fit.len {xs : List D} (h : Fit (.tup xs)) : xs.length ≤ 17000 := by have := h.w; rw [wt_tup] at this; have := wts_len xs; omega
theorem Fit.str {x : Str} (h : Fit (.str x)) : x.length ≤ 20000 ∧ ascii x = true := ⟨by have := h.w; rw [wtD] at this; omega, by have := h.g; rwa [gd] at this⟩
structure FitN (d : D) : Prop where
  k : known d = true
  l : ∀ x, d = .str x → x.length ≤ 20000
theorem Fit.nm {d : D} (h : Fit d) : FitN d := ⟨gd_known h.g, fun x e => by subst e; exact h.str.1⟩
def spNameA : DSp := spOf FitN isNm
def spBoughA : DSp := spOf Fit isBg
def spKindA : DSp := spOf Fit isKd
noncomputable def spKindsA : DSp := spOf Fit okD
def spUnlikeA : DSp where
  n := 1
  f := fun ds Q _ => ∃ xs : List Str, ds = [.lst (xs.map D.str)] ∧ xs.length ≤ 3990 ∧ Q (.bl (decide xs.Nodup))
  len := fun ds Q E ⟨m, e, _⟩ => by rw [e]; rfl
  mono := fun ds Q Q' E E' k _ ⟨m, e, h, q⟩ => ⟨m, e, h, k _ q⟩
section
variable {P : Program} {w : World} {K : PySem.W.Frag} {C : Addr} {mg : Str → Option Value} {base : Heap} {W : Wd} {k : Nat} {f : Addr} {fd : FuncData}
theorem all_bls {α : Type} (p : α → Bool) (l : List α) : ∃ ns : List Bool, (l.map fun a => D.bl (p a)) = ns.map D.bl ∧ ns.all id = l.all p := ⟨l.map p, by rw [List.map_map]; rfl, by rw [List.all_map]; rfl⟩
theorem ok_is_nameA (T : TxtB K C mg) (Fn : Fun K "is_name" "is_name" s_is_name f fd) : GnOk P w K mg base CX0 (k + 1) f fd ["thing"] (spD W K spNameA) := by
  refine Fn.okD sc_is_name rfl fun cdv A outer s H I ds Q Ed E hr h => ?_
  have hu := hr.units
  have hu2 : (A.deeper (envOfC "is_name" (defScope s_is_name) s.heap.objs.size f cdv)).units + 66 < cLine := by have := hr.room.un; omega
  obtain ⟨d, rfl, hd, q⟩ := h
  refine ⟨_, (dss_cons (ds_if (dt_wh (dw_or (dt_not (dt_val (de_isi is_str T.b_isinstance T.b_str (by decide +kernel) (de_name 0)))) (dw_or (dt_not (dt_chain .le .le de_int (de_len T.b_len (da_cons (de_name 0) da_nil)) (de_gi T.g_LONGEST))) (dw_or1 (dt_c (.eq hu) (de_name 0) (de_gs T.g_NUM))))))
  (dss_one (ds_ret de_bl))
  dss_nil)
  (dss_one (ds_ret (de_all rfl T.b_all (da_cons (de_lc (own := [("sign", 1)]) rfl sc_is_name.nd (di_seq (de_name 0)) (blkOk_by (own := [("sign", 1)]) (N := ["thing", "sign"]) (sc := defScope s_is_name) (by decide +kernel)) (fun _ _ _ _ _ => (dg_name 1 sc_is_name.nd)) (fun _ _ _ _ _ => dif_nil) (fun _ _ _ _ _ => (de_in hu2 (de_name 1) (de_gs T.g_LETTERS)))) da_nil))))), ?_⟩
  simp only [getD_0, getD_s, set_0, set_s, boolD_bl, intD_int, startD, List.map, List.length_cons, List.length_nil, List.replicate, List.cons_append, List.nil_append, defEnds, wipeD, if_true, if_false, Bool.not_true, Bool.not_false, Bool.false_eq_true]
  refine ⟨hd.k, ?_⟩
  cases hs : isStr d with
  | false =>
    simp only [Bool.not_false, if_true]
    rw [isNm_not hs] at q
    exact q
  | true =>
    obtain ⟨x, rfl⟩ := str_of' hs
    have hl := hd.l x rfl
    simp only [Bool.not_true, Bool.false_eq_true, if_false, lenD, leD]
    refine ⟨Nat.le_trans hl (by decide), ?_⟩
    simp only [getD_0, getD_s, set_0, set_s, boolD_bl, intD_int, startD, List.map, List.length_cons, List.length_nil, List.replicate, List.cons_append, List.nil_append, defEnds, wipeD, if_true, if_false, Bool.not_true, Bool.not_false, Bool.false_eq_true]
    have e1 : isNm (.str x) = (decide (1 ≤ x.length) && (decide (x.length ≤ 8) && (!decide (x = numS) && x.cps.toList.all signOk))) := rfl
    rw [e1] at q
    by_cases h1 : 1 ≤ x.length
    · rw [decide_eq_true h1, Bool.true_and] at q
      rw [if_pos (by simp; omega)]
      by_cases h8 : x.length ≤ 8
      · rw [decide_eq_true h8, Bool.true_and] at q
        rw [if_neg (by simp; omega)]
        simp only [eqD_str, boolD_bl]
        by_cases hn : x = numS
        · rw [if_pos (by rw [decide_eq_true_eq]; exact hn)]
          rw [decide_eq_true hn] at q
          exact q
        · rw [if_neg (by rw [decide_eq_true_eq]; exact hn)]
          rw [decide_eq_false hn, Bool.not_false, Bool.true_and] at q
          simp only [itemsD]
          have e : sgnD x = x.cps.toList.map fun c => D.str ⟨#[c]⟩ := rfl
          rw [e]
          refine ⟨by rw [List.length_map]; exact Nat.le_trans hl (by decide), lcD_all (fun c => D.str ⟨#[c]⟩) (fun c => .bl (signOk c)) (fun c hc R S r => ?_) ?_⟩
          · simp only [wipeD, getD_0, getD_s, set_0, set_s, boolD_bl, intD_int, startD, List.map, List.length_cons, List.length_nil, List.replicate, List.cons_append, List.nil_append, defEnds, if_true]
            refine ⟨_, rfl, ?_⟩
            rw [in_abc]
            exact r
          · obtain ⟨ns, e1, e2⟩ := all_bls signOk x.cps.toList
            exact ⟨ns, e1, by rw [e2]; exact q⟩
      · rw [decide_eq_false h8, Bool.false_and] at q
        rw [if_pos (by simp; omega)]
        exact q
    · rw [decide_eq_false h1, Bool.false_and] at q
      rw [if_neg (by simp; omega)]
      exact q
theorem ok_is_boughA (T : TxtB K C mg) (Fn : Fun K "is_bough" "is_bough" s_is_bough f fd) (C_is_name : Cal P w K mg base CX0 W k "is_name" ["thing"] spNameA) : GnOk P w K mg base CX0 (k + 1) f fd ["thing"] (spD W K spBoughA) := by
  refine Fn.okD sc_is_bough rfl fun cdv A outer s H I ds Q Ed E hr h => ?_
  have hu := hr.units
  obtain ⟨d, rfl, hd, q⟩ := h
  refine ⟨_, (dss_cons (ds_if (dt_wh (dw_or (dt_not (dt_val (de_isi is_tup T.b_isinstance T.b_tuple (by decide +kernel) (de_name 0)))) (dw_or (dt_c (.ne hu) (de_len T.b_len (da_cons (de_name 0) da_nil)) de_int) (dw_or (dt_not (dt_val (de_fn C_is_name (hr.mono (by omega)) pass0 lets0 (da_cons (de_at hu (de_name 0) de_int) da_nil)))) (dw_or1 (dt_not (dt_val (de_isi is_tup T.b_isinstance T.b_tuple (by decide +kernel) (de_at hu (de_name 0) de_int)))))))))
  (dss_one (ds_ret de_bl))
  dss_nil)
  (dss_one (ds_ret (de_all rfl T.b_all (da_cons (de_lc (own := [("field", 1)]) rfl sc_is_bough.nd (di_seq (de_at hu (de_name 0) de_int)) (blkOk_by (own := [("field", 1)]) (N := ["thing", "field"]) (sc := defScope s_is_bough) (by decide +kernel)) (fun _ _ _ _ _ => (dg_name 1 sc_is_bough.nd)) (fun _ _ _ _ _ => dif_nil) (fun _ _ _ _ _ => (de_isi is_str T.b_isinstance T.b_str (by decide +kernel) (de_name 1)))) da_nil))))), ?_⟩
  simp only [getD_0, getD_s, set_0, set_s, boolD_bl, intD_int, startD, List.map, List.length_cons, List.length_nil, List.replicate, List.cons_append, List.nil_append, defEnds, wipeD, if_true, if_false, Bool.not_true, Bool.not_false, Bool.false_eq_true]
  refine ⟨gd_known hd.g, ?_⟩
  unfold isBg at q
  cases ht : isTup d with
  | false =>
    simp only [Bool.not_false, if_true]
    rw [isTwo_not ht] at q
    exact q
  | true =>
    obtain ⟨xs, rfl⟩ := tup_of ht
    simp only [Bool.not_true, Bool.false_eq_true, if_false, lenD]
    rw [neD_int]
    simp only [getD_0, getD_s, set_0, set_s, boolD_bl, intD_int, startD, List.map, List.length_cons, List.length_nil, List.replicate, List.cons_append, List.nil_append, defEnds, wipeD, if_true, if_false, Bool.not_true, Bool.not_false, Bool.false_eq_true]
    by_cases hl : xs.length = 2
    · obtain ⟨a, b, rfl⟩ := two_of hl
      rw [if_neg (by simp)]
      have ha := hd.mem (x := a) (by simp)
      have hb := hd.mem (x := b) (by simp)
      refine ⟨a, atI_0, a, rfl, ha.nm, ?_⟩
      have e1 : isTwo (fun fs => fs.all isStr) (.tup [a, b]) = (isNm a && tupB (fun fs => fs.all isStr) b) := rfl
      rw [e1] at q
      simp only [getD_0, getD_s, set_0, set_s, boolD_bl, intD_int, startD, List.map, List.length_cons, List.length_nil, List.replicate, List.cons_append, List.nil_append, defEnds, wipeD, if_true, if_false, Bool.not_true, Bool.not_false, Bool.false_eq_true]
      cases hn : isNm a with
      | false =>
        rw [hn] at q
        exact q
      | true =>
        rw [hn, Bool.true_and] at q
        simp only [Bool.not_true, Bool.false_eq_true, if_false]
        refine ⟨b, atI_1, gd_known hb.g, ?_⟩
        cases hb' : isTup b with
        | false =>
          rw [tupB_not hb'] at q
          exact q
        | true =>
          obtain ⟨fs, rfl⟩ := tup_of hb'
          simp only [Bool.not_true, Bool.false_eq_true, if_false]
          refine ⟨_, atI_1, ?_⟩
          simp only [itemsD]
          refine ⟨Nat.le_trans hb.len (by decide), lcD_fun (fun x => .bl (isStr x)) (fun c hc R S r => ?_) ?_⟩
          · simp only [wipeD, getD_0, getD_s, set_0, set_s, boolD_bl, intD_int, startD, List.map, List.length_cons, List.length_nil, List.replicate, List.cons_append, List.nil_append, defEnds, if_true]
            exact ⟨gd_known (hb.mem hc).g, r⟩
          · obtain ⟨ns, e1, e2⟩ := all_bls isStr fs
            exact ⟨ns, e1, by rw [e2]; exact q⟩
    · rw [if_pos (by simp; omega)]
      rw [isTwo_len hl] at q
      exact q
theorem ok_is_kindA (T : TxtB K C mg) (Fn : Fun K "is_kind" "is_kind" s_is_kind f fd) (C_is_name : Cal P w K mg base CX0 W k "is_name" ["thing"] spNameA) (C_is_bough : Cal P w K mg base CX0 W k "is_bough" ["thing"] spBoughA) : GnOk P w K mg base CX0 (k + 1) f fd ["thing"] (spD W K spKindA) := by
  refine Fn.okD sc_is_kind rfl fun cdv A outer s H I ds Q Ed E hr h => ?_
  have hu := hr.units
  obtain ⟨d, rfl, hd, q⟩ := h
  refine ⟨_, (dss_cons (ds_if (dt_wh (dw_or (dt_not (dt_val (de_isi is_tup T.b_isinstance T.b_tuple (by decide +kernel) (de_name 0)))) (dw_or (dt_c (.ne hu) (de_len T.b_len (da_cons (de_name 0) da_nil)) de_int) (dw_or (dt_not (dt_val (de_fn C_is_name (hr.mono (by omega)) pass0 lets0 (da_cons (de_at hu (de_name 0) de_int) da_nil)))) (dw_or1 (dt_not (dt_val (de_isi is_tup T.b_isinstance T.b_tuple (by decide +kernel) (de_at hu (de_name 0) de_int)))))))))
  (dss_one (ds_ret de_bl))
  dss_nil)
  (dss_one (ds_ret (de_and (de_neT0 hu (de_at hu (de_name 0) de_int) (de_tup da_nil)) (de_one (de_all rfl T.b_all (da_cons (de_lc (own := [("bough", 1)]) rfl sc_is_kind.nd (di_seq (de_at hu (de_name 0) de_int)) (blkOk_by (own := [("bough", 1)]) (N := ["thing", "bough"]) (sc := defScope s_is_kind) (by decide +kernel)) (fun _ _ _ _ _ => (dg_name 1 sc_is_kind.nd)) (fun _ _ _ _ _ => dif_nil) (fun _ _ _ _ _ => (de_fn C_is_bough (hr.mono (by omega)) pass0 lets0 (da_cons (de_name 1) da_nil)))) da_nil))))))), ?_⟩
  simp only [getD_0, getD_s, set_0, set_s, boolD_bl, intD_int, startD, List.map, List.length_cons, List.length_nil, List.replicate, List.cons_append, List.nil_append, defEnds, wipeD, if_true, if_false, Bool.not_true, Bool.not_false, Bool.false_eq_true]
  refine ⟨gd_known hd.g, ?_⟩
  unfold isKd at q
  cases ht : isTup d with
  | false =>
    simp only [Bool.not_false, if_true]
    rw [isTwo_not ht] at q
    exact q
  | true =>
    obtain ⟨xs, rfl⟩ := tup_of ht
    simp only [Bool.not_true, Bool.false_eq_true, if_false, lenD]
    rw [neD_int]
    simp only [getD_0, getD_s, set_0, set_s, boolD_bl, intD_int, startD, List.map, List.length_cons, List.length_nil, List.replicate, List.cons_append, List.nil_append, defEnds, wipeD, if_true, if_false, Bool.not_true, Bool.not_false, Bool.false_eq_true]
    by_cases hl : xs.length = 2
    · obtain ⟨a, b, rfl⟩ := two_of hl
      rw [if_neg (by simp)]
      have ha := hd.mem (x := a) (by simp)
      have hb := hd.mem (x := b) (by simp)
      refine ⟨a, atI_0, a, rfl, ha.nm, ?_⟩
      have e1 : isTwo (fun bs => !bs.isEmpty && bs.all isBg) (.tup [a, b]) = (isNm a && tupB (fun bs => !bs.isEmpty && bs.all isBg) b) := rfl
      rw [e1] at q
      simp only [getD_0, getD_s, set_0, set_s, boolD_bl, intD_int, startD, List.map, List.length_cons, List.length_nil, List.replicate, List.cons_append, List.nil_append, defEnds, wipeD, if_true, if_false, Bool.not_true, Bool.not_false, Bool.false_eq_true]
      cases hn : isNm a with
      | false =>
        rw [hn] at q
        exact q
      | true =>
        rw [hn, Bool.true_and] at q
        simp only [Bool.not_true, Bool.false_eq_true, if_false]
        refine ⟨b, atI_1, gd_known hb.g, ?_⟩
        cases hb' : isTup b with
        | false =>
          rw [tupB_not hb'] at q
          exact q
        | true =>
          obtain ⟨fs, rfl⟩ := tup_of hb'
          simp only [Bool.not_true, Bool.false_eq_true, if_false]
          refine ⟨_, atI_1, Nat.zero_le _, fs, rfl, rfl, ?_⟩
          rw [tupB] at q
          simp only [getD_0, getD_s, set_0, set_s, boolD_bl, intD_int, startD, List.map, List.length_cons, List.length_nil, List.replicate, List.cons_append, List.nil_append, defEnds, wipeD, if_true, if_false, Bool.not_true, Bool.not_false, Bool.false_eq_true]
          cases he : fs.isEmpty with
          | true =>
            rw [he] at q
            exact q
          | false =>
            rw [he, Bool.not_false, Bool.true_and] at q
            simp only [Bool.not_false, if_true]
            refine ⟨_, atI_1, ?_⟩
            simp only [itemsD]
            refine ⟨Nat.le_trans hb.len (by decide), lcD_fun (fun x => .bl (isBg x)) (fun c hc R S r => ?_) ?_⟩
            · simp only [wipeD, getD_0, getD_s, set_0, set_s, boolD_bl, intD_int, startD, List.map, List.length_cons, List.length_nil, List.replicate, List.cons_append, List.nil_append, defEnds, if_true]
              exact ⟨_, rfl, hb.mem hc, r⟩
            · obtain ⟨ns, e1, e2⟩ := all_bls isBg fs
              exact ⟨ns, e1, by rw [e2]; exact q⟩
    · rw [if_pos (by simp; omega)]
      rw [isTwo_len hl] at q
      exact q
theorem addK_len_nd : ∀ (xs pre : List Str), pre.Nodup → (((xs.map Sum.inr).foldl addK (pre.map (Sum.inr : Str → Key))).length = pre.length + xs.length ↔ (pre ++ xs).Nodup) ∧ ((xs.map Sum.inr).foldl addK (pre.map (Sum.inr : Str → Key))).length ≤ pre.length + xs.length
  | [], pre, h => by simp [h]
  | x :: xs, pre, h => by
    have e : addK (pre.map (Sum.inr : Str → Key)) (Sum.inr x) = if x ∈ pre then pre.map Sum.inr else (pre ++ [x]).map Sum.inr := by
      unfold addK hasK
      rw [List.any_map]
      by_cases hx : x ∈ pre
      · rw [if_pos hx, if_pos (List.any_eq_true.mpr ⟨x, hx, by simp⟩)]
      · rw [if_neg hx, if_neg, List.map_append]
        · rfl
        · rw [Bool.not_eq_true, List.any_eq_false]
          intro y hy z
          have z2 : y = x := by simpa using z
          exact hx (z2 ▸ hy)
    rw [List.map_cons, List.foldl_cons, e]
    by_cases hx : x ∈ pre
    · rw [if_pos hx]
      obtain ⟨_, b⟩ := addK_len_nd xs pre h
      rw [List.length_cons]
      refine ⟨⟨fun z => by omega, fun z => ?_⟩, by omega⟩
      rw [List.nodup_append] at z
      exact absurd rfl (z.2.2 x hx x (by simp))
    · rw [if_neg hx]
      obtain ⟨a, b⟩ := addK_len_nd xs (pre ++ [x]) (by
        rw [List.nodup_append]
        exact ⟨h, by simp, fun y hy z hz e => hx (by rw [List.mem_singleton] at hz; rw [← hz, ← e]; exact hy)⟩)
      rw [List.length_append, List.length_singleton] at a b
      rw [List.length_cons]
      refine ⟨?_, by omega⟩
      rw [show pre.length + (xs.length + 1) = pre.length + 1 + xs.length by omega, a, List.append_assoc]
      rfl
theorem ok_are_unlikeA (T : TxtB K C mg) (Fn : Fun K "are_unlike" "are_unlike" s_are_unlike f fd) : GnOk P w K mg base CX0 (k + 1) f fd ["names"] (spD W K spUnlikeA) := by
  refine Fn.okD sc_are_unlike rfl fun cdv A outer s H I ds Q Ed E hr h => ?_
  have hu := hr.units
  obtain ⟨xs, rfl, hl, q⟩ := h
  refine ⟨_, (dss_one (ds_ret (de_c (.eq hu) (de_lenSc (own := [("name", 1)]) T.b_len rfl sc_are_unlike.nd (di_seq (de_name 0)) (blkOk_by (own := [("name", 1)]) (N := ["names", "name"]) (sc := defScope s_are_unlike) (by decide +kernel)) (fun _ _ _ _ _ => (dg_name 1 sc_are_unlike.nd)) (fun _ _ _ _ _ => dif_nil) (fun _ _ _ _ _ => (dn_nil rfl (dm_set (fun _ _ z => z) (de_name 1))))) (de_len T.b_len (da_cons (de_name 0) da_nil))))), ?_⟩
  simp only [getD_0, getD_s, set_0, set_s, boolD_bl, intD_int, startD, List.map, List.length_cons, List.length_nil, List.replicate, List.cons_append, List.nil_append, defEnds, itemsD, wipeD]
  have run : ∀ (ys : List Str) (b : List Key) (R : List Key → Prop), b.length + ys.length ≤ 3990 → R ((ys.map Sum.inr).foldl addK b) → loopD (fun d ρ Q => Q (List.set ρ 1 (some (Ent.dat d)))) (fun x Q => Q true) (fun ρ b Q => getD ρ 1 fun y => ∃ k, y = keyD k ∧ b.length < 4000 ∧ Q (addK b k)) [some (Ent.dat (D.lst (xs.map D.str))), none] (ys.map D.str) b R := by
    intro ys
    induction ys with
    | nil => intro b R _ q; simpa [loopD] using q
    | cons y ys ih =>
      intro b R hl q
      rw [List.length_cons] at hl
      simp only [List.map_cons, loopD, getD_0, getD_s, set_0, set_s, boolD_bl, intD_int, startD, List.map, List.length_cons, List.length_nil, List.replicate, List.cons_append, List.nil_append, defEnds, if_true]
      refine ⟨.inr y, rfl, by omega, ih _ R ?_ q⟩
      rw [addK_len]
      split <;> omega
  refine run xs [] _ (by simpa using hl) ?_
  have h1 := (addK_len_nd xs [] List.nodup_nil).1
  simp only [List.map_nil, List.length_nil, Nat.zero_add, List.nil_append] at h1
  simp only [lenD, List.length_map, eqD_int]
  have e : decide ((((xs.map Sum.inr).foldl addK ([] : List Key)).length : Int) = (xs.length : Int)) = decide xs.Nodup := by
    rw [decide_eq_decide, ← h1]
    omega
  rw [e]
  exact q
end
end KB
namespace KB
open PySem L2 Dk
open PyProof.Rows (envOfC)
def fieldsOk (kvs : List (Key × D)) (b : Bough) : Bool := b.2.all fun f => decide (f = numS) || hasN kvs f
theorem hasN_in {kvs : List (Key × D)} {f : Str} {Q : D → Prop} : inD false (.str f) (.dic kvs) Q ↔ Q (.bl (hasN kvs f)) := by
  refine ⟨fun ⟨k, e, q⟩ => ?_, fun q => ⟨.inr f, rfl, q⟩⟩
  cases k with
  | inl _ => cases e
  | inr g => cases e; exact q
theorem len_put {kvs : List (Key × D)} {k : Key} {d : D} : (putD kvs k d).length ≤ kvs.length + 1 := by
  unfold putD
  split
  · rw [List.length_map]; omega
  · simp
end KB
namespace KB
open PySem L2 Dk
open PyProof.Rows (envOfC)
abbrev s_Book___init__ : Stmt := inClass (top 32) 0
theorem sc_Book___init__ : FnScope ["self", "kinds", "founded", "name", "boughs", "bough", "fields"] ["self", "kinds"] (defScope s_Book___init__) := ⟨rfl, rfl, rfl, by decide +kernel, rfl, by decide +kernel, by decide +kernel⟩
theorem bd_Book___init__ (kV doc pm : Value) (an : Option Addr) (cdv ct : Value) (us : List Value) (hl : us.length = 2) : bindArgs (PySem.W.fnOf "__init__" "Book.__init__" (defArgs s_Book___init__) (defBody s_Book___init__) (defScope s_Book___init__) .none kV doc pm an cdv ct) ⟨us, []⟩ = pure ((["self", "kinds"] : List Str).zip us) := by
  match us, hl with
  | [v0, v1], _ => rfl
def namesBy (ks : List Kind) : List (Key × D) := ks.map fun k => (.inr k.1, .tup (k.2.map fun b => .str b.1))
def kindsBy (ks : List Kind) : List (Key × D) := ks.flatMap fun k => k.2.map fun b => (.inr b.1, .str k.1)
def fieldsBy (ks : List Kind) : List (Key × D) := ks.flatMap fun k => k.2.map fun b => (.inr b.1, .tup (b.2.map D.str))
theorem namesBy_keys {ks : List Kind} : (namesBy ks).map (·.1) = (kNames ks).map Sum.inr := by unfold namesBy kNames; rw [List.map_map, List.map_map]; rfl
theorem kindsBy_keys {ks : List Kind} : (kindsBy ks).map (·.1) = (bNames ks).map Sum.inr := by
  unfold kindsBy bNames; rw [List.map_flatMap, List.map_flatMap]; simp only [List.map_map]; rfl
theorem fieldsBy_keys {ks : List Kind} : (fieldsBy ks).map (·.1) = (bNames ks).map Sum.inr := by
  unfold fieldsBy bNames; rw [List.map_flatMap, List.map_flatMap]; simp only [List.map_map]; rfl
theorem nodup_inr {l : List Str} (h : l.Nodup) : (l.map (Sum.inr : Str → Key)).Nodup := (List.pairwise_map).mpr (h.imp fun h e => h (Sum.inr.inj e))
theorem Good.nk {ks : List Kind} (g : Good ks) : ((namesBy ks).map (·.1)).Nodup := by rw [namesBy_keys]; exact nodup_inr g.nd
theorem Good.kk {ks : List Kind} (g : Good ks) : ((kindsBy ks).map (·.1)).Nodup := by rw [kindsBy_keys]; exact nodup_inr g.bd
theorem Good.fk {ks : List Kind} (g : Good ks) : ((fieldsBy ks).map (·.1)).Nodup := by rw [fieldsBy_keys]; exact nodup_inr g.bd
theorem Good.blen {ks : List Kind} (g : Good ks) : (bNames ks).length ≤ 48 := by
  have : ∀ ks' : List Kind, (∀ k ∈ ks', k.2.length ≤ 8) → (bNames ks').length ≤ 8 * ks'.length := fun ks' => by
    induction ks' with
    | nil => simp [bNames]
    | cons a l ih =>
      intro h
      have h1 := h a (by simp)
      have h2 := ih fun k hk => h k (List.mem_cons_of_mem _ hk)
      simp only [bNames, List.flatMap_cons, List.length_append, List.length_map, List.length_cons] at h2 ⊢
      omega
  have h1 := this ks g.s2
  have h2 := g.s1
  omega
theorem Good.klen {ks : List Kind} (g : Good ks) : (kindsBy ks).length ≤ 48 := by
  have := congrArg List.length (kindsBy_keys (ks := ks))
  rw [List.length_map, List.length_map] at this
  rw [this]; exact g.blen
theorem Good.flen {ks : List Kind} (g : Good ks) : (fieldsBy ks).length ≤ 48 := by
  have := congrArg List.length (fieldsBy_keys (ks := ks))
  rw [List.length_map, List.length_map] at this
  rw [this]; exact g.blen
def bookD (C : Addr) (ks : List Kind) : D := .obj C [("kinds", kindsD ks), ("names_by", .dic (namesBy ks)), ("kinds_by", .dic (kindsBy ks)), ("fields_by", .dic (fieldsBy ks))]
theorem len_putFD {f : Str} {v : D} {n : Nat} : ∀ {l : List (Str × D)}, l.length < n → (putFD f v l).length < n + 1
  | [], h => by simp [putFD]; omega
  | (g, x) :: r, h => by
    unfold putFD
    split
    · simp only [List.length_cons] at h ⊢; omega
    · cases n with
      | zero => omega
      | succ n =>
        have := len_putFD (f := f) (v := v) (n := n) (l := r) (by simp only [List.length_cons] at h; omega)
        simp only [List.length_cons]
        omega
end KB
namespace Dk
open PySem L2 PySem.SeqAt
open PyProof.Rows (envOfC)
section
variable {P : Program} {w : World} {K : PySem.W.Frag} {mg : Str → Option Value} {base : Heap}
/-- __init__ that may raise, by its body -/
theorem _root_.L2.Fun.okIX {W : Wd} {S : DSp} {C : Addr} {x qual : Str} {st : Stmt} {f : Addr} {fd : FuncData} {N ps : List Str} {k : Nat} (Fn : Fun K x qual st f fd) (Sc : FnScope N ps (defScope st)) (hn : S.n + 1 = ps.length)
    (hbody : ∀ (cdv : Value) (A : Around) (outer : List Env) (s : Shared) (H I B : Hp) (a : Addr) (ds : List D) (Q : D → Prop) (E : XK), Rm k (A.deeper (envOfC qual (defScope st) s.heap.objs.size f cdv)) → S.f ds Q (finX W K I B E) →
      ∃ t, DSts ⟨W, B, I⟩ (cxOf (L2.CX P w) P w K mg base N qual (defScope st) f cdv A outer s H E) (defBody st) t ∧ t (initEnds a C Q) (startI N a C ds)) : GnOk P w K mg base (L2.CX P w) (k + 1) f fd ps (spInit W K C S) := by
  refine Fn.gn Sc (fun vs H Q E ⟨a, dx, us, I, ds, e, _, _, _, _, r, h⟩ => ?_) fun cdv A outer s H vs Q E hr ⟨a, dx, us, I, ds, e, hx, ni, nm, si, r, h⟩ => ?_
  · subst e
    rw [List.length_cons, r.length, S.len _ _ _ h, hn]
  subst e
  obtain ⟨t, h1, h2⟩ := hbody cdv A outer s H I (dropA H a) a ds _ E hr h
  refine ⟨_, h1.run, I, _, at_startI si hx ni nm r, h1.mono (initEnds a C _) _ _ ⟨fun ρ ⟨fs, e0, q⟩ I' σ' H' sm A' => ?_, fun _ q => q.elim, fun _ q => q.elim, fun _ q => q.elim, fun _ q => q.elim⟩ h2⟩
  obtain ⟨p, o, _, w, s2, A2⟩ := A'.freeze e0 trivial
  have hp : p = a := w.ad _ rfl
  subst hp
  exact q _ _ A2.stp ((w.rep.mono s2).rep upd_same w.ad)
end
section
variable {X : Cx} {CX : CXT} {k : Nat} {f C : Addr} {fd : FuncData} {ps ks : List Str} {sp : Sp} {E : XK}
theorem gn_makeS {pins : List (Addr × Obj)} {σ : St} {H : Hp} {s : Shared} {Q : VK} {us as : List Value} {kw : List (Str × Value)} {vs : List V} (M : Mk X.K C f) (F : GnOk X.prog X.w X.K X.mg X.base CX k f fd ps sp) (hr : Rm (k + 1) X.A) (hx : PassesAt CX X σ E)
    (hb : ∀ (s' : Shared) (x : Value), X.K.In s'.heap → BindsTo s' fd ⟨x :: as, kw⟩ (ps.zip (x :: us))) (J : Inv X pins σ H s) (r : Vals vs us)
    (h : ∀ x dx, H x = none → H dx = none → dx ≠ x → sp (.ref x :: vs) (upd (upd H dx (.own x)) x (.ins C dx [])) (fun v H2 => v = .non ∧ Q (.ref x) H2) E) : wpAny (model X.prog X.w) X.A (call (.ref C) as kw) (EP X pins σ Q) X.xe s := by
  have q := h (s.heap.objs.size + 1) s.heap.objs.size (J.hok.fresh (Nat.le_succ _)) (J.hok.fresh (Nat.le_refl _)) (Nat.ne_of_lt (Nat.lt_succ_self _))
  have J2 := Inv.made (C := C) J
  refine wpAny_call (make_map (f := f) J.kIn M.makes M.init (beq_iff_eq.mp M.fn) (codeAny_mono (F.go _ X.stack _ _ ⟨Value.ref (s.heap.objs.size + 1) :: as, kw⟩ (Value.ref (s.heap.objs.size + 1) :: us) _ _ E (hr.make C as kw) (J2.env0.make C as kw) (hb _ _ J2.kIn) (.cons (show RelV (.ref (s.heap.objs.size + 1)) (.ref (s.heap.objs.size + 1)) from rfl) r) q) fun r s' z => ?_))
  cases r with
  | error e => exact hx pins _ _ e s' J2 z
  | ok fl => cases fl with
    | ret u =>
      obtain ⟨v, H', J3, rv, ev, q3⟩ := J2.after z
      subst ev
      exact ⟨rv, V.ref (s.heap.objs.size + 1), H', J3, rfl, q3⟩
    | next => exact z.elim
    | brk => exact z.elim
    | cont => exact z.elim
variable {F : Fx} {x : Str} {S : DSp} {p pos : Pos} {e : Expr} {es : List Expr} {t : DAT} {W : WX} {w : WD}
theorem de_makeS (c : CalC X.prog X.w X.K X.mg X.base (L2.CX X.prog X.w) F.W k x C ps S) (hr : Rm (k + 1) X.A) (tk : Takes X W) (le : LetsS F X.K w W) (ha : DA F X (e :: es) t)
    (hg : Gl X x := by rfl) (hdb : (x == ("__debug__" : Str)) = false := by decide) (he : starEach (e :: es) X.env = (false, eval e X.env) :: starEach es X.env := by rfl) (hpl : (backTo pos (starEach es X.env)).any (·.1) = false := by rfl) :
    DE F X (.Call (.Name x p) (e :: es) [] pos) (fun ρ Q => t ρ fun ds => S.f ds Q (w ρ)) := by
  obtain ⟨f, fd, M, G, hm, hb, hl⟩ := c.ex
  refine ⟨fun ρ Q Q' k h => ha.mono _ _ _ (fun d h => S.mono _ _ _ _ _ k (fun _ h => h) h) h, ⟨fun pins s σ H Q J ⟨I, ρ, A, h⟩ => ?_⟩⟩
  refine wpAny_Call_Name_kw (ld_glob J hg hm ?_ hdb)
  have run : rdA F X.K t σ H fun vs H1 => vs.length + 1 = ps.length ∧ ∀ x dx, H1 x = none → H1 dx = none → dx ≠ x → spInit F.W X.K C S (.ref x :: vs) (upd (upd H1 dx (.own x)) x (.ins C dx [])) (fun v H2 => v = .non ∧ Q (.ref x) H2) (WE W σ) := by
    refine rdA_next ha.mono A h fun ds vs I1 H1 q s1 rs => ⟨by rw [rs.length, S.len _ _ _ q, hl], fun x dx hx hd ne => ?_⟩
    obtain ⟨ni, nm, st, back⟩ := new_run (K := X.K) (o := .ins C dx []) s1.st hx hd ne
    refine ⟨x, dx, vs, I1, ds, rfl, upd_same, ni, nm, st, rs, S.mono _ _ _ _ _ (fun d q I' H' s' rv => ⟨rfl, q _ I' H' (s1.trans (back I' H' s')) rv⟩) (fun ex q cls d I' H' s' rv => ?_) q⟩
    exact le I1 ρ σ H1 (A.step s1) ex q cls d I' H' (back I' H' s') rv
  refine PySem.W.callWith_K (h₀ := X.base) J.ok.mod.kin M.kp (thn (ha.run.run pos pins s σ H _ J run) fun us s1 ⟨vs, H1, J1, r, l, q⟩ => ⟨J1.kIn, ?_⟩) he hpl
  exact gn_makeS M G hr (passAt tk σ) (fun s' x hk => by have := hb s' (x :: us) hk (by rw [List.append_nil, List.length_cons, ← r.length]; exact l); simpa using this) J1 r q
end
end Dk
namespace PySem.SeqAt
end PySem.SeqAt
namespace Dk
open PySem L2 PySem.SeqAt
end Dk
namespace KB
open PySem L2 Dk
open PyProof.Rows (envOfC)
/-- good kinds, not too many -/
structure Wk (ks : List Kind) : Prop where
  p : Pk ks
  ok : okK ks = true
  fit : Fit (kindsD ks)
theorem Pk.len {ks : List Kind} (g : Pk ks) : ks.length ≤ (bNames ks).length := by
  have : ∀ l : List Kind, (∀ k ∈ l, k.2 ≠ []) → l.length ≤ (bNames l).length := fun l => by
    induction l with
    | nil => simp
    | cons a l ih =>
      intro h
      have h1 := ih fun k hk => h k (List.mem_cons_of_mem _ hk)
      have h2 := List.length_pos_iff.mpr (h a (by simp))
      simp only [bNames, List.flatMap_cons, List.length_append, List.length_map, List.length_cons] at h1 ⊢
      omega
  exact this ks g.kb
theorem fit_lens {ks : List Kind} (g : Pk ks) (f : Fit (kindsD ks)) : ks.length ≤ 2300 ∧ (bNames ks).length ≤ 3990 ∧ (fNames ks).length ≤ 15000 := by
  have h1 := wt_kinds fun k hk => ⟨(nameOk_split (g.kn k hk)).1, fun b hb => (nameOk_split (g.bn k hk b hb)).1⟩
  have h2 := f.w
  have h3 := g.len
  omega
theorem blen_of {ks : List Kind} {k : Kind} (hk : k ∈ ks) : k.2.length ≤ (bNames ks).length := by
  unfold bNames
  induction ks with
  | nil => cases hk
  | cons a l ih =>
    rw [List.flatMap_cons, List.length_append, List.length_map]
    rcases List.mem_cons.mp hk with rfl | hk
    · omega
    · have := ih hk
      omega
theorem flen_of {ks : List Kind} {k : Kind} {b : Bough} (hk : k ∈ ks) (hb : b ∈ k.2) : b.2.length ≤ (fNames ks).length := by
  have h1 : b.2.length ≤ (k.2.flatMap fun b => b.2).length := by
    generalize k.2 = l at hb
    induction l with
    | nil => cases hb
    | cons a l ih =>
      rw [List.flatMap_cons, List.length_append]
      rcases List.mem_cons.mp hb with rfl | hb
      · omega
      · have := ih hb
        omega
  unfold fNames
  induction ks with
  | nil => cases hk
  | cons a l ih =>
    rw [List.flatMap_cons, List.length_append]
    rcases List.mem_cons.mp hk with rfl | hk
    · omega
    · have := ih hk
      omega
theorem Wk.nd {ks : List Kind} (g : Wk ks) : (kNames ks).Nodup := by
  have := g.ok
  unfold okK at this
  rw [Bool.and_eq_true, decide_eq_true_eq] at this
  exact this.1
theorem Wk.bd {ks : List Kind} (g : Wk ks) : (bNames ks).Nodup := by
  have := g.ok
  unfold okK at this
  rw [Bool.and_eq_true, Bool.and_eq_true, decide_eq_true_eq, decide_eq_true_eq] at this
  exact this.2.1
theorem Wk.nk {ks : List Kind} (g : Wk ks) : ((namesBy ks).map (·.1)).Nodup := by rw [namesBy_keys]; exact nodup_inr g.nd
theorem Wk.kk {ks : List Kind} (g : Wk ks) : ((kindsBy ks).map (·.1)).Nodup := by rw [kindsBy_keys]; exact nodup_inr g.bd
theorem Wk.fk {ks : List Kind} (g : Wk ks) : ((fieldsBy ks).map (·.1)).Nodup := by rw [fieldsBy_keys]; exact nodup_inr g.bd
theorem Wk.lens {ks : List Kind} (g : Wk ks) : ks.length ≤ 2300 ∧ (bNames ks).length ≤ 3990 ∧ (fNames ks).length ≤ 15000 := fit_lens g.p g.fit
theorem Wk.klen {ks : List Kind} (g : Wk ks) : (kindsBy ks).length ≤ 3990 := by
  have := congrArg List.length (kindsBy_keys (ks := ks))
  rw [List.length_map, List.length_map] at this
  rw [this]; exact g.lens.2.1
theorem Wk.flen {ks : List Kind} (g : Wk ks) : (fieldsBy ks).length ≤ 3990 := by
  have := congrArg List.length (fieldsBy_keys (ks := ks))
  rw [List.length_map, List.length_map] at this
  rw [this]; exact g.lens.2.1
def spWithA : DSp where
  n := 1
  f := fun ds Q _ => ∃ ks, ds = [kindsD ks] ∧ Wk ks ∧ ∀ kvs, (∀ f, hasN kvs f = wthy ks f) → Q (.dic kvs)
  len := fun ds Q E ⟨m, e, _⟩ => by rw [e]; rfl
  mono := fun ds Q Q' E E' k _ ⟨m, e, h, q⟩ => ⟨m, e, h, fun kvs h => k _ (q kvs h)⟩
def spBookA (C CB CNb : Addr) : DSp where
  n := 1
  f := fun ds Q E => ∃ d, ds = [d] ∧ Fit d ∧ (okD d = false → E ⟨.ref CNb, []⟩) ∧ ∀ ks, d = kindsD ks → Wk ks → ((∀ k ∈ ks, wthy ks k.1 = true) → Q (bookD C ks)) ∧ ∀ pre k post, ks = pre ++ k :: post → (∀ k' ∈ pre, wthy ks k'.1 = true) → wthy ks k.1 = false → E ⟨.ref CB, [("kind", .str k.1)]⟩
  len := fun ds Q E ⟨m, e, _⟩ => by rw [e]; rfl
  mono := fun ds Q Q' E E' k k' ⟨m, e, h, q0, q⟩ => ⟨m, e, h, fun h => k' _ (q0 h), fun ks e g => ⟨fun h => k _ ((q ks e g).1 h), fun a b c d e' f => k' _ ((q ks e g).2 a b c d e' f)⟩⟩
section
variable {P : Program} {w : World} {K : PySem.W.Frag} {C CB CNb : Addr} {mg : Str → Option Value} {base : Heap} {W : Wd} {k : Nat} {f : Addr} {fd : FuncData}
theorem ok_is_kindsA (T : TxtB K C mg) (Fn : Fun K "is_kinds" "is_kinds" s_is_kinds f fd) (C_is_kind : Cal P w K mg base CX0 W k "is_kind" ["thing"] spKindA) (C_are_unlike : Cal P w K mg base CX0 W k "are_unlike" ["names"] spUnlikeA) : GnOk P w K mg base CX0 (k + 1) f fd ["thing"] (spD W K spKindsA) := by
  refine Fn.okD sc_is_kinds rfl fun cdv A outer s H I ds Q Ed E hr h => ?_
  have hu := hr.units
  have hu2 : (A.deeper (envOfC "is_kinds" (defScope s_is_kinds) s.heap.objs.size f cdv)).units + 66 < cLine := by have := hr.room.un; omega
  obtain ⟨d, rfl, hd, q⟩ := h
  refine ⟨_, (dss_cons (ds_if (dt_wh (dw_or (dt_not (dt_val (de_isi is_tup T.b_isinstance T.b_tuple (by decide +kernel) (de_name 0)))) (dw_or (dt_eqT0 hu (de_name 0) (de_tup da_nil)) (dw_or1 (dt_not (dt_val (de_all rfl T.b_all (da_cons (de_lc (own := [("kind", 1)]) rfl sc_is_kinds.nd (di_seq (de_name 0)) (blkOk_by (own := [("kind", 1)]) (N := ["thing", "kind", "names", "name", "boughs", "bough", "fields", "some", "field"]) (sc := defScope s_is_kinds) (by decide +kernel)) (fun _ _ _ _ _ => (dg_name 1 sc_is_kinds.nd)) (fun _ _ _ _ _ => dif_nil) (fun _ _ _ _ _ => (de_fn C_is_kind (hr.mono (by omega)) pass0 lets0 (da_cons (de_name 1) da_nil)))) da_nil))))))))
  (dss_one (ds_ret de_bl))
  dss_nil)
  (dss_cons (by first | exact (ds_setLc (i := 2) (own := [("name", 3), ("boughs", 4)]) rfl sc_is_kinds.nd rfl rfl (sw_true rfl rfl rfl (by decide +kernel)) (di_seq (de_name 0)) (blkOk_by (own := [("name", 3), ("boughs", 4)]) (N := ["thing", "kind", "names", "name", "boughs", "bough", "fields", "some", "field"]) (sc := defScope s_is_kinds) (by decide +kernel)) (fun _ _ _ _ _ => (dg_tup (n := 2) rfl (dgs_cons (dg_name 3 sc_is_kinds.nd) (dgs_cons (dg_name 4 sc_is_kinds.nd) dgs_nil)))) (fun _ _ _ _ _ => dif_nil) (fun _ _ _ _ _ => (de_name 3))) | exact (ds_set 2 (de_lc (own := [("name", 3), ("boughs", 4)]) rfl sc_is_kinds.nd (di_seq (de_name 0)) (blkOk_by (own := [("name", 3), ("boughs", 4)]) (N := ["thing", "kind", "names", "name", "boughs", "bough", "fields", "some", "field"]) (sc := defScope s_is_kinds) (by decide +kernel)) (fun _ _ _ _ _ => (dg_tup (n := 2) rfl (dgs_cons (dg_name 3 sc_is_kinds.nd) (dgs_cons (dg_name 4 sc_is_kinds.nd) dgs_nil)))) (fun _ _ _ _ _ => dif_nil) (fun _ _ _ _ _ => (de_name 3))) sc_is_kinds.nd))
  (dss_cons (ds_if (dt_wh (dw_or (dt_not (dt_val (de_fn C_are_unlike (hr.mono (by omega)) pass0 lets0 (da_cons (de_name 2) da_nil)))) (dw_or1 (dt_not (dt_val (de_fn C_are_unlike (hr.mono (by omega)) pass0 lets0 (da_cons (de_cpL (own := [("name", 3), ("boughs", 4), ("bough", 5), ("fields", 6)]) rfl sc_is_kinds.nd (di_seq (de_name 0)) (blkOk_by (own := [("name", 3), ("boughs", 4), ("bough", 5), ("fields", 6)]) (N := ["thing", "kind", "names", "name", "boughs", "bough", "fields", "some", "field"]) (sc := defScope s_is_kinds) (by decide +kernel)) (fun _ _ _ _ _ => (dg_tup (n := 2) rfl (dgs_cons (dg_name 3 sc_is_kinds.nd) (dgs_cons (dg_name 4 sc_is_kinds.nd) dgs_nil)))) (fun _ _ _ _ _ => dif_nil) (fun _ _ _ _ _ => (dn_cons (fun _ _ z => z) rfl (cp_list _ _ _ _) rfl (fun g h => by first | (cases h; rfl) | cases h) HdL.mono (di_seq (de_name 4)) (dg_tup (n := 2) rfl (dgs_cons (dg_name 5 sc_is_kinds.nd) (dgs_cons (dg_name 6 sc_is_kinds.nd) dgs_nil))) dif_nil (dn_nil rfl (dm_list (fun _ _ z => z) (de_name 5))) (by intro _; rfl)))) da_nil)))))))
  (dss_one (ds_ret de_bl))
  dss_nil)
  (dss_cons (by first | exact (ds_setCpL (i := 7) (own := [("name", 3), ("boughs", 4), ("bough", 5), ("fields", 6), ("field", 8)]) rfl sc_is_kinds.nd rfl rfl (sw_true rfl rfl rfl (by decide +kernel)) (di_seq (de_name 0)) (blkOk_by (own := [("name", 3), ("boughs", 4), ("bough", 5), ("fields", 6), ("field", 8)]) (N := ["thing", "kind", "names", "name", "boughs", "bough", "fields", "some", "field"]) (sc := defScope s_is_kinds) (by decide +kernel)) (fun _ _ _ _ _ => (dg_tup (n := 2) rfl (dgs_cons (dg_name 3 sc_is_kinds.nd) (dgs_cons (dg_name 4 sc_is_kinds.nd) dgs_nil)))) (fun _ _ _ _ _ => dif_nil) (fun _ _ _ _ _ => (dn_cons (fun _ _ z => z) rfl (cp_list _ _ _ _) rfl (fun g h => by first | (cases h; rfl) | cases h) HdL.mono (di_seq (de_name 4)) (dg_tup (n := 2) rfl (dgs_cons (dg_name 5 sc_is_kinds.nd) (dgs_cons (dg_name 6 sc_is_kinds.nd) dgs_nil))) dif_nil (dn_cons (fun _ _ z => z) rfl (cp_list _ _ _ _) rfl (fun g h => by first | (cases h; rfl) | cases h) HdL.mono (di_seq (de_name 6)) (dg_name 8 sc_is_kinds.nd) dif_nil (dn_nil rfl (dm_list (fun _ _ z => z) (de_name 8))) (by intro _; rfl)) (by intro _; rfl)))) | exact (ds_set 7 (de_cpL (own := [("name", 3), ("boughs", 4), ("bough", 5), ("fields", 6), ("field", 8)]) rfl sc_is_kinds.nd (di_seq (de_name 0)) (blkOk_by (own := [("name", 3), ("boughs", 4), ("bough", 5), ("fields", 6), ("field", 8)]) (N := ["thing", "kind", "names", "name", "boughs", "bough", "fields", "some", "field"]) (sc := defScope s_is_kinds) (by decide +kernel)) (fun _ _ _ _ _ => (dg_tup (n := 2) rfl (dgs_cons (dg_name 3 sc_is_kinds.nd) (dgs_cons (dg_name 4 sc_is_kinds.nd) dgs_nil)))) (fun _ _ _ _ _ => dif_nil) (fun _ _ _ _ _ => (dn_cons (fun _ _ z => z) rfl (cp_list _ _ _ _) rfl (fun g h => by first | (cases h; rfl) | cases h) HdL.mono (di_seq (de_name 4)) (dg_tup (n := 2) rfl (dgs_cons (dg_name 5 sc_is_kinds.nd) (dgs_cons (dg_name 6 sc_is_kinds.nd) dgs_nil))) dif_nil (dn_cons (fun _ _ z => z) rfl (cp_list _ _ _ _) rfl (fun g h => by first | (cases h; rfl) | cases h) HdL.mono (di_seq (de_name 6)) (dg_name 8 sc_is_kinds.nd) dif_nil (dn_nil rfl (dm_list (fun _ _ z => z) (de_name 8))) (by intro _; rfl)) (by intro _; rfl)))) sc_is_kinds.nd))
  (dss_one (ds_ret (de_all rfl T.b_all (da_cons (de_lc (own := [("field", 8)]) rfl sc_is_kinds.nd (di_seq (de_name 7)) (blkOk_by (own := [("field", 8)]) (N := ["thing", "kind", "names", "name", "boughs", "bough", "fields", "some", "field"]) (sc := defScope s_is_kinds) (by decide +kernel)) (fun _ _ _ _ _ => (dg_name 8 sc_is_kinds.nd)) (fun _ _ _ _ _ => dif_nil) (fun _ _ _ _ _ => (de_or (de_c (.eq hu) (de_name 8) (de_gs T.g_NUM)) (de_one (de_in hu2 (de_name 8) (de_name 2)))))) da_nil)))))))), ?_⟩
  simp only [getD_0, getD_s, set_0, set_s, boolD_bl, intD_int, startD, List.map, List.length_cons, List.length_nil, List.replicate, List.cons_append, List.nil_append, defEnds, wipeD, if_true, if_false, Bool.not_true, Bool.not_false, Bool.false_eq_true]
  refine ⟨gd_known hd.g, ?_⟩
  cases ht : isTup d with
  | false =>
    simp only [Bool.not_false, if_true]
    rw [okD_not (tupB_not ht)] at q
    exact q
  | true =>
    obtain ⟨xs, rfl⟩ := tup_of ht
    simp only [Bool.not_true, Bool.false_eq_true, if_false]
    refine ⟨Nat.zero_le _, xs, rfl, rfl, ?_⟩
    simp only [getD_0, getD_s, set_0, set_s, boolD_bl, intD_int, startD, List.map, List.length_cons, List.length_nil, List.replicate, List.cons_append, List.nil_append, defEnds, wipeD, if_true, if_false, Bool.not_true, Bool.not_false, Bool.false_eq_true]
    cases he : xs.isEmpty with
    | true =>
      have : preK (.tup xs) = false := by show (!xs.isEmpty && _) = false; rw [he]; rfl
      rw [okD_not this] at q
      exact q
    | false =>
      simp only [Bool.false_eq_true, if_false]
      simp only [itemsD]
      refine ⟨Nat.le_trans hd.len (by decide), lcD_fun (fun x => .bl (isKd x)) (fun c hc R S r => ?_) ?_⟩
      · simp only [wipeD, getD_0, getD_s, set_0, set_s, boolD_bl, intD_int, startD, List.map, List.length_cons, List.length_nil, List.replicate, List.cons_append, List.nil_append, defEnds, if_true]
        exact ⟨_, rfl, hd.mem hc, r⟩
      obtain ⟨ns, en, an⟩ := all_bls isKd xs
      refine ⟨ns, en, ?_⟩
      rw [an]
      cases hk : xs.all isKd with
      | false =>
        have : preK (.tup xs) = false := by show (!xs.isEmpty && xs.all isKd) = false; rw [hk, Bool.and_false]
        rw [okD_not this] at q
        simp only [getD_0, getD_s, set_0, set_s, boolD_bl, intD_int, startD, List.map, List.length_cons, List.length_nil, List.replicate, List.cons_append, List.nil_append, defEnds, wipeD, if_true, if_false, Bool.not_true, Bool.not_false, Bool.false_eq_true]
        exact q
      | true =>
        have hp : preK (.tup xs) = true := by show (!xs.isEmpty && xs.all isKd) = true; rw [hk, he]; rfl
        obtain ⟨ks, ek, g⟩ := preK_iff.mp hp
        rw [ek] at q
        rw [okD_kinds g] at q
        have hfit : Fit (kindsD ks) := ek ▸ hd
        have lens := fit_lens g hfit
        obtain rfl : xs = ks.map kindD := D.tup.inj ek
        simp only [getD_0, getD_s, set_0, set_s, boolD_bl, intD_int, startD, List.map, List.length_cons, List.length_nil, List.replicate, List.cons_append, List.nil_append, defEnds, wipeD, if_true, if_false, Bool.not_true, Bool.not_false, Bool.false_eq_true]
        have lk : (ks.map kindD).length ≤ sizeLine := by rw [List.length_map]; exact Nat.le_trans lens.1 (by decide)
        refine ⟨lk, lcD_all kindD (fun a => .str a.1) (fun a ha R S r => ?_) ?_⟩
        · refine ⟨_, rfl, rfl, _, _, rfl, _, _, rfl, rfl, ?_⟩
          simp only [getD_0, getD_s, set_0, set_s, boolD_bl, intD_int, startD, List.map, List.length_cons, List.length_nil, List.replicate, List.cons_append, List.nil_append, defEnds, wipeD, if_true, if_false, Bool.not_true, Bool.not_false, Bool.false_eq_true]
          exact r
        have enm : (ks.map fun a : Kind => D.str a.1) = (kNames ks).map D.str := by rw [kNames, List.map_map]; rfl
        rw [enm]
        refine ⟨_, rfl, by rw [kNames, List.length_map]; omega, ?_⟩
        unfold okK at q
        simp only [getD_0, getD_s, set_0, set_s, boolD_bl, intD_int, startD, List.map, List.length_cons, List.length_nil, List.replicate, List.cons_append, List.nil_append, defEnds, wipeD, if_true, if_false, Bool.not_true, Bool.not_false, Bool.false_eq_true]
        by_cases hnd : (kNames ks).Nodup
        rotate_left
        · rw [decide_eq_false hnd] at q ⊢
          exact q
        rw [decide_eq_true hnd, Bool.true_and] at q
        rw [decide_eq_true hnd]
        simp only [Bool.not_true, Bool.false_eq_true, if_false]
        have ebm : (ks.flatMap fun a : Kind => a.2.map fun b : Bough => D.str b.1) = (bNames ks).map D.str := by rw [bNames, List.map_flatMap]; simp only [List.map_map]; rfl
        refine loopD_app kindD (fun a => a.2.map fun b => .str b.1) 3990 (fun a ha b R S hl r => ?_) (by rw [ebm, List.length_map]; simp only [List.length_nil]; omega) ?_
        · refine ⟨_, rfl, rfl, _, _, rfl, _, _, rfl, rfl, ?_⟩
          simp only [getD_0, getD_s, set_0, set_s, boolD_bl, intD_int, startD, List.map, List.length_cons, List.length_nil, List.replicate, List.cons_append, List.nil_append, defEnds, wipeD, if_true, if_false, Bool.not_true, Bool.not_false, Bool.false_eq_true]
          refine loopD_app boughD (fun b => [.str b.1]) 3990 (fun b' hb b R S hl r => ?_) (by simpa [← List.map_eq_flatMap] using hl) (by simpa [← List.map_eq_flatMap] using r)
          refine ⟨_, rfl, rfl, _, _, rfl, _, _, rfl, rfl, ?_⟩
          simp only [getD_0, getD_s, set_0, set_s, boolD_bl, intD_int, startD, List.map, List.length_cons, List.length_nil, List.replicate, List.cons_append, List.nil_append, defEnds, wipeD, if_true, if_false, Bool.not_true, Bool.not_false, Bool.false_eq_true]
          exact ⟨Nat.lt_of_lt_of_le (show b.length < 4000 by simp at hl; omega) (by decide), r⟩
        rw [List.nil_append, ebm]
        refine ⟨_, rfl, by omega, ?_⟩
        simp only [getD_0, getD_s, set_0, set_s, boolD_bl, intD_int, startD, List.map, List.length_cons, List.length_nil, List.replicate, List.cons_append, List.nil_append, defEnds, wipeD, if_true, if_false, Bool.not_true, Bool.not_false, Bool.false_eq_true]
        by_cases hbd : (bNames ks).Nodup
        rotate_left
        · rw [decide_eq_false hbd] at q ⊢
          exact q
        rw [decide_eq_true hbd, Bool.true_and] at q
        rw [decide_eq_true hbd]
        simp only [Bool.not_true, Bool.false_eq_true, if_false]
        have efm : (ks.flatMap fun a : Kind => a.2.flatMap fun b : Bough => b.2.map D.str) = (fNames ks).map D.str := by rw [fNames, List.map_flatMap]; simp only [List.map_flatMap]
        refine loopD_app kindD (fun a => a.2.flatMap fun b => b.2.map D.str) 15000 (fun a ha b R S hl r => ?_) (by rw [efm, List.length_map]; simp only [List.length_nil]; omega) ?_
        · refine ⟨_, rfl, rfl, _, _, rfl, _, _, rfl, rfl, ?_⟩
          simp only [getD_0, getD_s, set_0, set_s, boolD_bl, intD_int, startD, List.map, List.length_cons, List.length_nil, List.replicate, List.cons_append, List.nil_append, defEnds, wipeD, if_true, if_false, Bool.not_true, Bool.not_false, Bool.false_eq_true]
          refine loopD_app boughD (fun b => b.2.map D.str) 15000 (fun b' hb b R S hl r => ?_) hl r
          refine ⟨_, rfl, rfl, _, _, rfl, _, _, rfl, rfl, ?_⟩
          simp only [getD_0, getD_s, set_0, set_s, boolD_bl, intD_int, startD, List.map, List.length_cons, List.length_nil, List.replicate, List.cons_append, List.nil_append, defEnds, wipeD, if_true, if_false, Bool.not_true, Bool.not_false, Bool.false_eq_true]
          refine loopD_app D.str (fun f => [.str f]) 15000 (fun f hf b R S hl r => ?_) (by simpa [← List.map_eq_flatMap] using hl) (by simpa [← List.map_eq_flatMap] using r)
          simp only [getD_0, getD_s, set_0, set_s, boolD_bl, intD_int, startD, List.map, List.length_cons, List.length_nil, List.replicate, List.cons_append, List.nil_append, defEnds, wipeD, if_true, if_false, Bool.not_true, Bool.not_false, Bool.false_eq_true]
          exact ⟨Nat.lt_of_lt_of_le (show b.length < 15001 by simp at hl; omega) (by decide), r⟩
        rw [List.nil_append, efm]
        refine ⟨by rw [List.length_map]; exact Nat.le_trans lens.2.2 (by decide), lcD_all D.str (fun f => .bl (decide (f = numS) || decide (f ∈ kNames ks))) (fun f hf R S r => ?_) ?_⟩
        · simp only [getD_0, getD_s, set_0, set_s, boolD_bl, intD_int, startD, List.map, List.length_cons, List.length_nil, List.replicate, List.cons_append, List.nil_append, defEnds, wipeD, if_true, if_false, Bool.not_true, Bool.not_false, Bool.false_eq_true]
          simp only [eqD_str, boolD_bl]
          by_cases hn : f = numS
          · rw [if_pos (by rw [decide_eq_true_eq]; exact hn)]
            rw [decide_eq_true hn] at r
            exact r
          · rw [if_neg (by rw [decide_eq_true_eq]; exact hn)]
            rw [decide_eq_false hn, Bool.false_or] at r
            refine in_names (xs := kNames ks) (fun x hx => ?_) ?_ r
            · obtain ⟨k'', hk'', rfl⟩ := List.mem_map.mp hx
              exact okN_name (g.kn k'' hk'')
            · obtain ⟨k', hk', hf'⟩ := List.mem_flatMap.mp hf
              obtain ⟨b', hb', hf'⟩ := List.mem_flatMap.mp hf'
              exact okN_str (ascii_ok (gd_field hfit.g k' hk' b' hb' f hf'))
        obtain ⟨ns, en, an⟩ := all_bls (fun f => decide (f = numS) || decide (f ∈ kNames ks)) (fNames ks)
        refine ⟨ns, en, ?_⟩
        rw [an]
        exact q
theorem ok_with_worthsA (T : TxtB K C mg) (Fn : Fun K "with_worths" "with_worths" s_with_worths f fd) : GnOk P w K mg base CX0 (k + 1) f fd ["kinds"] (spD W K spWithA) := by
  refine Fn.okD sc_with_worths rfl fun cdv A outer s H I ds Q Ed E hr h => ?_
  have hu := hr.units
  have hu2 : (A.deeper (envOfC "with_worths" (defScope s_with_worths) s.heap.objs.size f cdv)).units + 66 < cLine := by have := hr.room.un; omega
  obtain ⟨ks, rfl, g, q⟩ := h
  refine ⟨_, (dss_cons (ds_ownD 1 sc_with_worths.nd)
  (dss_cons (ds_for PassesOwn.never rfl (di_seq (de_name 0)) (dg_name 2 sc_with_worths.nd)
  (dss_one (ds_for PassesOwn.never rfl (di_seq (de_name 0)) (dg_tup (n := 2) rfl (dgs_cons (dg_name 3 sc_with_worths.nd) (dgs_cons (dg_name 4 sc_with_worths.nd) dgs_nil)))
  (dss_one (ds_if (dt_lend 1 (dt_val (de_any rfl T.b_any (da_cons (de_lc (own := [("bough", 6), ("fields", 7)]) rfl sc_with_worths.nd (di_seq (de_name 4)) (blkOk_by (own := [("bough", 6), ("fields", 7)]) (N := ["kinds", "found", "turn", "name", "boughs", "field", "bough", "fields"]) (sc := defScope s_with_worths) (by decide +kernel)) (fun _ _ _ _ _ => (dg_tup (n := 2) rfl (dgs_cons (dg_name 6 sc_with_worths.nd) (dgs_cons (dg_name 7 sc_with_worths.nd) dgs_nil)))) (fun _ _ _ _ _ => dif_nil) (fun _ _ _ _ _ => (de_all rfl T.b_all (da_cons (de_lc (own := [("field", 5)]) rfl sc_with_worths.nd (di_seq (de_name 7)) (blkOk_nest (own := [("field", 5)]) (N := ["kinds", "found", "turn", "name", "boughs", "field", "bough", "fields"]) (defScope s_with_worths) rfl (by decide +kernel)) (fun _ _ _ _ _ => (dg_name 5 sc_with_worths.nd)) (fun _ _ _ _ _ => dif_nil) (fun _ _ _ _ _ => (de_or (de_c (.eq hu) (de_name 5) (de_gs T.g_NUM)) (de_one (de_in hu2 (de_name 5) (de_name 1)))))) da_nil)))) da_nil))))
  (dss_one (ds_dput 1 hu (de_name 3) de_bl))
  dss_nil)))))
  (dss_freeze 1
  (dss_one (ds_ret (de_name 1)))))), ?_⟩
  simp only [getD_0, getD_s, set_0, set_s, boolD_bl, intD_int, startD, List.map, List.length_cons, List.length_nil, List.replicate, List.cons_append, List.nil_append, defEnds, wipeD, if_true, if_false, Bool.not_true, Bool.not_false, Bool.false_eq_true]
  simp only [kindsD]
  have lens := g.lens
  refine forD_ind (fun (l : List D) ρ => ∃ kvs a b c, ρ = [some (.dat (.tup (ks.map kindD))), some (.ownD kvs), a, b, c, none, none, none] ∧ l.length ≤ ks.length ∧ kvs.length + 2300 * l.length ≤ 5290000 ∧ ∀ f, hasN kvs f = rnds ks (ks.length - l.length) f) (fun ρ ⟨kvs, a, b, c, e, _, _, h⟩ => ?_) (fun d l ρ R ⟨kvs, a, b, c, e, hl, hb, h⟩ hR => ?_) _ _ ⟨[], none, none, none, rfl, by simp, by simp; omega, fun f => by simp [hasN, lookD, rnds]⟩
  · subst e
    refine ⟨_, rfl, trivial, ?_⟩
    simp only [getD_0, getD_s, set_0, set_s, boolD_bl, intD_int, startD, List.map, List.length_cons, List.length_nil, List.replicate, List.cons_append, List.nil_append, defEnds, wipeD, if_true, if_false, Bool.not_true, Bool.not_false, Bool.false_eq_true]
    exact q kvs h
  · subst e
    simp only [getD_0, getD_s, set_0, set_s, boolD_bl, intD_int, startD, List.map, List.length_cons, List.length_nil, List.replicate, List.cons_append, List.nil_append, defEnds, wipeD, if_true, if_false, Bool.not_true, Bool.not_false, Bool.false_eq_true]
    simp only [List.length_cons] at hl hb h
    refine forD_ind (fun (m : List D) ρ => ∃ (pre rest : List Kind) (kvs : List (Key × D)) (a b c : Option Ent), ks = pre ++ rest ∧ m = rest.map kindD ∧ ρ = [some (.dat (.tup (ks.map kindD))), some (.ownD kvs), a, b, c, none, none, none] ∧ (∀ k ∈ rest, k ∈ ks) ∧ kvs.length + rest.length + 2300 * l.length ≤ 5290000 ∧ ∀ f, hasN kvs f = pre.foldl stepK (rnds ks (ks.length - (l.length + 1))) f) (fun ρ ⟨pre, rest, kvs, a, b, c, ep, em, e, _, hb, h⟩ => ?_) (fun d m ρ R2 ⟨pre, rest, kvs, a, b, c, ep, em, e, hk, hb, h⟩ hR2 => ?_) _ _ ⟨[], ks, kvs, _, b, c, rfl, rfl, rfl, fun _ h => h, by omega, h⟩
    · subst e
      have : rest = [] := by simpa using em.symm
      subst this
      refine hR _ ⟨kvs, a, b, c, rfl, by omega, by simpa using hb, fun f => ?_⟩
      rw [h f, List.append_nil] at *
      subst ep
      have e1 : ks.length - l.length = (ks.length - (l.length + 1)) + 1 := by omega
      rw [e1, rnds, rnd]
    · subst e
      cases rest with
      | nil => cases em
      | cons x rest =>
        rw [List.map_cons] at em
        obtain ⟨rfl, rfl⟩ := List.cons.inj em
        have hx := hk x (by simp)
        refine ⟨_, rfl, rfl, _, _, rfl, _, _, rfl, rfl, ?_⟩
        simp only [getD_0, getD_s, set_0, set_s, boolD_bl, intD_int, startD, List.map, List.length_cons, List.length_nil, List.replicate, List.cons_append, List.nil_append, defEnds, wipeD, if_true, if_false, Bool.not_true, Bool.not_false, Bool.false_eq_true]
        refine ⟨_, rfl, trivial, ?_⟩
        simp only [Ent.toD, itemsD]
        refine ⟨Nat.le_trans (by rw [List.length_map]; exact Nat.le_trans (blen_of hx) g.lens.2.1) (by decide), lcD_all boughD (fun b => .bl (fieldsOk kvs b)) (fun b hbm R S hr => ?_) ?_⟩
        · refine ⟨_, rfl, rfl, _, _, rfl, _, _, rfl, rfl, ?_⟩
          simp only [getD_0, getD_s, set_0, set_s, boolD_bl, intD_int, startD, List.map, List.length_cons, List.length_nil, List.replicate, List.cons_append, List.nil_append, defEnds, wipeD, if_true, if_false, Bool.not_true, Bool.not_false, Bool.false_eq_true]
          refine ⟨Nat.le_trans (by rw [List.length_map]; exact Nat.le_trans (flen_of hx hbm) g.lens.2.2) (by decide), lcD_all D.str (fun f => .bl (decide (f = numS) || hasN kvs f)) (fun f hf R S hr => ?_) ?_⟩
          · simp only [getD_0, getD_s, set_0, set_s, boolD_bl, intD_int, startD, List.map, List.length_cons, List.length_nil, List.replicate, List.cons_append, List.nil_append, defEnds, wipeD, if_true, if_false, Bool.not_true, Bool.not_false, Bool.false_eq_true]
            simp only [eqD_str, boolD_bl]
            by_cases hn : f = numS
            · rw [if_pos (by rw [decide_eq_true_eq]; exact hn)]
              simpa [hn] using hr
            · rw [if_neg (by rw [decide_eq_true_eq]; exact hn)]
              rw [hasN_in]
              simpa [hn] using hr
          · refine ⟨b.2.map fun f => decide (f = numS) || hasN kvs f, by rw [List.map_map]; rfl, ?_⟩
            rw [List.all_map]
            exact hr
        · refine ⟨x.2.map (fieldsOk kvs), by rw [List.map_map]; rfl, ?_⟩
          simp only [boolD_bl]
          have hS : hasN kvs = pre.foldl stepK (rnds ks (ks.length - (l.length + 1))) := funext h
          have ha2 : (x.2.map (fieldsOk kvs)).any id = x.2.any (goodB (pre.foldl stepK (rnds ks (ks.length - (l.length + 1))))) := by rw [List.any_map, ← hS]; rfl
          have nxt : ∀ f, (pre ++ [x]).foldl stepK (rnds ks (ks.length - (l.length + 1))) f = (hasN kvs f || (decide (f = x.1) && (x.2.map (fieldsOk kvs)).any id)) := fun f => by
            rw [List.foldl_append, List.foldl_cons, List.foldl_nil, ha2, ← hS]
            rfl
          by_cases ha : (x.2.map (fieldsOk kvs)).any id = true
          · rw [if_pos ha]
            refine ⟨_, rfl, .inr x.1, rfl, Nat.lt_of_lt_of_le (show kvs.length < 6000000 by omega) (by decide), ?_⟩
            refine hR2 _ ⟨pre ++ [x], rest, _, _, _, _, by rw [ep]; simp, rfl, rfl, fun k hk' => hk k (List.mem_cons_of_mem _ hk'), ?_, fun f => by rw [nxt f, ha, Bool.and_true, hasN_put]⟩
            have := len_put (kvs := kvs) (k := .inr x.1) (d := .bl true)
            simp only [List.length_cons] at hb
            omega
          · rw [if_neg ha]
            exact hR2 _ ⟨pre ++ [x], rest, _, _, _, _, by rw [ep]; simp, rfl, rfl, fun k hk' => hk k (List.mem_cons_of_mem _ hk'), by simp only [List.length_cons] at hb; omega, fun f => by rw [nxt f, Bool.eq_false_iff.mpr ha, Bool.and_false, Bool.or_false]⟩
theorem ok_initA (T : TxtB K C mg) (Fn : Fun K "__init__" "Book.__init__" s_Book___init__ f fd) (C_is_kinds : Cal P w K mg base CX0 W k "is_kinds" ["thing"] spKindsA) (C_with_worths : Cal P w K mg base CX0 W k "with_worths" ["kinds"] spWithA) (CN_NoBook : CalN K mg "NoBook" CNb) (CE_Bare : CalE P w K mg base k "Bare" CB "kind") : GnOk P w K mg base (L2.CX P w) (k + 2) f fd ["self", "kinds"] (spInit W K C (spBookA C CB CNb)) := by
  refine Fn.okIX sc_Book___init__ rfl fun cdv A outer s H I B a ds Q E hr h => ?_
  have hu := hr.units
  have hu2 : (A.deeper (envOfC "Book.__init__" (defScope s_Book___init__) s.heap.objs.size f cdv)).units + 66 < cLine := by have := hr.room.un; omega
  obtain ⟨d, rfl, hd, q0, q⟩ := h
  refine ⟨_, (dss_cons (ds_if (dt_not (dt_val (de_fn C_is_kinds (hr.mono (by omega)) pass0 lets0 (da_cons (de_name 1) da_nil))))
  (dss_one (ds_raise rfl takes_def letsS_def (dmk_n CN_NoBook)))
  dss_nil)
  (dss_cons (ds_set 2 (de_fn C_with_worths (hr.mono (by omega)) pass0 lets0 (da_cons (de_name 1) da_nil)) sc_Book___init__.nd)
  (dss_cons (ds_for PassesOwn.leaving rfl (di_seq (de_name 1)) (dg_tup (n := 2) rfl (dgs_cons (dg_name 3 sc_Book___init__.nd) (dgs_cons (dg_name 4 sc_Book___init__.nd) dgs_nil)))
  (dss_one (ds_if (dt_notin hu2 (de_name 3) (de_name 2))
  (dss_one (ds_raise rfl takes_def letsS_def (dmk_e CE_Bare (hr.mono (by omega)) (de_name 3))))
  dss_nil)))
  (dss_cons (ds_setA 0 (de_name 1) (cl := T.cl_Book) (n := T.na_Book_kinds))
  (dss_cons (ds_setA 0 (de_cpD (own := [("name", 3), ("boughs", 4)]) rfl sc_Book___init__.nd (di_seq (de_name 1)) (blkOk_by (own := [("name", 3), ("boughs", 4)]) (N := ["self", "kinds", "founded", "name", "boughs", "bough", "fields"]) (sc := defScope s_Book___init__) (by decide +kernel)) (fun _ _ _ _ _ => (dg_tup (n := 2) rfl (dgs_cons (dg_name 3 sc_Book___init__.nd) (dgs_cons (dg_name 4 sc_Book___init__.nd) dgs_nil)))) (fun _ _ _ _ _ => dif_nil) (fun _ _ _ _ _ => (dn_nil rfl (dm_dict (fun _ _ z => z) (de_name 3) (de_tuple T.b_tuple (da_cons (de_lc (own := [("bough", 5), ("fields", 6)]) rfl sc_Book___init__.nd (di_seq (de_name 4)) (blkOk_nest (own := [("bough", 5), ("fields", 6)]) (N := ["self", "kinds", "founded", "name", "boughs", "bough", "fields"]) (defScope s_Book___init__) rfl (by decide +kernel)) (fun _ _ _ _ _ => (dg_tup (n := 2) rfl (dgs_cons (dg_name 5 sc_Book___init__.nd) (dgs_cons (dg_name 6 sc_Book___init__.nd) dgs_nil)))) (fun _ _ _ _ _ => dif_nil) (fun _ _ _ _ _ => (de_name 5))) da_nil)))))) (cl := T.cl_Book) (n := T.na_Book_names_by))
  (dss_cons (ds_setA 0 (de_cpD (own := [("name", 3), ("boughs", 4), ("bough", 5), ("fields", 6)]) rfl sc_Book___init__.nd (di_seq (de_name 1)) (blkOk_by (own := [("name", 3), ("boughs", 4), ("bough", 5), ("fields", 6)]) (N := ["self", "kinds", "founded", "name", "boughs", "bough", "fields"]) (sc := defScope s_Book___init__) (by decide +kernel)) (fun _ _ _ _ _ => (dg_tup (n := 2) rfl (dgs_cons (dg_name 3 sc_Book___init__.nd) (dgs_cons (dg_name 4 sc_Book___init__.nd) dgs_nil)))) (fun _ _ _ _ _ => dif_nil) (fun _ _ _ _ _ => (dn_cons (fun _ _ z => z) rfl (cp_dict _ _ _ _ _) rfl (fun g h => by first | (cases h; rfl) | cases h) HdK.mono (di_seq (de_name 4)) (dg_tup (n := 2) rfl (dgs_cons (dg_name 5 sc_Book___init__.nd) (dgs_cons (dg_name 6 sc_Book___init__.nd) dgs_nil))) dif_nil (dn_nil rfl (dm_dict (fun _ _ z => z) (de_name 5) (de_name 3))) (by intro _; rfl)))) (cl := T.cl_Book) (n := T.na_Book_kinds_by))
  (dss_one (ds_setA 0 (de_cpD (own := [("name", 3), ("boughs", 4), ("bough", 5), ("fields", 6)]) rfl sc_Book___init__.nd (di_seq (de_name 1)) (blkOk_by (own := [("name", 3), ("boughs", 4), ("bough", 5), ("fields", 6)]) (N := ["self", "kinds", "founded", "name", "boughs", "bough", "fields"]) (sc := defScope s_Book___init__) (by decide +kernel)) (fun _ _ _ _ _ => (dg_tup (n := 2) rfl (dgs_cons (dg_name 3 sc_Book___init__.nd) (dgs_cons (dg_name 4 sc_Book___init__.nd) dgs_nil)))) (fun _ _ _ _ _ => dif_nil) (fun _ _ _ _ _ => (dn_cons (fun _ _ z => z) rfl (cp_dict _ _ _ _ _) rfl (fun g h => by first | (cases h; rfl) | cases h) HdK.mono (di_seq (de_name 4)) (dg_tup (n := 2) rfl (dgs_cons (dg_name 5 sc_Book___init__.nd) (dgs_cons (dg_name 6 sc_Book___init__.nd) dgs_nil))) dif_nil (dn_nil rfl (dm_dict (fun _ _ z => z) (de_name 5) (de_name 6))) (by intro _; rfl)))) (cl := T.cl_Book) (n := T.na_Book_fields_by))))))))), ?_⟩
  simp only [startI]
  simp only [getD_0, getD_s, set_0, set_s, boolD_bl, intD_int, startD, List.map, List.length_cons, List.length_nil, List.replicate, List.cons_append, List.nil_append, defEnds, wipeD, if_true, if_false, Bool.not_true, Bool.not_false, Bool.false_eq_true]
  refine ⟨_, rfl, hd, ?_⟩
  simp only [getD_0, getD_s, set_0, set_s, boolD_bl, intD_int, startD, List.map, List.length_cons, List.length_nil, List.replicate, List.cons_append, List.nil_append, defEnds, wipeD, if_true, if_false, Bool.not_true, Bool.not_false, Bool.false_eq_true]
  cases hok : okD d with
  | false =>
    simp only [Bool.not_false, if_true]
    exact q0 hok
  | true =>
  obtain ⟨ks, rfl, gp, gk⟩ := okD_iff.mp hok
  have g : Wk ks := ⟨gp, gk, hd⟩
  obtain ⟨q, q2⟩ := q ks rfl g
  simp only [Bool.not_true, Bool.false_eq_true, if_false]
  refine ⟨ks, rfl, g, fun kvs hkvs => ?_⟩
  simp only [getD_0, getD_s, set_0, set_s, boolD_bl, intD_int, startD, List.map, List.length_cons, List.length_nil, List.replicate, List.cons_append, List.nil_append, defEnds, wipeD, if_true, if_false, Bool.not_true, Bool.not_false, Bool.false_eq_true]
  simp only [kindsD, itemsD]
  refine forD_ind (fun (l : List D) ρ => ∃ (pre rest : List Kind) (b c : Option Ent), l = rest.map kindD ∧ ks = pre ++ rest ∧ (∀ k ∈ pre, wthy ks k.1 = true) ∧ ρ = [some (.ownO a C []), some (.dat (kindsD ks)), some (.dat (.dic kvs)), b, c, none, none]) (fun ρ ⟨pre, rest, b, c, el, hl, hp, e⟩ => ?_) (fun d l ρ R ⟨pre, rest, b, c, el, hl, hp, e⟩ hR => ?_) _ _ ⟨[], ks, none, none, rfl, rfl, (fun _ h => nomatch h), rfl⟩
  rotate_left
  · subst e
    cases rest with
    | nil => cases el
    | cons x rest =>
      rw [List.map_cons] at el
      obtain ⟨rfl, rfl⟩ := List.cons.inj el
      refine ⟨_, rfl, rfl, _, _, rfl, _, _, rfl, rfl, ?_⟩
      simp only [getD_0, getD_s, set_0, set_s, boolD_bl, intD_int, startD, List.map, List.length_cons, List.length_nil, List.replicate, List.cons_append, List.nil_append, defEnds, wipeD, if_true, if_false, Bool.not_true, Bool.not_false, Bool.false_eq_true]
      refine ⟨.inr x.1, rfl, ?_⟩
      have e1 : Dk.flip true (lookD kvs (.inr x.1)).isSome = !(wthy ks x.1) := by
        have := hkvs x.1
        unfold hasN at this
        rw [this]
        cases wthy ks x.1 <;> rfl
      rw [e1]
      simp only [boolD_bl]
      cases hw : wthy ks x.1 with
      | true =>
        rw [if_neg (by simp)]
        refine hR _ ⟨pre ++ [x], rest, _, _, rfl, by rw [hl]; simp, fun k hk => ?_, rfl⟩
        rcases List.mem_append.mp hk with hk | hk
        · exact hp k hk
        · obtain rfl : k = x := by simpa using hk
          exact hw
      | false =>
        rw [if_pos (by simp)]
        exact q2 pre x rest hl hp hw
  have rn : rest = [] := by simpa using el.symm
  subst rn
  rw [List.append_nil] at hl
  subst hl
  subst e
  simp only [getD_0, getD_s, set_0, set_s, boolD_bl, intD_int, startD, List.map, List.length_cons, List.length_nil, List.replicate, List.cons_append, List.nil_append, defEnds, wipeD, if_true, if_false, Bool.not_true, Bool.not_false, Bool.false_eq_true]
  refine ⟨a, [], rfl, by decide, ?_⟩
  simp only [kindsD, itemsD]
  have lens := g.lens
  have gs1 := lens.1
  have lk : (ks.map kindD).length ≤ sizeLine := by rw [List.length_map]; exact Nat.le_trans gs1 (by decide)
  have en : ∀ l : List Kind, (l.flatMap fun k => [((.inr k.1 : Key), D.tup (k.2.map fun b => .str b.1))]) = namesBy l := fun l => by unfold namesBy; rw [List.map_eq_flatMap]
  refine loopD_put kindD (fun k => [(.inr k.1, .tup (k.2.map fun b => .str b.1))]) 2300 (fun x hx b R S hl hn r => ?_) (by rw [en]; simp [namesBy]; omega) (by rw [en]; exact g.nk) ?_
  · refine ⟨_, rfl, rfl, _, _, rfl, _, _, rfl, rfl, ?_⟩
    simp only [getD_0, getD_s, set_0, set_s, boolD_bl, intD_int, startD, List.map, List.length_cons, List.length_nil, List.replicate, List.cons_append, List.nil_append, defEnds, wipeD, if_true, if_false, Bool.not_true, Bool.not_false, Bool.false_eq_true]
    refine ⟨Nat.le_trans (by rw [List.length_map]; exact Nat.le_trans (blen_of hx) g.lens.2.1) (by decide), lcD_all boughD (fun b => .str b.1) (fun b hb R S hr => ?_) ?_⟩
    · refine ⟨_, rfl, rfl, _, _, rfl, _, _, rfl, rfl, ?_⟩
      simp only [getD_0, getD_s, set_0, set_s, boolD_bl, intD_int, startD, List.map, List.length_cons, List.length_nil, List.replicate, List.cons_append, List.nil_append, defEnds, wipeD, if_true, if_false, Bool.not_true, Bool.not_false, Bool.false_eq_true]
      exact hr
    · refine ⟨.inr x.1, rfl, Nat.lt_of_lt_of_le (show b.length < 2400 by simp at hl; omega) (by decide), ?_⟩
      rw [putD_new hn]
      exact r
  rw [en, List.nil_append]
  refine ⟨a, _, rfl, Nat.lt_of_lt_of_le (len_putFD (n := 1) (by decide)) (by decide), ?_⟩
  have flk : ∀ (out : Kind → Bough → D), (∀ k b, k ∈ ks → b ∈ k.2 → True) → ((ks.flatMap fun k => k.2.map fun b => ((.inr b.1 : Key), out k b)).map (·.1)) = (bNames ks).map Sum.inr := fun out _ => by
    unfold bNames; rw [List.map_flatMap, List.map_flatMap]; simp only [List.map_map]; rfl
  have sub : ∀ x ∈ ks, ∀ (out : Bough → D) (b : List (Key × D)), b.length + (x.2.flatMap fun y => [((.inr y.1 : Key), out y)]).length ≤ 3990 ↔ b.length + (x.2.map fun y => ((.inr y.1 : Key), out y)).length ≤ 3990 := fun x _ out b => by rw [← List.map_eq_flatMap]
  refine loopD_put kindD (fun k => k.2.map fun b => (.inr b.1, .str k.1)) 3990 (fun x hx b R S hl hn r => ?_) (by have := g.klen; unfold kindsBy at this; simp only [List.length_nil]; omega) (by rw [List.nil_append]; exact g.kk) ?_
  · refine ⟨_, rfl, rfl, _, _, rfl, _, _, rfl, rfl, ?_⟩
    simp only [getD_0, getD_s, set_0, set_s, boolD_bl, intD_int, startD, List.map, List.length_cons, List.length_nil, List.replicate, List.cons_append, List.nil_append, defEnds, wipeD, if_true, if_false, Bool.not_true, Bool.not_false, Bool.false_eq_true]
    refine loopD_put boughD (fun y => [(.inr y.1, .str x.1)]) 3990 (fun y hy b R S hl hn r => ?_) (by rw [← List.map_eq_flatMap]; exact hl) (by rw [← List.map_eq_flatMap]; exact hn) (by rw [← List.map_eq_flatMap]; exact r)
    refine ⟨_, rfl, rfl, _, _, rfl, _, _, rfl, rfl, ?_⟩
    simp only [getD_0, getD_s, set_0, set_s, boolD_bl, intD_int, startD, List.map, List.length_cons, List.length_nil, List.replicate, List.cons_append, List.nil_append, defEnds, wipeD, if_true, if_false, Bool.not_true, Bool.not_false, Bool.false_eq_true]
    refine ⟨.inr y.1, rfl, Nat.lt_of_lt_of_le (show b.length < 4000 by simp at hl; omega) (by decide), ?_⟩
    rw [putD_new hn]
    exact r
  rw [List.nil_append]
  refine ⟨a, _, rfl, Nat.lt_of_lt_of_le (len_putFD (len_putFD (n := 1) (by decide))) (by decide), ?_⟩
  refine loopD_put kindD (fun k => k.2.map fun b => (.inr b.1, .tup (b.2.map D.str))) 3990 (fun x hx b R S hl hn r => ?_) (by have := g.flen; unfold fieldsBy at this; simp only [List.length_nil]; omega) (by rw [List.nil_append]; exact g.fk) ?_
  · refine ⟨_, rfl, rfl, _, _, rfl, _, _, rfl, rfl, ?_⟩
    simp only [getD_0, getD_s, set_0, set_s, boolD_bl, intD_int, startD, List.map, List.length_cons, List.length_nil, List.replicate, List.cons_append, List.nil_append, defEnds, wipeD, if_true, if_false, Bool.not_true, Bool.not_false, Bool.false_eq_true]
    refine loopD_put boughD (fun y => [(.inr y.1, .tup (y.2.map D.str))]) 3990 (fun y hy b R S hl hn r => ?_) (by rw [← List.map_eq_flatMap]; exact hl) (by rw [← List.map_eq_flatMap]; exact hn) (by rw [← List.map_eq_flatMap]; exact r)
    refine ⟨_, rfl, rfl, _, _, rfl, _, _, rfl, rfl, ?_⟩
    simp only [getD_0, getD_s, set_0, set_s, boolD_bl, intD_int, startD, List.map, List.length_cons, List.length_nil, List.replicate, List.cons_append, List.nil_append, defEnds, wipeD, if_true, if_false, Bool.not_true, Bool.not_false, Bool.false_eq_true]
    refine ⟨.inr y.1, rfl, Nat.lt_of_lt_of_le (show b.length < 4000 by simp at hl; omega) (by decide), ?_⟩
    rw [putD_new hn]
    exact r
  rw [List.nil_append]
  refine ⟨a, _, rfl, Nat.lt_of_lt_of_le (len_putFD (len_putFD (len_putFD (n := 1) (by decide)))) (by decide), ?_⟩
  exact ⟨_, rfl, q hp⟩
end
end KB
namespace KB
open PySem L2 Dk
open PyProof.Rows (envOfC)
abbrev s__law_is_name : Stmt := top 42
theorem sc__law_is_name : FnScope ["_law_thing", "_law_sign"] ["_law_thing"] (defScope s__law_is_name) := ⟨rfl, rfl, rfl, by decide +kernel, rfl, by decide +kernel, by decide +kernel⟩
theorem bd__law_is_name (kV doc pm : Value) (an : Option Addr) (cdv ct : Value) (us : List Value) (hl : us.length = 1) : bindArgs (PySem.W.fnOf "_law_is_name" "_law_is_name" (defArgs s__law_is_name) (defBody s__law_is_name) (defScope s__law_is_name) .none kV doc pm an cdv ct) ⟨us, []⟩ = pure ((["_law_thing"] : List Str).zip us) := by
  match us, hl with
  | [v0], _ => rfl
abbrev s__law_is_named : Stmt := top 43
theorem sc__law_is_named : FnScope ["_law_thing"] ["_law_thing"] (defScope s__law_is_named) := ⟨rfl, rfl, rfl, by decide +kernel, rfl, by decide +kernel, by decide +kernel⟩
theorem bd__law_is_named (kV doc pm : Value) (an : Option Addr) (cdv ct : Value) (us : List Value) (hl : us.length = 1) : bindArgs (PySem.W.fnOf "_law_is_named" "_law_is_named" (defArgs s__law_is_named) (defBody s__law_is_named) (defScope s__law_is_named) .none kV doc pm an cdv ct) ⟨us, []⟩ = pure ((["_law_thing"] : List Str).zip us) := by
  match us, hl with
  | [v0], _ => rfl
abbrev s__law_is_kinds : Stmt := top 44
theorem sc__law_is_kinds : FnScope ["_law_thing", "_law_kind", "_law_rows", "_law_row", "_law_names_here", "_law_boughs", "_law_field"] ["_law_thing"] (defScope s__law_is_kinds) := ⟨rfl, rfl, rfl, by decide +kernel, rfl, by decide +kernel, by decide +kernel⟩
theorem bd__law_is_kinds (kV doc pm : Value) (an : Option Addr) (cdv ct : Value) (us : List Value) (hl : us.length = 1) : bindArgs (PySem.W.fnOf "_law_is_kinds" "_law_is_kinds" (defArgs s__law_is_kinds) (defBody s__law_is_kinds) (defScope s__law_is_kinds) .none kV doc pm an cdv ct) ⟨us, []⟩ = pure ((["_law_thing"] : List Str).zip us) := by
  match us, hl with
  | [v0], _ => rfl
def namedB : D → Bool := isTwo fun _ => true
def nmOf : D → Str
  | .tup (.str x :: _) => x
  | _ => ""
def rwsOf : D → List D
  | .tup [_, .tup bs] => bs
  | _ => []
theorem namedB_of {x : D} (h : namedB x = true) : ∃ a bs, x = .tup [.str a, .tup bs] ∧ nameOk a = true := by
  obtain ⟨a, bs, e, h1, _⟩ := isTwo_iff.mp h
  exact ⟨a, bs, e, h1⟩
def fldOk (names : List Str) : D → Bool
  | .str x => decide (x = numS) || decide (x ∈ names)
  | _ => false
def namesX (xs : List D) : List Str := xs.map nmOf
def rowsX (xs : List D) : List D := xs.flatMap rwsOf
theorem names_kinds (ks : List Kind) : namesX (ks.map kindD) = kNames ks := by
  unfold namesX kNames
  rw [List.map_map]
  rfl
theorem rows_kinds (ks : List Kind) : rowsX (ks.map kindD) = ks.flatMap fun k => k.2.map boughD := by
  unfold rowsX
  rw [List.flatMap_map]
  rfl
theorem boughs_kinds (ks : List Kind) : namesX (rowsX (ks.map kindD)) = bNames ks := by
  rw [rows_kinds]
  unfold namesX bNames
  rw [List.map_flatMap]
  simp only [List.map_map]
  rfl
theorem fields_kinds (ks : List Kind) : rowsX (rowsX (ks.map kindD)) = (fNames ks).map D.str := by
  rw [rows_kinds]
  unfold rowsX fNames
  simp only [List.flatMap_assoc, List.flatMap_map, List.map_flatMap]
  rfl
theorem okD_pre {xs : List D} (hne : xs ≠ []) (h : ∀ x ∈ xs, namedB x = true ∧ rwsOf x ≠ []) (h2 : ∀ r ∈ rowsX xs, namedB r = true) : okD (.tup xs) = (decide (namesX xs).Nodup && (decide (namesX (rowsX xs)).Nodup && (rowsX (rowsX xs)).all (fldOk (namesX xs)))) := by
  cases hp : preK (.tup xs) with
  | true =>
    obtain ⟨ks, e, g⟩ := preK_iff.mp hp
    obtain rfl : xs = ks.map kindD := D.tup.inj e
    rw [show D.tup (ks.map kindD) = kindsD ks from rfl, okD_kinds g, names_kinds, boughs_kinds, fields_kinds, List.all_map]
    rfl
  | false =>
    rw [okD_not hp]
    symm
    rw [Bool.eq_false_iff]
    intro z
    rw [Bool.and_eq_true, Bool.and_eq_true] at z
    have z := List.all_eq_true.mp z.2.2
    have : preK (.tup xs) = true := by
      show (!xs.isEmpty && xs.all isKd) = true
      rw [Bool.and_eq_true, List.all_eq_true]
      refine ⟨by cases xs with | nil => exact absurd rfl hne | cons _ _ => rfl, fun x hx => ?_⟩
      obtain ⟨h1, h3⟩ := h x hx
      obtain ⟨a, bs, rfl, ha⟩ := namedB_of h1
      refine isTwo_iff.mpr ⟨a, bs, rfl, ha, ?_⟩
      rw [Bool.and_eq_true, List.all_eq_true]
      refine ⟨by cases bs with | nil => exact absurd rfl h3 | cons _ _ => rfl, fun r hr => ?_⟩
      have hr' : r ∈ rowsX xs := List.mem_flatMap.mpr ⟨_, hx, hr⟩
      obtain ⟨b, fs, rfl, hb⟩ := namedB_of (h2 r hr')
      refine isTwo_iff.mpr ⟨b, fs, rfl, hb, List.all_eq_true.mpr fun f hf => ?_⟩
      have := z f (List.mem_flatMap.mpr ⟨_, hr', hf⟩)
      cases f <;> first | (cases this; done) | rfl
    rw [hp] at this
    cases this
theorem wts_flat : ∀ {zs : List D}, (∀ z ∈ zs, namedB z = true) → 54 * zs.length + wts (rowsX zs) ≤ wts zs
  | [], _ => by simp [rowsX, wts]
  | z :: zs, h => by
    have h1 := wts_flat (zs := zs) fun x hx => h x (List.mem_cons_of_mem _ hx)
    obtain ⟨a, bs, rfl, ha⟩ := namedB_of (h z (by simp))
    have := (nameOk_split ha).1
    have e : rowsX (D.tup [.str a, .tup bs] :: zs) = bs ++ rowsX zs := by unfold rowsX; rw [List.flatMap_cons]; rfl
    rw [e, wts_app, List.length_cons, wts, wtD, wts, wts, wts, wtD, wtD]
    omega
theorem strs_eqv : ∀ as bs : List Str, PyData.eqvAll (toPys (as.map D.str)) (toPys (bs.map D.str)) = decide (as = bs)
  | [], [] => by simp [toPys, PyData.eqvAll]
  | [], b :: bs => by simp [toPys, PyData.eqvAll]
  | a :: as, [] => by simp [toPys, PyData.eqvAll]
  | a :: as, b :: bs => by
    have h2 := strs_eqv as bs
    have e : PyData.eqvAll (toPys ((a :: as).map D.str)) (toPys ((b :: bs).map D.str)) = (deq (.str a) (.str b) && PyData.eqvAll (toPys (as.map D.str)) (toPys (bs.map D.str))) := by simp [deq, toPys, toPy, PyData.eqvAll, PyData.eqv]
    rw [e, h2, deq_strs, Bool.eq_iff_iff]
    simp
theorem okN_strs {as : List Str} (h : ∀ x ∈ as, PyData.strOk x = true) : OkN 1 (.lst (as.map D.str)) := okN_lst (k := 0) fun x hx => by
  obtain ⟨y, hy, rfl⟩ := List.mem_map.mp hx
  exact okN_str (h y hy)
theorem neD_tx {as bs : List Str} (ha : ∀ x ∈ as, PyData.strOk x = true) (hb : ∀ x ∈ bs, PyData.strOk x = true) {Q : D → Prop} (q : Q (.bl (!decide (as = bs)))) : neD (.lst (as.map D.str)) (.lst (bs.map D.str)) Q := by
  have e : deq (.lst (as.map D.str)) (.lst (bs.map D.str)) = decide (as = bs) := by
    rw [← strs_eqv]
    simp [deq, toPy, PyData.eqv]
  unfold neD
  rw [e]
  exact ⟨by unfold canEq; rw [(okN_strs ha).okE (by decide), (okN_strs hb).okE (by decide)]; simp, q⟩
/-- sorted(set(xs)) is sorted(xs) just where no two are alike -/
theorem srt_set {xs bs : List Str} (nd : bs.Nodup) (hm : ∀ y, y ∈ bs ↔ y ∈ xs) : decide (bs.mergeSort leT = xs.mergeSort leT) = decide xs.Nodup := by
  rw [decide_eq_decide]
  constructor
  · intro e
    have h1 := (List.mergeSort_perm bs leT).nodup_iff.mpr nd
    rw [e] at h1
    exact (List.mergeSort_perm xs leT).nodup_iff.mp h1
  · intro h
    have p : bs.Perm xs := (List.perm_ext_iff_of_nodup nd h).mpr hm
    exact perm_srt (fun a b c h1 h2 => by simp only [leT, decide_eq_true_eq] at h1 h2 ⊢; exact List.le_trans h1 h2) (fun a b => by simp only [leT, Bool.or_eq_true, decide_eq_true_eq]; exact List.le_total _ _) (fun a b h1 h2 => by simp only [leT, decide_eq_true_eq] at h1 h2; exact tl_inj (List.le_antisymm h1 h2)) p
theorem lcD_fl {g : DGT} {tc : DB} {te : DT} {ρ : DEnv} (p : D → Bool) {l : List D} {Q : List D → Prop} (h : ∀ a ∈ l, ∀ (R : D → Prop) (S : Prop), (p a = true → R a) → (p a = false → S) → g a ρ fun ρ2 => tc ρ2 fun b => if b = true then te ρ2 R else S) (q : Q (l.filter p)) : lcD g tc te ρ l Q := by
  have := lcD_map (g := g) (tc := tc) (te := te) (ρ := ρ) (fun x : D => x) (fun x => x) p (l := l) (Q := Q) h (by simpa using q)
  simpa using this
theorem fl_none {p : D → Bool} {l : List D} : (l.filter p).isEmpty = l.all fun x => !p x := by
  induction l with
  | nil => rfl
  | cons a l ih =>
    rw [List.all_cons, ← ih]
    cases h : p a with
    | true => rw [List.filter_cons_of_pos h]; rfl
    | false => rw [List.filter_cons_of_neg (by simp [h])]; rfl
theorem notin_tx {xs : List Str} {f : Str} (ok : ∀ x ∈ xs, PyData.strOk x = true) (hf : PyData.strOk f = true) {Q : D → Prop} (q : Q (.bl (!decide (f ∈ xs)))) : inD true (.str f) (.lst (xs.map D.str)) Q := by
  refine ⟨(okN_str hf).okE (by decide), (okN_strs ok).okE (by decide), ?_⟩
  have e : ((xs.map D.str).any fun z => deq z (.str f)) = decide (f ∈ xs) := u_any
  rw [e]
  exact q
def spNamedA : DSp := spOf Fit namedB
section
variable {P : Program} {w : World} {K : PySem.W.Frag} {C : Addr} {mg : Str → Option Value} {base : Heap} {W : Wd} {k : Nat} {f : Addr} {fd : FuncData}
theorem ok_law_is_name (T : TxtB K C mg) (Fn : Fun K "_law_is_name" "_law_is_name" s__law_is_name f fd) : GnOk P w K mg base CX0 (k + 1) f fd ["_law_thing"] (spD W K spNameA) := by
  refine Fn.okD sc__law_is_name rfl fun cdv A outer s H I ds Q Ed E hr h => ?_
  have hu := hr.units
  have hu2 : (A.deeper (envOfC "_law_is_name" (defScope s__law_is_name) s.heap.objs.size f cdv)).units + 66 < cLine := by have := hr.room.un; omega
  obtain ⟨d, rfl, hd, q⟩ := h
  refine ⟨_, (dss_cons (ds_if (dt_wh (dw_or (dt_not (dt_val (de_isi is_str T.b_isinstance T.b_str (by decide +kernel) (de_name 0)))) (dw_or (dt_not (dt_chain .lt .lt de_int (de_len T.b_len (da_cons (de_name 0) da_nil)) de_int)) (dw_or1 (dt_c (.eq hu) (de_name 0) de_str)))))
  (dss_one (ds_ret de_bl))
  dss_nil)
  (dss_one (ds_ret (de_eqLD hu (de_lc (own := [("_law_sign", 1)]) rfl sc__law_is_name.nd (di_seq (de_name 0)) (blkOk_by (own := [("_law_sign", 1)]) (N := ["_law_thing", "_law_sign"]) (sc := defScope s__law_is_name) (by decide +kernel)) (fun _ _ _ _ _ => (dg_name 1 sc__law_is_name.nd)) (fun _ _ _ _ _ => (dif_one (dt_notin hu2 (de_name 1) de_str))) (fun _ _ _ _ _ => (de_name 1))) (de_lst da_nil))))), ?_⟩
  simp only [getD_0, getD_s, set_0, set_s, boolD_bl, intD_int, startD, List.map, List.length_cons, List.length_nil, List.replicate, List.cons_append, List.nil_append, defEnds, wipeD, if_true, if_false, Bool.not_true, Bool.not_false, Bool.false_eq_true]
  refine ⟨hd.k, ?_⟩
  cases hs : isStr d with
  | false =>
    simp only [Bool.not_false, if_true]
    rw [isNm_not hs] at q
    exact q
  | true =>
    obtain ⟨x, rfl⟩ := str_of' hs
    have hl := hd.l x rfl
    simp only [Bool.not_true, Bool.false_eq_true, if_false, lenD, ltD]
    refine ⟨Nat.le_trans hl (by decide), ?_⟩
    simp only [getD_0, getD_s, set_0, set_s, boolD_bl, intD_int, startD, List.map, List.length_cons, List.length_nil, List.replicate, List.cons_append, List.nil_append, defEnds, wipeD, if_true, if_false, Bool.not_true, Bool.not_false, Bool.false_eq_true]
    have e1 : isNm (.str x) = (decide (1 ≤ x.length) && (decide (x.length ≤ 8) && (!decide (x = numS) && x.cps.toList.all signOk))) := rfl
    rw [e1] at q
    by_cases h1 : 1 ≤ x.length
    · rw [decide_eq_true h1, Bool.true_and] at q
      rw [if_pos (by simp; omega)]
      by_cases h8 : x.length ≤ 8
      · rw [decide_eq_true h8, Bool.true_and] at q
        rw [if_neg (by simp; omega)]
        show eqD (.str x) (.str numS) _
        simp only [eqD_str, boolD_bl]
        by_cases hn : x = numS
        · rw [if_pos (by rw [decide_eq_true_eq]; exact hn)]
          rw [decide_eq_true hn] at q
          exact q
        · rw [if_neg (by rw [decide_eq_true_eq]; exact hn)]
          rw [decide_eq_false hn, Bool.not_false, Bool.true_and] at q
          simp only [itemsD]
          have e : sgnD x = x.cps.toList.map fun c => D.str ⟨#[c]⟩ := rfl
          rw [e]
          refine ⟨by rw [List.length_map]; exact Nat.le_trans hl (by decide), lcD_map (fun c => D.str ⟨#[c]⟩) (fun c => D.str ⟨#[c]⟩) (fun c => !signOk c) (fun c hc R S r r2 => ?_) ?_⟩
          · simp only [wipeD, getD_0, getD_s, set_0, set_s, boolD_bl, intD_int, startD, List.map, List.length_cons, List.length_nil, List.replicate, List.cons_append, List.nil_append, defEnds, if_true]
            refine ⟨_, rfl, ?_⟩
            rw [in_abc]
            simp only [boolD_bl, Dk.flip, if_true]
            cases hsg : signOk c with
            | true =>
              exact r2 (by rw [hsg]; rfl)
            | false =>
              exact r (by rw [hsg]; rfl)
          · refine ⟨Nat.zero_le _, _, rfl, rfl, ?_⟩
            have e2 : ((x.cps.toList.filter fun c => !signOk c).map fun c => D.str ⟨#[c]⟩).isEmpty = x.cps.toList.all signOk := by
              generalize x.cps.toList = l
              induction l with
              | nil => rfl
              | cons c l ih =>
                rw [List.all_cons]
                cases hsg : signOk c with
                | true => rw [List.filter_cons_of_neg (by simp [hsg]), Bool.true_and]; exact ih
                | false => rw [List.filter_cons_of_pos (by simp [hsg])]; rfl
            rw [e2]
            cases hb : x.cps.toList.all signOk <;> (rw [hb] at q; exact q)
      · rw [decide_eq_false h8, Bool.false_and] at q
        rw [if_pos (by simp; omega)]
        exact q
    · rw [decide_eq_false h1, Bool.false_and] at q
      rw [if_neg (by simp; omega)]
      exact q
theorem ok_law_is_named (T : TxtB K C mg) (Fn : Fun K "_law_is_named" "_law_is_named" s__law_is_named f fd) (C__law_is_name : Cal P w K mg base CX0 W k "_law_is_name" ["_law_thing"] spNameA) : GnOk P w K mg base CX0 (k + 1) f fd ["_law_thing"] (spD W K spNamedA) := by
  refine Fn.okD sc__law_is_named rfl fun cdv A outer s H I ds Q Ed E hr h => ?_
  have hu := hr.units
  obtain ⟨d, rfl, hd, q⟩ := h
  refine ⟨_, (dss_cons (ds_if (dt_wh (dw_or (dt_not (dt_val (de_isi is_tup T.b_isinstance T.b_tuple (by decide +kernel) (de_name 0)))) (dw_or1 (dt_c (.ne hu) (de_len T.b_len (da_cons (de_name 0) da_nil)) de_int))))
  (dss_one (ds_ret de_bl))
  dss_nil)
  (dss_one (ds_ret (de_and (de_fn C__law_is_name (hr.mono (by omega)) pass0 lets0 (da_cons (de_at hu (de_name 0) de_int) da_nil)) (de_one (de_isi is_tup T.b_isinstance T.b_tuple (by decide +kernel) (de_at hu (de_name 0) de_int))))))), ?_⟩
  simp only [getD_0, getD_s, set_0, set_s, boolD_bl, intD_int, startD, List.map, List.length_cons, List.length_nil, List.replicate, List.cons_append, List.nil_append, defEnds, wipeD, if_true, if_false, Bool.not_true, Bool.not_false, Bool.false_eq_true]
  refine ⟨gd_known hd.g, ?_⟩
  cases ht : isTup d with
  | false =>
    simp only [Bool.not_false, if_true]
    rw [show namedB d = false from isTwo_not ht] at q
    exact q
  | true =>
    obtain ⟨xs, rfl⟩ := tup_of ht
    simp only [Bool.not_true, Bool.false_eq_true, if_false, lenD]
    rw [neD_int]
    simp only [getD_0, getD_s, set_0, set_s, boolD_bl, intD_int, startD, List.map, List.length_cons, List.length_nil, List.replicate, List.cons_append, List.nil_append, defEnds, wipeD, if_true, if_false, Bool.not_true, Bool.not_false, Bool.false_eq_true]
    by_cases hl : xs.length = 2
    · obtain ⟨a, b, rfl⟩ := two_of hl
      rw [if_neg (by simp)]
      have ha := hd.mem (x := a) (by simp)
      have hb := hd.mem (x := b) (by simp)
      refine ⟨a, atI_0, a, rfl, ha.nm, ?_⟩
      have e1 : namedB (.tup [a, b]) = (isNm a && isTup b) := by
        show (isNm a && tupB (fun _ => true) b) = _
        cases b <;> rfl
      rw [e1] at q
      simp only [boolD_bl]
      cases hn : isNm a with
      | false =>
        rw [hn] at q
        exact q
      | true =>
        rw [hn, Bool.true_and] at q
        exact ⟨b, atI_1, gd_known hb.g, q⟩
    · rw [if_pos (by simp; omega)]
      rw [show namedB (.tup xs) = false from isTwo_len hl] at q
      exact q
theorem ok_law_is_kinds (T : TxtB K C mg) (bset : mg "set" = none) (Fn : Fun K "_law_is_kinds" "_law_is_kinds" s__law_is_kinds f fd) (C__law_is_named : Cal P w K mg base CX0 W k "_law_is_named" ["_law_thing"] spNamedA) : GnOk P w K mg base CX0 (k + 1) f fd ["_law_thing"] (spD W K spKindsA) := by
  refine Fn.okD sc__law_is_kinds rfl fun cdv A outer s H I ds Q Ed E hr h => ?_
  have hu := hr.units
  have hu2 : (A.deeper (envOfC "_law_is_kinds" (defScope s__law_is_kinds) s.heap.objs.size f cdv)).units + 66 < cLine := by have := hr.room.un; omega
  obtain ⟨d, rfl, hd, q⟩ := h
  refine ⟨_, (dss_cons (ds_if (dt_wh (dw_or (dt_not (dt_val (de_isi is_tup T.b_isinstance T.b_tuple (by decide +kernel) (de_name 0)))) (dw_or (dt_eqT0 hu (de_name 0) (de_tup da_nil)) (dw_or1 (dt_neLD hu (de_lc (own := [("_law_kind", 1)]) rfl sc__law_is_kinds.nd (di_seq (de_name 0)) (blkOk_by (own := [("_law_kind", 1)]) (N := ["_law_thing", "_law_kind", "_law_rows", "_law_row", "_law_names_here", "_law_boughs", "_law_field"]) (sc := defScope s__law_is_kinds) (by decide +kernel)) (fun _ _ _ _ _ => (dg_name 1 sc__law_is_kinds.nd)) (fun _ _ _ _ _ => (dif_one (dt_not (dt_val (de_fn C__law_is_named (hr.mono (by omega)) pass0 lets0 (da_cons (de_name 1) da_nil)))))) (fun _ _ _ _ _ => (de_name 1))) (de_lst da_nil))))))
  (dss_one (ds_ret de_bl))
  dss_nil)
  (dss_cons (ds_set 2 (de_lst da_nil) sc__law_is_kinds.nd)
  (dss_cons (ds_for PassesOwn.never rfl (di_seq (de_name 0)) (dg_name 1 sc__law_is_kinds.nd)
  (dss_cons (ds_set 2 (de_add (de_name 2) (de_list T.b_list (da_cons (de_at hu (de_name 1) de_int) da_nil))) sc__law_is_kinds.nd)
  (dss_one (ds_if (dt_eqT0 hu (de_at hu (de_name 1) de_int) (de_tup da_nil))
  (dss_one (ds_ret de_bl))
  dss_nil))))
  (dss_cons (ds_if (dt_neLD hu (de_lc (own := [("_law_row", 3)]) rfl sc__law_is_kinds.nd (di_seq (de_name 2)) (blkOk_by (own := [("_law_row", 3)]) (N := ["_law_thing", "_law_kind", "_law_rows", "_law_row", "_law_names_here", "_law_boughs", "_law_field"]) (sc := defScope s__law_is_kinds) (by decide +kernel)) (fun _ _ _ _ _ => (dg_name 3 sc__law_is_kinds.nd)) (fun _ _ _ _ _ => (dif_one (dt_not (dt_val (de_fn C__law_is_named (hr.mono (by omega)) pass0 lets0 (da_cons (de_name 3) da_nil)))))) (fun _ _ _ _ _ => (de_name 3))) (de_lst da_nil))
  (dss_one (ds_ret de_bl))
  dss_nil)
  (dss_cons (by first | exact (ds_par (i := 4) (j := 5) rfl sc__law_is_kinds.nd rfl rfl (by decide) rfl rfl (da_cons (de_lc (own := [("_law_kind", 1)]) rfl sc__law_is_kinds.nd (di_seq (de_name 0)) (blkOk_by (own := [("_law_kind", 1)]) (N := ["_law_thing", "_law_kind", "_law_rows", "_law_row", "_law_names_here", "_law_boughs", "_law_field"]) (sc := defScope s__law_is_kinds) (by decide +kernel)) (fun _ _ _ _ _ => (dg_name 1 sc__law_is_kinds.nd)) (fun _ _ _ _ _ => dif_nil) (fun _ _ _ _ _ => (de_at hu (de_name 1) de_int))) (da_cons (de_lc (own := [("_law_row", 3)]) rfl sc__law_is_kinds.nd (di_seq (de_name 2)) (blkOk_by (own := [("_law_row", 3)]) (N := ["_law_thing", "_law_kind", "_law_rows", "_law_row", "_law_names_here", "_law_boughs", "_law_field"]) (sc := defScope s__law_is_kinds) (by decide +kernel)) (fun _ _ _ _ _ => (dg_name 3 sc__law_is_kinds.nd)) (fun _ _ _ _ _ => dif_nil) (fun _ _ _ _ _ => (de_at hu (de_name 3) de_int))) da_nil))) | exact (ds_asg (de_tup (da_cons (de_lc (own := [("_law_kind", 1)]) rfl sc__law_is_kinds.nd (di_seq (de_name 0)) (blkOk_by (own := [("_law_kind", 1)]) (N := ["_law_thing", "_law_kind", "_law_rows", "_law_row", "_law_names_here", "_law_boughs", "_law_field"]) (sc := defScope s__law_is_kinds) (by decide +kernel)) (fun _ _ _ _ _ => (dg_name 1 sc__law_is_kinds.nd)) (fun _ _ _ _ _ => dif_nil) (fun _ _ _ _ _ => (de_at hu (de_name 1) de_int))) (da_cons (de_lc (own := [("_law_row", 3)]) rfl sc__law_is_kinds.nd (di_seq (de_name 2)) (blkOk_by (own := [("_law_row", 3)]) (N := ["_law_thing", "_law_kind", "_law_rows", "_law_row", "_law_names_here", "_law_boughs", "_law_field"]) (sc := defScope s__law_is_kinds) (by decide +kernel)) (fun _ _ _ _ _ => (dg_name 3 sc__law_is_kinds.nd)) (fun _ _ _ _ _ => dif_nil) (fun _ _ _ _ _ => (de_at hu (de_name 3) de_int))) da_nil))) (dg_tup (n := 2) rfl (dgs_cons (dg_name 4 sc__law_is_kinds.nd) (dgs_cons (dg_name 5 sc__law_is_kinds.nd) dgs_nil)))))
  (dss_cons (ds_if (dt_wh (dw_or (dt_c (.ne hu) (de_sortedTx hu rfl T.b_sorted bset (de_name 4)) (de_sorted T.b_sorted hu (da_cons (de_name 4) da_nil))) (dw_or1 (dt_c (.ne hu) (de_sortedTx hu rfl T.b_sorted bset (de_name 5)) (de_sorted T.b_sorted hu (da_cons (de_name 5) da_nil))))))
  (dss_one (ds_ret de_bl))
  dss_nil)
  (dss_cons (ds_for PassesOwn.never rfl (di_seq (de_name 2)) (dg_name 3 sc__law_is_kinds.nd)
  (dss_one (ds_if (dt_neLD hu (de_lc (own := [("_law_field", 6)]) rfl sc__law_is_kinds.nd (di_seq (de_at hu (de_name 3) de_int)) (blkOk_by (own := [("_law_field", 6)]) (N := ["_law_thing", "_law_kind", "_law_rows", "_law_row", "_law_names_here", "_law_boughs", "_law_field"]) (sc := defScope s__law_is_kinds) (by decide +kernel)) (fun _ _ _ _ _ => (dg_name 6 sc__law_is_kinds.nd)) (fun _ _ _ _ _ => (dif_one (dt_wh (dw_or (dt_not (dt_val (de_isi is_str T.b_isinstance T.b_str (by decide +kernel) (de_name 6)))) (dw_or1 (dt_wh (dw_and (dt_c (.ne hu) (de_name 6) de_str) (dw_and1 (dt_notin hu2 (de_name 6) (de_name 4)))))))))) (fun _ _ _ _ _ => (de_name 6))) (de_lst da_nil))
  (dss_one (ds_ret de_bl))
  dss_nil)))
  (dss_one (ds_ret de_bl))))))))), ?_⟩
  simp only [getD_0, getD_s, set_0, set_s, boolD_bl, intD_int, startD, List.map, List.length_cons, List.length_nil, List.replicate, List.cons_append, List.nil_append, defEnds, wipeD, if_true, if_false, Bool.not_true, Bool.not_false, Bool.false_eq_true]
  refine ⟨gd_known hd.g, ?_⟩
  cases ht : isTup d with
  | false =>
    simp only [Bool.not_false, if_true]
    rw [okD_not (tupB_not ht)] at q
    exact q
  | true =>
    obtain ⟨xs, rfl⟩ := tup_of ht
    simp only [Bool.not_true, Bool.false_eq_true, if_false]
    refine ⟨Nat.zero_le _, xs, rfl, rfl, ?_⟩
    simp only [getD_0, getD_s, set_0, set_s, boolD_bl, intD_int, startD, List.map, List.length_cons, List.length_nil, List.replicate, List.cons_append, List.nil_append, defEnds, wipeD, if_true, if_false, Bool.not_true, Bool.not_false, Bool.false_eq_true]
    cases he : xs.isEmpty with
    | true =>
      have : preK (.tup xs) = false := by show (!xs.isEmpty && _) = false; rw [he]; rfl
      rw [okD_not this] at q
      exact q
    | false =>
      simp only [Bool.false_eq_true, if_false]
      have hne : xs ≠ [] := by
        rintro rfl
        cases he
      have no : ∀ {Z : Prop}, (∀ ks, xs = ks.map kindD → Pk ks → okK ks = true → False) → (okD (.tup xs) = false → Z) → Z := fun h1 h2 => by
        refine h2 ?_
        rw [Bool.eq_false_iff]
        intro ho
        obtain ⟨ks, e, g, hk⟩ := okD_iff.mp ho
        exact h1 ks (D.tup.inj e) g hk
      simp only [itemsD]
      refine ⟨Nat.le_trans hd.len (by decide), lcD_fl (fun x => !namedB x) (fun c hc R S r r2 => ?_) ?_⟩
      · simp only [getD_0, getD_s, set_0, set_s, boolD_bl, intD_int, startD, List.map, List.length_cons, List.length_nil, List.replicate, List.cons_append, List.nil_append, defEnds, wipeD, if_true, if_false, Bool.not_true, Bool.not_false, Bool.false_eq_true]
        refine ⟨_, rfl, hd.mem hc, ?_⟩
        simp only [getD_0, getD_s, set_0, set_s, boolD_bl, intD_int, startD, List.map, List.length_cons, List.length_nil, List.replicate, List.cons_append, List.nil_append, defEnds, wipeD, if_true, if_false, Bool.not_true, Bool.not_false, Bool.false_eq_true]
        cases hn : namedB c with
        | true => exact r2 (by rw [hn]; rfl)
        | false => exact r (by rw [hn]; rfl)
      refine ⟨Nat.zero_le _, _, rfl, rfl, ?_⟩
      rw [fl_none]
      simp only [Bool.not_not, boolD_bl]
      cases hnm : xs.all namedB with
      | false =>
        refine no (fun ks e g _ => ?_) fun e => ?_
        · have : xs.all namedB = true := by
            rw [e]
            refine List.all_eq_true.mpr fun x hx => ?_
            obtain ⟨k, hk, rfl⟩ := List.mem_map.mp hx
            exact isTwo_iff.mpr ⟨k.1, _, rfl, g.kn k hk, rfl⟩
          rw [hnm] at this
          cases this
        · rw [e] at q
          exact q
      | true =>
      have hnm := List.all_eq_true.mp hnm
      rw [if_neg (by decide)]
      have wx := wts_flat (zs := xs) hnm
      have hw := hd.w
      rw [wt_tup] at hw
      refine ⟨Nat.zero_le _, forD_ind (fun (l : List D) ρ => ∃ (pre : List D) (u : Option Ent), xs = pre ++ l ∧ (∀ x ∈ pre, rwsOf x ≠ []) ∧ ρ = [some (.dat (.tup xs)), u, some (.dat (.lst (rowsX pre))), none, none, none, none]) (fun ρ ⟨pre, u, ep, hp, e⟩ => ?_) (fun d l ρ R ⟨pre, u, ep, hp, e⟩ hR => ?_) _ _ ⟨[], _, rfl, (fun _ h => nomatch h), rfl⟩⟩
      rotate_left
      · subst e
        simp only [getD_0, getD_s, set_0, set_s, boolD_bl, intD_int, startD, List.map, List.length_cons, List.length_nil, List.replicate, List.cons_append, List.nil_append, defEnds, wipeD, if_true, if_false, Bool.not_true, Bool.not_false, Bool.false_eq_true]
        have hx : d ∈ xs := by rw [ep]; simp
        obtain ⟨a, bs, rfl, ha⟩ := namedB_of (hnm d hx)
        have lw : (rowsX pre).length + bs.length ≤ 20000 := by
          have h1 : rowsX xs = rowsX pre ++ (bs ++ rowsX l) := by rw [ep]; unfold rowsX; rw [List.flatMap_append, List.flatMap_cons]; rfl
          rw [h1] at wx
          have h2 := wts_len (rowsX pre ++ (bs ++ rowsX l))
          simp only [List.length_append] at h2
          omega
        refine ⟨_, atI_1, ?_⟩
        simp only [listD, addD]
        refine ⟨Nat.le_trans lw (by decide), ?_⟩
        refine ⟨_, atI_1, Nat.zero_le _, _, rfl, rfl, ?_⟩
        show boolD (.bl bs.isEmpty) _
        rw [boolD_bl]
        cases hb : bs.isEmpty with
        | true =>
          refine no (fun ks e g _ => ?_) fun e => ?_
          · rw [e] at hx
            obtain ⟨k, hk, e2⟩ := List.mem_map.mp hx
            have e3 : k.2.map boughD = bs := D.tup.inj (List.cons.inj (List.cons.inj (D.tup.inj e2)).2).1
            refine g.kb k hk ?_
            have e4 : k.2.map boughD = [] := e3.trans (List.isEmpty_iff.mp hb)
            exact List.map_eq_nil_iff.mp e4
          · rw [e] at q
            exact q
        | false =>
          rw [if_neg (by decide)]
          have e4 : rowsX (pre ++ [.tup [.str a, .tup bs]]) = rowsX pre ++ bs := by unfold rowsX; rw [List.flatMap_append]; simp [rwsOf]
          refine hR _ ⟨pre ++ [.tup [.str a, .tup bs]], _, by rw [ep]; simp, fun x hx => ?_, by rw [e4]⟩
          rcases List.mem_append.mp hx with hx | hx
          · exact hp x hx
          · rw [List.mem_singleton] at hx
            subst hx
            rintro rfl
            cases hb
      · subst e
        rw [List.append_nil] at ep
        subst ep
        simp only [getD_0, getD_s, set_0, set_s, boolD_bl, intD_int, startD, List.map, List.length_cons, List.length_nil, List.replicate, List.cons_append, List.nil_append, defEnds, wipeD, if_true, if_false, Bool.not_true, Bool.not_false, Bool.false_eq_true]
        have lr : (rowsX xs).length ≤ 20000 := by
          have h2 := wts_len (rowsX xs)
          omega
        have fitr : ∀ r ∈ rowsX xs, Fit r := fun r hr => by
          obtain ⟨x, hx, hr⟩ := List.mem_flatMap.mp hr
          obtain ⟨a, bs, rfl, ha⟩ := namedB_of (hnm x hx)
          exact ((hd.mem hx).mem (x := .tup bs) (by simp)).mem hr
        refine ⟨Nat.le_trans lr (by decide), lcD_fl (fun x => !namedB x) (fun c hc R S r r2 => ?_) ?_⟩
        · simp only [getD_0, getD_s, set_0, set_s, boolD_bl, intD_int, startD, List.map, List.length_cons, List.length_nil, List.replicate, List.cons_append, List.nil_append, defEnds, wipeD, if_true, if_false, Bool.not_true, Bool.not_false, Bool.false_eq_true]
          refine ⟨_, rfl, fitr c hc, ?_⟩
          simp only [getD_0, getD_s, set_0, set_s, boolD_bl, intD_int, startD, List.map, List.length_cons, List.length_nil, List.replicate, List.cons_append, List.nil_append, defEnds, wipeD, if_true, if_false, Bool.not_true, Bool.not_false, Bool.false_eq_true]
          cases hn : namedB c with
          | true => exact r2 (by rw [hn]; rfl)
          | false => exact r (by rw [hn]; rfl)
        refine ⟨Nat.zero_le _, _, rfl, rfl, ?_⟩
        rw [fl_none]
        simp only [Bool.not_not, boolD_bl]
        cases hnr : (rowsX xs).all namedB with
        | false =>
          refine no (fun ks e g _ => ?_) fun e => ?_
          · have : (rowsX xs).all namedB = true := by
              rw [e, rows_kinds]
              refine List.all_eq_true.mpr fun x hx => ?_
              obtain ⟨k, hk, hx⟩ := List.mem_flatMap.mp hx
              obtain ⟨b, hb, rfl⟩ := List.mem_map.mp hx
              exact isTwo_iff.mpr ⟨b.1, _, rfl, g.bn k hk b hb, rfl⟩
            rw [hnr] at this
            cases this
          · rw [e] at q
            exact q
        | true =>
        have hnr := List.all_eq_true.mp hnr
        rw [if_neg (by decide)]
        rw [okD_pre hne (fun x hx => ⟨hnm x hx, hp x hx⟩) hnr] at q
        have wr := wts_flat (zs := rowsX xs) hnr
        have nmOk : ∀ {zs : List D}, (∀ z ∈ zs, namedB z = true) → ∀ x ∈ namesX zs, PyData.strOk x = true := fun h x hx => by
          obtain ⟨z, hz, rfl⟩ := List.mem_map.mp hx
          obtain ⟨a, bs, rfl, ha⟩ := namedB_of (h z hz)
          exact strOk_name ha
        have nmS : ∀ zs : List D, (zs.map fun x => D.str (nmOf x)) = (namesX zs).map D.str := fun zs => by unfold namesX; rw [List.map_map]; rfl
        have lx : xs.length ≤ 3900 := by omega
        have lrr : (rowsX xs).length ≤ 3900 := by omega
        refine ⟨Nat.le_trans lx (by decide), lcD_fun (fun x => .str (nmOf x)) (fun c hc R S r => ?_) ?_⟩
        · simp only [getD_0, getD_s, set_0, set_s, boolD_bl, intD_int, startD, List.map, List.length_cons, List.length_nil, List.replicate, List.cons_append, List.nil_append, defEnds, wipeD, if_true, if_false, Bool.not_true, Bool.not_false, Bool.false_eq_true]
          obtain ⟨a, bs, rfl, ha⟩ := namedB_of (hnm c hc)
          exact ⟨_, atI_0, r⟩
        rw [nmS]
        refine ⟨Nat.le_trans lr (by decide), lcD_fun (fun x => .str (nmOf x)) (fun c hc R S r => ?_) ?_⟩
        · simp only [getD_0, getD_s, set_0, set_s, boolD_bl, intD_int, startD, List.map, List.length_cons, List.length_nil, List.replicate, List.cons_append, List.nil_append, defEnds, wipeD, if_true, if_false, Bool.not_true, Bool.not_false, Bool.false_eq_true]
          obtain ⟨a, bs, rfl, ha⟩ := namedB_of (hnr c hc)
          exact ⟨_, atI_0, r⟩
        rw [nmS]
        have srt : ∀ {zs : List D} {R : D → Prop}, (∀ z ∈ zs, namedB z = true) → zs.length ≤ 3900 → R (.bl (!decide (namesX zs).Nodup)) → sortedTxD (.lst ((namesX zs).map D.str)) fun x => sortedD [.lst ((namesX zs).map D.str)] fun y => neD x y R := fun {zs R} h hl r => by
          have hl : (namesX zs).length ≤ 3900 := by unfold namesX; rw [List.length_map]; exact hl
          refine ⟨_, rfl, by omega, fun bs nd hm => ?_⟩
          refine sorted_strs (nmOk h) (by omega) ?_
          rw [srt_strs_map, srt_strs_map]
          refine neD_tx (fun x hx => ?_) (fun x hx => ?_) ?_
          · exact nmOk h x ((hm x).mp ((List.mergeSort_perm bs leT).mem_iff.mp hx))
          · exact nmOk h x ((List.mergeSort_perm _ leT).mem_iff.mp hx)
          · rw [srt_set nd hm]
            exact r
        refine ⟨by decide, _, rfl, rfl, _, _, rfl, _, _, rfl, rfl, ?_⟩
        refine srt hnm lx ?_
        simp only [boolD_bl]
        by_cases hnd : (namesX xs).Nodup
        rotate_left
        · rw [decide_eq_false hnd] at q ⊢
          exact q
        rw [decide_eq_true hnd, Bool.true_and] at q
        rw [decide_eq_true hnd, if_neg (by decide)]
        refine srt hnr lrr ?_
        simp only [boolD_bl]
        by_cases hbd : (namesX (rowsX xs)).Nodup
        rotate_left
        · rw [decide_eq_false hbd] at q ⊢
          exact q
        rw [decide_eq_true hbd, Bool.true_and] at q
        rw [decide_eq_true hbd, if_neg (by decide)]
        refine forD_ind (fun (l : List D) ρ => ∃ (pre : List D) (u v w : Option Ent), rowsX xs = pre ++ l ∧ ((rowsX pre).all (fldOk (namesX xs))) = true ∧ ρ = [some (.dat (.tup xs)), u, some (.dat (.lst (rowsX xs))), v, some (.dat (.lst ((namesX xs).map D.str))), some (.dat (.lst ((namesX (rowsX xs)).map D.str))), w]) (fun ρ ⟨pre, u, v, w, ep, hp, e⟩ => ?_) (fun d l ρ R ⟨pre, u, v, w, ep, hp, e⟩ hR => ?_) _ _ ⟨[], _, _, _, rfl, rfl, rfl⟩
        · subst e
          rw [List.append_nil] at ep
          rw [← ep] at hp
          rw [hp] at q
          exact q
        · subst e
          simp only [getD_0, getD_s, set_0, set_s, boolD_bl, intD_int, startD, List.map, List.length_cons, List.length_nil, List.replicate, List.cons_append, List.nil_append, defEnds, wipeD, if_true, if_false, Bool.not_true, Bool.not_false, Bool.false_eq_true]
          have hx : d ∈ rowsX xs := by rw [ep]; simp
          obtain ⟨a, fs, rfl, ha⟩ := namedB_of (hnr d hx)
          have hfs := (fitr _ hx).mem (x := .tup fs) (by simp)
          refine ⟨_, atI_1, ?_⟩
          simp only [itemsD]
          refine ⟨Nat.le_trans hfs.len (by decide), lcD_fl (fun x => !fldOk (namesX xs) x) (fun c hc R S r r2 => ?_) ?_⟩
          · simp only [getD_0, getD_s, set_0, set_s, boolD_bl, intD_int, startD, List.map, List.length_cons, List.length_nil, List.replicate, List.cons_append, List.nil_append, defEnds, wipeD, if_true, if_false, Bool.not_true, Bool.not_false, Bool.false_eq_true]
            refine ⟨gd_known (hfs.mem hc).g, ?_⟩
            cases hs : isStr c with
            | false =>
              simp only [Bool.not_false, if_true]
              refine r ?_
              cases c <;> first | (cases hs; done) | rfl
            | true =>
              obtain ⟨y, rfl⟩ := str_of' hs
              simp only [Bool.not_true, Bool.false_eq_true, if_false]
              have e3 : fldOk (namesX xs) (.str y) = (decide (y = numS) || decide (y ∈ namesX xs)) := rfl
              rw [e3] at r r2
              show neD (.str y) (.str numS) _
              rw [neD_str]
              simp only [boolD_bl]
              by_cases hn : y = numS
              · rw [decide_eq_true hn] at r2 ⊢
                exact r2 rfl
              · rw [decide_eq_false hn] at r r2 ⊢
                rw [Bool.false_or] at r r2
                simp only [Bool.not_false, if_true]
                refine notin_tx (nmOk hnm) (ascii_ok (hfs.mem hc).str.2) ?_
                simp only [boolD_bl]
                cases hm : decide (y ∈ namesX xs) with
                | true =>
                  rw [hm] at r2
                  exact r2 rfl
                | false =>
                  rw [hm] at r
                  exact r rfl
          refine ⟨Nat.zero_le _, _, rfl, rfl, ?_⟩
          rw [fl_none]
          simp only [Bool.not_not, boolD_bl]
          cases hf : fs.all (fldOk (namesX xs)) with
          | false =>
            have : (rowsX (rowsX xs)).all (fldOk (namesX xs)) = false := by
              rw [Bool.eq_false_iff]
              intro z
              have : fs.all (fldOk (namesX xs)) = true := List.all_eq_true.mpr fun y hy => List.all_eq_true.mp z y (List.mem_flatMap.mpr ⟨_, hx, hy⟩)
              rw [hf] at this
              cases this
            rw [this] at q
            exact q
          | true =>
            rw [if_neg (by decide)]
            refine hR _ ⟨pre ++ [.tup [.str a, .tup fs]], _, _, _, by rw [ep]; simp, ?_, rfl⟩
            have e4 : rowsX (pre ++ [.tup [.str a, .tup fs]]) = rowsX pre ++ fs := by unfold rowsX; rw [List.flatMap_append]; simp [rwsOf]
            rw [e4, List.all_append, hp, hf]
            rfl
end
end KB
namespace KB
open PySem L2 Dk
open PyProof.Rows (envOfC)
abbrev s__law_deck : Stmt := top 34
theorem sc__law_deck : FnScope ["_law_script", "_law_cell"] ["_law_script"] (defScope s__law_deck) := ⟨rfl, rfl, rfl, by decide +kernel, rfl, by decide +kernel, by decide +kernel⟩
theorem bd__law_deck (kV doc pm : Value) (an : Option Addr) (cdv ct : Value) (us : List Value) (hl : us.length = 1) : bindArgs (PySem.W.fnOf "_law_deck" "_law_deck" (defArgs s__law_deck) (defBody s__law_deck) (defScope s__law_deck) .none kV doc pm an cdv ct) ⟨us, []⟩ = pure ((["_law_script"] : List Str).zip us) := by
  match us, hl with
  | [v0], _ => rfl
abbrev s__law_draw : Stmt := top 35
theorem sc__law_draw : FnScope ["_law_deck_here", "_law_most", "_law_cell", "_law_number"] ["_law_deck_here", "_law_most"] (defScope s__law_draw) := ⟨rfl, rfl, rfl, by decide +kernel, rfl, by decide +kernel, by decide +kernel⟩
theorem bd__law_draw (kV doc pm : Value) (an : Option Addr) (cdv ct : Value) (us : List Value) (hl : us.length = 2) : bindArgs (PySem.W.fnOf "_law_draw" "_law_draw" (defArgs s__law_draw) (defBody s__law_draw) (defScope s__law_draw) .none kV doc pm an cdv ct) ⟨us, []⟩ = pure ((["_law_deck_here", "_law_most"] : List Str).zip us) := by
  match us, hl with
  | [v0, v1], _ => rfl
section
variable {P : Program} {w : World} {K : PySem.W.Frag} {mg : Str → Option Value} {base : Heap}
/-- a deck made of the script -/
def spDeck (K : PySem.W.Frag) : Sp := fun vs H Q _ => ∃ (a : Addr) (ns : List Int), vs = [.ref a] ∧ SqL K H a (ns.map V.int) ∧ ns.length ≤ 63 ∧ ∀ p l H', Same H H' → H p = none → H l = none → deckAt p l H' → Q (.ref p) H'
theorem ok_deck {f : Addr} {fd : FuncData} {k : Nat} (Fn : Fun K "_law_deck" "_law_deck" s__law_deck f fd) (mList : mg "list" = none) (mSum : mg "sum" = none) (mLen : mg "len" = none) : FnOk P w K mg base CX0 (k + 1) f fd ["_law_script"] (spDeck K) := by
  refine Fn.ok sc__law_deck (fun vs H Q E h => ?_) (fun cdv A outer s H vs Q E hr h => ?_)
  · obtain ⟨a, ns, rfl, _⟩ := h
    rfl
  obtain ⟨a, ns, rfl, hS, h63, q⟩ := h
  refine ⟨_, pss_one (ps_ret (pe_lst (pa_cons (pe_revL (pe_callTy call_list_of rfl mList (by decide +kernel) (pa_cons (pe_slice sl_list (pv 0) po_none (po_some pe_int)) pa_nil)))
    (pa_cons (pe_op op_add (pe_callB (cr_sum rfl) rfl mSum (by decide +kernel) (pa_cons (pe_lc (own := [("_law_cell", 1)]) (g := gName 1) (tt := tYes) rfl sc__law_deck.nd (pi_list (pe_slice sl_list (pv 0) po_none (po_some pe_int))) (blkOk_by (own := [("_law_cell", 1)]) (N := ["_law_script", "_law_cell"]) (sc := defScope s__law_deck) (by decide +kernel))
        (fun _ _ _ _ _ => pg_name (i := 1) sc__law_deck.nd rfl (Or.inl rfl)) (fun _ _ _ _ _ => pts_nil) (fun _ _ _ _ _ => pe_op op_modN (pv 1) pe_int)) pa_nil))
      (pe_op op_mul pe_int (pe_callB call_len_seq rfl mLen PySem.boot_len (pa_cons (pe_slice sl_list (pv 0) po_none (po_some pe_int)) pa_nil))))
    (pa_cons pe_int pa_nil))))), ?_⟩
  have cut63 : cutV (ns.map V.int) none (some 63) = ns.map V.int := by
    unfold cutV
    rw [HT.sIx_none, List.drop_zero, show HT.sIx (ns.map V.int).length (ns.map V.int).length (some 63) = min 63 (ns.map V.int).length from HT.sIx_nat _ _ 63]
    rw [List.length_map, Nat.min_eq_right h63, Nat.sub_zero, ← List.length_map (f := V.int), List.take_length]
  -- list(script[:63])[::-1]
  refine ⟨_, rfl, 63, rfl, a, _, rfl, hS, fun c nc => ?_⟩
  rw [cut63]
  have s1 : Same H (upd H c (.lst (ns.map V.int))) := Same.laid nc
  refine ⟨c, _, rfl, .inl (.of upd_same), fun d nd => ?_⟩
  have s2 := Same.trans s1 (Same.laid (o := .lst (ns.map V.int)) nd)
  refine ⟨d, _, rfl, .of upd_same, fun l nl => ?_⟩
  have s3 := Same.trans s2 (Same.laid (o := .lst (ns.map V.int).reverse) nl)
  -- sum([cell % 1000003 for cell in script[:63]]) + 7919 * len(script[:63])
  refine ⟨_, rfl, 63, rfl, a, _, rfl, s3.seq hS, fun e ne => ?_⟩
  rw [cut63]
  have s4 := Same.trans s3 (Same.laid (o := .lst (ns.map V.int)) ne)
  refine ⟨e, rfl, ⟨_, .of upd_same⟩, fun D nD => ?_⟩
  generalize hH4 : upd (upd (upd (upd H c (HO.lst (List.map V.int ns))) d (HO.lst (List.map V.int ns))) l (HO.lst (List.map V.int ns).reverse)) e (HO.lst (List.map V.int ns)) = H4 at *
  have e4 : H4 e = some (.lst (ns.map V.int)) := by rw [← hH4]; exact upd_same
  have l4 : H4 l = some (.lst (ns.map V.int).reverse) := by rw [← hH4, upd_ne (ne_of_none upd_same ne)]; exact upd_same
  refine lc_list (K := K) (a := e) (xs := ns.map V.int) (fun i H' => Same H4 H' ∧ H' D = some (.lst ((ns.take i).map fun c => V.int (c.fmod 1000003)))) ⟨Same.laid nD, upd_same⟩ (fun i H' _ h => .of (h.1 _ _ e4)) ?_ ?_
  · intro i x H' hx ⟨sm, hD⟩
    have hi : i < ns.length := by
      have := (List.getElem?_eq_some_iff.mp hx).1
      simpa using this
    have hx' : x = .int ns[i] := by
      rw [List.getElem?_map, List.getElem?_eq_getElem hi] at hx
      exact (Option.some.inj hx).symm
    subst hx'
    refine ⟨rfl, _, rfl, _, _, rfl, rfl, (show (1000003 : Int) ≠ 0 by decide), _, hD, ?_, fun b u eb => ?_, ?_⟩
    · rw [List.length_map, List.length_take]
      exact Nat.lt_of_le_of_lt (Nat.min_le_left _ _) (small1000 (by omega))
    · rw [upd_ne (ne_of_none eb nD)]; exact sm _ _ eb
    · rw [upd_same, List.take_add_one, List.getElem?_eq_getElem hi, List.map_append]
      rfl
  · intro H' ⟨sm, hD⟩
    rw [List.length_map, List.take_length] at hD
    refine ⟨D, ns.map fun c => c.fmod 1000003, rfl, .of (by rw [hD, List.map_map]; rfl), _, rfl, 63, rfl, a, _, rfl, sm.seq (s4.seq hS), fun g ng => ?_⟩
    rw [cut63]
    refine ⟨g, _, rfl, .inl (.of upd_same), _, _, rfl, rfl, (.inl ⟨by decide, by decide⟩), _, _, rfl, rfl, (show 3 ≤ sizeLine by decide), fun p np => ?_⟩
    have s5 : Same H4 (upd (upd H' g (.lst (ns.map V.int))) p (.lst [.ref l, .int ((ns.map fun c => c.fmod 1000003).sum + 7919 * ((ns.map V.int).length : Int)), .int 0])) := Same.trans sm (Same.trans (Same.laid ng) (Same.laid np))
    have np4 : H4 p = none := by
      cases z : H4 p with
      | none => rfl
      | some u => have := Same.trans sm (Same.laid (o := .lst (ns.map V.int)) ng) _ _ z; rw [np] at this; cases this
    refine q p l _ (Same.trans s4 s5) (Same.free s4 np4) (Same.free s2 nl) ⟨ns.reverse, _, 0, upd_same, ?_, by simpa using h63, ?_⟩
    · rw [s5 _ _ l4, List.map_reverse]
    · intro z
      rw [z, l4] at np4
      cases np4
/-- a draw: any number below the most -/
theorem ok_draw {a l : Addr} {f : Addr} {fd : FuncData} {k : Nat} (Fn : Fun K "_law_draw" "_law_draw" s__law_draw f fd) : FnOk P w K mg base CX0 (k + 1) f fd ["_law_deck_here", "_law_most"] (spD (DeckW a l) K (spDraw a)) := by
  refine Fn.ok sc__law_draw (fun vs H Q E h => spD_len _ _ _ _ h) (fun cdv A outer s H vs Q E hr h => ?_)
  obtain ⟨I, ds, st, rs, m, rfl, m0, m1, q⟩ := h
  obtain ⟨v1, v2, rfl, r1, r2⟩ := rs.two
  cases r1
  cases r2
  have hu := hr.units
  obtain ⟨ns, sm, t, ha, hl, h63, nal⟩ := deck_of st
  have done : ∀ (v : Int) (ns' : List Int) (sm' t' : Int) (H' : Hp), 0 ≤ v → v < m → ns'.length ≤ 63 → H' a = some (.lst [.ref l, .int sm', .int t']) → H' l = some (.lst (ns'.map V.int)) → (∀ b o, H b = some o → b ≠ a → b ≠ l → H' b = some o) → Q (.int v) H' :=
    fun v ns' sm' t' H' h0 h1 h2 h3 h4 h5 => q v h0 h1 (.int v) I H' (stp_deck st h5 ⟨ns', sm', t', h3, h4, h2, nal⟩) (.int v)
  -- the last three rows
  obtain ⟨t2, d2, r2⟩ : ∃ t2, PSs (cxOf CX0 P w K mg base ["_law_deck_here", "_law_most", "_law_cell", "_law_number"] "_law_draw" (defScope s__law_draw) f cdv A outer s H E).nox ((defBody s__law_draw).drop 3) t2 ∧
      ∀ (c : Int) (ns' : List Int) (t' : Int) (H' : Hp), ns'.length ≤ 63 → H' a = some (.lst [.ref l, .int sm, .int t']) → H' l = some (.lst (ns'.map V.int)) → (∀ b o, H b = some o → b ≠ a → b ≠ l → H' b = some o) →
        t2 { nx := fun _ H' => Q .non H', rt := Q } [some (.ref a), some (.int m), some (.int c), none] H' := by
    refine ⟨_, pss_cons (ps_set (i := 3) sc__law_draw.nd rfl (.inl rfl) (pe_op op_mod (pe_op op_mul (pe_op op_add (pe_op op_add (pe_op op_mod (pv 2) pe_int) (pe_op op_mul pe_int (pe_ix ix_list (pv 0) pe_int (fun _ _ => rfl)))) pe_int) pe_int) pe_int))
      (pss_cons (ps_set (i := 3) sc__law_draw.nd rfl (.inl rfl) (pe_op op_mod (pe_op op_add (pe_op op_add (pe_op op_mul (pv 3) (pv 3)) (pe_op op_mul pe_int (pe_ix ix_list (pv 0) pe_int (fun _ _ => rfl)))) pe_int) pe_int))
      (pss_one (ps_ret (pe_op op_mod (pe_op op_fdivW (pe_op op_mod (pe_op op_add (pe_op op_mul (pv 3) (pv 3)) pe_int) pe_int) pe_int) (pv 1))))), fun c ns' t' H' h2 h3 h4 h5 => ?_⟩
    have pos1 : (0 : Int) < 2147483629 := by decide
    refine ⟨_, rfl, _, _, rfl, rfl, pos1, _, rfl, a, _, 2, .int t', rfl, rfl, .of h3, atI_nat (j := 2) rfl, _, _, rfl, rfl, .inl ⟨by decide, by decide⟩, _, _, rfl, rfl, _, _, rfl, rfl, _, _, rfl, rfl, .inr ⟨by decide, by decide⟩, _, _, rfl, rfl, (show (0 : Int) < 2147483647 by decide), ?_⟩
    generalize hx : (c % 2147483629 + 65537 * t' + 11) * 48271 % 2147483647 = x
    have x0 : 0 ≤ x := by rw [← hx]; exact Int.emod_nonneg _ (by decide)
    have x1 : x < 2147483647 := by rw [← hx]; exact Int.emod_lt_of_pos _ (by decide)
    refine ⟨_, rfl, _, rfl, _, _, rfl, rfl, .inl ⟨by omega, by omega⟩, _, rfl, a, _, 2, .int t', rfl, rfl, .of h3, atI_nat (j := 2) rfl, _, _, rfl, rfl, .inl ⟨by decide, by decide⟩, _, _, rfl, rfl, _, _, rfl, rfl, _, _, rfl, rfl, (show (0 : Int) < 2147483587 by decide), ?_⟩
    generalize hy : (x * x + 69621 * t' + 23) % 2147483587 = y
    have y0 : 0 ≤ y := by rw [← hy]; exact Int.emod_nonneg _ (by decide)
    have y1 : y < 2147483587 := by rw [← hy]; exact Int.emod_lt_of_pos _ (by decide)
    refine ⟨_, rfl, _, rfl, _, _, rfl, rfl, .inl ⟨by omega, by omega⟩, _, _, rfl, rfl, _, _, rfl, rfl, (show (0 : Int) < 2147483563 by decide), _, _, rfl, rfl, ⟨by decide, by decide⟩, _, rfl, _, _, rfl, rfl, m0, ?_⟩
    exact done _ ns' sm t' H' (Int.emod_nonneg _ (by omega)) (Int.emod_lt_of_pos _ m0) h2 h3 h4 h5
  refine ⟨_, pss_cons (ps_asg (pe_op op_add (pe_ix ix_list (pv 0) pe_int (fun _ _ => rfl)) pe_int) (pg_sub (pv 0) pe_int set_list))
    (pss_cons (ps_set (i := 2) sc__law_draw.nd rfl (.inl rfl) (pe_ix ix_list (pv 0) pe_int (fun _ _ => rfl)))
    (pss_cons (ps_if (pt_cmpR (op_neD hu) (pe_ix ix_list (pv 0) pe_int (fun _ _ => rfl)) (pe_lst pa_nil) (nomark _))
      (pss_cons (ps_set (i := 2) sc__law_draw.nd rfl (.inl rfl) (pe_bm0 PySem.F.plainAttrs_list PySem.F.slot_list_pop PySem.F.type_list_pop mt_pop (pe_ix ix_list (pv 0) pe_int (fun _ _ => rfl))))
      (pss_one (ps_if (pt_cmpR op_ge (pv 2) (pe_op op_pow pe_int pe_int) (nomark _))
        (pss_cons (ps_expr (pe_bm PySem.F.plainAttrs_list PySem.F.slot_list_append PySem.F.type_list_append mt_append (pe_ix ix_list (pv 0) pe_int (fun _ _ => rfl)) (pa_cons (pe_op op_fdivW (pv 2) (pv 1)) pa_nil)))
        (pss_one (ps_ret (pe_op op_mod (pv 2) (pv 1))))) pss_nil))) pss_nil) d2)), ?_⟩
  -- deck[2] = deck[2] + 1; cell = deck[1]
  refine ⟨_, rfl, a, _, 2, .int t, rfl, rfl, .of ha, atI_nat (j := 2) rfl, _, _, rfl, rfl, _, rfl, a, _, 2, 2, rfl, rfl, ha, rfl, ?_⟩
  refine ⟨_, rfl, a, _, 1, .int sm, rfl, rfl, .of upd_same, atI_nat (j := 1) rfl, ?_⟩
  -- if deck[0] != []
  have hl1 : ∀ o, upd H a o l = some (.lst (ns.map V.int)) := fun o => by rw [upd_ne nal.symm]; exact hl
  refine ⟨_, rfl, a, _, 0, .ref l, rfl, rfl, .of upd_same, atI_nat (j := 0) rfl, Nat.zero_le _, fun p np => ?_⟩
  have npa : a ≠ p := ne_of_none upd_same np
  have npl : l ≠ p := ne_of_none (hl1 _) np
  have ha2 : upd (upd H a (.lst [.ref l, .int sm, .int (t + 1)])) p (.lst []) a = some (.lst [.ref l, .int sm, .int (t + 1)]) := by rw [upd_ne npa, upd_same]
  have hl2 : upd (upd H a (.lst [.ref l, .int sm, .int (t + 1)])) p (.lst []) l = some (.lst (ns.map V.int)) := by rw [upd_ne npl]; exact hl1 _
  have kp2 : ∀ b o, H b = some o → b ≠ a → upd (upd H a (.lst [.ref l, .int sm, .int (t + 1)])) p (.lst []) b = some o := fun b o e nb => by
    have e' : upd H a (.lst [.ref l, .int sm, .int (t + 1)]) b = some o := by rw [upd_ne nb]; exact e
    rw [upd_ne (ne_of_none e' np)]; exact e'
  refine ⟨.list (ns.map .int), .list [], .lst (.of hl2) (dp_ints ns), .lst (.of upd_same) .nil, shaped_ints ns, shaped_ints [], _, rfl, ?_⟩
  rw [eqv_nil]
  refine ite2 (fun hc => ?_) (fun hc => ?_)
  · -- a cell is there
    have hne : ns ≠ [] := by
      rintro rfl
      simp at hc
    obtain ⟨pre, c, rfl⟩ : ∃ pre c, ns = pre ++ [c] := ⟨_, _, (List.dropLast_concat_getLast hne).symm⟩
    have hlen : ((pre ++ [c]).map V.int).length - 1 = pre.length := by simp
    refine ⟨_, rfl, a, _, 0, .ref l, rfl, rfl, .of ha2, atI_nat (j := 0) rfl, .inl ⟨rfl, _, .of hl2⟩, l, _, .int c, rfl, rfl, hl2, ?_, ?_⟩
    · rw [hlen]; simp
    have hd : ((pre ++ [c]).map V.int).dropLast = pre.map V.int := by simp
    rw [hd]
    have ha3 : upd (upd (upd H a (.lst [.ref l, .int sm, .int (t + 1)])) p (.lst [])) l (.lst (pre.map V.int)) a = some (.lst [.ref l, .int sm, .int (t + 1)]) := by rw [upd_ne nal]; exact ha2
    have hpre : pre.length ≤ 62 := by
      have := h63
      simp at this
      omega
    refine ⟨_, rfl, _, _, rfl, rfl, ⟨by decide, by decide, by decide⟩, _, _, rfl, rfl, _, rfl, ?_⟩
    refine ite2 (fun hb => ?_) (fun hb => ?_)
    · -- the rest of it is put back
      refine ⟨_, rfl, a, _, 0, .ref l, rfl, rfl, .of ha3, atI_nat (j := 0) rfl, .inl ⟨rfl, _, .of upd_same⟩, _, rfl, _, rfl, _, _, rfl, rfl, ⟨m0, m1⟩, l, _, _, rfl, rfl, upd_same, ?_, ?_⟩
      · rw [List.length_map]; exact small1000 (by omega)
      · refine ⟨_, rfl, _, rfl, _, _, rfl, rfl, m0, ?_⟩
        refine done _ (pre ++ [c / m]) sm (t + 1) _ (Int.emod_nonneg _ (by omega)) (Int.emod_lt_of_pos _ m0) (by simp; omega) ?_ ?_ fun b o e na nl => ?_
        · rw [upd_ne nal, upd_ne nal]; exact ha2
        · rw [upd_same]; simp
        · rw [upd_ne nl, upd_ne nl]; exact kp2 b o e na
    · exact r2 c pre (t + 1) _ (by omega) ha3 upd_same fun b o e na nl => by rw [upd_ne nl]; exact kp2 b o e na
  · exact r2 sm ns (t + 1) _ h63 ha2 hl2 fun b o e na _ => kp2 b o e na
end
end KB
namespace KB
open PySem L2 Dk
def letter (c : Nat) : Prop := 97 ≤ c ∧ c ≤ 122
def sgAt (w : List Nat) (at' k : Nat) : Nat := 97 + ((w.getD at' 97 - 97) + k) % 26
def nm (way : Int) (w : List Nat) (at' sz k : Nat) : List Nat :=
  if way = 1 then sgAt w at' k :: w.take (k % 8) else w.take at' ++ (sgAt w at' k :: (w.drop (at' + 1)).take (sz - (at' + 1)))
theorem sgAt_letter {w : List Nat} {a k : Nat} : letter (sgAt w a k) := by
  unfold letter sgAt
  have := Nat.mod_lt ((w.getD a 97 - 97) + k) (show 26 > 0 by decide)
  omega
theorem sgAt_inj {w : List Nat} {a i j : Nat} (hi : i < 26) (hj : j < 26) (h : sgAt w a i = sgAt w a j) : i = j := by
  unfold sgAt at h
  omega
theorem nm_letters {way : Int} {w : List Nat} {a sz k : Nat} (hw : ∀ c ∈ w, letter c) : ∀ c ∈ nm way w a sz k, letter c := by
  intro c hc
  unfold nm at hc
  split at hc
  · rcases List.mem_cons.mp hc with rfl | h
    · exact sgAt_letter
    · exact hw c (List.mem_of_mem_take h)
  · rcases List.mem_append.mp hc with h | h
    · exact hw c (List.mem_of_mem_take h)
    · rcases List.mem_cons.mp h with rfl | h
      · exact sgAt_letter
      · exact hw c (List.mem_of_mem_drop (List.mem_of_mem_take h))
theorem nm_len {way : Int} {w : List Nat} {a sz k : Nat} (h8 : w.length = 8) (ha : a < 8) (h1 : a + 1 ≤ sz) (h2 : sz ≤ 8) : 1 ≤ (nm way w a sz k).length ∧ (nm way w a sz k).length ≤ 8 := by
  unfold nm
  split
  · simp only [List.length_cons, List.length_take, h8]
    have := Nat.mod_lt k (show 8 > 0 by decide)
    omega
  · simp only [List.length_append, List.length_cons, List.length_take, List.length_drop, h8]
    omega
theorem nm_inj {way : Int} {w : List Nat} {a sz i j : Nat} (h8 : w.length = 8) (ha : a < 8) (hi : i < 26) (hj : j < 26) (h : nm way w a sz i = nm way w a sz j) : i = j := by
  unfold nm at h
  split at h
  · exact sgAt_inj hi hj (List.cons.inj h).1
  · have := List.append_cancel_left h
    exact sgAt_inj hi hj (List.cons.inj this).1
theorem nodup_map_of {α β : Type} {f : α → β} {l : List α} (h : l.Nodup) (hf : ∀ a ∈ l, ∀ b ∈ l, f a = f b → a = b) : (l.map f).Nodup := by
  induction l with
  | nil => simp
  | cons a l ih =>
    rw [List.nodup_cons] at h
    rw [List.map_cons, List.nodup_cons]
    refine ⟨fun hm => ?_, ih h.2 fun x hx y hy => hf x (List.mem_cons_of_mem _ hx) y (List.mem_cons_of_mem _ hy)⟩
    obtain ⟨b, hb, e⟩ := List.mem_map.mp hm
    have := hf a (by simp) b (List.mem_cons_of_mem _ hb) e.symm
    exact h.1 (this ▸ hb)
def found26 (way : Int) (w : List Nat) (a sz : Nat) : List Str := (List.range 26).map fun k => txt (nm way w a sz k)
def prefixes (w : List Nat) : List Str := (List.range 8).map fun k => txt (w.take (k + 1))
structure Fresh (l : List Str) : Prop where
  nd : l.Nodup
  ok : ∀ x ∈ l, 1 ≤ x.length ∧ x.length ≤ 8 ∧ ∀ c ∈ x.cps.toList, letter c
theorem fresh26 {way : Int} {w : List Nat} {a sz : Nat} (h8 : w.length = 8) (hw : ∀ c ∈ w, letter c) (ha : a < 8) (h1 : a + 1 ≤ sz) (h2 : sz ≤ 8) : Fresh (found26 way w a sz) where
  nd := nodup_map_of List.nodup_range fun i hi j hj e => nm_inj h8 ha (List.mem_range.mp hi) (List.mem_range.mp hj) (txt_inj e)
  ok := fun x hx => by
    obtain ⟨k, _, rfl⟩ := List.mem_map.mp hx
    rw [txt_len, txt_list]
    exact ⟨(nm_len h8 ha h1 h2).1, (nm_len h8 ha h1 h2).2, nm_letters hw⟩
theorem freshP {w : List Nat} (h8 : w.length = 8) (hw : ∀ c ∈ w, letter c) : Fresh (prefixes w) where
  nd := nodup_map_of List.nodup_range fun i hi j hj e => by
    have := congrArg List.length (txt_inj e)
    have h1 := List.mem_range.mp hi
    have h2 := List.mem_range.mp hj
    simp only [List.length_take, h8] at this
    omega
  ok := fun x hx => by
    obtain ⟨k, hk, rfl⟩ := List.mem_map.mp hx
    have := List.mem_range.mp hk
    rw [txt_len, txt_list, List.length_take, h8]
    exact ⟨by omega, by omega, fun c hc => hw c (List.mem_of_mem_take hc)⟩
theorem fresh_names {l : List Str} (h : Fresh l) {m : Nat} (hm : m + 1 ≤ l.length) : ((l.filter fun x => !decide (x = numS)).take m).length = m ∧ ((l.filter fun x => !decide (x = numS)).take m).Nodup ∧ ∀ x ∈ (l.filter fun x => !decide (x = numS)).take m, nameOk x = true := by
  have e : (l.filter fun x => !decide (x = numS)) = l.erase numS := by
    rw [h.nd.erase_eq_filter]
    refine List.filter_congr fun x _ => ?_
    by_cases hx : x = numS <;> simp [hx]
  refine ⟨?_, ?_, fun x hx => ?_⟩
  · rw [List.length_take, e, List.length_erase]
    split <;> omega
  · exact (h.nd.filter _).sublist (List.take_sublist _ _)
  · have hf := List.mem_of_mem_take hx
    obtain ⟨h1, h2⟩ := List.mem_filter.mp hf
    obtain ⟨a, b, c⟩ := h.ok x h1
    unfold nameOk
    simp only [a, b, decide_true, Bool.true_and, Bool.and_eq_true]
    refine ⟨h2, ?_⟩
    rw [List.all_eq_true]
    intro z hz
    have := c z hz
    unfold letter at this
    unfold signOk
    simp [this.1, this.2]
end KB
namespace KB
open PySem L2 Dk
open PyProof.Rows (envOfC)
abbrev s__law_pick : Stmt := top 36
theorem sc__law_pick : FnScope ["_law_deck_here", "_law_some"] ["_law_deck_here", "_law_some"] (defScope s__law_pick) := ⟨rfl, rfl, rfl, by decide +kernel, rfl, by decide +kernel, by decide +kernel⟩
theorem bd__law_pick (kV doc pm : Value) (an : Option Addr) (cdv ct : Value) (us : List Value) (hl : us.length = 2) : bindArgs (PySem.W.fnOf "_law_pick" "_law_pick" (defArgs s__law_pick) (defBody s__law_pick) (defScope s__law_pick) .none kV doc pm an cdv ct) ⟨us, []⟩ = pure ((["_law_deck_here", "_law_some"] : List Str).zip us) := by
  match us, hl with
  | [v0, v1], _ => rfl
abbrev s__law_names : Stmt := top 37
theorem sc__law_names : FnScope ["_law_deck_here", "_law_many", "_law_letters_here", "_law_way", "_law_word", "_law_k", "_law_at", "_law_size", "_law_found", "_law_sign", "_law_name"] ["_law_deck_here", "_law_many"] (defScope s__law_names) := ⟨rfl, rfl, rfl, by decide +kernel, rfl, by decide +kernel, by decide +kernel⟩
theorem bd__law_names (kV doc pm : Value) (an : Option Addr) (cdv ct : Value) (us : List Value) (hl : us.length = 2) : bindArgs (PySem.W.fnOf "_law_names" "_law_names" (defArgs s__law_names) (defBody s__law_names) (defScope s__law_names) .none kV doc pm an cdv ct) ⟨us, []⟩ = pure ((["_law_deck_here", "_law_many"] : List Str).zip us) := by
  match us, hl with
  | [v0, v1], _ => rfl
def spPick (a : Addr) : DSp where
  n := 2
  f := fun ds Q _ => ∃ xs : List D, ds = [.opq a, .lst xs] ∧ xs ≠ [] ∧ xs.length ≤ 1000000 ∧ ∀ x ∈ xs, Q x
  len := fun ds Q E ⟨m, e, _⟩ => by rw [e]; rfl
  mono := fun ds Q Q' E E' k _ ⟨m, e, h, h2, q⟩ => ⟨m, e, h, h2, fun x hx => k _ (q x hx)⟩
def spNames (a : Addr) : DSpO where
  n := 2
  f := fun ds Q => ∃ m : Nat, ds = [.opq a, .int m] ∧ 1 ≤ m ∧ m ≤ 25 ∧ ∀ xs : List Str, xs.length = m → xs.Nodup → (∀ x ∈ xs, nameOk x = true) → Q (xs.map D.str)
  len := fun ds Q ⟨m, e, _⟩ => by rw [e]; rfl
  mono := fun ds Q Q' k ⟨m, e, h, h2, q⟩ => ⟨m, e, h, h2, fun xs h1 h2 h3 => k _ (q xs h1 h2 h3)⟩
theorem ix_abc {i : Int} {Q : D → Prop} (h0 : 0 ≤ i) (h1 : i < 26) (q : Q (.str (txt [97 + i.toNat]))) : ixD (.str "abcdefghijklmnopqrstuvwxyz") (.int i) Q := by
  refine ⟨by decide, 97 + i.toNat, ?_, q⟩
  obtain ⟨n, rfl⟩ := Int.eq_ofNat_of_zero_le h0
  have h : n < 26 := by omega
  have all : ∀ n, n < 26 → atI ("abcdefghijklmnopqrstuvwxyz" : Str).cps.toList ((n : Nat) : Int) = some (97 + n) := by decide +kernel
  simpa using all n h
theorem idx_abc {c : Nat} {Q : D → Prop} (h : letter c) (q : Q (.int ((c - 97 : Nat) : Int))) : sidxD "abcdefghijklmnopqrstuvwxyz" (.str ⟨#[c]⟩) Q := by
  refine ⟨_, c - 97, rfl, ?_, q⟩
  have all : ∀ n, n < 26 → Txt.index0 "abcdefghijklmnopqrstuvwxyz" ⟨#[97 + n]⟩ = some n := by decide +kernel
  have h1 := all (c - 97) (by have := h.2; omega)
  have e : 97 + (c - 97) = c := by have := h.1; omega
  rwa [e] at h1
theorem rng_drop {lo : Int} {n i : Nat} {d : D} {ds : List D} (h : d :: ds = (rngD lo n).drop i) : i < n ∧ d = .int (lo + (i : Nat)) ∧ ds = (rngD lo n).drop (i + 1) := by
  have hi : i < (rngD lo n).length := by
    by_cases hc : i < (rngD lo n).length
    · exact hc
    · rw [List.drop_of_length_le (by omega)] at h; cases h
  rw [List.drop_eq_getElem_cons hi] at h
  obtain ⟨e1, e2⟩ := List.cons.inj h
  rw [rngD_length] at hi
  refine ⟨hi, ?_, e2⟩
  rw [e1]
  simp [rngD]
section
variable {P : Program} {w : World} {K : PySem.W.Frag} {C a l : Addr} {mg : Str → Option Value} {base : Heap} {k : Nat} {f : Addr} {fd : FuncData}
theorem ok_pick (T : TxtB K C mg) (Fn : Fun K "_law_pick" "_law_pick" s__law_pick f fd) (C__law_draw : Cal P w K mg base CX0 (DeckW a l) k "_law_draw" ["_law_deck_here", "_law_most"] (spDraw a)) : GnOk P w K mg base CX0 (k + 1) f fd ["_law_deck_here", "_law_some"] (spD (DeckW a l) K (spPick a)) := by
  refine Fn.okD sc__law_pick rfl fun cdv A outer s H I ds Q Ed E hr h => ?_
  have hu := hr.units
  obtain ⟨xs, rfl, hne, hl, q⟩ := h
  refine ⟨_, (dss_one (ds_ret (de_at hu (de_name 1) (de_fn C__law_draw (hr.mono (by omega)) pass0 lets0 (da_cons (de_name 0) (da_cons (de_len T.b_len (da_cons (de_name 1) da_nil)) da_nil)))))), ?_⟩
  simp only [getD_0, getD_s, set_0, set_s, boolD_bl, intD_int, startD, List.map, List.length_cons, List.length_nil, List.replicate, List.cons_append, List.nil_append, defEnds, wipeD, if_true, if_false, Bool.not_true, Bool.not_false, Bool.false_eq_true]
  have lp : 0 < xs.length := List.length_pos_iff.mpr hne
  have hlog : (xs.length : Int).natAbs.log2 < 9000 := by
    rw [Int.natAbs_natCast]
    have : xs.length.log2 ≤ xs.length.log2 := Nat.le_refl _
    exact Nat.lt_of_lt_of_le ((Nat.log2_lt (by omega)).mpr (show xs.length < 2 ^ 20 by omega)) (by decide)
  refine ⟨(xs.length : Int), rfl, by omega, hlog, fun v h0 h1 => ?_⟩
  obtain ⟨n, rfl⟩ := Int.eq_ofNat_of_zero_le h0
  have hn : n < xs.length := by omega
  exact ⟨_, atI_nat (List.getElem?_eq_getElem hn), q _ (List.getElem_mem hn)⟩
theorem ok_names (T : TxtB K C mg) (Fn : Fun K "_law_names" "_law_names" s__law_names f fd) (C__law_draw : Cal P w K mg base CX0 (DeckW a l) k "_law_draw" ["_law_deck_here", "_law_most"] (spDraw a)) : GnOk P w K mg base CX0 (k + 1) f fd ["_law_deck_here", "_law_many"] (spO (DeckW a l) K (spNames a)) := by
  refine Fn.okO sc__law_names rfl fun cdv A outer s H I ds Q E hr h => ?_
  have hu := hr.units
  obtain ⟨m, rfl, hm1, hm2, q⟩ := h
  refine ⟨_, (dss_cons (ds_set 2 de_str sc__law_names.nd)
  (dss_cons (ds_set 3 (de_fn C__law_draw (hr.mono (by omega)) pass0 lets0 (da_cons (de_name 0) (da_cons de_int da_nil))) sc__law_names.nd)
  (dss_cons (ds_set 4 (de_join de_str (de_lc (own := [("_law_k", 5)]) rfl sc__law_names.nd (di_range1 T.b_range (da_cons de_int da_nil)) (blkOk_by (own := [("_law_k", 5)]) (N := ["_law_deck_here", "_law_many", "_law_letters_here", "_law_way", "_law_word", "_law_k", "_law_at", "_law_size", "_law_found", "_law_sign", "_law_name"]) (sc := defScope s__law_names) (by decide +kernel)) (fun _ _ _ _ _ => (dg_name 5 sc__law_names.nd)) (fun _ _ _ _ _ => dif_nil) (fun _ _ _ _ _ => (de_at hu (de_name 2) (de_fn C__law_draw (hr.mono (by omega)) pass0 lets0 (da_cons (de_name 0) (da_cons de_int da_nil))))))) sc__law_names.nd)
  (dss_cons (ds_set 6 (de_fn C__law_draw (hr.mono (by omega)) pass0 lets0 (da_cons (de_name 0) (da_cons de_int da_nil))) sc__law_names.nd)
  (dss_cons (ds_set 7 (de_add (de_add (de_name 6) de_int) (de_fn C__law_draw (hr.mono (by omega)) pass0 lets0 (da_cons (de_name 0) (da_cons (de_sub de_int (de_name 6)) da_nil)))) sc__law_names.nd)
  (dss_cons (ds_own 8 da_nil sc__law_names.nd)
  (dss_cons (ds_for PassesOwn.never rfl (di_range1 T.b_range (da_cons de_int da_nil)) (dg_name 5 sc__law_names.nd)
  (dss_cons (ds_set 9 (de_at hu (de_name 2) (de_mod (de_add (de_sindex rfl takes0 (de_name 2) (de_at hu (de_name 4) (de_name 6))) (de_name 5)) de_int)) sc__law_names.nd)
  (dss_cons (ds_set 10 (de_add (de_add (de_slice (de_name 4) do_none (do_some (de_name 6))) (de_name 9)) (de_slice (de_name 4) (do_some (de_add (de_name 6) de_int)) (do_some (de_name 7)))) sc__law_names.nd)
  (dss_cons (ds_if (dt_c (.eq hu) (de_name 3) de_int)
  (dss_one (ds_set 10 (de_add (de_name 9) (de_slice (de_name 4) do_none (do_some (de_mod (de_name 5) de_int)))) sc__law_names.nd))
  dss_nil)
  (dss_one (ds_append 8 (de_name 10)))))))
  (dss_freeze 8
  (dss_cons (ds_if (dt_wh (dw_and (dt_c (.eq hu) (de_name 3) de_int) (dw_and1 (dt_c .lt (de_name 1) de_int))))
  (dss_one (by first | exact (ds_setLc (i := 8) (own := [("_law_k", 5)]) rfl sc__law_names.nd rfl rfl (sw_true rfl rfl rfl (by decide +kernel)) (di_range1 T.b_range (da_cons de_int da_nil)) (blkOk_by (own := [("_law_k", 5)]) (N := ["_law_deck_here", "_law_many", "_law_letters_here", "_law_way", "_law_word", "_law_k", "_law_at", "_law_size", "_law_found", "_law_sign", "_law_name"]) (sc := defScope s__law_names) (by decide +kernel)) (fun _ _ _ _ _ => (dg_name 5 sc__law_names.nd)) (fun _ _ _ _ _ => dif_nil) (fun _ _ _ _ _ => (de_slice (de_name 4) do_none (do_some (de_add (de_name 5) de_int))))) | exact (ds_set 8 (de_lc (own := [("_law_k", 5)]) rfl sc__law_names.nd (di_range1 T.b_range (da_cons de_int da_nil)) (blkOk_by (own := [("_law_k", 5)]) (N := ["_law_deck_here", "_law_many", "_law_letters_here", "_law_way", "_law_word", "_law_k", "_law_at", "_law_size", "_law_found", "_law_sign", "_law_name"]) (sc := defScope s__law_names) (by decide +kernel)) (fun _ _ _ _ _ => (dg_name 5 sc__law_names.nd)) (fun _ _ _ _ _ => dif_nil) (fun _ _ _ _ _ => (de_slice (de_name 4) do_none (do_some (de_add (de_name 5) de_int))))) sc__law_names.nd)))
  dss_nil)
  (dss_one (ds_retO (deo_slice (de_lc (own := [("_law_name", 10)]) rfl sc__law_names.nd (di_seq (de_name 8)) (blkOk_by (own := [("_law_name", 10)]) (N := ["_law_deck_here", "_law_many", "_law_letters_here", "_law_way", "_law_word", "_law_k", "_law_at", "_law_size", "_law_found", "_law_sign", "_law_name"]) (sc := defScope s__law_names) (by decide +kernel)) (fun _ _ _ _ _ => (dg_name 10 sc__law_names.nd)) (fun _ _ _ _ _ => (dif_one (dt_c (.ne hu) (de_name 10) de_str))) (fun _ _ _ _ _ => (de_name 10))) do_none (do_some (de_name 1)))))))))))))), ?_⟩
  simp only [getD_0, getD_s, set_0, set_s, boolD_bl, intD_int, startD, List.map, List.length_cons, List.length_nil, List.replicate, List.cons_append, List.nil_append, defEnds, wipeD, if_true, if_false, Bool.not_true, Bool.not_false, Bool.false_eq_true]
  refine ⟨3, rfl, by decide, by decide, fun way _ _ => ?_⟩
  simp only [getD_0, getD_s, set_0, set_s, boolD_bl, intD_int, startD, List.map, List.length_cons, List.length_nil, List.replicate, List.cons_append, List.nil_append, defEnds, wipeD, if_true, if_false, Bool.not_true, Bool.not_false, Bool.false_eq_true]
  refine ⟨_, rfl, 8, rfl, by decide, by decide, by decide, lcD_any (fun c => D.str (txt [c])) letter (fun d hd R S hR => ?_) fun w0 hw0 hl0 => ?_⟩
  · simp only [getD_0, getD_s, set_0, set_s, boolD_bl, intD_int, startD, List.map, List.length_cons, List.length_nil, List.replicate, List.cons_append, List.nil_append, defEnds, wipeD, if_true, if_false, Bool.not_true, Bool.not_false, Bool.false_eq_true]
    refine ⟨26, rfl, by decide, by decide, fun v h0 h1 => ix_abc h0 h1 (hR _ ?_)⟩
    unfold letter
    omega
  have h8 : w0.length = 8 := by rw [hw0]; rfl
  refine ⟨w0.map fun c => txt [c], .inl (by rw [List.map_map]; rfl), ?_, ?_⟩
  · have e0 : ("" : Str).length = 0 := rfl
    rw [e0, Nat.mul_zero, Nat.add_zero, List.map_map]
    have : (w0.map ((fun x : Str => x.length) ∘ fun c => txt [c])) = w0.map fun _ => 1 := rfl
    rw [this, List.map_const', List.sum_replicate_nat, h8]
    decide
  rw [join_txt]
  refine ⟨8, rfl, by decide, by decide, fun at' a0 a1 => ?_⟩
  obtain ⟨at', rfl⟩ := Int.eq_ofNat_of_zero_le a0
  have ha : at' < 8 := by omega
  refine ⟨8 - (at' : Int), rfl, by omega, ?_, fun mo m0 m1 => ?_⟩
  · have : (8 - (at' : Int)).natAbs < 2 ^ 10 := by omega
    by_cases z : (8 - (at' : Int)).natAbs = 0
    · rw [z]; decide
    · exact Nat.lt_of_lt_of_le ((Nat.log2_lt z).mpr this) (by decide)
  obtain ⟨mo, rfl⟩ := Int.eq_ofNat_of_zero_le m0
  have esz : ((at' : Int) + 1 + (mo : Int)) = ((at' + 1 + mo : Nat) : Int) := by omega
  have hsz : at' + 1 + mo ≤ 8 := by omega
  refine ⟨Nat.zero_le _, 26, rfl, by decide, by decide, ?_⟩
  simp only [addD]
  generalize hS : at' + 1 + mo = sz at *
  rw [esz]
  refine forD_ind (fun (l : List D) ρ => ∃ (i : Nat) (x s n : Option Ent), i ≤ 26 ∧ l = (rngD 0 26).drop i ∧ ρ = [some (.dat (.opq a)), some (.dat (.int m)), some (.dat (.str "abcdefghijklmnopqrstuvwxyz")), some (.dat (.int way)), some (.dat (.str (txt w0))), x, some (.dat (.int at')), some (.dat (.int sz)), some (.own (((List.range i).map fun k => txt (nm way w0 at' sz k)).map D.str)), s, n]) (fun ρ ⟨i, x, s, n, hi, el, e⟩ => ?_) (fun d l ρ R ⟨i, x, s, n, hi, el, e⟩ hR => ?_) _ _ ⟨0, none, none, none, by decide, rfl, rfl⟩
  rotate_left
  · obtain ⟨hi', rfl, el'⟩ := rng_drop el
    subst e
    simp only [getD_0, getD_s, set_0, set_s, boolD_bl, intD_int, startD, List.map, List.length_cons, List.length_nil, List.replicate, List.cons_append, List.nil_append, defEnds, wipeD, if_true, if_false, Bool.not_true, Bool.not_false, Bool.false_eq_true]
    have la : (txt w0).length ≤ sizeLine := by rw [txt_len, h8]; decide
    have hget : w0[at']? = some (w0.getD at' 97) := by
      rw [List.getD_eq_getElem?_getD, List.getElem?_eq_getElem (by omega)]
      rfl
    have hat : atI (txt w0).cps.toList (at' : Int) = some (w0.getD at' 97) := by
      rw [txt_list]; exact atI_nat hget
    have hlet : letter (w0.getD at' 97) := hl0 _ (List.mem_of_getElem? hget)
    have hsg : (97 + (((((w0.getD at' 97 - 97 : Nat) : Int) + (0 + (i : Int))) % 26).toNat)) = sgAt w0 at' i := by
      unfold sgAt
      omega
    have fin : ∀ (nl : List Nat) (sg : Option Ent), nl = nm way w0 at' sz i → R [some (.dat (.opq a)), some (.dat (.int m)), some (.dat (.str "abcdefghijklmnopqrstuvwxyz")), some (.dat (.int way)), some (.dat (.str (txt w0))), some (.dat (.int (0 + (i : Int)))), some (.dat (.int at')), some (.dat (.int sz)), some (.own ((((List.range i).map fun k => txt (nm way w0 at' sz k)).map D.str) ++ [.str (txt nl)])), sg, some (.dat (.str (txt nl)))] := fun nl sg e => by
      subst e
      refine hR _ ⟨i + 1, some (.dat (.int (0 + (i : Int)))), sg, some (.dat (.str (txt (nm way w0 at' sz i)))), hi', el', ?_⟩
      rw [List.range_succ, List.map_append, List.map_append]
      rfl
    have own_len : (((List.range i).map fun k => txt (nm way w0 at' sz k)).map D.str).length < sizeLine := by
      rw [List.length_map, List.length_map, List.length_range]
      exact Nat.lt_of_lt_of_le (show i < 26 by omega) (by decide)
    refine ⟨_, rfl, la, _, hat, idx_abc hlet ?_⟩
    refine ⟨by decide, ix_abc (Int.emod_nonneg _ (by decide)) (Int.emod_lt_of_pos _ (by decide)) ?_⟩
    rw [hsg]
    refine ⟨la, ?_⟩
    rw [cut_txt_to]
    refine ⟨?_, la, ?_⟩
    · rw [txt_len, txt_len, List.length_take, h8]
      exact Nat.le_trans (show _ ≤ 100 by simp; omega) (by decide)
    rw [txt_app]
    have e1 : ((at' : Int) + 1) = ((at' + 1 : Nat) : Int) := by omega
    rw [e1, cut_txt]
    refine ⟨?_, ?_⟩
    · rw [txt_len, txt_len]
      simp only [List.length_append, List.length_take, List.length_drop, List.length_cons, List.length_nil, h8]
      exact Nat.le_trans (show _ ≤ 100 by omega) (by decide)
    rw [txt_app]
    show eqD (.int way) (.int 1) _
    rw [eqD_int]
    simp only [boolD_bl]
    by_cases hw1 : way = 1
    · rw [if_pos (by rw [decide_eq_true_eq]; exact hw1)]
      refine ⟨by decide, ?_⟩
      simp only [intD_int]
      have e2 : ((0 + (i : Int)) % 8) = ((i % 8 : Nat) : Int) := by omega
      rw [e2]
      refine ⟨la, ?_⟩
      rw [cut_txt_to]
      refine ⟨?_, _, rfl, own_len, ?_⟩
      · rw [txt_len, txt_len]
        simp only [List.length_take, List.length_cons, List.length_nil, h8]
        exact Nat.le_trans (show _ ≤ 100 by omega) (by decide)
      rw [txt_app]
      refine fin _ _ ?_
      unfold nm
      rw [if_pos hw1]
      rfl
    · rw [if_neg (by rw [decide_eq_true_eq]; exact hw1)]
      refine ⟨_, rfl, own_len, fin _ _ ?_⟩
      unfold nm
      rw [if_neg hw1]
      simp
  have hi26 : i = 26 := by
    by_cases z : i = 26
    · exact z
    · exfalso
      have := congrArg List.length el
      rw [List.length_drop, rngD_length] at this
      simp at this
      omega
  subst hi26 e
  refine ⟨_, rfl, trivial, ?_⟩
  simp only [getD_0, getD_s, set_0, set_s, boolD_bl, intD_int, startD, List.map, List.length_cons, List.length_nil, List.replicate, List.cons_append, List.nil_append, defEnds, wipeD, if_true, if_false, Bool.not_true, Bool.not_false, Bool.false_eq_true]
  simp only [eqD_int, boolD_bl]
  have fin : ∀ (L : List Str), Fresh L → m + 1 ≤ L.length → Q (cutD ((L.filter fun x => !decide (x = numS)).map D.str) none (some (m : Int))) := fun L hL hm => by
    obtain ⟨n1, n2, n3⟩ := fresh_names hL hm
    have e : cutD ((L.filter fun x => !decide (x = numS)).map D.str) none (some (m : Int)) = ((L.filter fun x => !decide (x = numS)).take m).map D.str := by
      unfold cutD
      rw [HT.sIx_none, HT.sIx_nat, List.drop_zero, Nat.sub_zero, List.map_take]
      by_cases z : m ≤ ((L.filter fun x => !decide (x = numS)).map D.str).length
      · rw [Nat.min_eq_left z]
      · rw [Nat.min_eq_right (by omega), List.take_of_length_le (Nat.le_refl _), List.take_of_length_le (by omega)]
    rw [e]
    exact q _ n1 n2 n3
  have f26 : Fresh (found26 way w0 at' sz) := fresh26 h8 hl0 ha (by omega) hsz
  by_cases hw2 : way = 2
  · rw [if_pos (by rw [decide_eq_true_eq]; exact hw2)]
    simp only [ltD, boolD_bl]
    by_cases hm4 : m < 4
    · rw [if_pos (by rw [decide_eq_true_eq]; omega)]
      refine ⟨8, rfl, by decide, by decide, by decide, ?_⟩
      rw [show rngD 0 (Int.toNat 8) = (List.range 8).map (fun i => D.int (0 + (i : Nat))) from rfl]
      refine lcD_all (fun i : Nat => D.int (0 + (i : Nat))) (fun i => .str (txt (w0.take (i + 1)))) (fun i hi R S hR => ?_) ?_
      · simp only [getD_0, getD_s, set_0, set_s, boolD_bl, intD_int, startD, List.map, List.length_cons, List.length_nil, List.replicate, List.cons_append, List.nil_append, defEnds, if_true]
        have e2 : ((0 + (i : Int)) + 1) = ((i + 1 : Nat) : Int) := by omega
        show sliceD (.str (txt w0)) none (some ((0 + (i : Int)) + 1)) R
        rw [e2]
        refine ⟨by rw [txt_len, h8]; decide, ?_⟩
        rw [cut_txt_to]
        exact hR
      · have ep : ((List.range 8).map fun i => D.str (txt (w0.take (i + 1)))) = (prefixes w0).map D.str := by unfold prefixes; rw [List.map_map]; rfl
        rw [ep]
        simp only [itemsD]
        refine ⟨by rw [List.length_map]; exact (by decide : 8 ≤ sizeLine), lcD_map D.str D.str (fun x => !decide (x = numS)) (fun x hx R S h1 h2 => ?_) ⟨_, rfl, fin _ (freshP h8 hl0) (by show m + 1 ≤ 8; omega)⟩⟩
        simp only [getD_0, getD_s, set_0, set_s, boolD_bl, intD_int, startD, List.map, List.length_cons, List.length_nil, List.replicate, List.cons_append, List.nil_append, defEnds]
        rw [neD_str]
        simp only [boolD_bl]
        cases e : !decide (x = numS)
        · have e' : (!decide (x = ("num" : Str))) = false := e
          rw [e']
          exact h2 e
        · have e' : (!decide (x = ("num" : Str))) = true := e
          rw [e']
          exact h1 e
    · rw [if_neg (by rw [decide_eq_true_eq]; omega)]
      have ep : (((List.range 26).map fun k => txt (nm way w0 at' sz k)).map D.str) = (found26 way w0 at' sz).map D.str := rfl
      rw [ep]
      simp only [itemsD, Ent.toD]
      refine ⟨by rw [List.length_map]; exact (by decide : 26 ≤ sizeLine), lcD_map D.str D.str (fun x => !decide (x = numS)) (fun x hx R S h1 h2 => ?_) ⟨_, rfl, fin _ f26 (by show m + 1 ≤ 26; omega)⟩⟩
      simp only [getD_0, getD_s, set_0, set_s, boolD_bl, intD_int, startD, List.map, List.length_cons, List.length_nil, List.replicate, List.cons_append, List.nil_append, defEnds]
      rw [neD_str]
      simp only [boolD_bl]
      cases e : !decide (x = numS)
      · have e' : (!decide (x = ("num" : Str))) = false := e
        rw [e']
        exact h2 e
      · have e' : (!decide (x = ("num" : Str))) = true := e
        rw [e']
        exact h1 e
  · rw [if_neg (by rw [decide_eq_true_eq]; exact hw2)]
    have ep : (((List.range 26).map fun k => txt (nm way w0 at' sz k)).map D.str) = (found26 way w0 at' sz).map D.str := rfl
    rw [ep]
    simp only [itemsD, Ent.toD]
    refine ⟨by rw [List.length_map]; exact (by decide : 26 ≤ sizeLine), lcD_map D.str D.str (fun x => !decide (x = numS)) (fun x hx R S h1 h2 => ?_) ⟨_, rfl, fin _ f26 (by show m + 1 ≤ 26; omega)⟩⟩
    simp only [getD_0, getD_s, set_0, set_s, boolD_bl, intD_int, startD, List.map, List.length_cons, List.length_nil, List.replicate, List.cons_append, List.nil_append, defEnds]
    rw [neD_str]
    simp only [boolD_bl]
    cases e : !decide (x = numS)
    · have e' : (!decide (x = ("num" : Str))) = false := e
      rw [e']
      exact h2 e
    · have e' : (!decide (x = ("num" : Str))) = true := e
      rw [e']
      exact h1 e
end
end KB
namespace Dk
open PySem L2
section
variable {F : Fx} {X : Cx} {e : Expr} {te : DT} {T1 T2 : String} {p1 p2 : D → Bool} {x1 x2 : Str} {q1 a1 a2 pt pos : Pos} {kt : Nat}
theorem de_isi2 (hT1 : IsT T1 p1) (hT2 : IsT T2 p2) (hm : X.mg "isinstance" = none) (hx1 : X.mg x1 = none) (hx2 : X.mg x2 = none) (hv1 : bootBuiltins x1 = some (.type T1)) (hv2 : bootBuiltins x2 = some (.type T2)) (he : DE F X e te) (hg : Gl X "isinstance" := by rfl) (hg1 : Gl X x1 := by rfl) (hg2 : Gl X x2 := by rfl)
    (hn1 : x1 ≠ "__name__" := by decide) (hn2 : x2 ≠ "__name__" := by decide) (hd1 : (x1 == ("__debug__" : Str)) = false := by decide) (hd2 : (x2 == ("__debug__" : Str)) = false := by decide)
    (s1 : starEach [.Name x1 a1, .Name x2 a2] X.env = (false, eval (.Name x1 a1) X.env) :: starEach [.Name x2 a2] X.env := by rfl) (s2 : starEach [Expr.Name x2 a2] X.env = (false, eval (.Name x2 a2) X.env) :: starEach [] X.env := by rfl)
    (h1 : starEach [e, .Tuple [.Name x1 a1, .Name x2 a2] kt pt] X.env = (false, eval e X.env) :: starEach [.Tuple [.Name x1 a1, .Name x2 a2] kt pt] X.env := by rfl) (h2 : starEach [Expr.Tuple [.Name x1 a1, .Name x2 a2] kt pt] X.env = (false, eval (.Tuple [.Name x1 a1, .Name x2 a2] kt pt) X.env) :: starEach [] X.env := by rfl)
    (hpl : (backTo pos (starEach [Expr.Tuple [.Name x1 a1, .Name x2 a2] kt pt] X.env)).any (·.1) = false := by rfl) :
    DE F X (.Call (.Name "isinstance" q1) [e, .Tuple [.Name x1 a1, .Name x2 a2] kt pt] [] pos) (fun ρ Q => te ρ fun d => known d = true ∧ Q (.bl (p1 d || p2 d))) := by
  refine ⟨fun ρ Q Q' k q => he.mono _ _ _ (fun d q => ⟨q.1, k _ q.2⟩) q, (pe_callB call_isiT hg hm (by decide +kernel) (pa_cons he.run (pa_cons (pe_tup (pa_cons (pe_bltn (v := .ty T1) hg1 hx1 hv1 rfl hn1 hd1) (pa_cons (pe_bltn (v := .ty T2) hg2 hx2 hv2 rfl hn2 hd2) pa_nil s2) s1)) pa_nil h2) h1) (by decide) (by decide) h1 hpl).imp fun σ H Q ⟨I, ρ, A, q⟩ => ?_⟩
  refine rdE_next he.mono A q fun d v I' H' q' s rv => ?_
  obtain ⟨kn, q'⟩ := q'
  unfold known at kn
  obtain ⟨t, ht⟩ := Option.isSome_iff_exists.mp kn
  refine ⟨Nat.le_trans (show 2 ≤ 2 from Nat.le_refl _) (by decide), fun p hp => ?_⟩
  have ll := s.st.laid hp (.tup [.ty T1, .ty T2])
  have k1 := kit_ty (K := X.K) (hT1.k d t ht)
  have k2 := kit_ty (K := X.K) (hT2.k d t ht)
  refine ⟨v, p, _, .type t, [.type T1, .type T2], p1 d || p2 d, rfl, upd_same, .cons (.ty T1) (.cons (.ty T2) .nil), rv.ty (fun b o e => by
    have e2 := s.st.sub b o e
    rw [upd_ne (ne_of_none e2 hp)]
    exact e2) ht, kitAny_cons k1 (fun e => kitAny_cons k2 (fun e2 => by rw [e, e2]; rfl) fun e2 => by rw [e, e2]; rfl) fun e => by rw [e]; rfl, q' _ _ _ (s.trans ll) (.bl _)⟩
end
end Dk
namespace KB
open PySem L2 Dk
open PyProof.Rows (envOfC)
abbrev s__law_odd : Stmt := top 46
theorem sc__law_odd : FnScope ["_law_deck_here", "_law_thing", "_law_names_here", "_law_way", "_law_odd_here", "_law_some", "_law_at"] ["_law_deck_here", "_law_thing", "_law_names_here"] (defScope s__law_odd) := ⟨rfl, rfl, rfl, by decide +kernel, rfl, by decide +kernel, by decide +kernel⟩
theorem bd__law_odd (kV doc pm : Value) (an : Option Addr) (cdv ct : Value) (us : List Value) (hl : us.length = 3) : bindArgs (PySem.W.fnOf "_law_odd" "_law_odd" (defArgs s__law_odd) (defBody s__law_odd) (defScope s__law_odd) .none kV doc pm an cdv ct) ⟨us, []⟩ = pure ((["_law_deck_here", "_law_thing", "_law_names_here"] : List Str).zip us) := by
  match us, hl with
  | [v0, v1, v2], _ => rfl
abbrev s__law_spoilt : Stmt := top 47
theorem sc__law_spoilt : FnScope ["_law_deck_here", "_law_thing", "_law_names_here", "_law_whole", "_law_at"] ["_law_deck_here", "_law_thing", "_law_names_here"] (defScope s__law_spoilt) := ⟨rfl, rfl, rfl, by decide +kernel, rfl, by decide +kernel, by decide +kernel⟩
theorem bd__law_spoilt (kV doc pm : Value) (an : Option Addr) (cdv ct : Value) (us : List Value) (hl : us.length = 3) : bindArgs (PySem.W.fnOf "_law_spoilt" "_law_spoilt" (defArgs s__law_spoilt) (defBody s__law_spoilt) (defScope s__law_spoilt) .none kV doc pm an cdv ct) ⟨us, []⟩ = pure ((["_law_deck_here", "_law_thing", "_law_names_here"] : List Str).zip us) := by
  match us, hl with
  | [v0, v1, v2], _ => rfl
/-- names as the law draws them -/
structure NmsOk (ns : List Str) : Prop where
  ne : ns ≠ []
  few : ns.length ≤ 3000
  a : ∀ x ∈ ns, ascii x = true ∧ x.length ≤ 8
theorem log_sm {v : Int} (h : v.natAbs < 2 ^ 20) : v.natAbs.log2 < 9000 := Nat.lt_of_le_of_lt (log_le (Nat.le_of_lt h)) (by rw [Nat.log2_two_pow]; decide)
theorem cutTo (xs : List D) (i : Nat) : cutD xs none (some (i : Int)) = xs.take i := by
  by_cases h : i ≤ xs.length
  · exact cut_take h
  · unfold cutD
    rw [HT.sIx_nat]
    show (xs.drop 0).take (min i xs.length - 0) = _
    rw [List.drop_zero, Nat.sub_zero, Nat.min_eq_right (by omega), List.take_of_length_le (Nat.le_refl _), List.take_of_length_le (by omega)]
theorem cutFrom (xs : List D) (i : Nat) : cutD xs (some (i : Int)) none = xs.drop i := by
  by_cases h : i ≤ xs.length
  · exact cut_drop h
  · unfold cutD
    rw [HT.sIx_nat, Nat.min_eq_right (by omega)]
    rw [List.drop_eq_nil_of_le (Nat.le_refl _), List.take_nil, List.drop_eq_nil_of_le (by omega)]
theorem wts_drop2 (xs : List D) (j : Nat) : wts (xs.drop (j + 2)) ≤ wts (xs.drop j) ∧ wts (xs.drop (j + 1)) ≤ wts (xs.drop j) := by
  have h1 := wts_take_drop 2 (xs.drop j)
  have h2 := wts_take_drop 1 (xs.drop j)
  rw [List.drop_drop] at h1 h2
  omega
def nmsD (ns : List Str) : D := .lst (ns.map D.str)
def spOddN (a : Addr) : DSp where
  n := 3
  f := fun ds Q _ => ∃ n m d ns, ds = [.opq a, d, nmsD ns] ∧ NmsOk ns ∧ Tg n m d ∧ m ≤ 100000 ∧ ∀ d', Tg (n + 6) (2 * m + 6000) d' → Q d'
  len := fun ds Q E ⟨_, _, _, _, e, _⟩ => by rw [e]; rfl
  mono := fun ds Q Q' E E' k _ ⟨n, m, d, ns, e, h0, h1, h2, q⟩ => ⟨n, m, d, ns, e, h0, h1, h2, fun d' h => k _ (q d' h)⟩
def spSpoiltN (a : Addr) (n : Nat) : DSp where
  n := 3
  f := fun ds Q _ => ∃ n0 m d ns, ds = [.opq a, d, nmsD ns] ∧ n0 < n ∧ NmsOk ns ∧ Tg n0 m d ∧ m ≤ 100000 ∧ ∀ d', Tg (n0 + 6) (2 * m + 6000) d' → Q d'
  len := fun ds Q E ⟨_, _, _, _, e, _⟩ => by rw [e]; rfl
  mono := fun ds Q Q' E E' k _ ⟨n, m, d, ns, e, h0, h1, h2, h3, q⟩ => ⟨n, m, d, ns, e, h0, h1, h2, h3, fun d' h => k _ (q d' h)⟩
def oddN : List D := [.non, .bl true, .int 0, .int 7, .str "", .str "num", .str "A", .str "abcdefghi", .tup [], .lst [], .dic [], .tup [.str "a"], .tup [.str "a", .tup []], .tup [.tup [.str "a", .tup [.tup [.str "b", .tup []]]]], .str "a b"]
theorem ascii_cut {x : Str} {lo hi : Option Int} (h : ascii x = true) : ascii (cutS x lo hi) = true ∧ (cutS x lo hi).length ≤ x.length := by
  refine ⟨ascii_sub h fun c hc => ?_, cutS_length _ _ _⟩
  unfold cutS at hc
  exact List.mem_of_mem_drop (List.mem_of_mem_take (by simpa using hc))
theorem tg_wt {n m : Nat} {d : D} (t : Tg n m d) : 10 ≤ m := Nat.le_trans (wt_pos d) t.wt
theorem oddN_ok {n m : Nat} (hm : 10 ≤ m) : ∀ x ∈ oddN, Tg (n + 6) (2 * m + 6000) x := by
  have st : ∀ {k : Nat} (x : Str), ascii x = true → x.length ≤ 9 → Tg k 102 (.str x) := fun x h l => .str h (by omega)
  have l0 : Nat.log2 (Int.natAbs 0) = 0 := by decide
  have l7 : Nat.log2 (Int.natAbs 7) = 2 := by decide
  have e0 : ∀ {k : Nat}, Tg (k + 1) 13 (.tup []) := fun {k} => (Tgs.nil (m := 0) (n := k)).tup
  have ab : ∀ {k : Nat} (x : Str), ascii x = true → x.length ≤ 9 → Tg (k + 2) 132 (.tup [.str x, .tup []]) := fun {k} x h l => (Tgs.cons (st (k := k + 1) x h l) (Tgs.cons (e0 (k := k)) (Tgs.nil (m := 0)))).tup
  unfold oddN
  refine forall_cons (.non (by omega)) (forall_cons (.bl (by omega)) (forall_cons (Tg.int (by decide) (by omega)) (forall_cons (Tg.int (by decide) (by omega)) ?_)))
  refine forall_cons ((st (k := 0) "" (by decide +kernel) (by decide)).mono (by omega) (by omega)) (forall_cons ((st (k := 0) "num" (by decide +kernel) (by decide)).mono (by omega) (by omega)) (forall_cons ((st (k := 0) "A" (by decide +kernel) (by decide)).mono (by omega) (by omega)) (forall_cons ((st (k := 0) "abcdefghi" (by decide +kernel) (by decide)).mono (by omega) (by omega)) ?_)))
  refine forall_cons ((e0 (k := 0)).mono (by omega) (by omega)) (forall_cons ((Tgs.nil (m := 0) (n := 0)).lst.mono (by omega) (by omega)) (forall_cons ⟨by simp [gd, gdk], by simp [dpD, pyF, pyFk, PyData.depth, PyData.depthKv], by simp only [wtD, wtk]; omega⟩ ?_))
  refine forall_cons ((Tgs.cons (st (k := 0) "a" (by decide +kernel) (by decide)) (Tgs.nil (m := 0))).tup.mono (by omega) (by omega)) (forall_cons ((ab (k := 0) "a" (by decide +kernel) (by decide)).mono (by omega) (by omega)) ?_)
  refine forall_cons ((Tgs.cons (Tgs.cons (st (k := 3) "a" (by decide +kernel) (by decide)) (Tgs.cons (Tgs.cons (ab (k := 0) "b" (by decide +kernel) (by decide)) (Tgs.nil (m := 0))).tup (Tgs.nil (m := 0)))).tup (Tgs.nil (m := 0))).tup.mono (by omega) (by omega)) ?_
  exact forall_cons ((st (k := 0) "a b" (by decide +kernel) (by decide)).mono (by omega) (by omega)) forall_nil
section
variable {P : Program} {w : World} {K : PySem.W.Frag} {C a l : Addr} {mg : Str → Option Value} {base : Heap} {W : Wd} {k : Nat} {f : Addr} {fd : FuncData}
theorem ok_law_oddN (T : TxtB K C mg) (Fn : Fun K "_law_odd" "_law_odd" s__law_odd f fd) (C__law_draw : Cal P w K mg base CX0 (DeckW a l) k "_law_draw" ["_law_deck_here", "_law_most"] (spDraw a)) (C__law_pick : Cal P w K mg base CX0 (DeckW a l) k "_law_pick" ["_law_deck_here", "_law_some"] (spPick a)) : GnOk P w K mg base CX0 (k + 1) f fd ["_law_deck_here", "_law_thing", "_law_names_here"] (spD (DeckW a l) K (spOddN a)) := by
  refine Fn.okD sc__law_odd rfl fun cdv A outer s H I ds Q Ed E hr h => ?_
  have hu := hr.units
  obtain ⟨n, m, d, ns, rfl, no, t, hm, q⟩ := h
  refine ⟨_, (dss_cons (ds_set 3 (de_fn C__law_draw (hr.mono (by omega)) pass0 lets0 (da_cons (de_name 0) (da_cons de_int da_nil))) sc__law_odd.nd)
  (dss_cons (ds_set 4 (de_lst (da_cons de_non (da_cons de_bl (da_cons de_int (da_cons de_int (da_cons de_str (da_cons de_str (da_cons de_str (da_cons de_str (da_cons (de_tup da_nil) (da_cons (de_lst da_nil) (da_cons de_dict0 (da_cons (de_tup (da_cons de_str da_nil)) (da_cons (de_tup (da_cons de_str (da_cons (de_tup da_nil) da_nil))) (da_cons (de_tup (da_cons (de_tup (da_cons de_str (da_cons (de_tup (da_cons (de_tup (da_cons de_str (da_cons (de_tup da_nil) da_nil))) da_nil)) da_nil))) da_nil)) (da_cons de_str da_nil)))))))))))))))) sc__law_odd.nd)
  (dss_cons (ds_if (dt_wh (dw_or (dt_c (.eq hu) (de_name 3) de_int) (dw_or1 (dt_not (dt_val (de_isi2 is_str is_tup T.b_isinstance T.b_str T.b_tuple (by decide +kernel) (by decide +kernel) (de_name 1)))))))
  (dss_one (ds_ret (de_fn C__law_pick (hr.mono (by omega)) pass0 lets0 (da_cons (de_name 0) (da_cons (de_name 4) da_nil)))))
  dss_nil)
  (dss_cons (ds_if (dt_val (de_isi is_str T.b_isinstance T.b_str (by decide +kernel) (de_name 1)))
  (dss_cons (ds_set 5 (de_lst (da_cons (de_fn C__law_pick (hr.mono (by omega)) pass0 lets0 (da_cons (de_name 0) (da_cons (de_name 2) da_nil))) (da_cons (de_fn C__law_pick (hr.mono (by omega)) pass0 lets0 (da_cons (de_name 0) (da_cons (de_name 2) da_nil))) (da_cons (de_add (de_name 1) de_str) (da_cons (de_slice (de_name 1) (do_some de_int) do_none) (da_cons (de_upper (de_name 1)) (da_cons (de_add (de_name 1) de_str) da_nil))))))) sc__law_odd.nd)
  (dss_one (ds_ret (de_at hu (de_add (de_name 5) (de_lst (da_cons (de_lst (da_cons (de_name 1) da_nil)) (da_cons (de_tup (da_cons (de_name 1) da_nil)) (da_cons de_str da_nil))))) (de_sub (de_name 3) de_int)))))
  dss_nil)
  (dss_cons (ds_set 6 (de_fn C__law_draw (hr.mono (by omega)) pass0 lets0 (da_cons (de_name 0) (da_cons (de_add (de_len T.b_len (da_cons (de_name 1) da_nil)) de_int) da_nil))) sc__law_odd.nd)
  (dss_cons (ds_set 5 (de_lst (da_cons (de_add (de_slice (de_name 1) do_none (do_some (de_name 6))) (de_slice (de_name 1) (do_some (de_add (de_name 6) de_int)) do_none)) (da_cons (de_add (de_add (de_slice (de_name 1) do_none (do_some (de_name 6))) (de_slice (de_name 1) (do_some (de_name 6)) (do_some (de_add (de_name 6) de_int)))) (de_slice (de_name 1) (do_some (de_name 6)) do_none)) (da_cons (de_revG (de_name 1)) (da_cons (de_list T.b_list (da_cons (de_name 1) da_nil)) (da_cons (de_tup da_nil) da_nil)))))) sc__law_odd.nd)
  (dss_cons (ds_set 5 (de_add (de_name 5) (de_lst (da_cons (de_add (de_add (de_slice (de_name 1) do_none (do_some (de_name 6))) (de_revG (de_slice (de_name 1) (do_some (de_name 6)) (do_some (de_add (de_name 6) de_int))))) (de_slice (de_name 1) (do_some (de_add (de_name 6) de_int)) do_none)) (da_cons (de_tup (da_cons (de_name 1) da_nil)) (da_cons (de_add (de_name 1) (de_tup (da_cons de_non da_nil))) da_nil))))) sc__law_odd.nd)
  (dss_one (ds_ret (de_at hu (de_add (de_name 5) (de_lst (da_cons (de_add (de_add (de_slice (de_name 1) do_none (do_some (de_name 6))) (de_tup (da_cons (de_fn C__law_pick (hr.mono (by omega)) pass0 lets0 (da_cons (de_name 0) (da_cons (de_name 2) da_nil))) da_nil))) (de_slice (de_name 1) (do_some (de_name 6)) do_none)) da_nil))) (de_sub (de_name 3) de_int))))))))))), ?_⟩
  simp only [getD_0, getD_s, set_0, set_s, boolD_bl, intD_int, startD, List.map, List.length_cons, List.length_nil, List.replicate, List.cons_append, List.nil_append, defEnds, wipeD, if_true, if_false, Bool.not_true, Bool.not_false, Bool.false_eq_true]
  refine ⟨_, rfl, by decide, by decide, fun v v0 v1 => ?_⟩
  have hm10 := tg_wt t
  have all : ∀ d' ∈ oddN, Q d' := fun d' h => q d' (oddN_ok hm10 d' h)
  have pick : (spPick a).f [.opq a, .lst oddN] Q fun _ => False := ⟨_, rfl, by simp [oddN], by simp [oddN], all⟩
  have nms : ∀ {R : D → Prop}, (∀ x : Str, ascii x = true → x.length ≤ 8 → R (.str x)) → (spPick a).f [.opq a, nmsD ns] R fun _ => False := fun r => ⟨_, rfl, by simpa using no.ne, by rw [List.length_map]; exact Nat.le_trans no.few (by decide), fun x hx => by
    obtain ⟨y, hy, rfl⟩ := List.mem_map.mp hx
    exact r y (no.a y hy).1 (no.a y hy).2⟩
  refine ⟨Nat.zero_le _, Nat.zero_le _, by decide, Nat.zero_le _, by decide, Nat.zero_le _, by decide, by decide, by decide, by decide, by decide, ?_⟩
  rw [eqD_int]
  simp only [boolD_bl]
  by_cases hv : v = 0
  · rw [if_pos (by simpa using hv)]
    exact pick
  rw [if_neg (by simpa using hv)]
  have kn := gd_known t.g
  refine ⟨kn, ?_⟩
  cases hs : isStr d with
  | true =>
    obtain ⟨x, rfl⟩ := str_of' hs
    rw [if_neg (by simp)]
    refine ⟨kn, ?_⟩
    simp only [if_true, addD, sliceD, subD, intD_int]
    have ax := gd_str t.g
    have lx := wt_str t
    have la : ("a" : Str).length = 1 := rfl
    have lb : (" " : Str).length = 1 := rfl
    have big : ∀ {k : Nat}, k ≤ 100000 → k ≤ sizeLine := fun h => by rw [sizeLine_eq]; omega
    have nm : ∀ y : Str, ascii y = true → y.length ≤ 8 → Q (.str y) := fun y h1 h2 => q _ (.str h1 (by omega))
    refine nms fun y1 a1 l1 => nms fun y2 a2 l2 => ?_
    refine ⟨big (by omega), big (by omega), x, rfl, by omega, big (by omega), by decide, by decide, by decide, by decide, big (by simp), ?_⟩
    refine ix_any (by omega) (by show v - 1 < 9; omega) ?_
    refine forall_cons (nm _ a1 l1) (forall_cons (nm _ a2 l2) (forall_cons (q _ (.str (ascii_app ax (by decide +kernel)) (by rw [len_app]; omega))) (forall_cons (q _ (.str (ascii_cut ax).1 (by have := (ascii_cut (lo := some 1) (hi := none) ax).2; omega))) ?_)))
    refine forall_cons (q _ (.str (ascii_upper ax).1 (by have := (ascii_upper ax).2; omega))) (forall_cons (q _ (.str (ascii_app ax (by decide +kernel)) (by rw [len_app]; omega))) ?_)
    have one : Tgs n (m + 2 + 0) [D.str x] := Tgs.cons t (Tgs.nil (m := 0))
    exact forall_cons (q _ (one.lst.mono (by omega) (by omega))) (forall_cons (q _ (one.tup.mono (by omega) (by omega))) (forall_cons (nm _ (by decide +kernel) (by decide)) forall_nil))
  | false =>
    cases ht : isTup d with
    | false =>
      rw [if_pos (by simp)]
      exact pick
    | true =>
      rw [if_neg (by simp)]
      refine ⟨kn, ?_⟩
      obtain ⟨xs, rfl⟩ := tup_of ht
      simp only [Bool.false_eq_true, if_false, lenD]
      obtain ⟨n', m', rfl, rfl, ts⟩ := t.tups
      have hlm : xs.length ≤ 76000 := by
        have h1 := ts.wt
        have := wts_len xs
        omega
      simp only [addD]
      refine ⟨_, rfl, by omega, log_sm (by omega), fun j j0 j1 => ?_⟩
      simp only [intD_int, sliceD, addD, revGD, listD, subD]
      have cl : ∀ lo hi, (cutD xs lo hi).length ≤ 76000 := fun lo hi => by
        have h1 := (ts.cut lo hi).wt
        have := wts_len (cutD xs lo hi)
        have := ts.wt
        omega
      have big : ∀ {k : Nat}, k ≤ 400000 → k ≤ sizeLine := fun h => by rw [sizeLine_eq]; omega
      have two : ∀ lo hi lo' hi', Q (.tup (cutD xs lo hi ++ cutD xs lo' hi')) := fun lo hi lo' hi' => q _ (((ts.cut lo hi).app (ts.cut lo' hi')).tup.mono (by omega) (by omega))
      have hj : xs.length ≥ j.toNat := by omega
      obtain ⟨j, rfl⟩ := Int.eq_ofNat_of_zero_le j0
      have wj := wts_take_drop j xs
      have e1 : ((j : Int) + 1) = ((j + 1 : Nat) : Int) := by omega
      have e2 : ((j : Int) + 2) = ((j + 2 : Nat) : Int) := by omega
      have c1 := cl none (some (j : Int))
      have c2 := cl (some ((j : Int) + 1)) none
      have c3 := cl (some (j : Int)) (some ((j : Int) + 1))
      have c4 := cl (some (j : Int)) none
      have c5 := cl (some (j : Int)) (some ((j : Int) + 2))
      have c6 := cl (some ((j : Int) + 2)) none
      refine ⟨big (by omega), big (by omega), big (by rw [List.length_append]; omega), by decide, by decide, big (by rw [List.length_reverse]; omega), big (by rw [List.length_append, List.length_reverse]; omega), by decide, by decide, big (by simp; omega), by decide, big (by simp), ?_⟩
      refine nms fun y ay ly => ?_
      refine ⟨by decide, big (by simp only [List.length_append, List.length_cons, List.length_nil]; omega), big (by simp only [List.length_append, List.length_cons, List.length_nil]; omega), by decide, big (by simp), ?_⟩
      refine ix_any (by omega) (by show v - 1 < 9; omega) ?_
      have wm := ts.wt
      have d2 := wts_drop2 xs j
      have mid := wts_cut (xs := xs) (lo := some (j : Int)) (hi := some ((j : Int) + 1))
      have mid2 := wts_cut (xs := xs) (lo := some (j : Int)) (hi := some ((j : Int) + 2))
      have gT : Tgs n' (wts (xs.take j)) (xs.take j) := ⟨fun x hx => ts.g x (List.mem_of_mem_take hx), fun x hx => ts.dp x (List.mem_of_mem_take hx), Nat.le_refl _⟩
      have gD : ∀ i, Tgs n' (wts (xs.drop i)) (xs.drop i) := fun i => ⟨fun x hx => ts.g x (List.mem_of_mem_drop hx), fun x hx => ts.dp x (List.mem_of_mem_drop hx), Nat.le_refl _⟩
      have gC : ∀ lo hi, Tgs n' (wts (cutD xs lo hi)) (cutD xs lo hi) := fun lo hi => ⟨(ts.cut lo hi).g, (ts.cut lo hi).dp, Nat.le_refl _⟩
      have one : Tg n' 12 .non := .non (by omega)
      have oney : Tg n' 92 (.str y) := .str ay (by omega)
      have onex : Tgs (n' + 1) (m' + 13 + 2 + 0) [D.tup xs] := Tgs.cons ts.tup (Tgs.nil (m := 0))
      refine forall_cons (two _ _ _ _) (forall_cons (q _ ?_) (forall_cons (q _ (ts.rev.tup.mono (by omega) (by omega))) (forall_cons (q _ (ts.lst.mono (by omega) (by omega))) (forall_cons (q _ ((Tgs.nil (m := 0) (n := 0)).tup.mono (by omega) (by omega))) (forall_cons (q _ ?_) (forall_cons (q _ (onex.tup.mono (by omega) (by omega))) (forall_cons (q _ ((ts.app (Tgs.cons one (Tgs.nil (m := 0)))).tup.mono (by omega) (by omega))) (forall_cons (q _ ?_) forall_nil))))))))
      · rw [cutTo, cutFrom]
        exact ((gT.app (gC _ _)).app (gD j)).tup.mono (by omega) (by omega)
      · rw [cutTo, e2, cutFrom, ← e2]
        exact ((gT.app (gC _ _).rev).app (gD (j + 2))).tup.mono (by omega) (by omega)
      · rw [cutTo, cutFrom]
        exact ((gT.app (Tgs.cons oney (Tgs.nil (m := 0)))).app (gD j)).tup.mono (by omega) (by omega)
theorem ok_law_spoiltN (T : TxtB K C mg) (Fn : Fun K "_law_spoilt" "_law_spoilt" s__law_spoilt f fd) {n : Nat} (C__law_draw : Cal P w K mg base CX0 (DeckW a l) k "_law_draw" ["_law_deck_here", "_law_most"] (spDraw a)) (C__law_odd : Cal P w K mg base CX0 (DeckW a l) k "_law_odd" ["_law_deck_here", "_law_thing", "_law_names_here"] (spOddN a)) (C__law_spoilt : Cal P w K mg base CX0 (DeckW a l) k "_law_spoilt" ["_law_deck_here", "_law_thing", "_law_names_here"] (spSpoiltN a n)) : GnOk P w K mg base CX0 (k + 1) f fd ["_law_deck_here", "_law_thing", "_law_names_here"] (spD (DeckW a l) K (spSpoiltN a (n + 1))) := by
  refine Fn.okD sc__law_spoilt rfl fun cdv A outer s H I ds Q Ed E hr h => ?_
  have hu := hr.units
  obtain ⟨n0, m, d, ns, rfl, hn, no, t, hm, q⟩ := h
  refine ⟨_, (dss_cons (ds_set 3 (de_c (.eq hu) (de_fn C__law_draw (hr.mono (by omega)) pass0 lets0 (da_cons (de_name 0) (da_cons de_int da_nil))) de_int) sc__law_spoilt.nd)
  (dss_cons (ds_if (dt_wh (dw_or (dt_val (de_name 3)) (dw_or (dt_not (dt_val (de_isi is_tup T.b_isinstance T.b_tuple (by decide +kernel) (de_name 1)))) (dw_or1 (dt_eqT0 hu (de_name 1) (de_tup da_nil))))))
  (dss_one (ds_ret (de_fn C__law_odd (hr.mono (by omega)) pass0 lets0 (da_cons (de_name 0) (da_cons (de_name 1) (da_cons (de_name 2) da_nil))))))
  dss_nil)
  (dss_cons (ds_set 4 (de_fn C__law_draw (hr.mono (by omega)) pass0 lets0 (da_cons (de_name 0) (da_cons (de_len T.b_len (da_cons (de_name 1) da_nil)) da_nil))) sc__law_spoilt.nd)
  (dss_one (ds_ret (de_add (de_add (de_slice (de_name 1) do_none (do_some (de_name 4))) (de_tup (da_cons (de_fn C__law_spoilt (hr.mono (by omega)) pass0 lets0 (da_cons (de_name 0) (da_cons (de_at hu (de_name 1) (de_name 4)) (da_cons (de_name 2) da_nil)))) da_nil))) (de_slice (de_name 1) (do_some (de_add (de_name 4) de_int)) do_none))))))), ?_⟩
  simp only [getD_0, getD_s, set_0, set_s, boolD_bl, intD_int, startD, List.map, List.length_cons, List.length_nil, List.replicate, List.cons_append, List.nil_append, defEnds, wipeD, if_true, if_false, Bool.not_true, Bool.not_false, Bool.false_eq_true]
  refine ⟨_, rfl, by decide, by decide, fun v v0 v1 => ?_⟩
  show eqD (.int v) (.int 0) _
  rw [eqD_int]
  simp only [boolD_bl]
  have odd : (spOddN a).f [.opq a, d, nmsD ns] Q fun _ => False := ⟨n0, m, d, ns, rfl, no, t, hm, q⟩
  by_cases hv : v = 0
  · rw [if_pos (by simpa using hv)]
    exact odd
  rw [if_neg (by simpa using hv)]
  refine ⟨gd_known t.g, ?_⟩
  cases ht : isTup d with
  | false =>
    rw [if_pos (by simp)]
    exact odd
  | true =>
    rw [if_neg (by simp)]
    obtain ⟨xs, rfl⟩ := tup_of ht
    refine ⟨Nat.zero_le _, xs, rfl, rfl, ?_⟩
    simp only [boolD_bl]
    cases hx : xs.isEmpty with
    | true =>
      rw [if_pos rfl]
      exact odd
    | false =>
      rw [if_neg (by simp)]
      have hne : xs ≠ [] := by
        rintro rfl
        cases hx
      have hl0 := List.length_pos_iff.mpr hne
      obtain ⟨n', m', rfl, rfl, ts⟩ := t.tups
      have hlm : 12 * xs.length ≤ m' := Nat.le_trans (wts_len xs) ts.wt
      simp only [lenD]
      refine ⟨_, rfl, by omega, log_sm (by omega), fun i i0 i1 => ?_⟩
      obtain ⟨i, rfl⟩ := Int.eq_ofNat_of_zero_le i0
      simp only [intD_int, sliceD, addD]
      have hi : i < xs.length := by omega
      have hx : xs[i] ∈ xs := List.getElem_mem hi
      have hw : wts (xs.take i) + (wtD xs[i] + 2 + wts (xs.drop (i + 1))) = wts xs := by
        have h1 := wts_take_drop i xs
        rw [List.drop_eq_getElem_cons hi, wts] at h1
        exact h1
      have hts := ts.wt
      have lt := wts_len (xs.take i)
      have ld := wts_len (xs.drop (i + 1))
      have big : ∀ {k : Nat}, k ≤ 100000 → k ≤ sizeLine := fun h => by rw [sizeLine_eq]; omega
      refine ⟨xs[i], atI_nat (List.getElem?_eq_getElem hi), n', wtD xs[i], xs[i], ns, rfl, by omega, no, ⟨ts.g _ hx, ts.dp _ hx, Nat.le_refl _⟩, by omega, fun d' td => ?_⟩
      have e1 : ((i : Int) + 1) = ((i + 1 : Nat) : Int) := by omega
      rw [cut_take (by omega), e1, cut_drop (by omega)]
      refine ⟨by decide, big (by simp only [List.length_cons, List.length_nil]; omega), big (by simp only [List.length_append, List.length_cons, List.length_nil]; omega), q _ (Tg.mono (n := n' + 6 + 1) (m := wts (xs.take i) + (2 * wtD xs[i] + 6000 + 2 + 0) + wts (xs.drop (i + 1)) + 13) (Tgs.tup ?_) (by omega) (by omega))⟩
      refine Tgs.app (Tgs.app ⟨fun x hx => ts.g x (List.mem_of_mem_take hx), fun x hx => Nat.le_trans (ts.dp x (List.mem_of_mem_take hx)) (by omega), Nat.le_refl _⟩ (Tgs.cons td (Tgs.nil (m := 0)))) ⟨fun x hx => ts.g x (List.mem_of_mem_drop hx), fun x hx => Nat.le_trans (ts.dp x (List.mem_of_mem_drop hx)) (by omega), Nat.le_refl _⟩
end
end KB
namespace KB
open PySem L2 Dk
open PyProof.Rows (envOfC)
abbrev s__law_bare : Stmt := top 48
theorem sc__law_bare : FnScope ["_law_kinds_here", "_law_found", "_law_turn", "_law_kind", "_law_rows", "_law_bough", "_law_fields", "_law_field"] ["_law_kinds_here"] (defScope s__law_bare) := ⟨rfl, rfl, rfl, by decide +kernel, rfl, by decide +kernel, by decide +kernel⟩
theorem bd__law_bare (kV doc pm : Value) (an : Option Addr) (cdv ct : Value) (us : List Value) (hl : us.length = 1) : bindArgs (PySem.W.fnOf "_law_bare" "_law_bare" (defArgs s__law_bare) (defBody s__law_bare) (defScope s__law_bare) .none kV doc pm an cdv ct) ⟨us, []⟩ = pure ((["_law_kinds_here"] : List Str).zip us) := by
  match us, hl with
  | [v0], _ => rfl
theorem fl_noneS {p : Str → Bool} {l : List Str} : (l.all fun x => !p x) = (l.filter p).isEmpty := by
  induction l with
  | nil => rfl
  | cons a l ih =>
    rw [List.all_cons, ih]
    cases h : p a with
    | true => rw [List.filter_cons_of_pos h]; rfl
    | false => rw [List.filter_cons_of_neg (by simp [h])]; rfl
def bareK (ks : List Kind) : Option Str := (ks.find? fun k => !wthy ks k.1).map (·.1)
def bareD (ks : List Kind) : D := match bareK ks with | some k => .str k | none => .non
def spBareL : DSp where
  n := 1
  f := fun ds Q _ => ∃ ks, ds = [kindsD ks] ∧ Wk ks ∧ Q (bareD ks)
  len := fun ds Q E ⟨_, e, _⟩ => by rw [e]; rfl
  mono := fun ds Q Q' E E' k _ ⟨ks, e, h, q⟩ => ⟨ks, e, h, k _ q⟩
section
variable {P : Program} {w : World} {K : PySem.W.Frag} {C CB CNb a l : Addr} {cx : String → Addr} {mg : Str → Option Value} {base : Heap} {W : Wd} {k : Nat} {f : Addr} {fd : FuncData}
theorem ok_law_bare (T : TxtB K C mg) (Fn : Fun K "_law_bare" "_law_bare" s__law_bare f fd) : GnOk P w K mg base CX0 (k + 1) f fd ["_law_kinds_here"] (spD W K spBareL) := by
  refine Fn.okD sc__law_bare rfl fun cdv A outer s H I ds Q Ed E hr h => ?_
  have hu := hr.units
  have hu2 : (A.deeper (envOfC "_law_bare" (defScope s__law_bare) s.heap.objs.size f cdv)).units + 66 < cLine := by have := hr.room.un; omega
  obtain ⟨ks, rfl, g, q⟩ := h
  refine ⟨_, (dss_cons (ds_own 1 da_nil sc__law_bare.nd)
  (dss_cons (ds_for PassesOwn.never rfl (di_seq (de_name 0)) (dg_name 2 sc__law_bare.nd)
  (dss_one (ds_for PassesOwn.never rfl (di_seq (de_name 0)) (dg_tup (n := 2) rfl (dgs_cons (dg_name 3 sc__law_bare.nd) (dgs_cons (dg_name 4 sc__law_bare.nd) dgs_nil)))
  (dss_one (ds_for PassesOwn.never rfl (di_seq (de_name 4)) (dg_tup (n := 2) rfl (dgs_cons (dg_name 5 sc__law_bare.nd) (dgs_cons (dg_name 6 sc__law_bare.nd) dgs_nil)))
  (dss_one (ds_if (dt_lend 1 (dt_eqLD hu (de_lc (own := [("_law_field", 7)]) rfl sc__law_bare.nd (di_seq (de_name 6)) (blkOk_by (own := [("_law_field", 7)]) (N := ["_law_kinds_here", "_law_found", "_law_turn", "_law_kind", "_law_rows", "_law_bough", "_law_fields", "_law_field"]) (sc := defScope s__law_bare) (by decide +kernel)) (fun _ _ _ _ _ => (dg_name 7 sc__law_bare.nd)) (fun _ _ _ _ _ => (dif_one (dt_wh (dw_and (dt_c (.ne hu) (de_name 7) de_str) (dw_and1 (dt_notin hu2 (de_name 7) (de_name 1))))))) (fun _ _ _ _ _ => (de_name 7))) (de_lst da_nil)))
  (dss_one (ds_append 1 (de_name 3)))
  dss_nil)))))))
  (dss_freeze 1
  (dss_one (ds_ret (de_at hu (de_add (de_lc (own := [("_law_kind", 3), ("_law_rows", 4)]) rfl sc__law_bare.nd (di_seq (de_name 0)) (blkOk_by (own := [("_law_kind", 3), ("_law_rows", 4)]) (N := ["_law_kinds_here", "_law_found", "_law_turn", "_law_kind", "_law_rows", "_law_bough", "_law_fields", "_law_field"]) (sc := defScope s__law_bare) (by decide +kernel)) (fun _ _ _ _ _ => (dg_tup (n := 2) rfl (dgs_cons (dg_name 3 sc__law_bare.nd) (dgs_cons (dg_name 4 sc__law_bare.nd) dgs_nil)))) (fun _ _ _ _ _ => (dif_one (dt_notin hu2 (de_name 3) (de_name 1)))) (fun _ _ _ _ _ => (de_name 3))) (de_lst (da_cons de_non da_nil))) de_int)))))), ?_⟩
  simp only [getD_0, getD_s, set_0, set_s, boolD_bl, intD_int, startD, List.map, List.length_cons, List.length_nil, List.replicate, List.cons_append, List.nil_append, defEnds, wipeD, if_true, if_false, Bool.not_true, Bool.not_false, Bool.false_eq_true]
  refine ⟨Nat.zero_le _, ?_⟩
  simp only [kindsD, itemsD]
  have lens := g.lens
  have okn : ∀ {xs : List Str}, (∀ x ∈ xs, nameOk x = true) → ∀ x ∈ xs, PyData.strOk x = true := fun h x hx => strOk_name (h x hx)
  refine forD_ind (fun (l : List D) ρ => ∃ (xs : List Str) (u2 u3 u4 u5 u6 : Option Ent), ρ = [some (.dat (.tup (ks.map kindD))), some (.own (xs.map D.str)), u2, u3, u4, u5, u6, none] ∧ l.length ≤ ks.length ∧ xs.length + 3990 * l.length ≤ 9177000 ∧ (∀ x ∈ xs, nameOk x = true) ∧ ∀ f, decide (f ∈ xs) = rnds ks (ks.length - l.length) f) (fun ρ ⟨xs, u2, u3, u4, u5, u6, e, _, hb, hn, h⟩ => ?_) (fun d l ρ R ⟨xs, u2, u3, u4, u5, u6, e, hl, hb, hn, h⟩ hR => ?_) _ _ ⟨[], none, none, none, none, none, rfl, by simp, by simp; omega, (fun _ h => nomatch h), fun f => by simp [rnds]⟩
  rotate_left
  · subst e
    simp only [getD_0, getD_s, set_0, set_s, boolD_bl, intD_int, startD, List.map, List.length_cons, List.length_nil, List.replicate, List.cons_append, List.nil_append, defEnds, wipeD, if_true, if_false, Bool.not_true, Bool.not_false, Bool.false_eq_true]
    simp only [List.length_cons] at hl hb h
    refine forD_ind (fun (m : List D) ρ => ∃ (pre rest : List Kind) (xs : List Str) (u2 u3 u4 u5 u6 : Option Ent), ks = pre ++ rest ∧ m = rest.map kindD ∧ ρ = [some (.dat (.tup (ks.map kindD))), some (.own (xs.map D.str)), u2, u3, u4, u5, u6, none] ∧ xs.length + (bNames rest).length + 3990 * l.length ≤ 9177000 ∧ (∀ x ∈ xs, nameOk x = true) ∧ ∀ f, decide (f ∈ xs) = pre.foldl stepK (rnds ks (ks.length - (l.length + 1))) f) (fun ρ ⟨pre, rest, xs, u2, u3, u4, u5, u6, ep, em, e, hb, hn, h⟩ => ?_) (fun d m ρ R2 ⟨pre, rest, xs, u2, u3, u4, u5, u6, ep, em, e, hb, hn, h⟩ hR2 => ?_) _ _ ⟨[], ks, xs, _, u3, u4, u5, u6, rfl, rfl, rfl, by omega, hn, h⟩
    · subst e
      have : rest = [] := by simpa using em.symm
      subst this
      refine hR _ ⟨xs, _, _, _, _, _, rfl, by omega, by simp only [bNames, List.flatMap_nil, List.length_nil] at hb; omega, hn, fun f => ?_⟩
      rw [h f]
      rw [List.append_nil] at ep
      subst ep
      have e1 : ks.length - l.length = (ks.length - (l.length + 1)) + 1 := by omega
      rw [e1, rnds, rnd]
    · subst e
      cases rest with
      | nil => cases em
      | cons x rest =>
        rw [List.map_cons] at em
        obtain ⟨rfl, rfl⟩ := List.cons.inj em
        have hx : x ∈ ks := by rw [ep]; simp
        refine ⟨_, rfl, rfl, _, _, rfl, _, _, rfl, rfl, ?_⟩
        simp only [getD_0, getD_s, set_0, set_s, boolD_bl, intD_int, startD, List.map, List.length_cons, List.length_nil, List.replicate, List.cons_append, List.nil_append, defEnds, wipeD, if_true, if_false, Bool.not_true, Bool.not_false, Bool.false_eq_true]
        simp only [bNames, List.flatMap_cons, List.length_append, List.length_map] at hb
        change xs.length + (x.2.length + (bNames rest).length) + 3990 * l.length ≤ 9177000 at hb
        generalize hS : pre.foldl stepK (rnds ks (ks.length - (l.length + 1))) = S at h
        refine forD_ind (fun (m : List D) ρ => ∃ (bp br : List Bough) (xs : List Str) (u5 u6 : Option Ent), x.2 = bp ++ br ∧ m = br.map boughD ∧ ρ = [some (.dat (.tup (ks.map kindD))), some (.own (xs.map D.str)), u2, some (.dat (.str x.1)), some (.dat (.tup (x.2.map boughD))), u5, u6, none] ∧ xs.length + br.length + (bNames rest).length + 3990 * l.length ≤ 9177000 ∧ (∀ x ∈ xs, nameOk x = true) ∧ ∀ f, decide (f ∈ xs) = (S f || (decide (f = x.1) && bp.any (goodB S)))) (fun ρ ⟨bp, br, xs, u5, u6, eb, em, e, hb, hn, h⟩ => ?_) (fun d m ρ R3 ⟨bp, br, xs, u5, u6, eb, em, e, hb, hn, h⟩ hR3 => ?_) _ _ ⟨[], x.2, xs, u5, u6, rfl, rfl, rfl, by omega, hn, fun f => by rw [h f]; simp⟩
        · subst e
          have : br = [] := by simpa using em.symm
          subst this
          rw [List.append_nil] at eb
          refine hR2 _ ⟨pre ++ [x], rest, xs, _, _, _, _, _, by rw [ep]; simp, rfl, rfl, by simp only [List.length_nil] at hb; omega, hn, fun f => ?_⟩
          rw [h f, List.foldl_append, List.foldl_cons, List.foldl_nil, hS, ← eb]
          rfl
        · subst e
          cases br with
          | nil => cases em
          | cons b br =>
            rw [List.map_cons] at em
            obtain ⟨rfl, rfl⟩ := List.cons.inj em
            have hbm : b ∈ x.2 := by rw [eb]; simp
            simp only [List.length_cons] at hb
            refine ⟨_, rfl, rfl, _, _, rfl, _, _, rfl, rfl, ?_⟩
            simp only [getD_0, getD_s, set_0, set_s, boolD_bl, intD_int, startD, List.map, List.length_cons, List.length_nil, List.replicate, List.cons_append, List.nil_append, defEnds, wipeD, if_true, if_false, Bool.not_true, Bool.not_false, Bool.false_eq_true]
            refine ⟨_, rfl, trivial, ?_⟩
            simp only [Ent.toD]
            have nxt : ∀ f, decide (f ∈ xs ++ [x.1]) = (decide (f ∈ xs) || decide (f = x.1)) := fun f => by rw [Bool.eq_iff_iff]; simp
            have tt : (b.2.filter fun f => !decide (f = numS) && !decide (f ∈ xs)).isEmpty = b.2.all fun f => decide (f = numS) || decide (f ∈ xs) := by
              rw [← fl_noneS (p := fun f => !decide (f = numS) && !decide (f ∈ xs))]
              simp only [Bool.not_and, Bool.not_not]
            refine ⟨Nat.le_trans (by rw [List.length_map]; exact Nat.le_trans (flen_of hx hbm) lens.2.2) (by decide), lcD_map D.str D.str (fun f => !decide (f = numS) && !decide (f ∈ xs)) (fun f hf R S' r r2 => ?_) ?_⟩
            · simp only [getD_0, getD_s, set_0, set_s, boolD_bl, intD_int, startD, List.map, List.length_cons, List.length_nil, List.replicate, List.cons_append, List.nil_append, defEnds, wipeD, if_true, if_false, Bool.not_true, Bool.not_false, Bool.false_eq_true]
              show neD (.str f) (.str numS) _
              rw [neD_str]
              simp only [boolD_bl]
              cases h2 : decide (f = numS) with
              | true => exact r2 (by rw [h2]; rfl)
              | false =>
                simp only [Bool.not_false, if_true]
                refine notin_tx (okn hn) (ascii_ok (gd_field g.fit.g x hx b hbm f hf)) ?_
                simp only [boolD_bl]
                cases h3 : decide (f ∈ xs) with
                | true => exact r2 (by rw [h2, h3]; rfl)
                | false => exact r (by rw [h2, h3]; rfl)
            · refine ⟨Nat.zero_le _, _, rfl, rfl, ?_⟩
              have e5 : ((b.2.filter fun f => !decide (f = numS) && !decide (f ∈ xs)).map D.str).isEmpty = b.2.all fun f => decide (f = numS) || decide (f ∈ xs) := by rw [← tt]; cases (b.2.filter fun f => !decide (f = numS) && !decide (f ∈ xs)) <;> rfl
              rw [e5]
              have gB : bp.any (goodB S) = false → (b.2.all fun f => decide (f = numS) || decide (f ∈ xs)) = goodB S b := fun z => by
                unfold goodB
                congr 1
                funext f
                rw [h f, z, Bool.and_false, Bool.or_false]
              simp only [boolD_bl]
              cases ht : b.2.all fun f => decide (f = numS) || decide (f ∈ xs) with
              | true =>
                refine ⟨_, rfl, ?_⟩
                refine ⟨by rw [List.length_map, sizeLine_eq]; omega, hR3 _ ⟨bp ++ [b], br, xs ++ [x.1], _, _, by rw [eb]; simp, rfl, by rw [List.map_append]; rfl, by simp only [List.length_append, List.length_singleton]; omega, fun y hy => ?_, fun f => ?_⟩⟩
                · rcases List.mem_append.mp hy with hy | hy
                  · exact hn y hy
                  · rw [List.mem_singleton.mp hy]; exact g.p.kn x hx
                · rw [nxt f, h f, List.any_append, List.any_cons, List.any_nil, Bool.or_false]
                  cases hbp : bp.any (goodB S) with
                  | true => cases S f <;> cases decide (f = x.1) <;> rfl
                  | false =>
                    rw [← gB hbp, ht]
                    cases S f <;> cases decide (f = x.1) <;> rfl
              | false =>
                refine hR3 _ ⟨bp ++ [b], br, xs, _, _, by rw [eb]; simp, rfl, rfl, by omega, hn, fun f => ?_⟩
                rw [h f, List.any_append, List.any_cons, List.any_nil, Bool.or_false]
                cases hbp : bp.any (goodB S) with
                | true => rfl
                | false => rw [← gB hbp, ht]; rfl
  · subst e
    simp only [getD_0, getD_s, set_0, set_s, boolD_bl, intD_int, startD, List.map, List.length_cons, List.length_nil, List.replicate, List.cons_append, List.nil_append, defEnds, wipeD, if_true, if_false, Bool.not_true, Bool.not_false, Bool.false_eq_true]
    refine ⟨_, rfl, trivial, ?_⟩
    simp only [Ent.toD]
    rw [List.length_nil, Nat.sub_zero] at h
    refine ⟨Nat.le_trans (by rw [List.length_map]; exact lens.1) (by decide), lcD_map kindD (fun k => .str k.1) (fun k => !wthy ks k.1) (fun x hx R S r r2 => ?_) ?_⟩
    · refine ⟨_, rfl, rfl, _, _, rfl, _, _, rfl, rfl, ?_⟩
      simp only [getD_0, getD_s, set_0, set_s, boolD_bl, intD_int, startD, List.map, List.length_cons, List.length_nil, List.replicate, List.cons_append, List.nil_append, defEnds, wipeD, if_true, if_false, Bool.not_true, Bool.not_false, Bool.false_eq_true]
      refine notin_tx (okn hn) (strOk_name (g.p.kn x hx)) ?_
      have e6 : decide (x.1 ∈ xs) = wthy ks x.1 := h x.1
      rw [e6]
      simp only [boolD_bl]
      cases hw : wthy ks x.1 with
      | true => exact r2 (by rw [hw]; rfl)
      | false => exact r (by rw [hw]; rfl)
    · refine ⟨by decide, ?_⟩
      simp only [addD]
      have hq : (ks.filter fun k => !wthy ks k.1).head? = ks.find? fun k => !wthy ks k.1 := List.head?_filter
      have hlen : (ks.filter fun k => !wthy ks k.1).length ≤ ks.length := List.length_filter_le _ _
      unfold bareD bareK at q
      rw [← hq] at q
      refine ⟨by rw [List.length_map, sizeLine_eq]; simp only [List.length_cons, List.length_nil]; omega, ?_⟩
      cases hf : ks.filter fun k => !wthy ks k.1 with
      | nil =>
        rw [hf] at q
        exact ⟨_, atI_0, q⟩
      | cons y ys =>
        rw [hf] at q
        exact ⟨_, atI_0, q⟩
end
end KB
namespace KB
open PySem L2 Dk
open PyProof.Rows (envOfC)
abbrev s__law_heard : Stmt := top 49
theorem sc__law_heard : FnScope ["_law_thing", "_law_found", "e", "_law_others"] ["_law_thing"] (defScope s__law_heard) := ⟨rfl, rfl, rfl, by decide +kernel, rfl, by decide +kernel, by decide +kernel⟩
theorem bd__law_heard (kV doc pm : Value) (an : Option Addr) (cdv ct : Value) (us : List Value) (hl : us.length = 1) : bindArgs (PySem.W.fnOf "_law_heard" "_law_heard" (defArgs s__law_heard) (defBody s__law_heard) (defScope s__law_heard) .none kV doc pm an cdv ct) ⟨us, []⟩ = pure ((["_law_thing"] : List Str).zip us) := by
  match us, hl with
  | [v0], _ => rfl
abbrev s__law_right : Stmt := top 50
theorem sc__law_right : FnScope ["_law_thing", "_law_kept", "_law_good", "_law_told", "_law_due", "_law_bare_here"] ["_law_thing"] (defScope s__law_right) := ⟨rfl, rfl, rfl, by decide +kernel, rfl, by decide +kernel, by decide +kernel⟩
theorem bd__law_right (kV doc pm : Value) (an : Option Addr) (cdv ct : Value) (us : List Value) (hl : us.length = 1) : bindArgs (PySem.W.fnOf "_law_right" "_law_right" (defArgs s__law_right) (defBody s__law_right) (defScope s__law_right) .none kV doc pm an cdv ct) ⟨us, []⟩ = pure ((["_law_thing"] : List Str).zip us) := by
  match us, hl with
  | [v0], _ => rfl
structure TxtA (K : PySem.W.Frag) (C : Addr) (mg : Str → Option Value) : Prop extends TxtB K C mg where
  b_bool : mg "bool" = none
  b_set : mg "set" = none
structure TxtHd (K : PySem.W.Frag) (CB CNb : Addr) (cx : String → Addr) (mg : Str → Option Value) : Prop where
  m_Gap : mg "Gap" = some (.ref (cx "Gap"))
  m_InUse : mg "InUse" = some (.ref (cx "InUse"))
  m_NoBack : mg "NoBack" = some (.ref (cx "NoBack"))
  m_NoDress : mg "NoDress" = some (.ref (cx "NoDress"))
  m_NoFall : mg "NoFall" = some (.ref (cx "NoFall"))
  m_NoFilling : mg "NoFilling" = some (.ref (cx "NoFilling"))
  m_NoFun : mg "NoFun" = some (.ref (cx "NoFun"))
  m_NoIndex : mg "NoIndex" = some (.ref (cx "NoIndex"))
  m_NoName : mg "NoName" = some (.ref (cx "NoName"))
  m_NoOrnament : mg "NoOrnament" = some (.ref (cx "NoOrnament"))
  m_NoText : mg "NoText" = some (.ref (cx "NoText"))
  m_Taken : mg "Taken" = some (.ref (cx "Taken"))
  m_TooLong : mg "TooLong" = some (.ref (cx "TooLong"))
  m_Unlike : mg "Unlike" = some (.ref (cx "Unlike"))
  m_KindError : mg "KindError" = some (.ref (cx "KindError"))
  m_NoBook : mg "NoBook" = some (.ref (cx "NoBook"))
  m_Bare : mg "Bare" = some (.ref (cx "Bare"))
  b_ValueError : mg "ValueError" = none
  xi_b : XiC K CB
  e_bk : PySem.W.exmOne K (.ref CB) (.ref (cx "KindError")) = some true
  i_b1 : PySem.W.kitAny K (.ref CB) [.ref (cx "Gap"), .ref (cx "InUse"), .ref (cx "NoBack"), .ref (cx "NoDress"), .ref (cx "NoFall"), .ref (cx "NoFilling"), .ref (cx "NoFun"), .ref (cx "NoIndex"), .ref (cx "NoName"), .ref (cx "NoOrnament")] = some false
  i_b2 : PySem.W.kitAny K (.ref CB) [.ref (cx "NoText"), .ref (cx "Taken"), .ref (cx "TooLong"), .ref (cx "Unlike")] = some false
  i_bv : PySem.W.kitOne K (.ref CB) (.type "ValueError") = some true
  i_bn : PySem.W.kitOne K (.ref CB) (.ref (cx "NoBook")) = some false
  i_bb : PySem.W.kitOne K (.ref CB) (.ref (cx "Bare")) = some true
  xi_n : XiC K CNb
  e_nk : PySem.W.exmOne K (.ref CNb) (.ref (cx "KindError")) = some true
  i_n1 : PySem.W.kitAny K (.ref CNb) [.ref (cx "Gap"), .ref (cx "InUse"), .ref (cx "NoBack"), .ref (cx "NoDress"), .ref (cx "NoFall"), .ref (cx "NoFilling"), .ref (cx "NoFun"), .ref (cx "NoIndex"), .ref (cx "NoName"), .ref (cx "NoOrnament")] = some false
  i_n2 : PySem.W.kitAny K (.ref CNb) [.ref (cx "NoText"), .ref (cx "Taken"), .ref (cx "TooLong"), .ref (cx "Unlike")] = some false
  i_nv : PySem.W.kitOne K (.ref CNb) (.type "ValueError") = some true
  i_nn : PySem.W.kitOne K (.ref CNb) (.ref (cx "NoBook")) = some true
  i_nb : PySem.W.kitOne K (.ref CNb) (.ref (cx "Bare")) = some false
  nf_b : PySem.W.findIn K (.ref CB) "kind" = some none
/-- what is heard -/
def HeardB (d r : D) : Prop := (okD d = false ∧ r = .tup [.str "none"]) ∨ ∃ ks, d = kindsD ks ∧ Wk ks ∧ r = match bareK ks with | some k => .tup [.str "bare", .str k] | none => .tup [.str "book", d]
theorem ascii_name {x : Str} (h : nameOk x = true) : ascii x = true := ascii_mem.mpr fun c hc => by
  have := (nameOk_split h).2.2.2 c hc
  omega
theorem bareK_none {ks : List Kind} (h : ∀ k ∈ ks, wthy ks k.1 = true) : bareK ks = none := by
  unfold bareK
  rw [List.find?_eq_none.mpr fun k hk => by rw [h k hk]; decide]
  rfl
theorem bareK_some {ks pre post : List Kind} {k : Kind} (e : ks = pre ++ k :: post) (h : ∀ k' ∈ pre, wthy ks k'.1 = true) (h2 : wthy ks k.1 = false) : bareK ks = some k.1 := by
  unfold bareK
  have : (ks.find? fun k => !wthy ks k.1) = some k := by
    generalize wthy ks = w at h h2
    rw [e, List.find?_append, List.find?_eq_none.mpr fun k' hk => by rw [h k' hk]; decide, Option.none_or, List.find?_cons_of_pos (by rw [h2]; rfl)]
  rw [this]
  rfl
def spHeardB : DSp where
  n := 1
  f := fun ds Q _ => ∃ d, ds = [d] ∧ Fit d ∧ ∀ r, HeardB d r → Q r
  len := fun ds Q E ⟨_, e, _⟩ => by rw [e]; rfl
  mono := fun ds Q Q' E E' k _ ⟨ks, e, h, q⟩ => ⟨ks, e, h, fun r hr => k _ (q r hr)⟩
section
variable {P : Program} {w : World} {K : PySem.W.Frag} {C CB CNb a l : Addr} {cx : String → Addr} {mg : Str → Option Value} {base : Heap} {W : Wd} {k : Nat} {f : Addr} {fd : FuncData}
theorem ok_law_heardB (T : TxtB K C mg) (TX : TxtHd K CB CNb cx mg) (Fn : Fun K "_law_heard" "_law_heard" s__law_heard f fd) (CX_Book : CalC P w K mg base (L2.CX P w) W k "Book" C ["self", "kinds"] (spBookA C CB CNb)) : GnOk P w K mg base CX0 (k + 4) f fd ["_law_thing"] (spD W K spHeardB) := by
  refine Fn.okD sc__law_heard rfl fun cdv A outer s H I ds Q Ed E hr h => ?_
  have hu := hr.units
  obtain ⟨d, rfl, hd, q⟩ := h
  refine ⟨_, (dss_cons (ds_set 1 (de_tup (da_cons de_str da_nil)) sc__law_heard.nd)
  (dss_cons (ds_try rfl rfl sc__law_heard.nd takes_none5 letsS_none (fun B' I' W' pn xe u tk le =>
  (dss_one (ds_set 1 (de_tup (da_cons de_str (da_cons (de_fld T.cl_Book T.na_Book_kinds (de_makeS CX_Book (hr.mono (by omega)) tk le (da_cons (de_name 0) da_nil))) da_nil))) sc__law_heard.nd)))
  (.as 2 ⟨rfl, by decide, .inl TX.m_KindError⟩ rfl rfl (fun B' I' xa oe cls d pn x hz hf er =>
  (dss_cons (ds_set 3 (de_isXT hz hf er T.b_isinstance (de_name 2) (pcl_cons (cn_o TX.m_Gap) (.own _) (pcl_cons (cn_o TX.m_InUse) (.own _) (pcl_cons (cn_o TX.m_NoBack) (.own _) (pcl_cons (cn_o TX.m_NoDress) (.own _) (pcl_cons (cn_o TX.m_NoFall) (.own _) (pcl_cons (cn_o TX.m_NoFilling) (.own _) (pcl_cons (cn_o TX.m_NoFun) (.own _) (pcl_cons (cn_o TX.m_NoIndex) (.own _) (pcl_cons (cn_o TX.m_NoName) (.own _) (pcl_cons (cn_o TX.m_NoOrnament) (.own _) pcl_nil))))))))))) sc__law_heard.nd)
  (dss_cons (ds_set 3 (de_or (de_name 3) (de_or (de_isXT hz hf er T.b_isinstance (de_name 2) (pcl_cons (cn_o TX.m_NoText) (.own _) (pcl_cons (cn_o TX.m_Taken) (.own _) (pcl_cons (cn_o TX.m_TooLong) (.own _) (pcl_cons (cn_o TX.m_Unlike) (.own _) pcl_nil))))) (de_one (de_not (de_isX hz hf er T.b_isinstance (de_name 2) (cn_b (n := "ValueError") TX.b_ValueError) (.ty _)))))) sc__law_heard.nd)
  (dss_cons (ds_if (dt_wh (dw_and (dt_val (de_isX hz hf er T.b_isinstance (de_name 2) (cn_o TX.m_NoBook) (.own _))) (dw_and (dt_not (dt_val (de_name 3))) (dw_and1 (dt_not (dt_val (de_isX hz hf er T.b_isinstance (de_name 2) (cn_o TX.m_Bare) (.own _))))))))
  (dss_one (ds_set 1 (de_tup (da_cons de_str da_nil)) sc__law_heard.nd))
  dss_nil)
  (dss_one (ds_if (dt_wh (dw_and (dt_val (de_isX hz hf er T.b_isinstance (de_name 2) (cn_o TX.m_Bare) (.own _))) (dw_and (dt_not (dt_val (de_name 3))) (dw_and1 (dt_not (dt_val (de_isX hz hf er T.b_isinstance (de_name 2) (cn_o TX.m_NoBook) (.own _))))))))
  (dss_one (ds_set 1 (de_tup (da_cons de_str (da_cons (de_xf hz hf er (de_name 2)) da_nil))) sc__law_heard.nd))
  dss_nil))))))
  .nil))
  (dss_one (ds_ret (de_name 1))))), ?_⟩
  simp only [getD_0, getD_s, set_0, set_s, boolD_bl, intD_int, startD, List.map, List.length_cons, List.length_nil, List.replicate, List.cons_append, List.nil_append, defEnds, wipeD, if_true, if_false, Bool.not_true, Bool.not_false, Bool.false_eq_true]
  refine ⟨by decide, _, _, DEnds.le.rfl', fun _ _ h => h, ?_⟩
  refine ⟨d, rfl, hd, fun hno => ?_, fun ks e g => ⟨fun h => ?_, fun pre k post e2 h1 h2 => ?_⟩⟩
  · refine ⟨true, TX.e_nk, fun _ xa => ?_, fun h => (nomatch h)⟩
    refine ⟨CNb, false, rfl, TX.xi_n, TX.i_n1, _, rfl, rfl, ?_⟩
    refine ⟨_, rfl, ?_⟩
    show boolD (.bl false) _
    rw [boolD_bl, if_neg (by decide)]
    refine ⟨CNb, false, rfl, TX.xi_n, TX.i_n2, _, rfl, rfl, ?_⟩
    refine ⟨CNb, true, rfl, TX.xi_n, TX.i_nv, _, rfl, rfl, ?_⟩
    refine ⟨CNb, true, rfl, TX.xi_n, TX.i_nn, _, rfl, rfl, ?_⟩
    rw [if_pos rfl]
    refine ⟨_, rfl, ?_⟩
    show boolD (.bl false) _
    rw [boolD_bl, if_pos (by decide)]
    refine ⟨CNb, false, rfl, TX.xi_n, TX.i_nb, _, rfl, rfl, ?_⟩
    rw [if_pos (by decide)]
    refine ⟨by decide, ?_⟩
    refine ⟨CNb, false, rfl, TX.xi_n, TX.i_nb, _, rfl, rfl, ?_⟩
    rw [if_neg (by decide)]
    exact ⟨_, rfl, q _ (.inl ⟨hno, rfl⟩)⟩
  · subst e
    refine ⟨_, _, rfl, rfl, by decide, _, rfl, q _ (.inr ⟨ks, rfl, g, ?_⟩)⟩
    rw [bareK_none h]
  · subst e
    refine ⟨true, TX.e_bk, fun _ xa => ?_, fun h => (nomatch h)⟩
    refine ⟨CB, false, rfl, TX.xi_b, TX.i_b1, _, rfl, rfl, ?_⟩
    refine ⟨_, rfl, ?_⟩
    show boolD (.bl false) _
    rw [boolD_bl, if_neg (by decide)]
    refine ⟨CB, false, rfl, TX.xi_b, TX.i_b2, _, rfl, rfl, ?_⟩
    refine ⟨CB, true, rfl, TX.xi_b, TX.i_bv, _, rfl, rfl, ?_⟩
    refine ⟨CB, false, rfl, TX.xi_b, TX.i_bn, _, rfl, rfl, ?_⟩
    rw [if_neg (by decide)]
    refine ⟨CB, true, rfl, TX.xi_b, TX.i_bb, _, rfl, rfl, ?_⟩
    rw [if_pos rfl]
    refine ⟨_, rfl, ?_⟩
    show boolD (.bl false) _
    rw [boolD_bl, if_pos (by decide)]
    refine ⟨CB, false, rfl, TX.xi_b, TX.i_bn, _, rfl, rfl, ?_⟩
    rw [if_pos (by decide)]
    refine ⟨CB, rfl, TX.xi_b.xf, TX.nf_b, _, rfl, rfl, _, rfl, by decide, ?_⟩
    refine ⟨_, rfl, q _ (.inr ⟨ks, rfl, g, ?_⟩)⟩
    rw [bareK_some e2 h1 h2]
def spRightA : DSp where
  n := 1
  f := fun ds Q _ => ∃ d n, ds = [d] ∧ Fit d ∧ dpD d ≤ n ∧ n ≤ 50 ∧ Q (.bl true)
  len := fun ds Q E ⟨_, _, e, _⟩ => by rw [e]; rfl
  mono := fun ds Q Q' E E' k _ ⟨d, n, e, h, h2, h3, q⟩ => ⟨d, n, e, h, h2, h3, k _ q⟩
theorem neD_bb {b : Bool} {Q : D → Prop} (q : Q (.bl false)) : neD (.bl b) (.bl b) Q := by
  have e : deq (.bl b) (.bl b) = true := by simp [deq, toPy, PyData.eqv]
  simp [neD, canEq, scalD, mixD, e]
  exact q
theorem ok_law_rightA (T : TxtA K C mg) (Fn : Fun K "_law_right" "_law_right" s__law_right f fd) (C__law_is_kinds : Cal P w K mg base CX0 W k "_law_is_kinds" ["_law_thing"] spKindsA) (C_is_kinds : Cal P w K mg base CX0 W k "is_kinds" ["thing"] spKindsA) (C__law_bare : Cal P w K mg base CX0 W k "_law_bare" ["_law_kinds_here"] spBareL) (C__law_heard : Cal P w K mg base CX0 W k "_law_heard" ["_law_thing"] spHeardB) : GnOk P w K mg base CX0 (k + 1) f fd ["_law_thing"] (spD W K spRightA) := by
  refine Fn.okD sc__law_right rfl fun cdv A outer s H I ds Q Ed E hr h => ?_
  have hu := hr.units
  obtain ⟨d, n, rfl, hd, hn, hn50, q⟩ := h
  refine ⟨_, (dss_cons (by first | exact (ds_par (i := 1) (j := 2) rfl sc__law_right.nd rfl rfl (by decide) rfl rfl (da_cons (de_reprF T.b_repr hr.gd hu (da_cons (de_name 0) da_nil)) (da_cons (de_fn C__law_is_kinds (hr.mono (by omega)) pass0 lets0 (da_cons (de_name 0) da_nil)) da_nil))) | exact (ds_asg (de_tup (da_cons (de_reprF T.b_repr hr.gd hu (da_cons (de_name 0) da_nil)) (da_cons (de_fn C__law_is_kinds (hr.mono (by omega)) pass0 lets0 (da_cons (de_name 0) da_nil)) da_nil))) (dg_tup (n := 2) rfl (dgs_cons (dg_name 1 sc__law_right.nd) (dgs_cons (dg_name 2 sc__law_right.nd) dgs_nil)))))
  (dss_cons (ds_set 3 (de_fn C_is_kinds (hr.mono (by omega)) pass0 lets0 (da_cons (de_name 0) da_nil)) sc__law_right.nd)
  (dss_cons (ds_if (dt_wh (dw_or (dt_not (dt_val (de_isi is_bool T.b_isinstance T.b_bool (by decide +kernel) (de_name 3)))) (dw_or1 (dt_c (.ne hu) (de_name 3) (de_name 2)))))
  (dss_one (ds_ret de_bl))
  dss_nil)
  (dss_cons (ds_set 4 (de_tup (da_cons de_str da_nil)) sc__law_right.nd)
  (dss_cons (ds_if (dt_val (de_name 2))
  (dss_cons (ds_set 5 (de_fn C__law_bare (hr.mono (by omega)) pass0 lets0 (da_cons (de_name 0) da_nil)) sc__law_right.nd)
  (dss_one (ds_set 4 (de_if (dt_isN (de_name 5)) (de_tup (da_cons de_str (da_cons (de_name 0) da_nil))) (de_tup (da_cons de_str (da_cons (de_name 5) da_nil)))) sc__law_right.nd)))
  dss_nil)
  (dss_one (ds_ret (de_and (de_c (.eq hu) (de_reprF T.b_repr hr.gd hu (da_cons (de_fn C__law_heard (hr.mono (by omega)) pass0 lets0 (da_cons (de_name 0) da_nil)) da_nil)) (de_reprF T.b_repr hr.gd hu (da_cons (de_name 4) da_nil))) (de_one (de_c (.eq hu) (de_reprF T.b_repr hr.gd hu (da_cons (de_name 0) da_nil)) (de_name 1))))))))))), ?_⟩
  simp only [getD_0, getD_s, set_0, set_s, boolD_bl, intD_int, startD, List.map, List.length_cons, List.length_nil, List.replicate, List.cons_append, List.nil_append, defEnds, wipeD, if_true, if_false, Bool.not_true, Bool.not_false, Bool.false_eq_true]
  have rep : ∀ {x : D} {R : D → Prop}, Tg 55 210000 x → R (.str (pyF x).shown) → reprF [x] R := fun t r => repr_any t.g (Nat.le_trans t.wt (by decide)) (Nat.le_trans t.dp (by decide)) r
  have td : Tg 50 200000 d := ⟨hd.g, Nat.le_trans hn hn50, hd.w⟩
  have sw : ∀ {k : Nat} (x : Str), ascii x = true → x.length ≤ 8 → Tg k 92 (.str x) := fun x h l => .str h (by omega)
  have eqq : ∀ {x : Str} {R : D → Prop}, R (.bl true) → eqD (.str x) (.str x) R := fun r => by
    rw [eqD_str, decide_eq_true rfl]
    exact r
  have fin : reprF [d] fun x => eqD x (.str (pyF d).shown) Q := rep (td.mono (by decide) (by decide)) (eqq q)
  refine rep (td.mono (by decide) (by decide)) ⟨d, rfl, hd, _, _, rfl, d, rfl, hd, rfl, ?_⟩
  rw [if_neg (by simp [isBl])]
  refine neD_bb ?_
  rw [boolD_bl, if_neg (by decide)]
  refine ⟨by decide, ?_⟩
  rw [boolD_bl]
  cases hok : okD d with
  | false =>
    rw [if_neg (by decide)]
    refine ⟨d, rfl, hd, fun r hr => ?_⟩
    rcases hr with ⟨_, rfl⟩ | ⟨ks, rfl, g, _⟩
    · have tn : Tg 55 210000 (.tup [.str "none"]) := (Tgs.cons (sw (k := 0) "none" (by decide +kernel) (by decide)) (Tgs.nil (m := 0))).tup.mono (by decide) (by decide)
      refine rep tn (rep tn (eqq ?_))
      rw [boolD_bl, if_pos rfl]
      exact fin
    · rw [okD_kinds g.p, g.ok] at hok
      cases hok
  | true =>
    rw [if_pos rfl]
    obtain ⟨ks, rfl, gp, gk⟩ := okD_iff.mp hok
    have g : Wk ks := ⟨gp, gk, hd⟩
    refine ⟨ks, rfl, g, ?_⟩
    cases hb : bareK ks with
    | none =>
      have e : bareD ks = .non := by unfold bareD; rw [hb]
      rw [e, if_pos (show Dk.isNon .non = true from rfl)]
      refine ⟨by decide, _, rfl, hd, fun r hr => ?_⟩
      rcases hr with ⟨h0, _⟩ | ⟨ks', e2, g', rfl⟩
      · rw [hok] at h0
        cases h0
      · obtain rfl := kindsD_inj e2
        rw [hb]
        have tn : Tg 55 210000 (.tup [.str "book", kindsD ks]) := (Tgs.cons (sw (k := 50) "book" (by decide +kernel) (by decide)) (Tgs.cons td (Tgs.nil (m := 0)))).tup.mono (by decide) (by decide)
        refine rep tn (rep tn (eqq ?_))
        rw [boolD_bl, if_pos rfl]
        exact fin
    | some x =>
      have e : bareD ks = .str x := by unfold bareD; rw [hb]
      rw [e, if_neg (by simp [Dk.isNon])]
      refine ⟨by decide, _, rfl, hd, fun r hr => ?_⟩
      have hx : nameOk x = true := by
        unfold bareK at hb
        obtain ⟨k0, h1, h2⟩ := Option.map_eq_some_iff.mp hb
        rw [← h2]
        exact gp.kn k0 (List.mem_of_find?_eq_some h1)
      rcases hr with ⟨h0, _⟩ | ⟨ks', e2, g', rfl⟩
      · rw [hok] at h0
        cases h0
      · obtain rfl := kindsD_inj e2
        rw [hb]
        have tn : Tg 55 210000 (.tup [.str "bare", .str x]) := (Tgs.cons (sw (k := 0) "bare" (by decide +kernel) (by decide)) (Tgs.cons (sw (k := 0) x (ascii_name hx) (nameOk_split hx).2.1) (Tgs.nil (m := 0)))).tup.mono (by decide) (by decide)
        refine rep tn (rep tn (eqq ?_))
        rw [boolD_bl, if_pos rfl]
        exact fin
end
end KB
namespace KB
open PySem L2 Dk
def cw (i : Nat) : Nat := [8, 3, 3, 2, 1, 1].getD i 0
def sw (i : Nat) : Nat := [1, 4, 13, 27, 28, 29].getD i 29
/-- fields of a bough by which the i-th kind has worths -/
def wit (names : List Str) (i : Nat) (fs : List Str) : Prop := (∀ f ∈ fs, f = numS ∨ f ∈ names.take i) ∧ (fs.filter fun f => !decide (f = numS)).length ≤ cw i
theorem cw3 : ∀ i, i < 3 → 3 ≤ cw i := by decide
theorem sw_le : ∀ i, i < 6 → ∀ j, j < i → sw j ≤ sw (i - 1) := by decide
theorem sw_ok : ∀ i, i < 6 → 0 < i → 1 + cw i * sw (i - 1) ≤ sw i := by decide
theorem sw_29 : ∀ i, i < 6 → sw i ≤ 29 := by decide
theorem sum_le_mul {α : Type} {l : List α} {s : α → Nat} {M : Nat} (h : ∀ a ∈ l, s a ≤ M) : (l.map s).sum ≤ l.length * M := by
  induction l with
  | nil => simp
  | cons a l ih =>
    have h1 := h a (by simp)
    have h2 := ih fun b hb => h b (List.mem_cons_of_mem _ hb)
    rw [List.map_cons, List.sum_cons, List.length_cons, Nat.succ_mul]
    omega
/-- kinds made so far: by the first of `names`, boughs by some of n12, the others left -/
structure Made (names n12 : List Str) (found : List Kind) (left : List Str) : Prop where
  nm : kNames found = names.take found.length
  le : found.length ≤ names.length
  pm : (bNames found ++ left).Perm n12
  ln : ∀ k ∈ found, k.2.length ≤ 8
  fld : ∀ k ∈ found, ∀ b ∈ k.2, b.2.length ≤ 8 ∧ ∀ f ∈ b.2, f = numS ∨ f ∈ names
  wf : ∀ i k, found[i]? = some k → ∃ b ∈ k.2, wit names i b.2
/-- .. and the rows of the next one -/
structure Rows (names n12 : List Str) (found : List Kind) (rows : List Bough) (left : List Str) : Prop where
  pm : (bNames found ++ (rows.map (·.1) ++ left)).Perm n12
  fld : ∀ b ∈ rows, b.2.length ≤ 8 ∧ ∀ f ∈ b.2, f = numS ∨ f ∈ names
theorem bNames_app (a b : List Kind) : bNames (a ++ b) = bNames a ++ bNames b := by unfold bNames; rw [List.flatMap_append]
theorem Made.nil {names n12 : List Str} : Made names n12 [] n12 where
  nm := rfl
  le := Nat.zero_le _
  pm := List.Perm.refl _
  ln := by simp
  fld := by simp
  wf := by simp
theorem Made.rows {names n12 : List Str} {found : List Kind} {left : List Str} (m : Made names n12 found left) : Rows names n12 found [] left := ⟨m.pm, by simp⟩
theorem Rows.add {names n12 : List Str} {found : List Kind} {rows : List Bough} {left : List Str} {x : Str} {fs : List Str} (r : Rows names n12 found rows (left ++ [x])) (h8 : fs.length ≤ 8) (hf : ∀ f ∈ fs, f = numS ∨ f ∈ names) : Rows names n12 found (rows ++ [(x, fs)]) left where
  pm := by
    refine List.Perm.trans (List.Perm.append_left _ ?_) r.pm
    rw [List.map_append, List.append_assoc]
    exact List.Perm.append_left _ List.perm_append_comm
  fld := fun b hb => by
    rcases List.mem_append.mp hb with h | h
    · exact r.fld b h
    · obtain rfl := List.mem_singleton.mp h
      exact ⟨h8, hf⟩
theorem Made.add {names n12 : List Str} {found : List Kind} {rows rows' : List Bough} {left left0 : List Str} {n : Str} (m : Made names n12 found left0) (r : Rows names n12 found rows left) (hn : names[found.length]? = some n) (hp : rows'.Perm rows) (h8 : rows.length ≤ 8)
    (hw : ∃ b ∈ rows, wit names found.length b.2) : Made names n12 (found ++ [(n, rows')]) left where
  nm := by
    have hlt := (List.getElem?_eq_some_iff.mp hn).1
    have e := (List.getElem?_eq_some_iff.mp hn).2
    rw [List.length_append, List.length_singleton, List.take_add_one, hn]
    unfold kNames
    rw [List.map_append]
    have := m.nm
    unfold kNames at this
    rw [this]
    rfl
  le := by
    have hlt := (List.getElem?_eq_some_iff.mp hn).1
    simp; omega
  pm := by
    refine List.Perm.trans ?_ r.pm
    rw [bNames_app, List.append_assoc]
    refine List.Perm.append_left _ (List.Perm.append_right _ ?_)
    unfold bNames
    simp only [List.flatMap_cons, List.flatMap_nil, List.append_nil]
    exact hp.map _
  ln := fun k hk => by
    rcases List.mem_append.mp hk with h | h
    · exact m.ln k h
    · obtain rfl := List.mem_singleton.mp h
      rw [hp.length_eq]; exact h8
  fld := fun k hk b hb => by
    rcases List.mem_append.mp hk with h | h
    · exact m.fld k h b hb
    · obtain rfl := List.mem_singleton.mp h
      exact r.fld b (hp.mem_iff.mp hb)
  wf := fun i k hi => by
    by_cases hlt : i < found.length
    · rw [List.getElem?_append_left hlt] at hi
      exact m.wf i k hi
    · rw [List.getElem?_append_right (by omega)] at hi
      have h0 : i - found.length = 0 := by
        have := (List.getElem?_eq_some_iff.mp hi).1
        simp at this; omega
      rw [h0] at hi
      cases hi
      have : i = found.length := by omega
      subst this
      obtain ⟨b, hb, h⟩ := hw
      exact ⟨b, hp.mem_iff.mpr hb, h⟩
theorem Made.good {names n12 : List Str} {found : List Kind} {left : List Str} (m : Made names n12 found left) (nd : names.Nodup) (ok : ∀ x ∈ names, nameOk x = true) (nd2 : n12.Nodup) (ok2 : ∀ x ∈ n12, nameOk x = true)
    (hl : found.length = names.length) (h1 : 1 ≤ names.length) (h6 : names.length ≤ 6) : Good found := by
  have enm : kNames found = names := by rw [m.nm, hl, List.take_length]
  have bmem : ∀ k ∈ found, ∀ b ∈ k.2, b.1 ∈ n12 := fun k hk b hb => m.pm.mem_iff.mp (List.mem_append_left _ (List.mem_flatMap.mpr ⟨k, hk, List.mem_map_of_mem hb⟩))
  refine ⟨fun e => ?_, fun k hk => ok _ (enm ▸ List.mem_map_of_mem hk), fun k hk e => ?_, fun k hk b hb => ok2 _ (bmem k hk b hb), enm ▸ nd, ?_, fun k hk b hb f hf => enm ▸ (m.fld k hk b hb).2 f hf, ?_, by omega, m.ln, fun k hk b hb => (m.fld k hk b hb).1⟩
  · subst e; simp at hl; omega
  · obtain ⟨i, hi⟩ := List.getElem?_of_mem hk
    obtain ⟨b, hb, _⟩ := m.wf i k hi
    rw [e] at hb
    cases hb
  · have := m.pm.nodup_iff.mpr nd2
    exact (List.nodup_append.mp this).1
  · refine ⟨fun f => names.idxOf f, fun f => sw (names.idxOf f), fun k hk => ?_⟩
    obtain ⟨i, hi⟩ := List.getElem?_of_mem hk
    have hin : names[i]? = some k.1 := by
      rw [← enm]; unfold kNames; rw [List.getElem?_map, hi]; rfl
    have hlt := (List.getElem?_eq_some_iff.mp hin).1
    have hidx : names.idxOf k.1 = i := by
      have e := (List.getElem?_eq_some_iff.mp hin).2
      rw [← e]
      exact nd.idxOf_getElem i hlt
    have lower : ∀ f ∈ names.take i, names.idxOf f < i := fun f ht => by
      obtain ⟨j, hj⟩ := List.getElem?_of_mem ht
      have hj2 := (List.getElem?_eq_some_iff.mp hj).1
      rw [List.length_take] at hj2
      have hjn : names[j]? = some f := by
        rw [List.getElem?_take] at hj
        split at hj
        · exact hj
        · cases hj
      have e := (List.getElem?_eq_some_iff.mp hjn).2
      have hl2 := (List.getElem?_eq_some_iff.mp hjn).1
      rw [← e, nd.idxOf_getElem j hl2]
      omega
    obtain ⟨b, hb, h, hc⟩ := m.wf i k hi
    refine ⟨by show names.idxOf k.1 < _; rw [hidx]; omega, by show sw (names.idxOf k.1) ≤ 29; rw [hidx]; exact sw_29 i (by omega), b, hb, fun f hf => (h f hf).imp id fun ht => ⟨enm ▸ List.mem_of_mem_take ht, ?_⟩, ?_⟩
    · show names.idxOf f < names.idxOf k.1
      rw [hidx]
      exact lower f ht
    · show 1 + wsum (fun f => sw (names.idxOf f)) b.2 ≤ sw (names.idxOf k.1)
      rw [hidx]
      have hin2 : ∀ f ∈ b.2.filter (fun f => !decide (f = numS)), names.idxOf f < i := fun f hf => by
        obtain ⟨h1, h2⟩ := List.mem_filter.mp hf
        rcases h f h1 with e | ht
        · simp [e] at h2
        · exact lower f ht
      by_cases hz : i = 0
      · have e : b.2.filter (fun f => !decide (f = numS)) = [] := by
          rw [List.eq_nil_iff_forall_not_mem]
          intro f hf
          have := hin2 f hf
          omega
        unfold wsum
        rw [e, hz]
        exact Nat.le_refl 1
      · have h1 := sum_le_mul (s := fun f => sw (names.idxOf f)) (M := sw (i - 1)) fun f hf => sw_le i (by omega) _ (hin2 f hf)
        have h2 := sw_ok i (by omega) (by omega)
        have h3 := Nat.mul_le_mul_right (sw (i - 1)) hc
        unfold wsum
        omega
theorem rot_perm {α : Type} (l : List α) (n : Nat) : (l.drop n ++ l.take n).Perm l := by
  have := List.perm_append_comm (l₁ := l.drop n) (l₂ := l.take n)
  rwa [List.take_append_drop] at this
theorem cutD_to (xs : List D) (k : Nat) : cutD xs none (some (k : Int)) = xs.take k := by
  unfold cutD
  rw [HT.sIx_none, HT.sIx_nat, List.drop_zero, Nat.sub_zero]
  by_cases z : k ≤ xs.length
  · rw [Nat.min_eq_left z]
  · rw [Nat.min_eq_right (by omega), List.take_of_length_le (Nat.le_refl _), List.take_of_length_le (by omega)]
theorem cutD_from (xs : List D) (k : Nat) : cutD xs (some (k : Int)) none = xs.drop k := by
  unfold cutD
  rw [HT.sIx_none, HT.sIx_nat]
  by_cases z : k ≤ xs.length
  · rw [Nat.min_eq_left z, List.take_of_length_le (by simp)]
  · rw [Nat.min_eq_right (by omega), List.drop_of_length_le (Nat.le_refl _), List.drop_of_length_le (by omega)]
    simp
theorem cutD_mem {xs : List D} {a b : Option Int} {d : D} (h : d ∈ cutD xs a b) : d ∈ xs := by
  unfold cutD at h
  exact List.mem_of_mem_drop (List.mem_of_mem_take h)
theorem cutD_len (xs : List D) (a b : Option Int) : (cutD xs a b).length ≤ xs.length := by
  unfold cutD
  rw [List.length_take, List.length_drop]
  omega
theorem last_of {α : Type} {l : List α} (h : 1 ≤ l.length) : ∃ l' x, l = l' ++ [x] := by
  have hne : l ≠ [] := by rintro rfl; simp at h
  exact ⟨_, _, (List.dropLast_concat_getLast hne).symm⟩
theorem log_small {v : Int} (h : v.natAbs < 2 ^ 20) : v.natAbs.log2 < 9000 := by
  by_cases z : v.natAbs = 0
  · rw [z]; decide
  · exact Nat.lt_of_lt_of_le ((Nat.log2_lt z).mpr h) (by decide)
theorem small_len {n : Nat} (h : n ≤ 1000) : n ≤ sizeLine := Nat.le_trans h (by decide)
theorem small_lt {n : Nat} (h : n ≤ 1000) : n < sizeLine := Nat.lt_of_le_of_lt h (by decide)
end KB
namespace KB
open PySem L2 Dk
open PyProof.Rows (envOfC)
abbrev s__law_kinds : Stmt := top 39
theorem sc__law_kinds : FnScope ["_law_deck_here", "_law_many", "_law_names_here", "_law_left", "_law_found", "_law_k", "_law_rows", "_law_j", "_law_turn", "_law_fields", "_law_at"] ["_law_deck_here"] (defScope s__law_kinds) := ⟨rfl, rfl, rfl, by decide +kernel, rfl, by decide +kernel, by decide +kernel⟩
theorem bd__law_kinds (kV doc pm : Value) (an : Option Addr) (cdv ct : Value) (us : List Value) (hl : us.length = 1) : bindArgs (PySem.W.fnOf "_law_kinds" "_law_kinds" (defArgs s__law_kinds) (defBody s__law_kinds) (defScope s__law_kinds) .none kV doc pm an cdv ct) ⟨us, []⟩ = pure ((["_law_deck_here"] : List Str).zip us) := by
  match us, hl with
  | [v0], _ => rfl
def spKinds (a : Addr) : DSp where
  n := 1
  f := fun ds Q _ => ds = [.opq a] ∧ ∀ ks, Good ks → Q (kindsD ks)
  len := fun ds Q E ⟨e, _⟩ => by rw [e]; rfl
  mono := fun ds Q Q' E E' k _ ⟨e, q⟩ => ⟨e, fun x hx => k _ (q x hx)⟩
section
variable {P : Program} {w : World} {K : PySem.W.Frag} {C a l : Addr} {mg : Str → Option Value} {base : Heap} {k : Nat} {f : Addr} {fd : FuncData}
theorem ok_kinds (T : TxtB K C mg) (Fn : Fun K "_law_kinds" "_law_kinds" s__law_kinds f fd) (C__law_draw : Cal P w K mg base CX0 (DeckW a l) k "_law_draw" ["_law_deck_here", "_law_most"] (spDraw a))
    (C__law_pick : Cal P w K mg base CX0 (DeckW a l) k "_law_pick" ["_law_deck_here", "_law_some"] (spPick a)) (CO__law_names : CalO P w K mg base (DeckW a l) k "_law_names" ["_law_deck_here", "_law_many"] (spNames a)) : GnOk P w K mg base CX0 (k + 1) f fd ["_law_deck_here"] (spD (DeckW a l) K (spKinds a)) := by
  have C__law_names := CO__law_names.cal
  refine Fn.okD sc__law_kinds rfl fun cdv A outer s H I ds Q Ed E hr h => ?_
  have hu := hr.units
  obtain ⟨rfl, q⟩ := h
  refine ⟨_, (dss_cons (ds_set 1 (de_add de_int (de_fn C__law_draw (hr.mono (by omega)) pass0 lets0 (da_cons (de_name 0) (da_cons de_int da_nil)))) sc__law_kinds.nd)
  (dss_cons (by first | exact (ds_parO (i := 2) (j := 3) rfl sc__law_kinds.nd rfl rfl (by decide) rfl rfl (de_fn C__law_names (hr.mono (by omega)) pass0 lets0 (da_cons (de_name 0) (da_cons (de_name 1) da_nil))) (deo_fn CO__law_names (hr.mono (by omega)) (da_cons (de_name 0) (da_cons de_int da_nil)))) | exact (ds_parOc (i := 2) (j := 3) rfl sc__law_kinds.nd rfl rfl (by decide) (by first | exact Or.inl rfl | exact Or.inr rfl) (by first | exact Or.inl rfl | exact Or.inr rfl) (by first | exact .inl rfl | exact .inr rfl) (by first | exact .inl rfl | exact .inr rfl) (de_fn C__law_names (hr.mono (by omega)) pass0 lets0 (da_cons (de_name 0) (da_cons (de_name 1) da_nil))) (deo_fn CO__law_names (hr.mono (by omega)) (da_cons (de_name 0) (da_cons de_int da_nil)))))
  (dss_cons (ds_own 4 da_nil sc__law_kinds.nd)
  (dss_cons (ds_for PassesOwn.never rfl (di_range1 T.b_range (da_cons (de_name 1) da_nil)) (dg_name 5 sc__law_kinds.nd)
  (dss_cons (ds_ownS 6 (das_cons (des_tup (das_cons (des_pop 3) (das_cons (des_of (de_tuple T.b_tuple (da_cons (de_lc (own := [("_law_j", 7)]) rfl sc__law_kinds.nd (di_range1 T.b_range (da_cons (de_fn C__law_draw (hr.mono (by omega)) pass0 lets0 (da_cons (de_name 0) (da_cons de_int da_nil))) da_nil)) (blkOk_by (own := [("_law_j", 7)]) (N := ["_law_deck_here", "_law_many", "_law_names_here", "_law_left", "_law_found", "_law_k", "_law_rows", "_law_j", "_law_turn", "_law_fields", "_law_at"]) (sc := defScope s__law_kinds) (by decide +kernel)) (fun _ _ _ _ _ => (dg_name 7 sc__law_kinds.nd)) (fun _ _ _ _ _ => dif_nil) (fun _ _ _ _ _ => (de_fn C__law_pick (hr.mono (by omega)) pass0 lets0 (da_cons (de_name 0) (da_cons (de_add (de_lst (da_cons de_str da_nil)) (de_slice (de_name 2) do_none (do_some (de_name 5)))) da_nil))))) da_nil))) das_nil))) das_nil) sc__law_kinds.nd)
  (dss_cons (ds_for PassesOwn.never rfl (di_range1 T.b_range (da_cons (de_fn C__law_draw (hr.mono (by omega)) pass0 lets0 (da_cons (de_name 0) (da_cons de_int da_nil))) da_nil)) (dg_name 8 sc__law_kinds.nd)
  (dss_cons (by first | exact (ds_setLc (i := 9) (own := [("_law_j", 7)]) rfl sc__law_kinds.nd rfl rfl (sw_true rfl rfl rfl (by decide +kernel)) (di_range1 T.b_range (da_cons (de_add de_int (de_fn C__law_draw (hr.mono (by omega)) pass0 lets0 (da_cons (de_name 0) (da_cons de_int da_nil)))) da_nil)) (blkOk_by (own := [("_law_j", 7)]) (N := ["_law_deck_here", "_law_many", "_law_names_here", "_law_left", "_law_found", "_law_k", "_law_rows", "_law_j", "_law_turn", "_law_fields", "_law_at"]) (sc := defScope s__law_kinds) (by decide +kernel)) (fun _ _ _ _ _ => (dg_name 7 sc__law_kinds.nd)) (fun _ _ _ _ _ => dif_nil) (fun _ _ _ _ _ => (de_fn C__law_pick (hr.mono (by omega)) pass0 lets0 (da_cons (de_name 0) (da_cons (de_add (de_add (de_lst (da_cons de_str da_nil)) (de_name 2)) (de_mul (de_slice (de_name 2) (do_some (de_name 5)) (do_some (de_add (de_name 5) de_int))) de_int)) da_nil))))) | exact (ds_set 9 (de_lc (own := [("_law_j", 7)]) rfl sc__law_kinds.nd (di_range1 T.b_range (da_cons (de_add de_int (de_fn C__law_draw (hr.mono (by omega)) pass0 lets0 (da_cons (de_name 0) (da_cons de_int da_nil)))) da_nil)) (blkOk_by (own := [("_law_j", 7)]) (N := ["_law_deck_here", "_law_many", "_law_names_here", "_law_left", "_law_found", "_law_k", "_law_rows", "_law_j", "_law_turn", "_law_fields", "_law_at"]) (sc := defScope s__law_kinds) (by decide +kernel)) (fun _ _ _ _ _ => (dg_name 7 sc__law_kinds.nd)) (fun _ _ _ _ _ => dif_nil) (fun _ _ _ _ _ => (de_fn C__law_pick (hr.mono (by omega)) pass0 lets0 (da_cons (de_name 0) (da_cons (de_add (de_add (de_lst (da_cons de_str da_nil)) (de_name 2)) (de_mul (de_slice (de_name 2) (do_some (de_name 5)) (do_some (de_add (de_name 5) de_int))) de_int)) da_nil))))) sc__law_kinds.nd))
  (dss_one (ds_appendS 6 (des_tup (das_cons (des_pop 3) (das_cons (des_of (de_tuple T.b_tuple (da_cons (de_name 9) da_nil))) das_nil)))))))
  (dss_freeze 6
  (dss_cons (ds_set 10 (de_fn C__law_draw (hr.mono (by omega)) pass0 lets0 (da_cons (de_name 0) (da_cons (de_len T.b_len (da_cons (de_name 6) da_nil)) da_nil))) sc__law_kinds.nd)
  (dss_one (ds_append 4 (de_tup (da_cons (de_at hu (de_name 2) (de_name 5)) (da_cons (de_tuple T.b_tuple (da_cons (de_add (de_slice (de_name 6) (do_some (de_name 10)) do_none) (de_slice (de_name 6) do_none (do_some (de_name 10)))) da_nil)) da_nil))))))))))
  (dss_freeze 4
  (dss_one (ds_ret (de_tuple T.b_tuple (da_cons (de_name 4) da_nil))))))))), ?_⟩
  simp only [getD_0, getD_s, set_0, set_s, boolD_bl, intD_int, startD, List.map, List.length_cons, List.length_nil, List.replicate, List.cons_append, List.nil_append, defEnds, wipeD, if_true, if_false, Bool.not_true, Bool.not_false, Bool.false_eq_true]
  refine ⟨3, rfl, by decide, by decide, fun mm m0 m1 => ?_⟩
  obtain ⟨m', rfl⟩ := Int.eq_ofNat_of_zero_le m0
  have em : (1 : Int) + (m' : Int) = ((m' + 1 : Nat) : Int) := by omega
  have hm : 1 ≤ m' + 1 ∧ m' + 1 ≤ 3 := by omega
  generalize hM : m' + 1 = m at *
  simp only [addD]
  rw [em]
  refine ⟨m, rfl, hm.1, by omega, fun names hnl hnd hnok => ⟨12, rfl, by decide, by decide, fun n12 h12 hnd2 hok2 => ⟨Nat.zero_le _, (m : Int), rfl, by omega, by omega, ?_⟩⟩⟩
  rw [Int.toNat_natCast]
  refine forD_ind (fun (l : List D) ρ => ∃ (i : Nat) (found : List Kind) (left : List Str) (s5 s6 s7 s8 s9 s10 : Option Ent), i ≤ m ∧ l = (rngD 0 m).drop i ∧ found.length = i ∧ Made names n12 found left ∧ 12 ≤ left.length + 3 * i ∧ ρ = [some (.dat (.opq a)), some (.dat (.int m)), some (.dat (.lst (names.map D.str))), some (.own (left.map D.str)), some (.own (found.map kindD)), s5, s6, s7, s8, s9, s10]) (fun ρ ⟨i, found, left, s5, s6, s7, s8, s9, s10, hi, el, fl, md, hl, e⟩ => ?_) (fun d l ρ R ⟨i, found, left, s5, s6, s7, s8, s9, s10, hi, el, fl, md, hl, e⟩ hR => ?_) _ _ ⟨0, [], n12, none, none, none, none, none, none, Nat.zero_le _, rfl, rfl, .nil, by omega, rfl⟩
  · subst e
    have him : i = m := by
      by_cases z : i = m
      · exact z
      · exfalso
        have := congrArg List.length el
        rw [List.length_drop, rngD_length] at this
        simp at this
        omega
    refine ⟨_, rfl, trivial, ?_⟩
    simp only [getD_0, getD_s, set_0, set_s, boolD_bl, intD_int, startD, List.map, List.length_cons, List.length_nil, List.replicate, List.cons_append, List.nil_append, defEnds, wipeD, if_true, if_false, Bool.not_true, Bool.not_false, Bool.false_eq_true]
    exact q found (md.good hnd hnok hnd2 hok2 (by omega) (by omega) (by omega))
  · obtain ⟨hi', rfl, el'⟩ := rng_drop el
    subst e
    obtain ⟨left1, x, rfl⟩ := last_of (l := left) (by omega)
    refine ⟨left1.map D.str, .str x, by show some (some (Ent.own ((left1 ++ [x]).map D.str))) = _; rw [List.map_append]; rfl, ?_⟩
    simp only [getD_0, getD_s, set_0, set_s, boolD_bl, intD_int, startD, List.map, List.length_cons, List.length_nil, List.replicate, List.cons_append, List.nil_append, defEnds, wipeD, if_true, if_false, Bool.not_true, Bool.not_false, Bool.false_eq_true]
    refine ⟨3, rfl, by decide, by decide, fun cn c0 c1 => ?_⟩
    refine ⟨cn, rfl, by omega, by omega, by rw [rngD_length]; exact Nat.le_trans (show cn.toNat ≤ 3 by omega) (by decide), lcD_any D.str (fun f => f = numS ∨ f ∈ names.take i) (fun d hd R S hR => ?_) fun fs hfl hfs => ?_⟩
    · simp only [getD_0, getD_s, set_0, set_s, boolD_bl, intD_int, startD, List.map, List.length_cons, List.length_nil, List.replicate, List.cons_append, List.nil_append, defEnds, wipeD, if_true, if_false, Bool.not_true, Bool.not_false, Bool.false_eq_true]
      have hc := cutD_len (names.map D.str) none (some ((i : Nat) : Int))
      rw [List.length_map, hnl] at hc
      refine ⟨by decide, ?_⟩
      rw [show (0 + (i : Int)) = ((i : Nat) : Int) from by omega]
      refine ⟨Nat.le_trans (show _ ≤ 100 by simp only [List.length_cons, List.length_nil]; omega) (by decide), _, rfl, by simp, ?_, fun z hz => ?_⟩
      · simp only [List.length_append, List.length_cons, List.length_nil]; omega
      · rcases List.mem_append.mp hz with h | h
        · obtain rfl := List.mem_singleton.mp h
          exact hR numS (.inl rfl)
        · rw [cutD_to, ← List.map_take] at h
          obtain ⟨f, hf, rfl⟩ := List.mem_map.mp h
          exact hR f (.inr hf)
    rw [rngD_length] at hfl
    refine ⟨by decide, by decide, 3, rfl, by decide, by decide, fun tn t0 t1 => ⟨tn, rfl, by omega, by omega, ?_⟩⟩
    have r1 : Rows names n12 found [(x, fs)] left1 := md.rows.add (fs := fs) (by omega) fun f hf => (hfs f hf).imp id fun h => List.mem_of_mem_take h
    refine forD_ind (fun (l2 : List D) ρ => ∃ (j : Nat) (rows : List Bough) (left : List Str) (s7 s8 s9 : Option Ent), j ≤ tn.toNat ∧ l2 = (rngD 0 tn.toNat).drop j ∧ Rows names n12 found rows left ∧ (∃ b ∈ rows, wit names i b.2) ∧ rows.length = j + 1 ∧ 11 ≤ left.length + 3 * i + j ∧ ρ = [some (.dat (.opq a)), some (.dat (.int m)), some (.dat (.lst (names.map D.str))), some (.own (left.map D.str)), some (.own (found.map kindD)), some (.dat (.int (0 + (i : Int)))), some (.own (rows.map boughD)), s7, s8, s9, s10]) (fun ρ ⟨j, rows, left, s7, s8, s9, hj, el2, hr2, hw, hlen, hleft, e⟩ => ?_) (fun d l2 ρ R2 ⟨j, rows, left, s7, s8, s9, hj, el2, hr2, hw, hlen, hleft, e⟩ hR2 => ?_) _ _ ⟨0, [(x, fs)], left1, _, _, _, Nat.zero_le _, rfl, r1, ⟨(x, fs), by simp, hfs, Nat.le_trans (List.length_filter_le _ _) (Nat.le_trans (show fs.length ≤ 3 by omega) (cw3 i (by omega)))⟩, rfl, by simp at hl; omega, rfl⟩
    · subst e
      refine ⟨_, rfl, trivial, ?_⟩
      simp only [getD_0, getD_s, set_0, set_s, boolD_bl, intD_int, startD, List.map, List.length_cons, List.length_nil, List.replicate, List.cons_append, List.nil_append, defEnds, wipeD, if_true, if_false, Bool.not_true, Bool.not_false, Bool.false_eq_true]
      have ln : (rows.map boughD).length = j + 1 := by rw [List.length_map, hlen]
      refine ⟨((rows.map boughD).length : Int), rfl, by omega, log_small (by omega), fun at' a0 a1 => ?_⟩
      obtain ⟨n, rfl⟩ := Int.eq_ofNat_of_zero_le a0
      obtain ⟨nm', hnm⟩ : ∃ x, names[i]? = some x := ⟨names[i]'(by omega), List.getElem?_eq_getElem (by omega)⟩
      refine ⟨_, rfl, .str nm', ?_, ?_⟩
      · rw [show (0 + (i : Int)) = ((i : Nat) : Int) from by omega]
        exact atI_nat (by rw [List.getElem?_map, hnm]; rfl)
      have h1 := cutD_len (rows.map boughD) (some (n : Int)) none
      have h2 := cutD_len (rows.map boughD) none (some (n : Int))
      have er : cutD (rows.map boughD) (some (n : Int)) none ++ cutD (rows.map boughD) none (some (n : Int)) = (rows.drop n ++ rows.take n).map boughD := by rw [cutD_from, cutD_to, List.map_append, List.map_drop, List.map_take]
      simp only [intD_int]
      refine ⟨small_len (by omega), by decide, small_lt (by rw [List.length_map]; omega), ?_⟩
      have ef : found.map kindD ++ [D.tup [.str nm', .tup (cutD (rows.map boughD) (some (n : Int)) none ++ cutD (rows.map boughD) none (some (n : Int)))]] = (found ++ [(nm', rows.drop n ++ rows.take n)]).map kindD := by
        rw [er, List.map_append (f := kindD)]
        rfl
      rw [ef]
      exact hR _ ⟨i + 1, found ++ [(nm', rows.drop n ++ rows.take n)], left, _, _, _, _, _, _, hi', el', by simp [fl], md.add hr2 (by rw [fl]; exact hnm) (rot_perm rows n) (by omega) (by rw [fl]; exact hw), by omega, rfl⟩
    · obtain ⟨hj', rfl, el2'⟩ := rng_drop el2
      subst e
      simp only [getD_0, getD_s, set_0, set_s, boolD_bl, intD_int, startD, List.map, List.length_cons, List.length_nil, List.replicate, List.cons_append, List.nil_append, defEnds, wipeD, if_true, if_false, Bool.not_true, Bool.not_false, Bool.false_eq_true]
      refine ⟨3, rfl, by decide, by decide, fun un u0 u1 => ?_⟩
      refine ⟨1 + un, rfl, by omega, by omega, by rw [rngD_length]; exact Nat.le_trans (show (1 + un).toNat ≤ 3 by omega) (by decide), lcD_any D.str (fun f => f = numS ∨ f ∈ names) (fun d hd R S hR => ?_) fun gs hgl hgs => ?_⟩
      · simp only [getD_0, getD_s, set_0, set_s, boolD_bl, intD_int, startD, List.map, List.length_cons, List.length_nil, List.replicate, List.cons_append, List.nil_append, defEnds, wipeD, if_true, if_false, Bool.not_true, Bool.not_false, Bool.false_eq_true]
        have h1 := cutD_len (names.map D.str) (some (0 + (i : Int))) (some (0 + (i : Int) + 1))
        rw [List.length_map, hnl] at h1
        have hcm : ∀ d ∈ cutD (names.map D.str) (some (0 + (i : Int))) (some (0 + (i : Int) + 1)), d ∈ names.map D.str := fun d h => cutD_mem h
        refine ⟨by decide, small_len (by rw [List.length_map]; omega), ?_⟩
        simp only [sliceD]
        generalize cutD (names.map D.str) (some (0 + (i : Int))) (some (0 + (i : Int) + 1)) = c at h1 hcm
        have e2 : (List.replicate (2 : Int).toNat c).flatten = c ++ (c ++ []) := rfl
        refine ⟨by decide, by decide, small_len (by show c.length * 2 ≤ _; omega), ?_⟩
        rw [e2]
        refine ⟨small_len ?_, _, rfl, by simp, ?_, fun z hz => ?_⟩
        · simp only [List.length_cons, List.length_append, List.length_map, List.length_nil]; omega
        · simp only [List.length_cons, List.length_append, List.length_map, List.length_nil]; omega
        · have hz' : z = .str numS ∨ z ∈ names.map D.str := by
            rcases List.mem_append.mp hz with h | h
            · rcases List.mem_cons.mp h with h | h
              · exact .inl h
              · exact .inr h
            · rw [List.append_nil] at h
              rcases List.mem_append.mp h with h | h <;> exact .inr (hcm _ h)
          rcases hz' with rfl | h
          · exact hR numS (.inl rfl)
          · obtain ⟨f, hf, rfl⟩ := List.mem_map.mp h
            exact hR f (.inr hf)
      rw [rngD_length] at hgl
      obtain ⟨left2, y, rfl⟩ := last_of (l := left) (by omega)
      refine ⟨_, rfl, left2.map D.str, .str y, by show some (some (Ent.own ((left2 ++ [y]).map D.str))) = _; rw [List.map_append]; rfl, by decide, _, rfl, small_lt (by rw [List.length_map]; omega), ?_⟩
      have ef : rows.map boughD ++ [D.tup [.str y, .tup (gs.map D.str)]] = (rows ++ [(y, gs)]).map boughD := by
        rw [List.map_append (f := boughD)]
        rfl
      rw [ef]
      obtain ⟨b, hb, h⟩ := hw
      simp only [List.length_append, List.length_cons, List.length_nil] at hleft
      exact hR2 _ ⟨j + 1, rows ++ [(y, gs)], left2, _, _, _, hj', el2', hr2.add (by omega) hgs, ⟨b, List.mem_append_left _ hb, h⟩, by simp [hlen], by omega, rfl⟩
end
end KB
namespace KB
open PySem L2 Dk
open PyProof.Rows (envOfC)
abbrev s__law_letters : Stmt := top 38
theorem sc__law_letters : FnScope ["_law_number", "_law_letters_here", "_law_found"] ["_law_number"] (defScope s__law_letters) := ⟨rfl, rfl, rfl, by decide +kernel, rfl, by decide +kernel, by decide +kernel⟩
theorem bd__law_letters (kV doc pm : Value) (an : Option Addr) (cdv ct : Value) (us : List Value) (hl : us.length = 1) : bindArgs (PySem.W.fnOf "_law_letters" "_law_letters" (defArgs s__law_letters) (defBody s__law_letters) (defScope s__law_letters) .none kV doc pm an cdv ct) ⟨us, []⟩ = pure ((["_law_number"] : List Str).zip us) := by
  match us, hl with
  | [v0], _ => rfl
abbrev s__law_great_kinds : Stmt := top 40
theorem sc__law_great_kinds : FnScope ["_law_deck_here", "_law_first", "_law_step", "_law_names_here", "_law_k", "_law_at", "_law_found", "_law_rows", "_law_turn", "_law_fields", "_law_j"] ["_law_deck_here"] (defScope s__law_great_kinds) := ⟨rfl, rfl, rfl, by decide +kernel, rfl, by decide +kernel, by decide +kernel⟩
theorem bd__law_great_kinds (kV doc pm : Value) (an : Option Addr) (cdv ct : Value) (us : List Value) (hl : us.length = 1) : bindArgs (PySem.W.fnOf "_law_great_kinds" "_law_great_kinds" (defArgs s__law_great_kinds) (defBody s__law_great_kinds) (defScope s__law_great_kinds) .none kV doc pm an cdv ct) ⟨us, []⟩ = pure ((["_law_deck_here"] : List Str).zip us) := by
  match us, hl with
  | [v0], _ => rfl
abbrev s__law_any_kinds : Stmt := top 41
theorem sc__law_any_kinds : FnScope ["_law_deck_here"] ["_law_deck_here"] (defScope s__law_any_kinds) := ⟨rfl, rfl, rfl, by decide +kernel, rfl, by decide +kernel, by decide +kernel⟩
theorem bd__law_any_kinds (kV doc pm : Value) (an : Option Addr) (cdv ct : Value) (us : List Value) (hl : us.length = 1) : bindArgs (PySem.W.fnOf "_law_any_kinds" "_law_any_kinds" (defArgs s__law_any_kinds) (defBody s__law_any_kinds) (defScope s__law_any_kinds) .none kV doc pm an cdv ct) ⟨us, []⟩ = pure ((["_law_deck_here"] : List Str).zip us) := by
  match us, hl with
  | [v0], _ => rfl
abbrev s__law_names_in : Stmt := top 45
theorem sc__law_names_in : FnScope ["_law_kinds_here", "_law_found", "_law_kind", "_law_rows", "_law_bough", "_law_fields"] ["_law_kinds_here"] (defScope s__law_names_in) := ⟨rfl, rfl, rfl, by decide +kernel, rfl, by decide +kernel, by decide +kernel⟩
theorem bd__law_names_in (kV doc pm : Value) (an : Option Addr) (cdv ct : Value) (us : List Value) (hl : us.length = 1) : bindArgs (PySem.W.fnOf "_law_names_in" "_law_names_in" (defArgs s__law_names_in) (defBody s__law_names_in) (defScope s__law_names_in) .none kV doc pm an cdv ct) ⟨us, []⟩ = pure ((["_law_kinds_here"] : List Str).zip us) := by
  match us, hl with
  | [v0], _ => rfl
abbrev s__law_far_kinds : Stmt := top 51
theorem sc__law_far_kinds : FnScope ["_law_deck_here", "_law_first", "_law_names_here", "_law_k", "_law_many", "_law_found", "_law_rows", "_law_turn", "_law_long", "_law_j"] ["_law_deck_here"] (defScope s__law_far_kinds) := ⟨rfl, rfl, rfl, by decide +kernel, rfl, by decide +kernel, by decide +kernel⟩
theorem bd__law_far_kinds (kV doc pm : Value) (an : Option Addr) (cdv ct : Value) (us : List Value) (hl : us.length = 1) : bindArgs (PySem.W.fnOf "_law_far_kinds" "_law_far_kinds" (defArgs s__law_far_kinds) (defBody s__law_far_kinds) (defScope s__law_far_kinds) .none kV doc pm an cdv ct) ⟨us, []⟩ = pure ((["_law_deck_here"] : List Str).zip us) := by
  match us, hl with
  | [v0], _ => rfl
abbrev s__law_few_bare : Stmt := top 52
theorem sc__law_few_bare : FnScope ["_law_kinds_here", "_law_first", "_law_found"] ["_law_kinds_here"] (defScope s__law_few_bare) := ⟨rfl, rfl, rfl, by decide +kernel, rfl, by decide +kernel, by decide +kernel⟩
theorem bd__law_few_bare (kV doc pm : Value) (an : Option Addr) (cdv ct : Value) (us : List Value) (hl : us.length = 1) : bindArgs (PySem.W.fnOf "_law_few_bare" "_law_few_bare" (defArgs s__law_few_bare) (defBody s__law_few_bare) (defScope s__law_few_bare) .none kV doc pm an cdv ct) ⟨us, []⟩ = pure ((["_law_kinds_here"] : List Str).zip us) := by
  match us, hl with
  | [v0], _ => rfl
theorem snoc_of {α : Type} {l : List α} (h : l ≠ []) : ∃ p x, l = p ++ [x] := by
  rcases List.eq_nil_or_concat l with e | ⟨p, x, e⟩
  · exact absurd e h
  · exact ⟨p, x, by rw [e, List.concat_eq_append]⟩
theorem rng_mem {d : D} {n : Nat} (h : d ∈ rngD 0 n) : ∃ i : Nat, d = .int (i : Nat) ∧ i < n := by
  unfold rngD at h
  obtain ⟨i, hi, e⟩ := List.mem_map.mp h
  exact ⟨i, by rw [← e, Int.zero_add], List.mem_range.mp hi⟩
/-- a word of at most c signs -/
def wd (c : Nat) (x : Str) : Prop := ascii x = true ∧ x.length ≤ c
/-- eight good rows -/
def rowsOk (r : List Bough) : Prop := r.length = 8 ∧ ∀ b ∈ r, wd 3 b.1 ∧ (∀ f ∈ b.2, wd 3 f) ∧ b.2.length ≤ 8
structure Lk (c n1 n2 n3 : Nat) (ks : List Kind) : Prop where
  kn : ∀ k ∈ ks, wd c k.1
  bn : ∀ k ∈ ks, ∀ b ∈ k.2, wd c b.1
  fl : ∀ k ∈ ks, ∀ b ∈ k.2, ∀ f ∈ b.2, wd c f
  s1 : ks.length ≤ n1
  s2 : ∀ k ∈ ks, k.2.length ≤ n2
  s3 : ∀ k ∈ ks, ∀ b ∈ k.2, b.2.length ≤ n3
theorem Good.lk {ks : List Kind} (g : Good ks) : Lk 8 6 8 8 ks := by
  have w : ∀ x, nameOk x = true → wd 8 x := fun x h => ⟨ascii_name h, (nameOk_split h).2.1⟩
  refine ⟨fun k hk => w _ (g.kn k hk), fun k hk b hb => w _ (g.bn k hk b hb), fun k hk b hb f hf => ?_, g.s1, g.s2, g.s3⟩
  rcases g.fl k hk b hb f hf with rfl | h
  · exact ⟨by decide +kernel, by decide⟩
  · obtain ⟨k', hk', rfl⟩ := List.mem_map.mp h
    exact w _ (g.kn k' hk')
theorem tgs_map {α : Type} {f : α → D} {n m : Nat} : ∀ {l : List α} {c : Nat}, (∀ a ∈ l, Tg n m (f a)) → l.length ≤ c → Tgs n (c * (m + 2)) (l.map f)
  | [], c, _, _ => (Tgs.nil (m := 0)).mono (Nat.le_refl _) (Nat.zero_le _)
  | a :: l, 0, _, hl => by simp at hl
  | a :: l, c + 1, h, hl => by
    have h2 := tgs_map (l := l) (c := c) (fun x hx => h x (List.mem_cons_of_mem _ hx)) (by simpa using hl)
    rw [Nat.succ_mul]
    exact (Tgs.cons (h a (by simp)) h2).mono (Nat.le_refl _) (by omega)
def wB (c n3 : Nat) : Nat := 10 * c + 12 + 2 + (n3 * (10 * c + 12 + 2) + 13 + 2 + 0) + 13
def wK (c n2 n3 : Nat) : Nat := 10 * c + 12 + 2 + (n2 * (wB c n3 + 2) + 13 + 2 + 0) + 13
theorem tg_bough {c n3 : Nat} {b : Bough} (h1 : wd c b.1) (h2 : ∀ f ∈ b.2, wd c f) (h3 : b.2.length ≤ n3) : Tg 2 (wB c n3) (boughD b) := by
  have t1 : Tgs 0 (n3 * (10 * c + 12 + 2)) (b.2.map D.str) := tgs_map (fun f hf => .str (h2 f hf).1 (by have := (h2 f hf).2; omega)) h3
  have t2 : Tg 1 (10 * c + 12) (.str b.1) := .str h1.1 (by have := h1.2; omega)
  exact (Tgs.cons t2 (Tgs.cons t1.tup (Tgs.nil (m := 0)))).tup
theorem tg_kind {c n2 n3 : Nat} {k : Kind} (h1 : wd c k.1) (h2 : ∀ b ∈ k.2, wd c b.1 ∧ (∀ f ∈ b.2, wd c f) ∧ b.2.length ≤ n3) (h3 : k.2.length ≤ n2) : Tg 4 (wK c n2 n3) (kindD k) := by
  have t1 : Tgs 2 (n2 * (wB c n3 + 2)) (k.2.map boughD) := tgs_map (fun b hb => tg_bough (h2 b hb).1 (h2 b hb).2.1 (h2 b hb).2.2) h3
  have t2 : Tg 3 (10 * c + 12) (.str k.1) := .str h1.1 (by have := h1.2; omega)
  exact (Tgs.cons t2 (Tgs.cons t1.tup (Tgs.nil (m := 0)))).tup
theorem Lk.tgs {c n1 n2 n3 : Nat} {ks : List Kind} (h : Lk c n1 n2 n3 ks) : Tgs 4 (n1 * (wK c n2 n3 + 2)) (ks.map kindD) := tgs_map (fun k hk => tg_kind (h.kn k hk) (fun b hb => ⟨h.bn k hk b hb, h.fl k hk b hb, h.s3 k hk b hb⟩) (h.s2 k hk)) h.s1
theorem Lk.tg8 {ks : List Kind} (h : Lk 8 6 8 8 ks) : Tg 5 43000 (kindsD ks) := h.tgs.tup.mono (Nat.le_refl _) (by decide)
def spLetL : DSp where
  n := 1
  f := fun ds Q _ => ∃ n : Nat, ds = [.int n] ∧ n < 17576 ∧ ∀ x, wd 3 x → Q (.str x)
  len := fun ds Q E ⟨_, e, _⟩ => by rw [e]; rfl
  mono := fun ds Q Q' E E' k _ ⟨n, e, h, q⟩ => ⟨n, e, h, fun x hx => k _ (q x hx)⟩
def spKindsN (a : Addr) : DSp where
  n := 1
  f := fun ds Q _ => ds = [.opq a] ∧ ∀ ks, ks ≠ [] → Lk 8 6 8 8 ks → Q (kindsD ks)
  len := fun ds Q E ⟨e, _⟩ => by rw [e]; rfl
  mono := fun ds Q Q' E E' k _ ⟨e, q⟩ => ⟨e, fun ks h h2 => k _ (q ks h h2)⟩
def spNamesIn : DSp where
  n := 1
  f := fun ds Q _ => ∃ ks, ds = [kindsD ks] ∧ Lk 8 6 8 8 ks ∧ ∀ ns, NmsOk ns → Q (nmsD ns)
  len := fun ds Q E ⟨_, e, _⟩ => by rw [e]; rfl
  mono := fun ds Q Q' E E' k _ ⟨ks, e, h, q⟩ => ⟨ks, e, h, fun x hx => k _ (q x hx)⟩
def spFewBare : DSp where
  n := 1
  f := fun ds Q _ => ∃ ks, ds = [kindsD ks] ∧ ks ≠ [] ∧ Lk 8 6 8 8 ks ∧ ∀ x y z, Tg 6 60000 x → Tg 6 60000 y → Tg 6 60000 z → Q (.lst [x, y, z])
  len := fun ds Q E ⟨_, e, _⟩ => by rw [e]; rfl
  mono := fun ds Q Q' E E' k _ ⟨ks, e, h, h2, q⟩ => ⟨ks, e, h, h2, fun x y z a b c => k _ (q x y z a b c)⟩
def spFarK (a : Addr) : DSp where
  n := 1
  f := fun ds Q _ => ds = [.opq a] ∧ ∀ ks, ks ≠ [] → (∀ k ∈ ks, k.2 ≠ []) → Lk 3 9 9 9 ks → Q (kindsD ks)
  len := fun ds Q E ⟨e, _⟩ => by rw [e]; rfl
  mono := fun ds Q Q' E E' k _ ⟨e, q⟩ => ⟨e, fun ks h h2 h3 => k _ (q ks h h2 h3)⟩
section
variable {P : Program} {w : World} {K : PySem.W.Frag} {C a l : Addr} {mg : Str → Option Value} {base : Heap} {W : Wd} {k : Nat} {f : Addr} {fd : FuncData}
theorem one_abc {i : Int} {Q : D → Prop} (h0 : 0 ≤ i) (h1 : i < 26) (q : ∀ x : Str, ascii x = true → x.length = 1 → Q (.str x)) : ixD (.str "abcdefghijklmnopqrstuvwxyz") (.int i) Q := ix_abc h0 h1 (q _ (ascii_mem.mpr fun c hc => by
  have : c = 97 + i.toNat := by simpa [txt] using hc
  omega) (txt_len _))
theorem ok_law_lettersL (T : TxtB K C mg) (Fn : Fun K "_law_letters" "_law_letters" s__law_letters f fd) : GnOk P w K mg base CX0 (k + 1) f fd ["_law_number"] (spD W K spLetL) := by
  refine Fn.okD sc__law_letters rfl fun cdv A outer s H I ds Q Ed E hr h => ?_
  have hu := hr.units
  obtain ⟨n, rfl, n1, q⟩ := h
  refine ⟨_, (dss_cons (ds_set 1 de_str sc__law_letters.nd)
  (dss_cons (ds_set 2 (de_at hu (de_name 1) (de_mod (de_name 0) de_int)) sc__law_letters.nd)
  (dss_cons (ds_while PassesOwn.never (dt_c .gt (de_name 0) de_int)
  (dss_cons (ds_set 0 (de_fdiv (de_name 0) de_int) sc__law_letters.nd)
  (dss_one (ds_set 2 (de_add (de_at hu (de_name 1) (de_mod (de_name 0) de_int)) (de_name 2)) sc__law_letters.nd))))
  (dss_one (ds_ret (de_name 2)))))), ?_⟩
  simp only [getD_0, getD_s, set_0, set_s, boolD_bl, intD_int, startD, List.map, List.length_cons, List.length_nil, List.replicate, List.cons_append, List.nil_append, defEnds, wipeD, if_true, if_false, Bool.not_true, Bool.not_false, Bool.false_eq_true]
  refine ⟨by decide, one_abc (by omega) (by omega) fun x ax lx => ?_⟩
  refine ⟨fun m ρ => ∃ x : Str, ρ = [some (.dat (.int (m : Nat))), some (.dat (.str "abcdefghijklmnopqrstuvwxyz")), some (.dat (.str x))] ∧ m < 17576 ∧ ascii x = true ∧ x.length ≤ (if m < 26 then 3 else if m < 676 then 2 else 1), ⟨n, x, rfl, n1, ax, by rw [lx]; split <;> (try split) <;> decide⟩, ?_⟩
  rintro m ρ ⟨x, rfl, hm, ax, lx⟩
  simp only [getD_0, getD_s, set_0, set_s, boolD_bl, intD_int, startD, List.map, List.length_cons, List.length_nil, List.replicate, List.cons_append, List.nil_append, defEnds, gtD]
  by_cases hc : 26 ≤ m
  · rw [if_pos (by simp; omega)]
    refine ⟨⟨by decide, by decide⟩, by decide, one_abc (by omega) (by omega) fun y ay ly => ?_⟩
    rw [if_neg (by omega)] at lx
    have lx3 : x.length ≤ 2 := by split at lx <;> omega
    refine ⟨by rw [sizeLine_eq]; omega, m / 26, by omega, y ++ x, rfl, by omega, ascii_app ay ax, ?_⟩
    rw [len_app, ly]
    by_cases h2 : m < 676
    · rw [if_pos (by omega)]
      omega
    · rw [if_neg h2] at lx
      split
      · omega
      · split <;> omega
  · rw [if_neg (by simp; omega)]
    rw [if_pos (by omega)] at lx
    exact q x ⟨ax, lx⟩
theorem ok_law_great (T : TxtB K C mg) (Fn : Fun K "_law_great_kinds" "_law_great_kinds" s__law_great_kinds f fd) (C__law_draw : Cal P w K mg base CX0 (DeckW a l) k "_law_draw" ["_law_deck_here", "_law_most"] (spDraw a)) (C__law_pick : Cal P w K mg base CX0 (DeckW a l) k "_law_pick" ["_law_deck_here", "_law_some"] (spPick a)) (C__law_letters : Cal P w K mg base CX0 (DeckW a l) k "_law_letters" ["_law_number"] spLetL) : GnOk P w K mg base CX0 (k + 1) f fd ["_law_deck_here"] (spD (DeckW a l) K (spKindsN a)) := by
  refine Fn.okD sc__law_great_kinds rfl fun cdv A outer s H I ds Q Ed E hr h => ?_
  have hu := hr.units
  obtain ⟨rfl, q⟩ := h
  refine ⟨_, (dss_cons (by first | exact (ds_par (i := 1) (j := 2) rfl sc__law_great_kinds.nd rfl rfl (by decide) rfl rfl (da_cons (de_fn C__law_draw (hr.mono (by omega)) pass0 lets0 (da_cons (de_name 0) (da_cons de_int da_nil))) (da_cons (de_at hu (de_lst (da_cons de_int (da_cons de_int (da_cons de_int (da_cons de_int da_nil))))) (de_fn C__law_draw (hr.mono (by omega)) pass0 lets0 (da_cons (de_name 0) (da_cons de_int da_nil)))) da_nil))) | exact (ds_asg (de_tup (da_cons (de_fn C__law_draw (hr.mono (by omega)) pass0 lets0 (da_cons (de_name 0) (da_cons de_int da_nil))) (da_cons (de_at hu (de_lst (da_cons de_int (da_cons de_int (da_cons de_int (da_cons de_int da_nil))))) (de_fn C__law_draw (hr.mono (by omega)) pass0 lets0 (da_cons (de_name 0) (da_cons de_int da_nil)))) da_nil))) (dg_tup (n := 2) rfl (dgs_cons (dg_name 1 sc__law_great_kinds.nd) (dgs_cons (dg_name 2 sc__law_great_kinds.nd) dgs_nil)))))
  (dss_cons (by first | exact (ds_setLc (i := 3) (own := [("_law_k", 4)]) rfl sc__law_great_kinds.nd rfl rfl (sw_true rfl rfl rfl (by decide +kernel)) (di_range1 T.b_range (da_cons de_int da_nil)) (blkOk_by (own := [("_law_k", 4)]) (N := ["_law_deck_here", "_law_first", "_law_step", "_law_names_here", "_law_k", "_law_at", "_law_found", "_law_rows", "_law_turn", "_law_fields", "_law_j"]) (sc := defScope s__law_great_kinds) (by decide +kernel)) (fun _ _ _ _ _ => (dg_name 4 sc__law_great_kinds.nd)) (fun _ _ _ _ _ => dif_nil) (fun _ _ _ _ _ => (de_fn C__law_letters (hr.mono (by omega)) pass0 lets0 (da_cons (de_add (de_name 1) (de_mul (de_name 2) (de_name 4))) da_nil)))) | exact (ds_set 3 (de_lc (own := [("_law_k", 4)]) rfl sc__law_great_kinds.nd (di_range1 T.b_range (da_cons de_int da_nil)) (blkOk_by (own := [("_law_k", 4)]) (N := ["_law_deck_here", "_law_first", "_law_step", "_law_names_here", "_law_k", "_law_at", "_law_found", "_law_rows", "_law_turn", "_law_fields", "_law_j"]) (sc := defScope s__law_great_kinds) (by decide +kernel)) (fun _ _ _ _ _ => (dg_name 4 sc__law_great_kinds.nd)) (fun _ _ _ _ _ => dif_nil) (fun _ _ _ _ _ => (de_fn C__law_letters (hr.mono (by omega)) pass0 lets0 (da_cons (de_add (de_name 1) (de_mul (de_name 2) (de_name 4))) da_nil)))) sc__law_great_kinds.nd))
  (dss_cons (ds_set 5 (de_fn C__law_draw (hr.mono (by omega)) pass0 lets0 (da_cons (de_name 0) (da_cons de_int da_nil))) sc__law_great_kinds.nd)
  (dss_cons (ds_setO 3 (deo_add (de_slice (de_name 3) (do_some (de_name 5)) do_none) (de_slice (de_name 3) do_none (do_some (de_name 5)))) sc__law_great_kinds.nd)
  (dss_cons (ds_own 6 da_nil sc__law_great_kinds.nd)
  (dss_cons (ds_for PassesOwn.never rfl (di_range1 T.b_range (da_cons de_int da_nil)) (dg_name 4 sc__law_great_kinds.nd)
  (dss_cons (ds_ownS 7 (das_cons (des_tup (das_cons (des_pop 3) (das_cons (des_of (de_mulT (de_tup (da_cons de_str da_nil)) (de_fn C__law_draw (hr.mono (by omega)) pass0 lets0 (da_cons (de_name 0) (da_cons de_int da_nil))))) das_nil))) das_nil) sc__law_great_kinds.nd)
  (dss_cons (ds_for PassesOwn.never rfl (di_range1 T.b_range (da_cons de_int da_nil)) (dg_name 8 sc__law_great_kinds.nd)
  (dss_cons (by first | exact (ds_setLc (i := 9) (own := [("_law_j", 10)]) rfl sc__law_great_kinds.nd rfl rfl (sw_true rfl rfl rfl (by decide +kernel)) (di_range1 T.b_range (da_cons (de_at hu (de_lst (da_cons (de_fn C__law_draw (hr.mono (by omega)) pass0 lets0 (da_cons (de_name 0) (da_cons de_int da_nil))) (da_cons de_int da_nil))) (de_fn C__law_draw (hr.mono (by omega)) pass0 lets0 (da_cons (de_name 0) (da_cons de_int da_nil)))) da_nil)) (blkOk_by (own := [("_law_j", 10)]) (N := ["_law_deck_here", "_law_first", "_law_step", "_law_names_here", "_law_k", "_law_at", "_law_found", "_law_rows", "_law_turn", "_law_fields", "_law_j"]) (sc := defScope s__law_great_kinds) (by decide +kernel)) (fun _ _ _ _ _ => (dg_name 10 sc__law_great_kinds.nd)) (fun _ _ _ _ _ => dif_nil) (fun _ _ _ _ _ => (de_lend 3 (de_fn C__law_pick (hr.mono (by omega)) pass0 lets0 (da_cons (de_name 0) (da_cons (de_add (de_lst (da_cons de_str da_nil)) (de_slice (de_name 3) do_none (do_some de_int))) da_nil)))))) | exact (ds_set 9 (de_lc (own := [("_law_j", 10)]) rfl sc__law_great_kinds.nd (di_range1 T.b_range (da_cons (de_at hu (de_lst (da_cons (de_fn C__law_draw (hr.mono (by omega)) pass0 lets0 (da_cons (de_name 0) (da_cons de_int da_nil))) (da_cons de_int da_nil))) (de_fn C__law_draw (hr.mono (by omega)) pass0 lets0 (da_cons (de_name 0) (da_cons de_int da_nil)))) da_nil)) (blkOk_by (own := [("_law_j", 10)]) (N := ["_law_deck_here", "_law_first", "_law_step", "_law_names_here", "_law_k", "_law_at", "_law_found", "_law_rows", "_law_turn", "_law_fields", "_law_j"]) (sc := defScope s__law_great_kinds) (by decide +kernel)) (fun _ _ _ _ _ => (dg_name 10 sc__law_great_kinds.nd)) (fun _ _ _ _ _ => dif_nil) (fun _ _ _ _ _ => (de_lend 3 (de_fn C__law_pick (hr.mono (by omega)) pass0 lets0 (da_cons (de_name 0) (da_cons (de_add (de_lst (da_cons de_str da_nil)) (de_slice (de_name 3) do_none (do_some de_int))) da_nil)))))) sc__law_great_kinds.nd))
  (dss_one (ds_appendS 7 (des_tup (das_cons (des_pop 3) (das_cons (des_of (de_tuple T.b_tuple (da_cons (de_name 9) da_nil))) das_nil)))))))
  (dss_freeze 7
  (dss_one (ds_append 6 (de_name 7)))))))
  (dss_freeze 6
  (dss_freeze 3
  (dss_cons (ds_set 5 (de_fn C__law_draw (hr.mono (by omega)) pass0 lets0 (da_cons (de_name 0) (da_cons de_int da_nil))) sc__law_great_kinds.nd)
  (dss_one (ds_ret (de_tuple T.b_tuple (da_cons (de_lc (own := [("_law_k", 4)]) rfl sc__law_great_kinds.nd (di_range1 T.b_range (da_cons de_int da_nil)) (blkOk_by (own := [("_law_k", 4)]) (N := ["_law_deck_here", "_law_first", "_law_step", "_law_names_here", "_law_k", "_law_at", "_law_found", "_law_rows", "_law_turn", "_law_fields", "_law_j"]) (sc := defScope s__law_great_kinds) (by decide +kernel)) (fun _ _ _ _ _ => (dg_name 4 sc__law_great_kinds.nd)) (fun _ _ _ _ _ => dif_nil) (fun _ _ _ _ _ => (de_tup (da_cons (de_at hu (de_name 3) (de_name 4)) (da_cons (de_tuple T.b_tuple (da_cons (de_add (de_slice (de_at hu (de_name 6) (de_name 4)) (do_some (de_name 5)) do_none) (de_slice (de_at hu (de_name 6) (de_name 4)) do_none (do_some (de_name 5)))) da_nil)) da_nil))))) da_nil))))))))))))), ?_⟩
  simp only [getD_0, getD_s, set_0, set_s, boolD_bl, intD_int, startD, List.map, List.length_cons, List.length_nil, List.replicate, List.cons_append, List.nil_append, defEnds, wipeD, if_true, if_false, Bool.not_true, Bool.not_false, Bool.false_eq_true]
  refine ⟨500, rfl, by decide, by decide, fun fi f0 f1 => ⟨by decide, 4, rfl, by decide, by decide, fun s4 g0 g1 => ?_⟩⟩
  refine ix_any g0 (by simpa using g1) fun stp hstp => ?_
  have hst : ∃ st : Nat, stp = .int st ∧ st ≤ 11 := by
    simp only [List.mem_cons, List.not_mem_nil, or_false] at hstp
    rcases hstp with rfl | rfl | rfl | rfl
    · exact ⟨1, rfl, by decide⟩
    · exact ⟨3, rfl, by decide⟩
    · exact ⟨7, rfl, by decide⟩
    · exact ⟨11, rfl, by decide⟩
  obtain ⟨st, rfl, hst⟩ := hst
  obtain ⟨fi, rfl⟩ := Int.eq_ofNat_of_zero_le f0
  refine ⟨by decide, _, rfl, rfl, _, _, rfl, _, _, rfl, rfl, 54, rfl, by decide, by decide, by rw [rngD_length]; decide, lcD_any (fun x : Str => D.str x) (wd 3) (fun d hd R S hR => ?_) fun ns hnl hns => ?_⟩
  · simp only [getD_0, getD_s, set_0, set_s, boolD_bl, intD_int, startD, List.map, List.length_cons, List.length_nil, List.replicate, List.cons_append, List.nil_append, defEnds, wipeD, if_true, if_false, Bool.not_true, Bool.not_false, Bool.false_eq_true]
    obtain ⟨i0, rfl, i1⟩ := rng_mem hd
    simp only [mulD, addD]
    have : st * i0 ≤ 11 * 53 := Nat.mul_le_mul hst (by omega)
    refine ⟨.inl ⟨by omega, by omega⟩, fi + st * i0, by push_cast; rfl, by omega, hR⟩
  rw [rngD_length] at hnl
  refine ⟨54, rfl, by decide, by decide, fun av a0 a1 => ?_⟩
  simp only [intD_int, sliceD, catD]
  obtain ⟨av, rfl⟩ := Int.eq_ofNat_of_zero_le a0
  have ec : cutD (ns.map fun x => D.str x) (some (av : Int)) none ++ cutD (ns.map fun x => D.str x) none (some (av : Int)) = (ns.drop av ++ ns.take av).map D.str := by
    rw [cutFrom, cutTo, List.map_append, List.map_drop, List.map_take]
  refine ⟨_, _, rfl, rfl, by rw [← List.length_append, ec, List.length_map, sizeLine_eq]; simp only [List.length_append, List.length_drop, List.length_take]; omega, Nat.zero_le _, 6, rfl, by decide, by decide, ?_⟩
  rw [ec]
  have hn2 : ∀ x ∈ ns.drop av ++ ns.take av, wd 3 x := fun x hx => (List.mem_append.mp hx).elim (fun h => hns x (List.mem_of_mem_drop h)) fun h => hns x (List.mem_of_mem_take h)
  have hl2 : (ns.drop av ++ ns.take av).length = 54 := by simp only [List.length_append, List.length_drop, List.length_take]; omega
  generalize ns.drop av ++ ns.take av = nm at hn2 hl2
  refine forD_ind (fun (l : List D) ρ => ∃ (i : Nat) (nm : List Str) (fr : List (List Bough)) (u1 u2 u4 u5 u7 u8 u9 u10 : Option Ent), l = (rngD 0 6).drop i ∧ i ≤ 6 ∧ nm.length + 8 * i = 54 ∧ (∀ x ∈ nm, wd 3 x) ∧ fr.length = i ∧ (∀ r ∈ fr, rowsOk r) ∧ ρ = [some (.dat (.opq a)), u1, u2, some (.own (nm.map D.str)), u4, u5, some (.own (fr.map fun r => D.lst (r.map boughD))), u7, u8, u9, u10]) (fun ρ ⟨i, nm, fr, u1, u2, u4, u5, u7, u8, u9, u10, el, hi, hl, hn, fl, hf, e⟩ => ?_) (fun d l ρ R ⟨i, nm, fr, u1, u2, u4, u5, u7, u8, u9, u10, el, hi, hl, hn, fl, hf, e⟩ hR => ?_) _ _ ⟨0, nm, [], _, _, _, _, _, _, _, _, rfl, by decide, by omega, hn2, rfl, (fun _ h => nomatch h), rfl⟩
  · subst e
    have hi6 : i = 6 := by
      have := congrArg List.length el
      rw [List.length_drop, rngD_length] at this
      simp at this
      omega
    subst hi6
    refine ⟨_, rfl, trivial, ?_⟩
    simp only [getD_0, getD_s, set_0, set_s, boolD_bl, intD_int, startD, List.map, List.length_cons, List.length_nil, List.replicate, List.cons_append, List.nil_append, defEnds, wipeD, if_true, if_false, Bool.not_true, Bool.not_false, Bool.false_eq_true]
    refine ⟨_, rfl, trivial, ?_⟩
    simp only [Ent.toD]
    refine ⟨8, rfl, by decide, by decide, fun av a0 a1 => ?_⟩
    refine ⟨6, rfl, by decide, by decide, by rw [rngD_length]; decide, lcD_any kindD (fun k : Kind => wd 3 k.1 ∧ k.2.length ≤ 8 ∧ ∀ b ∈ k.2, wd 3 b.1 ∧ (∀ f ∈ b.2, wd 3 f) ∧ b.2.length ≤ 8) (fun d hd R S hR => ?_) fun ks hkl hks => ?_⟩
    · simp only [getD_0, getD_s, set_0, set_s, boolD_bl, intD_int, startD, List.map, List.length_cons, List.length_nil, List.replicate, List.cons_append, List.nil_append, defEnds, wipeD, if_true, if_false, Bool.not_true, Bool.not_false, Bool.false_eq_true]
      obtain ⟨i0, rfl, i1⟩ := rng_mem hd
      obtain ⟨av, rfl⟩ := Int.eq_ofNat_of_zero_le a0
      have hr := hf fr[i0] (List.getElem_mem (by omega))
      have hx := hn nm[i0] (List.getElem_mem (by omega))
      have at1 : L2.atI (nm.map D.str) (i0 : Int) = some (.str nm[i0]) := atI_nat (by rw [List.getElem?_map, List.getElem?_eq_getElem (by omega)]; rfl)
      have at2 : L2.atI (fr.map fun r => D.lst (r.map boughD)) (i0 : Int) = some (.lst (fr[i0].map boughD)) := atI_nat (by rw [List.getElem?_map, List.getElem?_eq_getElem (by omega)]; rfl)
      refine ⟨_, at1, _, at2, _, at2, ?_⟩
      simp only [addD, tupleD]
      rw [cutFrom, cutTo, ← List.map_drop, ← List.map_take, ← List.map_append]
      have hr8 := hr.1
      refine ⟨by simp only [List.length_map, List.length_drop, List.length_take, sizeLine_eq]; omega, by decide, hR (nm[i0], fr[i0].drop av ++ fr[i0].take av) ⟨hx, ?_, fun b hb => ?_⟩⟩
      · simp only [List.length_append, List.length_drop, List.length_take]
        have := hr.1
        omega
      · exact hr.2 b ((List.mem_append.mp hb).elim List.mem_of_mem_drop List.mem_of_mem_take)
    · rw [rngD_length] at hkl
      simp only [tupleD]
      refine q ks (by rintro rfl; cases hkl) ?_
      have w8 : ∀ {x : Str}, wd 3 x → wd 8 x := fun h => ⟨h.1, Nat.le_trans h.2 (by decide)⟩
      exact ⟨fun k hk => w8 (hks k hk).1, fun k hk b hb => w8 ((hks k hk).2.2 b hb).1, fun k hk b hb f hf => w8 (((hks k hk).2.2 b hb).2.1 f hf), by omega, fun k hk => (hks k hk).2.1, fun k hk b hb => ((hks k hk).2.2 b hb).2.2⟩
  · obtain ⟨hi', rfl, el'⟩ := rng_drop el
    subst e
    simp only [getD_0, getD_s, set_0, set_s, boolD_bl, intD_int, startD, List.map, List.length_cons, List.length_nil, List.replicate, List.cons_append, List.nil_append, defEnds, wipeD, if_true, if_false, Bool.not_true, Bool.not_false, Bool.false_eq_true]
    obtain ⟨p, x, rfl⟩ := snoc_of (l := nm) (by rintro rfl; simp at hl; omega)
    refine ⟨p.map D.str, .str x, by rw [List.map_append]; rfl, ?_⟩
    refine ⟨by decide, 3, rfl, by decide, by decide, fun v v0 v1 => ?_⟩
    obtain ⟨v, rfl⟩ := Int.eq_ofNat_of_zero_le v0
    refine ⟨_, v, rfl, rfl, by simp, by omega, by decide, by decide, by decide, 7, rfl, by decide, by decide, ?_⟩
    have hx : wd 3 x := hn x (by simp)
    have hp : ∀ y ∈ p, wd 3 y := fun y hy => hn y (List.mem_append_left _ hy)
    rw [List.length_append, List.length_singleton] at hl
    have hnum : wd 3 "num" := ⟨by decide +kernel, by decide⟩
    have er : (List.replicate v [D.str "num"]).flatten = (List.replicate v ("num" : Str)).map D.str := by
      rw [List.flatten_replicate_singleton, List.map_replicate]
    rw [er]
    have row1 : ∀ b ∈ [((x, List.replicate v "num") : Bough)], wd 3 b.1 ∧ (∀ f ∈ b.2, wd 3 f) ∧ b.2.length ≤ 8 := fun b hb => by
      rw [List.mem_singleton.mp hb]
      exact ⟨hx, fun f hf => by rw [List.eq_of_mem_replicate hf]; exact hnum, by rw [List.length_replicate]; omega⟩
    refine forD_ind (fun (l2 : List D) ρ => ∃ (j : Nat) (nm : List Str) (rows : List Bough) (u8 u9 u10 : Option Ent), l2 = (rngD 0 7).drop j ∧ j ≤ 7 ∧ nm.length + 8 * i + 1 + j = 54 ∧ (∀ x ∈ nm, wd 3 x) ∧ rows.length = 1 + j ∧ (∀ b ∈ rows, wd 3 b.1 ∧ (∀ f ∈ b.2, wd 3 f) ∧ b.2.length ≤ 8) ∧ ρ = [some (.dat (.opq a)), u1, u2, some (.own (nm.map D.str)), some (.dat (.int (0 + (i : Int)))), u5, some (.own (fr.map fun r => D.lst (r.map boughD))), some (.own (rows.map boughD)), u8, u9, u10]) (fun ρ ⟨j, nm, rows, u8, u9, u10, el2, hj, hl, hn, rl, hb, e⟩ => ?_) (fun d l2 ρ R2 ⟨j, nm, rows, u8, u9, u10, el2, hj, hl, hn, rl, hb, e⟩ hR2 => ?_) _ _ ⟨0, p, [(x, List.replicate v "num")], _, _, _, rfl, by decide, by omega, hp, rfl, row1, rfl⟩
    · subst e
      have hj7 : j = 7 := by
        have := congrArg List.length el2
        rw [List.length_drop, rngD_length] at this
        simp at this
        omega
      subst hj7
      refine ⟨_, rfl, trivial, ?_⟩
      simp only [getD_0, getD_s, set_0, set_s, boolD_bl, intD_int, startD, List.map, List.length_cons, List.length_nil, List.replicate, List.cons_append, List.nil_append, defEnds, wipeD, if_true, if_false, Bool.not_true, Bool.not_false, Bool.false_eq_true]
      refine ⟨_, rfl, by rw [List.length_map, sizeLine_eq]; omega, hR _ ⟨i + 1, nm, fr ++ [rows], _, _, _, _, _, _, _, _, el', by omega, by omega, hn, by rw [List.length_append, fl]; rfl, fun r hr => ?_, by rw [List.map_append]; rfl⟩⟩
      rcases List.mem_append.mp hr with hr | hr
      · exact hf r hr
      · rw [List.mem_singleton.mp hr]
        exact ⟨rl, hb⟩
    · obtain ⟨hj', rfl, el2'⟩ := rng_drop el2
      subst e
      simp only [getD_0, getD_s, set_0, set_s, boolD_bl, intD_int, startD, List.map, List.length_cons, List.length_nil, List.replicate, List.cons_append, List.nil_append, defEnds, wipeD, if_true, if_false, Bool.not_true, Bool.not_false, Bool.false_eq_true]
      refine ⟨3, rfl, by decide, by decide, fun v v0 v1 => ⟨by decide, 2, rfl, by decide, by decide, fun y y0 y1 => ?_⟩⟩
      refine ix_any y0 (by simpa using y1) fun d hd => ?_
      obtain ⟨c, rfl, hc⟩ : ∃ c : Nat, d = .int c ∧ c ≤ 8 := by
        simp only [List.mem_cons, List.not_mem_nil, or_false] at hd
        rcases hd with rfl | rfl
        · exact ⟨v.toNat, by rw [Int.toNat_of_nonneg v0], by omega⟩
        · exact ⟨8, rfl, by decide⟩
      have hnum : wd 3 "num" := ⟨by decide +kernel, by decide⟩
      refine ⟨c, rfl, by omega, by omega, by rw [rngD_length, sizeLine_eq]; omega, lcD_any (fun x : Str => D.str x) (wd 3) (fun d hd R S hR => ?_) fun fs hfl hfs => ?_⟩
      · simp only [getD_0, getD_s, set_0, set_s, boolD_bl, intD_int, startD, List.map, List.length_cons, List.length_nil, List.replicate, List.cons_append, List.nil_append, defEnds, wipeD, if_true, if_false, Bool.not_true, Bool.not_false, Bool.false_eq_true]
        refine ⟨_, rfl, trivial, ?_⟩
        simp only [Ent.toD]
        refine ⟨by decide, ?_⟩
        simp only [addD]
        have e6 : [D.str "num"] ++ cutD (nm.map D.str) none (some (6 : Int)) = (("num" : Str) :: nm.take 6).map D.str := by
          rw [show (6 : Int) = ((6 : Nat) : Int) from rfl, cutTo, ← List.map_take]
          rfl
        have l6 : (cutD (nm.map D.str) none (some (6 : Int))).length ≤ 6 := by
          rw [show (6 : Int) = ((6 : Nat) : Int) from rfl, cutTo, List.length_take]
          omega
        refine ⟨by rw [sizeLine_eq]; simp only [List.length_cons, List.length_nil]; omega, _, rfl, by rw [e6]; simp, by rw [List.length_append]; simp only [List.length_cons, List.length_nil]; omega, fun x hx => ?_⟩
        rw [e6] at hx
        obtain ⟨z, hz, rfl⟩ := List.mem_map.mp hx
        refine ⟨rfl, hR _ ?_⟩
        rcases List.mem_cons.mp hz with rfl | hz
        · exact hnum
        · exact hn z (List.mem_of_mem_take hz)
      · rw [rngD_length] at hfl
        obtain ⟨p2, z, rfl⟩ := snoc_of (l := nm) (by rintro rfl; simp at hl; omega)
        refine ⟨_, rfl, p2.map D.str, .str z, by rw [List.map_append]; rfl, ?_⟩
        simp only [tupleD]
        rw [List.length_append, List.length_singleton] at hl
        have e8 : rows.map boughD ++ [D.tup [.str z, .tup (fs.map fun x => D.str x)]] = (rows ++ [((z, fs) : Bough)]).map boughD := by
          rw [List.map_append]
          rfl
        refine ⟨by decide, _, rfl, by rw [List.length_map, sizeLine_eq]; omega, ?_⟩
        rw [e8]
        refine hR2 _ ⟨j + 1, p2, rows ++ [(z, fs)], _, _, _, el2', by omega, by omega, fun y hy => hn y (List.mem_append_left _ hy), by rw [List.length_append, rl]; simp only [List.length_cons, List.length_nil]; omega, fun b hb' => ?_, rfl⟩
        rcases List.mem_append.mp hb' with hb' | hb'
        · exact hb b hb'
        · rw [List.mem_singleton.mp hb']
          exact ⟨hn z (by simp), hfs, show fs.length ≤ 8 by omega⟩
theorem ok_law_any (T : TxtB K C mg) (Fn : Fun K "_law_any_kinds" "_law_any_kinds" s__law_any_kinds f fd) (C__law_draw : Cal P w K mg base CX0 (DeckW a l) k "_law_draw" ["_law_deck_here", "_law_most"] (spDraw a)) (C__law_kinds : Cal P w K mg base CX0 (DeckW a l) k "_law_kinds" ["_law_deck_here"] (spKinds a)) (C__law_great_kinds : Cal P w K mg base CX0 (DeckW a l) k "_law_great_kinds" ["_law_deck_here"] (spKindsN a)) : GnOk P w K mg base CX0 (k + 1) f fd ["_law_deck_here"] (spD (DeckW a l) K (spKindsN a)) := by
  refine Fn.okD sc__law_any_kinds rfl fun cdv A outer s H I ds Q Ed E hr h => ?_
  have hu := hr.units
  obtain ⟨rfl, q⟩ := h
  refine ⟨_, (dss_cons (ds_if (dt_c (.eq hu) (de_fn C__law_draw (hr.mono (by omega)) pass0 lets0 (da_cons (de_name 0) (da_cons de_int da_nil))) de_int)
  (dss_one (ds_ret (de_fn C__law_great_kinds (hr.mono (by omega)) pass0 lets0 (da_cons (de_name 0) da_nil))))
  dss_nil)
  (dss_one (ds_ret (de_fn C__law_kinds (hr.mono (by omega)) pass0 lets0 (da_cons (de_name 0) da_nil))))), ?_⟩
  simp only [getD_0, getD_s, set_0, set_s, boolD_bl, intD_int, startD, List.map, List.length_cons, List.length_nil, List.replicate, List.cons_append, List.nil_append, defEnds, wipeD, if_true, if_false, Bool.not_true, Bool.not_false, Bool.false_eq_true]
  refine ⟨8, rfl, by decide, by decide, fun v h0 h1 => ?_⟩
  simp only [eqD_int, boolD_bl]
  by_cases h5 : v = 5
  · rw [if_pos (by rw [decide_eq_true_eq]; exact h5)]
    exact ⟨rfl, q⟩
  · rw [if_neg (by rw [decide_eq_true_eq]; exact h5)]
    exact ⟨rfl, fun ks g => q ks g.ne g.lk⟩
theorem ok_law_names_in (T : TxtB K C mg) (Fn : Fun K "_law_names_in" "_law_names_in" s__law_names_in f fd) : GnOk P w K mg base CX0 (k + 1) f fd ["_law_kinds_here"] (spD W K spNamesIn) := by
  refine Fn.okD sc__law_names_in rfl fun cdv A outer s H I ds Q Ed E hr h => ?_
  have hu := hr.units
  obtain ⟨ks, rfl, lk, q⟩ := h
  refine ⟨_, (dss_cons (ds_set 1 (de_lst (da_cons de_str (da_cons de_str da_nil))) sc__law_names_in.nd)
  (dss_cons (ds_for PassesOwn.never rfl (di_seq (de_name 0)) (dg_tup (n := 2) rfl (dgs_cons (dg_name 2 sc__law_names_in.nd) (dgs_cons (dg_name 3 sc__law_names_in.nd) dgs_nil)))
  (dss_one (ds_set 1 (de_add (de_add (de_name 1) (de_lst (da_cons (de_name 2) da_nil))) (de_lc (own := [("_law_bough", 4), ("_law_fields", 5)]) rfl sc__law_names_in.nd (di_seq (de_name 3)) (blkOk_by (own := [("_law_bough", 4), ("_law_fields", 5)]) (N := ["_law_kinds_here", "_law_found", "_law_kind", "_law_rows", "_law_bough", "_law_fields"]) (sc := defScope s__law_names_in) (by decide +kernel)) (fun _ _ _ _ _ => (dg_tup (n := 2) rfl (dgs_cons (dg_name 4 sc__law_names_in.nd) (dgs_cons (dg_name 5 sc__law_names_in.nd) dgs_nil)))) (fun _ _ _ _ _ => dif_nil) (fun _ _ _ _ _ => (de_name 4)))) sc__law_names_in.nd)))
  (dss_one (ds_ret (de_name 1))))), ?_⟩
  simp only [getD_0, getD_s, set_0, set_s, boolD_bl, intD_int, startD, List.map, List.length_cons, List.length_nil, List.replicate, List.cons_append, List.nil_append, defEnds, wipeD, if_true, if_false, Bool.not_true, Bool.not_false, Bool.false_eq_true]
  refine ⟨by decide, ?_⟩
  simp only [kindsD, itemsD]
  have nz : ∀ x ∈ (["num", "zz"] : List Str), wd 8 x := fun x hx => by
    simp only [List.mem_cons, List.not_mem_nil, or_false] at hx
    rcases hx with rfl | rfl
    · exact ⟨by decide +kernel, by decide⟩
    · exact ⟨by decide +kernel, by decide⟩
  refine forD_ind (fun (m : List D) ρ => ∃ (rest : List Kind) (ns : List Str) (u2 u3 u4 u5 : Option Ent), m = rest.map kindD ∧ (∀ x ∈ rest, x ∈ ks) ∧ ρ = [some (.dat (.tup (ks.map kindD))), some (.dat (.lst (ns.map D.str))), u2, u3, u4, u5] ∧ ns ≠ [] ∧ ns.length + 9 * rest.length ≤ 100 ∧ ∀ x ∈ ns, wd 8 x) (fun ρ ⟨rest, ns, u2, u3, u4, u5, em, hr', e, hne, hl, hn⟩ => ?_) (fun d m ρ R ⟨rest, ns, u2, u3, u4, u5, em, hr', e, hne, hl, hn⟩ hR => ?_) _ _ ⟨ks, ["num", "zz"], _, _, _, _, rfl, fun _ h => h, rfl, by simp, by have := lk.s1; simp only [List.length_cons, List.length_nil]; omega, nz⟩
  · subst e
    exact ⟨_, rfl, q ns ⟨hne, by omega, fun x hx => hn x hx⟩⟩
  · subst e
    cases rest with
    | nil => cases em
    | cons x rest =>
      rw [List.map_cons] at em
      obtain ⟨rfl, rfl⟩ := List.cons.inj em
      have hx := hr' x (by simp)
      refine ⟨_, rfl, rfl, _, _, rfl, _, _, rfl, rfl, ?_⟩
      simp only [getD_0, getD_s, set_0, set_s, boolD_bl, intD_int, startD, List.map, List.length_cons, List.length_nil, List.replicate, List.cons_append, List.nil_append, defEnds, wipeD, if_true, if_false, Bool.not_true, Bool.not_false, Bool.false_eq_true]
      rw [List.length_cons] at hl
      have l2 := lk.s2 x hx
      refine ⟨by decide, ?_⟩
      simp only [addD]
      refine ⟨by rw [List.length_map, sizeLine_eq]; simp only [List.length_cons, List.length_nil]; omega, ?_⟩
      refine ⟨by rw [List.length_map, sizeLine_eq]; omega, lcD_all boughD (fun b => .str b.1) (fun b hb R S r => ?_) ?_⟩
      · refine ⟨_, rfl, rfl, _, _, rfl, _, _, rfl, rfl, ?_⟩
        exact ⟨_, rfl, r⟩
      · have e7 : ns.map D.str ++ [D.str x.1] ++ x.2.map (fun b => D.str b.1) = (ns ++ [x.1] ++ x.2.map (·.1)).map D.str := by
          simp only [List.map_append, List.map_map, List.map_cons, List.map_nil]
          rfl
        rw [e7]
        refine ⟨by simp only [List.length_append, List.length_map, List.length_cons, List.length_nil, sizeLine_eq]; omega, hR _ ⟨rest, ns ++ [x.1] ++ x.2.map (·.1), _, _, _, _, rfl, fun y hy => hr' y (List.mem_cons_of_mem _ hy), rfl, by simp [hne], by simp only [List.length_append, List.length_map, List.length_cons, List.length_nil]; omega, fun y hy => ?_⟩⟩
        rcases List.mem_append.mp hy with hy | hy
        · rcases List.mem_append.mp hy with hy | hy
          · exact hn y hy
          · rw [List.mem_singleton.mp hy]
            exact lk.kn x hx
        · obtain ⟨b, hb, rfl⟩ := List.mem_map.mp hy
          exact lk.bn x hx b hb
theorem ok_law_few_bare (T : TxtB K C mg) (Fn : Fun K "_law_few_bare" "_law_few_bare" s__law_few_bare f fd) : GnOk P w K mg base CX0 (k + 1) f fd ["_law_kinds_here"] (spD W K spFewBare) := by
  refine Fn.okD sc__law_few_bare rfl fun cdv A outer s H I ds Q Ed E hr h => ?_
  have hu := hr.units
  obtain ⟨ks, rfl, hne, lk, q⟩ := h
  refine ⟨_, (dss_cons (ds_set 1 (de_at hu (de_at hu (de_name 0) de_int) de_int) sc__law_few_bare.nd)
  (dss_cons (ds_set 2 (de_lst (da_cons (de_tup (da_cons (de_tup (da_cons (de_name 1) (da_cons (de_tup (da_cons (de_tup (da_cons de_str (da_cons (de_tup (da_cons (de_name 1) da_nil)) da_nil))) da_nil)) da_nil))) da_nil)) (da_cons (de_add (de_name 0) (de_tup (da_cons (de_tup (da_cons de_str (da_cons (de_tup (da_cons (de_tup (da_cons de_str (da_cons (de_tup (da_cons de_str (da_cons de_str da_nil))) da_nil))) da_nil)) da_nil))) da_nil))) da_nil))) sc__law_few_bare.nd)
  (dss_one (ds_ret (de_add (de_name 2) (de_lst (da_cons (de_add (de_tup (da_cons (de_tup (da_cons de_str (da_cons (de_tup (da_cons (de_tup (da_cons de_str (da_cons (de_tup (da_cons de_str da_nil)) da_nil))) da_nil)) da_nil))) (da_cons (de_tup (da_cons de_str (da_cons (de_tup (da_cons (de_tup (da_cons de_str (da_cons (de_tup (da_cons de_str da_nil)) da_nil))) da_nil)) da_nil))) da_nil))) (de_name 0)) da_nil))))))), ?_⟩
  simp only [getD_0, getD_s, set_0, set_s, boolD_bl, intD_int, startD, List.map, List.length_cons, List.length_nil, List.replicate, List.cons_append, List.nil_append, defEnds, wipeD, if_true, if_false, Bool.not_true, Bool.not_false, Bool.false_eq_true]
  obtain ⟨x, ks', rfl⟩ := List.exists_cons_of_ne_nil hne
  have hw := lk.kn x (by simp)
  have tk := lk.tgs
  have w8 : ∀ {k : Nat} (y : Str), wd 8 y → Tg k 92 (.str y) := fun y h => .str h.1 (by have := h.2; omega)
  have lit : ∀ y : Str, ascii y = true → y.length ≤ 8 → wd 8 y := fun y h h2 => ⟨h, h2⟩
  have b1 : ∀ (y : Str) (fs : List Str), wd 8 y → (∀ f ∈ fs, wd 8 f) → fs.length ≤ 8 → Tg 2 (wB 8 8) (boughD (y, fs)) := fun y fs h1 h2 h3 => tg_bough h1 h2 h3
  have k1 : ∀ (z y : Str) (fs : List Str), wd 8 z → wd 8 y → (∀ f ∈ fs, wd 8 f) → fs.length ≤ 8 → Tg 4 (wK 8 8 8) (kindD (z, [(y, fs)])) := fun z y fs h0 h1 h2 h3 => tg_kind h0 (fun b hb => by rw [List.mem_singleton.mp hb]; exact ⟨h1, h2, h3⟩) (Nat.le_trans (Nat.le_refl 1) (by decide))
  have zq : wd 8 "zq" := lit _ (by decide +kernel) (by decide)
  have zqz : wd 8 "zqz" := lit _ (by decide +kernel) (by decide)
  have zqy : wd 8 "zqy" := lit _ (by decide +kernel) (by decide)
  have zp : wd 8 "zp" := lit _ (by decide +kernel) (by decide)
  have nm : wd 8 "num" := lit _ (by decide +kernel) (by decide)
  have ka := k1 x.1 "zq" [x.1] hw zq (fun f hf => by rw [List.mem_singleton.mp hf]; exact hw) (Nat.le_trans (Nat.le_refl 1) (by decide))
  have kb := k1 "zqz" "zq" ["zqz", "num"] zqz zq (fun f hf => by
    simp only [List.mem_cons, List.not_mem_nil, or_false] at hf
    rcases hf with rfl | rfl
    · exact zqz
    · exact nm) (by decide)
  have kc := k1 "zqz" "zq" ["zqy"] zqz zq (fun f hf => by rw [List.mem_singleton.mp hf]; exact zqy) (by decide)
  have kd := k1 "zqy" "zp" ["zqz"] zqy zp (fun f hf => by rw [List.mem_singleton.mp hf]; exact zqz) (by decide)
  have lks := lk.s1
  have sz : (List.map kindD (x :: ks')).length ≤ 6 := by rw [List.length_map]; exact lks
  refine ⟨_, atI_0, _, atI_0, by decide, by decide, by decide, by decide, by decide, by decide, by decide, by decide, by decide, by decide, ?_⟩
  simp only [kindsD, addD]
  refine ⟨by rw [sizeLine_eq]; simp only [List.length_cons, List.length_nil] at sz ⊢; omega, by decide, by decide, by decide, by decide, by decide, by decide, by decide, by decide, by decide, by decide, by rw [sizeLine_eq]; simp only [List.length_cons, List.length_nil] at sz ⊢; omega, by decide, by simp [sizeLine_eq], ?_⟩
  have wk : wK 8 8 8 = 7130 := by decide
  rw [wk] at ka kb kc kd tk
  refine q _ _ _ ?_ ?_ ?_
  · exact (Tgs.cons ka (Tgs.nil (m := 0))).tup.mono (by decide) (by decide)
  · exact (tk.app (Tgs.cons kb (Tgs.nil (m := 0)))).tup.mono (by decide) (by decide)
  · exact ((Tgs.cons kc (Tgs.cons kd (Tgs.nil (m := 0)))).app tk).tup.mono (by decide) (by decide)
theorem ok_law_far (T : TxtB K C mg) (Fn : Fun K "_law_far_kinds" "_law_far_kinds" s__law_far_kinds f fd) (C__law_draw : Cal P w K mg base CX0 (DeckW a l) k "_law_draw" ["_law_deck_here", "_law_most"] (spDraw a)) (C__law_pick : Cal P w K mg base CX0 (DeckW a l) k "_law_pick" ["_law_deck_here", "_law_some"] (spPick a)) (C__law_letters : Cal P w K mg base CX0 (DeckW a l) k "_law_letters" ["_law_number"] spLetL) : GnOk P w K mg base CX0 (k + 1) f fd ["_law_deck_here"] (spD (DeckW a l) K (spFarK a)) := by
  refine Fn.okD sc__law_far_kinds rfl fun cdv A outer s H I ds Q Ed E hr h => ?_
  have hu := hr.units
  obtain ⟨rfl, q⟩ := h
  refine ⟨_, (dss_cons (ds_set 1 (de_add de_int (de_fn C__law_draw (hr.mono (by omega)) pass0 lets0 (da_cons (de_name 0) (da_cons de_int da_nil)))) sc__law_far_kinds.nd)
  (dss_cons (by first | exact (ds_setLcO (i := 2) (own := [("_law_k", 3)]) rfl sc__law_far_kinds.nd rfl rfl (sw_true rfl rfl rfl (by decide +kernel)) (di_range1 T.b_range (da_cons de_int da_nil)) (blkOk_by (own := [("_law_k", 3)]) (N := ["_law_deck_here", "_law_first", "_law_names_here", "_law_k", "_law_many", "_law_found", "_law_rows", "_law_turn", "_law_long", "_law_j"]) (sc := defScope s__law_far_kinds) (by decide +kernel)) (fun _ _ _ _ _ => (dg_name 3 sc__law_far_kinds.nd)) (fun _ _ _ _ _ => dif_nil) (fun _ _ _ _ _ => (de_fn C__law_letters (hr.mono (by omega)) pass0 lets0 (da_cons (de_add (de_name 1) (de_name 3)) da_nil)))) | exact (ds_setO 2 (deo_lc (own := [("_law_k", 3)]) rfl sc__law_far_kinds.nd (di_range1 T.b_range (da_cons de_int da_nil)) (blkOk_by (own := [("_law_k", 3)]) (N := ["_law_deck_here", "_law_first", "_law_names_here", "_law_k", "_law_many", "_law_found", "_law_rows", "_law_turn", "_law_long", "_law_j"]) (sc := defScope s__law_far_kinds) (by decide +kernel)) (fun _ _ _ _ _ => (dg_name 3 sc__law_far_kinds.nd)) (fun _ _ _ _ _ => dif_nil) (fun _ _ _ _ _ => (de_fn C__law_letters (hr.mono (by omega)) pass0 lets0 (da_cons (de_add (de_name 1) (de_name 3)) da_nil)))) sc__law_far_kinds.nd))
  (dss_cons (by first | exact (ds_parO (i := 4) (j := 5) rfl sc__law_far_kinds.nd rfl rfl (by decide) rfl rfl (de_add de_int (de_fn C__law_draw (hr.mono (by omega)) pass0 lets0 (da_cons (de_name 0) (da_cons de_int da_nil)))) (deo_lst da_nil)) | exact (ds_parOc (i := 4) (j := 5) rfl sc__law_far_kinds.nd rfl rfl (by decide) (by first | exact Or.inl rfl | exact Or.inr rfl) (by first | exact Or.inl rfl | exact Or.inr rfl) (by first | exact .inl rfl | exact .inr rfl) (by first | exact .inl rfl | exact .inr rfl) (de_add de_int (de_fn C__law_draw (hr.mono (by omega)) pass0 lets0 (da_cons (de_name 0) (da_cons de_int da_nil)))) (deo_lst da_nil)))
  (dss_cons (ds_for PassesOwn.never rfl (di_range1 T.b_range (da_cons (de_name 4) da_nil)) (dg_name 3 sc__law_far_kinds.nd)
  (dss_cons (ds_ownS 6 (das_cons (des_tup (das_cons (des_pop 2) (das_cons (des_of (de_tup da_nil)) das_nil))) das_nil) sc__law_far_kinds.nd)
  (dss_cons (ds_for PassesOwn.never rfl (di_range1 T.b_range (da_cons de_int da_nil)) (dg_name 7 sc__law_far_kinds.nd)
  (dss_cons (ds_set 8 (de_at hu (de_lst (da_cons de_int (da_cons de_int (da_cons de_int da_nil)))) (de_fn C__law_draw (hr.mono (by omega)) pass0 lets0 (da_cons (de_name 0) (da_cons de_int da_nil)))) sc__law_far_kinds.nd)
  (dss_one (ds_appendS 6 (des_tup (das_cons (des_pop 2) (das_cons (des_of (de_tuple T.b_tuple (da_cons (de_lc (own := [("_law_j", 9)]) rfl sc__law_far_kinds.nd (di_range1 T.b_range (da_cons (de_name 8) da_nil)) (blkOk_by (own := [("_law_j", 9)]) (N := ["_law_deck_here", "_law_first", "_law_names_here", "_law_k", "_law_many", "_law_found", "_law_rows", "_law_turn", "_law_long", "_law_j"]) (sc := defScope s__law_far_kinds) (by decide +kernel)) (fun _ _ _ _ _ => (dg_name 9 sc__law_far_kinds.nd)) (fun _ _ _ _ _ => dif_nil) (fun _ _ _ _ _ => (de_lend 2 (de_fn C__law_pick (hr.mono (by omega)) pass0 lets0 (da_cons (de_name 0) (da_cons (de_add (de_lst (da_cons de_str da_nil)) (de_slice (de_name 2) do_none (do_some (de_name 4)))) da_nil)))))) da_nil))) das_nil)))))))
  (dss_freeze 6
  (dss_one (ds_append 5 (de_tup (da_cons (de_lend 2 (de_at hu (de_name 2) (de_name 3))) (da_cons (de_tuple T.b_tuple (da_cons (de_name 6) da_nil)) da_nil)))))))))
  (dss_freeze 5
  (dss_one (ds_ret (de_tuple T.b_tuple (da_cons (de_name 5) da_nil))))))))), ?_⟩
  simp only [getD_0, getD_s, set_0, set_s, boolD_bl, intD_int, startD, List.map, List.length_cons, List.length_nil, List.replicate, List.cons_append, List.nil_append, defEnds, wipeD, if_true, if_false, Bool.not_true, Bool.not_false, Bool.false_eq_true]
  refine ⟨500, rfl, by decide, by decide, fun fi f0 f1 => ?_⟩
  obtain ⟨fi, rfl⟩ := Int.eq_ofNat_of_zero_le f0
  refine ⟨90, rfl, by decide, by decide, by rw [rngD_length]; decide, lcD_any (fun x : Str => D.str x) (wd 3) (fun d hd R S hR => ?_) fun ns hnl hns => ?_⟩
  · simp only [getD_0, getD_s, set_0, set_s, boolD_bl, intD_int, startD, List.map, List.length_cons, List.length_nil, List.replicate, List.cons_append, List.nil_append, defEnds, wipeD, if_true, if_false, Bool.not_true, Bool.not_false, Bool.false_eq_true]
    obtain ⟨i0, rfl, i1⟩ := rng_mem hd
    simp only [addD]
    exact ⟨26 + fi + i0, by push_cast; rfl, by omega, hR⟩
  rw [rngD_length] at hnl
  refine ⟨3, rfl, by decide, by decide, fun mv m0 m1 => ?_⟩
  obtain ⟨mv, rfl⟩ := Int.eq_ofNat_of_zero_le m0
  simp only [addD]
  refine ⟨Nat.zero_le _, _, rfl, by omega, by omega, ?_⟩
  have em : ((7 : Int) + (mv : Int)).toNat = 7 + mv := by omega
  rw [em]
  refine forD_ind (fun (l : List D) ρ => ∃ (i : Nat) (nm : List Str) (fr : List Kind) (u1 u3 u6 u7 u8 u9 : Option Ent), l = (rngD 0 (7 + mv)).drop i ∧ i ≤ 7 + mv ∧ nm.length + 9 * i = 90 ∧ (∀ x ∈ nm, wd 3 x) ∧ fr.length = i ∧ (∀ r ∈ fr, wd 3 r.1 ∧ r.2 ≠ [] ∧ r.2.length ≤ 9 ∧ ∀ b ∈ r.2, wd 3 b.1 ∧ (∀ f ∈ b.2, wd 3 f) ∧ b.2.length ≤ 9) ∧ ρ = [some (.dat (.opq a)), u1, some (.own (nm.map D.str)), u3, some (.dat (.int (7 + (mv : Int)))), some (.own (fr.map kindD)), u6, u7, u8, u9]) (fun ρ ⟨i, nm, fr, u1, u3, u6, u7, u8, u9, el, hi, hl, hn, fl, hf, e⟩ => ?_) (fun d l ρ R ⟨i, nm, fr, u1, u3, u6, u7, u8, u9, el, hi, hl, hn, fl, hf, e⟩ hR => ?_) _ _ ⟨0, ns, [], _, _, _, _, _, _, rfl, by omega, by omega, hns, rfl, (fun _ h => nomatch h), rfl⟩
  · subst e
    have hi6 : i = 7 + mv := by
      have := congrArg List.length el
      rw [List.length_drop, rngD_length] at this
      simp at this
      omega
    refine ⟨_, rfl, trivial, ?_⟩
    simp only [getD_0, getD_s, set_0, set_s, boolD_bl, intD_int, startD, List.map, List.length_cons, List.length_nil, List.replicate, List.cons_append, List.nil_append, defEnds, wipeD, if_true, if_false, Bool.not_true, Bool.not_false, Bool.false_eq_true]
    simp only [tupleD, Ent.toD]
    refine q fr (by rintro rfl; simp at fl; omega) (fun k hk => (hf k hk).2.1) ?_
    exact ⟨fun k hk => (hf k hk).1, fun k hk b hb => ((hf k hk).2.2.2 b hb).1, fun k hk b hb f hf' => ((hf k hk).2.2.2 b hb).2.1 f hf', by omega, fun k hk => (hf k hk).2.2.1, fun k hk b hb => ((hf k hk).2.2.2 b hb).2.2⟩
  · obtain ⟨hi', rfl, el'⟩ := rng_drop el
    subst e
    simp only [getD_0, getD_s, set_0, set_s, boolD_bl, intD_int, startD, List.map, List.length_cons, List.length_nil, List.replicate, List.cons_append, List.nil_append, defEnds, wipeD, if_true, if_false, Bool.not_true, Bool.not_false, Bool.false_eq_true]
    obtain ⟨p, x, rfl⟩ := snoc_of (l := nm) (by rintro rfl; simp at hl; omega)
    refine ⟨p.map D.str, .str x, by rw [List.map_append]; rfl, ?_⟩
    refine ⟨by decide, by decide, by decide, 8, rfl, by decide, by decide, ?_⟩
    have hx : wd 3 x := hn x (by simp)
    have hp : ∀ y ∈ p, wd 3 y := fun y hy => hn y (List.mem_append_left _ hy)
    rw [List.length_append, List.length_singleton] at hl
    have row1 : ∀ b ∈ [((x, []) : Bough)], wd 3 b.1 ∧ (∀ f ∈ b.2, wd 3 f) ∧ b.2.length ≤ 9 := fun b hb => by
      rw [List.mem_singleton.mp hb]
      exact ⟨hx, (fun _ h => nomatch h), Nat.zero_le _⟩
    refine forD_ind (fun (l2 : List D) ρ => ∃ (j : Nat) (nm : List Str) (rows : List Bough) (u7 u8 u9 : Option Ent), l2 = (rngD 0 8).drop j ∧ j ≤ 8 ∧ nm.length + 9 * i + 1 + j = 90 ∧ (∀ x ∈ nm, wd 3 x) ∧ rows.length = 1 + j ∧ (∀ b ∈ rows, wd 3 b.1 ∧ (∀ f ∈ b.2, wd 3 f) ∧ b.2.length ≤ 9) ∧ ρ = [some (.dat (.opq a)), u1, some (.own (nm.map D.str)), some (.dat (.int (0 + (i : Int)))), some (.dat (.int (7 + (mv : Int)))), some (.own (fr.map kindD)), some (.own (rows.map boughD)), u7, u8, u9]) (fun ρ ⟨j, nm, rows, u7, u8, u9, el2, hj, hl, hn, rl, hb, e⟩ => ?_) (fun d l2 ρ R2 ⟨j, nm, rows, u7, u8, u9, el2, hj, hl, hn, rl, hb, e⟩ hR2 => ?_) _ _ ⟨0, p, [(x, [])], _, _, _, rfl, by decide, by omega, hp, rfl, row1, rfl⟩
    · subst e
      have hj8 : j = 8 := by
        have := congrArg List.length el2
        rw [List.length_drop, rngD_length] at this
        simp at this
        omega
      subst hj8
      refine ⟨_, rfl, trivial, ?_⟩
      simp only [getD_0, getD_s, set_0, set_s, boolD_bl, intD_int, startD, List.map, List.length_cons, List.length_nil, List.replicate, List.cons_append, List.nil_append, defEnds, wipeD, if_true, if_false, Bool.not_true, Bool.not_false, Bool.false_eq_true]
      have at1 : L2.atI (nm.map D.str) (0 + (i : Int)) = some (.str (nm[i]'(by omega))) := by
        rw [Int.zero_add]
        exact atI_nat (by rw [List.getElem?_map, List.getElem?_eq_getElem (by omega)]; rfl)
      refine ⟨_, rfl, _, rfl, trivial, _, at1, rfl, ?_⟩
      simp only [Ent.toD, tupleD]
      refine ⟨by decide, by rw [List.length_map, sizeLine_eq]; omega, ?_⟩
      have e8 : fr.map kindD ++ [D.tup [.str (nm[i]'(by omega)), .tup (rows.map boughD)]] = (fr ++ [((nm[i]'(by omega), rows) : Kind)]).map kindD := by
        rw [List.map_append]
        rfl
      rw [e8]
      refine hR _ ⟨i + 1, nm, fr ++ [(nm[i]'(by omega), rows)], _, _, _, _, _, _, el', by omega, by omega, hn, by rw [List.length_append, fl]; rfl, fun r hr => ?_, rfl⟩
      rcases List.mem_append.mp hr with hr | hr
      · exact hf r hr
      · rw [List.mem_singleton.mp hr]
        exact ⟨hn _ (List.getElem_mem _), by rintro rfl; simp at rl, show rows.length ≤ 9 by omega, hb⟩
    · obtain ⟨hj', rfl, el2'⟩ := rng_drop el2
      subst e
      simp only [getD_0, getD_s, set_0, set_s, boolD_bl, intD_int, startD, List.map, List.length_cons, List.length_nil, List.replicate, List.cons_append, List.nil_append, defEnds, wipeD, if_true, if_false, Bool.not_true, Bool.not_false, Bool.false_eq_true]
      refine ⟨by decide, 3, rfl, by decide, by decide, fun v v0 v1 => ?_⟩
      refine ix_any v0 (by simpa using v1) fun d hd => ?_
      obtain ⟨c, rfl, hc⟩ : ∃ c : Nat, d = .int c ∧ c ≤ 9 := by
        simp only [List.mem_cons, List.not_mem_nil, or_false] at hd
        rcases hd with rfl | rfl | rfl
        · exact ⟨1, rfl, by decide⟩
        · exact ⟨9, rfl, by decide⟩
        · exact ⟨0, rfl, by decide⟩
      have hnum : wd 3 "num" := ⟨by decide +kernel, by decide⟩
      obtain ⟨p2, z, rfl⟩ := snoc_of (l := nm) (by rintro rfl; simp at hl; omega)
      rw [List.length_append, List.length_singleton] at hl
      have hp2 : ∀ y ∈ p2, wd 3 y := fun y hy => hn y (List.mem_append_left _ hy)
      refine ⟨_, rfl, p2.map D.str, .str z, by rw [List.map_append]; rfl, c, rfl, by omega, by omega, by rw [rngD_length, sizeLine_eq]; omega, lcD_any (fun x : Str => D.str x) (wd 3) (fun d hd R S hR => ?_) fun fs hfl hfs => ?_⟩
      · simp only [getD_0, getD_s, set_0, set_s, boolD_bl, intD_int, startD, List.map, List.length_cons, List.length_nil, List.replicate, List.cons_append, List.nil_append, defEnds, wipeD, if_true, if_false, Bool.not_true, Bool.not_false, Bool.false_eq_true]
        refine ⟨_, rfl, trivial, ?_⟩
        simp only [Ent.toD]
        refine ⟨by decide, ?_⟩
        simp only [sliceD, addD]
        have e6 : [D.str "num"] ++ cutD (p2.map D.str) none (some ((7 : Int) + (mv : Int))) = (("num" : Str) :: p2.take (7 + mv)).map D.str := by
          rw [show (7 : Int) + (mv : Int) = ((7 + mv : Nat) : Int) by omega, cutTo, ← List.map_take]
          rfl
        have l6 : (cutD (p2.map D.str) none (some ((7 : Int) + (mv : Int)))).length ≤ 9 := by
          rw [show (7 : Int) + (mv : Int) = ((7 + mv : Nat) : Int) by omega, cutTo, List.length_take]
          omega
        refine ⟨by rw [sizeLine_eq]; simp only [List.length_cons, List.length_nil]; omega, _, rfl, by rw [e6]; simp, by rw [List.length_append]; simp only [List.length_cons, List.length_nil]; omega, fun x hx => ?_⟩
        rw [e6] at hx
        obtain ⟨z, hz, rfl⟩ := List.mem_map.mp hx
        refine ⟨rfl, hR _ ?_⟩
        rcases List.mem_cons.mp hz with rfl | hz
        · exact hnum
        · exact hp2 z (List.mem_of_mem_take hz)
      · rw [rngD_length] at hfl
        simp only [tupleD]
        refine ⟨by decide, _, rfl, by rw [List.length_map, sizeLine_eq]; omega, ?_⟩
        have e8 : rows.map boughD ++ [D.tup [.str z, .tup (fs.map fun x => D.str x)]] = (rows ++ [((z, fs) : Bough)]).map boughD := by
          rw [List.map_append]
          rfl
        rw [e8]
        refine hR2 _ ⟨j + 1, p2, rows ++ [(z, fs)], _, _, _, el2', by omega, by omega, hp2, by rw [List.length_append, rl]; simp only [List.length_cons, List.length_nil]; omega, fun b hb' => ?_, rfl⟩
        rcases List.mem_append.mp hb' with hb' | hb'
        · exact hb b hb'
        · rw [List.mem_singleton.mp hb']
          exact ⟨hn z (by simp), hfs, show fs.length ≤ 9 by omega⟩
end
end KB
namespace Dk
open PySem L2 PySem.Spec PyProof.Rows
def mulCD (x y : D) (Q : D → Prop) : Prop := ∃ (c n : Nat), x = .str ⟨#[c]⟩ ∧ y = .int (n : Nat) ∧ n ≤ 100 ∧ Q (.str (Txt.mul ⟨#[c]⟩ (n : Nat)))
theorem mono_mulC : Mono2 mulCD := fun x y Q Q' k ⟨u, b, h1, h2, h3, q⟩ => ⟨u, b, h1, h2, h3, k _ q⟩
def RMulC : R2 := fun x y H Q => ∃ (c n : Nat), x = .str ⟨#[c]⟩ ∧ y = .int (n : Nat) ∧ n ≤ 100 ∧ Q (.str (Txt.mul ⟨#[c]⟩ (n : Nat))) H
section
variable {F : Fx} {X : Cx} {K : PySem.W.Frag} {a b : Expr} {ta tb : DT} {pos : Pos}
theorem or_mulC : OpR X (binaryOp .Mult) RMulC := by
  intro pins s σ H x y v u Q J rx ry h
  obtain ⟨c, n, rfl, rfl, hn, q⟩ := h
  obtain ⟨t, rfl⟩ := rx
  obtain ⟨t', rfl⟩ := ry
  refine PySem.SB.mul (PyProof.Rows.mulOk_of 1 100 (by show (1 : Nat) ≤ 1; decide) (by omega) (by omega) (by decide) (by decide)) fun t2 k2 => ?_
  exact ⟨.str (Txt.mul ⟨#[c]⟩ (n : Nat)), H, J.kept fun _ _ h => h, ⟨_, rfl⟩, q⟩
theorem lf_mulC : LiftR F K RMulC mulCD := by
  intro x y dx dy I H Q st rx ry ⟨u, k, e1, e2, h, q⟩
  subst e1 e2
  cases rx
  cases ry
  exact ⟨u, k, rfl, rfl, h, q _ I H st.stp (.str _)⟩
theorem de_mulC (ha : DE F X a ta) (hb : DE F X b tb) : DE F X (.BinOp a .Mult b pos) (fun ρ Q => ta ρ fun x => tb ρ fun y => mulCD x y Q) := de_op mono_mulC or_mulC lf_mulC ha hb
end
end Dk
namespace KB
open PySem L2 Dk
open PyProof.Rows (envOfC)
abbrev s_law : Stmt := top 53
theorem sc_law : FnScope ["_law_script", "_law_deck_here", "_law_turn", "_law_kinds_here", "_law_names_here", "_law_twice", "_law_k", "_law_things", "_law_again", "_law_thing", "_law_odd_here", "_law_name", "_law_told", "_law_far", "_law_last", "_law_rows", "_law_bent"] ["_law_script"] (defScope s_law) := ⟨rfl, rfl, rfl, by decide +kernel, rfl, by decide +kernel, by decide +kernel⟩
theorem at_last (p : List D) (x : D) : L2.atI (p ++ [x]) (-1) = some x := by
  have h : ixN (p ++ [x]).length (-1) = some p.length := by
    unfold ixN
    rw [if_neg (by decide), List.length_append, List.length_singleton, if_pos (by omega)]
    congr 1
    omega
  unfold L2.atI
  rw [h]
  simp
theorem cut_last (p : List D) (x : D) : cutD (p ++ [x]) none (some (-1)) = p := by
  unfold cutD
  have h : HT.sIx (p ++ [x]).length (p ++ [x]).length (some (-1)) = p.length := by
    unfold HT.sIx
    simp
    omega
  rw [h]
  show ((p ++ [x]).drop 0).take (p.length - 0) = p
  rw [List.drop_zero, Nat.sub_zero, List.take_left]
theorem lit_k {n b : Str} {fs : List Str} (hn : wd 8 n) (hb : wd 8 b) (hf : ∀ f ∈ fs, wd 8 f) (hl : fs.length ≤ 8) : Tg 30 200000 (kindsD [(n, [(b, fs)])]) := by
  have lk : Lk 8 6 8 8 [(n, [(b, fs)])] := by
    refine ⟨fun k hk => ?_, fun k hk b' hb' => ?_, fun k hk b' hb' f hf' => ?_, by simp, fun k hk => ?_, fun k hk b' hb' => ?_⟩ <;> (rw [List.mem_singleton] at hk; subst hk)
    · exact hn
    · rw [List.mem_singleton.mp hb']; exact hb
    · rw [List.mem_singleton.mp hb'] at hf'; exact hf f hf'
    · exact Nat.le_trans (Nat.le_refl 1) (by decide)
    · rw [List.mem_singleton.mp hb']; exact hl
  exact lk.tg8.mono (by decide) (by decide)
def spLaw01 (K : PySem.W.Frag) : Sp := fun vs H Q _ => ∃ (a : Addr) (ns : List Int), vs = [.ref a] ∧ SqL K H a (ns.map V.int) ∧ ns.length ≤ 63 ∧ ∀ H', Q (.bl true) H'
section
variable {P : Program} {w : World} {K : PySem.W.Frag} {C CB a l : Addr} {mg : Str → Option Value} {base : Heap} {W : Wd} {k : Nat} {f : Addr} {fd : FuncData}
theorem ok_law01 (T : TxtA K C mg) (Fn : Fun K "law" "law" s_law f fd)
    {fK : Addr} {fdK : FuncData} (GK : GnOk P w K mg base CX0 1 fK fdK ["_law_script"] (KB.spDeck K)) (mK : mg "_law_deck" = some (.ref fK)) (kK : PySem.W.keepIn K (.ref fK) = true) (bK : Binds K fdK ["_law_script"] [])
    (Cdraw : ∀ p l, Cal P w K mg base CX0 (DeckW p l) 50 "_law_draw" ["_law_deck_here", "_law_most"] (spDraw p))
    (Cany : ∀ p l, Cal P w K mg base CX0 (DeckW p l) 50 "_law_any_kinds" ["_law_deck_here"] (spKindsN p))
    (Cin : ∀ W, Cal P w K mg base CX0 W 50 "_law_names_in" ["_law_kinds_here"] spNamesIn)
    (Cfew : ∀ W, Cal P w K mg base CX0 W 50 "_law_few_bare" ["_law_kinds_here"] spFewBare)
    (Cspoilt : ∀ p l, Cal P w K mg base CX0 (DeckW p l) 50 "_law_spoilt" ["_law_deck_here", "_law_thing", "_law_names_here"] (spSpoiltN p 12))
    (Cright : ∀ W, Cal P w K mg base CX0 W 50 "_law_right" ["_law_thing"] spRightA)
    (Cname : ∀ W, Cal P w K mg base CX0 W 50 "is_name" ["thing"] spNameA)
    (Cisn : ∀ W, Cal P w K mg base CX0 W 50 "_law_is_name" ["_law_thing"] spNameA)
    (Cfar : ∀ p l, Cal P w K mg base CX0 (DeckW p l) 50 "_law_far_kinds" ["_law_deck_here"] (spFarK p)) : GnOk P w K mg base CX0 60 f fd ["_law_script"] (spLaw01 K) := by
  refine Fn.gn sc_law (fun vs H Q E h => ?_) fun cdv A outer s H vs Q E hr h => ?_
  · obtain ⟨a, ns, rfl, _⟩ := h
    rfl
  have hu := hr.units
  have hu2 : (A.deeper (envOfC "law" (defScope s_law) s.heap.objs.size f cdv)).units + 66 < cLine := by have := hr.room.un; omega
  obtain ⟨a, ns, rfl, hS, h63, q⟩ := h
  refine ⟨_, PSs.nox (pss_cons (ps_set (i := 1) sc_law.nd rfl (.inr rfl) (gn_call GK (hr.mono (by omega)) rfl mK kK bK .nil pass0 (pa_cons (pv 0) pa_nil) (by decide) rfl rfl)) (pss_any (F := fun i : Addr × Addr × Hp × Hp => ⟨DeckW i.1 i.2.1, i.2.2.1, i.2.2.2⟩) (fun i => by
    have C__law_draw := Cdraw i.1 i.2.1
    have C__law_any_kinds := Cany i.1 i.2.1
    have C__law_names_in := Cin (DeckW i.1 i.2.1)
    have C__law_few_bare := Cfew (DeckW i.1 i.2.1)
    have C__law_spoilt := Cspoilt i.1 i.2.1
    have C__law_right := Cright (DeckW i.1 i.2.1)
    have C_is_name := Cname (DeckW i.1 i.2.1)
    have C__law_is_name := Cisn (DeckW i.1 i.2.1)
    have C__law_far_kinds := Cfar i.1 i.2.1
    exact (dss_cons (ds_for PassesOwn.never rfl (di_range1 T.b_range (da_cons de_int da_nil)) (dg_name 2 sc_law.nd)
  (dss_cons (ds_set 3 (de_fn C__law_any_kinds (hr.mono (by omega)) pass0 lets0 (da_cons (de_name 1) da_nil)) sc_law.nd)
  (dss_cons (ds_set 4 (de_fn C__law_names_in (hr.mono (by omega)) pass0 lets0 (da_cons (de_name 3) da_nil)) sc_law.nd)
  (dss_cons (by first | exact (ds_setLc (i := 5) (own := [("_law_k", 6)]) rfl sc_law.nd rfl rfl (sw_true rfl rfl rfl (by decide +kernel)) (di_range1 T.b_range (da_cons de_int da_nil)) (blkOk_by (own := [("_law_k", 6)]) (N := ["_law_script", "_law_deck_here", "_law_turn", "_law_kinds_here", "_law_names_here", "_law_twice", "_law_k", "_law_things", "_law_again", "_law_thing", "_law_odd_here", "_law_name", "_law_told", "_law_far", "_law_last", "_law_rows", "_law_bent"]) (sc := defScope s_law) (by decide +kernel)) (fun _ _ _ _ _ => (dg_name 6 sc_law.nd)) (fun _ _ _ _ _ => dif_nil) (fun _ _ _ _ _ => (de_c (.eq hu) (de_fn C__law_draw (hr.mono (by omega)) pass0 lets0 (da_cons (de_name 1) (da_cons de_int da_nil))) de_int))) | exact (ds_set 5 (de_lc (own := [("_law_k", 6)]) rfl sc_law.nd (di_range1 T.b_range (da_cons de_int da_nil)) (blkOk_by (own := [("_law_k", 6)]) (N := ["_law_script", "_law_deck_here", "_law_turn", "_law_kinds_here", "_law_names_here", "_law_twice", "_law_k", "_law_things", "_law_again", "_law_thing", "_law_odd_here", "_law_name", "_law_told", "_law_far", "_law_last", "_law_rows", "_law_bent"]) (sc := defScope s_law) (by decide +kernel)) (fun _ _ _ _ _ => (dg_name 6 sc_law.nd)) (fun _ _ _ _ _ => dif_nil) (fun _ _ _ _ _ => (de_c (.eq hu) (de_fn C__law_draw (hr.mono (by omega)) pass0 lets0 (da_cons (de_name 1) (da_cons de_int da_nil))) de_int))) sc_law.nd))
  (dss_cons (ds_own 7 (da_cons (de_name 3) (da_cons de_non (da_cons de_bl (da_cons de_int (da_cons de_str (da_cons (de_tup da_nil) (da_cons (de_lst da_nil) (da_cons de_dict0 (da_cons (de_tup (da_cons (de_tup (da_cons de_str (da_cons (de_tup (da_cons (de_tup (da_cons de_str (da_cons (de_tup da_nil) da_nil))) da_nil)) da_nil))) da_nil)) (da_cons (de_tup (da_cons (de_tup (da_cons de_str (da_cons (de_tup (da_cons (de_tup (da_cons de_str (da_cons (de_tup da_nil) da_nil))) da_nil)) da_nil))) da_nil)) da_nil)))))))))) sc_law.nd)
  (dss_freeze 7
  (dss_cons (ds_setO 7 (deo_add (de_name 7) (de_lst (da_cons (de_tup (da_cons (de_tup (da_cons de_str (da_cons (de_tup (da_cons (de_tup (da_cons de_str (da_cons (de_tup (da_cons de_str da_nil)) da_nil))) da_nil)) da_nil))) da_nil)) (da_cons (de_tup (da_cons (de_tup (da_cons de_str (da_cons (de_tup da_nil) da_nil))) da_nil)) (da_cons (de_tup (da_cons (de_tup (da_cons de_str (da_cons (de_tup (da_cons (de_tup (da_cons de_str (da_cons (de_tup (da_cons de_str da_nil)) da_nil))) da_nil)) da_nil))) da_nil)) da_nil))))) sc_law.nd)
  (dss_freeze 7
  (dss_cons (ds_setO 7 (deo_add (de_name 7) (de_fn C__law_few_bare (hr.mono (by omega)) pass0 lets0 (da_cons (de_name 3) da_nil))) sc_law.nd)
  (dss_cons (ds_for PassesOwn.never rfl (di_seq (de_name 5)) (dg_name 8 sc_law.nd)
  (dss_cons (ds_set 9 (de_fn C__law_spoilt (hr.mono (by omega)) pass0 lets0 (da_cons (de_name 1) (da_cons (de_name 3) (da_cons (de_name 4) da_nil)))) sc_law.nd)
  (dss_one (ds_append 7 (de_if (dt_val (de_name 8)) (de_fn C__law_spoilt (hr.mono (by omega)) pass0 lets0 (da_cons (de_name 1) (da_cons (de_name 9) (da_cons (de_name 4) da_nil)))) (de_name 9))))))
  (dss_freeze 7
  (dss_cons (ds_for PassesOwn.never rfl (di_seq (de_add (de_name 7) (de_lst (da_cons (de_name 3) da_nil)))) (dg_name 9 sc_law.nd)
  (dss_one (ds_if (dt_not (dt_val (de_fn C__law_right (hr.mono (by omega)) pass0 lets0 (da_cons (de_name 9) da_nil))))
  (dss_one (ds_ret de_bl))
  dss_nil)))
  (dss_cons (ds_set 10 (de_lst (da_cons de_non (da_cons de_bl (da_cons de_int (da_cons (de_tup da_nil) (da_cons (de_lst da_nil) (da_cons de_dict0 (da_cons de_str (da_cons de_str (da_cons de_str (da_cons de_str (da_cons de_str (da_cons (de_mulC de_str de_int) (da_cons (de_mulC de_str de_int) (da_cons de_str (da_cons de_str (da_cons de_str (da_cons de_str da_nil)))))))))))))))))) sc_law.nd)
  (dss_one (ds_for PassesOwn.never rfl (di_seq (de_add (de_name 4) (de_name 10))) (dg_name 11 sc_law.nd)
  (dss_cons (ds_set 12 (de_fn C_is_name (hr.mono (by omega)) pass0 lets0 (da_cons (de_name 11) da_nil)) sc_law.nd)
  (dss_one (ds_if (dt_wh (dw_or (dt_not (dt_val (de_isi is_bool T.b_isinstance T.b_bool (by decide +kernel) (de_name 12)))) (dw_or1 (dt_c (.ne hu) (de_name 12) (de_fn C__law_is_name (hr.mono (by omega)) pass0 lets0 (da_cons (de_name 11) da_nil))))))
  (dss_one (ds_ret de_bl))
  dss_nil))))))))))))))))))
  (dss_cons (ds_set 13 (de_fn C__law_far_kinds (hr.mono (by omega)) pass0 lets0 (da_cons (de_name 1) da_nil)) sc_law.nd)
  (dss_cons (ds_asg (de_at hu (de_name 13) (de_neg de_int)) (dg_tup (n := 2) rfl (dgs_cons (dg_name 14 sc_law.nd) (dgs_cons (dg_name 15 sc_law.nd) dgs_nil))))
  (dss_cons (ds_set 16 (de_add (de_slice (de_name 13) do_none (do_some (de_neg de_int))) (de_tup (da_cons (de_tup (da_cons (de_name 14) (da_cons (de_add (de_slice (de_name 15) do_none (do_some (de_neg de_int))) (de_tup (da_cons (de_tup (da_cons (de_at hu (de_at hu (de_name 15) (de_neg de_int)) de_int) (da_cons (de_add (de_at hu (de_at hu (de_name 15) (de_neg de_int)) de_int) (de_tup (da_cons de_str da_nil))) da_nil))) da_nil))) da_nil))) da_nil))) sc_law.nd)
  (dss_one (ds_ret (de_eqLD hu (de_lc (own := [("_law_thing", 9)]) rfl sc_law.nd (di_seq (de_tup (da_cons (de_name 13) (da_cons (de_name 16) (da_cons (de_add (de_name 13) (de_slice (de_name 13) do_none (do_some de_int))) (da_cons (de_name 13) da_nil)))))) (blkOk_by (own := [("_law_thing", 9)]) (N := ["_law_script", "_law_deck_here", "_law_turn", "_law_kinds_here", "_law_names_here", "_law_twice", "_law_k", "_law_things", "_law_again", "_law_thing", "_law_odd_here", "_law_name", "_law_told", "_law_far", "_law_last", "_law_rows", "_law_bent"]) (sc := defScope s_law) (by decide +kernel)) (fun _ _ _ _ _ => (dg_name 9 sc_law.nd)) (fun _ _ _ _ _ => (dif_one (dt_not (dt_val (de_fn C__law_right (hr.mono (by omega)) pass0 lets0 (da_cons (de_name 9) da_nil)))))) (fun _ _ _ _ _ => de_int)) (de_lst da_nil))))))))))), ?_⟩
  refine ⟨_, rfl, a, ns, rfl, hS, h63, fun p l H' sm np nl dk => ?_⟩
  refine ⟨(p, l, H', fun _ => none), fun _ => none, _, at_deck (σ := some (.ref a) :: some (.ref p) :: List.replicate 15 none) 1 dk rfl, ?_⟩
  generalize hZ : ends _ _ _ _ = Z
  have hq : Z.rt (.bl true) := by
    rw [← hZ]
    intro v I' H'' _ rv
    cases rv
    exact q _
  clear hZ
  simp only [getD_0, getD_s, set_0, set_s, boolD_bl, intD_int, startD, List.map, List.length_cons, List.length_nil, List.replicate, List.cons_append, List.nil_append, defEnds, wipeD, if_true, if_false, Bool.not_true, Bool.not_false, Bool.false_eq_true]
  refine ⟨2, rfl, by decide, by decide, ?_⟩
  refine forD_ind (fun (l : List D) ρ => ∃ (u2 u3 u4 u5 u6 u7 u8 u9 u10 u11 u12 u13 u14 u15 u16 : Option Ent), ρ = [none, some (.dat (.opq p)), u2, u3, u4, u5, u6, u7, u8, u9, u10, u11, u12, u13, u14, u15, u16]) (fun ρ ⟨u2, u3, u4, u5, u6, u7, u8, u9, u10, u11, u12, u13, u14, u15, u16, e⟩ => ?_) (fun d l ρ R ⟨u2, u3, u4, u5, u6, u7, u8, u9, u10, u11, u12, u13, u14, u15, u16, e⟩ hR => ?_) _ _ ⟨none, none, none, none, none, none, none, none, none, none, none, none, none, none, none, rfl⟩
  · subst e
    refine ⟨_, rfl, rfl, fun ks hne hkb lk => ?_⟩
    simp only [getD_0, getD_s, set_0, set_s, boolD_bl, intD_int, startD, List.map, List.length_cons, List.length_nil, List.replicate, List.cons_append, List.nil_append, defEnds, wipeD, if_true, if_false, Bool.not_true, Bool.not_false, Bool.false_eq_true]
    obtain ⟨ks0, x, rfl⟩ := snoc_of hne
    obtain ⟨bs0, y, hbs⟩ := snoc_of (hkb x (by simp))
    obtain ⟨xn, xb⟩ := x
    obtain rfl : xb = bs0 ++ [y] := hbs
    simp only [negD, intD_int, sliceD]
    have a1 : L2.atI ((ks0 ++ [((xn, bs0 ++ [y]) : Kind)]).map kindD) (-1) = some (kindD (xn, bs0 ++ [y])) := by rw [List.map_append]; exact at_last _ _
    have a2 : L2.atI ((bs0 ++ [y]).map boughD) (-1) = some (boughD y) := by rw [List.map_append]; exact at_last _ _
    have c1 : cutD ((ks0 ++ [((xn, bs0 ++ [y]) : Kind)]).map kindD) none (some (-1)) = ks0.map kindD := by rw [List.map_append]; exact cut_last _ _
    have c2 : cutD ((bs0 ++ [y]).map boughD) none (some (-1)) = bs0.map boughD := by rw [List.map_append]; exact cut_last _ _
    refine ⟨_, a1, _, rfl, rfl, _, _, rfl, _, _, rfl, rfl, ?_⟩
    simp only [kindsD, c1, c2]
    refine ⟨_, a2, _, atI_0, _, a2, _, atI_1, by decide, ?_⟩
    simp only [addD]
    have lk1 := lk.s1
    have lk2 := lk.s2 (xn, bs0 ++ [y]) (by simp)
    have lk3 := lk.s3 (xn, bs0 ++ [y]) (by simp) y (by simp)
    simp only [List.length_append, List.length_singleton] at lk1 lk2
    have sl : sizeLine = 16777216 := by rw [sizeLine_eq]
    have tf := lk.tgs
    have w3 : wK 3 9 9 = 4302 := by decide
    have w10 : wK 3 9 10 = 4698 := by decide
    rw [w3] at tf
    have tfar : Tg 30 200000 (.tup ((ks0 ++ [((xn, bs0 ++ [y]) : Kind)]).map kindD)) := tf.tup.mono (by decide) (by decide)
    have lb : Lk 3 9 9 10 (ks0 ++ [((xn, bs0 ++ [(y.1, y.2 ++ [("zzz" : Str)])]) : Kind)]) := by
      have old : ∀ k ∈ ks0, k ∈ ks0 ++ [((xn, bs0 ++ [y]) : Kind)] := fun k hk => List.mem_append_left _ hk
      have oldb : ∀ b ∈ bs0, b ∈ bs0 ++ [y] := fun b hb => List.mem_append_left _ hb
      have kx : ((xn, bs0 ++ [y]) : Kind) ∈ ks0 ++ [((xn, bs0 ++ [y]) : Kind)] := by simp
      have yx : y ∈ bs0 ++ [y] := by simp
      refine ⟨fun k hk => ?_, fun k hk b hb => ?_, fun k hk b hb f hf => ?_, by simp only [List.length_append, List.length_singleton]; exact lk1, fun k hk => ?_, fun k hk b hb => ?_⟩ <;> rcases List.mem_append.mp hk with hk | hk
      · exact lk.kn k (old k hk)
      · rw [List.mem_singleton.mp hk]; exact lk.kn (xn, bs0 ++ [y]) kx
      · exact lk.bn k (old k hk) b hb
      · rw [List.mem_singleton.mp hk] at hb
        rcases List.mem_append.mp hb with hb | hb
        · exact lk.bn _ kx b (oldb b hb)
        · rw [List.mem_singleton.mp hb]; exact lk.bn _ kx y yx
      · exact lk.fl k (old k hk) b hb f hf
      · rw [List.mem_singleton.mp hk] at hb
        rcases List.mem_append.mp hb with hb | hb
        · exact lk.fl _ kx b (oldb b hb) f hf
        · rw [List.mem_singleton.mp hb] at hf
          rcases List.mem_append.mp hf with hf | hf
          · exact lk.fl _ kx y yx f hf
          · rw [List.mem_singleton.mp hf]; exact ⟨by decide +kernel, by decide⟩
      · exact lk.s2 k (old k hk)
      · rw [List.mem_singleton.mp hk]; show (bs0 ++ [_]).length ≤ 9; rw [List.length_append, List.length_singleton]; exact lk2
      · exact Nat.le_succ_of_le (lk.s3 k (old k hk) b hb)
      · rw [List.mem_singleton.mp hk] at hb
        rcases List.mem_append.mp hb with hb | hb
        · exact Nat.le_succ_of_le (lk.s3 _ kx b (oldb b hb))
        · rw [List.mem_singleton.mp hb]; show (y.2 ++ [("zzz" : Str)]).length ≤ 10; rw [List.length_append, List.length_singleton]; omega
    have tb := lb.tgs
    rw [w10] at tb
    have tbent : Tg 30 200000 (.tup (ks0.map kindD ++ [D.tup [.str xn, .tup (bs0.map boughD ++ [D.tup [.str y.1, .tup (y.2.map D.str ++ [D.str "zzz"])]])]])) := by
      have e : ks0.map kindD ++ [D.tup [.str xn, .tup (bs0.map boughD ++ [D.tup [.str y.1, .tup (y.2.map D.str ++ [D.str "zzz"])]])]] = (ks0 ++ [((xn, bs0 ++ [(y.1, y.2 ++ [("zzz" : Str)])]) : Kind)]).map kindD := by
        simp [kindD, boughD]
      rw [e]
      exact tb.tup.mono (by decide) (by decide)
    have tmore : Tg 30 200000 (.tup ((ks0 ++ [((xn, bs0 ++ [y]) : Kind)]).map kindD ++ cutD ((ks0 ++ [((xn, bs0 ++ [y]) : Kind)]).map kindD) none (some 1))) := (tf.app (tf.cut none (some 1))).tup.mono (by decide) (by decide)
    have lc : (cutD ((ks0 ++ [((xn, bs0 ++ [y]) : Kind)]).map kindD) none (some 1)).length ≤ 9 := by
      rw [show (1 : Int) = ((1 : Nat) : Int) from rfl, cutTo, List.length_take]
      omega
    refine ⟨by simp only [List.length_map, List.length_cons, List.length_nil, sl]; omega, by decide, by decide, by simp only [List.length_map, List.length_cons, List.length_nil, sl]; omega, by decide, by decide, by simp only [List.length_map, List.length_cons, List.length_nil, sl]; omega, by simp only [List.length_map, List.length_append, List.length_singleton, sl]; omega, by decide, ?_⟩
    simp only [itemsD]
    refine ⟨by simp only [List.length_cons, List.length_nil, sl]; decide, lcD_fl (fun _ => false) (fun c hc R S _ r2 => ?_) ?_⟩
    · have tc : Tg 30 200000 c := forall_cons tfar (forall_cons tbent (forall_cons tmore (forall_cons tfar forall_nil))) c hc
      refine ⟨_, rfl, c, 30, rfl, ⟨tc.g, tc.wt⟩, tc.dp, by decide, ?_⟩
      simp only [boolD_bl]
      exact r2 rfl
    · rw [List.filter_eq_nil_iff.mpr fun _ _ => by simp]
      exact ⟨Nat.zero_le _, [], rfl, rfl, hq⟩
  · subst e
    refine ⟨_, rfl, rfl, fun ks hne lk => ?_⟩
    refine ⟨_, rfl, ks, rfl, lk, fun ns hns => ?_⟩
    refine ⟨20, rfl, by decide, by decide, by decide, lcD_any (β := Bool) .bl (fun _ => True) (fun d _ R S hR => ?_) fun bs hbl _ => ?_⟩
    · refine ⟨_, rfl, 3, rfl, by decide, by decide, fun v v0 v1 => ?_⟩
      show eqD (.int v) (.int 1) _
      rw [eqD_int]
      exact hR _ trivial
    simp only [getD_0, getD_s, set_0, set_s, boolD_bl, intD_int, startD, List.map, List.length_cons, List.length_nil, List.replicate, List.cons_append, List.nil_append, defEnds, wipeD, if_true, if_false, Bool.not_true, Bool.not_false, Bool.false_eq_true]
    refine ⟨by decide, by decide, by decide, by decide, by decide, by decide, by decide, by decide, by decide, by decide, by decide, by decide, by decide, ?_⟩
    refine ⟨_, rfl, trivial, ?_⟩
    simp only [Ent.toD]
    have tk := lk.tg8
    have tk2 : Tg 30 200000 (kindsD ks) := tk.mono (by decide) (by decide)
    have lit : ∀ y : Str, ascii y = true → y.length ≤ 8 → wd 8 y := fun y h h2 => ⟨h, h2⟩
    have wa : wd 8 "a" := lit _ (by decide +kernel) (by decide)
    have wb : wd 8 "b" := lit _ (by decide +kernel) (by decide)
    have wc : wd 8 "c" := lit _ (by decide +kernel) (by decide)
    have wn : wd 8 "num" := lit _ (by decide +kernel) (by decide)
    have no : ∀ f ∈ ([] : List Str), wd 8 f := fun _ h => nomatch h
    have one : ∀ {z : Str}, wd 8 z → ∀ f ∈ [z], wd 8 f := fun h f hf => by rw [List.mem_singleton.mp hf]; exact h
    have l0 : Nat.log2 (Int.natAbs 0) = 0 := by decide
    have all0 : ∀ z ∈ [kindsD ks, D.non, D.bl true, D.int 0, D.str "", D.tup [], D.lst [], D.dic [], kindsD [("a", [("num", [])])], kindsD [("num", [("a", [])])]], Tg 30 200000 z := by
      refine forall_cons tk2 (forall_cons (.non (by decide)) (forall_cons (.bl (by decide)) (forall_cons (Tg.int (by decide) (by omega)) (forall_cons (.str (by decide +kernel) (by decide)) ?_))))
      refine forall_cons ((Tgs.nil (m := 0) (n := 0)).tup.mono (by decide) (by decide)) (forall_cons ((Tgs.nil (m := 0) (n := 0)).lst.mono (by decide) (by decide)) (forall_cons ⟨by simp [gd, gdk], by simp [dpD, pyF, pyFk, PyData.depth, PyData.depthKv], by simp only [wtD, wtk]; omega⟩ ?_))
      exact forall_cons (lit_k wa wn no (by decide)) (forall_cons (lit_k wn wa no (by decide)) forall_nil)
    have all1 : ∀ z ∈ [kindsD [("a", [("a", ["num"])])], D.tup [D.tup [.str "a", .tup []]], kindsD [("a", [("b", ["c"])])]], Tg 30 200000 z := by
      refine forall_cons (lit_k wa wa (one wn) (by decide)) (forall_cons ?_ (forall_cons (lit_k wa wb (one wc) (by decide)) forall_nil))
      exact (Tgs.cons (Tgs.cons (.str (n := 1) (m := 92) wa.1 (by decide)) (Tgs.cons (Tgs.nil (m := 0) (n := 0)).tup (Tgs.nil (m := 0)))).tup (Tgs.nil (m := 0))).tup.mono (by decide) (by decide)
    refine ⟨by decide, by decide, by decide, by decide, by decide, by decide, by decide, by decide, by decide, by decide, by decide, by decide, by decide, by decide, ?_⟩
    refine ⟨_, _, rfl, rfl, by simp only [List.length_cons, List.length_nil, sizeLine_eq]; decide, ?_⟩
    refine ⟨_, rfl, trivial, ks, rfl, hne, lk, fun f1 f2 f3 t1 t2 t3 => ?_⟩
    refine ⟨_, _, rfl, rfl, by simp only [List.length_append, List.length_cons, List.length_nil, sizeLine_eq]; decide, ?_⟩
    simp only [itemsD]
    have all2 : ∀ z ∈ ([kindsD ks, D.non, D.bl true, D.int 0, D.str "", D.tup [], D.lst [], D.dic [], kindsD [("a", [("num", [])])], kindsD [("num", [("a", [])])]] ++ [kindsD [("a", [("a", ["num"])])], D.tup [D.tup [.str "a", .tup []]], kindsD [("a", [("b", ["c"])])]]) ++ [f1, f2, f3], Tg 30 200000 z := fun z hz => by
      rcases List.mem_append.mp hz with hz | hz
      · exact (List.mem_append.mp hz).elim (all0 z) (all1 z)
      · exact forall_cons (t1.mono (by decide) (by decide)) (forall_cons (t2.mono (by decide) (by decide)) (forall_cons (t3.mono (by decide) (by decide)) forall_nil)) z hz
    rw [rngD_length] at hbl
    refine forD_ind (fun (l : List D) ρ => ∃ (rest : List Bool) (xs : List D) (w6 w8 w9 : Option Ent), l = rest.map D.bl ∧ (∀ z ∈ xs, Tg 30 200000 z) ∧ xs.length + rest.length ≤ 40 ∧ ρ = [none, some (.dat (.opq p)), some (.dat d), some (.dat (kindsD ks)), some (.dat (nmsD ns)), some (.dat (.lst (bs.map D.bl))), w6, some (.own xs), w8, w9, u10, u11, u12, u13, u14, u15, u16]) (fun ρ ⟨rest, xs, w6, w8, w9, el, hx, hl, e⟩ => ?_) (fun d' l2 ρ R2 ⟨rest, xs, w6, w8, w9, el, hx, hl, e⟩ hR2 => ?_) _ _ ⟨bs, _, _, _, _, rfl, all2, by rw [hbl]; simp only [List.length_append, List.length_cons, List.length_nil]; decide, rfl⟩
    · subst e
      refine ⟨_, rfl, trivial, ?_⟩
      simp only [Ent.toD]
      refine ⟨_, rfl, _, rfl, by decide, ?_⟩
      simp only [addD, itemsD]
      refine ⟨by rw [sizeLine_eq]; simp only [List.length_cons, List.length_nil]; omega, ?_⟩
      have hx2 : ∀ z ∈ xs ++ [kindsD ks], Tg 30 200000 z := fun z hz => (List.mem_append.mp hz).elim (hx z) fun h => by rw [List.mem_singleton.mp h]; exact tk2
      refine forD_ind (fun (l : List D) ρ => ∃ (w9 : Option Ent), (∀ z ∈ l, Tg 30 200000 z) ∧ ρ = [none, some (.dat (.opq p)), some (.dat d), some (.dat (kindsD ks)), some (.dat (nmsD ns)), some (.dat (.lst (bs.map D.bl))), w6, some (.dat (.lst xs)), w8, w9, u10, u11, u12, u13, u14, u15, u16]) (fun ρ ⟨w9, hz, e⟩ => ?_) (fun d' l2 ρ R3 ⟨w9, hz, e⟩ hR3 => ?_) _ _ ⟨_, hx2, rfl⟩
      · subst e
        have fs : ∀ z : Str, z.length ≤ 20000 → FitN (.str z) := fun z h => ⟨rfl, fun x e => by injection e with e; rw [← e]; exact h⟩
        have fn : ∀ z : D, known z = true → isStr z = false → FitN z := fun z h h2 => ⟨h, fun x e => by rw [e] at h2; cases h2⟩
        refine ⟨by decide, by decide, 97, 8, rfl, rfl, by decide, 97, 9, rfl, rfl, by decide, by decide, ?_⟩
        simp only [nmsD, addD, itemsD]
        have hodd : ∀ z ∈ [D.non, D.bl true, D.int 0, D.tup [], D.lst [], D.dic [], D.str "", D.str "num", D.str "nums", D.str "nu", D.str "NUM", D.str (Txt.mul ⟨#[97]⟩ (8 : Nat)), D.str (Txt.mul ⟨#[97]⟩ (9 : Nat)), D.str "a1", D.str "a b", D.str "A", D.str "a\n"], FitN z := by
          refine forall_cons (fn _ rfl rfl) (forall_cons (fn _ rfl rfl) (forall_cons (fn _ rfl rfl) (forall_cons (fn _ rfl rfl) (forall_cons (fn _ rfl rfl) (forall_cons (fn _ rfl rfl) ?_)))))
          refine forall_cons (fs _ (by decide +kernel)) (forall_cons (fs _ (by decide +kernel)) (forall_cons (fs _ (by decide +kernel)) (forall_cons (fs _ (by decide +kernel)) (forall_cons (fs _ (by decide +kernel)) ?_))))
          exact forall_cons (fs _ (by decide +kernel)) (forall_cons (fs _ (by decide +kernel)) (forall_cons (fs _ (by decide +kernel)) (forall_cons (fs _ (by decide +kernel)) (forall_cons (fs _ (by decide +kernel)) (forall_cons (fs _ (by decide +kernel)) forall_nil)))))
        have hnf := hns.few
        have hnm : ∀ z ∈ ns.map D.str, FitN z := fun z hz => by
          obtain ⟨y, hy, rfl⟩ := List.mem_map.mp hz
          exact fs y (Nat.le_trans (hns.a y hy).2 (by decide))
        have hsz : (ns.map D.str).length + 17 ≤ sizeLine := by rw [List.length_map, sizeLine_eq]; omega
        simp only [getD_0, getD_s, set_0, set_s, boolD_bl, intD_int, startD, List.map, List.length_cons, List.length_nil, List.replicate, List.cons_append, List.nil_append, defEnds, wipeD, if_true, if_false, Bool.not_true, Bool.not_false, Bool.false_eq_true]
        refine And.intro hsz ?_
        refine forD_ind (fun (l : List D) ρ => ∃ (w10 w11 w12 : Option Ent), (∀ z ∈ l, FitN z) ∧ ρ = [none, some (.dat (.opq p)), some (.dat d), some (.dat (kindsD ks)), some (.dat (.lst (ns.map D.str))), some (.dat (.lst (bs.map D.bl))), w6, some (.dat (.lst xs)), w8, w9, w10, w11, w12, u13, u14, u15, u16]) (fun ρ ⟨w10, w11, w12, hz, e⟩ => ?_) (fun d' l2 ρ R4 ⟨w10, w11, w12, hz, e⟩ hR4 => ?_) _ _ ⟨_, u11, u12, fun z hz => (List.mem_append.mp hz).elim (hnm z) (hodd z), rfl⟩
        · subst e
          exact hR _ ⟨_, _, _, _, _, _, _, _, _, _, _, _, _, _, _, rfl⟩
        · subst e
          have tz := hz d' (by simp)
          refine ⟨_, rfl, d', rfl, tz, ?_⟩
          refine ⟨_, rfl, rfl, ?_⟩
          rw [if_neg (by simp [isBl])]
          refine ⟨_, rfl, _, rfl, d', rfl, tz, neD_bb ?_⟩
          rw [boolD_bl, if_neg (by decide)]
          exact hR4 _ ⟨_, _, _, fun z h => hz z (List.mem_cons_of_mem _ h), rfl⟩
      · subst e
        have tz := hz d' (by simp)
        refine ⟨_, rfl, d', 30, rfl, ⟨tz.g, tz.wt⟩, tz.dp, by decide, ?_⟩
        show boolD (.bl true) _
        rw [boolD_bl, if_neg (by decide)]
        exact hR3 _ ⟨_, fun z h => hz z (List.mem_cons_of_mem _ h), rfl⟩
    · subst e
      cases rest with
      | nil => cases el
      | cons b rest =>
        rw [List.map_cons] at el
        obtain ⟨rfl, rfl⟩ := List.cons.inj el
        rw [List.length_cons] at hl
        refine ⟨_, rfl, _, rfl, _, rfl, 5, 43000, _, ns, rfl, by decide, hns, tk, by decide, fun d1 td1 => ?_⟩
        refine ⟨_, rfl, _, rfl, ?_⟩
        show boolD (.bl b) _
        rw [boolD_bl]
        have add : ∀ z, Tg 30 200000 z → ∀ y ∈ xs ++ [z], Tg 30 200000 y := fun z tz y hy => (List.mem_append.mp hy).elim (hx y) fun h => by rw [List.mem_singleton.mp h]; exact tz
        cases b with
        | true =>
          rw [if_pos rfl]
          refine ⟨_, rfl, _, rfl, _, rfl, 11, 92000, _, ns, rfl, by decide, hns, td1, by decide, fun d2 td2 => ?_⟩
          exact ⟨by rw [sizeLine_eq]; omega, hR2 _ ⟨rest, xs ++ [d2], _, _, _, rfl, add d2 (td2.mono (by decide) (by decide)), by rw [List.length_append, List.length_singleton]; omega, rfl⟩⟩
        | false =>
          rw [if_neg (by decide)]
          refine ⟨_, rfl, ?_⟩
          exact ⟨by rw [sizeLine_eq]; omega, hR2 _ ⟨rest, xs ++ [d1], _, _, _, rfl, add d1 (td1.mono (by decide) (by decide)), by rw [List.length_append, List.length_singleton]; omega, rfl⟩⟩
end
end KB
namespace KB
open PySem L2 Dk PySem.Spec
open PyProof.Rows (envOfC)
abbrev s_Bare___init__ : Stmt := inClass (top 7) 0
theorem sc_Bare___init__ : FnScope ["self", "kind"] ["self", "kind"] (defScope s_Bare___init__) := ⟨rfl, rfl, rfl, by decide +kernel, rfl, by decide +kernel, by decide +kernel⟩
theorem bd_Bare___init__ (kV doc pm : Value) (an : Option Addr) (cdv ct : Value) (us : List Value) (hl : us.length = 2) : bindArgs (PySem.W.fnOf "__init__" "Bare.__init__" (defArgs s_Bare___init__) (defBody s_Bare___init__) (defScope s_Bare___init__) .none kV doc pm an cdv ct) ⟨us, []⟩ = pure ((["self", "kind"] : List Str).zip us) := by
  match us, hl with
  | [v0, v1], _ => rfl
section
variable {P : Program} {w : World} {K : PySem.W.Frag} {N D : Addr} {mg : Str → Option Value} {base : Heap} {k : Nat} {f : Addr} {fd : FuncData}
theorem ok_Bare (ox : OxC K "ValueError.__new__" veTl N) (hno : PySem.W.findIn K (.ref N) "kind" = some none) (hk : mg "KindError" = some (.ref D)) (ga : PySem.W.specialIn K (.ref D) "__getattribute__" = some (some (.builtin "type.__getattribute__"))) (rd : PySem.W.readsIn K D (.type "type") = true) (vV : PySem.W.findCls K (.ref D) (.type "type") "__init__" = some (.val (.builtin "ValueError.__init__"))) (Fn : Fun K "__init__" "Bare.__init__" s_Bare___init__ f fd) : GnOk P w K mg base CX0 (k + 1) f fd ["self", "kind"] (spX N "kind") := by
  refine Fn.gn sc_Bare___init__ (fun vs H Q E ⟨a, y, e, _⟩ => by rw [e]; rfl) fun cdv A outer s H vs Q E hr ⟨a, y, e, ha, q⟩ => ?_
  subst e
  exact run_xinit xb_ve ox hno (fun ta h => pe_xinitO xb_ve rfl hk ga rd vV hh_VE h) rfl (by first | exact Or.inl rfl | exact Or.inr (Or.inl rfl)) (by first | exact Or.inl rfl | exact Or.inr (Or.inl rfl)) (by decide) (by decide) rfl rfl rfl rfl ha q
end
end KB
namespace Dk
open PySem L2 PySem.Spec PyProof.Rows
section
variable {F : PySem.W.Frag → Bool} {fn : List He.FnD} {K : PySem.W.Frag}
theorem SaysX.fact (c : SaysX F fn K) : F K = true := (He.ba (show (F K && fn.all fun d => (He.Fa.code d.at_ d.qual).ok K) = true from congrArg (fun z : Bool × List He.FnV => z.1) c)).1
theorem SaysX.def_ (c : SaysX F fn K) (i : Nat) {d : He.FnD} (h : fn[i]? = some d := by rfl) :
    ∃ oc od osl kV doc pm an cdv ct, K.lookup (He.fAd K d.at_) = some ⟨oc, od, .func (PySem.W.fnOf d.name d.qual d.params d.body d.scope .none kV doc pm an cdv ct), osl⟩ ∧ PySem.W.codeIn K cdv d.qual = true := by
  have c2 := (He.ba (show (F K && fn.all fun d => (He.Fa.code d.at_ d.qual).ok K) = true from congrArg (fun z : Bool × List He.FnV => z.1) c)).2
  have e : fn.map (fun d => He.fnObs K d.at_) = fn.map He.FnD.val := congrArg (fun z : Bool × List He.FnV => z.2) c
  have e2 : (fn.map fun d => He.fnObs K d.at_)[i]? = (fn.map He.FnD.val)[i]? := by rw [e]
  rw [List.getElem?_map, List.getElem?_map, h] at e2
  exact He.fn_ok (Option.some.inj e2) (List.all_eq_true.mp c2 d (List.mem_of_getElem? h))
end
theorem faS_in {K : PySem.W.Frag} {x z : Str} (c : (He.Fa.str x z).ok K = true) : ∃ t, PySem.W.nsIn K mainGlobals x = some (some (.str z t)) := by
  have c2 : (match PySem.W.nsIn K mainGlobals x with
    | some (some (.str y _)) => decide (y = z)
    | _ => false) = true := c
  cases e : PySem.W.nsIn K mainGlobals x with
  | none => rw [e] at c2; cases c2
  | some o =>
    rw [e] at c2
    cases o with
    | none => cases c2
    | some v =>
      cases v with
      | str y t =>
        have ej : y = z := of_decide_eq_true c2
        exact ⟨t, by rw [ej]⟩
      | _ => cases c2
theorem faI_in {K : PySem.W.Frag} {x : Str} {i : Int} (c : (He.Fa.int x i).ok K = true) : ∃ t, PySem.W.nsIn K mainGlobals x = some (some (.int i t)) := by
  have c2 : (match PySem.W.nsIn K mainGlobals x with
    | some (some (.int j _)) => decide (j = i)
    | _ => false) = true := c
  cases e : PySem.W.nsIn K mainGlobals x with
  | none => rw [e] at c2; cases c2
  | some o =>
    rw [e] at c2
    cases o with
    | none => cases c2
    | some v =>
      cases v with
      | int j t =>
        have ej : j = i := of_decide_eq_true c2
        exact ⟨t, by rw [ej]⟩
      | _ => cases c2
theorem walk_gnE {l : PySem.W.OpenLaw} {n k : Nat} {q : Program} {loose : List Str} {XP : (Str → Option Value) → Heap → Prop} {YP : World → Heap → Prop} {d : DefRec} {x : Str} {sp : PySem.W.Frag → Sp}
    (hn : l.most = some n) (hn2 : n ≤ sizeLine) (hdf : d.params.defaults = []) (room : Room k callerA)
    (F : ∀ (w : World) (mg : Str → Option Value) (fa : Addr) (h : Heap), YP w h → h.Ns mainGlobals mg → mg d.name = some (.ref fa) →
      ∃ (K : PySem.W.Frag) (fd : FuncData), K.In h ∧ (∀ (s : Shared) (u : Value), BindsTo s fd ⟨[u], []⟩ [(x, u)]) ∧ ∀ base : Heap, K.In base → base.Ns mainGlobals mg → GnOk l.prog w K mg base CX0 k fa fd [x] (sp K))
    (says : ∀ (K : PySem.W.Frag) (H : Hp) (a : Addr) (ns : List Int), ns.length ≤ n → SqL K H a (ns.map V.int) → sp K [.ref a] H (fun v _ => v = .bl true) fun _ _ _ => False) :
    PySem.W.WalkO q loose XP YP l.row.toRowW d [] (fun f vs => PySem.call f vs) := by
  refine Att.attach_call hn hdf fun w s0 s1 mg mb fa o pm cd doc a us ns G Y ho hd hcd hmg hobj hints hlen hg => ?_
  obtain ⟨K, fd, KX, hb, hF⟩ := F w mg fa _ Y G.T.g hmg
  exact law_gn KX G.T.g G.T.b G.T.builtins G.T.nolimit hg hobj hints (Nat.le_trans hlen hn2) room hF hb (fun H _ hS => says _ H a ns hlen hS) fun H e s' z => z
end Dk
namespace KB
open PySem L2 Dk PySem.Spec PyProof.Rows
section
variable {P : Program} {w : World} {K : PySem.W.Frag} {C a l : Addr} {mg : Str → Option Value} {base : Heap} {f : Addr} {fd : FuncData}
theorem all_spoiltN (T : TxtB K C mg) (Fw : Fun K "_law_spoilt" "_law_spoilt" s__law_spoilt f fd) (mw : mg "_law_spoilt" = some (.ref f)) (Cd : ∀ j, Cal P w K mg base CX0 (DeckW a l) (j + 1) "_law_draw" ["_law_deck_here", "_law_most"] (spDraw a)) (Co : ∀ j, Cal P w K mg base CX0 (DeckW a l) (j + 3) "_law_odd" ["_law_deck_here", "_law_thing", "_law_names_here"] (spOddN a)) : ∀ n, GnOk P w K mg base CX0 (n + 3) f fd ["_law_deck_here", "_law_thing", "_law_names_here"] (spD (DeckW a l) K (spSpoiltN a n)) := by
  intro n
  induction n with
  | zero => exact Fw.okD sc__law_spoilt rfl fun cdv A outer s H I ds Q Ed E hr ⟨_, _, _, _, _, h, _⟩ => by omega
  | succ n ih => exact ok_law_spoiltN T Fw (Cd (n + 2)) (Co n) (Cal.of Fw ih mw bd__law_spoilt)
end
theorem all_mk {l : PySem.W.OpenLaw} {w : World} {K : PySem.W.Frag} {h : Heap} {mg : Str → Option Value} {fa : Addr} (X : K.In h) (G : h.Ns mainGlobals mg) (hfa : mg "law" = some (.ref fa))
    {C_Book : Addr}
    {C_Bare : Addr}
    {C_Gap : Addr}
    {C_InUse : Addr}
    {C_NoBack : Addr}
    {C_NoDress : Addr}
    {C_NoFall : Addr}
    {C_NoFilling : Addr}
    {C_NoFun : Addr}
    {C_NoIndex : Addr}
    {C_NoName : Addr}
    {C_NoOrnament : Addr}
    {C_NoText : Addr}
    {C_Taken : Addr}
    {C_TooLong : Addr}
    {C_Unlike : Addr}
    {C_KindError : Addr}
    {f1 : Addr} {od1 an1 : Option Addr} {sl1 : Array (Option Value)} {oc1 kV1 dc1 pm1 cd1 ct1 : Value}
    {f2 : Addr} {od2 an2 : Option Addr} {sl2 : Array (Option Value)} {oc2 kV2 dc2 pm2 cd2 ct2 : Value}
    {f3 : Addr} {od3 an3 : Option Addr} {sl3 : Array (Option Value)} {oc3 kV3 dc3 pm3 cd3 ct3 : Value}
    {f4 : Addr} {od4 an4 : Option Addr} {sl4 : Array (Option Value)} {oc4 kV4 dc4 pm4 cd4 ct4 : Value}
    {f5 : Addr} {od5 an5 : Option Addr} {sl5 : Array (Option Value)} {oc5 kV5 dc5 pm5 cd5 ct5 : Value}
    {f6 : Addr} {od6 an6 : Option Addr} {sl6 : Array (Option Value)} {oc6 kV6 dc6 pm6 cd6 ct6 : Value}
    {f7 : Addr} {od7 an7 : Option Addr} {sl7 : Array (Option Value)} {oc7 kV7 dc7 pm7 cd7 ct7 : Value}
    {f8 : Addr} {od8 an8 : Option Addr} {sl8 : Array (Option Value)} {oc8 kV8 dc8 pm8 cd8 ct8 : Value}
    {f9 : Addr} {od9 an9 : Option Addr} {sl9 : Array (Option Value)} {oc9 kV9 dc9 pm9 cd9 ct9 : Value}
    {f10 : Addr} {od10 an10 : Option Addr} {sl10 : Array (Option Value)} {oc10 kV10 dc10 pm10 cd10 ct10 : Value}
    {f11 : Addr} {od11 an11 : Option Addr} {sl11 : Array (Option Value)} {oc11 kV11 dc11 pm11 cd11 ct11 : Value}
    {f12 : Addr} {od12 an12 : Option Addr} {sl12 : Array (Option Value)} {oc12 kV12 dc12 pm12 cd12 ct12 : Value}
    {f13 : Addr} {od13 an13 : Option Addr} {sl13 : Array (Option Value)} {oc13 kV13 dc13 pm13 cd13 ct13 : Value}
    {f14 : Addr} {od14 an14 : Option Addr} {sl14 : Array (Option Value)} {oc14 kV14 dc14 pm14 cd14 ct14 : Value}
    {f15 : Addr} {od15 an15 : Option Addr} {sl15 : Array (Option Value)} {oc15 kV15 dc15 pm15 cd15 ct15 : Value}
    {f16 : Addr} {od16 an16 : Option Addr} {sl16 : Array (Option Value)} {oc16 kV16 dc16 pm16 cd16 ct16 : Value}
    {f17 : Addr} {od17 an17 : Option Addr} {sl17 : Array (Option Value)} {oc17 kV17 dc17 pm17 cd17 ct17 : Value}
    {f18 : Addr} {od18 an18 : Option Addr} {sl18 : Array (Option Value)} {oc18 kV18 dc18 pm18 cd18 ct18 : Value}
    {f19 : Addr} {od19 an19 : Option Addr} {sl19 : Array (Option Value)} {oc19 kV19 dc19 pm19 cd19 ct19 : Value}
    {f20 : Addr} {od20 an20 : Option Addr} {sl20 : Array (Option Value)} {oc20 kV20 dc20 pm20 cd20 ct20 : Value}
    {f21 : Addr} {od21 an21 : Option Addr} {sl21 : Array (Option Value)} {oc21 kV21 dc21 pm21 cd21 ct21 : Value}
    {f22 : Addr} {od22 an22 : Option Addr} {sl22 : Array (Option Value)} {oc22 kV22 dc22 pm22 cd22 ct22 : Value}
    {f23 : Addr} {od23 an23 : Option Addr} {sl23 : Array (Option Value)} {oc23 kV23 dc23 pm23 cd23 ct23 : Value}
    {f24 : Addr} {od24 an24 : Option Addr} {sl24 : Array (Option Value)} {oc24 kV24 dc24 pm24 cd24 ct24 : Value}
    {f25 : Addr} {od25 an25 : Option Addr} {sl25 : Array (Option Value)} {oc25 kV25 dc25 pm25 cd25 ct25 : Value}
    {f26 : Addr} {od26 an26 : Option Addr} {sl26 : Array (Option Value)} {oc26 kV26 dc26 pm26 cd26 ct26 : Value}
    {f27 : Addr} {od27 an27 : Option Addr} {sl27 : Array (Option Value)} {oc27 kV27 dc27 pm27 cd27 ct27 : Value}
    {f28 : Addr} {od28 an28 : Option Addr} {sl28 : Array (Option Value)} {oc28 kV28 dc28 pm28 cd28 ct28 : Value}
    {t1 : Tok}
    {t2 : Tok}
    {t3 : Tok}
    {C_NoBook : Addr}
    (aCBook : PySem.W.nsIn K mainGlobals "Book" = some (some (.ref C_Book)))
    (aCBare : PySem.W.nsIn K mainGlobals "Bare" = some (some (.ref C_Bare)))
    (aCGap : PySem.W.nsIn K mainGlobals "Gap" = some (some (.ref C_Gap)))
    (aCInUse : PySem.W.nsIn K mainGlobals "InUse" = some (some (.ref C_InUse)))
    (aCNoBack : PySem.W.nsIn K mainGlobals "NoBack" = some (some (.ref C_NoBack)))
    (aCNoDress : PySem.W.nsIn K mainGlobals "NoDress" = some (some (.ref C_NoDress)))
    (aCNoFall : PySem.W.nsIn K mainGlobals "NoFall" = some (some (.ref C_NoFall)))
    (aCNoFilling : PySem.W.nsIn K mainGlobals "NoFilling" = some (some (.ref C_NoFilling)))
    (aCNoFun : PySem.W.nsIn K mainGlobals "NoFun" = some (some (.ref C_NoFun)))
    (aCNoIndex : PySem.W.nsIn K mainGlobals "NoIndex" = some (some (.ref C_NoIndex)))
    (aCNoName : PySem.W.nsIn K mainGlobals "NoName" = some (some (.ref C_NoName)))
    (aCNoOrnament : PySem.W.nsIn K mainGlobals "NoOrnament" = some (some (.ref C_NoOrnament)))
    (aCNoText : PySem.W.nsIn K mainGlobals "NoText" = some (some (.ref C_NoText)))
    (aCTaken : PySem.W.nsIn K mainGlobals "Taken" = some (some (.ref C_Taken)))
    (aCTooLong : PySem.W.nsIn K mainGlobals "TooLong" = some (some (.ref C_TooLong)))
    (aCUnlike : PySem.W.nsIn K mainGlobals "Unlike" = some (some (.ref C_Unlike)))
    (aCKindError : PySem.W.nsIn K mainGlobals "KindError" = some (some (.ref C_KindError)))
    (a1 : PySem.W.nsIn K mainGlobals "is_name" = some (some (.ref f1))) (l1 : K.lookup f1 = some ⟨oc1, od1, .func (PySem.W.fnOf "is_name" "is_name" (defArgs s_is_name) (defBody s_is_name) (defScope s_is_name) .none kV1 dc1 pm1 an1 cd1 ct1), sl1⟩) (c1 : PySem.W.codeIn K cd1 "is_name" = true) (k1 : PySem.W.keepIn K (.ref f1) = true)
    (a2 : PySem.W.nsIn K mainGlobals "is_bough" = some (some (.ref f2))) (l2 : K.lookup f2 = some ⟨oc2, od2, .func (PySem.W.fnOf "is_bough" "is_bough" (defArgs s_is_bough) (defBody s_is_bough) (defScope s_is_bough) .none kV2 dc2 pm2 an2 cd2 ct2), sl2⟩) (c2 : PySem.W.codeIn K cd2 "is_bough" = true) (k2 : PySem.W.keepIn K (.ref f2) = true)
    (a3 : PySem.W.nsIn K mainGlobals "is_kind" = some (some (.ref f3))) (l3 : K.lookup f3 = some ⟨oc3, od3, .func (PySem.W.fnOf "is_kind" "is_kind" (defArgs s_is_kind) (defBody s_is_kind) (defScope s_is_kind) .none kV3 dc3 pm3 an3 cd3 ct3), sl3⟩) (c3 : PySem.W.codeIn K cd3 "is_kind" = true) (k3 : PySem.W.keepIn K (.ref f3) = true)
    (a4 : PySem.W.nsIn K mainGlobals "are_unlike" = some (some (.ref f4))) (l4 : K.lookup f4 = some ⟨oc4, od4, .func (PySem.W.fnOf "are_unlike" "are_unlike" (defArgs s_are_unlike) (defBody s_are_unlike) (defScope s_are_unlike) .none kV4 dc4 pm4 an4 cd4 ct4), sl4⟩) (c4 : PySem.W.codeIn K cd4 "are_unlike" = true) (k4 : PySem.W.keepIn K (.ref f4) = true)
    (a5 : PySem.W.nsIn K mainGlobals "is_kinds" = some (some (.ref f5))) (l5 : K.lookup f5 = some ⟨oc5, od5, .func (PySem.W.fnOf "is_kinds" "is_kinds" (defArgs s_is_kinds) (defBody s_is_kinds) (defScope s_is_kinds) .none kV5 dc5 pm5 an5 cd5 ct5), sl5⟩) (c5 : PySem.W.codeIn K cd5 "is_kinds" = true) (k5 : PySem.W.keepIn K (.ref f5) = true)
    (a6 : PySem.W.nsIn K mainGlobals "with_worths" = some (some (.ref f6))) (l6 : K.lookup f6 = some ⟨oc6, od6, .func (PySem.W.fnOf "with_worths" "with_worths" (defArgs s_with_worths) (defBody s_with_worths) (defScope s_with_worths) .none kV6 dc6 pm6 an6 cd6 ct6), sl6⟩) (c6 : PySem.W.codeIn K cd6 "with_worths" = true) (k6 : PySem.W.keepIn K (.ref f6) = true)
    (a7 : PySem.W.findIn K (.ref C_Book) "__init__" = some (some (.ref f7))) (l7 : K.lookup f7 = some ⟨oc7, od7, .func (PySem.W.fnOf "__init__" "Book.__init__" (defArgs s_Book___init__) (defBody s_Book___init__) (defScope s_Book___init__) .none kV7 dc7 pm7 an7 cd7 ct7), sl7⟩) (c7 : PySem.W.codeIn K cd7 "Book.__init__" = true) (k7 : PySem.W.keepIn K (.ref f7) = true)
    (i7 : PySem.W.isFn K (.ref f7) = true)
    (a8 : PySem.W.findIn K (.ref C_Bare) "__init__" = some (some (.ref f8))) (l8 : K.lookup f8 = some ⟨oc8, od8, .func (PySem.W.fnOf "__init__" "Bare.__init__" (defArgs s_Bare___init__) (defBody s_Bare___init__) (defScope s_Bare___init__) .none kV8 dc8 pm8 an8 cd8 ct8), sl8⟩) (c8 : PySem.W.codeIn K cd8 "Bare.__init__" = true) (k8 : PySem.W.keepIn K (.ref f8) = true)
    (i8 : PySem.W.isFn K (.ref f8) = true)
    (a9 : PySem.W.nsIn K mainGlobals "_law_deck" = some (some (.ref f9))) (l9 : K.lookup f9 = some ⟨oc9, od9, .func (PySem.W.fnOf "_law_deck" "_law_deck" (defArgs s__law_deck) (defBody s__law_deck) (defScope s__law_deck) .none kV9 dc9 pm9 an9 cd9 ct9), sl9⟩) (c9 : PySem.W.codeIn K cd9 "_law_deck" = true) (k9 : PySem.W.keepIn K (.ref f9) = true)
    (a10 : PySem.W.nsIn K mainGlobals "_law_draw" = some (some (.ref f10))) (l10 : K.lookup f10 = some ⟨oc10, od10, .func (PySem.W.fnOf "_law_draw" "_law_draw" (defArgs s__law_draw) (defBody s__law_draw) (defScope s__law_draw) .none kV10 dc10 pm10 an10 cd10 ct10), sl10⟩) (c10 : PySem.W.codeIn K cd10 "_law_draw" = true) (k10 : PySem.W.keepIn K (.ref f10) = true)
    (a11 : PySem.W.nsIn K mainGlobals "_law_pick" = some (some (.ref f11))) (l11 : K.lookup f11 = some ⟨oc11, od11, .func (PySem.W.fnOf "_law_pick" "_law_pick" (defArgs s__law_pick) (defBody s__law_pick) (defScope s__law_pick) .none kV11 dc11 pm11 an11 cd11 ct11), sl11⟩) (c11 : PySem.W.codeIn K cd11 "_law_pick" = true) (k11 : PySem.W.keepIn K (.ref f11) = true)
    (a12 : PySem.W.nsIn K mainGlobals "_law_names" = some (some (.ref f12))) (l12 : K.lookup f12 = some ⟨oc12, od12, .func (PySem.W.fnOf "_law_names" "_law_names" (defArgs s__law_names) (defBody s__law_names) (defScope s__law_names) .none kV12 dc12 pm12 an12 cd12 ct12), sl12⟩) (c12 : PySem.W.codeIn K cd12 "_law_names" = true) (k12 : PySem.W.keepIn K (.ref f12) = true)
    (a13 : PySem.W.nsIn K mainGlobals "_law_letters" = some (some (.ref f13))) (l13 : K.lookup f13 = some ⟨oc13, od13, .func (PySem.W.fnOf "_law_letters" "_law_letters" (defArgs s__law_letters) (defBody s__law_letters) (defScope s__law_letters) .none kV13 dc13 pm13 an13 cd13 ct13), sl13⟩) (c13 : PySem.W.codeIn K cd13 "_law_letters" = true) (k13 : PySem.W.keepIn K (.ref f13) = true)
    (a14 : PySem.W.nsIn K mainGlobals "_law_kinds" = some (some (.ref f14))) (l14 : K.lookup f14 = some ⟨oc14, od14, .func (PySem.W.fnOf "_law_kinds" "_law_kinds" (defArgs s__law_kinds) (defBody s__law_kinds) (defScope s__law_kinds) .none kV14 dc14 pm14 an14 cd14 ct14), sl14⟩) (c14 : PySem.W.codeIn K cd14 "_law_kinds" = true) (k14 : PySem.W.keepIn K (.ref f14) = true)
    (a15 : PySem.W.nsIn K mainGlobals "_law_great_kinds" = some (some (.ref f15))) (l15 : K.lookup f15 = some ⟨oc15, od15, .func (PySem.W.fnOf "_law_great_kinds" "_law_great_kinds" (defArgs s__law_great_kinds) (defBody s__law_great_kinds) (defScope s__law_great_kinds) .none kV15 dc15 pm15 an15 cd15 ct15), sl15⟩) (c15 : PySem.W.codeIn K cd15 "_law_great_kinds" = true) (k15 : PySem.W.keepIn K (.ref f15) = true)
    (a16 : PySem.W.nsIn K mainGlobals "_law_any_kinds" = some (some (.ref f16))) (l16 : K.lookup f16 = some ⟨oc16, od16, .func (PySem.W.fnOf "_law_any_kinds" "_law_any_kinds" (defArgs s__law_any_kinds) (defBody s__law_any_kinds) (defScope s__law_any_kinds) .none kV16 dc16 pm16 an16 cd16 ct16), sl16⟩) (c16 : PySem.W.codeIn K cd16 "_law_any_kinds" = true) (k16 : PySem.W.keepIn K (.ref f16) = true)
    (a17 : PySem.W.nsIn K mainGlobals "_law_is_name" = some (some (.ref f17))) (l17 : K.lookup f17 = some ⟨oc17, od17, .func (PySem.W.fnOf "_law_is_name" "_law_is_name" (defArgs s__law_is_name) (defBody s__law_is_name) (defScope s__law_is_name) .none kV17 dc17 pm17 an17 cd17 ct17), sl17⟩) (c17 : PySem.W.codeIn K cd17 "_law_is_name" = true) (k17 : PySem.W.keepIn K (.ref f17) = true)
    (a18 : PySem.W.nsIn K mainGlobals "_law_is_named" = some (some (.ref f18))) (l18 : K.lookup f18 = some ⟨oc18, od18, .func (PySem.W.fnOf "_law_is_named" "_law_is_named" (defArgs s__law_is_named) (defBody s__law_is_named) (defScope s__law_is_named) .none kV18 dc18 pm18 an18 cd18 ct18), sl18⟩) (c18 : PySem.W.codeIn K cd18 "_law_is_named" = true) (k18 : PySem.W.keepIn K (.ref f18) = true)
    (a19 : PySem.W.nsIn K mainGlobals "_law_is_kinds" = some (some (.ref f19))) (l19 : K.lookup f19 = some ⟨oc19, od19, .func (PySem.W.fnOf "_law_is_kinds" "_law_is_kinds" (defArgs s__law_is_kinds) (defBody s__law_is_kinds) (defScope s__law_is_kinds) .none kV19 dc19 pm19 an19 cd19 ct19), sl19⟩) (c19 : PySem.W.codeIn K cd19 "_law_is_kinds" = true) (k19 : PySem.W.keepIn K (.ref f19) = true)
    (a20 : PySem.W.nsIn K mainGlobals "_law_names_in" = some (some (.ref f20))) (l20 : K.lookup f20 = some ⟨oc20, od20, .func (PySem.W.fnOf "_law_names_in" "_law_names_in" (defArgs s__law_names_in) (defBody s__law_names_in) (defScope s__law_names_in) .none kV20 dc20 pm20 an20 cd20 ct20), sl20⟩) (c20 : PySem.W.codeIn K cd20 "_law_names_in" = true) (k20 : PySem.W.keepIn K (.ref f20) = true)
    (a21 : PySem.W.nsIn K mainGlobals "_law_odd" = some (some (.ref f21))) (l21 : K.lookup f21 = some ⟨oc21, od21, .func (PySem.W.fnOf "_law_odd" "_law_odd" (defArgs s__law_odd) (defBody s__law_odd) (defScope s__law_odd) .none kV21 dc21 pm21 an21 cd21 ct21), sl21⟩) (c21 : PySem.W.codeIn K cd21 "_law_odd" = true) (k21 : PySem.W.keepIn K (.ref f21) = true)
    (a22 : PySem.W.nsIn K mainGlobals "_law_spoilt" = some (some (.ref f22))) (l22 : K.lookup f22 = some ⟨oc22, od22, .func (PySem.W.fnOf "_law_spoilt" "_law_spoilt" (defArgs s__law_spoilt) (defBody s__law_spoilt) (defScope s__law_spoilt) .none kV22 dc22 pm22 an22 cd22 ct22), sl22⟩) (c22 : PySem.W.codeIn K cd22 "_law_spoilt" = true) (k22 : PySem.W.keepIn K (.ref f22) = true)
    (a23 : PySem.W.nsIn K mainGlobals "_law_bare" = some (some (.ref f23))) (l23 : K.lookup f23 = some ⟨oc23, od23, .func (PySem.W.fnOf "_law_bare" "_law_bare" (defArgs s__law_bare) (defBody s__law_bare) (defScope s__law_bare) .none kV23 dc23 pm23 an23 cd23 ct23), sl23⟩) (c23 : PySem.W.codeIn K cd23 "_law_bare" = true) (k23 : PySem.W.keepIn K (.ref f23) = true)
    (a24 : PySem.W.nsIn K mainGlobals "_law_heard" = some (some (.ref f24))) (l24 : K.lookup f24 = some ⟨oc24, od24, .func (PySem.W.fnOf "_law_heard" "_law_heard" (defArgs s__law_heard) (defBody s__law_heard) (defScope s__law_heard) .none kV24 dc24 pm24 an24 cd24 ct24), sl24⟩) (c24 : PySem.W.codeIn K cd24 "_law_heard" = true) (k24 : PySem.W.keepIn K (.ref f24) = true)
    (a25 : PySem.W.nsIn K mainGlobals "_law_right" = some (some (.ref f25))) (l25 : K.lookup f25 = some ⟨oc25, od25, .func (PySem.W.fnOf "_law_right" "_law_right" (defArgs s__law_right) (defBody s__law_right) (defScope s__law_right) .none kV25 dc25 pm25 an25 cd25 ct25), sl25⟩) (c25 : PySem.W.codeIn K cd25 "_law_right" = true) (k25 : PySem.W.keepIn K (.ref f25) = true)
    (a26 : PySem.W.nsIn K mainGlobals "_law_far_kinds" = some (some (.ref f26))) (l26 : K.lookup f26 = some ⟨oc26, od26, .func (PySem.W.fnOf "_law_far_kinds" "_law_far_kinds" (defArgs s__law_far_kinds) (defBody s__law_far_kinds) (defScope s__law_far_kinds) .none kV26 dc26 pm26 an26 cd26 ct26), sl26⟩) (c26 : PySem.W.codeIn K cd26 "_law_far_kinds" = true) (k26 : PySem.W.keepIn K (.ref f26) = true)
    (a27 : PySem.W.nsIn K mainGlobals "_law_few_bare" = some (some (.ref f27))) (l27 : K.lookup f27 = some ⟨oc27, od27, .func (PySem.W.fnOf "_law_few_bare" "_law_few_bare" (defArgs s__law_few_bare) (defBody s__law_few_bare) (defScope s__law_few_bare) .none kV27 dc27 pm27 an27 cd27 ct27), sl27⟩) (c27 : PySem.W.codeIn K cd27 "_law_few_bare" = true) (k27 : PySem.W.keepIn K (.ref f27) = true)
    (a28 : PySem.W.nsIn K mainGlobals "law" = some (some (.ref f28))) (l28 : K.lookup f28 = some ⟨oc28, od28, .func (PySem.W.fnOf "law" "law" (defArgs s_law) (defBody s_law) (defScope s_law) .none kV28 dc28 pm28 an28 cd28 ct28), sl28⟩) (c28 : PySem.W.codeIn K cd28 "law" = true) (k28 : PySem.W.keepIn K (.ref f28) = true)
    (g1 : PySem.W.nsIn K mainGlobals "LETTERS" = some (some (.str "abcdefghijklmnopqrstuvwxyz" t1)))
    (g2 : PySem.W.nsIn K mainGlobals "LONGEST" = some (some (.int (8) t2)))
    (g3 : PySem.W.nsIn K mainGlobals "NUM" = some (some (.str "num" t3)))
    (z1 : PySem.W.nsIn K mainGlobals "isinstance" = some none)
    (z2 : PySem.W.nsIn K mainGlobals "str" = some none)
    (z3 : PySem.W.nsIn K mainGlobals "tuple" = some none)
    (z4 : PySem.W.nsIn K mainGlobals "len" = some none)
    (z5 : PySem.W.nsIn K mainGlobals "all" = some none)
    (z6 : PySem.W.nsIn K mainGlobals "any" = some none)
    (z7 : PySem.W.nsIn K mainGlobals "range" = some none)
    (z8 : PySem.W.nsIn K mainGlobals "sum" = some none)
    (z9 : PySem.W.nsIn K mainGlobals "min" = some none)
    (z10 : PySem.W.nsIn K mainGlobals "max" = some none)
    (z11 : PySem.W.nsIn K mainGlobals "int" = some none)
    (z12 : PySem.W.nsIn K mainGlobals "repr" = some none)
    (z13 : PySem.W.nsIn K mainGlobals "list" = some none)
    (z14 : PySem.W.nsIn K mainGlobals "sorted" = some none)
    (z15 : PySem.W.nsIn K mainGlobals "zip" = some none)
    (pgBook : PySem.W.plainGet K C_Book Str.empty = true) (hdBook : PySem.W.hasDictIn K C_Book = true) (poBook : PySem.W.plainOver K C_Book = true) (saBook : PySem.W.findIn K (.ref C_Book) "__setattr__" = some (some (.builtin "object.__setattr__"))) (mkBook : PySem.W.makesIn K C_Book = true) (kcBook : PySem.W.keepIn K (.ref C_Book) = true)
    (fmBook : PySem.W.findIn K (.ref C_Book) "__format__" = some (some (.builtin "object.__format__"))) (obBook : PySem.W.subIn K (.ref C_Book) (.type "object") = some true) (hcBook : PySem.W.findIn K (.ref C_Book) "__class__" = some (some (.builtin "object.__class__"))) (sgBook : PySem.W.specialIn K (.builtin "object.__class__") "__get__" = some (some (.builtin "getset_descriptor.__get__"))) (tkBook : PySem.W.takesIn K (.builtin "object.__class__") = some true) (mrBook : PySem.W.mroIn K C_Book (.type "object") = some true)
    (nBookkinds : PySem.W.findIn K (.ref C_Book) "kinds" = some none)
    (nBooknames_by : PySem.W.findIn K (.ref C_Book) "names_by" = some none)
    (nBookkinds_by : PySem.W.findIn K (.ref C_Book) "kinds_by" = some none)
    (nBookfields_by : PySem.W.findIn K (.ref C_Book) "fields_by" = some none)
    (xoBare : PySem.W.excInitIn K C_Bare veTl "ValueError.__new__" = true) (xvBare : PySem.W.excOver K C_Bare veTl = true) (xdBare : PySem.W.hasDictIn K C_Bare = true) (xsBare : PySem.W.findIn K (.ref C_Bare) "__setattr__" = some (some (.builtin "object.__setattr__"))) (xeBare : PySem.W.subIn K (.ref C_Bare) (.type "BaseException") = some true) (xtBare : PySem.W.typeIn K (.ref C_Bare) = some (.type "type")) (xkBare : PySem.W.keepIn K (.ref C_Bare) = true) (xgBare : PySem.W.findIn K (.ref C_Bare) "__getattribute__" = some (some (.builtin "BaseException.__getattribute__"))) (xhBare : PySem.W.findIn K (.ref C_Bare) "__getattr__" = some none) (xaBare : PySem.W.findIn K (.ref C_Bare) "__class__" = some (some (.builtin "object.__class__"))) (xnBare : PySem.W.specialIn K (.builtin "object.__class__") "__get__" = some (some (.builtin "getset_descriptor.__get__"))) (xjBare : PySem.W.takesIn K (.builtin "object.__class__") = some true) (xmBare : PySem.W.mroIn K C_Bare (.type "object") = some true)
    (nBarekind : PySem.W.findIn K (.ref C_Bare) "kind" = some none)
    (aCNoBook : PySem.W.nsIn K mainGlobals "NoBook" = some (some (.ref C_NoBook))) (xpNoBook : PySem.W.excIn K C_NoBook veTl "ValueError.__new__" = true) (xdNoBook : PySem.W.hasDictIn K C_NoBook = true) (xeNoBook : PySem.W.subIn K (.ref C_NoBook) (.type "BaseException") = some true) (xtNoBook : PySem.W.typeIn K (.ref C_NoBook) = some (.type "type")) (xkNoBook : PySem.W.keepIn K (.ref C_NoBook) = true) (xgNoBook : PySem.W.findIn K (.ref C_NoBook) "__getattribute__" = some (some (.builtin "BaseException.__getattribute__"))) (xhNoBook : PySem.W.findIn K (.ref C_NoBook) "__getattr__" = some none) (xaNoBook : PySem.W.findIn K (.ref C_NoBook) "__class__" = some (some (.builtin "object.__class__"))) (xnNoBook : PySem.W.specialIn K (.builtin "object.__class__") "__get__" = some (some (.builtin "getset_descriptor.__get__"))) (xjNoBook : PySem.W.takesIn K (.builtin "object.__class__") = some true) (xmNoBook : PySem.W.mroIn K C_NoBook (.type "object") = some true)
    (q1 : PySem.W.nsIn K mainGlobals "ValueError" = some none)
    (q2 : PySem.W.nsIn K mainGlobals "bool" = some none)
    (q3 : PySem.W.nsIn K mainGlobals "set" = some none)
    (y1 : PySem.W.exmOne K (.ref C_Bare) (.ref C_KindError) = some true)
    (y2 : PySem.W.kitAny K (.ref C_Bare) [.ref C_Gap, .ref C_InUse, .ref C_NoBack, .ref C_NoDress, .ref C_NoFall, .ref C_NoFilling, .ref C_NoFun, .ref C_NoIndex, .ref C_NoName, .ref C_NoOrnament] = some false)
    (y3 : PySem.W.kitAny K (.ref C_Bare) [.ref C_NoText, .ref C_Taken, .ref C_TooLong, .ref C_Unlike] = some false)
    (y4 : PySem.W.kitOne K (.ref C_Bare) (.type "ValueError") = some true)
    (y5 : PySem.W.kitOne K (.ref C_Bare) (.ref C_NoBook) = some false)
    (y6 : PySem.W.kitOne K (.ref C_Bare) (.ref C_Bare) = some true)
    (y7 : PySem.W.exmOne K (.ref C_NoBook) (.ref C_KindError) = some true)
    (y8 : PySem.W.kitAny K (.ref C_NoBook) [.ref C_Gap, .ref C_InUse, .ref C_NoBack, .ref C_NoDress, .ref C_NoFall, .ref C_NoFilling, .ref C_NoFun, .ref C_NoIndex, .ref C_NoName, .ref C_NoOrnament] = some false)
    (y9 : PySem.W.kitAny K (.ref C_NoBook) [.ref C_NoText, .ref C_Taken, .ref C_TooLong, .ref C_Unlike] = some false)
    (y10 : PySem.W.kitOne K (.ref C_NoBook) (.type "ValueError") = some true)
    (y11 : PySem.W.kitOne K (.ref C_NoBook) (.ref C_NoBook) = some true)
    (y12 : PySem.W.kitOne K (.ref C_NoBook) (.ref C_Bare) = some false)
    (y13 : PySem.W.specialIn K (.ref C_KindError) "__getattribute__" = some (some (.builtin "type.__getattribute__")))
    (y14 : PySem.W.readsIn K C_KindError (.type "type") = true)
    (y15 : Dk.initVE K C_KindError = true) :
    ∃ fd : FuncData, (∀ (s : Shared) (v : Value), BindsTo s fd ⟨[v], []⟩ [("_law_script", v)]) ∧ ∀ base : Heap, K.In base → base.Ns mainGlobals mg → GnOk l.prog w K mg base CX0 60 fa fd ["_law_script"] (spLaw01 K) := by
  have F_is_name := fun_mk (st := s_is_name) l1 c1 k1
  have m_is_name := PySem.W.mg_of X G a1
  have F_is_bough := fun_mk (st := s_is_bough) l2 c2 k2
  have m_is_bough := PySem.W.mg_of X G a2
  have F_is_kind := fun_mk (st := s_is_kind) l3 c3 k3
  have m_is_kind := PySem.W.mg_of X G a3
  have F_are_unlike := fun_mk (st := s_are_unlike) l4 c4 k4
  have m_are_unlike := PySem.W.mg_of X G a4
  have F_is_kinds := fun_mk (st := s_is_kinds) l5 c5 k5
  have m_is_kinds := PySem.W.mg_of X G a5
  have F_with_worths := fun_mk (st := s_with_worths) l6 c6 k6
  have m_with_worths := PySem.W.mg_of X G a6
  have F_Book___init__ := fun_mk (st := s_Book___init__) l7 c7 k7
  have M_Book___init__ : Meth K C_Book "__init__" f7 := ⟨a7, i7, k7⟩
  have F_Bare___init__ := fun_mk (st := s_Bare___init__) l8 c8 k8
  have M_Bare___init__ : Meth K C_Bare "__init__" f8 := ⟨a8, i8, k8⟩
  have F__law_deck := fun_mk (st := s__law_deck) l9 c9 k9
  have m__law_deck := PySem.W.mg_of X G a9
  have F__law_draw := fun_mk (st := s__law_draw) l10 c10 k10
  have m__law_draw := PySem.W.mg_of X G a10
  have F__law_pick := fun_mk (st := s__law_pick) l11 c11 k11
  have m__law_pick := PySem.W.mg_of X G a11
  have F__law_names := fun_mk (st := s__law_names) l12 c12 k12
  have m__law_names := PySem.W.mg_of X G a12
  have F__law_letters := fun_mk (st := s__law_letters) l13 c13 k13
  have m__law_letters := PySem.W.mg_of X G a13
  have F__law_kinds := fun_mk (st := s__law_kinds) l14 c14 k14
  have m__law_kinds := PySem.W.mg_of X G a14
  have F__law_great_kinds := fun_mk (st := s__law_great_kinds) l15 c15 k15
  have m__law_great_kinds := PySem.W.mg_of X G a15
  have F__law_any_kinds := fun_mk (st := s__law_any_kinds) l16 c16 k16
  have m__law_any_kinds := PySem.W.mg_of X G a16
  have F__law_is_name := fun_mk (st := s__law_is_name) l17 c17 k17
  have m__law_is_name := PySem.W.mg_of X G a17
  have F__law_is_named := fun_mk (st := s__law_is_named) l18 c18 k18
  have m__law_is_named := PySem.W.mg_of X G a18
  have F__law_is_kinds := fun_mk (st := s__law_is_kinds) l19 c19 k19
  have m__law_is_kinds := PySem.W.mg_of X G a19
  have F__law_names_in := fun_mk (st := s__law_names_in) l20 c20 k20
  have m__law_names_in := PySem.W.mg_of X G a20
  have F__law_odd := fun_mk (st := s__law_odd) l21 c21 k21
  have m__law_odd := PySem.W.mg_of X G a21
  have F__law_spoilt := fun_mk (st := s__law_spoilt) l22 c22 k22
  have m__law_spoilt := PySem.W.mg_of X G a22
  have F__law_bare := fun_mk (st := s__law_bare) l23 c23 k23
  have m__law_bare := PySem.W.mg_of X G a23
  have F__law_heard := fun_mk (st := s__law_heard) l24 c24 k24
  have m__law_heard := PySem.W.mg_of X G a24
  have F__law_right := fun_mk (st := s__law_right) l25 c25 k25
  have m__law_right := PySem.W.mg_of X G a25
  have F__law_far_kinds := fun_mk (st := s__law_far_kinds) l26 c26 k26
  have m__law_far_kinds := PySem.W.mg_of X G a26
  have F__law_few_bare := fun_mk (st := s__law_few_bare) l27 c27 k27
  have m__law_few_bare := PySem.W.mg_of X G a27
  have F_law := fun_mk (st := s_law) l28 c28 k28
  have m_law := PySem.W.mg_of X G a28
  have cl_Book : Cls K C_Book := ⟨pgBook, hdBook, poBook, saBook⟩
  have mC_Book := PySem.W.mg_of X G aCBook
  have Mk_Book : Mk K C_Book f7 := ⟨mkBook, a7, i7, kcBook⟩
  have fm_Book : Fmt K C_Book := ⟨fmBook, obBook⟩
  have isi_Book : Isi K C_Book := ⟨cl_Book, hcBook, sgBook, tkBook, mrBook⟩
  have mC_Bare := PySem.W.mg_of X G aCBare
  have ox_Bare : OxC K "ValueError.__new__" veTl C_Bare := ⟨xoBare, xvBare, xdBare, xsBare, xeBare, xtBare, xkBare⟩
  have xi_Bare : XiC K C_Bare := ⟨xdBare, xgBare, xhBare, xeBare, xaBare, xnBare, xjBare, xmBare⟩
  have mC_Gap := PySem.W.mg_of X G aCGap
  have mC_InUse := PySem.W.mg_of X G aCInUse
  have mC_NoBack := PySem.W.mg_of X G aCNoBack
  have mC_NoDress := PySem.W.mg_of X G aCNoDress
  have mC_NoFall := PySem.W.mg_of X G aCNoFall
  have mC_NoFilling := PySem.W.mg_of X G aCNoFilling
  have mC_NoFun := PySem.W.mg_of X G aCNoFun
  have mC_NoIndex := PySem.W.mg_of X G aCNoIndex
  have mC_NoName := PySem.W.mg_of X G aCNoName
  have mC_NoOrnament := PySem.W.mg_of X G aCNoOrnament
  have mC_NoText := PySem.W.mg_of X G aCNoText
  have mC_Taken := PySem.W.mg_of X G aCTaken
  have mC_TooLong := PySem.W.mg_of X G aCTooLong
  have mC_Unlike := PySem.W.mg_of X G aCUnlike
  have mC_KindError := PySem.W.mg_of X G aCKindError
  have mC_NoBook := PySem.W.mg_of X G aCNoBook
  have cn_NoBook : CalN K mg "NoBook" C_NoBook := ⟨_, _, _, _, PySem.F.excBase_ValueError, xpNoBook, mC_NoBook, xkNoBook, xeNoBook, xtNoBook⟩
  have xi_NoBook : XiC K C_NoBook := ⟨xdNoBook, xgNoBook, xhNoBook, xeNoBook, xaNoBook, xnNoBook, xjNoBook, xmNoBook⟩
  have b_ValueError := PySem.W.mg_none_of X G q1
  have b_bool := PySem.W.mg_none_of X G q2
  have b_set := PySem.W.mg_none_of X G q3
  have T : TxtB K C_Book mg := ⟨⟨t1, PySem.W.mg_of X G g1⟩, ⟨t2, PySem.W.mg_of X G g2⟩, ⟨t3, PySem.W.mg_of X G g3⟩, PySem.W.mg_none_of X G z1, PySem.W.mg_none_of X G z2, PySem.W.mg_none_of X G z3, PySem.W.mg_none_of X G z4, PySem.W.mg_none_of X G z5, PySem.W.mg_none_of X G z6, PySem.W.mg_none_of X G z7, PySem.W.mg_none_of X G z8, PySem.W.mg_none_of X G z9, PySem.W.mg_none_of X G z10, PySem.W.mg_none_of X G z11, PySem.W.mg_none_of X G z12, PySem.W.mg_none_of X G z13, PySem.W.mg_none_of X G z14, PySem.W.mg_none_of X G z15, cl_Book, nBookkinds, nBooknames_by, nBookkinds_by, nBookfields_by⟩
  have e := hfa.symm.trans m_law
  cases e
  refine ⟨PySem.W.fnOf "law" "law" (defArgs s_law) (defBody s_law) (defScope s_law) .none kV28 dc28 pm28 an28 cd28 ct28, fun s v => .of_eq rfl, fun base _ _ => ?_⟩
  let cx : String → Addr := fun x => if x = "Gap" then C_Gap else if x = "InUse" then C_InUse else if x = "NoBack" then C_NoBack else if x = "NoDress" then C_NoDress else if x = "NoFall" then C_NoFall else if x = "NoFilling" then C_NoFilling else if x = "NoFun" then C_NoFun else if x = "NoIndex" then C_NoIndex else if x = "NoName" then C_NoName else if x = "NoOrnament" then C_NoOrnament else if x = "NoText" then C_NoText else if x = "Taken" then C_Taken else if x = "TooLong" then C_TooLong else if x = "Unlike" then C_Unlike else if x = "KindError" then C_KindError else if x = "NoBook" then C_NoBook else if x = "Bare" then C_Bare else 0
  have TX : TxtHd K C_Bare C_NoBook cx mg := ⟨(by simpa [cx] using mC_Gap), (by simpa [cx] using mC_InUse), (by simpa [cx] using mC_NoBack), (by simpa [cx] using mC_NoDress), (by simpa [cx] using mC_NoFall), (by simpa [cx] using mC_NoFilling), (by simpa [cx] using mC_NoFun), (by simpa [cx] using mC_NoIndex), (by simpa [cx] using mC_NoName), (by simpa [cx] using mC_NoOrnament), (by simpa [cx] using mC_NoText), (by simpa [cx] using mC_Taken), (by simpa [cx] using mC_TooLong), (by simpa [cx] using mC_Unlike), (by simpa [cx] using mC_KindError), (by simpa [cx] using mC_NoBook), (by simpa [cx] using mC_Bare), b_ValueError, xi_Bare, (by simpa [cx] using y1), (by simpa [cx] using y2), (by simpa [cx] using y3), y4, (by simpa [cx] using y5), (by simpa [cx] using y6), xi_NoBook, (by simpa [cx] using y7), (by simpa [cx] using y8), (by simpa [cx] using y9), y10, (by simpa [cx] using y11), (by simpa [cx] using y12), nBarekind⟩
  have TA : TxtA K C_Book mg := ⟨T, b_bool, b_set⟩
  have Cname : ∀ k W, Cal l.prog w K mg base CX0 W (k + 1) "is_name" ["thing"] spNameA := fun k W => Cal.of F_is_name (ok_is_nameA T F_is_name) m_is_name bd_is_name
  have Cbough : ∀ m W, Cal l.prog w K mg base CX0 W (m + 1 + 1) "is_bough" ["thing"] spBoughA := fun m W => Cal.of F_is_bough (ok_is_boughA T F_is_bough (Cname m W)) m_is_bough bd_is_bough
  have Ckind : ∀ m W, Cal l.prog w K mg base CX0 W (m + 1 + 1 + 1) "is_kind" ["thing"] spKindA := fun m W => Cal.of F_is_kind (ok_is_kindA T F_is_kind (Cname (m + 1) W) (Cbough m W)) m_is_kind bd_is_kind
  have Cunl : ∀ m W, Cal l.prog w K mg base CX0 W (m + 1) "are_unlike" ["names"] spUnlikeA := fun m W => Cal.of F_are_unlike (ok_are_unlikeA T F_are_unlike) m_are_unlike bd_are_unlike
  have Ckinds : ∀ m W, Cal l.prog w K mg base CX0 W (m + 4) "is_kinds" ["thing"] spKindsA := fun m W => Cal.of F_is_kinds (ok_is_kindsA T F_is_kinds (Ckind m W) (Cunl (m + 2) W)) m_is_kinds bd_is_kinds
  have Cwith : ∀ m W, Cal l.prog w K mg base CX0 W (m + 1) "with_worths" ["kinds"] spWithA := fun m W => Cal.of F_with_worths (ok_with_worthsA T F_with_worths) m_with_worths bd_with_worths
  have CEb : ∀ m, CalE l.prog w K mg base (m + 1) "Bare" C_Bare "kind" := fun m => ⟨_, _, _, _, _, _, _, _, xb_ve, ox_Bare, M_Bare___init__.at_, beq_iff_eq.mp M_Bare___init__.fn, ok_Bare ox_Bare nBarekind mC_KindError y13 y14 (initVE_of y15) F_Bare___init__, F_Bare___init__.binds bd_Bare___init__, mC_Bare⟩
  have Ginit : ∀ W m, GnOk l.prog w K mg base (L2.CX l.prog w) (m + 4 + 2) _ _ ["self", "kinds"] (spInit W K C_Book (spBookA C_Book C_Bare C_NoBook)) := fun W m => ok_initA T F_Book___init__ (Ckinds m W) (Cwith (m + 3) W) cn_NoBook (CEb (m + 3))
  have CBook : ∀ m W, CalC l.prog w K mg base (L2.CX l.prog w) W (m + 4 + 2) "Book" C_Book ["self", "kinds"] (spBookA C_Book C_Bare C_NoBook) := fun m W => ⟨_, _, Mk_Book, Ginit W m, mC_Book, F_Book___init__.binds bd_Book___init__, rfl⟩
  have Cdraw : ∀ k p q, Cal l.prog w K mg base CX0 (DeckW p q) (k + 1) "_law_draw" ["_law_deck_here", "_law_most"] (spDraw p) := fun k p q => Cal.of F__law_draw (ok_draw F__law_draw).gn m__law_draw bd__law_draw
  have Cpick : ∀ k p q, Cal l.prog w K mg base CX0 (DeckW p q) (k + 2) "_law_pick" ["_law_deck_here", "_law_some"] (spPick p) := fun k p q => Cal.of F__law_pick (ok_pick T F__law_pick (Cdraw k p q)) m__law_pick bd__law_pick
  have Cnames : ∀ p q, CalO l.prog w K mg base (DeckW p q) 2 "_law_names" ["_law_deck_here", "_law_many"] (spNames p) := fun p q => CalO.of F__law_names (ok_names T F__law_names (Cdraw 0 p q)) m__law_names bd__law_names
  have Clet : ∀ k W, Cal l.prog w K mg base CX0 W (k + 1) "_law_letters" ["_law_number"] spLetL := fun k W => Cal.of F__law_letters (ok_law_lettersL T F__law_letters (k := k)) m__law_letters bd__law_letters
  have Ckinds3 : ∀ p q, Cal l.prog w K mg base CX0 (DeckW p q) 3 "_law_kinds" ["_law_deck_here"] (spKinds p) := fun p q => Cal.of F__law_kinds (ok_kinds T F__law_kinds (Cdraw 1 p q) (Cpick 0 p q) (Cnames p q)) m__law_kinds bd__law_kinds
  have Cgreat : ∀ p q, Cal l.prog w K mg base CX0 (DeckW p q) 3 "_law_great_kinds" ["_law_deck_here"] (spKindsN p) := fun p q => Cal.of F__law_great_kinds (ok_law_great T F__law_great_kinds (Cdraw 1 p q) (Cpick 0 p q) (Clet 1 (DeckW p q))) m__law_great_kinds bd__law_great_kinds
  have Gany : ∀ p q, GnOk l.prog w K mg base CX0 4 _ _ ["_law_deck_here"] (spD (DeckW p q) K (spKindsN p)) := fun p q => ok_law_any T F__law_any_kinds (Cdraw 2 p q) (Ckinds3 p q) (Cgreat p q)
  have Codd : ∀ m p q, Cal l.prog w K mg base CX0 (DeckW p q) (m + 2 + 1) "_law_odd" ["_law_deck_here", "_law_thing", "_law_names_here"] (spOddN p) := fun m p q => Cal.of F__law_odd (ok_law_oddN T F__law_odd (Cdraw (m + 1) p q) (Cpick m p q)) m__law_odd bd__law_odd
  have Gsp : ∀ p q, GnOk l.prog w K mg base CX0 (12 + 3) _ _ ["_law_deck_here", "_law_thing", "_law_names_here"] (spD (DeckW p q) K (spSpoiltN p 12)) := fun p q => all_spoiltN T F__law_spoilt m__law_spoilt (fun j => Cdraw j p q) (fun j => Codd j p q) 12
  have Cisn : ∀ k W, Cal l.prog w K mg base CX0 W (k + 1) "_law_is_name" ["_law_thing"] spNameA := fun k W => Cal.of F__law_is_name (ok_law_is_name T F__law_is_name (k := k)) m__law_is_name bd__law_is_name
  have Cisd : ∀ k W, Cal l.prog w K mg base CX0 W (k + 1 + 1) "_law_is_named" ["_law_thing"] spNamedA := fun k W => Cal.of F__law_is_named (ok_law_is_named T F__law_is_named (Cisn k W)) m__law_is_named bd__law_is_named
  have Cisk : ∀ k W, Cal l.prog w K mg base CX0 W (k + 1 + 1 + 1) "_law_is_kinds" ["_law_thing"] spKindsA := fun k W => Cal.of F__law_is_kinds (ok_law_is_kinds T b_set F__law_is_kinds (Cisd k W)) m__law_is_kinds bd__law_is_kinds
  have Cbare : ∀ k W, Cal l.prog w K mg base CX0 W (k + 1) "_law_bare" ["_law_kinds_here"] spBareL := fun k W => Cal.of F__law_bare (ok_law_bare T F__law_bare (k := k)) m__law_bare bd__law_bare
  have Cheard : ∀ m W, Cal l.prog w K mg base CX0 W (m + 6 + 4) "_law_heard" ["_law_thing"] spHeardB := fun m W => Cal.of F__law_heard (ok_law_heardB T TX F__law_heard (CBook m W)) m__law_heard bd__law_heard
  exact ok_law01 TA F_law (ok_deck F__law_deck T.b_list T.b_sum T.b_len).gn m__law_deck F__law_deck.kp (F__law_deck.binds bd__law_deck)
    (Cdraw 49)
    (fun p q => Cal.of F__law_any_kinds ((Gany p q).mono (by decide)) m__law_any_kinds bd__law_any_kinds)
    (fun W => Cal.of F__law_names_in (ok_law_names_in T F__law_names_in (k := 49)) m__law_names_in bd__law_names_in)
    (fun W => Cal.of F__law_few_bare (ok_law_few_bare T F__law_few_bare (k := 49)) m__law_few_bare bd__law_few_bare)
    (fun p q => Cal.of F__law_spoilt ((Gsp p q).mono (by decide)) m__law_spoilt bd__law_spoilt)
    (fun W => Cal.of F__law_right (ok_law_rightA TA F__law_right (k := 49) (Cisk 46 W) (Ckinds 45 W) (Cbare 48 W) (Cheard 39 W)) m__law_right bd__law_right)
    (Cname 49) (Cisn 49)
    (fun p q => Cal.of F__law_far_kinds (ok_law_far T F__law_far_kinds (k := 49) (Cdraw 48 p q) (Cpick 47 p q) (Clet 48 (DeckW p q))) m__law_far_kinds bd__law_far_kinds)
theorem all_run {l : PySem.W.OpenLaw} {w : World} {K : PySem.W.Frag} {h : Heap} {mg : Str → Option Value} {fa : Addr} (X : K.In h) (G : h.Ns mainGlobals mg) (hfa : mg "law" = some (.ref fa)) (c : Dk.SaysX hBs hFn K) :
    ∃ fd : FuncData, (∀ (s : Shared) (v : Value), BindsTo s fd ⟨[v], []⟩ [("_law_script", v)]) ∧ ∀ base : Heap, K.In base → base.Ns mainGlobals mg → GnOk l.prog w K mg base CX0 60 fa fd ["_law_script"] (spLaw01 K) := by
  have c0 := c.fact
  obtain ⟨b0, c0⟩ := He.ba c0
  obtain ⟨b1, c0⟩ := He.ba c0
  obtain ⟨b2, c0⟩ := He.ba c0
  obtain ⟨b3, c0⟩ := He.ba c0
  obtain ⟨b4, c0⟩ := He.ba c0
  obtain ⟨b5, c0⟩ := He.ba c0
  have b6 := c0
  obtain ⟨aCBook, aCBare, aCGap, aCInUse, aCNoBack, aCNoDress, aCNoFall, aCNoFilling, aCNoFun, aCNoIndex, aCNoName, aCNoOrnament, aCNoText, aCTaken, aCTooLong, aCUnlike, aCKindError, a1, k1, a2, k2, a3, k3, a4, k4⟩ : (PySem.W.nsIn K mainGlobals "Book" = some (some (.ref (He.ga K "Book")))) ∧ (PySem.W.nsIn K mainGlobals "Bare" = some (some (.ref (He.ga K "Bare")))) ∧ (PySem.W.nsIn K mainGlobals "Gap" = some (some (.ref (He.ga K "Gap")))) ∧ (PySem.W.nsIn K mainGlobals "InUse" = some (some (.ref (He.ga K "InUse")))) ∧ (PySem.W.nsIn K mainGlobals "NoBack" = some (some (.ref (He.ga K "NoBack")))) ∧ (PySem.W.nsIn K mainGlobals "NoDress" = some (some (.ref (He.ga K "NoDress")))) ∧ (PySem.W.nsIn K mainGlobals "NoFall" = some (some (.ref (He.ga K "NoFall")))) ∧ (PySem.W.nsIn K mainGlobals "NoFilling" = some (some (.ref (He.ga K "NoFilling")))) ∧ (PySem.W.nsIn K mainGlobals "NoFun" = some (some (.ref (He.ga K "NoFun")))) ∧ (PySem.W.nsIn K mainGlobals "NoIndex" = some (some (.ref (He.ga K "NoIndex")))) ∧ (PySem.W.nsIn K mainGlobals "NoName" = some (some (.ref (He.ga K "NoName")))) ∧ (PySem.W.nsIn K mainGlobals "NoOrnament" = some (some (.ref (He.ga K "NoOrnament")))) ∧ (PySem.W.nsIn K mainGlobals "NoText" = some (some (.ref (He.ga K "NoText")))) ∧ (PySem.W.nsIn K mainGlobals "Taken" = some (some (.ref (He.ga K "Taken")))) ∧ (PySem.W.nsIn K mainGlobals "TooLong" = some (some (.ref (He.ga K "TooLong")))) ∧ (PySem.W.nsIn K mainGlobals "Unlike" = some (some (.ref (He.ga K "Unlike")))) ∧ (PySem.W.nsIn K mainGlobals "KindError" = some (some (.ref (He.ga K "KindError")))) ∧ (PySem.W.nsIn K mainGlobals "is_name" = some (some (.ref (He.fAd K ("is_name", none))))) ∧ (PySem.W.keepIn K (.ref (He.fAd K ("is_name", none))) = true) ∧ (PySem.W.nsIn K mainGlobals "is_bough" = some (some (.ref (He.fAd K ("is_bough", none))))) ∧ (PySem.W.keepIn K (.ref (He.fAd K ("is_bough", none))) = true) ∧ (PySem.W.nsIn K mainGlobals "is_kind" = some (some (.ref (He.fAd K ("is_kind", none))))) ∧ (PySem.W.keepIn K (.ref (He.fAd K ("is_kind", none))) = true) ∧ (PySem.W.nsIn K mainGlobals "are_unlike" = some (some (.ref (He.fAd K ("are_unlike", none))))) ∧ (PySem.W.keepIn K (.ref (He.fAd K ("are_unlike", none))) = true) := of_decide_eq_true b0
  obtain ⟨a5, k5, a6, k6, a7, k7, i7, a8, k8, i8, a9, k9, a10, k10, a11, k11, a12, k12, a13, k13, a14, k14, a15, k15, a16⟩ : (PySem.W.nsIn K mainGlobals "is_kinds" = some (some (.ref (He.fAd K ("is_kinds", none))))) ∧ (PySem.W.keepIn K (.ref (He.fAd K ("is_kinds", none))) = true) ∧ (PySem.W.nsIn K mainGlobals "with_worths" = some (some (.ref (He.fAd K ("with_worths", none))))) ∧ (PySem.W.keepIn K (.ref (He.fAd K ("with_worths", none))) = true) ∧ (PySem.W.findIn K (.ref (He.ga K "Book")) "__init__" = some (some (.ref (He.fAd K ("Book", some "__init__"))))) ∧ (PySem.W.keepIn K (.ref (He.fAd K ("Book", some "__init__"))) = true) ∧ (PySem.W.isFn K (.ref (He.fAd K ("Book", some "__init__"))) = true) ∧ (PySem.W.findIn K (.ref (He.ga K "Bare")) "__init__" = some (some (.ref (He.fAd K ("Bare", some "__init__"))))) ∧ (PySem.W.keepIn K (.ref (He.fAd K ("Bare", some "__init__"))) = true) ∧ (PySem.W.isFn K (.ref (He.fAd K ("Bare", some "__init__"))) = true) ∧ (PySem.W.nsIn K mainGlobals "_law_deck" = some (some (.ref (He.fAd K ("_law_deck", none))))) ∧ (PySem.W.keepIn K (.ref (He.fAd K ("_law_deck", none))) = true) ∧ (PySem.W.nsIn K mainGlobals "_law_draw" = some (some (.ref (He.fAd K ("_law_draw", none))))) ∧ (PySem.W.keepIn K (.ref (He.fAd K ("_law_draw", none))) = true) ∧ (PySem.W.nsIn K mainGlobals "_law_pick" = some (some (.ref (He.fAd K ("_law_pick", none))))) ∧ (PySem.W.keepIn K (.ref (He.fAd K ("_law_pick", none))) = true) ∧ (PySem.W.nsIn K mainGlobals "_law_names" = some (some (.ref (He.fAd K ("_law_names", none))))) ∧ (PySem.W.keepIn K (.ref (He.fAd K ("_law_names", none))) = true) ∧ (PySem.W.nsIn K mainGlobals "_law_letters" = some (some (.ref (He.fAd K ("_law_letters", none))))) ∧ (PySem.W.keepIn K (.ref (He.fAd K ("_law_letters", none))) = true) ∧ (PySem.W.nsIn K mainGlobals "_law_kinds" = some (some (.ref (He.fAd K ("_law_kinds", none))))) ∧ (PySem.W.keepIn K (.ref (He.fAd K ("_law_kinds", none))) = true) ∧ (PySem.W.nsIn K mainGlobals "_law_great_kinds" = some (some (.ref (He.fAd K ("_law_great_kinds", none))))) ∧ (PySem.W.keepIn K (.ref (He.fAd K ("_law_great_kinds", none))) = true) ∧ (PySem.W.nsIn K mainGlobals "_law_any_kinds" = some (some (.ref (He.fAd K ("_law_any_kinds", none))))) := of_decide_eq_true b1
  obtain ⟨k16, a17, k17, a18, k18, a19, k19, a20, k20, a21, k21, a22, k22, a23, k23, a24, k24, a25, k25, a26, k26, a27, k27, a28, k28⟩ : (PySem.W.keepIn K (.ref (He.fAd K ("_law_any_kinds", none))) = true) ∧ (PySem.W.nsIn K mainGlobals "_law_is_name" = some (some (.ref (He.fAd K ("_law_is_name", none))))) ∧ (PySem.W.keepIn K (.ref (He.fAd K ("_law_is_name", none))) = true) ∧ (PySem.W.nsIn K mainGlobals "_law_is_named" = some (some (.ref (He.fAd K ("_law_is_named", none))))) ∧ (PySem.W.keepIn K (.ref (He.fAd K ("_law_is_named", none))) = true) ∧ (PySem.W.nsIn K mainGlobals "_law_is_kinds" = some (some (.ref (He.fAd K ("_law_is_kinds", none))))) ∧ (PySem.W.keepIn K (.ref (He.fAd K ("_law_is_kinds", none))) = true) ∧ (PySem.W.nsIn K mainGlobals "_law_names_in" = some (some (.ref (He.fAd K ("_law_names_in", none))))) ∧ (PySem.W.keepIn K (.ref (He.fAd K ("_law_names_in", none))) = true) ∧ (PySem.W.nsIn K mainGlobals "_law_odd" = some (some (.ref (He.fAd K ("_law_odd", none))))) ∧ (PySem.W.keepIn K (.ref (He.fAd K ("_law_odd", none))) = true) ∧ (PySem.W.nsIn K mainGlobals "_law_spoilt" = some (some (.ref (He.fAd K ("_law_spoilt", none))))) ∧ (PySem.W.keepIn K (.ref (He.fAd K ("_law_spoilt", none))) = true) ∧ (PySem.W.nsIn K mainGlobals "_law_bare" = some (some (.ref (He.fAd K ("_law_bare", none))))) ∧ (PySem.W.keepIn K (.ref (He.fAd K ("_law_bare", none))) = true) ∧ (PySem.W.nsIn K mainGlobals "_law_heard" = some (some (.ref (He.fAd K ("_law_heard", none))))) ∧ (PySem.W.keepIn K (.ref (He.fAd K ("_law_heard", none))) = true) ∧ (PySem.W.nsIn K mainGlobals "_law_right" = some (some (.ref (He.fAd K ("_law_right", none))))) ∧ (PySem.W.keepIn K (.ref (He.fAd K ("_law_right", none))) = true) ∧ (PySem.W.nsIn K mainGlobals "_law_far_kinds" = some (some (.ref (He.fAd K ("_law_far_kinds", none))))) ∧ (PySem.W.keepIn K (.ref (He.fAd K ("_law_far_kinds", none))) = true) ∧ (PySem.W.nsIn K mainGlobals "_law_few_bare" = some (some (.ref (He.fAd K ("_law_few_bare", none))))) ∧ (PySem.W.keepIn K (.ref (He.fAd K ("_law_few_bare", none))) = true) ∧ (PySem.W.nsIn K mainGlobals "law" = some (some (.ref (He.fAd K ("law", none))))) ∧ (PySem.W.keepIn K (.ref (He.fAd K ("law", none))) = true) := of_decide_eq_true b2
  obtain ⟨g1, g2, g3, z1, z2, z3, z4, z5, z6, z7, z8, z9, z10, z11, z12, z13, z14, z15, pgBook, hdBook, poBook, saBook, mkBook, kcBook, fmBook⟩ : ((He.Fa.str "LETTERS" "abcdefghijklmnopqrstuvwxyz").ok K = true) ∧ ((He.Fa.int "LONGEST" (8)).ok K = true) ∧ ((He.Fa.str "NUM" "num").ok K = true) ∧ (PySem.W.nsIn K mainGlobals "isinstance" = some none) ∧ (PySem.W.nsIn K mainGlobals "str" = some none) ∧ (PySem.W.nsIn K mainGlobals "tuple" = some none) ∧ (PySem.W.nsIn K mainGlobals "len" = some none) ∧ (PySem.W.nsIn K mainGlobals "all" = some none) ∧ (PySem.W.nsIn K mainGlobals "any" = some none) ∧ (PySem.W.nsIn K mainGlobals "range" = some none) ∧ (PySem.W.nsIn K mainGlobals "sum" = some none) ∧ (PySem.W.nsIn K mainGlobals "min" = some none) ∧ (PySem.W.nsIn K mainGlobals "max" = some none) ∧ (PySem.W.nsIn K mainGlobals "int" = some none) ∧ (PySem.W.nsIn K mainGlobals "repr" = some none) ∧ (PySem.W.nsIn K mainGlobals "list" = some none) ∧ (PySem.W.nsIn K mainGlobals "sorted" = some none) ∧ (PySem.W.nsIn K mainGlobals "zip" = some none) ∧ (PySem.W.plainGet K (He.ga K "Book") Str.empty = true) ∧ (PySem.W.hasDictIn K (He.ga K "Book") = true) ∧ (PySem.W.plainOver K (He.ga K "Book") = true) ∧ (PySem.W.findIn K (.ref (He.ga K "Book")) "__setattr__" = some (some (.builtin "object.__setattr__"))) ∧ (PySem.W.makesIn K (He.ga K "Book") = true) ∧ (PySem.W.keepIn K (.ref (He.ga K "Book")) = true) ∧ (PySem.W.findIn K (.ref (He.ga K "Book")) "__format__" = some (some (.builtin "object.__format__"))) := of_decide_eq_true b3
  obtain ⟨obBook, hcBook, sgBook, tkBook, mrBook, nBookkinds, nBooknames_by, nBookkinds_by, nBookfields_by, xoBare, xvBare, xdBare, xsBare, xeBare, xtBare, xkBare, xgBare, xhBare, xaBare, xnBare, xjBare, xmBare, nBarekind, aCNoBook, xpNoBook⟩ : (PySem.W.subIn K (.ref (He.ga K "Book")) (.type "object") = some true) ∧ (PySem.W.findIn K (.ref (He.ga K "Book")) "__class__" = some (some (.builtin "object.__class__"))) ∧ (PySem.W.specialIn K (.builtin "object.__class__") "__get__" = some (some (.builtin "getset_descriptor.__get__"))) ∧ (PySem.W.takesIn K (.builtin "object.__class__") = some true) ∧ (PySem.W.mroIn K (He.ga K "Book") (.type "object") = some true) ∧ (PySem.W.findIn K (.ref (He.ga K "Book")) "kinds" = some none) ∧ (PySem.W.findIn K (.ref (He.ga K "Book")) "names_by" = some none) ∧ (PySem.W.findIn K (.ref (He.ga K "Book")) "kinds_by" = some none) ∧ (PySem.W.findIn K (.ref (He.ga K "Book")) "fields_by" = some none) ∧ (PySem.W.excInitIn K (He.ga K "Bare") ([.type "ValueError", .type "Exception", .type "BaseException", .type "object"] : List Value) "ValueError.__new__" = true) ∧ (PySem.W.excOver K (He.ga K "Bare") ([.type "ValueError", .type "Exception", .type "BaseException", .type "object"] : List Value) = true) ∧ (PySem.W.hasDictIn K (He.ga K "Bare") = true) ∧ (PySem.W.findIn K (.ref (He.ga K "Bare")) "__setattr__" = some (some (.builtin "object.__setattr__"))) ∧ (PySem.W.subIn K (.ref (He.ga K "Bare")) (.type "BaseException") = some true) ∧ (PySem.W.typeIn K (.ref (He.ga K "Bare")) = some (.type "type")) ∧ (PySem.W.keepIn K (.ref (He.ga K "Bare")) = true) ∧ (PySem.W.findIn K (.ref (He.ga K "Bare")) "__getattribute__" = some (some (.builtin "BaseException.__getattribute__"))) ∧ (PySem.W.findIn K (.ref (He.ga K "Bare")) "__getattr__" = some none) ∧ (PySem.W.findIn K (.ref (He.ga K "Bare")) "__class__" = some (some (.builtin "object.__class__"))) ∧ (PySem.W.specialIn K (.builtin "object.__class__") "__get__" = some (some (.builtin "getset_descriptor.__get__"))) ∧ (PySem.W.takesIn K (.builtin "object.__class__") = some true) ∧ (PySem.W.mroIn K (He.ga K "Bare") (.type "object") = some true) ∧ (PySem.W.findIn K (.ref (He.ga K "Bare")) "kind" = some none) ∧ (PySem.W.nsIn K mainGlobals "NoBook" = some (some (.ref (He.ga K "NoBook")))) ∧ (PySem.W.excIn K (He.ga K "NoBook") ([.type "ValueError", .type "Exception", .type "BaseException", .type "object"] : List Value) "ValueError.__new__" = true) := of_decide_eq_true b4
  obtain ⟨xdNoBook, xeNoBook, xtNoBook, xkNoBook, xgNoBook, xhNoBook, xaNoBook, xnNoBook, xjNoBook, xmNoBook, q1, q2, q3, y1, y2, y3, y4, y5, y6, y7, y8, y9, y10, y11, y12⟩ : (PySem.W.hasDictIn K (He.ga K "NoBook") = true) ∧ (PySem.W.subIn K (.ref (He.ga K "NoBook")) (.type "BaseException") = some true) ∧ (PySem.W.typeIn K (.ref (He.ga K "NoBook")) = some (.type "type")) ∧ (PySem.W.keepIn K (.ref (He.ga K "NoBook")) = true) ∧ (PySem.W.findIn K (.ref (He.ga K "NoBook")) "__getattribute__" = some (some (.builtin "BaseException.__getattribute__"))) ∧ (PySem.W.findIn K (.ref (He.ga K "NoBook")) "__getattr__" = some none) ∧ (PySem.W.findIn K (.ref (He.ga K "NoBook")) "__class__" = some (some (.builtin "object.__class__"))) ∧ (PySem.W.specialIn K (.builtin "object.__class__") "__get__" = some (some (.builtin "getset_descriptor.__get__"))) ∧ (PySem.W.takesIn K (.builtin "object.__class__") = some true) ∧ (PySem.W.mroIn K (He.ga K "NoBook") (.type "object") = some true) ∧ (PySem.W.nsIn K mainGlobals "ValueError" = some none) ∧ (PySem.W.nsIn K mainGlobals "bool" = some none) ∧ (PySem.W.nsIn K mainGlobals "set" = some none) ∧ (PySem.W.exmOne K (.ref (He.ga K "Bare")) (.ref (He.ga K "KindError")) = some true) ∧ (PySem.W.kitAny K (.ref (He.ga K "Bare")) [.ref (He.ga K "Gap"), .ref (He.ga K "InUse"), .ref (He.ga K "NoBack"), .ref (He.ga K "NoDress"), .ref (He.ga K "NoFall"), .ref (He.ga K "NoFilling"), .ref (He.ga K "NoFun"), .ref (He.ga K "NoIndex"), .ref (He.ga K "NoName"), .ref (He.ga K "NoOrnament")] = some false) ∧ (PySem.W.kitAny K (.ref (He.ga K "Bare")) [.ref (He.ga K "NoText"), .ref (He.ga K "Taken"), .ref (He.ga K "TooLong"), .ref (He.ga K "Unlike")] = some false) ∧ (PySem.W.kitOne K (.ref (He.ga K "Bare")) (.type "ValueError") = some true) ∧ (PySem.W.kitOne K (.ref (He.ga K "Bare")) (.ref (He.ga K "NoBook")) = some false) ∧ (PySem.W.kitOne K (.ref (He.ga K "Bare")) (.ref (He.ga K "Bare")) = some true) ∧ (PySem.W.exmOne K (.ref (He.ga K "NoBook")) (.ref (He.ga K "KindError")) = some true) ∧ (PySem.W.kitAny K (.ref (He.ga K "NoBook")) [.ref (He.ga K "Gap"), .ref (He.ga K "InUse"), .ref (He.ga K "NoBack"), .ref (He.ga K "NoDress"), .ref (He.ga K "NoFall"), .ref (He.ga K "NoFilling"), .ref (He.ga K "NoFun"), .ref (He.ga K "NoIndex"), .ref (He.ga K "NoName"), .ref (He.ga K "NoOrnament")] = some false) ∧ (PySem.W.kitAny K (.ref (He.ga K "NoBook")) [.ref (He.ga K "NoText"), .ref (He.ga K "Taken"), .ref (He.ga K "TooLong"), .ref (He.ga K "Unlike")] = some false) ∧ (PySem.W.kitOne K (.ref (He.ga K "NoBook")) (.type "ValueError") = some true) ∧ (PySem.W.kitOne K (.ref (He.ga K "NoBook")) (.ref (He.ga K "NoBook")) = some true) ∧ (PySem.W.kitOne K (.ref (He.ga K "NoBook")) (.ref (He.ga K "Bare")) = some false) := of_decide_eq_true b5
  obtain ⟨y13, y14, y15⟩ : (PySem.W.specialIn K (.ref (He.ga K "KindError")) "__getattribute__" = some (some (.builtin "type.__getattribute__"))) ∧ (PySem.W.readsIn K (He.ga K "KindError") (.type "type") = true) ∧ (Dk.initVE K (He.ga K "KindError") = true) := of_decide_eq_true b6
  obtain ⟨_, _, _, _, _, _, _, _, _, l1, c1⟩ := c.def_ 0 (d := hFn[0]) rfl
  obtain ⟨_, _, _, _, _, _, _, _, _, l2, c2⟩ := c.def_ 1 (d := hFn[1]) rfl
  obtain ⟨_, _, _, _, _, _, _, _, _, l3, c3⟩ := c.def_ 2 (d := hFn[2]) rfl
  obtain ⟨_, _, _, _, _, _, _, _, _, l4, c4⟩ := c.def_ 3 (d := hFn[3]) rfl
  obtain ⟨_, _, _, _, _, _, _, _, _, l5, c5⟩ := c.def_ 4 (d := hFn[4]) rfl
  obtain ⟨_, _, _, _, _, _, _, _, _, l6, c6⟩ := c.def_ 5 (d := hFn[5]) rfl
  obtain ⟨_, _, _, _, _, _, _, _, _, l7, c7⟩ := c.def_ 6 (d := hFn[6]) rfl
  obtain ⟨_, _, _, _, _, _, _, _, _, l8, c8⟩ := c.def_ 7 (d := hFn[7]) rfl
  obtain ⟨_, _, _, _, _, _, _, _, _, l9, c9⟩ := c.def_ 8 (d := hFn[8]) rfl
  obtain ⟨_, _, _, _, _, _, _, _, _, l10, c10⟩ := c.def_ 9 (d := hFn[9]) rfl
  obtain ⟨_, _, _, _, _, _, _, _, _, l11, c11⟩ := c.def_ 10 (d := hFn[10]) rfl
  obtain ⟨_, _, _, _, _, _, _, _, _, l12, c12⟩ := c.def_ 11 (d := hFn[11]) rfl
  obtain ⟨_, _, _, _, _, _, _, _, _, l13, c13⟩ := c.def_ 12 (d := hFn[12]) rfl
  obtain ⟨_, _, _, _, _, _, _, _, _, l14, c14⟩ := c.def_ 13 (d := hFn[13]) rfl
  obtain ⟨_, _, _, _, _, _, _, _, _, l15, c15⟩ := c.def_ 14 (d := hFn[14]) rfl
  obtain ⟨_, _, _, _, _, _, _, _, _, l16, c16⟩ := c.def_ 15 (d := hFn[15]) rfl
  obtain ⟨_, _, _, _, _, _, _, _, _, l17, c17⟩ := c.def_ 16 (d := hFn[16]) rfl
  obtain ⟨_, _, _, _, _, _, _, _, _, l18, c18⟩ := c.def_ 17 (d := hFn[17]) rfl
  obtain ⟨_, _, _, _, _, _, _, _, _, l19, c19⟩ := c.def_ 18 (d := hFn[18]) rfl
  obtain ⟨_, _, _, _, _, _, _, _, _, l20, c20⟩ := c.def_ 19 (d := hFn[19]) rfl
  obtain ⟨_, _, _, _, _, _, _, _, _, l21, c21⟩ := c.def_ 20 (d := hFn[20]) rfl
  obtain ⟨_, _, _, _, _, _, _, _, _, l22, c22⟩ := c.def_ 21 (d := hFn[21]) rfl
  obtain ⟨_, _, _, _, _, _, _, _, _, l23, c23⟩ := c.def_ 22 (d := hFn[22]) rfl
  obtain ⟨_, _, _, _, _, _, _, _, _, l24, c24⟩ := c.def_ 23 (d := hFn[23]) rfl
  obtain ⟨_, _, _, _, _, _, _, _, _, l25, c25⟩ := c.def_ 24 (d := hFn[24]) rfl
  obtain ⟨_, _, _, _, _, _, _, _, _, l26, c26⟩ := c.def_ 25 (d := hFn[25]) rfl
  obtain ⟨_, _, _, _, _, _, _, _, _, l27, c27⟩ := c.def_ 26 (d := hFn[26]) rfl
  obtain ⟨_, _, _, _, _, _, _, _, _, l28, c28⟩ := c.def_ 27 (d := hFn[27]) rfl
  obtain ⟨_, g1⟩ := Dk.faS_in g1
  obtain ⟨_, g2⟩ := Dk.faI_in g2
  obtain ⟨_, g3⟩ := Dk.faS_in g3
  exact all_mk X G hfa aCBook aCBare aCGap aCInUse aCNoBack aCNoDress aCNoFall aCNoFilling aCNoFun aCNoIndex aCNoName aCNoOrnament aCNoText aCTaken aCTooLong aCUnlike aCKindError a1 l1 c1 k1 a2 l2 c2 k2 a3 l3 c3 k3 a4 l4 c4 k4 a5 l5 c5 k5 a6 l6 c6 k6 a7 l7 c7 k7 i7 a8 l8 c8 k8 i8 a9 l9 c9 k9 a10 l10 c10 k10 a11 l11 c11 k11 a12 l12 c12 k12 a13 l13 c13 k13 a14 l14 c14 k14 a15 l15 c15 k15 a16 l16 c16 k16 a17 l17 c17 k17 a18 l18 c18 k18 a19 l19 c19 k19 a20 l20 c20 k20 a21 l21 c21 k21 a22 l22 c22 k22 a23 l23 c23 k23 a24 l24 c24 k24 a25 l25 c25 k25 a26 l26 c26 k26 a27 l27 c27 k27 a28 l28 c28 k28 g1 g2 g3 z1 z2 z3 z4 z5 z6 z7 z8 z9 z10 z11 z12 z13 z14 z15 pgBook hdBook poBook saBook mkBook kcBook fmBook obBook hcBook sgBook tkBook mrBook nBookkinds nBooknames_by nBookkinds_by nBookfields_by xoBare xvBare xdBare xsBare xeBare xtBare xkBare xgBare xhBare xaBare xnBare xjBare xmBare nBarekind aCNoBook xpNoBook xdNoBook xeNoBook xtNoBook xkNoBook xgNoBook xhNoBook xaNoBook xnNoBook xjNoBook xmNoBook q1 q2 q3 y1 y2 y3 y4 y5 y6 y7 y8 y9 y10 y11 y12 y13 y14 y15
end KB
open PySem PySem.W PySem.Calls PyProof.Rows
set_option maxRecDepth 100000 in
set_option maxHeartbeats 0 in
theorem PySem.Challenge.cw_dressedkinds_k01_what_are_names_and_kind_holds : PySem.Challenge.rw_dressedkinds_k01_what_are_names_and_kind.Holds := by
  w_on; o_law
  refine HandSHeadRun.head_any (r := OpenLaw.row PySem.Challenge.rw_dressedkinds_k01_what_are_names_and_kind) (q := view (OpenLaw.row PySem.Challenge.rw_dressedkinds_k01_what_are_names_and_kind).prog [53]) (H := KB.hH) (ob := Dk.obX KB.hAs KB.hBs KB.hFn) (M := 15000) (loose := KB.hLoose) (d := HandSHeadRun.topDef (OpenLaw.row PySem.Challenge.rw_dressedkinds_k01_what_are_names_and_kind).prog 53) (kwd := []) (fun s => Dk.obX_eq s)
    (by kernel_rfl) (fun s => by kernel_rfl) KB.hrun (by kernel_rfl) (by kernel_rfl) (by kernel_rfl) (by rfl) (by first | assumption | decide +kernel) (by decide +kernel) ⟨rfl, rfl, rfl, rfl, rfl, by decide +kernel⟩ ?hw ?hc
  case hw => w_witness2
  case hc =>
    refine Dk.walk_gnE (l := PySem.Challenge.rw_dressedkinds_k01_what_are_names_and_kind) (n := 63) (k := 60) (x := "_law_script") (sp := KB.spLaw01) rfl (by decide) (by kernel_rfl) ⟨rfl, by decide, by decide⟩ ?F fun K H a ns hl hS => ⟨a, ns, rfl, hS, hl, fun _ => rfl⟩
    intro w mg fa h Y G hmg0
    obtain ⟨K, KX, c⟩ := Y
    have hmg : mg ("law" : PySem.Str) = some (.ref fa) := by
      have e : (HandSHeadRun.topDef (OpenLaw.row PySem.Challenge.rw_dressedkinds_k01_what_are_names_and_kind).prog 53).name = ("law" : PySem.Str) := by kernel_rfl
      rw [← e]
      exact hmg0
    obtain ⟨fd, hb, hF⟩ := KB.all_run KX G hmg c
    exact ⟨K, fd, KX, hb, hF⟩
