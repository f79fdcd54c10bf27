import PyProof.Rows.All
import Wide.All
import OpenK.AllK
import Wide.FinOn
import HandS.HeadHook1
import HandS.Head2
import HandS.Words
import HandS.WordsExc
import HandS.ForMost
import HandS.ForExc
import HandS.TupAny
import HandS.IsInst
import HandS.Flow
import HandS.Style
import HandS.DictComp
import HandS.Defaults
import HandS.StrMore
import HandS.FStr
import HandS.Zip
import HandS.Conv
import HandS.Wide
import HandS.RaiseMore
import HandS.WideMore
import KE.SortData
import HandS.MakeKwOnly
import KE.GoesSet
import HandS.SetKeys
import HandS.SetBool
import KE.KUnpackStar
import HandS.Deep
import HandS.Strs
import HandS.WordsDict
import KE.SortCalls
import KE.SortKeyed
import PyProof.EqLayable
import HandS.SortOrd
import HandS.SortKw
import HandS.OwnEq
import HandS.Small
import PyProof.Rows.Range3
import PyProof.StrHeap
import HandS.Lambda
import HandS.Nested
import HandS.NestedK
import PySem.Challenge.RW_dressedkinds_k22_great_numbers
import HandS.TupMul
import KE.KExcInit
import KE.KExcIs
import HandS.ExcInit
import HandS.ExcField
import HandS.TryMany
import HandS.ExcOwn
import HandS.ExcBuiltin
import HandS.JoinGen
import HandS.SetFor
import KE.DataMinMax
import PyProof.ListNew
import PyProof.StrBlock2
import PyProof.EqKinds
import HandS.More
import HandS.Sort
import KE.KDictPairs
import HandS.Codes
import PyProof.StrLawsRepr
import KE.GoesEnum
import HandS.NoneIn
import HandS.TryOnly
import KE.KTupSum
import HandS.Text
import PyProof.SumAny
import PyProof.Rows.SeqMore
import PyProof.WalkInts
set_option Elab.async false
set_option linter.all false
set_option maxRecDepth 100000
set_option maxHeartbeats 4000000
set_option pp.maxSteps 500
set_option pp.maxSteps 600
set_option pp.maxSteps 40
namespace Dk
open PySem L2 PySem.Spec PyProof.Rows
/-- asked: facts as one Bool, defs -/
def askX (F : PySem.W.Frag → Bool) (fn : List He.FnD) (K : PySem.W.Frag) : Bool × List He.FnV := (F K && fn.all fun d => (He.Fa.code d.at_ d.qual).ok K, fn.map fun d => He.fnObs K d.at_)
def SaysX (F : PySem.W.Frag → Bool) (fn : List He.FnD) (K : PySem.W.Frag) : Prop := askX F fn K = (true, fn.map He.FnD.val)
def hookX (as : List Addr) (F : PySem.W.Frag → Bool) (fn : List He.FnD) : PySem.W.Hook where
  α := Bool × List He.FnV
  obs := fun s => askX F fn (He.frG s.heap.get? as)
  val := fun _ => (true, fn.map He.FnD.val)
  says := fun _ h => ∃ K : PySem.W.Frag, K.In h ∧ SaysX F fn K
  of := fun _ _ e => ⟨_, He.frG_in, e⟩
  keeps := fun _ _ _ ⟨K, hK, c⟩ k => ⟨K, PySem.W.Frag.In.keeps hK k, c⟩
def obX (as : List Addr) (F : PySem.W.Frag → Bool) (fn : List He.FnD) (s : PySem.W.SharedT) : Bool × List He.FnV := askX F fn (He.frG (HandSHeadRun.getT s) as)
theorem obX_eq {as : List Addr} {F : PySem.W.Frag → Bool} {fn : List He.FnD} (s : PySem.W.SharedT) : obX as F fn s = (hookX as F fn).obs s.abs := by
  have e : HandSHeadRun.getT s = s.abs.heap.get? := funext fun a => HandSHeadRun.getT_eq s a
  unfold obX
  rw [e] <;> rfl
end Dk
namespace Dk
open PySem L2
/-- plain data -/
inductive D where
  | non | bl (b : Bool) | int (i : Int) | str (x : Str)
  | tup (xs : List D) | lst (xs : List D) | dic (kvs : List (Key × D))
  | obj (C : Addr) (fs : List (Str × D)) | opq (a : Addr)
  /-- a dict that is locked: it may be walked -/
  | dfz (kvs : List (Key × D))
  /-- a tuple of which it is known that it bears no dict of attributes -/
  | ptp (xs : List D)
mutual
/-- the value v is the datum d, by the objects that stand still -/
inductive Rep (K : PySem.W.Frag) (I : Hp) : V → D → Prop
  | non : Rep K I .non .non
  | bl (b : Bool) : Rep K I (.bl b) (.bl b)
  | int (i : Int) : Rep K I (.int i) (.int i)
  | str (x : Str) : Rep K I (.str x) (.str x)
  | tup {a : Addr} {vs : List V} {ds : List D} : SqT K I a vs → Reps K I vs ds → Rep K I (.ref a) (.tup ds)
  | lst {a : Addr} {vs : List V} {ds : List D} : I a = some (.lst vs) → Reps K I vs ds → Rep K I (.ref a) (.lst ds)
  | dic {a : Addr} {kvs : List (Key × V)} {ds : List (Key × D)} : I a = some (.dK kvs) → kvs.map (·.1) = ds.map (·.1) → Reps K I (kvs.map (·.2)) (ds.map (·.2)) → Rep K I (.ref a) (.dic ds)
  | obj {a C dx : Addr} {fs : List (Str × V)} {ds : List (Str × D)} : I a = some (.ins C dx fs) → fs.map (·.1) = ds.map (·.1) → Reps K I (fs.map (·.2)) (ds.map (·.2)) → Rep K I (.ref a) (.obj C ds)
  | opq (a : Addr) : Rep K I (.ref a) (.opq a)
  | dfz {a : Addr} {o : Obj} {kvs : List (Key × V)} {ds : List (Key × D)} : I a = some (.frz o (.dK kvs)) → kvs.map (·.1) = ds.map (·.1) → Reps K I (kvs.map (·.2)) (ds.map (·.2)) → Rep K I (.ref a) (.dfz ds)
  | ptp {a : Addr} {o : Obj} {vs : List V} {ds : List D} : I a = some (.frz o (.tup vs)) → o.dict = none → Reps K I vs ds → Rep K I (.ref a) (.ptp ds)
inductive Reps (K : PySem.W.Frag) (I : Hp) : List V → List D → Prop
  | nil : Reps K I [] []
  | cons {v : V} {vs : List V} {d : D} {ds : List D} : Rep K I v d → Reps K I vs ds → Reps K I (v :: vs) (d :: ds)
end
theorem Same.seqT {K : PySem.W.Frag} {H H' : Hp} {a : Addr} {xs : List V} (e : Same H H') (h : SqT K H a xs) : SqT K H' a xs := by
  rcases h with (h | ⟨o, h⟩) | h
  · exact .inl (.inl (e _ _ h))
  · exact .inl (.inr ⟨o, e _ _ h⟩)
  · exact .inr h
mutual
theorem Rep.mono {K : PySem.W.Frag} {I I' : Hp} (s : Same I I') : ∀ {v : V} {d : D}, Rep K I v d → Rep K I' v d
  | _, _, .non => .non
  | _, _, .bl b => .bl b
  | _, _, .int i => .int i
  | _, _, .str x => .str x
  | _, _, .tup h r => .tup (Same.seqT s h) (Reps.mono s r)
  | _, _, .lst h r => .lst (s _ _ h) (Reps.mono s r)
  | _, _, .dic h k r => .dic (s _ _ h) k (Reps.mono s r)
  | _, _, .obj h k r => .obj (s _ _ h) k (Reps.mono s r)
  | _, _, .opq a => .opq a
  | _, _, .dfz h k r => .dfz (s _ _ h) k (Reps.mono s r)
  | _, _, .ptp h k r => .ptp (s _ _ h) k (Reps.mono s r)
theorem Reps.mono {K : PySem.W.Frag} {I I' : Hp} (s : Same I I') : ∀ {vs : List V} {ds : List D}, Reps K I vs ds → Reps K I' vs ds
  | _, _, .nil => .nil
  | _, _, .cons h r => .cons (Rep.mono s h) (Reps.mono s r)
end
section
variable {K : PySem.W.Frag} {I : Hp}
theorem Reps.length {vs : List V} {ds : List D} (h : Reps K I vs ds) : vs.length = ds.length := by
  induction vs generalizing ds with
  | nil => cases h; rfl
  | cons v vs ih => cases h with | cons a b => simp [ih b]
theorem Reps.get {vs : List V} {ds : List D} {i : Nat} {d : D} (h : Reps K I vs ds) (e : ds[i]? = some d) : ∃ v, vs[i]? = some v ∧ Rep K I v d := by
  induction vs generalizing ds i with
  | nil => cases h; simp at e
  | cons v vs ih =>
    cases h with
    | cons a b =>
      cases i with
      | zero => simp at e; subst e; exact ⟨v, rfl, a⟩
      | succ i => simp at e; obtain ⟨w, h1, h2⟩ := ih b e; exact ⟨w, by simpa using h1, h2⟩
theorem Reps.getV {vs : List V} {ds : List D} {i : Nat} {v : V} (h : Reps K I vs ds) (e : vs[i]? = some v) : ∃ d, ds[i]? = some d ∧ Rep K I v d := by
  induction vs generalizing ds i with
  | nil => simp at e
  | cons w vs ih =>
    cases h with
    | cons a b =>
      cases i with
      | zero => simp at e; subst e; exact ⟨_, rfl, a⟩
      | succ i => simp at e; obtain ⟨w, h1, h2⟩ := ih b e; exact ⟨w, by simpa using h1, h2⟩
theorem Reps.append {vs ws : List V} {ds es : List D} (h : Reps K I vs ds) (h' : Reps K I ws es) : Reps K I (vs ++ ws) (ds ++ es) := by
  induction vs generalizing ds with
  | nil => cases h; exact h'
  | cons v vs ih => cases h with | cons a b => exact .cons a (ih b)
theorem Reps.take {vs : List V} {ds : List D} (n : Nat) (h : Reps K I vs ds) : Reps K I (vs.take n) (ds.take n) := by
  induction vs generalizing ds n with
  | nil => cases h; simp; exact .nil
  | cons v vs ih =>
    cases h with
    | cons a b =>
      cases n with
      | zero => exact .nil
      | succ n => exact .cons a (ih n b)
theorem Reps.drop {vs : List V} {ds : List D} (n : Nat) (h : Reps K I vs ds) : Reps K I (vs.drop n) (ds.drop n) := by
  induction vs generalizing ds n with
  | nil => cases h; simp; exact .nil
  | cons v vs ih =>
    cases h with
    | cons a b =>
      cases n with
      | zero => exact .cons a b
      | succ n => exact ih n b
theorem Reps.reverse {vs : List V} {ds : List D} (h : Reps K I vs ds) : Reps K I vs.reverse ds.reverse := by
  induction vs generalizing ds with
  | nil => cases h; exact .nil
  | cons v vs ih => cases h with | cons a b => rw [List.reverse_cons, List.reverse_cons]; exact (ih b).append (.cons a .nil)
theorem Reps.set {vs : List V} {ds : List D} {v : V} {d : D} (i : Nat) (h : Reps K I vs ds) (r : Rep K I v d) : Reps K I (vs.set i v) (ds.set i d) := by
  induction vs generalizing ds i with
  | nil => cases h; exact .nil
  | cons w vs ih =>
    cases h with
    | cons a b =>
      cases i with
      | zero => exact .cons r b
      | succ i => exact .cons a (ih i b)
theorem Reps.cut {vs : List V} {ds : List D} (h : Reps K I vs ds) (lo hi : Option Int) : Reps K I (cutV vs lo hi) ((ds.drop (HT.sIx ds.length 0 lo)).take (HT.sIx ds.length ds.length hi - HT.sIx ds.length 0 lo)) := by
  unfold cutV
  rw [h.length]
  exact (h.drop _).take _
theorem Reps.ints {ns : List Int} : Reps K I (ns.map V.int) (ns.map D.int) := by
  induction ns with
  | nil => exact .nil
  | cons n ns ih => exact .cons (.int n) ih
theorem Reps.intsV {ns : List Int} {vs : List V} (h : Reps K I vs (ns.map D.int)) : vs = ns.map V.int := by
  induction ns generalizing vs with
  | nil => cases h; rfl
  | cons n ns ih => cases h with | cons a b => cases a; rw [ih b]; rfl
theorem Reps.strsV {ns : List Str} {vs : List V} (h : Reps K I vs (ns.map D.str)) : vs = ns.map V.str := by
  induction ns generalizing vs with
  | nil => cases h; rfl
  | cons n ns ih => cases h with | cons a b => cases a; rw [ih b]; rfl
theorem Reps.blsV {ns : List Bool} {vs : List V} (h : Reps K I vs (ns.map D.bl)) : vs = ns.map V.bl := by
  induction ns generalizing vs with
  | nil => cases h; rfl
  | cons n ns ih => cases h with | cons a b => cases a; rw [ih b]; rfl
end
/-- code objects and the like stay -/
def SameX (I I' : Hp) : Prop := ∀ b φ, I b = some (.ext φ) → I' b = some (.ext φ)
theorem SameX.of {I I' : Hp} (h : ∀ b u, I b = some u → I' b = some u) : SameX I I' := fun b φ e => h b _ e
theorem SameX.refl (I : Hp) : SameX I I := fun _ _ e => e
structure Wd where
  mv : Addr → Prop
  inv : Hp → Hp → Prop
  frame : ∀ {I I' H H' : Hp}, SameX I I' → (∀ b, mv b → H' b = H b) → inv I H → inv I' H'
  live : ∀ {I H : Hp} {b : Addr}, inv I H → mv b → H b ≠ none
structure StI (W : Wd) (I H : Hp) : Prop where
  sub : Same I H
  imm : ∀ b o, I b = some o → ¬ W.mv b
  inv : W.inv I H
structure Stp (W : Wd) (I H I' H' : Hp) : Prop where
  i : Same I I'
  st : StI W I' H'
  h : ∀ b o, H b = some o → ¬ W.mv b → H' b = some o
  new : ∀ b o, H b = some o → I b = none → I' b = none
section
variable {W : Wd} {I H I' H' I'' H'' : Hp}
theorem StI.stp (s : StI W I H) : Stp W I H I H := ⟨Same.refl I, s, fun _ _ e _ => e, fun _ _ _ e => e⟩
theorem Stp.trans (a : Stp W I H I' H') (b : Stp W I' H' I'' H'') : Stp W I H I'' H'' := by
  refine ⟨Same.trans a.i b.i, b.st, fun c o e m => b.h c o (a.h c o e m) m, fun c o e n => ?_⟩
  by_cases m : W.mv c
  · cases q : I'' c with
    | none => rfl
    | some u => exact absurd m (b.st.imm c u q)
  · exact b.new c o (a.h c o e m) (a.new c o e n)
/-- a new object that stands still from now on -/
theorem StI.laid (s : StI W I H) {p : Addr} (hp : H p = none) (o : HO) : Stp W I H (upd I p o) (upd H p o) := by
  have np : ¬ W.mv p := fun m => s.inv |> fun i => W.live i m hp
  have ni : I p = none := by
    cases q : I p with
    | none => rfl
    | some u => rw [s.sub _ _ q] at hp; cases hp
  refine ⟨fun b u e => ?_, ⟨fun b u e => ?_, fun b u e => ?_, ?_⟩, fun b u e _ => ?_, fun b u e n => ?_⟩
  · rw [upd_ne (ne_of_none e ni)]; exact e
  · by_cases hb : b = p
    · subst hb; rw [upd_same] at e ⊢; exact e
    · rw [upd_ne hb] at e ⊢; exact s.sub _ _ e
  · by_cases hb : b = p
    · subst hb; exact np
    · rw [upd_ne hb] at e; exact s.imm _ _ e
  · exact W.frame (.of fun b u e => by rw [upd_ne (ne_of_none e ni)]; exact e) (fun b m => upd_ne fun z => np (z ▸ m)) s.inv
  · rw [upd_ne (ne_of_none e hp)]; exact e
  · rw [upd_ne (ne_of_none e hp)]; exact n
/-- a new object that may turn (of our own) -/
theorem StI.laidM (s : StI W I H) {p : Addr} (hp : H p = none) (o : HO) : Stp W I H I (upd H p o) := by
  have np : ¬ W.mv p := fun m => s.inv |> fun i => W.live i m hp
  refine ⟨Same.refl I, ⟨fun b u e => ?_, s.imm, W.frame (.refl I) (fun b m => upd_ne fun z => np (z ▸ m)) s.inv⟩, fun b u e _ => ?_, fun b u e n => n⟩
  · rw [upd_ne (ne_of_none (s.sub _ _ e) hp)]; exact s.sub _ _ e
  · rw [upd_ne (ne_of_none e hp)]; exact e
theorem StI.free (s : StI W I H) {p : Addr} (hp : H p = none) : I p = none := by
  cases q : I p with
  | none => rfl
  | some u => rw [s.sub _ _ q] at hp; cases hp
end
inductive Ent where
  | dat (d : D)
  /-- a list of our own, that may grow -/
  | own (ds : List D)
  /-- a dict of our own -/
  | ownD (kvs : List (Key × D))
  /-- an object of our own, as long as its attributes are set -/
  | ownO (q C : Addr) (fs : List (Str × D))
  /-- a dict of our own, at a known place -/
  | ownQ (q : Addr) (kvs : List (Key × D))
  /-- .. locked -/
  | ownF (q : Addr) (kvs : List (Key × D))
  /-- a list of our own, at a known place -/
  | ownL (q : Addr) (ds : List D)
  /-- a dict of our own at a known place, its keys tuples -/
  | ownT (q : Addr) (kvs : List (List Key × D))
/-- the place it must be at -/
def Ent.adr : Ent → Option Addr
  | .ownO q _ _ => some q
  | .ownQ q _ => some q
  | .ownF q _ => some q
  | .ownL q _ => some q
  | .ownT q _ => some q
  | _ => none
abbrev DEnv := List (Option Ent)
/-- a def's frame: the world, the heaps at its entry -/
structure Fx where
  W : Wd
  B : Hp
  I0 : Hp
def Ent.isOwn : Ent → Prop
  | .dat _ => False
  | _ => True
/-- what it is once it stands still -/
def Ent.toD : Ent → D
  | .dat d => d
  | .own ds => .lst ds
  | .ownD ds => .dic ds
  | .ownO _ C fs => .obj C fs
  | .ownQ _ ds => .dic ds
  | .ownF _ ds => .dfz ds
  | .ownL _ ds => .lst ds
  | .ownT q _ => .opq q
def OwnRep (K : PySem.W.Frag) (I : Hp) : Ent → HO → Prop
  | .dat _, _ => False
  | .own ds, o => ∃ vs, o = .lst vs ∧ Reps K I vs ds
  | .ownD ds, o => ∃ kvs, o = .dK kvs ∧ kvs.map (·.1) = ds.map (·.1) ∧ Reps K I (kvs.map (·.2)) (ds.map (·.2))
  | .ownO _ C fs, o => ∃ dx ws, o = .ins C dx ws ∧ ws.map (·.1) = fs.map (·.1) ∧ Reps K I (ws.map (·.2)) (fs.map (·.2))
  | .ownQ _ ds, o => ∃ kvs, o = .dK kvs ∧ kvs.map (·.1) = ds.map (·.1) ∧ Reps K I (kvs.map (·.2)) (ds.map (·.2))
  | .ownF _ ds, o => ∃ f kvs, o = .frz f (.dK kvs) ∧ kvs.map (·.1) = ds.map (·.1) ∧ Reps K I (kvs.map (·.2)) (ds.map (·.2))
  | .ownL _ ds, o => ∃ vs, o = .lst vs ∧ Reps K I vs ds
  | .ownT _ ds, o => ∃ kvs, o = .dT kvs ∧ kvs.map (·.1) = ds.map (·.1) ∧ Reps K I (kvs.map (·.2)) (ds.map (·.2))
theorem OwnRep.mono {K : PySem.W.Frag} {I I' : Hp} (s : Same I I') {e : Ent} {o : HO} (h : OwnRep K I e o) : OwnRep K I' e o := by
  cases e with
  | dat _ => exact h
  | own ds => obtain ⟨vs, q, r⟩ := h; exact ⟨vs, q, r.mono s⟩
  | ownD ds => obtain ⟨vs, q, k, r⟩ := h; exact ⟨vs, q, k, r.mono s⟩
  | ownO _ C fs => obtain ⟨dx, vs, q, k, r⟩ := h; exact ⟨dx, vs, q, k, r.mono s⟩
  | ownQ _ ds => obtain ⟨vs, q, k, r⟩ := h; exact ⟨vs, q, k, r.mono s⟩
  | ownF _ ds => obtain ⟨f, vs, q, k, r⟩ := h; exact ⟨f, vs, q, k, r.mono s⟩
  | ownL _ ds => obtain ⟨vs, q, r⟩ := h; exact ⟨vs, q, r.mono s⟩
  | ownT _ ds => obtain ⟨vs, q, k, r⟩ := h; exact ⟨vs, q, k, r.mono s⟩
theorem OwnRep.rep {K : PySem.W.Frag} {I : Hp} {e : Ent} {o : HO} {p : Addr} (h : OwnRep K I e o) (hp : I p = some o) (ha : ∀ q, e.adr = some q → p = q) : Rep K I (.ref p) e.toD := by
  cases e with
  | dat _ => exact h.elim
  | own ds => obtain ⟨vs, rfl, r⟩ := h; exact .lst hp r
  | ownD ds => obtain ⟨vs, rfl, k, r⟩ := h; exact .dic hp k r
  | ownO _ C fs => obtain ⟨dx, vs, rfl, k, r⟩ := h; exact .obj hp k r
  | ownQ _ ds => obtain ⟨vs, rfl, k, r⟩ := h; exact .dic hp k r
  | ownF _ ds => obtain ⟨f, vs, rfl, k, r⟩ := h; exact .dfz hp k r
  | ownL _ ds => obtain ⟨vs, rfl, r⟩ := h; exact .lst hp r
  | ownT q ds => rw [ha q rfl]; exact .opq q
theorem OwnRep.isOwn {K : PySem.W.Frag} {I : Hp} {e : Ent} {o : HO} (h : OwnRep K I e o) : e.isOwn := by
  cases e <;> first | exact h.elim | trivial
/-- e is held by v: nothing of it stands still -/
structure OwnAt (F : Fx) (K : PySem.W.Frag) (I H : Hp) (e : Ent) (p : Addr) (o : HO) : Prop where
  hp : H p = some o
  rep : OwnRep K I e o
  ni : I p = none
  nm : ¬ F.W.mv p
  nb : F.B p = none
  ad : ∀ q, e.adr = some q → p = q
def EntRep (F : Fx) (K : PySem.W.Frag) (I H : Hp) (e : Ent) (v : V) : Prop :=
  (∃ d, e = .dat d ∧ Rep K I v d) ∨ ∃ p o, v = .ref p ∧ OwnAt F K I H e p o
theorem EntRep.dat {F : Fx} {K : PySem.W.Frag} {I H : Hp} {d : D} {v : V} (h : EntRep F K I H (.dat d) v) : Rep K I v d := by
  rcases h with ⟨d', e, r⟩ | ⟨p, o, _, h⟩
  · cases e; exact r
  · exact h.rep.elim
theorem EntRep.own {F : Fx} {K : PySem.W.Frag} {I H : Hp} {e : Ent} {v : V} (h : EntRep F K I H e v) (o : e.isOwn) : ∃ p u, v = .ref p ∧ OwnAt F K I H e p u := by
  rcases h with ⟨d', rfl, r⟩ | h
  · exact o.elim
  · exact h
structure At (F : Fx) (K : PySem.W.Frag) (I : Hp) (ρ : DEnv) (σ : St) (H : Hp) : Prop where
  stp : Stp F.W F.I0 F.B I H
  len : ρ.length = σ.length
  env : ∀ (i : Nat) e, ρ[i]? = some (some e) → ∃ v, σ[i]? = some (some v) ∧ EntRep F K I H e v
  dis : ∀ (i j : Nat) e e' v, i ≠ j → ρ[i]? = some (some e) → ρ[j]? = some (some e') → e.isOwn → e'.isOwn → σ[i]? = some (some v) → σ[j]? ≠ some (some v)
section
variable {F : Fx} {K : PySem.W.Frag} {I H I' H' : Hp} {ρ : DEnv} {σ : St}
theorem At.st (a : At F K I ρ σ H) : StI F.W I H := a.stp.st
theorem OwnAt.step {e : Ent} {p : Addr} {o : HO} (h : OwnAt F K I H e p o) (s : Stp F.W I H I' H') : OwnAt F K I' H' e p o := ⟨s.h _ _ h.hp h.nm, h.rep.mono s.i, s.new _ _ h.hp h.ni, h.nm, h.nb, h.ad⟩
theorem EntRep.step {e : Ent} {v : V} (h : EntRep F K I H e v) (s : Stp F.W I H I' H') : EntRep F K I' H' e v := by
  rcases h with ⟨d, rfl, r⟩ | ⟨p, o, rfl, h⟩
  · exact .inl ⟨d, rfl, r.mono s.i⟩
  · exact .inr ⟨p, o, rfl, h.step s⟩
theorem At.step (a : At F K I ρ σ H) (s : Stp F.W I H I' H') : At F K I' ρ σ H' :=
  ⟨a.stp.trans s, a.len, fun i e h => let ⟨v, h1, h2⟩ := a.env i e h; ⟨v, h1, h2.step s⟩, a.dis⟩
end
abbrev DT := DEnv → (D → Prop) → Prop
abbrev DB := DEnv → (Bool → Prop) → Prop
def fin (F : Fx) (K : PySem.W.Frag) (I H : Hp) (Q : VK) : D → Prop := fun d => ∀ v I' H', Stp F.W I H I' H' → Rep K I' v d → Q v H'
def finB (F : Fx) (I H : Hp) (Q : Bool → Hp → Prop) : Bool → Prop := fun b => ∀ I' H', Stp F.W I H I' H' → Q b H'
def rdE (F : Fx) (K : PySem.W.Frag) (t : DT) : TE := fun σ H Q => ∃ I ρ, At F K I ρ σ H ∧ t ρ (fin F K I H Q)
def rdT (F : Fx) (K : PySem.W.Frag) (t : DB) : TT := fun σ H Q => ∃ I ρ, At F K I ρ σ H ∧ t ρ (finB F I H Q)
structure DE (F : Fx) (X : Cx) (e : Expr) (t : DT) : Prop where
  mono : ∀ ρ (Q Q' : D → Prop), (∀ d, Q d → Q' d) → t ρ Q → t ρ Q'
  run : PE X e (rdE F X.K t)
structure DTest (F : Fx) (X : Cx) (e : Expr) (t : DB) : Prop where
  mono : ∀ ρ (Q Q' : Bool → Prop), (∀ d, Q d → Q' d) → t ρ Q → t ρ Q'
  run : PT X e (rdT F X.K t)
section
variable {F : Fx} {X : Cx} {K : PySem.W.Frag} {I H : Hp} {ρ : DEnv} {σ : St}
/-- a reading passes on to what follows -/
theorem rdE_next {t : DT} (mono : ∀ ρ (Q Q' : D → Prop), (∀ d, Q d → Q' d) → t ρ Q → t ρ Q') (a : At F K I ρ σ H) {P : D → Prop} {R : V → Hp → Prop} (h : t ρ P)
    (k : ∀ d v I' H', P d → Stp F.W I H I' H' → Rep K I' v d → R v H') : rdE F K t σ H R :=
  ⟨I, ρ, a, mono ρ _ _ (fun d p v I' H' s r => k d v I' H' p s r) h⟩
theorem rdT_next {t : DB} (mono : ∀ ρ (Q Q' : Bool → Prop), (∀ d, Q d → Q' d) → t ρ Q → t ρ Q') (a : At F K I ρ σ H) {P : Bool → Prop} {R : Bool → Hp → Prop} (h : t ρ P)
    (k : ∀ d I' H', P d → Stp F.W I H I' H' → R d H') : rdT F K t σ H R :=
  ⟨I, ρ, a, mono ρ _ _ (fun d p I' H' s => k d I' H' p s) h⟩
/-- the reading of a PE may be strengthened -/
theorem _root_.L2.PE.imp {e : Expr} {t u : TE} (h : PE X e t) (i : ∀ σ H Q, u σ H Q → t σ H Q) : PE X e u := ⟨fun pins s σ H Q J q => h.run pins s σ H Q J (i σ H Q q)⟩
theorem _root_.L2.PT.imp {e : Expr} {t u : TT} (h : PT X e t) (i : ∀ σ H Q, u σ H Q → t σ H Q) : PT X e u := ⟨fun pins s σ H Q J q => h.run pins s σ H Q J (i σ H Q q)⟩
theorem _root_.L2.PS.imp {e : Stmt} {t u : TS} (h : PS X e t) (i : ∀ D σ H, u D σ H → t D σ H) : PS X e u := ⟨fun pins s σ H Q J q => h.run pins s σ H Q J (i Q σ H q)⟩
theorem _root_.L2.PSs.imp {e : List Stmt} {t u : TS} (h : PSs X e t) (i : ∀ D σ H, u D σ H → t D σ H) : PSs X e u := ⟨fun pins s σ H Q J q => h.run pins s σ H Q J (i Q σ H q)⟩
theorem _root_.L2.PA.imp {e : List Expr} {t u : TA} (h : PA X e t) (i : ∀ σ H Q, u σ H Q → t σ H Q) : PA X e u := ⟨fun pos pins s σ H Q J q => h.run pos pins s σ H Q J (i σ H Q q)⟩
end
def getD (ρ : DEnv) (i : Nat) (Q : D → Prop) : Prop := ∃ d, ρ[i]? = some (some (.dat d)) ∧ Q d
section
variable {F : Fx} {X : Cx}
theorem de_name (i : Nat) {x : Str} {pos : Pos} (hN : X.N[i]? = some x := by rfl) (hv : Vis X.env.scope x := by first | exact Or.inl rfl | exact Or.inr (Or.inl rfl) | exact Or.inr (Or.inr rfl)) (hd : (x == ("__debug__" : Str)) = false := by decide)
    (hcd : (x == ("__classdict__" : Str)) = false := by decide) : DE F X (.Name x pos) (fun ρ Q => getD ρ i Q) := by
  refine ⟨fun ρ Q Q' h ⟨d, e, q⟩ => ⟨d, e, h d q⟩, (pv i hN hv hd hcd).imp fun σ H Q ⟨I, ρ, a, d, e, q⟩ => ?_⟩
  obtain ⟨v, h1, h2⟩ := a.env i _ e
  exact ⟨v, h1, q v I H a.st.stp h2.dat⟩
theorem de_const {e : Expr} {v : V} {d : D} (h : PE X e (tC v)) (r : ∀ I, Rep X.K I v d) : DE F X e (fun _ Q => Q d) :=
  ⟨fun _ _ _ h q => h _ q, h.imp fun σ H Q ⟨I, ρ, a, q⟩ => q v I H a.st.stp (r I)⟩
theorem de_int {i : Int} {j : Nat} {pos : Pos} : DE F X (.Constant (.int i) j pos) (fun _ Q => Q (.int i)) := de_const pe_int fun _ => .int i
theorem de_bl {i : Bool} {j : Nat} {pos : Pos} : DE F X (.Constant (.bool i) j pos) (fun _ Q => Q (.bl i)) := de_const pe_bl fun _ => .bl i
theorem de_str {x : Str} {j : Nat} {pos : Pos} : DE F X (.Constant (.str x) j pos) (fun _ Q => Q (.str x)) := de_const pe_str fun _ => .str x
/-- a module's constant -/
theorem de_gstr {x : Str} {y : Str} {u : Value} {pos : Pos} (hg : Gl X x) (hm : X.mg x = some u) (r : RelV (.str y) u) (hd : (x == ("__debug__" : Str)) = false := by decide) : DE F X (.Name x pos) (fun _ Q => Q (.str y)) :=
  de_const (pe_glob hg hm r hd) fun _ => .str y
theorem de_gint {x : Str} {y : Int} {u : Value} {pos : Pos} (hg : Gl X x) (hm : X.mg x = some u) (r : RelV (.int y) u) (hd : (x == ("__debug__" : Str)) = false := by decide) : DE F X (.Name x pos) (fun _ Q => Q (.int y)) :=
  de_const (pe_glob hg hm r hd) fun _ => .int y
end
end Dk
namespace Dk
open PySem L2
mutual
def toPy : D → PyData
  | .bl b => .bool b
  | .int i => .int i
  | .str x => .str x
  | .tup xs => .tuple (toPys xs)
  | .lst xs => .list (toPys xs)
  | .non => .none
  | .dic _ => .none
  | .obj _ _ => .none
  | .opq _ => .none
  | .ptp _ => .none
  | .dfz _ => .none
def toPys : List D → List PyData
  | [] => []
  | d :: ds => toPy d :: toPys ds
end
def keyD : Key → D
  | .inl i => .int i
  | .inr x => .str x
theorem keyD_rep {K : PySem.W.Frag} {I : Hp} {v : V} {k : Key} (r : Rep K I v (keyD k)) : v = kV k := by
  cases k <;> (cases r; rfl)
def lookD (kvs : List (Key × D)) (k : Key) : Option D := (kvs.find? fun kv => decide (kv.1 = k)).map (·.2)
theorem lookD_rep {K : PySem.W.Frag} {I : Hp} {k : Key} : ∀ {kvs : List (Key × V)} {ds : List (Key × D)}, kvs.map (·.1) = ds.map (·.1) → Reps K I (kvs.map (·.2)) (ds.map (·.2)) → (valV kvs k = none ∧ lookD ds k = none) ∨ ∃ v d, valV kvs k = some v ∧ lookD ds k = some d ∧ Rep K I v d
  | [], [], _, _ => .inl ⟨rfl, rfl⟩
  | [], _ :: _, h, _ => by simp at h
  | _ :: _, [], h, _ => by simp at h
  | (i, x) :: kvs, (j, y) :: ds, h, r => by
    simp only [List.map_cons, List.cons.injEq] at h
    obtain ⟨rfl, h⟩ := h
    cases r with
    | cons r1 r2 =>
      by_cases e : i = k
      · exact .inr ⟨x, y, by simp [valV, List.find?_cons, e], by simp [lookD, List.find?_cons, e], r1⟩
      · have e1 : valV ((i, x) :: kvs) k = valV kvs k := by simp [valV, List.find?_cons, e]
        have e2 : lookD ((i, y) :: ds) k = lookD ds k := by simp [lookD, List.find?_cons, e]
        rw [e1, e2]
        exact lookD_rep h r2
mutual
/-- nothing but none, truths, numbers, texts, tuples, lists -/
def plainD : D → Bool
  | .non | .bl _ | .int _ | .str _ => true
  | .tup xs => plainDs xs
  | .lst xs => plainDs xs
  | .dic _ => false
  | .obj _ _ => false
  | .opq _ => false
  | .ptp _ => false
  | .dfz _ => false
def plainDs : List D → Bool
  | [] => true
  | d :: ds => plainD d && plainDs ds
end
def deq (x y : D) : Bool := PyData.eqv (toPy x) (toPy y)
def okE (x : D) : Bool := plainD x && SeqAt.shaped (toPy x)
def scalD : D → Bool
  | .non | .bl _ | .int _ | .str _ => true
  | _ => false
mutual
theorem Rep.dp {K : PySem.W.Frag} {I H : Hp} (s : Same I H) : ∀ {d : D} {v : V}, plainD d = true → Rep K I v d → Dp K H v (toPy d)
  | .non, _, _, h => by cases h; exact .non
  | .bl b, _, _, h => by cases h; exact .bl b
  | .int i, _, _, h => by cases h; exact .int i
  | .str x, _, _, h => by cases h; exact .str x
  | .tup xs, _, p, h => by
    cases h with
    | tup a r => exact .tup (Same.seqT s a) (Reps.dp s (by unfold plainD at p; exact p) r)
  | .lst xs, _, p, h => by
    cases h with
    | lst a r => exact .lst (.of (s _ _ a)) (Reps.dp s (by unfold plainD at p; exact p) r)
  | .dic _, _, p, h => by unfold plainD at p; cases p
  | .obj _ _, _, p, h => by unfold plainD at p; cases p
  | .opq _, _, p, h => by unfold plainD at p; cases p
  | .ptp _, _, p, h => by unfold plainD at p; cases p
  | .dfz _, _, p, h => by unfold plainD at p; cases p
theorem Reps.dp {K : PySem.W.Frag} {I H : Hp} (s : Same I H) : ∀ {ds : List D} {vs : List V}, plainDs ds = true → Reps K I vs ds → DpAll K H vs (toPys ds)
  | [], _, _, h => by cases h; exact .nil
  | d :: ds, _, p, h => by
    cases h with
    | cons a b =>
      unfold plainDs at p
      rw [Bool.and_eq_true] at p
      exact .cons (Rep.dp s p.1 a) (Reps.dp s p.2 b)
end
/-- a truth beside a number -/
def mixD : D → D → Bool
  | .bl _, .int _ => true
  | .int _, .bl _ => true
  | _, _ => false
theorem scal_of {K : PySem.W.Frag} {I : Hp} {v w : V} {d e : D} (h : Rep K I v d) (h' : Rep K I w e) (s : scalD d = true) (s' : scalD e = true) (m : mixD d e = false) : scal v w = true ∧ decide (v = w) = deq d e := by
  cases h with
  | tup _ _ => cases s
  | lst _ _ => cases s
  | dic _ _ _ => cases s
  | obj _ _ _ => cases s
  | opq _ => cases s
  | dfz _ _ _ => cases s
  | ptp _ _ _ => cases s
  | non => cases h' <;> first | (cases s'; done) | exact ⟨rfl, rfl⟩
  | bl b => cases h' <;> first | (cases s'; done) | (cases m; done) | exact ⟨rfl, dec_bl⟩ | exact ⟨rfl, rfl⟩
  | int b => cases h' <;> first | (cases s'; done) | (cases m; done) | exact ⟨rfl, dec_int⟩ | exact ⟨rfl, rfl⟩
  | str b => cases h' <;> first | (cases s'; done) | exact ⟨rfl, dec_str⟩ | exact ⟨rfl, rfl⟩
def LiftR (F : Fx) (K : PySem.W.Frag) (R : R2) (r : D → D → (D → Prop) → Prop) : Prop :=
  ∀ (x y : V) (dx dy : D) (I H : Hp) (Q : VK), StI F.W I H → Rep K I x dx → Rep K I y dy → r dx dy (fin F K I H Q) → R x y H Q
abbrev Mono2 (r : D → D → (D → Prop) → Prop) : Prop := ∀ x y (Q Q' : D → Prop), (∀ d, Q d → Q' d) → r x y Q → r x y Q'
abbrev MonoN (r : List D → (D → Prop) → Prop) : Prop := ∀ x (Q Q' : D → Prop), (∀ d, Q d → Q' d) → r x Q → r x Q'
section
variable {F : Fx} {X : Cx} {K : PySem.W.Frag} {I H I' H' : Hp} {Q : VK} {a b c : Expr} {ta tb tc : DT} {pos : Pos} {R : R2} {r : D → D → (D → Prop) → Prop}
theorem fin.of (q : fin F K I H Q d) (s : Stp F.W I H I' H') : fin F K I' H' Q d := fun v I2 H2 s2 rv => q v I2 H2 (s.trans s2) rv
theorem two_run (mr : Mono2 r) (l : LiftR F X.K R r) (ha : DE F X a ta) (hb : DE F X b tb) {σ : St} (h : rdE F X.K (fun ρ Q => ta ρ fun x => tb ρ fun y => r x y Q) σ H Q) : tOp R (rdE F X.K ta) (rdE F X.K tb) σ H Q := by
  obtain ⟨I, ρ, A, h⟩ := h
  refine rdE_next ha.mono A h fun d v I' H' p s rv => ?_
  refine rdE_next hb.mono (A.step s) p fun e u I2 H2 q s2 ru => ?_
  exact l v u d e I2 H2 Q s2.st (rv.mono s2.i) ru (mr _ _ _ _ (fun z hz => hz.of (s.trans s2)) q)
theorem two_mono (mr : Mono2 r) (ha : DE F X a ta) (hb : DE F X b tb) : ∀ ρ (Q Q' : D → Prop), (∀ d, Q d → Q' d) → (ta ρ fun x => tb ρ fun y => r x y Q) → (ta ρ fun x => tb ρ fun y => r x y Q') :=
  fun ρ Q Q' k h => ha.mono _ _ _ (fun d h => hb.mono _ _ _ (fun e h => mr _ _ _ _ k h) h) h
theorem de_op {op : Operator} (mr : Mono2 r) (ho : OpR X (binaryOp op) R) (l : LiftR F X.K R r) (ha : DE F X a ta) (hb : DE F X b tb) : DE F X (.BinOp a op b pos) (fun ρ Q => ta ρ fun x => tb ρ fun y => r x y Q) :=
  ⟨two_mono mr ha hb, (pe_op ho ha.run hb.run).imp fun σ H Q h => two_run mr l ha hb h⟩
theorem de_cmp {op : CmpOp} (mr : Mono2 r) (ho : OpR X (compareOp op) R) (l : LiftR F X.K R r) (ha : DE F X a ta) (hb : DE F X b tb) (hm : behindInMarks op b = false) : DE F X (.Compare a [op] [b] pos) (fun ρ Q => ta ρ fun x => tb ρ fun y => r x y Q) :=
  ⟨two_mono mr ha hb, (pe_cmpR ho ha.run hb.run hm).imp fun σ H Q h => two_run mr l ha hb h⟩
theorem de_ix (mr : Mono2 r) (ho : IxR X R) (l : LiftR F X.K R r) (ha : DE F X a ta) (hb : DE F X b tb) (hs : PlainIx b := by exact fun _ _ => rfl) : DE F X (.Subscript a b pos) (fun ρ Q => ta ρ fun x => tb ρ fun y => r x y Q) :=
  ⟨two_mono mr ha hb, (pe_ix ho ha.run hb.run hs).imp fun σ H Q h => two_run mr l ha hb h⟩
def boolD (d : D) (Q : Bool → Prop) : Prop := ∃ b, d = .bl b ∧ Q b
theorem boolD.mono {d : D} {Q Q' : Bool → Prop} (k : ∀ b, Q b → Q' b) : boolD d Q → boolD d Q' := fun ⟨b, e, q⟩ => ⟨b, e, k b q⟩
theorem dt_cmp {op : CmpOp} (mr : Mono2 r) (ho : OpR X (compareOp op) R) (l : LiftR F X.K R r) (ha : DE F X a ta) (hb : DE F X b tb) (hm : behindInMarks op b = false) : DTest F X (.Compare a [op] [b] pos) (fun ρ Q => ta ρ fun x => tb ρ fun y => r x y fun z => boolD z Q) := by
  refine ⟨fun ρ Q Q' k h => two_mono mr ha hb _ _ _ (fun d => boolD.mono k) h, (pt_cmpR ho ha.run hb.run hm).imp fun σ H Q ⟨I, ρ, A, h⟩ => ?_⟩
  refine two_run mr l ha hb ⟨I, ρ, A, two_mono mr ha hb _ _ _ (fun d hd => ?_) h⟩
  obtain ⟨b, rfl, q⟩ := hd
  intro v I' H' s rv
  cases rv
  exact ⟨b, rfl, q I' H' s⟩
theorem dt_val (ha : DE F X a ta) (he : ∀ whole, isTrue a X.env whole = (do let v ← whole; standAt a.pos; holding [v] (truthy v)) := by intro _; rfl) : DTest F X a (fun ρ Q => ta ρ fun d => boolD d Q) := by
  refine ⟨fun ρ Q Q' k h => ha.mono _ _ _ (fun d => boolD.mono k) h, (pt_val ha.run he).imp fun σ H Q ⟨I, ρ, A, h⟩ => ?_⟩
  refine rdE_next ha.mono A h fun d v I' H' p s rv => ?_
  obtain ⟨b, rfl, q⟩ := p
  cases rv
  exact ⟨b, rfl, q I' H' s⟩
end
structure DWh (F : Fx) (X : Cx) (e : Expr) (t : DB) : Prop where
  mono : ∀ ρ (Q Q' : Bool → Prop), (∀ d, Q d → Q' d) → t ρ Q → t ρ Q'
  run : PW X e (rdT F X.K t)
section
variable {F : Fx} {X : Cx} {K : PySem.W.Frag} {I H I' H' : Hp} {a b c : Expr} {ta tb tc : DB} {va vb vc : DT} {pos : Pos} {rest : List Expr}
theorem _root_.L2.PW.imp {e : Expr} {t u : TT} (h : PW X e t) (i : ∀ σ H Q, u σ H Q → t σ H Q) : PW X e u := ⟨fun w pins s σ H Q J q => h.run w pins s σ H Q J (i σ H Q q)⟩
theorem finB.of {Q : Bool → Hp → Prop} {d : Bool} (q : finB F I H Q d) (s : Stp F.W I H I' H') : finB F I' H' Q d := fun I2 H2 s2 => q I2 H2 (s.trans s2)
theorem dt_wh (h : DWh F X a ta) : DTest F X a ta := ⟨h.mono, h.run.pt⟩
theorem dt_not (h : DTest F X a ta) : DTest F X (.UnaryOp .Not a pos) (fun ρ Q => ta ρ fun b => Q (!b)) := by
  refine ⟨fun ρ Q Q' k q => h.mono _ _ _ (fun b => k _) q, (pt_not h.run).imp fun σ H Q ⟨I, ρ, A, q⟩ => ?_⟩
  exact rdT_next h.mono A q fun d I' H' p s => p I' H' s
theorem dw_and1 (h : DTest F X a ta) : DWh F X (.BoolOp .And [a] pos) ta := ⟨h.mono, pw_and1 h.run⟩
theorem dw_or1 (h : DTest F X a ta) : DWh F X (.BoolOp .Or [a] pos) ta := ⟨h.mono, pw_or1 h.run⟩
theorem dw_and (h : DTest F X a ta) (h' : DWh F X (.BoolOp .And (b :: rest) pos) tb) : DWh F X (.BoolOp .And (a :: b :: rest) pos) (fun ρ Q => ta ρ fun x => if x = true then tb ρ Q else Q false) := by
  refine ⟨fun ρ Q Q' k q => h.mono _ _ _ (fun b q => ?_) q, (pw_and h.run h'.run).imp fun σ H Q ⟨I, ρ, A, q⟩ => ?_⟩
  · cases b
    · exact k _ q
    · exact h'.mono _ _ _ k q
  · refine rdT_next h.mono A q fun d I' H' p s => ?_
    cases d
    · exact p I' H' s
    · exact rdT_next h'.mono (A.step s) p fun d I2 H2 p s2 => p I2 H2 (s.trans s2)
theorem dw_or (h : DTest F X a ta) (h' : DWh F X (.BoolOp .Or (b :: rest) pos) tb) : DWh F X (.BoolOp .Or (a :: b :: rest) pos) (fun ρ Q => ta ρ fun x => if x = true then Q true else tb ρ Q) := by
  refine ⟨fun ρ Q Q' k q => h.mono _ _ _ (fun b q => ?_) q, (pw_or h.run h'.run).imp fun σ H Q ⟨I, ρ, A, q⟩ => ?_⟩
  · cases b
    · exact h'.mono _ _ _ k q
    · exact k _ q
  · refine rdT_next h.mono A q fun d I' H' p s => ?_
    cases d
    · exact rdT_next h'.mono (A.step s) p fun d I2 H2 p s2 => p I2 H2 (s.trans s2)
    · exact p I' H' s
/-- .. as values -/
theorem de_one {op : BoolOp} (h : DE F X a va) : DE F X (.BoolOp op [a] pos) va := ⟨h.mono, pe_one h.run⟩
theorem de_and (h : DE F X a va) (h' : DE F X (.BoolOp .And (b :: rest) pos) vb) : DE F X (.BoolOp .And (a :: b :: rest) pos) (fun ρ Q => va ρ fun x => boolD x fun k => if k = true then vb ρ Q else Q (.bl false)) := by
  refine ⟨fun ρ Q Q' k q => h.mono _ _ _ (fun b => boolD.mono fun b q => ?_) q, (pe_and h.run h'.run).imp fun σ H Q ⟨I, ρ, A, q⟩ => ?_⟩
  · cases b
    · exact k _ q
    · exact h'.mono _ _ _ k q
  · refine rdE_next h.mono A q fun d v I' H' p s rv => ?_
    obtain ⟨b, rfl, p⟩ := p
    cases rv
    refine ⟨b, rfl, ?_⟩
    cases b
    · exact p _ I' H' s (.bl false)
    · exact rdE_next h'.mono (A.step s) p fun d v I2 H2 p s2 r2 => p v I2 H2 (s.trans s2) r2
theorem de_or (h : DE F X a va) (h' : DE F X (.BoolOp .Or (b :: rest) pos) vb) : DE F X (.BoolOp .Or (a :: b :: rest) pos) (fun ρ Q => va ρ fun x => boolD x fun k => if k = true then Q (.bl true) else vb ρ Q) := by
  refine ⟨fun ρ Q Q' k q => h.mono _ _ _ (fun b => boolD.mono fun b q => ?_) q, (pe_or h.run h'.run).imp fun σ H Q ⟨I, ρ, A, q⟩ => ?_⟩
  · cases b
    · exact h'.mono _ _ _ k q
    · exact k _ q
  · refine rdE_next h.mono A q fun d v I' H' p s rv => ?_
    obtain ⟨b, rfl, p⟩ := p
    cases rv
    refine ⟨b, rfl, ?_⟩
    cases b
    · exact rdE_next h'.mono (A.step s) p fun d v I2 H2 p s2 r2 => p v I2 H2 (s.trans s2) r2
    · exact p _ I' H' s (.bl true)
theorem de_if (hc : DTest F X c tc) (h : DE F X a va) (h' : DE F X b vb) : DE F X (.IfExp c a b pos) (fun ρ Q => tc ρ fun k => if k = true then va ρ Q else vb ρ Q) := by
  refine ⟨fun ρ Q Q' k q => hc.mono _ _ _ (fun b q => ?_) q, (pe_ifExp hc.run h.run h'.run).imp fun σ H Q ⟨I, ρ, A, q⟩ => ?_⟩
  · cases b
    · exact h'.mono _ _ _ k q
    · exact h.mono _ _ _ k q
  · refine rdT_next hc.mono A q fun d I' H' p s => ?_
    cases d
    · exact rdE_next h'.mono (A.step s) p fun d v I2 H2 p s2 r2 => p v I2 H2 (s.trans s2) r2
    · exact rdE_next h.mono (A.step s) p fun d v I2 H2 p s2 r2 => p v I2 H2 (s.trans s2) r2
end
abbrev DAT := DEnv → (List D → Prop) → Prop
def finA (F : Fx) (K : PySem.W.Frag) (I H : Hp) (Q : List V → Hp → Prop) : List D → Prop := fun ds => ∀ vs I' H', Stp F.W I H I' H' → Reps K I' vs ds → Q vs H'
def rdA (F : Fx) (K : PySem.W.Frag) (t : DAT) : TA := fun σ H Q => ∃ I ρ, At F K I ρ σ H ∧ t ρ (finA F K I H Q)
structure DA (F : Fx) (X : Cx) (es : List Expr) (t : DAT) : Prop where
  mono : ∀ ρ (Q Q' : List D → Prop), (∀ d, Q d → Q' d) → t ρ Q → t ρ Q'
  run : PA X es (rdA F X.K t)
section
variable {F : Fx} {X : Cx} {K : PySem.W.Frag} {I H : Hp} {ρ : DEnv} {σ : St} {e : Expr} {es : List Expr} {te : DT} {t : DAT} {pos : Pos}
theorem rdA_next (mono : ∀ ρ (Q Q' : List D → Prop), (∀ d, Q d → Q' d) → t ρ Q → t ρ Q') (a : At F K I ρ σ H) {P : List D → Prop} {R : List V → Hp → Prop} (h : t ρ P)
    (k : ∀ d v I' H', P d → Stp F.W I H I' H' → Reps K I' v d → R v H') : rdA F K t σ H R :=
  ⟨I, ρ, a, mono ρ _ _ (fun d p v I' H' s r => k d v I' H' p s r) h⟩
theorem da_nil : DA F X [] (fun _ Q => Q []) := ⟨fun _ _ _ k q => k _ q, pa_nil.imp fun σ H Q ⟨I, ρ, A, q⟩ => q [] I H A.st.stp .nil⟩
theorem da_cons (h : DE F X e te) (h' : DA F X es t) (hs : starEach (e :: es) X.env = (false, eval e X.env) :: starEach es X.env := by rfl) : DA F X (e :: es) (fun ρ Q => te ρ fun d => t ρ fun ds => Q (d :: ds)) := by
  refine ⟨fun ρ Q Q' k q => h.mono _ _ _ (fun d q => h'.mono _ _ _ (fun ds => k _) q) q, (pa_cons h.run h'.run hs).imp fun σ H Q ⟨I, ρ, A, q⟩ => ?_⟩
  refine rdE_next h.mono A q fun d v I' H' p s rv => ?_
  exact rdA_next h'.mono (A.step s) p fun ds vs I2 H2 p s2 rs => p (v :: vs) I2 H2 (s.trans s2) (.cons (rv.mono s2.i) rs)
theorem de_tup {x1} (h : DA F X es t) : DE F X (.Tuple es x1 pos) (fun ρ Q => t ρ fun ds => ds.length ≤ sizeLine ∧ Q (.tup ds)) := by
  refine ⟨fun ρ Q Q' k q => h.mono _ _ _ (fun d q => ⟨q.1, k _ q.2⟩) q, (pe_tup h.run).imp fun σ H Q ⟨I, ρ, A, q⟩ => ?_⟩
  refine rdA_next h.mono A q fun ds vs I' H' p s rs => ⟨rs.length ▸ p.1, fun a ha => ?_⟩
  have l := s.st.laid ha (.tup vs)
  exact p.2 _ _ _ (s.trans l) (.tup (.of upd_same) (rs.mono l.i))
theorem de_lst (h : DA F X es t) : DE F X (.List es pos) (fun ρ Q => t ρ fun ds => ds.length ≤ sizeLine ∧ Q (.lst ds)) := by
  refine ⟨fun ρ Q Q' k q => h.mono _ _ _ (fun d q => ⟨q.1, k _ q.2⟩) q, (pe_lst h.run).imp fun σ H Q ⟨I, ρ, A, q⟩ => ?_⟩
  refine rdA_next h.mono A q fun ds vs I' H' p s rs => ⟨rs.length ▸ p.1, fun a ha => ?_⟩
  have l := s.st.laid ha (.lst vs)
  exact p.2 _ _ _ (s.trans l) (.lst upd_same (rs.mono l.i))
end
def addD : D → D → (D → Prop) → Prop
  | .int i, .int j, Q => Q (.int (i + j))
  | .str x, .str y, Q => x.length + y.length ≤ sizeLine ∧ Q (.str (x ++ y))
  | .lst x, .lst y, Q => x.length + y.length ≤ sizeLine ∧ Q (.lst (x ++ y))
  | .tup x, .tup y, Q => x.length + y.length ≤ sizeLine ∧ Q (.tup (x ++ y))
  | _, _, _ => False
def subD : D → D → (D → Prop) → Prop
  | .int i, .int j, Q => Q (.int (i - j))
  | _, _, _ => False
def mulD : D → D → (D → Prop) → Prop
  | .int i, .int j, Q => CMul i j ∧ Q (.int (i * j))
  | .lst xs, .int k, Q => -(2 ^ 63) ≤ k ∧ k < 2 ^ 63 ∧ xs.length * k.toNat ≤ sizeLine ∧ Q (.lst (List.replicate k.toNat xs).flatten)
  | _, _, _ => False
def modD : D → D → (D → Prop) → Prop
  | .int i, .int j, Q => 0 < j ∧ Q (.int (i % j))
  | _, _, _ => False
def powD : D → D → (D → Prop) → Prop
  | .int i, .int j, Q => CPow i j ∧ Q (.int (i ^ j.toNat))
  | _, _, _ => False
def ltD : D → D → (D → Prop) → Prop
  | .int i, .int j, Q => Q (.bl (decide (i < j)))
  | .str x, .str y, Q => Q (.bl (decide (x.cps.toList < y.cps.toList)))
  | _, _, _ => False
def leD : D → D → (D → Prop) → Prop
  | .int i, .int j, Q => Q (.bl (decide (i ≤ j)))
  | .str x, .str y, Q => Q (.bl (!decide (y.cps.toList < x.cps.toList)))
  | _, _, _ => False
def gtD : D → D → (D → Prop) → Prop
  | .int i, .int j, Q => Q (.bl (decide (j < i)))
  | .str x, .str y, Q => Q (.bl (decide (y.cps.toList < x.cps.toList)))
  | _, _, _ => False
def geD : D → D → (D → Prop) → Prop
  | .int i, .int j, Q => Q (.bl (decide (j ≤ i)))
  | .str x, .str y, Q => Q (.bl (!decide (x.cps.toList < y.cps.toList)))
  | _, _, _ => False
/-- may be compared -/
def canEq (x y : D) : Bool :=
  (scalD x && scalD y && !mixD x y) || (okE x && okE y)
def eqD (x y : D) (Q : D → Prop) : Prop := canEq x y = true ∧ Q (.bl (deq x y))
def neD (x y : D) (Q : D → Prop) : Prop := canEq x y = true ∧ Q (.bl (!deq x y))
section
variable {F : Fx} {X : Cx} {K : PySem.W.Frag}
theorem mono_add : Mono2 addD := by
  intro x y Q Q' k h
  cases x <;> cases y <;> first | exact h.elim | exact k _ h | exact ⟨h.1, k _ h.2⟩
theorem mono_sub : Mono2 subD := by
  intro x y Q Q' k h
  cases x <;> cases y <;> first | exact h.elim | exact k _ h | exact ⟨h.1, k _ h.2⟩
theorem mono_mul : Mono2 mulD := by
  intro x y Q Q' k h
  cases x <;> cases y <;> first | exact h.elim | exact k _ h | exact ⟨h.1, k _ h.2⟩ | exact ⟨h.1, h.2.1, h.2.2.1, k _ h.2.2.2⟩
theorem mono_mod : Mono2 modD := by
  intro x y Q Q' k h
  cases x <;> cases y <;> first | exact h.elim | exact k _ h | exact ⟨h.1, k _ h.2⟩
theorem mono_pow : Mono2 powD := by
  intro x y Q Q' k h
  cases x <;> cases y <;> first | exact h.elim | exact k _ h | exact ⟨h.1, k _ h.2⟩
theorem mono_lt : Mono2 ltD := by
  intro x y Q Q' k h
  cases x <;> cases y <;> first | exact h.elim | exact k _ h
theorem mono_le : Mono2 leD := by
  intro x y Q Q' k h
  cases x <;> cases y <;> first | exact h.elim | exact k _ h
theorem mono_gt : Mono2 gtD := by
  intro x y Q Q' k h
  cases x <;> cases y <;> first | exact h.elim | exact k _ h
theorem mono_ge : Mono2 geD := by
  intro x y Q Q' k h
  cases x <;> cases y <;> first | exact h.elim | exact k _ h
theorem mono_eq : Mono2 eqD := fun x y Q Q' k h => ⟨h.1, k _ h.2⟩
theorem mono_ne : Mono2 neD := fun x y Q Q' k h => ⟨h.1, k _ h.2⟩
/-- + -/
def RAdd (K : PySem.W.Frag) : R2 := fun x y H Q => rI0 (fun i j => .int (i + j)) x y H Q ∨ (∃ i j, x = .str i ∧ y = .str j ∧ i.length + j.length ≤ sizeLine ∧ Q (.str (i ++ j)) H) ∨ rCat x y H Q ∨ rCatA K x y H Q
theorem or_add : OpR X (binaryOp .Add) (RAdd X.K) := op_add.or (op_add_str.or (op_cat.or op_catA))
theorem lf_add : LiftR F K (RAdd K) addD := by
  intro x y dx dy I H Q st rx ry h
  cases dx <;> cases dy <;> first | exact h.elim | skip
  · cases rx; cases ry
    exact .inl ⟨_, _, rfl, rfl, h _ I H st.stp (.int _)⟩
  · cases rx; cases ry
    exact .inr (.inl ⟨_, _, rfl, rfl, h.1, h.2 _ I H st.stp (.str _)⟩)
  · cases rx with
    | tup a r =>
      cases ry with
      | tup a' r' =>
        rename_i xs ys p vs q ws
        refine .inr (.inr (.inr ⟨p, q, vs, ws, rfl, rfl, Same.seqT st.sub a, Same.seqT st.sub a', by rw [r.length, r'.length]; exact h.1, fun e => ?_, fun e e' => ?_, fun e e' z hz => ?_⟩))
        · subst e
          cases r
          exact h.2 _ I H st.stp (.tup a' (by simpa using r'))
        · subst e'
          cases r'
          exact h.2 _ I H st.stp (.tup a (by simpa using r))
        · have l := st.laid hz (.tup (vs ++ ws))
          exact h.2 _ _ _ l (.tup (.of upd_same) ((r.append r').mono l.i))
  · cases rx with
    | lst a r =>
      cases ry with
      | lst a' r' =>
        rename_i xs ys p vs q ws
        refine .inr (.inr (.inl ⟨p, q, vs, ws, rfl, rfl, st.sub _ _ a, st.sub _ _ a', by rw [r.length, r'.length]; exact h.1, fun z hz => ?_⟩))
        have l := st.laid hz (.lst (vs ++ ws))
        exact h.2 _ _ _ l (.lst upd_same ((r.append r').mono l.i))
theorem lf_int {R : R2} {r : D → D → (D → Prop) → Prop} {C : Int → Int → Prop} {g : Int → Int → Int} (hR : R = rI C fun i j => .int (g i j)) (hr : ∀ x y Q, r x y Q → ∃ i j, x = .int i ∧ y = .int j ∧ C i j ∧ Q (.int (g i j))) : LiftR F K R r := by
  intro x y dx dy I H Q st rx ry h
  obtain ⟨i, j, rfl, rfl, c, q⟩ := hr _ _ _ h
  cases rx; cases ry
  rw [hR]
  exact ⟨i, j, rfl, rfl, c, q _ I H st.stp (.int _)⟩
theorem lf_sub : LiftR F K (rI0 fun i j => .int (i - j)) subD := by
  intro x y dx dy I H Q st rx ry h
  cases dx <;> cases dy <;> first | exact h.elim | skip
  cases rx; cases ry
  exact ⟨_, _, rfl, rfl, h _ I H st.stp (.int _)⟩
theorem lf_mod : LiftR F K (rI (fun _ j => 0 < j) fun i j => .int (i % j)) modD := lf_int (C := fun _ j => 0 < j) (g := fun i j => i % j) rfl fun x y Q h => by
  cases x <;> cases y <;> first | exact h.elim | exact ⟨_, _, rfl, rfl, h.1, h.2⟩
theorem lf_pow : LiftR F K (rI CPow fun i j => .int (i ^ j.toNat)) powD := lf_int (C := CPow) (g := fun i j => i ^ j.toNat) rfl fun x y Q h => by
  cases x <;> cases y <;> first | exact h.elim | exact ⟨_, _, rfl, rfl, h.1, h.2⟩
theorem Reps.rep {I : Hp} {vs : List V} {ds : List D} (h : Reps K I vs ds) : ∀ n : Nat, Reps K I (List.replicate n vs).flatten (List.replicate n ds).flatten
  | 0 => .nil
  | n + 1 => by rw [List.replicate_succ, List.replicate_succ, List.flatten_cons, List.flatten_cons]; exact h.append (Reps.rep h n)
def RMul : R2 := fun x y H Q => rI CMul (fun i j => .int (i * j)) x y H Q ∨ rRep x y H Q
theorem or_mul : OpR X (binaryOp .Mult) RMul := op_mul.or op_rep
theorem lf_mul : LiftR F K RMul mulD := by
  intro x y dx dy I H Q st rx ry h
  cases dx <;> cases dy <;> first | exact h.elim | skip
  · cases rx; cases ry
    exact .inl ⟨_, _, rfl, rfl, h.1, h.2 _ I H st.stp (.int _)⟩
  · cases ry
    cases rx with
    | lst a r =>
      rename_i xs k p vs
      refine .inr ⟨p, k, vs, rfl, rfl, st.sub _ _ a, h.1, h.2.1, by rw [r.length]; exact h.2.2.1, fun z hz => ?_⟩
      have l := st.laid hz (.lst (List.replicate k.toNat vs).flatten)
      exact h.2.2.2 _ _ _ l (.lst upd_same ((r.rep _).mono l.i))
/-- comparisons -/
theorem lf_cmp {R : R2} {r : D → D → (D → Prop) → Prop} {g : Int → Int → Bool} {g' : Str → Str → Bool} (hR : R = fun x y H Q => rI0 (fun i j => .bl (g i j)) x y H Q ∨ ∃ i j, x = .str i ∧ y = .str j ∧ Q (.bl (g' i j)) H)
    (hr : ∀ x y Q, r x y Q → (∃ i j, x = .int i ∧ y = .int j ∧ Q (.bl (g i j))) ∨ ∃ i j, x = .str i ∧ y = .str j ∧ Q (.bl (g' i j))) : LiftR F K R r := by
  intro x y dx dy I H Q st rx ry h
  rw [hR]
  rcases hr _ _ _ h with ⟨i, j, rfl, rfl, q⟩ | ⟨i, j, rfl, rfl, q⟩
  · cases rx; cases ry
    exact .inl ⟨i, j, rfl, rfl, q _ I H st.stp (.bl _)⟩
  · cases rx; cases ry
    exact .inr ⟨i, j, rfl, rfl, q _ I H st.stp (.bl _)⟩
def RLt : R2 := fun x y H Q => rI0 (fun i j => .bl (decide (i < j))) x y H Q ∨ ∃ i j, x = .str i ∧ y = .str j ∧ Q (.bl (decide (i.cps.toList < j.cps.toList))) H
def RLe : R2 := fun x y H Q => rI0 (fun i j => .bl (decide (i ≤ j))) x y H Q ∨ ∃ i j, x = .str i ∧ y = .str j ∧ Q (.bl (!decide (j.cps.toList < i.cps.toList))) H
def RGt : R2 := fun x y H Q => rI0 (fun i j => .bl (decide (j < i))) x y H Q ∨ ∃ i j, x = .str i ∧ y = .str j ∧ Q (.bl (decide (j.cps.toList < i.cps.toList))) H
def RGe : R2 := fun x y H Q => rI0 (fun i j => .bl (decide (j ≤ i))) x y H Q ∨ ∃ i j, x = .str i ∧ y = .str j ∧ Q (.bl (!decide (i.cps.toList < j.cps.toList))) H
theorem or_lt : OpR X (compareOp .Lt) RLt := op_lt.or op_lt_str
theorem or_le : OpR X (compareOp .LtE) RLe := op_le.or op_le_str
theorem or_gt : OpR X (compareOp .Gt) RGt := op_gt.or op_gt_str
theorem or_ge : OpR X (compareOp .GtE) RGe := op_ge.or op_ge_str
theorem lf_lt : LiftR F K RLt ltD := lf_cmp rfl fun x y Q h => by cases x <;> cases y <;> first | exact h.elim | exact .inl ⟨_, _, rfl, rfl, h⟩ | exact .inr ⟨_, _, rfl, rfl, h⟩
theorem lf_le : LiftR F K RLe leD := lf_cmp rfl fun x y Q h => by cases x <;> cases y <;> first | exact h.elim | exact .inl ⟨_, _, rfl, rfl, h⟩ | exact .inr ⟨_, _, rfl, rfl, h⟩
theorem lf_gt : LiftR F K RGt gtD := lf_cmp rfl fun x y Q h => by cases x <;> cases y <;> first | exact h.elim | exact .inl ⟨_, _, rfl, rfl, h⟩ | exact .inr ⟨_, _, rfl, rfl, h⟩
theorem lf_ge : LiftR F K RGe geD := lf_cmp rfl fun x y Q h => by cases x <;> cases y <;> first | exact h.elim | exact .inl ⟨_, _, rfl, rfl, h⟩ | exact .inr ⟨_, _, rfl, rfl, h⟩
/-- ==, != -/
def REq (K : PySem.W.Frag) : R2 := fun x y H Q => rEq x y H Q ∨ rEqD K x y H Q
def RNe (K : PySem.W.Frag) : R2 := fun x y H Q => rNe x y H Q ∨ rNeD K x y H Q
theorem or_eq (hu : X.A.units + 64 < cLine) : OpR X (compareOp .Eq) (REq X.K) := op_eq.or (op_eqD hu)
theorem or_ne (hu : X.A.units + 64 < cLine) : OpR X (compareOp .NotEq) (RNe X.K) := op_ne.or (op_neD hu)
theorem can_scal {I : Hp} {x y : V} {dx dy : D} (rx : Rep K I x dx) (ry : Rep K I y dy) (h : canEq x' y' = true) (ex : x' = dx) (ey : y' = dy) : (scal x y = true ∧ decide (x = y) = deq dx dy) ∨ (okE dx = true ∧ okE dy = true) := by
  subst ex ey
  unfold canEq at h
  rw [Bool.or_eq_true] at h
  rcases h with h | h
  · left
    rw [Bool.and_eq_true, Bool.and_eq_true] at h
    obtain ⟨⟨s1, s2⟩, s3⟩ := h
    exact scal_of rx ry s1 s2 (by simpa using s3)
  · rw [Bool.and_eq_true] at h
    exact .inr h
theorem okE_split {d : D} (h : okE d = true) : plainD d = true ∧ SeqAt.shaped (toPy d) = true := by
  unfold okE at h
  rw [Bool.and_eq_true] at h
  exact h
theorem lf_eq : LiftR F K (REq K) eqD := by
  intro x y dx dy I H Q st rx ry h
  rcases can_scal rx ry h.1 rfl rfl with ⟨s, e⟩ | ⟨s, s'⟩
  · exact .inl ⟨s, by rw [e]; exact h.2 _ I H st.stp (.bl _)⟩
  · exact .inr ⟨_, _, rx.dp st.sub (okE_split s).1, ry.dp st.sub (okE_split s').1, (okE_split s).2, (okE_split s').2, h.2 _ I H st.stp (.bl _)⟩
theorem lf_ne : LiftR F K (RNe K) neD := by
  intro x y dx dy I H Q st rx ry h
  rcases can_scal rx ry h.1 rfl rfl with ⟨s, e⟩ | ⟨s, s'⟩
  · exact .inl ⟨s, by rw [e]; exact h.2 _ I H st.stp (.bl _)⟩
  · exact .inr ⟨_, _, rx.dp st.sub (okE_split s).1, ry.dp st.sub (okE_split s').1, (okE_split s).2, (okE_split s').2, h.2 _ I H st.stp (.bl _)⟩
end
section
variable {F : Fx} {X : Cx} {a b c : Expr} {ta tb tc : DT} {pos : Pos}
theorem de_add (ha : DE F X a ta) (hb : DE F X b tb) : DE F X (.BinOp a .Add b pos) (fun ρ Q => ta ρ fun x => tb ρ fun y => addD x y Q) := de_op mono_add or_add lf_add ha hb
theorem de_sub (ha : DE F X a ta) (hb : DE F X b tb) : DE F X (.BinOp a .Sub b pos) (fun ρ Q => ta ρ fun x => tb ρ fun y => subD x y Q) := de_op mono_sub op_sub lf_sub ha hb
theorem de_mul (ha : DE F X a ta) (hb : DE F X b tb) : DE F X (.BinOp a .Mult b pos) (fun ρ Q => ta ρ fun x => tb ρ fun y => mulD x y Q) := de_op mono_mul or_mul lf_mul ha hb
theorem de_mod (ha : DE F X a ta) (hb : DE F X b tb) : DE F X (.BinOp a .Mod b pos) (fun ρ Q => ta ρ fun x => tb ρ fun y => modD x y Q) := de_op mono_mod op_mod lf_mod ha hb
theorem de_pow (ha : DE F X a ta) (hb : DE F X b tb) : DE F X (.BinOp a .Pow b pos) (fun ρ Q => ta ρ fun x => tb ρ fun y => powD x y Q) := de_op mono_pow op_pow lf_pow ha hb
/-- comparisons by their sign -/
inductive Cmp (X : Cx) : CmpOp → R2 → (D → D → (D → Prop) → Prop) → Prop
  | lt : Cmp X .Lt RLt ltD
  | le : Cmp X .LtE RLe leD
  | gt : Cmp X .Gt RGt gtD
  | ge : Cmp X .GtE RGe geD
  | eq (hu : X.A.units + 64 < cLine) : Cmp X .Eq (REq X.K) eqD
  | ne (hu : X.A.units + 64 < cLine) : Cmp X .NotEq (RNe X.K) neD
theorem Cmp.mono {op : CmpOp} {R : R2} {r} (h : Cmp X op R r) : Mono2 r := by
  cases h
  · exact mono_lt
  · exact mono_le
  · exact mono_gt
  · exact mono_ge
  · exact mono_eq
  · exact mono_ne
theorem Cmp.op {op : CmpOp} {R : R2} {r} (h : Cmp X op R r) : OpR X (compareOp op) R := by
  cases h with
  | lt => exact or_lt
  | le => exact or_le
  | gt => exact or_gt
  | ge => exact or_ge
  | eq hu => exact or_eq hu
  | ne hu => exact or_ne hu
theorem Cmp.lf {op : CmpOp} {R : R2} {r} (h : Cmp X op R r) : LiftR F X.K R r := by
  cases h
  · exact lf_lt
  · exact lf_le
  · exact lf_gt
  · exact lf_ge
  · exact lf_eq
  · exact lf_ne
theorem de_c {op : CmpOp} {R : R2} {r} (h : Cmp X op R r) (ha : DE F X a ta) (hb : DE F X b tb) (hm : behindInMarks op b = false := by first | exact nomark _ | rfl) : DE F X (.Compare a [op] [b] pos) (fun ρ Q => ta ρ fun x => tb ρ fun y => r x y Q) := de_cmp h.mono h.op h.lf ha hb hm
theorem dt_c {op : CmpOp} {R : R2} {r} (h : Cmp X op R r) (ha : DE F X a ta) (hb : DE F X b tb) (hm : behindInMarks op b = false := by first | exact nomark _ | rfl) : DTest F X (.Compare a [op] [b] pos) (fun ρ Q => ta ρ fun x => tb ρ fun y => r x y fun z => boolD z Q) := dt_cmp h.mono h.op h.lf ha hb hm
end
end Dk
namespace Dk
open PySem L2
open PyProof.Rows (envOfC)
structure Rm (k : Nat) (A : Around) : Prop where
  room : Room k A
  gd : A.guards = some []
theorem Rm.mono {j k : Nat} {A : Around} (r : Rm k A) (h : j ≤ k) : Rm j A := ⟨r.room.mono h, r.gd⟩
theorem Rm.deeper {k : Nat} {A : Around} (r : Rm (k + 1) A) (env : Env) : Rm k (A.deeper env) := ⟨r.room.deeper env, r.gd⟩
theorem Rm.units {k : Nat} {A : Around} (r : Rm k A) : A.units + 64 < cLine := r.room.units
section
variable {P : Program} {w : World} {K : PySem.W.Frag} {mg : Str → Option Value} {base : Heap} {CX : CXT} {k j : Nat} {f : Addr} {fd : FuncData} {N ps : List Str} {sp sp' : Sp}
structure GnOk (P : Program) (w : World) (K : PySem.W.Frag) (mg : Str → Option Value) (base : Heap) (CX : CXT) (k : Nat) (f : Addr) (fd : FuncData) (ps : List Str) (sp : Sp) : Prop where
  lens : ∀ vs H Q E, sp vs H Q E → vs.length = ps.length
  go : ∀ (A : Around) (below : List Env) (s : Shared) (H : Hp) (given : Args) (us : List Value) (vs : List V) (Q : VK) (E : XK), Rm k A → Env0 P w K mg base A below s H → BindsTo s fd given (ps.zip us) → Vals vs us → sp vs H Q E → codeAny (model P w) A (.call (.ref f) given) (CR CX below P w H s Q E) s
theorem GnOk.mono (F : GnOk P w K mg base CX j f fd ps sp) (h : j ≤ k) : GnOk P w K mg base CX k f fd ps sp := ⟨F.lens, fun A o s H g us vs Q E hr => F.go A o s H g us vs Q E (hr.mono h)⟩
theorem GnOk.weak (F : GnOk P w K mg base CX k f fd ps sp) (h : ∀ vs H Q E, sp' vs H Q E → sp vs H Q E) : GnOk P w K mg base CX k f fd ps sp' :=
  ⟨fun vs H Q E q => F.lens vs H Q E (h _ _ _ _ q), fun A o s H g us vs Q E hr he hb hv q => F.go A o s H g us vs Q E hr he hb hv (h _ _ _ _ q)⟩
theorem _root_.L2.FnOk.gn (F : FnOk P w K mg base CX k f fd ps sp) : GnOk P w K mg base CX k f fd ps sp := ⟨F.len, fun A o s H g us vs Q E hr => F.run A o s H g us vs Q E hr.room⟩
/-- a def by its body -/
theorem gn_of {name qual : Str} {params : Arguments} {body : List Stmt} {scope : Scope} {dV kV doc pm cdv ct oc : Value} {an od : Option Addr} {osl : Array (Option Value)}
    (hlk : K.lookup f = some ⟨oc, od, .func (PySem.W.fnOf name qual params body scope dV kV doc pm an cdv ct), osl⟩) (hcode : PySem.W.codeIn K cdv qual = true) (Sc : FnScope N ps scope) (hlen : ∀ vs H Q E, sp vs H Q E → vs.length = ps.length)
    (hb : ∀ (A : Around) (below : List Env) (s : Shared) (H : Hp) (vs : List V) (Q : VK) (E : XK), Rm k (A.deeper (envOfC qual scope s.heap.objs.size f cdv)) → sp vs H Q E →
      ∃ t, PSs (cxOf CX P w K mg base N qual scope f cdv A below s H E) body t ∧ t { nx := fun _ H' => Q .non H', rt := Q } (L2.start N vs) H) :
    GnOk P w K mg base CX (k + 1) f (PySem.W.fnOf name qual params body scope dV kV doc pm an cdv ct) ps sp := by
  refine ⟨hlen, fun A below s H given us vs Q E hr e0 hbnd rv hs => ?_⟩
  have hvs := hlen _ _ _ _ hs
  have hK : K.In s.heap := e0.mod.kin.keeps fun b o e => (e0.bs b o e).1
  have hLim : s.heap.NoLimit := e0.mod.nolimit.keeps fun b o e => (e0.bs b o e).1
  have kinds : ∀ y ∈ ps.zip us, scope.names.lookup y.1 = some .local ∨ (scope.names.lookup y.1 = some .cell ∧ ((cellsFrom (s.heap.objs.size + 1) scope.names []).lookup y.1).isSome = true) := by
    rintro ⟨n, v⟩ hy
    rcases Sc.par n (List.of_mem_zip hy).1 with q | q
    · left; exact q
    · right; exact ⟨q, PySem.W.cellsFrom_some _ _ _ (.inl q)⟩
  refine codeAny_call_function hr.room.depth (hK _ _ hlk) rfl Sc.co Sc.gen rfl (PySem.W.codeRec_of hK hcode) (hbnd _ _ _ _ (wpAny_newFunctionEnv_cells Sc.kind kinds fun env he s1 x => ?_))
  subst he
  refine ⟨hLim.keeps x.toInCall.keep, codeAny_func ?_⟩
  obtain ⟨t, h1, h2⟩ := hb A below s H vs Q E (hr.deeper _) hs
  have J : Inv (cxOf CX P w K mg base N qual scope f cdv A below s H E) [] (L2.start N vs) H s1 := inv_start Sc hr.room.hd e0 hvs rv x
  have done : ∀ {σ' : St} {H' : Hp} {v : V} {u : Value} {s' : Shared}, Inv (cxOf CX P w K mg base N qual scope f cdv A below s H E) [] σ' H' s' → RelV v u → Q v H' → CE below P w H s Q u s' := fun {σ' H' v u s'} J rv q => ⟨v, H', J.os, J.bare, J.base, J.hok, rv, q⟩
  refine wpAny_mono (h1.run [] s1 (L2.start N vs) H _ J h2) (fun fl s' h => ?_) fun e s' h => h
  cases fl with
  | next => obtain ⟨σ', H', J', q⟩ := h; exact done (v := V.non) (u := Value.none) J' rfl q
  | ret u => obtain ⟨v, σ', H', J', rv', q⟩ := h; exact done J' rv' q
  | brk => obtain ⟨_, _, _, q⟩ := h; exact q.elim
  | cont => obtain ⟨_, _, _, q⟩ := h; exact q.elim
end
section
variable {X : Cx} {CX : CXT} {k n : Nat} {f : Addr} {fd : FuncData} {ps ks : List Str} {sp : Sp} {E : XK} {ds : List Value} {dvs : List V} {g : List Value → List Value → List Value} {gV : List V → List V → List V}
theorem gn_go {pins : List (Addr × Obj)} {σ : St} {H : Hp} {s : Shared} {Q : VK} {us as : List Value} {kw : List (Str × Value)} {vs : List V} (F : GnOk X.prog X.w X.K X.mg X.base CX k f fd ps sp) (hr : Rm k X.A) (hx : Passes CX X E) (J : Inv X pins σ H s)
    (hb : BindsTo s fd ⟨as, kw⟩ (ps.zip us)) (r : Vals vs us) (h : sp vs H Q E) : wpAny (model X.prog X.w) X.A (call (.ref f) as kw) (EP X pins σ Q) X.xe s := by
  refine wpAny_call (codeAny_mono (F.go X.A X.stack s H _ us vs Q E hr J.env0 hb r h) fun r s' q => ?_)
  cases r with
  | error e => exact hx pins σ H s e s' J q
  | ok fl => cases fl with
    | ret u => exact J.after q
    | next => exact q.elim
    | brk => exact q.elim
    | cont => exact q.elim
theorem gn_pos {pins : List (Addr × Obj)} {σ : St} {H : Hp} {s : Shared} {Q : VK} {us : List Value} {vs : List V} (F : GnOk X.prog X.w X.K X.mg X.base CX k f fd ps sp) (hr : Rm k X.A) (hb : Binds X.K fd ps ds) (hd : Vals dvs ds) (hx : Passes CX X E)
    (J : Inv X pins σ H s) (r : Vals vs us) (h : sp (vs ++ dvs) H Q E) : wpAny (model X.prog X.w) X.A (call (.ref f) us) (EP X pins σ Q) X.xe s := by
  have r2 : Vals (vs ++ dvs) (us ++ ds) := r.append hd
  exact gn_go F hr hx J (hb s us J.kIn (r2.length.symm.trans (F.lens _ _ _ _ h))) r2 h
variable {x : Str} {p pos : Pos} {e : Expr} {es : List Expr} {kws : List Keyword} {t tk : TA}
theorem gn_call (F : GnOk X.prog X.w X.K X.mg X.base CX k f fd ps sp) (hr : Rm k X.A) (hg : Gl X x) (hm : X.mg x = some (.ref f)) (hkp : PySem.W.keepIn X.K (.ref f) = true) (hb : Binds X.K fd ps ds) (hd : Vals dvs ds) (hx : Passes CX X E) (ha : PA X (e :: es) t)
    (hdb : (x == ("__debug__" : Str)) = false) (he : starEach (e :: es) X.env = (false, eval e X.env) :: starEach es X.env) (hpl : (backTo pos (starEach es X.env)).any (·.1) = false) : PE X (.Call (.Name x p) (e :: es) [] pos) (tCall sp dvs E t) :=
  ⟨fun pins s σ H Q J h => wpAny_Call_Name_kw (ld_glob J hg hm (PySem.W.callWith_K (h₀ := X.base) J.ok.mod.kin hkp (thn (ha.run pos pins s σ H _ J h) fun us s1 ⟨vs, H1, J1, r, q⟩ => ⟨J1.kIn, gn_pos F hr hb hd hx J1 r q⟩) he hpl) hdb)⟩
end
end Dk
namespace Dk
open PySem L2
open PyProof.Rows (envOfC)
/-- an exception: its class, its fields -/
structure Ex where
  cls : Value
  flds : List (Str × D)
def ExRep (K : PySem.W.Frag) (I H : Hp) (cls : Value) (d : Option Addr) (x : Ex) : Prop :=
  cls = x.cls ∧ ((x.flds = [] ∧ d = none) ∨ ∃ dd fs, d = some dd ∧ I dd = some (.xd fs) ∧ fs.map (·.1) = x.flds.map (·.1) ∧ Reps K I (fs.map (·.2)) (x.flds.map (·.2)))
def finX (W : Wd) (K : PySem.W.Frag) (I H : Hp) (E : XK) : Ex → Prop := fun x => ∀ cls d I' H', Stp W I H I' H' → ExRep K I' H' cls d x → E cls d H'
structure DSp where
  n : Nat
  f : List D → (D → Prop) → (Ex → Prop) → Prop
  len : ∀ ds Q E, f ds Q E → ds.length = n
  mono : ∀ ds (Q Q' : D → Prop) (E E' : Ex → Prop), (∀ d, Q d → Q' d) → (∀ x, E x → E' x) → f ds Q E → f ds Q' E'
def spD (W : Wd) (K : PySem.W.Frag) (S : DSp) : Sp := fun vs H Q E => ∃ I ds, StI W I H ∧ Reps K I vs ds ∧ S.f ds (fin ⟨W, H, I⟩ K I H Q) (finX W K I H E)
theorem spD_len {W : Wd} {K : PySem.W.Frag} {S : DSp} : ∀ vs H Q E, spD W K S vs H Q E → vs.length = S.n := fun vs H Q E ⟨I, ds, _, r, h⟩ => r.length.trans (S.len _ _ _ h)
section
variable {F : Fx} {X : Cx} {K : PySem.W.Frag} {I H : Hp} {ρ : DEnv} {σ : St} {CX : CXT} {k : Nat} {f C : Addr} {fd : FuncData} {ps : List Str} {S : DSp} {E : XK} {x m : Str} {p pos apos : Pos} {e o : Expr} {es : List Expr} {ta : DT} {t : DAT}
def Lets (F : Fx) (K : PySem.W.Frag) (Ed : Ex → Prop) (E : XK) : Prop := ∀ I H, Stp F.W F.I0 F.B I H → ∀ x, Ed x → finX F.W K I H E x
theorem lets0 : Lets F K (fun _ => False) E := fun _ _ _ _ h => h.elim
theorem call_run {Ed : Ex → Prop} (le : Lets F K Ed E) (mono : ∀ ρ (Q Q' : List D → Prop), (∀ d, Q d → Q' d) → t ρ Q → t ρ Q') {Q : VK} (h : rdE F K (fun ρ Q => t ρ fun ds => S.f ds Q Ed) σ H Q) : rdA F K t σ H fun vs H1 => spD F.W K S vs H1 Q E := by
  obtain ⟨I, ρ, A, h⟩ := h
  refine rdA_next mono A h fun ds vs I' H' p s rs => ?_
  refine ⟨I', ds, s.st, rs, S.mono _ _ _ _ _ (fun d q v I2 H2 s2 rv => q v I2 H2 (s.trans s2) rv) (le I' H' (A.stp.trans s)) p⟩
theorem de_call {Ed : Ex → Prop} (Fn : GnOk X.prog X.w X.K X.mg X.base CX k f fd ps (spD F.W X.K S)) (hr : Rm k X.A) (hm : X.mg x = some (.ref f)) (hk : PySem.W.keepIn X.K (.ref f) = true) (hb : Binds X.K fd ps []) (hx : Passes CX X E) (le : Lets F X.K Ed E) (ha : DA F X (e :: es) t)
    (hg : Gl X x := by rfl) (hdb : (x == ("__debug__" : Str)) = false := by decide) (he : starEach (e :: es) X.env = (false, eval e X.env) :: starEach es X.env := by rfl) (hpl : (backTo pos (starEach es X.env)).any (·.1) = false := by rfl) :
    DE F X (.Call (.Name x p) (e :: es) [] pos) (fun ρ Q => t ρ fun ds => S.f ds Q Ed) := by
  refine ⟨fun ρ Q Q' k h => ha.mono _ _ _ (fun d h => S.mono _ _ _ _ _ k (fun _ h => h) h) h, (gn_call Fn hr hg hm hk hb .nil hx ha.run hdb he hpl).imp fun σ H Q h => ?_⟩
  have h := call_run le ha.mono h
  show rdA F X.K t σ H fun vs H1 => spD F.W X.K S (vs ++ []) H1 Q E
  simpa using h
/-- a built-in function, by its rule over data -/
def LiftC (F : Fx) (K : PySem.W.Frag) (R : List V → Hp → VK → Prop) (r : List D → (D → Prop) → Prop) : Prop :=
  ∀ (vs : List V) (ds : List D) (I H : Hp) (Q : VK), StI F.W I H → Reps K I vs ds → r ds (fin F K I H Q) → R vs H Q
variable {R : List V → Hp → VK → Prop} {r : List D → (D → Prop) → Prop} {id T : String}
theorem blt_run (mr : MonoN r) (l : LiftC F K R r) (mono : ∀ ρ (Q Q' : List D → Prop), (∀ d, Q d → Q' d) → t ρ Q → t ρ Q') {Q : VK} (h : rdE F K (fun ρ Q => t ρ fun ds => r ds Q) σ H Q) : rdA F K t σ H fun vs H1 => R vs H1 Q := by
  obtain ⟨I, ρ, A, h⟩ := h
  exact rdA_next mono A h fun ds vs I' H' p s rs => l vs ds I' H' Q s.st rs (mr _ _ _ (fun d q => q.of s) p)
theorem de_callB (mr : MonoN r) (l : LiftC F X.K R r) (hc : CallR X (.builtin id) R) (hm : X.mg x = none) (hv : bootBuiltins x = some (.builtin id)) (ha : DA F X (e :: es) t) (hg : Gl X x := by rfl) (hn : x ≠ "__name__" := by decide) (hdb : (x == ("__debug__" : Str)) = false := by decide)
    (he : starEach (e :: es) X.env = (false, eval e X.env) :: starEach es X.env := by rfl) (hpl : (backTo pos (starEach es X.env)).any (·.1) = false := by rfl) : DE F X (.Call (.Name x p) (e :: es) [] pos) (fun ρ Q => t ρ fun ds => r ds Q) :=
  ⟨fun ρ Q Q' k h => ha.mono _ _ _ (fun d h => mr _ _ _ k h) h, (pe_callB hc hg hm hv ha.run hn hdb he hpl).imp fun σ H Q h => blt_run mr l ha.mono h⟩
theorem de_callT (mr : MonoN r) (l : LiftC F X.K R r) (hc : CallR X (.type T) R) (hm : X.mg x = none) (hv : bootBuiltins x = some (.type T)) (ha : DA F X (e :: es) t) (hg : Gl X x := by rfl) (hn : x ≠ "__name__" := by decide) (hdb : (x == ("__debug__" : Str)) = false := by decide)
    (he : starEach (e :: es) X.env = (false, eval e X.env) :: starEach es X.env := by rfl) (hpl : (backTo pos (starEach es X.env)).any (·.1) = false := by rfl) : DE F X (.Call (.Name x p) (e :: es) [] pos) (fun ρ Q => t ρ fun ds => r ds Q) :=
  ⟨fun ρ Q Q' k h => ha.mono _ _ _ (fun d h => mr _ _ _ k h) h, (pe_callTy hc hg hm hv ha.run hn hdb he hpl).imp fun σ H Q h => blt_run mr l ha.mono h⟩
end
/-- other ways back: a list of our own; a thing, and what is held by then -/
inductive Ret where
  | own (ds : List D)
  | st (d : D) (ρ : DEnv)
structure DEnds where
  nx : DEnv → Prop
  rt : D → Prop
  bk : DEnv → Prop
  ct : DEnv → Prop
  ro : Ret → Prop
structure DEnds.le (a b : DEnds) : Prop where
  nx : ∀ ρ, a.nx ρ → b.nx ρ
  rt : ∀ d, a.rt d → b.rt d
  bk : ∀ ρ, a.bk ρ → b.bk ρ
  ct : ∀ ρ, a.ct ρ → b.ct ρ
  ro : ∀ ds, a.ro ds → b.ro ds
abbrev DTS := DEnds → DEnv → Prop
def ends (F : Fx) (K : PySem.W.Frag) (I0 : Hp) (Z : Ends) : DEnds where
  nx := fun ρ => ∀ I σ H, Same I0 I → At F K I ρ σ H → Z.nx σ H
  rt := fun d => ∀ v I H, Stp F.W F.I0 F.B I H → Rep K I v d → Z.rt v H
  bk := fun ρ => ∀ I σ H, Same I0 I → At F K I ρ σ H → Z.bk σ H
  ct := fun ρ => ∀ I σ H, Same I0 I → At F K I ρ σ H → Z.ct σ H
  ro := fun r => match r with
    | .own ds => ∀ p vs I H, Stp F.W F.I0 F.B I H → H p = none → Reps K I vs ds → Z.rt (.ref p) (upd H p (.lst vs))
    | .st d ρ => ∀ v I σ H, At F K I ρ σ H → Rep K I v d → Z.rt v H
def rdS (F : Fx) (K : PySem.W.Frag) (t : DTS) : TS := fun Z σ H => ∃ I ρ, At F K I ρ σ H ∧ t (ends F K I Z) ρ
structure DSt (F : Fx) (X : Cx) (st : Stmt) (t : DTS) : Prop where
  mono : ∀ Z Z' ρ, DEnds.le Z Z' → t Z ρ → t Z' ρ
  run : PS X st (rdS F X.K t)
structure DSts (F : Fx) (X : Cx) (st : List Stmt) (t : DTS) : Prop where
  mono : ∀ Z Z' ρ, DEnds.le Z Z' → t Z ρ → t Z' ρ
  run : PSs X st (rdS F X.K t)
theorem ends.le {F : Fx} {K : PySem.W.Frag} {I I' : Hp} {Z : Ends} (s : Same I I') : DEnds.le (ends F K I Z) (ends F K I' Z) :=
  ⟨fun _ h J σ H s' => h J σ H (Same.trans s s'), fun _ h => h, fun _ h J σ H s' => h J σ H (Same.trans s s'), fun _ h J σ H s' => h J σ H (Same.trans s s'), fun _ h => h⟩
theorem DEnds.le.withNx {Z Z' : DEnds} (l : DEnds.le Z Z') {a b : DEnv → Prop} (h : ∀ ρ, a ρ → b ρ) : DEnds.le { Z with nx := a } { Z' with nx := b } := ⟨h, l.rt, l.bk, l.ct, l.ro⟩
section
variable {F : Fx} {X : Cx} {K : PySem.W.Frag} {I H I' H' : Hp} {ρ : DEnv} {σ : St} {st : Stmt} {sts : List Stmt} {e c : Expr} {te : DT} {tc : DB} {t u : DTS} {pos : Pos}
theorem dss_nil : DSts F X [] (fun Z ρ => Z.nx ρ) := ⟨fun Z Z' ρ l h => l.nx _ h, pss_nil.imp fun Z σ H ⟨I, ρ, A, h⟩ => h I σ H (Same.refl I) A⟩
theorem dss_cons (h : DSt F X st t) (h' : DSts F X sts u) : DSts F X (st :: sts) (fun Z ρ => t { Z with nx := u Z } ρ) := by
  refine ⟨fun Z Z' ρ l q => h.mono _ _ _ (l.withNx fun ρ => h'.mono _ _ _ l) q, (pss_cons h.run h'.run).imp fun Z σ H ⟨I, ρ, A, q⟩ => ⟨I, ρ, A, h.mono { ends F X.K I Z with nx := u (ends F X.K I Z) } _ _ ⟨fun ρ q I σ H s A => ⟨I, ρ, A, h'.mono _ _ _ (ends.le s) q⟩, fun d q => q, fun ρ q => q, fun ρ q => q, fun d q => q⟩ q⟩⟩
theorem dss_one (h : DSt F X st t) : DSts F X [st] t := ⟨h.mono, pss_one h.run⟩
theorem ds_ret (h : DE F X e te) : DSt F X (.Return (some e) pos) (fun Z ρ => te ρ Z.rt) :=
  ⟨fun Z Z' ρ l q => h.mono _ _ _ l.rt q, (ps_ret h.run).imp fun Z σ H ⟨I, ρ, A, q⟩ => rdE_next h.mono A q fun d v I' H' p s rv => p v I' H' (A.stp.trans s) rv⟩
theorem ds_if {a b : List Stmt} (hc : DTest F X c tc) (ha : DSts F X a t) (hb : DSts F X b u) : DSt F X (.If c a b pos) (fun Z ρ => tc ρ fun k => if k = true then t Z ρ else u Z ρ) := by
  refine ⟨fun Z Z' ρ l q => hc.mono _ _ _ (fun k q => ?_) q, (ps_if hc.run ha.run hb.run).imp fun Z σ H ⟨I, ρ, A, q⟩ => rdT_next hc.mono A q fun k I' H' p s => ?_⟩
  · cases k
    · exact hb.mono _ _ _ l q
    · exact ha.mono _ _ _ l q
  · cases k
    · exact ⟨I', ρ, A.step s, hb.mono _ _ _ (ends.le s.i) p⟩
    · exact ⟨I', ρ, A.step s, ha.mono _ _ _ (ends.le s.i) p⟩
theorem ds_never : DSt F X st (fun _ _ => False) := ⟨fun _ _ _ _ h => h.elim, ps_never.imp fun Z σ H ⟨I, ρ, A, h⟩ => h.elim⟩
end
abbrev DGT := D → DEnv → (DEnv → Prop) → Prop
/-- σ' is σ but for the slots of js -/
def Only (js : List Nat) (σ σ' : St) : Prop := σ'.length = σ.length ∧ ∀ i, i ∉ js → σ'[i]? = σ[i]?
def rdG (F : Fx) (K : PySem.W.Frag) (js : List Nat) (g : DGT) : TG := fun v σ H Q => ∃ I ρ d, At F K I ρ σ H ∧ Rep K I v d ∧ g d ρ fun ρ' => ∀ I' σ' H', At F K I' ρ' σ' H' → Stp F.W I H I' H' → Only js σ σ' → Q σ' H'
/-- what is own in ρ' was so in ρ, off the slots of js -/
def Kept (js : List Nat) (ρ ρ' : DEnv) : Prop := ∀ (j : Nat) (e : Ent), ρ'[j]? = some (some e) → e.isOwn → j ∉ js ∧ ρ[j]? = some (some e)
structure DG (F : Fx) (X : Cx) (e : Expr) (js : List Nat) (g : DGT) : Prop where
  mono : ∀ d ρ (Q Q' : DEnv → Prop), (∀ ρ, Q ρ → Q' ρ) → g d ρ Q → g d ρ Q'
  keeps : ∀ d ρ (Q : DEnv → Prop), g d ρ Q → g d ρ fun ρ' => Q ρ' ∧ Kept js ρ ρ'
  run : PG X e (rdG F X.K js g)
abbrev DGTs := List D → DEnv → (DEnv → Prop) → Prop
def rdGs (F : Fx) (K : PySem.W.Frag) (js : List Nat) (g : DGTs) : TGs := fun v σ H Q => ∃ I ρ d, At F K I ρ σ H ∧ Reps K I v d ∧ g d ρ fun ρ' => ∀ I' σ' H', At F K I' ρ' σ' H' → Stp F.W I H I' H' → Only js σ σ' → Q σ' H'
structure DGs (F : Fx) (X : Cx) (e : List Expr) (js : List Nat) (g : DGTs) : Prop where
  mono : ∀ d ρ (Q Q' : DEnv → Prop), (∀ ρ, Q ρ → Q' ρ) → g d ρ Q → g d ρ Q'
  keeps : ∀ d ρ (Q : DEnv → Prop), g d ρ Q → g d ρ fun ρ' => Q ρ' ∧ Kept js ρ ρ'
  run : PGs X e (rdGs F X.K js g)
section
variable {F : Fx} {X : Cx} {K : PySem.W.Frag} {I H I' H' : Hp} {ρ : DEnv} {σ : St} {st : Stmt} {e tg : Expr} {es : List Expr} {te : DT} {g : DGT} {gs : DGTs} {pos : Pos}
theorem _root_.L2.PG.imp {e : Expr} {t u : TG} (h : PG X e t) (i : ∀ v σ H Q, u v σ H Q → t v σ H Q) : PG X e u := ⟨fun pins s σ H v w Q J r q => h.run pins s σ H v w Q J r (i v σ H Q q)⟩
theorem _root_.L2.PGs.imp {e : List Expr} {t u : TGs} (h : PGs X e t) (i : ∀ v σ H Q, u v σ H Q → t v σ H Q) : PGs X e u := ⟨fun pins s σ H v w Q J r q => h.run pins s σ H v w Q J r (i v σ H Q q)⟩
theorem set_at {ρ : DEnv} {i j : Nat} {x : Option Ent} {e : Ent} (h : (ρ.set i x)[j]? = some (some e)) : (i = j ∧ x = some e) ∨ (i ≠ j ∧ ρ[j]? = some (some e)) := by
  by_cases hij : i = j
  · subst hij
    left
    rw [List.getElem?_set] at h
    simp at h
    exact ⟨rfl, h.2⟩
  · rw [List.getElem?_set_ne hij] at h
    exact .inr ⟨hij, h⟩
theorem At.set (a : At F K I ρ σ H) {i : Nat} {v : V} {d : D} (r : Rep K I v d) : At F K I (ρ.set i (some (.dat d))) (σ.set i (some v)) H := by
  refine ⟨a.stp, by simp [a.len], fun j e h => ?_, fun j l e e' w hjl h1 h2 o1 o2 hw => ?_⟩
  · rcases set_at h with ⟨rfl, q⟩ | ⟨hij, q⟩
    · cases q
      have hi : i < ρ.length := by
        have := (List.getElem?_eq_some_iff.mp h).1
        simpa using this
      exact ⟨v, by rw [List.getElem?_set]; simp [← a.len, hi], .inl ⟨_, rfl, r⟩⟩
    · obtain ⟨w, h1, h2⟩ := a.env j e q
      exact ⟨w, by rw [List.getElem?_set_ne hij]; exact h1, h2⟩
  · rcases set_at h1 with ⟨rfl, q⟩ | ⟨hij, q⟩
    · cases q; exact o1.elim
    · rcases set_at h2 with ⟨rfl, q'⟩ | ⟨hil, q'⟩
      · cases q'; exact o2.elim
      · rw [List.getElem?_set_ne hij] at hw
        rw [List.getElem?_set_ne hil]
        exact a.dis j l e e' w hjl q q' o1 o2 hw
theorem dg_name {x : Str} (i : Nat) (hN : X.N.Nodup) (hi : X.N[i]? = some x := by rfl) (hx : Loc X.env.scope x := by first | exact Or.inl rfl | exact Or.inr rfl) (hf : X.fn x = true ∨ X.env.scope.names.lookup x = some .local := by first | exact .inl rfl | exact .inr rfl | assumption) : DG F X (.Name x pos) [i] (fun d ρ Q => Q (ρ.set i (some (.dat d)))) :=
  ⟨fun d ρ Q Q' k q => k _ q, fun d ρ Q q => ⟨q, fun j e hj ho => by
    rcases set_at hj with ⟨_, z⟩ | ⟨hij, z⟩
    · cases z; exact ho.elim
    · exact ⟨by simp [Ne.symm hij], z⟩⟩, (pg_name hN hi hx hf).imp fun v σ H Q ⟨I, ρ, d, A, r, q⟩ => q I _ H (A.set r) A.st.stp ⟨by simp, fun j hj => List.getElem?_set_ne (fun e => hj (by simp [e]))⟩⟩
theorem dgs_nil : DGs F X [] [] (fun ds ρ Q => ds = [] ∧ Q ρ) := by
  refine ⟨fun d ρ Q Q' k q => ⟨q.1, k _ q.2⟩, fun d ρ Q q => ⟨q.1, q.2, fun j e hj ho => ⟨by simp, hj⟩⟩, pgs_nil.imp fun v σ H Q ⟨I, ρ, d, A, r, e, q⟩ => ?_⟩
  subst e
  cases r
  exact ⟨rfl, q I _ H A A.st.stp ⟨rfl, fun _ _ => rfl⟩⟩
theorem dgs_cons {js ks : List Nat} (h : DG F X e js g) (h' : DGs F X es ks gs) (hs : (assignEach (e :: es) X.env).map (·.2) = assign e X.env :: (assignEach es X.env).map (·.2) := by rfl) : DGs F X (e :: es) (js ++ ks) (fun ds ρ Q => ∃ d r, ds = d :: r ∧ g d ρ fun ρ' => gs r ρ' Q) := by
  refine ⟨fun d ρ Q Q' k ⟨x, r, e, q⟩ => ⟨x, r, e, h.mono _ _ _ _ (fun ρ q => h'.mono _ _ _ _ k q) q⟩, fun d ρ Q ⟨x, r, e, q⟩ => ⟨x, r, e, h.mono _ _ _ _ (fun ρ1 ⟨q, k1⟩ => h'.mono _ _ _ _ (fun ρ2 ⟨q, k2⟩ => ⟨q, fun j e hj ho => have ⟨a, b⟩ := k2 j e hj ho; have ⟨c, d⟩ := k1 j e b ho; ⟨fun z => (List.mem_append.mp z).elim c a, d⟩⟩) (h'.keeps _ _ _ q)) (h.keeps _ _ _ q)⟩, (pgs_cons h.run h'.run hs).imp fun v σ H Q ⟨I, ρ, d, A, rv, x, r, e, q⟩ => ?_⟩
  subst e
  cases rv with
  | cons r1 r2 =>
    refine ⟨_, _, rfl, I, ρ, x, A, r1, h.mono _ _ _ _ (fun ρ' q I' σ' H' A' s o => ?_) q⟩
    exact ⟨I', ρ', r, A', r2.mono s.i, h'.mono _ _ _ _ (fun ρ2 q I2 σ2 H2 A2 s2 o2 => q I2 σ2 H2 A2 (s.trans s2) ⟨o2.1.trans o.1, fun j hj => (o2.2 j fun z => hj (List.mem_append_right _ z)).trans (o.2 j fun z => hj (List.mem_append_left _ z))⟩) q⟩
theorem dg_tup {n k : Nat} {js : List Nat} (hc : X.calm = true) (h : DGs F X es js gs) (hn : (assignEach es X.env).length = n := by rfl) (hst : (assignEach es X.env).findIdx? (·.1) = none := by rfl) : DG F X (.Tuple es k pos) js (fun d ρ Q => ∃ ds, d = .tup ds ∧ ds.length = n ∧ gs ds ρ Q) := by
  refine ⟨fun d ρ Q Q' k ⟨ds, e, l, q⟩ => ⟨ds, e, l, h.mono _ _ _ _ k q⟩, fun d ρ Q ⟨ds, e, l, q⟩ => ⟨ds, e, l, h.keeps _ _ _ q⟩, (pg_tup hc h.run hn hst).imp fun v σ H Q ⟨I, ρ, d, A, r, ds, e, l, q⟩ => ?_⟩
  subst e
  cases r with
  | tup a rs => exact ⟨_, _, rfl, Same.seqT A.st.sub a, by rw [rs.length]; exact l, I, ρ, ds, A, rs, q⟩
/-- target = value -/
theorem ds_asg {js : List Nat} (he : DE F X e te) (hg : DG F X tg js g) (hs : swapsWithSole [tg] e pos.line X.env = pure false := by rfl) (hw : swappedStores [tg] e X.env = pure none := by rfl) (h1 : (assignEach [tg] X.env).map (·.2) = [assign tg X.env] := by rfl) : DSt F X (.Assign [tg] e pos) (fun Z ρ => te ρ fun d => g d ρ Z.nx) := by
  refine ⟨fun Z Z' ρ l q => he.mono _ _ _ (fun d q => hg.mono _ _ _ _ l.nx q) q, (ps_asg he.run hg.run hs hw h1).imp fun Z σ H ⟨I, ρ, A, q⟩ => rdE_next he.mono A q fun d v I' H' p s rv => ?_⟩
  exact ⟨I', ρ, d, A.step s, rv, hg.mono _ _ _ _ (fun ρ2 q I2 σ2 H2 A2 s2 _ => q I2 σ2 H2 (Same.trans s.i s2.i) A2) p⟩
theorem ds_set {x : Str} {pos' : Pos} (i : Nat) (he : DE F X e te) (hN : X.N.Nodup) (hi : X.N[i]? = some x := by rfl) (hx : Loc X.env.scope x := by first | exact Or.inl rfl | exact Or.inr rfl) (hs : swapsWith e (some (.Name x pos')) pos.line X.env = pure false := by rfl)
    (hf : X.fn x = true ∨ X.env.scope.names.lookup x = some .local := by first | exact .inl rfl | exact .inr rfl | assumption) : DSt F X (.Assign [.Name x pos'] e pos) (fun Z ρ => te ρ fun d => Z.nx (ρ.set i (some (.dat d)))) := by
  refine ⟨fun Z Z' ρ l q => he.mono _ _ _ (fun d q => l.nx _ q) q, (ps_set hN hi hx he.run hs hf).imp fun Z σ H ⟨I, ρ, A, q⟩ => rdE_next he.mono A q fun d v I' H' p s rv => ?_⟩
  exact p I' _ H' s.i ((A.step s).set rv)
/-- a, b = x, y -/
theorem ds_par {i j : Nat} {x y : Str} {a b : Expr} {ta : DAT} {px py pt : Pos} {kt k2 pt2} (hc : X.calm = true) (hN : X.N.Nodup) (hi : X.N[i]? = some x) (hj : X.N[j]? = some y) (hij : i ≠ j) (hkx : X.env.scope.names.lookup x = some .local) (hky : X.env.scope.names.lookup y = some .local)
    (ha : DA F X [a, b] ta) (hsw : swappedStores [.Tuple [.Name x px, .Name y py] kt pt] (.Tuple [a, b] k2 pt2) X.env = pure (some [x, y]) := by rfl) (hs : swapsWithSole [.Tuple [.Name x px, .Name y py] kt pt] (.Tuple [a, b] k2 pt2) pos.line X.env = pure false := by rfl) : DSt F X (.Assign [.Tuple [.Name x px, .Name y py] kt pt] (.Tuple [a, b] k2 pt2) pos) (fun Z ρ => ta ρ fun ds => ∃ d e, ds = [d, e] ∧ Z.nx ((ρ.set i (some (.dat d))).set j (some (.dat e)))) := by
  refine ⟨fun Z Z' ρ l q => ha.mono _ _ _ (fun d ⟨x, y, e, q⟩ => ⟨x, y, e, l.nx _ q⟩) q, (ps_par hc hN hi hj hij hkx hky ha.run hsw hs).imp fun Z σ H ⟨I, ρ, A, q⟩ => rdA_next ha.mono A q fun ds vs I' H' p s rs => ?_⟩
  obtain ⟨d, e, rfl, q⟩ := p
  cases rs with
  | cons r1 r2 =>
    cases r2 with
    | cons r2 r3 =>
      cases r3
      exact ⟨_, _, rfl, q I' _ H' s.i (((A.step s).set r1).set r2)⟩
end
def startD (N : List Str) (ds : List D) : DEnv := ds.map (fun d => some (Ent.dat d)) ++ List.replicate (N.length - ds.length) none
theorem at_start {W : Wd} {K : PySem.W.Frag} {I H : Hp} {N : List Str} {vs : List V} {ds : List D} (s : StI W I H) (r : Reps K I vs ds) : At ⟨W, H, I⟩ K I (startD N ds) (L2.start N vs) H := by
  refine ⟨s.stp, by simp [startD, L2.start, r.length], fun i e h => ?_, fun i j e e' v hij h1 h2 o1 => ?_⟩
  · unfold startD at h
    by_cases hi : i < ds.length
    · rw [List.getElem?_append_left (by simpa using hi), List.getElem?_map] at h
      cases q : ds[i]? with
      | none => rw [q] at h; cases h
      | some d =>
        rw [q] at h
        cases h
        obtain ⟨v, h1, h2⟩ := r.get q
        refine ⟨v, ?_, .inl ⟨_, rfl, h2⟩⟩
        unfold L2.start
        rw [List.getElem?_append_left (by simpa [r.length] using hi), List.getElem?_map, h1]
        rfl
    · rw [List.getElem?_append_right (by simpa using hi), List.getElem?_replicate] at h
      split at h <;> cases h
  · unfold startD at h1
    by_cases hi : i < ds.length
    · rw [List.getElem?_append_left (by simpa using hi), List.getElem?_map] at h1
      cases q : ds[i]? with
      | none => rw [q] at h1; cases h1
      | some d => rw [q] at h1; cases h1; exact o1.elim
    · rw [List.getElem?_append_right (by simpa using hi), List.getElem?_replicate] at h1
      split at h1 <;> cases h1
def defEnds (Q : D → Prop) : DEnds := ⟨fun _ => Q .non, Q, fun _ => False, fun _ => False, fun _ => False⟩
section
variable {P : Program} {w : World} {K : PySem.W.Frag} {mg : Str → Option Value} {base : Heap}
theorem body_run {F : Fx} {X : Cx} {t : DTS} {body : List Stmt} {N : List Str} {vs : List V} {ds : List D} {Q : VK} {H I : Hp} {W : Wd} (hF : F = ⟨W, H, I⟩) (h : DSts F X body t) (s : StI W I H) (r : Reps X.K I vs ds) (q : t (defEnds (fin F X.K I H Q)) (startD N ds)) :
    rdS F X.K t { nx := fun _ H' => Q .non H', rt := Q } (L2.start N vs) H := by
  subst hF
  exact ⟨I, _, at_start s r, h.mono (defEnds (fin ⟨W, H, I⟩ X.K I H Q)) _ _ ⟨fun ρ q I' σ' H' s A => q _ I' H' A.stp .non, fun d q v I' H' s r => q v I' H' s r, fun _ q => q.elim, fun _ q => q.elim, fun _ q => q.elim⟩ q⟩
/-- a def of the text whose promise may lean on the guards -/
theorem _root_.L2.Fun.gn {CX : CXT} {x qual : Str} {st : Stmt} {f : Addr} {fd : FuncData} {N ps : List Str} {k : Nat} {sp : Sp} (Fn : Fun K x qual st f fd) (Sc : FnScope N ps (defScope st)) (hlen : ∀ vs H Q E, sp vs H Q E → vs.length = ps.length)
    (hb : ∀ (cdv : Value) (A : Around) (below : List Env) (s : Shared) (H : Hp) (vs : List V) (Q : VK) (E : XK), Rm k (A.deeper (envOfC qual (defScope st) s.heap.objs.size f cdv)) → sp vs H Q E →
      ∃ t, PSs (cxOf CX P w K mg base N qual (defScope st) f cdv A below s H E) (defBody st) t ∧ t { nx := fun _ H' => Q .non H', rt := Q } (L2.start N vs) H) : GnOk P w K mg base CX (k + 1) f fd ps sp := by
  obtain ⟨oc, od, kV, doc, pm, an, cdv, ct, osl, rfl, lk, hcd⟩ := Fn.ex
  exact gn_of lk hcd Sc hlen (hb cdv)
/-- a def that lets no exception out -/
theorem _root_.L2.Fun.okD {W : Wd} {S : DSp} {x qual : Str} {st : Stmt} {f : Addr} {fd : FuncData} {N ps : List Str} {k : Nat} (Fn : Fun K x qual st f fd) (Sc : FnScope N ps (defScope st)) (hn : S.n = ps.length)
    (hbody : ∀ (cdv : Value) (A : Around) (outer : List Env) (s : Shared) (H I : Hp) (ds : List D) (Q : D → Prop) (Ed : Ex → Prop) (E : XK), Rm k (A.deeper (envOfC qual (defScope st) s.heap.objs.size f cdv)) → S.f ds Q Ed →
      ∃ t, DSts ⟨W, H, I⟩ (cxOf CX0 P w K mg base N qual (defScope st) f cdv A outer s H E).nox (defBody st) t ∧ t (defEnds Q) (startD N ds)) : GnOk P w K mg base CX0 (k + 1) f fd ps (spD W K S) := by
  refine Fn.gn Sc (fun vs H Q E h => (spD_len _ _ _ _ h).trans hn) fun cdv A outer s H vs Q E hr ⟨I, ds, si, r, h⟩ => ?_
  obtain ⟨t, h1, h2⟩ := hbody cdv A outer s H I ds _ _ E hr h
  exact ⟨_, h1.run.nox, body_run rfl h1 si r h2⟩
end
end Dk
namespace Dk
open PySem L2
open PyProof.Rows (envOfC)
open RZ (ItzT pi_zipA iZipA)
structure JRep (W : Wd) (K : PySem.W.Frag) (J : It) (I : Hp) (ds : List D) : Prop where
  go : ∀ (i : Nat) I2 H2, Same I I2 → StI W I2 H2 → i < ds.length → J.go i H2
  yld : ∀ (i : Nat) I2 H2 x H3, i < ds.length → Same I I2 → StI W I2 H2 → J.yld i H2 x H3 → ∃ d I3, ds[i]? = some d ∧ Stp W I2 H2 I3 H3 ∧ Rep K I3 x d
  stop : ∀ I2 H2, Same I I2 → StI W I2 H2 → J.stop ds.length H2
def finI (F : Fx) (K : PySem.W.Frag) (I H : Hp) (R : It → Hp → Prop) : List D → Prop := fun ds => ∀ J I' H', Stp F.W I H I' H' → JRep F.W K J I' ds → R J H'
def rdI (F : Fx) (K : PySem.W.Frag) (t : DAT) : TI := fun σ H R => ∃ I ρ, At F K I ρ σ H ∧ t ρ (finI F K I H R)
structure DI (F : Fx) (X : Cx) (tg e : Expr) (t : DAT) : Prop where
  mono : ∀ ρ (Q Q' : List D → Prop), (∀ d, Q d → Q' d) → t ρ Q → t ρ Q'
  run : PI X tg e (rdI F X.K t)
section
variable {F : Fx} {X : Cx} {K : PySem.W.Frag} {W : Wd} {I H : Hp} {ρ : DEnv} {σ : St} {tg e e2 : Expr} {te tb : DT} {ta : DAT} {p pos : Pos}
theorem _root_.L2.PI.imp {t u : TI} (h : PI X tg e t) (i : ∀ σ H R, u σ H R → t σ H R) : PI X tg e u := ⟨fun pins s σ H R J q => h.run pins s σ H R J (i σ H R q)⟩
theorem jr_list {a : Addr} {vs : List V} {ds : List D} (h : I a = some (.lst vs)) (r : Reps K I vs ds) : JRep W K (Itl K a) I ds where
  go := fun i I2 H2 s st hi => by
    have hv : i < vs.length := by rw [r.length]; exact hi
    exact ⟨vs, vs[i], .of (st.sub _ _ (s _ _ h)), by simp [hv]⟩
  yld := fun i I2 H2 x H3 hi s st ⟨e, y⟩ => by
    subst e
    obtain ⟨d, h1, h2⟩ := (r.mono s).getV (y vs (.of (st.sub _ _ (s _ _ h))))
    exact ⟨d, I2, h1, st.stp, h2⟩
  stop := fun I2 H2 s st => ⟨vs, .of (st.sub _ _ (s _ _ h)), by rw [r.length]; exact Nat.le_refl _⟩
theorem jr_tup {a : Addr} {vs : List V} {ds : List D} (h : SqT K I a vs) (r : Reps K I vs ds) : JRep W K (Itt K a) I ds where
  go := fun i I2 H2 s st hi => by
    have hv : i < vs.length := by rw [r.length]; exact hi
    exact ⟨vs, vs[i], Same.seqT (Same.trans s st.sub) h, by simp [hv]⟩
  yld := fun i I2 H2 x H3 hi s st ⟨e, y⟩ => by
    subst e
    obtain ⟨d, h1, h2⟩ := (r.mono s).getV (y vs (Same.seqT (Same.trans s st.sub) h))
    exact ⟨d, I2, h1, st.stp, h2⟩
  stop := fun I2 H2 s st => ⟨vs, Same.seqT (Same.trans s st.sub) h, by rw [r.length]; exact Nat.le_refl _⟩
def rngD (lo : Int) (n : Nat) : List D := (List.range n).map fun i => D.int (lo + (i : Nat))
theorem rngD_length (lo : Int) (n : Nat) : (rngD lo n).length = n := by simp [rngD]
theorem jr_range {lo : Int} {n : Nat} : JRep W K (Itr lo n) I (rngD lo n) where
  go := fun i I2 H2 s st hi => by rw [rngD_length] at hi; exact hi
  yld := fun i I2 H2 x H3 hi s st ⟨e, y⟩ => by
    subst e y
    refine ⟨.int (lo + i), I2, ?_, st.stp, .int _⟩
    rw [rngD_length] at hi
    unfold rngD
    rw [List.getElem?_map, List.getElem?_range hi]
    rfl
  stop := fun I2 H2 s st => by show n ≤ _; rw [rngD_length]; exact Nat.le_refl _
def sgnD (x : Str) : List D := x.cps.toList.map fun c => D.str ⟨#[c]⟩
theorem jr_str {x : Str} : JRep W K (Its x) I (sgnD x) where
  go := fun i I2 H2 s st hi => by show i < x.cps.size; simpa [sgnD] using hi
  yld := fun i I2 H2 v H3 hi s st ⟨e, c, hc, y⟩ => by
    subst e y
    refine ⟨.str ⟨#[c]⟩, I2, ?_, st.stp, .str _⟩
    unfold sgnD
    rw [List.getElem?_map, Array.getElem?_toList, hc]
    rfl
  stop := fun I2 H2 s st => by show x.cps.size ≤ _; simp [sgnD]
theorem jr_keys {a : Addr} {o : Obj} {ws : List (Key × V)} {kvs : List (Key × D)} (h : I a = some (.frz o (.dK ws))) (k : ws.map (·.1) = kvs.map (·.1)) : JRep W K (Itk a o ws) I (kvs.map fun kv => keyD kv.1) where
  go := fun i I2 H2 s st hi => ⟨st.sub _ _ (s _ _ h), by have := congrArg List.length k; simp at this hi; omega⟩
  yld := fun i I2 H2 x H3 hi s st ⟨e, key, v, hk, y⟩ => by
    subst e y
    have e2 : (kvs.map (·.1))[i]? = some key := by rw [← k, List.getElem?_map, hk]; rfl
    refine ⟨keyD key, I2, ?_, st.stp, ?_⟩
    · rw [List.getElem?_map] at e2 ⊢
      cases q : kvs[i]? with
      | none => rw [q] at e2; cases e2
      | some p => rw [q] at e2; cases e2; rfl
    · cases key with
      | inl n => exact .int n
      | inr n => exact .str n
  stop := fun I2 H2 s st => ⟨st.sub _ _ (s _ _ h), by have := congrArg List.length k; simp at this ⊢; omega⟩
/-- a list, a tuple, a text, whichever comes -/
def iVal (K : PySem.W.Frag) (te : TE) : TI := fun σ H R => te σ H fun x H1 => (∃ a xs, x = .ref a ∧ SqL K H1 a xs ∧ R (Itl K a) H1) ∨ (∃ a xs, x = .ref a ∧ SqT K H1 a xs ∧ R (Itt K a) H1) ∨ (∃ z, x = .str z ∧ R (Its z) H1) ∨ ∃ d o kvs, x = .ref d ∧ H1 d = some (.frz o (.dK kvs)) ∧ R (Itk d o kvs) H1
theorem pi_val {e : Expr} {t : TE} (h : PE X e t) : PI X tg e (iVal X.K t) := by
  refine ⟨fun pn s0 σ0 H0 R0 J0 q0 => thn (h.run pn s0 σ0 H0 _ J0 q0) fun u s1 hu => ?_⟩
  obtain ⟨x, H1, J1, ru, c⟩ := hu
  rcases c with ⟨a, xs, rfl, hx, q⟩ | ⟨a, xs, rfl, hx, q⟩ | ⟨z, rfl, q⟩ | ⟨d, o, kvs, rfl, hd, q⟩
  · cases ru
    obtain ⟨its, _, pl, _⟩ := J1.list hx
    exact PySem.wpAny_pyIter_list pl.isList (pi_one (tk := s1.toks) J1 _ (turn_list a _) ⟨_, Heap.get?_push_size _ rfl, rfl, rfl⟩ q)
  · cases ru
    obtain ⟨its, _, pl, _⟩ := J1.tuple hx
    exact PySem.wpAny_pyIter_tuple (show s1.heap.IsTuple a its.toArray from pl) (pi_one (tk := s1.toks) J1 _ (turn_tuple a _) ⟨_, Heap.get?_push_size _ rfl, rfl, rfl⟩ q)
  · obtain ⟨t, rfl⟩ := ru
    cases hz : z.cps.all (· < 128)
    · exact PySem.wpAny_pyIter_wide hz (pi_one (tk := s1.toks) J1 _ (turn_str _ z t _ (.inr rfl)) ⟨_, Heap.get?_push_size _ rfl, rfl, rfl⟩ q)
    · exact PySem.wpAny_pyIter_ascii hz (pi_one (tk := s1.toks) J1 _ (turn_str _ z t _ (.inl rfl)) ⟨_, Heap.get?_push_size _ rfl, rfl, rfl⟩ q)
  · cases ru
    obtain ⟨hs, hgd, hx, es, ep, vs, hdt, hsz, kv, hm⟩ := J1.frzK hd
    refine iter_keys hs hgd hx hdt (pi_one (tk := s1.toks) J1 _ (turn_keys _ hdt) ⟨_, Heap.get?_push_size _ rfl, rfl, ?_⟩ q)
    rw [hsz]
    rfl
/-- what a for may walk -/
def itemsD : D → (List D → Prop) → Prop
  | .lst ds, Q => Q ds
  | .tup ds, Q => Q ds
  | .str x, Q => Q (sgnD x)
  | .dfz kvs, Q => Q (kvs.map fun kv => keyD kv.1)
  | _, _ => False
theorem itemsD.mono {d : D} {Q Q' : List D → Prop} (k : ∀ ds, Q ds → Q' ds) (h : itemsD d Q) : itemsD d Q' := by
  cases d <;> first | exact h.elim | exact k _ h
theorem di_seq (he : DE F X e te) : DI F X tg e (fun ρ Q => te ρ fun d => itemsD d Q) := by
  refine ⟨fun ρ Q Q' k q => he.mono _ _ _ (fun d => itemsD.mono k) q, (pi_val he.run).imp fun σ H R ⟨I, ρ, A, q⟩ => rdE_next he.mono A q fun d v I' H' p s rv => ?_⟩
  cases rv with
  | tup a r => exact .inr (.inl ⟨_, _, rfl, Same.seqT s.st.sub a, p _ _ _ s (jr_tup a r)⟩)
  | lst a r => exact .inl ⟨_, _, rfl, .of (s.st.sub _ _ a), p _ _ _ s (jr_list a r)⟩
  | str x => exact .inr (.inr (.inl ⟨_, rfl, p _ _ _ s jr_str⟩))
  | dfz a k r => exact .inr (.inr (.inr ⟨_, _, _, rfl, s.st.sub _ _ a, p _ _ _ s (jr_keys a k)⟩))
  | ptp _ _ _ => exact p.elim
  | non => exact p.elim
  | bl b => exact p.elim
  | int b => exact p.elim
  | dic _ _ _ => exact p.elim
  | obj _ _ _ => exact p.elim
  | opq _ => exact p.elim
theorem di_range1 (hm : X.mg "range" = none) (ha : DA F X [e] ta) (hg : Gl X "range" := by rfl) (hs : starEach [e] X.env = [(false, eval e X.env)] := by rfl) : DI F X tg (.Call (.Name "range" p) [e] [] pos) (fun ρ Q => ta ρ fun ds => ∃ j : Int, ds = [.int j] ∧ -(2 ^ 62) ≤ j ∧ j < 2 ^ 62 ∧ Q (rngD 0 j.toNat)) := by
  refine ⟨fun ρ Q Q' k q => ha.mono _ _ _ (fun ds ⟨j, e, a, b, q⟩ => ⟨j, e, a, b, k _ q⟩) q, (pi_range1 hg hm ha.run hs).imp fun σ H R ⟨I, ρ, A, q⟩ => rdA_next ha.mono A q fun ds vs I' H' p s rs => ?_⟩
  obtain ⟨j, rfl, a, b, q⟩ := p
  cases rs with
  | cons r1 r2 =>
    cases r2
    cases r1
    exact ⟨j, rfl, a, b, q _ _ _ s jr_range⟩
def zipD : List D → (List D → Prop) → Prop
  | [.lst xs, .lst ys], Q => Q (List.zipWith (fun d e => .tup [d, e]) xs ys)
  | [.tup xs, .tup ys], Q => Q (List.zipWith (fun d e => .tup [d, e]) xs ys)
  | _, _ => False
theorem zipD.mono {ds : List D} {Q Q' : List D → Prop} (k : ∀ ds, Q ds → Q' ds) (h : zipD ds Q) : zipD ds Q' := by
  unfold zipD at h ⊢
  split at h <;> first | exact k _ h | exact h.elim
end
def forD (g : DGT) (tb : DTS) (Z : DEnds) : List D → DEnv → Prop
  | [], ρ => Z.nx ρ
  | d :: ds, ρ => g d ρ fun ρ2 => tb { Z with nx := forD g tb Z ds, ct := forD g tb Z ds, bk := Z.nx } ρ2
theorem forD.mono {F : Fx} {X : Cx} {tg : Expr} {js : List Nat} {g : DGT} {body : List Stmt} {tb : DTS} (hg : DG F X tg js g) (hb : DSts F X body tb) {Z Z' : DEnds} (l : DEnds.le Z Z') : ∀ (ds : List D) (ρ : DEnv), forD g tb Z ds ρ → forD g tb Z' ds ρ
  | [], ρ, h => l.nx _ h
  | d :: ds, ρ, h => hg.mono _ _ _ _ (fun ρ2 q => hb.mono { Z with nx := forD g tb Z ds, ct := forD g tb Z ds, bk := Z.nx } _ _ ⟨forD.mono hg hb l ds, l.rt, l.nx, forD.mono hg hb l ds, l.ro⟩ q) h
section
variable {F : Fx} {X : Cx} {tg iter c : Expr} {js : List Nat} {g : DGT} {body : List Stmt} {tb : DTS} {ti : DAT} {tc : DB} {pos : Pos}
theorem ds_for (hp : PassesOwn (model X.prog X.w) X.A X.env X.xe) (hc : X.calm = true) (hi : DI F X tg iter ti) (hg : DG F X tg js g) (hb : DSts F X body tb) (hs : ∀ x, foldedSetIterable iter X.env x = pure x := by intro _; rfl) : DSt F X (.For tg iter body [] pos) (fun Z ρ => ti ρ fun ds => forD g tb Z ds ρ) := by
  refine ⟨fun Z Z' ρ l q => hi.mono _ _ _ (fun ds => forD.mono hg hb l ds ρ) q, (ps_for hp hc hi.run hg.run hb.run hs).imp fun Z σ H ⟨I, ρ, A, q⟩ => ?_⟩
  refine ⟨I, ρ, A, hi.mono _ _ _ (fun ds q J I' H' s jr => ?_) q⟩
  refine ⟨fun i m σ' H2 => m = ds.length - i ∧ i ≤ ds.length ∧ ∃ I2 ρ2, At F X.K I2 ρ2 σ' H2 ∧ Same I' I2 ∧ forD g tb (ends F X.K I' Z) (ds.drop i) ρ2, ⟨ds.length, by simp, Nat.zero_le _, I', ρ, A.step s, Same.refl _, by simpa using forD.mono hg hb (ends.le s.i) ds ρ q⟩, ?_⟩
  rintro i m σ' H2 ⟨rfl, hi', I2, ρ2, A2, s2, q2⟩
  by_cases hlt : i < ds.length
  · refine .inr ⟨jr.go i I2 H2 s2 A2.st hlt, fun σ3 H3 => ∃ I3 ρ3, At F X.K I3 ρ3 σ3 H3 ∧ Same I' I3 ∧ forD g tb (ends F X.K I' Z) (ds.drop (i + 1)) ρ3, fun σ3 H3 ⟨I3, ρ3, A3, s3, q3⟩ => ⟨ds.length - (i + 1), by omega, rfl, hlt, I3, ρ3, A3, s3, q3⟩, fun x H3 y => ?_⟩
    obtain ⟨d, I3, hd, st3, rx⟩ := jr.yld i I2 H2 x H3 hlt s2 A2.st y
    rw [List.drop_eq_getElem_cons hlt] at q2
    have hd' : ds[i] = d := by
      rw [List.getElem?_eq_getElem hlt] at hd
      exact Option.some.inj hd
    rw [hd'] at q2
    refine ⟨I3, ρ2, d, A2.step st3, rx, hg.mono _ _ _ _ (fun ρ4 q4 I4 σ4 H4 A4 s4 _ => ?_) q2⟩
    have s4' : Same I' I4 := Same.trans (Same.trans s2 st3.i) s4.i
    refine ⟨I4, ρ4, A4, hb.mono { ends F X.K I' Z with nx := forD g tb (ends F X.K I' Z) (ds.drop (i + 1)), ct := forD g tb (ends F X.K I' Z) (ds.drop (i + 1)), bk := (ends F X.K I' Z).nx } _ _ ⟨fun ρ5 q5 I5 σ5 H5 s5 A5 => ⟨I5, ρ5, A5, Same.trans s4' s5, q5⟩, fun d q => q, fun ρ5 q5 I5 σ5 H5 s5 A5 => q5 I5 σ5 H5 (Same.trans s4' s5) A5, fun ρ5 q5 I5 σ5 H5 s5 A5 => ⟨I5, ρ5, A5, Same.trans s4' s5, q5⟩, fun d q => q⟩ q4⟩
  · have e : i = ds.length := by omega
    subst e
    rw [List.drop_length] at q2
    exact .inl ⟨jr.stop I2 H2 s2 A2.st, q2 _ _ _ s2 A2⟩
end
end Dk
namespace Dk
open PySem L2
open PyProof.Rows (envOfC)
def wipeD (ρ : DEnv) : List Nat → DEnv
  | [] => ρ
  | v :: vs => (wipeD ρ vs).set v none
theorem wipeD_length (ρ : DEnv) : ∀ vs : List Nat, (wipeD ρ vs).length = ρ.length
  | [] => rfl
  | v :: vs => by unfold wipeD; rw [List.length_set, wipeD_length ρ vs]
theorem wipeD_some {ρ : DEnv} {i : Nat} {e : Ent} : ∀ {vs : List Nat}, (wipeD ρ vs)[i]? = some (some e) → ρ[i]? = some (some e) ∧ i ∉ vs
  | [], h => ⟨h, by simp⟩
  | v :: vs, h => by
    unfold wipeD at h
    rcases set_at h with ⟨_, q⟩ | ⟨hn, q⟩
    · cases q
    · obtain ⟨h1, h2⟩ := wipeD_some q
      exact ⟨h1, by simp [Ne.symm hn, h2]⟩
theorem wipe_at {σ : St} : ∀ {vs : List Nat} {i : Nat}, i ∈ vs → (wipe σ vs)[i]? ≠ some none → i ≥ σ.length
  | [], _, h, _ => by simp at h
  | v :: vs, i, h, hn => by
    unfold wipe at hn
    by_cases e : v = i
    · subst e
      rw [List.getElem?_set] at hn
      simp at hn
      rw [wipe_length] at hn
      exact hn
    · rw [List.getElem?_set_ne e] at hn
      exact wipe_at (by simpa [Ne.symm e] using h) hn
theorem wipe_only {σ σ' : St} {js vs : List Nat} (o : Only js σ σ') (h : ∀ j ∈ js, j ∈ vs) : wipe σ' vs = wipe σ vs := by
  have hl := o.1
  apply List.ext_getElem?
  intro i
  by_cases hi : i ∈ vs
  · by_cases hlt : i < σ.length
    · have a : (wipe σ vs)[i]? = some none := Classical.byContradiction fun z => absurd (wipe_at hi z) (by omega)
      have b : (wipe σ' vs)[i]? = some none := Classical.byContradiction fun z => absurd (wipe_at hi z) (by omega)
      rw [a, b]
    · rw [List.getElem?_eq_none (by rw [wipe_length]; omega), List.getElem?_eq_none (by rw [wipe_length]; omega)]
  · rw [wipe_out hi, wipe_out hi]
    exact o.2 i fun z => hi (h i z)
theorem wipe_wipe (σ : St) (vs : List Nat) : wipe (wipe σ vs) vs = wipe σ vs := by
  apply List.ext_getElem?
  intro i
  by_cases hi : i ∈ vs
  · by_cases hlt : i < σ.length
    · have a : (wipe σ vs)[i]? = some none := Classical.byContradiction fun z => absurd (wipe_at hi z) (by omega)
      have b : (wipe (wipe σ vs) vs)[i]? = some none := Classical.byContradiction fun z => absurd (wipe_at hi z) (by rw [wipe_length]; omega)
      rw [a, b]
    · rw [List.getElem?_eq_none (by rw [wipe_length, wipe_length]; omega), List.getElem?_eq_none (by rw [wipe_length]; omega)]
  · rw [wipe_out hi]
section
variable {F : Fx} {K : PySem.W.Frag} {I H I' H' : Hp} {ρ : DEnv} {σ : St}
theorem At.wipe (a : At F K I ρ σ H) (vs : List Nat) : At F K I (wipeD ρ vs) (wipe σ vs) H := by
  refine ⟨a.stp, by rw [wipeD_length, wipe_length]; exact a.len, fun i e h => ?_, fun i j e e' v hij h1 h2 o1 o2 hv => ?_⟩
  · obtain ⟨h1, h2⟩ := wipeD_some h
    obtain ⟨v, h3, h4⟩ := a.env i e h1
    exact ⟨v, by rw [wipe_out h2]; exact h3, h4⟩
  · obtain ⟨h3, h4⟩ := wipeD_some h1
    obtain ⟨h5, h6⟩ := wipeD_some h2
    rw [wipe_out h4] at hv
    rw [wipe_out h6]
    exact a.dis i j e e' v hij h3 h5 o1 o2 hv
/-- D is no list of a slot's own -/
def Apart (ρ : DEnv) (σ : St) (D : Addr) : Prop := ∀ (i : Nat) e, ρ[i]? = some (some e) → e.isOwn → σ[i]? ≠ some (some (.ref D))
theorem At.apart (a : At F K I ρ σ H) {D : Addr} (h : H D = none) : Apart ρ σ D := fun i e he o hv => by
  obtain ⟨v, h1, h2⟩ := a.env i e he
  rw [hv] at h1
  cases h1
  obtain ⟨p, u, q, w⟩ := h2.own o
  cases q
  rw [w.hp] at h
  cases h
theorem At.write (a : At F K I ρ σ H) {D : Addr} (o : HO) (hI : I D = none) (hm : ¬ F.W.mv D) (hB : F.B D = none) (hp : Apart ρ σ D) : At F K I ρ σ (upd H D o) := by
  refine ⟨⟨a.stp.i, ⟨fun b u e => ?_, a.st.imm, F.W.frame (.refl _) (fun b m => upd_ne fun z => hm (z ▸ m)) a.st.inv⟩, fun b u e m => ?_, a.stp.new⟩, a.len, fun i e h => ?_, a.dis⟩
  · rw [upd_ne (ne_of_none e hI)]; exact a.st.sub _ _ e
  · rw [upd_ne (ne_of_none e hB)]; exact a.stp.h _ _ e m
  · obtain ⟨v, h1, h2⟩ := a.env i e h
    refine ⟨v, h1, ?_⟩
    rcases h2 with ⟨d, rfl, r⟩ | ⟨p, u, rfl, w⟩
    · exact .inl ⟨d, rfl, r⟩
    · exact .inr ⟨p, u, rfl, by rw [upd_ne fun z => by subst z; exact hp i _ h w.rep.isOwn h1]; exact w.hp, w.rep, w.ni, w.nm, w.nb, w.ad⟩
theorem Stp.write {W : Wd} (s : Stp W I H I' H') {D : Addr} (o : HO) (hI : I' D = none) (hm : ¬ W.mv D) (hn : H D = none) : Stp W I H I' (upd H' D o) := by
  refine ⟨s.i, ⟨fun b u e => ?_, s.st.imm, W.frame (.refl _) (fun b m => upd_ne fun z => hm (z ▸ m)) s.st.inv⟩, fun b u e m => ?_, s.new⟩
  · rw [upd_ne (ne_of_none e hI)]; exact s.st.sub _ _ e
  · rw [upd_ne (ne_of_none e hn)]; exact s.h _ _ e m
/-- what was made since stands still from now on -/
theorem Stp.freeze {W : Wd} (s : Stp W I H I' H') {D : Addr} {o : HO} (hI : I' D = none) (hm : ¬ W.mv D) (hn : H D = none) (hD : H' D = some o) : Stp W I H (upd I' D o) H' := by
  refine ⟨fun b u e => ?_, ⟨fun b u e => ?_, fun b u e => ?_, W.frame (.of fun b u e => by rw [upd_ne (ne_of_none e hI)]; exact e) (fun _ _ => rfl) s.st.inv⟩, s.h, fun b u e n => ?_⟩
  · have e' := s.i _ _ e
    rw [upd_ne (ne_of_none e' hI)]; exact e'
  · by_cases hb : b = D
    · subst hb; rw [upd_same] at e; cases e; exact hD
    · rw [upd_ne hb] at e; exact s.st.sub _ _ e
  · by_cases hb : b = D
    · subst hb; exact hm
    · rw [upd_ne hb] at e; exact s.st.imm _ _ e
  · rw [upd_ne (ne_of_none e hn)]; exact s.new _ _ e n
theorem Same.laid {I : Hp} {D : Addr} {o : HO} (h : I D = none) : Same I (upd I D o) := fun b u e => by rw [upd_ne (ne_of_none e h)]; exact e
end
/-- a comprehension's tests -/
structure DIfs (F : Fx) (X : Cx) (ifs : List Expr) (t : DB) : Prop where
  mono : ∀ ρ (Q Q' : Bool → Prop), (∀ d, Q d → Q' d) → t ρ Q → t ρ Q'
  run : PTs X ifs (rdT F X.K t)
theorem _root_.L2.PTs.imp {X : Cx} {ifs : List Expr} {t u : TT} (h : PTs X ifs t) (i : ∀ σ H Q, u σ H Q → t σ H Q) : PTs X ifs u := ⟨fun pins s σ H Q J q => h.run pins s σ H Q J (i σ H Q q)⟩
theorem dif_nil {F : Fx} {X : Cx} : DIfs F X [] (fun _ Q => Q true) := ⟨fun _ _ _ k q => k _ q, pts_nil.imp fun σ H Q ⟨I, ρ, A, q⟩ => q I H A.st.stp⟩
theorem dif_one {F : Fx} {X : Cx} {c : Expr} {t : DB} (h : DTest F X c t) : DIfs F X [c] t := ⟨h.mono, pts_one h.run⟩
def lcD (g : DGT) (tc : DB) (te : DT) (ρ : DEnv) : List D → (List D → Prop) → Prop
  | [], Q => Q []
  | d :: ds, Q => g d ρ fun ρ2 => tc ρ2 fun b => if b = true then te ρ2 fun y => lcD g tc te ρ ds fun ys => Q (y :: ys) else lcD g tc te ρ ds Q
section
variable {F : Fx} {X Y : Cx} {elt tg iter : Expr} {ifs : List Expr} {scope : Scope} {own : List (Str × Nat)} {pos : Pos} {ti : DAT} {js : List Nat} {g : DGT} {tc : DB} {te : DT}
theorem lcD.mono (hg : DG F Y tg js g) (ht : DIfs F Y ifs tc) (he : DE F Y elt te) (ρ : DEnv) : ∀ (ds : List D) (Q Q' : List D → Prop), (∀ ys, Q ys → Q' ys) → lcD g tc te ρ ds Q → lcD g tc te ρ ds Q'
  | [], Q, Q', k, h => k _ h
  | d :: ds, Q, Q', k, h => hg.mono _ _ _ _ (fun ρ2 q => ht.mono _ _ _ (fun b q => by
      cases b
      · exact lcD.mono hg ht he ρ ds _ _ k q
      · exact he.mono _ _ _ (fun y q => lcD.mono hg ht he ρ ds _ _ (fun ys => k _) q) q) q) h
/-- the reading of the block -/
theorem lc_run {vs : List Nat} {K : PySem.W.Frag} (hgm : ∀ d ρ (Q Q' : DEnv → Prop), (∀ ρ, Q ρ → Q' ρ) → g d ρ Q → g d ρ Q') (htm : ∀ ρ (Q Q' : Bool → Prop), (∀ d, Q d → Q' d) → tc ρ Q → tc ρ Q') (hem : ∀ ρ (Q Q' : D → Prop), (∀ d, Q d → Q' d) → te ρ Q → te ρ Q')
    (him : ∀ ρ (Q Q' : List D → Prop), (∀ d, Q d → Q' d) → ti ρ Q → ti ρ Q') (hjs : ∀ j ∈ js, j ∈ vs) {σ : St} {H : Hp} {Q : VK} {I : Hp} {ρ : DEnv} (A : At F K I ρ σ H) {P : List D → Prop}
    (q : ti ρ fun ds => ds.length ≤ sizeLine ∧ lcD g tc te (wipeD ρ vs) ds P) (hP : ∀ ys, P ys → ∀ p I' H', Stp F.W I H I' H' → H p = none → I' p = none → F.B p = none → ¬ F.W.mv p → (∃ ws, H' p = some (.lst ws) ∧ Reps K I' ws ys) → Q (.ref p) H') :
    tLc (rdI F K ti) (rdG F K js g) (rdT F K tc) (rdE F K te) vs σ H Q := by
  refine ⟨I, ρ, A, him _ _ _ (fun ds q J I1 H1 s jr E hE => ?_) q⟩
  obtain ⟨hl, q⟩ := q
  have A1 := (A.step s).wipe vs
  have hp : Apart (wipeD ρ vs) (wipe σ vs) E := A1.apart hE
  have hI1 : I1 E = none := s.st.free hE
  have hm : ¬ F.W.mv E := fun m => F.W.live s.st.inv m hE
  have hB : F.B E = none := by
    cases z : F.B E with
    | none => rfl
    | some u => have := A1.stp.h _ _ z hm; rw [hE] at this; cases this
  have hHE : H E = none := by
    cases z : H E with
    | none => rfl
    | some u => have := s.h _ _ z hm; rw [hE] at this; cases this
  refine ⟨fun i m H2 => m = ds.length - i ∧ i ≤ ds.length ∧ ∃ I2 ws ys, At F K I2 (wipeD ρ vs) (wipe σ vs) H2 ∧ Stp F.W I1 H1 I2 H2 ∧ H2 E = some (.lst ws) ∧ I2 E = none ∧ Reps K I2 ws ys ∧ ws.length ≤ i ∧ lcD g tc te (wipeD ρ vs) (ds.drop i) (fun zs => P (ys ++ zs)),
    ⟨ds.length, by simp, Nat.zero_le _, I1, [], [], A1.write _ hI1 hm hB hp, s.st.stp.write _ hI1 hm hE, upd_same, hI1, .nil, Nat.zero_le _, by simpa using q⟩, ?_⟩
  rintro i m H2 ⟨rfl, hi, I2, ws, ys, A2, s2, h2, n2, r2, l2, q2⟩
  by_cases hlt : i < ds.length
  · refine .inr ⟨jr.go i I2 H2 s2.i A2.st hlt, fun H3 => ∃ I3 ws3 ys3, At F K I3 (wipeD ρ vs) (wipe σ vs) H3 ∧ Stp F.W I1 H1 I3 H3 ∧ H3 E = some (.lst ws3) ∧ I3 E = none ∧ Reps K I3 ws3 ys3 ∧ ws3.length ≤ i + 1 ∧ lcD g tc te (wipeD ρ vs) (ds.drop (i + 1)) (fun zs => P (ys3 ++ zs)),
      fun H3 h => ⟨ds.length - (i + 1), by omega, rfl, hlt, h⟩, fun x H3 y => ?_⟩
    obtain ⟨d, I3, hd, st3, rx⟩ := jr.yld i I2 H2 x H3 hlt s2.i A2.st y
    rw [List.drop_eq_getElem_cons hlt] at q2
    rw [List.getElem?_eq_getElem hlt] at hd
    rw [Option.some.inj hd] at q2
    refine ⟨I3, wipeD ρ vs, d, A2.step st3, rx, hgm _ _ _ _ (fun ρ4 q4 I4 σ4 H4 A4 st4 o4 => ⟨(wipe_only o4 hjs).trans (wipe_wipe σ vs), ?_⟩) q2⟩
    refine rdT_next htm A4 q4 fun b I5 H5 q5 st5 => ?_
    have s25 : Stp F.W I2 H2 I5 H5 := (st3.trans st4).trans st5
    cases b
    · exact ⟨I5, ws, ys, A2.step s25, s2.trans s25, s25.h _ _ h2 hm, s25.new _ _ h2 n2, r2.mono s25.i, by omega, q5⟩
    · refine rdE_next hem (A4.step st5) q5 fun y' v I6 H6 q6 st6 rv => ?_
      have s26 : Stp F.W I2 H2 I6 H6 := s25.trans st6
      have n6 := s26.new _ _ h2 n2
      refine ⟨ws, s26.h _ _ h2 hm, by omega, I6, ws ++ [v], ys ++ [y'], (A2.step s26).write _ n6 hm hB hp, (s2.trans s26).write _ n6 hm hE, upd_same, n6, (r2.mono s26.i).append (.cons rv .nil), by simp; omega, ?_⟩
      simpa using q6
  · have e : i = ds.length := by omega
    subst e
    rw [List.drop_length] at q2
    refine .inl ⟨jr.stop I2 H2 s2.i A2.st, hP ys (by simpa [lcD] using q2) E I2 H2 (s.trans s2) hHE n2 hB hm ⟨ws, h2, r2⟩⟩
theorem de_lc (hc : X.calm = true) (hN : X.N.Nodup) (hi : DI F X tg iter ti) (ok : BlkOk X.N X.env.scope scope own)
    (hg : ∀ (s : Shared) (H : Hp) (C : Addr) (cl : List (Str × Addr)) (fp : List Addr), DG F (X.blk s H scope (compEnvC scope cl C X.env) fp) tg js g)
    (ht : ∀ (s : Shared) (H : Hp) (C : Addr) (cl : List (Str × Addr)) (fp : List Addr), DIfs F (X.blk s H scope (compEnvC scope cl C X.env) fp) ifs tc)
    (he : ∀ (s : Shared) (H : Hp) (C : Addr) (cl : List (Str × Addr)) (fp : List Addr), DE F (X.blk s H scope (compEnvC scope cl C X.env) fp) elt te)
    (hjs : ∀ j ∈ js, j ∈ own.map (·.2) := by decide) (hs : ∀ x, foldedSetIterable iter X.env x = pure x := by intro _; rfl) :
    DE F X (.ListComp elt [⟨tg, iter, ifs, 0⟩] scope pos) (fun ρ Q => ti ρ fun ds => ds.length ≤ sizeLine ∧ lcD g tc te (wipeD ρ (own.map (·.2))) ds fun ys => Q (.lst ys)) := by
  have g0 := hg X.s_0 X.H_0 0 [] []
  have t0 := ht X.s_0 X.H_0 0 [] []
  have e0 := he X.s_0 X.H_0 0 [] []
  refine ⟨fun ρ Q Q' k q => hi.mono _ _ _ (fun ds q => ⟨q.1, lcD.mono g0 t0 e0 _ _ _ _ (fun ys => k _) q.2⟩) q, (pe_lc (g := rdG F X.K js g) (tt := rdT F X.K tc) (te := rdE F X.K te) hc hN hi.run ok (fun s H C cl fp => (hg s H C cl fp).run) (fun s H C cl fp => (ht s H C cl fp).run) (fun s H C cl fp => (he s H C cl fp).run) hs).imp fun σ H Q ⟨I, ρ, A, q⟩ => ?_⟩
  refine lc_run g0.mono t0.mono e0.mono hi.mono hjs A q fun ys q p I' H' s hp ip bp mp ⟨ws, h, r⟩ => ?_
  exact q _ _ _ (s.freeze ip mp hp h) (.lst upd_same (r.mono (Same.laid ip)))
/-- y = [..]: the list stands still -/
theorem ds_setLc {i : Nat} {y : Str} {py spos : Pos} (hc : X.calm = true) (hN : X.N.Nodup) (hy : X.N[i]? = some y) (hyl : X.env.scope.names.lookup y = some .local)
    (hsw : swapsWith (.ListComp elt [⟨tg, iter, ifs, 0⟩] scope pos) (some (.Name y py)) spos.line X.env = pure true) (hi : DI F X tg iter ti) (ok : BlkOk X.N X.env.scope scope own)
    (hg : ∀ (s : Shared) (H : Hp) (C : Addr) (cl : List (Str × Addr)) (fp : List Addr), DG F (X.blk s H scope (compEnvC scope cl C X.env) fp) tg js g)
    (ht : ∀ (s : Shared) (H : Hp) (C : Addr) (cl : List (Str × Addr)) (fp : List Addr), DIfs F (X.blk s H scope (compEnvC scope cl C X.env) fp) ifs tc)
    (he : ∀ (s : Shared) (H : Hp) (C : Addr) (cl : List (Str × Addr)) (fp : List Addr), DE F (X.blk s H scope (compEnvC scope cl C X.env) fp) elt te)
    (hjs : ∀ j ∈ js, j ∈ own.map (·.2) := by decide) (hs : ∀ x, foldedSetIterable iter X.env x = pure x := by intro _; rfl) :
    DSt F X (.Assign [.Name y py] (.ListComp elt [⟨tg, iter, ifs, 0⟩] scope pos) spos) (fun Z ρ => ti ρ fun ds => ds.length ≤ sizeLine ∧ lcD g tc te (wipeD ρ (own.map (·.2))) ds fun ys => Z.nx (ρ.set i (some (.dat (.lst ys))))) := by
  have g0 := hg X.s_0 X.H_0 0 [] []
  have t0 := ht X.s_0 X.H_0 0 [] []
  have e0 := he X.s_0 X.H_0 0 [] []
  refine ⟨fun Z Z' ρ l q => hi.mono _ _ _ (fun ds q => ⟨q.1, lcD.mono g0 t0 e0 _ _ _ _ (fun ys => l.nx _) q.2⟩) q, (ps_setLc (g := rdG F X.K js g) (tt := rdT F X.K tc) (te := rdE F X.K te) hc hN hy hyl hsw hi.run ok (fun s H C cl fp => (hg s H C cl fp).run) (fun s H C cl fp => (ht s H C cl fp).run) (fun s H C cl fp => (he s H C cl fp).run) hs).imp fun Z σ H ⟨I, ρ, A, q⟩ => ?_⟩
  refine lc_run g0.mono t0.mono e0.mono hi.mono hjs A q fun ys q p I' H' s hp ip bp mp ⟨ws, h, r⟩ => ?_
  have s' := s.freeze ip mp hp h
  exact q _ _ _ s'.i ((A.step s').set (.lst upd_same (r.mono (Same.laid ip))))
end
end Dk
namespace Dk
open PySem L2
def ixD : D → D → (D → Prop) → Prop
  | .lst xs, .int i, Q => ∃ d, atI xs i = some d ∧ Q d
  | .tup xs, .int i, Q => ∃ d, atI xs i = some d ∧ Q d
  | .str z, .int i, Q => z.length ≤ sizeLine ∧ ∃ c, atI z.cps.toList i = some c ∧ Q (.str ⟨#[c]⟩)
  | .dic kvs, y, Q => ∃ k d, y = keyD k ∧ lookD kvs k = some d ∧ Q d
  | .dfz kvs, y, Q => ∃ k d, y = keyD k ∧ lookD kvs k = some d ∧ Q d
  | _, _, _ => False
theorem mono_ix : Mono2 ixD := by
  intro x y Q Q' k h
  cases x <;> cases y <;> first | exact h.elim | (obtain ⟨d, e, q⟩ := h; exact ⟨d, e, k _ q⟩) | (obtain ⟨l, d, e, q⟩ := h; exact ⟨l, d, e, k _ q⟩) | (obtain ⟨l, d, e, e2, q⟩ := h; exact ⟨l, d, e, e2, k _ q⟩)
def rIxG (K : PySem.W.Frag) : R2 := fun x y H Q => rIx K x y H Q ∨ ∃ a v, x = .ref a ∧ DGet H a y (some v) ∧ Q v H
theorem ix_dict {X : Cx} (hu : X.A.units + 64 < cLine) : IxR X (fun x y H Q => ∃ a v, x = .ref a ∧ DGet H a y (some v) ∧ Q v H) := by
  intro value slice pins s σ H x y v u Q J rx ry h hs
  obtain ⟨a, w, rfl, g, q⟩ := h
  cases rx
  exact PyProof.Rows.tail_any (dict_typeIs J g) PySem.F.slot_dict_getitem.lookup (d_getItem (by omega) J g ry fun w' s3 J3 rw' => ⟨w, H, J3, rw', q⟩) hs
theorem ix_all {X : Cx} (hu : X.A.units + 64 < cLine) : IxR X (rIxG X.K) := ix_seq.or (ix_dict hu)
theorem Reps.atI {K : PySem.W.Frag} {I : Hp} {vs : List V} {ds : List D} {i : Int} {d : D} (r : Reps K I vs ds) (h : atI ds i = some d) : ∃ v, L2.atI vs i = some v ∧ Rep K I v d := by
  unfold L2.atI at h ⊢
  rw [r.length]
  cases e : ixN ds.length i with
  | none => rw [e] at h; cases h
  | some j =>
    rw [e] at h
    obtain ⟨v, h1, h2⟩ := r.get (show ds[j]? = some d from h)
    exact ⟨v, h1, h2⟩
section
variable {F : Fx} {X : Cx} {K : PySem.W.Frag} {I H : Hp} {a b e : Expr} {ta tb te : DT} {pos p2 : Pos}
theorem lf_ix : LiftR F K (rIxG K) ixD := by
  intro x y dx dy I H Q st rx ry h
  cases dx with
  | dic kvs =>
    obtain ⟨k, d, rfl, e, q⟩ := h
    cases rx with
    | @dic p ws _ a kk r =>
      rcases lookD_rep (k := k) kk r with ⟨_, z⟩ | ⟨v, d', h1, h2, h3⟩
      · rw [e] at z; cases z
      · rw [e] at h2
        cases h2
        refine .inr ⟨p, v, rfl, .inl ⟨ws, k, .of (st.sub _ _ a), keyD_rep ry, h1.symm⟩, q _ I H st.stp h3⟩
  | dfz kvs =>
    obtain ⟨k, d, rfl, e, q⟩ := h
    cases rx with
    | @dfz p _ ws _ a kk r =>
      rcases lookD_rep (k := k) kk r with ⟨_, z⟩ | ⟨v, d', h1, h2, h3⟩
      · rw [e] at z; cases z
      · rw [e] at h2
        cases h2
        refine .inr ⟨p, v, rfl, .inl ⟨ws, k, .inr ⟨_, st.sub _ _ a⟩, keyD_rep ry, h1.symm⟩, q _ I H st.stp h3⟩
  | str z =>
    cases dy <;> first | exact h.elim | skip
    cases rx; cases ry
    obtain ⟨l, c, e, q⟩ := h
    exact .inl (.inr (.inr ⟨_, _, c, rfl, rfl, l, e, q _ I H st.stp (.str _)⟩))
  | tup xs =>
    cases dy <;> first | exact h.elim | skip
    cases ry
    cases rx with
    | tup a r =>
      obtain ⟨d, e, q⟩ := h
      obtain ⟨v, h1, h2⟩ := r.atI e
      exact .inl (.inr (.inl ⟨_, _, _, v, rfl, rfl, Same.seqT st.sub a, h1, q _ I H st.stp h2⟩))
  | lst xs =>
    cases dy <;> first | exact h.elim | skip
    cases ry
    cases rx with
    | lst a r =>
      obtain ⟨d, e, q⟩ := h
      obtain ⟨v, h1, h2⟩ := r.atI e
      exact .inl (.inl ⟨_, _, _, v, rfl, rfl, .of (st.sub _ _ a), h1, q _ I H st.stp h2⟩)
  | _ => cases dy <;> exact h.elim
theorem de_at (hu : X.A.units + 64 < cLine) (ha : DE F X a ta) (hb : DE F X b tb) (hs : PlainIx b := by exact fun _ _ => rfl) : DE F X (.Subscript a b pos) (fun ρ Q => ta ρ fun x => tb ρ fun y => ixD x y Q) := de_ix mono_ix (ix_all hu) lf_ix ha hb hs
/-- parts of a slice -/
abbrev DOT := DEnv → (Option Int → Prop) → Prop
def rdO (F : Fx) (K : PySem.W.Frag) (t : DOT) : TO := fun σ H Q => ∃ I ρ, At F K I ρ σ H ∧ t ρ fun o => ∀ I' H', Stp F.W I H I' H' → Q o H'
structure DO (F : Fx) (X : Cx) (e : Option Expr) (t : DOT) : Prop where
  mono : ∀ ρ (Q Q' : Option Int → Prop), (∀ d, Q d → Q' d) → t ρ Q → t ρ Q'
  run : PO X e (rdO F X.K t)
theorem _root_.L2.PO.imp {e : Option Expr} {t u : TO} (h : PO X e t) (i : ∀ σ H Q, u σ H Q → t σ H Q) : PO X e u := ⟨fun pins s σ H Q J q => h.run pins s σ H Q J (i σ H Q q)⟩
theorem do_none : DO F X none (fun _ Q => Q none) := ⟨fun _ _ _ k q => k _ q, po_none.imp fun σ H Q ⟨I, ρ, A, q⟩ => q I H A.st.stp⟩
def intD (d : D) (Q : Int → Prop) : Prop := ∃ i, d = .int i ∧ Q i
theorem do_some (h : DE F X e te) : DO F X (some e) (fun ρ Q => te ρ fun d => intD d fun i => Q (some i)) := by
  refine ⟨fun _ _ _ k q => h.mono _ _ _ (fun d ⟨i, e, q⟩ => ⟨i, e, k _ q⟩) q, (po_some h.run).imp fun σ H Q ⟨I, ρ, A, q⟩ => rdE_next h.mono A q fun d v I' H' p s rv => ?_⟩
  obtain ⟨i, rfl, p⟩ := p
  cases rv
  exact ⟨i, rfl, p I' H' s⟩
def cutD (xs : List D) (lo hi : Option Int) : List D := (xs.drop (HT.sIx xs.length 0 lo)).take (HT.sIx xs.length xs.length hi - HT.sIx xs.length 0 lo)
def sliceD : D → Option Int → Option Int → (D → Prop) → Prop
  | .lst xs, lo, hi, Q => Q (.lst (cutD xs lo hi))
  | .tup xs, lo, hi, Q => Q (.tup (cutD xs lo hi))
  | .str z, lo, hi, Q => z.length ≤ sizeLine ∧ Q (.str (cutS z lo hi))
  | _, _, _, _ => False
theorem sliceD.mono {d : D} {lo hi : Option Int} {Q Q' : D → Prop} (k : ∀ d, Q d → Q' d) (h : sliceD d lo hi Q) : sliceD d lo hi Q' := by
  cases d <;> first | exact h.elim | exact k _ h | exact ⟨h.1, k _ h.2⟩
theorem de_slice {lo hi : Option Expr} {tl th : DOT} (he : DE F X e te) (hl : DO F X lo tl) (hh : DO F X hi th) : DE F X (.Subscript e (.Slice lo hi none p2) pos) (fun ρ Q => te ρ fun d => tl ρ fun l => th ρ fun u => sliceD d l u Q) := by
  refine ⟨fun ρ Q Q' k q => he.mono _ _ _ (fun d q => hl.mono _ _ _ (fun l q => hh.mono _ _ _ (fun u => sliceD.mono k) q) q) q, (pe_slice (sl_list.or (sl_tupA.or sl_str)) he.run hl.run hh.run).imp fun σ H Q ⟨I, ρ, A, q⟩ => rdE_next he.mono A q fun d v I1 H1 q1 s1 rv => ?_⟩
  refine ⟨I1, ρ, A.step s1, hl.mono _ _ _ (fun l q2 I2 H2 s2 => ?_) q1⟩
  refine ⟨I2, ρ, (A.step s1).step s2, hh.mono _ _ _ (fun u q3 I3 H3 s3 => ?_) q2⟩
  have s := (s1.trans s2).trans s3
  have rv := rv.mono (Same.trans s2.i s3.i)
  cases rv with
  | @lst q zs es a r =>
    refine .inl ⟨_, _, rfl, .of (s3.st.sub _ _ a), fun p hp => ?_⟩
    have l' := s3.st.laid hp (.lst (cutV zs l u))
    exact q3 _ _ _ (s.trans l') (.lst upd_same ((r.cut l u).mono l'.i))
  | @tup q zs es a r =>
    refine .inr (.inl ⟨_, _, rfl, Same.seqT s3.st.sub a, fun hw => ?_, fun hw p hp => ?_⟩)
    · have e : cutD es l u = es := by
        unfold cutD
        rw [← r.length, hw.1, hw.2, Nat.sub_zero, List.drop_zero, r.length, List.take_length]
      have q3 : fin F X.K I H Q (.tup (cutD es l u)) := q3
      rw [e] at q3
      exact q3 _ _ _ s (.tup a r)
    · have l' := s3.st.laid hp (.tup (cutV zs l u))
      exact q3 _ _ _ (s.trans l') (.tup (.of upd_same) ((r.cut l u).mono l'.i))
  | str z => exact .inr (.inr ⟨_, rfl, q3.1, q3.2 _ _ _ s (.str _)⟩)
  | non => exact q3.elim
  | bl _ => exact q3.elim
  | int _ => exact q3.elim
  | dic _ _ _ => exact q3.elim
  | obj _ _ _ => exact q3.elim
  | opq _ => exact q3.elim
  | dfz _ _ _ => exact q3.elim
  | ptp _ _ _ => exact q3.elim
def revD : D → (D → Prop) → Prop
  | .lst xs, Q => Q (.lst xs.reverse)
  | _, _ => False
/-- xs[::-1] -/
theorem de_rev {k : Nat} {p1 p2 p3 pos : Pos} (he : DE F X e te) : DE F X (.Subscript e (.Slice none none (some (.UnaryOp .USub (.Constant (.int 1) k p1) p2)) p3) pos) (fun ρ Q => te ρ fun d => revD d Q) := by
  refine ⟨fun ρ Q Q' k q => he.mono _ _ _ (fun d q => by cases d <;> first | exact q.elim | exact k _ q) q, (pe_revL he.run).imp fun σ H Q ⟨I, ρ, A, q⟩ => rdE_next he.mono A q fun d v I1 H1 q1 s rv => ?_⟩
  cases rv with
  | @lst q zs es a r =>
    refine ⟨_, _, rfl, .of (s.st.sub _ _ a), fun p hp => ?_⟩
    have l' := s.st.laid hp (.lst zs.reverse)
    exact q1 _ _ _ (s.trans l') (.lst upd_same (r.reverse.mono l'.i))
  | _ => exact q1.elim
end
def lenD : List D → (D → Prop) → Prop
  | [.lst xs], Q => Q (.int xs.length)
  | [.tup xs], Q => Q (.int xs.length)
  | [.str z], Q => z.length ≤ sizeLine ∧ Q (.int z.length)
  | _, _ => False
def sumD : List D → (D → Prop) → Prop
  | [.lst xs], Q => ∃ ns : List Int, xs = ns.map D.int ∧ Q (.int ns.sum)
  | _, _ => False
def allD : List D → (D → Prop) → Prop
  | [.lst xs], Q => ∃ ns : List Bool, xs = ns.map D.bl ∧ Q (.bl (ns.all id))
  | _, _ => False
def anyD : List D → (D → Prop) → Prop
  | [.lst xs], Q => ∃ ns : List Bool, xs = ns.map D.bl ∧ Q (.bl (ns.any id))
  | _, _ => False
def listD : List D → (D → Prop) → Prop
  | [.lst xs], Q => Q (.lst xs)
  | [.tup xs], Q => Q (.lst xs)
  | _, _ => False
def tupleD : List D → (D → Prop) → Prop
  | [.lst xs], Q => Q (.tup xs)
  | [.tup xs], Q => Q (.tup xs)
  | _, _ => False
def intOfD : List D → (D → Prop) → Prop
  | [.int i], Q => Q (.int i)
  | [.bl b], Q => Q (.int (if b then 1 else 0))
  | [.str z], Q => ∃ n, PySem.intText? z = some n ∧ z.length ≤ 640 ∧ Q (.int n)
  | _, _ => False
section
variable {F : Fx} {X : Cx} {K : PySem.W.Frag}
theorem Reps.one {I : Hp} {vs : List V} {d : D} (h : Reps K I vs [d]) : ∃ v, vs = [v] ∧ Rep K I v d := by
  cases h with
  | cons a b => cases b; exact ⟨_, rfl, a⟩
theorem Reps.two {I : Hp} {vs : List V} {d e : D} (h : Reps K I vs [d, e]) : ∃ v w, vs = [v, w] ∧ Rep K I v d ∧ Rep K I w e := by
  cases h with
  | cons a b =>
    obtain ⟨w, rfl, r⟩ := b.one
    exact ⟨_, _, rfl, a, r⟩
theorem mono_lenD : MonoN lenD := by
  intro ds Q Q' k h
  unfold lenD at h ⊢
  split at h <;> first | exact h.elim | exact k _ h | exact ⟨h.1, k _ h.2⟩ | (obtain ⟨n, e, q⟩ := h; exact ⟨n, e, k _ q⟩) | (obtain ⟨n, e, l, q⟩ := h; exact ⟨n, e, l, k _ q⟩)
theorem mono_sumD : MonoN sumD := by
  intro ds Q Q' k h
  unfold sumD at h ⊢
  split at h <;> first | exact h.elim | exact k _ h | exact ⟨h.1, k _ h.2⟩ | (obtain ⟨n, e, q⟩ := h; exact ⟨n, e, k _ q⟩) | (obtain ⟨n, e, l, q⟩ := h; exact ⟨n, e, l, k _ q⟩)
theorem mono_allD : MonoN allD := by
  intro ds Q Q' k h
  unfold allD at h ⊢
  split at h <;> first | exact h.elim | exact k _ h | exact ⟨h.1, k _ h.2⟩ | (obtain ⟨n, e, q⟩ := h; exact ⟨n, e, k _ q⟩) | (obtain ⟨n, e, l, q⟩ := h; exact ⟨n, e, l, k _ q⟩)
theorem mono_anyD : MonoN anyD := by
  intro ds Q Q' k h
  unfold anyD at h ⊢
  split at h <;> first | exact h.elim | exact k _ h | exact ⟨h.1, k _ h.2⟩ | (obtain ⟨n, e, q⟩ := h; exact ⟨n, e, k _ q⟩) | (obtain ⟨n, e, l, q⟩ := h; exact ⟨n, e, l, k _ q⟩)
theorem mono_tupleD : MonoN tupleD := by
  intro ds Q Q' k h
  unfold tupleD at h ⊢
  split at h <;> first | exact h.elim | exact k _ h | exact ⟨h.1, k _ h.2⟩ | (obtain ⟨n, e, q⟩ := h; exact ⟨n, e, k _ q⟩) | (obtain ⟨n, e, l, q⟩ := h; exact ⟨n, e, l, k _ q⟩)
theorem mono_intOfD : MonoN intOfD := by
  intro ds Q Q' k h
  unfold intOfD at h ⊢
  split at h <;> first | exact h.elim | exact k _ h | exact ⟨h.1, k _ h.2⟩ | (obtain ⟨n, e, q⟩ := h; exact ⟨n, e, k _ q⟩) | (obtain ⟨n, e, l, q⟩ := h; exact ⟨n, e, l, k _ q⟩)
theorem lc_len : LiftC F K (fun xs H Q => ∃ x n, xs = [x] ∧ LenV K x H n ∧ Q (.int n) H) lenD := by
  intro vs ds I H Q st rs h
  unfold lenD at h
  split at h
  · obtain ⟨v, rfl, r⟩ := rs.one
    cases r with
    | lst a r => exact ⟨_, _, rfl, .inl ⟨_, .of (st.sub _ _ a), r.length.symm⟩, h _ I H st.stp (.int _)⟩
  · obtain ⟨v, rfl, r⟩ := rs.one
    cases r with
    | tup a r => exact ⟨_, _, rfl, .inr ⟨_, Same.seqT st.sub a, r.length.symm⟩, h _ I H st.stp (.int _)⟩
  · obtain ⟨v, rfl, r⟩ := rs.one
    cases r
    exact ⟨_, _, rfl, ⟨h.1, rfl⟩, h.2 _ I H st.stp (.int _)⟩
  · exact h.elim
theorem lc_sum : LiftC F K (rSum K) sumD := by
  intro vs ds I H Q st rs h
  unfold sumD at h
  split at h
  · obtain ⟨v, rfl, r⟩ := rs.one
    obtain ⟨ns, rfl, q⟩ := h
    cases r with
    | lst a r => exact ⟨_, ns, rfl, r.intsV ▸ .of (st.sub _ _ a), q _ I H st.stp (.int _)⟩
  · exact h.elim
theorem lc_all : LiftC F K (rAll K) allD := by
  intro vs ds I H Q st rs h
  unfold allD at h
  split at h
  · obtain ⟨v, rfl, r⟩ := rs.one
    obtain ⟨ns, rfl, q⟩ := h
    cases r with
    | lst a r => exact ⟨_, ns, rfl, r.blsV ▸ .of (st.sub _ _ a), q _ I H st.stp (.bl _)⟩
  · exact h.elim
theorem lc_any : LiftC F K (rAny K) anyD := by
  intro vs ds I H Q st rs h
  unfold anyD at h
  split at h
  · obtain ⟨v, rfl, r⟩ := rs.one
    obtain ⟨ns, rfl, q⟩ := h
    cases r with
    | lst a r => exact ⟨_, ns, rfl, r.blsV ▸ .of (st.sub _ _ a), q _ I H st.stp (.bl _)⟩
  · exact h.elim
theorem lc_list : LiftC F K (fun xs H Q => ∃ p ys, xs = [.ref p] ∧ (SqL K H p ys ∨ SqT K H p ys) ∧ ∀ l, H l = none → Q (.ref l) (upd H l (.lst ys))) listD := by
  intro vs ds I H Q st rs h
  unfold listD at h
  split at h
  · obtain ⟨v, rfl, r⟩ := rs.one
    cases r with
    | @lst q zs es a r =>
      refine ⟨_, _, rfl, .inl (.of (st.sub _ _ a)), fun p hp => ?_⟩
      have l := st.laid hp (.lst zs)
      exact h _ _ _ l (.lst upd_same (r.mono l.i))
  · obtain ⟨v, rfl, r⟩ := rs.one
    cases r with
    | @tup q zs es a r =>
      refine ⟨_, _, rfl, .inr (Same.seqT st.sub a), fun p hp => ?_⟩
      have l := st.laid hp (.lst zs)
      exact h _ _ _ l (.lst upd_same (r.mono l.i))
  · exact h.elim
theorem lc_tuple : LiftC F K (fun xs H Q => ∃ p ys, xs = [.ref p] ∧ ((SqL K H p ys ∧ ∀ l, H l = none → Q (.ref l) (upd H l (.tup ys))) ∨ (SqT K H p ys ∧ Q (.ref p) H))) tupleD := by
  intro vs ds I H Q st rs h
  unfold tupleD at h
  split at h
  · obtain ⟨v, rfl, r⟩ := rs.one
    cases r with
    | @lst q zs es a r =>
      refine ⟨_, _, rfl, .inl ⟨.of (st.sub _ _ a), fun p hp => ?_⟩⟩
      have l := st.laid hp (.tup zs)
      exact h _ _ _ l (.tup (.of upd_same) (r.mono l.i))
  · obtain ⟨v, rfl, r⟩ := rs.one
    cases r with
    | tup a r => exact ⟨_, _, rfl, .inr ⟨Same.seqT st.sub a, h _ _ _ st.stp (.tup a r)⟩⟩
  · exact h.elim
theorem lc_int : LiftC F K (fun xs H Q => ((∃ i, xs = [.int i] ∧ Q (.int i) H) ∨ ∃ k, xs = [.bl k] ∧ Q (.int (if k then 1 else 0)) H) ∨ ∃ a n, xs = [.str a] ∧ PySem.intText? a = some n ∧ a.length ≤ 640 ∧ Q (.int n) H) intOfD := by
  intro vs ds I H Q st rs h
  unfold intOfD at h
  split at h
  · obtain ⟨v, rfl, r⟩ := rs.one
    cases r
    exact .inl (.inl ⟨_, rfl, h _ I H st.stp (.int _)⟩)
  · obtain ⟨v, rfl, r⟩ := rs.one
    cases r
    exact .inl (.inr ⟨_, rfl, h _ I H st.stp (.int _)⟩)
  · obtain ⟨v, rfl, r⟩ := rs.one
    obtain ⟨n, e, l, q⟩ := h
    cases r
    exact .inr ⟨_, n, rfl, e, l, q _ I H st.stp (.int _)⟩
  · exact h.elim
variable {p pos : Pos} {e e2 : Expr} {es : List Expr} {t : DAT} {te : DT}
theorem de_len (hm : X.mg "len" = none) (ha : DA F X [e] t) (hg : Gl X "len" := by rfl) (he : starEach [e] X.env = (false, eval e X.env) :: starEach [] X.env := by rfl) : DE F X (.Call (.Name "len" p) [e] [] pos) (fun ρ Q => t ρ fun ds => lenD ds Q) := de_callB mono_lenD lc_len call_len hm PySem.boot_len ha hg (by decide) (by decide) he rfl
theorem de_sum (hc : X.calm = true) (hm : X.mg "sum" = none) (ha : DA F X [e] t) (hg : Gl X "sum" := by rfl) (he : starEach [e] X.env = (false, eval e X.env) :: starEach [] X.env := by rfl) : DE F X (.Call (.Name "sum" p) [e] [] pos) (fun ρ Q => t ρ fun ds => sumD ds Q) := de_callB mono_sumD lc_sum (cr_sum hc) hm (by decide +kernel) ha hg (by decide) (by decide) he rfl
theorem de_all (hc : X.calm = true) (hm : X.mg "all" = none) (ha : DA F X [e] t) (hg : Gl X "all" := by rfl) (he : starEach [e] X.env = (false, eval e X.env) :: starEach [] X.env := by rfl) : DE F X (.Call (.Name "all" p) [e] [] pos) (fun ρ Q => t ρ fun ds => allD ds Q) := de_callB mono_allD lc_all (cr_all hc) hm (by decide +kernel) ha hg (by decide) (by decide) he rfl
theorem de_any (hc : X.calm = true) (hm : X.mg "any" = none) (ha : DA F X [e] t) (hg : Gl X "any" := by rfl) (he : starEach [e] X.env = (false, eval e X.env) :: starEach [] X.env := by rfl) : DE F X (.Call (.Name "any" p) [e] [] pos) (fun ρ Q => t ρ fun ds => anyD ds Q) := de_callB mono_anyD lc_any (cr_any hc) hm (by decide +kernel) ha hg (by decide) (by decide) he rfl
theorem de_tuple (hm : X.mg "tuple" = none) (ha : DA F X [e] t) (hg : Gl X "tuple" := by rfl) (he : starEach [e] X.env = (false, eval e X.env) :: starEach [] X.env := by rfl) : DE F X (.Call (.Name "tuple" p) [e] [] pos) (fun ρ Q => t ρ fun ds => tupleD ds Q) := de_callT mono_tupleD lc_tuple call_tuple_of hm (by decide +kernel) ha hg (by decide) (by decide) he rfl
theorem de_intOf (hm : X.mg "int" = none) (ha : DA F X [e] t) (hg : Gl X "int" := by rfl) (he : starEach [e] X.env = (false, eval e X.env) :: starEach [] X.env := by rfl) : DE F X (.Call (.Name "int" p) [e] [] pos) (fun ρ Q => t ρ fun ds => intOfD ds Q) := de_callT mono_intOfD lc_int (call_int1.or call_int_str) hm (by decide +kernel) ha hg (by decide) (by decide) he rfl
end
end Dk
namespace Dk
open PySem L2
section
variable {F : Fx} {X : Cx} {K : PySem.W.Frag} {I H I' H' : Hp} {ρ : DEnv} {σ : St} {e : Expr} {es : List Expr} {te : DT} {ta : DAT} {t : DTS} {sts : List Stmt} {pos : Pos}
theorem At.newOwn (a : At F K I ρ σ H) {i : Nat} {p : Addr} {en : Ent} {o : HO} (hp : H p = none) (r : OwnRep K I en o) (ad : ∀ q, en.adr = some q → p = q := by intro _ h; cases h) : At F K I (ρ.set i (some en)) (σ.set i (some (.ref p))) (upd H p o) := by
  have hm : ¬ F.W.mv p := fun m => F.W.live a.st.inv m hp
  have hI := a.st.free hp
  have hB : F.B p = none := by
    cases z : F.B p with
    | none => rfl
    | some u => have := a.stp.h _ _ z hm; rw [hp] at this; cases this
  have ap := a.apart hp
  have w := a.write o hI hm hB ap
  refine ⟨w.stp, by simp [a.len], fun j e h => ?_, fun j l e e' v hjl h1 h2 o1 o2 hv => ?_⟩
  · rcases set_at h with ⟨rfl, q⟩ | ⟨hij, q⟩
    · cases q
      have hi : i < ρ.length := by simpa using (List.getElem?_eq_some_iff.mp h).1
      exact ⟨.ref p, by rw [List.getElem?_set]; simp [← a.len, hi], .inr ⟨p, o, rfl, upd_same, r, hI, hm, hB, ad⟩⟩
    · obtain ⟨v, h1, h2⟩ := w.env j e q
      exact ⟨v, by rw [List.getElem?_set_ne hij]; exact h1, h2⟩
  · rcases set_at h1 with ⟨rfl, q⟩ | ⟨hij, q⟩
    · cases q
      have hi : i < ρ.length := by simpa using (List.getElem?_eq_some_iff.mp h1).1
      have hv' : v = .ref p := by
        rw [List.getElem?_set] at hv
        simp [← a.len, hi] at hv
        exact hv.symm
      subst hv'
      rcases set_at h2 with ⟨rfl, q'⟩ | ⟨hil, q'⟩
      · exact absurd rfl hjl
      · rw [List.getElem?_set_ne hil]
        exact ap l e' q' o2
    · rcases set_at h2 with ⟨rfl, q'⟩ | ⟨hil, q'⟩
      · cases q'
        rw [List.getElem?_set_ne hij] at hv
        intro z
        have hi : i < ρ.length := by simpa using (List.getElem?_eq_some_iff.mp h2).1
        rw [List.getElem?_set] at z
        simp [← a.len, hi] at z
        subst z
        exact ap j e q o1 hv
      · rw [List.getElem?_set_ne hij] at hv
        rw [List.getElem?_set_ne hil]
        exact a.dis j l e e' v hjl q q' o1 o2 hv
theorem OwnAt.other {e : Ent} {p q : Addr} {o u : HO} (h : OwnAt F K I H e p o) (n : p ≠ q) : OwnAt F K I (upd H q u) e p o := ⟨by rw [upd_ne n]; exact h.hp, h.rep, h.ni, h.nm, h.nb, h.ad⟩
/-- .. turned -/
theorem At.turnOwn (a : At F K I ρ σ H) {i : Nat} {en : Ent} (h : ρ[i]? = some (some en)) (ho : en.isOwn) : ∃ p o, σ[i]? = some (some (.ref p)) ∧ OwnAt F K I H en p o ∧ ∀ en' o', OwnRep K I en' o' → (∀ q, en'.adr = some q → p = q) → At F K I (ρ.set i (some en')) σ (upd H p o') := by
  obtain ⟨v, h1, h2⟩ := a.env i _ h
  obtain ⟨p, o, rfl, w⟩ := h2.own ho
  refine ⟨p, o, h1, w, fun en' o' rw' ad => ?_⟩
  refine ⟨⟨a.stp.i, ⟨fun c u e => ?_, a.st.imm, F.W.frame (.refl _) (fun c hm => upd_ne fun z => w.nm (z ▸ hm)) a.st.inv⟩, fun c u e hm => ?_, a.stp.new⟩, by simp [a.len], fun j e hj => ?_, fun j l e e' v hjl h3 h4 o1 o2 hv => ?_⟩
  · rw [upd_ne (ne_of_none e w.ni)]; exact a.st.sub _ _ e
  · rw [upd_ne (ne_of_none e w.nb)]; exact a.stp.h _ _ e hm
  · rcases set_at hj with ⟨rfl, q⟩ | ⟨hij, q⟩
    · cases q
      exact ⟨.ref p, h1, .inr ⟨p, o', rfl, upd_same, rw', w.ni, w.nm, w.nb, ad⟩⟩
    · obtain ⟨u, h3, h4⟩ := a.env j e q
      refine ⟨u, h3, ?_⟩
      rcases h4 with ⟨d, rfl, r⟩ | ⟨p', o2, rfl, w'⟩
      · exact .inl ⟨d, rfl, r⟩
      · exact .inr ⟨p', o2, rfl, w'.other fun z => by subst z; exact a.dis i j _ _ _ hij h q ho w'.rep.isOwn h1 h3⟩
  · have back : ∀ (k : Nat) (f : Ent), (ρ.set i (some en'))[k]? = some (some f) → f.isOwn → ∃ f', ρ[k]? = some (some f') ∧ f'.isOwn := fun k f hk hf => by
      rcases set_at hk with ⟨rfl, _⟩ | ⟨_, q⟩
      · exact ⟨_, h, ho⟩
      · exact ⟨f, q, hf⟩
    obtain ⟨f, q1, p1⟩ := back j e h3 o1
    obtain ⟨f', q2, p2⟩ := back l e' h4 o2
    exact a.dis j l f f' v hjl q1 q2 p1 p2 hv
/-- .. it stands still from now on -/
theorem At.freeze (a : At F K I ρ σ H) {i : Nat} {en : Ent} (h : ρ[i]? = some (some en)) (ho : en.isOwn) : ∃ p o, σ[i]? = some (some (.ref p)) ∧ OwnAt F K I H en p o ∧ Same I (upd I p o) ∧ At F K (upd I p o) (ρ.set i (some (.dat en.toD))) σ H := by
  obtain ⟨v, h1, h2⟩ := a.env i _ h
  obtain ⟨p, o, rfl, w⟩ := h2.own ho
  have s : Same I (upd I p o) := Same.laid w.ni
  refine ⟨p, o, h1, w, s, a.stp.freeze w.ni w.nm w.nb w.hp, by simp [a.len], fun j e hj => ?_, fun j l e e' v hjl h3 h4 o1 o2 hv => ?_⟩
  · rcases set_at hj with ⟨rfl, q⟩ | ⟨hij, q⟩
    · cases q
      exact ⟨.ref p, h1, .inl ⟨_, rfl, (w.rep.mono s).rep upd_same w.ad⟩⟩
    · obtain ⟨u, h3, h4⟩ := a.env j e q
      refine ⟨u, h3, ?_⟩
      rcases h4 with ⟨d, rfl, r⟩ | ⟨p', o2, rfl, w'⟩
      · exact .inl ⟨d, rfl, r.mono s⟩
      · exact .inr ⟨p', o2, rfl, w'.hp, w'.rep.mono s, by rw [upd_ne fun z => by subst z; exact a.dis i j _ _ _ hij h q ho w'.rep.isOwn h1 h3]; exact w'.ni, w'.nm, w'.nb, w'.ad⟩
  · have back : ∀ (k : Nat) (f : Ent), (ρ.set i (some (.dat en.toD)))[k]? = some (some f) → f.isOwn → ρ[k]? = some (some f) := fun k f hk hf => by
      rcases set_at hk with ⟨rfl, q⟩ | ⟨_, q⟩
      · cases q; exact hf.elim
      · exact q
    exact a.dis j l e e' v hjl (back j e h3 o1) (back l e' h4 o2) o1 o2 hv
/-- x = [..], to grow -/
theorem ds_own {x : Str} {pos' p2 : Pos} (i : Nat) (ha : DA F X es ta) (hN : X.N.Nodup) (hi : X.N[i]? = some x := by rfl) (hx : Loc X.env.scope x := by first | exact Or.inl rfl | exact Or.inr rfl) (hs : swapsWith (.List es p2) (some (.Name x pos')) pos.line X.env = pure false := by rfl)
    (hf : X.fn x = true ∨ X.env.scope.names.lookup x = some .local := by first | exact .inl rfl | exact .inr rfl | assumption) : DSt F X (.Assign [.Name x pos'] (.List es p2) pos) (fun Z ρ => ta ρ fun ds => ds.length ≤ sizeLine ∧ Z.nx (ρ.set i (some (.own ds)))) := by
  refine ⟨fun Z Z' ρ l q => ha.mono _ _ _ (fun d q => ⟨q.1, l.nx _ q.2⟩) q, (ps_set hN hi hx (pe_lst ha.run) hs hf).imp fun Z σ H ⟨I, ρ, A, q⟩ => rdA_next ha.mono A q fun ds vs I' H' p s rs => ⟨rs.length ▸ p.1, fun a hz => ?_⟩⟩
  exact p.2 I' _ _ s.i ((A.step s).newOwn hz ⟨_, rfl, rs⟩)
/-- x.append(e) -/
theorem ds_append {x : Str} {p1 p2 p3 : Pos} (i : Nat) (he : DE F X e te) (hN : X.N[i]? = some x := by rfl) (hv : Vis X.env.scope x := by first | exact Or.inl rfl | exact Or.inr (Or.inl rfl) | exact Or.inr (Or.inr rfl)) (hd : (x == ("__debug__" : Str)) = false := by decide)
    (hcd : (x == ("__classdict__" : Str)) = false := by decide) (hsw : swapsWith (.Call (.Attribute (.Name x p1) "append" p2) [e] [] p3) none pos.line X.env = pure false := by rfl) (hbase : attributeBase (.Name x p1) "append" X.env (eval (.Name x p1) X.env) = eval (.Name x p1) X.env := by rfl)
    (hfew : ((backTo p3 (starEach [e] X.env)).all (fun x => !x.1) && (backToKw p3 (keywordEach [] X.env)).all (fun x => x.1.isSome) && decide ([e].length + ([] : List Keyword).length + (if ([] : List Keyword).isEmpty then 0 else 1) < 30)) = true := by rfl)
    (hline : (p2.endLine == p3.line) = true := by rfl) (hst : starEach [e] X.env = (false, eval e X.env) :: starEach [] X.env := by rfl) (hpl : (backTo p3 (starEach [] X.env)).any (·.1) = false := by rfl) :
    DSt F X (.Expr (.Call (.Attribute (.Name x p1) "append" p2) [e] [] p3) pos) (fun Z ρ => ∃ xs, ρ[i]? = some (some (.own xs)) ∧ te ρ fun d => xs.length < sizeLine ∧ Z.nx (ρ.set i (some (.own (xs ++ [d]))))) := by
  refine ⟨fun Z Z' ρ l ⟨xs, h, q⟩ => ⟨xs, h, he.mono _ _ _ (fun d q => ⟨q.1, l.nx _ q.2⟩) q⟩,
    (ps_expr (pe_bm PySem.F.plainAttrs_list PySem.F.slot_list_append PySem.F.type_list_append mt_append (pv i hN hv hd hcd) (pa_cons he.run pa_nil hst) hbase hfew hline hst hpl) hsw).imp fun Z σ H ⟨I, ρ, A, q⟩ => ?_⟩
  obtain ⟨xs, hx, q⟩ := q
  obtain ⟨p, o, h1, w, _⟩ := A.turnOwn hx trivial
  obtain ⟨vs, rfl, _⟩ := w.rep
  refine ⟨_, h1, .inl ⟨rfl, vs, .of w.hp⟩, rdE_next he.mono A q fun d v I' H' q' s rv => ?_⟩
  have A' := A.step s
  obtain ⟨p', o', h1', w', turn⟩ := A'.turnOwn hx trivial
  obtain ⟨ws, rfl, r⟩ := w'.rep
  rw [h1] at h1'
  cases h1'
  exact ⟨p, ws, v, rfl, rfl, w'.hp, by rw [r.length]; exact q'.1, q'.2 I' σ _ s.i (turn _ _ ⟨_, rfl, r.append (.cons rv .nil)⟩ (by intro _ h; cases h))⟩
/-- what a slot holds, own or not -/
def ownOf (ρ : DEnv) (i : Nat) (Q : Ent → Prop) : Prop := ∃ en, ρ[i]? = some (some en) ∧ en.isOwn ∧ Q en
/-- from here on x only stands -/
theorem dss_freeze (i : Nat) (h : DSts F X sts t) : DSts F X sts (fun Z ρ => ownOf ρ i fun en => t Z (ρ.set i (some (.dat en.toD)))) := by
  refine ⟨fun Z Z' ρ l ⟨xs, e, o, q⟩ => ⟨xs, e, o, h.mono _ _ _ l q⟩, h.run.imp fun Z σ H ⟨I, ρ, A, en, e, o, q⟩ => ?_⟩
  obtain ⟨p, vs, _, _, s, A'⟩ := A.freeze e o
  exact ⟨_, _, A', h.mono _ _ _ (ends.le s) q⟩
theorem OwnRep.noext {K : PySem.W.Frag} {I : Hp} {e : Ent} {o : HO} (h : OwnRep K I e o) : ∀ φ, o ≠ .ext φ := by
  intro φ z
  subst z
  cases e with
  | dat _ => exact h
  | own _ => exact nomatch h.choose_spec.1
  | ownD _ => exact nomatch h.choose_spec.1
  | ownO _ _ _ => exact nomatch h.choose_spec.choose_spec.1
  | ownQ _ _ => exact nomatch h.choose_spec.1
  | ownF _ _ => exact nomatch h.choose_spec.choose_spec.1
  | ownL _ _ => exact nomatch h.choose_spec.1
  | ownT _ _ => exact nomatch h.choose_spec.1
theorem lend_step {p : Addr} {o : HO} (n : I p = none) (hp : H p = some o) (hx : ∀ φ, o ≠ .ext φ) (s2 : Stp F.W (upd I p o) H I' H') : Stp F.W I H (fun b => if b = p then none else I' b) H' := by
  have np : ∀ b u, I b = some u → b ≠ p := fun b u e => ne_of_none e n
  have s := Same.laid (o := o) n
  refine ⟨fun c u e => ?_, ⟨fun c u e => ?_, fun c u e => ?_, F.W.frame (fun c φ e => ?_) (fun _ _ => rfl) s2.st.inv⟩, s2.h, fun c u e z => ?_⟩
  · rw [if_neg (np c u e)]; exact s2.i _ _ (s _ _ e)
  · split at e
    · cases e
    · exact s2.st.sub _ _ e
  · split at e
    · cases e
    · exact s2.st.imm _ _ e
  · rw [if_neg fun z => hx φ (by rw [z, s2.i p o upd_same] at e; exact Option.some.inj e)]; exact e
  · by_cases hc : c = p
    · rw [if_pos hc]
    · rw [if_neg hc]; exact s2.new _ _ e (by rw [upd_ne hc]; exact z)
theorem dt_lend (i : Nat) {tc : DB} (h : DTest F X e tc) : DTest F X e (fun ρ Q => ownOf ρ i fun en => tc (ρ.set i (some (.dat en.toD))) Q) := by
  refine ⟨fun ρ Q Q' k ⟨xs, e, o, q⟩ => ⟨xs, e, o, h.mono _ _ _ k q⟩, h.run.imp fun σ H Q ⟨I, ρ, A, en, e, o, q⟩ => ?_⟩
  obtain ⟨p, u, _, w, s, A'⟩ := A.freeze e o
  exact ⟨_, _, A', h.mono _ _ _ (fun d q I2 H2 s2 => q _ H2 (lend_step w.ni w.hp w.rep.noext s2)) q⟩
end
def tyN : D → Option String
  | .non => some "NoneType"
  | .bl _ => some "bool"
  | .int _ => some "int"
  | .str _ => some "str"
  | .tup _ => some "tuple"
  | .lst _ => some "list"
  | .dic _ => some "dict"
  | .dfz _ => some "dict"
  | _ => none
def isTup : D → Bool | .tup _ => true | _ => false
def isStr : D → Bool | .str _ => true | _ => false
/-- a built-in kind of value -/
def known (d : D) : Bool := (tyN d).isSome
structure IsT (T : String) (p : D → Bool) : Prop where
  k : ∀ d t, tyN d = some t → kitB t T = some (p d)
theorem is_tup : IsT "tuple" isTup := ⟨fun d t h => by cases d <;> first | (cases h; done) | (cases h; exact (show kitB _ _ = some true by decide +kernel)) | (cases h; exact (show kitB _ _ = some false by decide +kernel))⟩
theorem is_str : IsT "str" isStr := ⟨fun d t h => by cases d <;> first | (cases h; done) | (cases h; exact (show kitB _ _ = some true by decide +kernel)) | (cases h; exact (show kitB _ _ = some false by decide +kernel))⟩
section
variable {F : Fx} {X : Cx} {K : PySem.W.Frag} {I H : Hp} {e : Expr} {te : DT} {T : String} {p : D → Bool} {x : Str} {q1 q2 pos : Pos}
theorem Rep.ty {v : V} {d : D} {t : String} (s : Same I H) (r : Rep K I v d) (h : tyN d = some t) : TyX K H v (.type t) := by
  cases r with
  | non => cases h; exact .base .non
  | bl b => cases h; exact .base (.bl b)
  | int b => cases h; exact .base (.int b)
  | str b => cases h; exact .base (.str b)
  | tup a r =>
    cases h
    rcases Same.seqT s a with (a | ⟨o, a⟩) | ⟨o, its, n, a, c, _⟩
    · exact .base (.tup a)
    · exact .fTuple a
    · exact .kTuple a c
  | lst a r => cases h; exact .base (.lst (s _ _ a))
  | dic a _ r => cases h; exact .base (.dK (s _ _ a))
  | obj _ _ _ => cases h
  | opq _ => cases h
  | dfz a _ r => cases h; exact .fDict (s _ _ a)
  | ptp _ _ _ => cases h
theorem de_isi (hT : IsT T p) (hm : X.mg "isinstance" = none) (hx : X.mg x = none) (hv : bootBuiltins x = some (.type T)) (he : DE F X e te) (hg : Gl X "isinstance" := by rfl) (hgx : Gl X x := by rfl) (hn : x ≠ "__name__" := by decide) (hdb : (x == ("__debug__" : Str)) = false := by decide)
    (h1 : starEach [e, .Name x q2] X.env = (false, eval e X.env) :: starEach [.Name x q2] X.env := by rfl) (h2 : starEach [Expr.Name x q2] X.env = (false, eval (.Name x q2) X.env) :: starEach [] X.env := by rfl) (hpl : (backTo pos (starEach [Expr.Name x q2] X.env)).any (·.1) = false := by rfl) :
    DE F X (.Call (.Name "isinstance" q1) [e, .Name x q2] [] pos) (fun ρ Q => te ρ fun d => known d = true ∧ Q (.bl (p d))) := by
  refine ⟨fun ρ Q Q' k q => he.mono _ _ _ (fun d q => ⟨q.1, k _ q.2⟩) q, (pe_callB call_isi hg hm (by decide +kernel) (pa_cons he.run (pa_cons (pe_bltn (v := .ty T) hgx hx hv rfl hn hdb) pa_nil h2) h1) (by decide) (by decide) h1 hpl).imp fun σ H Q ⟨I, ρ, A, q⟩ => ?_⟩
  refine rdE_next he.mono A q fun d v I' H' q' s rv => ?_
  obtain ⟨kn, q'⟩ := q'
  unfold known at kn
  obtain ⟨t, ht⟩ := Option.isSome_iff_exists.mp kn
  exact ⟨v, .ty T, .type t, .type T, p d, rfl, .ty T, rv.ty s.st.sub ht, kit_ty (hT.k d t ht), q' _ _ _ s (.bl _)⟩
end
def strD (x : D) (Q : Str → Prop) : Prop := ∃ a, x = .str a ∧ Q a
theorem strD.mono {x : D} {Q Q' : Str → Prop} (k : ∀ a, Q a → Q' a) (h : strD x Q) : strD x Q' := let ⟨a, e, q⟩ := h; ⟨a, e, k a q⟩
section
variable {F : Fx} {X : Cx} {K : PySem.W.Frag} {o e : Expr} {to te : DT} {apos pos : Pos} {R : V → List V → Hp → VK → Prop}
/-- s.m(e), by values -/
theorem m1_run {r : Str → D → (D → Prop) → Prop} (mr : ∀ a y (Q Q' : D → Prop), (∀ d, Q d → Q' d) → r a y Q → r a y Q') (l : ∀ a (y : V) (dy : D) (I H : Hp) (Q : VK), StI F.W I H → Rep X.K I y dy → r a dy (fin F X.K I H Q) → R (.str a) [y] H Q)
    (ho : DE F X o to) (he : DE F X e te) {σ : St} {H : Hp} {Q : VK} (h : rdE F X.K (fun ρ Q => to ρ fun x => strD x fun a => te ρ fun y => r a y Q) σ H Q) : tM1 R (rdE F X.K to) (rdE F X.K te) σ H Q := by
  obtain ⟨I, ρ, A, h⟩ := h
  refine rdE_next ho.mono A h fun d v I1 H1 q1 s1 r1 => ?_
  obtain ⟨a, rfl, q1⟩ := q1
  cases r1
  refine ⟨⟨a, rfl⟩, rdE_next he.mono (A.step s1) q1 fun y w I2 H2 q2 s2 r2 => ?_⟩
  exact l a w y I2 H2 Q s2.st r2 (mr _ _ _ _ (fun z hz => hz.of (s1.trans s2)) q2)
theorem m1_mono {r : Str → D → (D → Prop) → Prop} (mr : ∀ a y (Q Q' : D → Prop), (∀ d, Q d → Q' d) → r a y Q → r a y Q') (ho : DE F X o to) (he : DE F X e te) :
    ∀ ρ (Q Q' : D → Prop), (∀ d, Q d → Q' d) → (to ρ fun x => strD x fun a => te ρ fun y => r a y Q) → (to ρ fun x => strD x fun a => te ρ fun y => r a y Q') :=
  fun ρ Q Q' k h => ho.mono _ _ _ (fun d h => h.mono fun a h => he.mono _ _ _ (fun y h => mr _ _ _ _ k h) h) h
def joinD (a : Str) (y : D) (Q : D → Prop) : Prop := ∃ ys : List Str, (y = .lst (ys.map D.str) ∨ y = .tup (ys.map D.str)) ∧ (ys.map (·.length)).sum + ys.length * a.length ≤ 16777216 ∧ Q (.str (Txt.join a ys))
theorem mono_join : ∀ a y (Q Q' : D → Prop), (∀ d, Q d → Q' d) → joinD a y Q → joinD a y Q' := fun a y Q Q' k ⟨ys, h2, h3, q⟩ => ⟨ys, h2, h3, k _ q⟩
theorem de_join (ho : DE F X o to) (he : DE F X e te) (hs : starEach [e] X.env = [(false, eval e X.env)] := by rfl) (hbase : attributeBase o "join" X.env (eval o X.env) = eval o X.env := by rfl) (hline : (apos.endLine == pos.line) = true := by rfl) :
    DE F X (.Call (.Attribute o "join" apos) [e] [] pos) (fun ρ Q => to ρ fun x => strD x fun a => te ρ fun y => joinD a y Q) := by
  refine ⟨m1_mono mono_join ho he, (pe_join ho.run he.run hs hbase hline).imp fun σ H Q q => m1_run mono_join (fun a y dy I H Q st ry h => ?_) ho he q⟩
  obtain ⟨ys, h1, h2, q⟩ := h
  rcases h1 with rfl | rfl
  · cases ry with
    | lst b r => exact ⟨a, _, ys, rfl, rfl, .inl (r.strsV ▸ .of (st.sub _ _ b)), h2, q _ _ _ st.stp (.str _)⟩
  · cases ry with
    | tup b r => exact ⟨a, _, ys, rfl, rfl, .inr (r.strsV ▸ Same.seqT st.sub b), h2, q _ _ _ st.stp (.str _)⟩
/-- s.index(y), found -/
def sidxD (a : Str) (y : D) (Q : D → Prop) : Prop := ∃ b k, y = .str b ∧ Txt.index0 a b = some k ∧ Q (.int (k : Nat))
theorem de_sindex {W : WX} (hc : X.calm = true) (tk : Takes X W) (ho : DE F X o to) (he : DE F X e te) (hbase : attributeBase o "index" X.env (eval o X.env) = eval o X.env := by rfl)
    (hfew : ((backTo pos (starEach [e] X.env)).all (fun x => !x.1) && (backToKw pos (keywordEach [] X.env)).all (fun x => x.1.isSome) && decide ([e].length + ([] : List Keyword).length + (if ([] : List Keyword).isEmpty then 0 else 1) < 30)) = true := by rfl)
    (hline : (apos.endLine == pos.line) = true := by rfl) (hs : starEach [e] X.env = (false, eval e X.env) :: starEach [] X.env := by rfl) (hplain : (backTo pos (starEach [] X.env)).any (·.1) = false := by rfl) :
    DE F X (.Call (.Attribute o "index" apos) [e] [] pos) (fun ρ Q => to ρ fun x => strD x fun a => te ρ fun y => sidxD a y Q) := by
  refine ⟨m1_mono (fun a y Q Q' k ⟨b, j, h1, h2, q⟩ => ⟨b, j, h1, h2, k _ q⟩) ho he, (pe_bmS PySem.F.plainAttrs_str PySem.F.slot_str_index PySem.F.type_str_index (mt_indexX hc tk) ho.run (pa_cons he.run pa_nil hs) hbase hfew hline hs hplain).imp fun σ H Q ⟨I, ρ, A, h⟩ => ?_⟩
  refine rdE_next ho.mono A h fun d v I1 H1 q1 s1 r1 => ?_
  obtain ⟨a, rfl, q1⟩ := q1
  cases r1
  refine ⟨rfl, rdE_next he.mono (A.step s1) q1 fun y w I2 H2 q2 s2 r2 => ?_⟩
  obtain ⟨b, k, rfl, hk, q2⟩ := q2
  cases r2
  refine ⟨a, b, rfl, rfl, fun k' hk' => ?_, fun z => by rw [hk] at z; cases z⟩
  rw [hk] at hk'
  cases hk'
  exact q2 _ _ _ (s1.trans s2) (.int _)
end
end Dk
namespace Dk
open PySem L2
structure Cal (P : Program) (w : World) (K : PySem.W.Frag) (mg : Str → Option Value) (base : Heap) (CX : CXT) (W : Wd) (k : Nat) (x : Str) (ps : List Str) (S : DSp) : Prop where
  ex : ∃ f fd, GnOk P w K mg base CX k f fd ps (spD W K S) ∧ mg x = some (.ref f) ∧ PySem.W.keepIn K (.ref f) = true ∧ Binds K fd ps []
/-- .. by keywords alone: ks their names as written, g their order -/
structure CalK (P : Program) (w : World) (K : PySem.W.Frag) (mg : Str → Option Value) (base : Heap) (CX : CXT) (W : Wd) (k : Nat) (x : Str) (ps ks : List Str) (g : {α : Type} → List α → List α) (S : DSp) : Prop where
  ex : ∃ f fd, GnOk P w K mg base CX k f fd ps (spD W K S) ∧ mg x = some (.ref f) ∧ PySem.W.keepIn K (.ref f) = true ∧ KBn K fd ps 0 ks (fun _ ws => g ws) (fun _ zs => g zs)
  rel : ∀ {K : PySem.W.Frag} {I : Hp} {vs : List V} {ds : List D}, Reps K I vs ds → Reps K I (g vs) (g ds)
section
variable {F : Fx} {X : Cx} {K : PySem.W.Frag} {CX : CXT} {W : Wd} {k : Nat} {x nm : Str} {ps ks : List Str} {S : DSp} {E : XK} {p pos kpos : Pos} {e : Expr} {es : List Expr} {t tk : DAT} {te : DT} {Ed : Ex → Prop} {kws : List Keyword} {g : {α : Type} → List α → List α}
theorem _root_.L2.PK.imp {t u : TA} (h : PK X kws t) (i : ∀ σ H Q, u σ H Q → t σ H Q) : PK X kws u := ⟨fun pos pins s σ H Q J q => h.run pos pins s σ H Q J (i σ H Q q)⟩
theorem de_fn (C : Cal X.prog X.w X.K X.mg X.base CX F.W k x ps S) (hr : Rm k X.A) (hx : Passes CX X E) (le : Lets F X.K Ed E) (ha : DA F X (e :: es) t)
    (hg : Gl X x := by rfl) (hdb : (x == ("__debug__" : Str)) = false := by decide) (he : starEach (e :: es) X.env = (false, eval e X.env) :: starEach es X.env := by rfl) (hpl : (backTo pos (starEach es X.env)).any (·.1) = false := by rfl) :
    DE F X (.Call (.Name x p) (e :: es) [] pos) (fun ρ Q => t ρ fun ds => S.f ds Q Ed) := by
  obtain ⟨f, fd, h1, h2, h3, h4⟩ := C.ex
  exact de_call h1 hr h2 h3 h4 hx le ha hg hdb he hpl
end
theorem pss_any {X : Cx} {sts : List Stmt} {ι : Type} {F : ι → Fx} {t : ι → DTS} (h : ∀ i, DSts (F i) X sts (t i)) : PSs X sts (fun Z σ H => ∃ i, rdS (F i) X.K (t i) Z σ H) := ⟨fun pins s σ H Z J ⟨i, q⟩ => (h i).run.run pins s σ H Z J q⟩
section
variable {P : Program} {w : World} {K : PySem.W.Frag} {mg : Str → Option Value} {base : Heap} {CX : CXT} {W : Wd} {k : Nat} {x qual : Str} {st : Stmt} {f : Addr} {fd : FuncData} {ps ks : List Str} {S : DSp} {g : {α : Type} → List α → List α}
theorem Cal.of (Fn : Fun K x qual st f fd) (G : GnOk P w K mg base CX k f fd ps (spD W K S)) (m : mg x = some (.ref f))
    (h : ∀ (kV doc pm : Value) (an : Option Addr) (cdv ct : Value) (us : List Value), us.length = ps.length → bindArgs (PySem.W.fnOf x qual (defArgs st) (defBody st) (defScope st) .none kV doc pm an cdv ct) ⟨us, []⟩ = pure (ps.zip us)) : Cal P w K mg base CX W k x ps S :=
  ⟨f, fd, G, m, Fn.kp, Fn.binds h⟩
theorem CalK.of (Fn : Fun K x qual st f fd) (G : GnOk P w K mg base CX k f fd ps (spD W K S)) (m : mg x = some (.ref f)) (rV : ∀ {vs : List V} {us : List Value}, Vals vs us → Vals (g vs) (g us)) (rD : ∀ {K : PySem.W.Frag} {I : Hp} {vs : List V} {ds : List D}, Reps K I vs ds → Reps K I (g vs) (g ds))
    (h : ∀ (kV doc pm : Value) (an : Option Addr) (cdv ct : Value) (ws : List Value), ws.length = ks.length → bindArgs (PySem.W.fnOf x qual (defArgs st) (defBody st) (defScope st) .none kV doc pm an cdv ct) ⟨[], ks.zip ws⟩ = pure (ps.zip (g ws))) : CalK P w K mg base CX W k x ps ks g S := by
  refine ⟨⟨f, fd, G, m, Fn.kp, ⟨fun s us ws _ l1 l2 => ?_, fun _ r => rV r⟩⟩, rD⟩
  obtain ⟨oc, od, kV, doc, pm, an, cdv, ct, osl, rfl, lk, hcd⟩ := Fn.ex
  obtain rfl : us = [] := List.length_eq_zero_iff.mp l1
  exact .of_eq (h kV doc pm an cdv ct ws l2)
end
/-- what a draw tells: any number below the most -/
def spDraw (a : Addr) : DSp where
  n := 2
  f := fun ds Q _ => ∃ m : Int, ds = [.opq a, .int m] ∧ 0 < m ∧ m.natAbs.log2 < 9000 ∧ ∀ v : Int, 0 ≤ v → v < m → Q (.int v)
  len := fun ds Q E ⟨m, e, _⟩ => by rw [e]; rfl
  mono := fun ds Q Q' E E' k _ ⟨m, e, h, h', q⟩ => ⟨m, e, h, h', fun v a b => k _ (q v a b)⟩
theorem shaped_ints (ns : List Int) : SeqAt.shaped (.list (ns.map .int)) = true := by
  have h1 : ∀ ns : List Int, PyData.canLayAll0 (ns.map .int) = true := fun ns => by
    induction ns with
    | nil => simp [PyData.canLayAll0]
    | cons n ns ih => simp [PyData.canLayAll0, PyData.canLay0, ih]
  have h2 : ∀ ns : List Int, PyData.depthAll (ns.map .int) = 0 := PySem.W.depth_ints
  unfold SeqAt.shaped
  simp [PyData.canLay0, PyData.depth, h1, h2]
theorem dp_ints {K : PySem.W.Frag} {H : Hp} : ∀ ns : List Int, DpAll K H (ns.map V.int) (ns.map PyData.int)
  | [] => .nil
  | n :: ns => .cons (.int n) (dp_ints ns)
theorem eqv_nil (ns : List Int) : PyData.eqv (.list (ns.map .int)) (.list []) = ns.isEmpty := by
  cases ns <;> simp [PyData.eqv, PyData.eqvAll]
end Dk
namespace Dk
open PySem L2
def deckAt (a l : Addr) (H : Hp) : Prop := ∃ (ns : List Int) (s t : Int), H a = some (.lst [.ref l, .int s, .int t]) ∧ H l = some (.lst (ns.map V.int)) ∧ ns.length ≤ 63 ∧ a ≠ l
def DeckW (a l : Addr) : Wd where
  mv := fun b => b = a ∨ b = l
  inv := fun _ => deckAt a l
  frame := fun {I I' H H'} _ h ⟨ns, s, t, h1, h2, h3⟩ => ⟨ns, s, t, by rw [h a (.inl rfl)]; exact h1, by rw [h l (.inr rfl)]; exact h2, h3⟩
  live := fun {I H b} ⟨ns, s, t, h1, h2, h3⟩ m => by
    rcases m with rfl | rfl
    · rw [h1]; exact fun z => nomatch z
    · rw [h2]; exact fun z => nomatch z
theorem stp_deck {a l : Addr} {I H H' : Hp} (s : StI (DeckW a l) I H) (h : ∀ b o, H b = some o → b ≠ a → b ≠ l → H' b = some o) (d : deckAt a l H') : Stp (DeckW a l) I H I H' := by
  refine ⟨Same.refl I, ⟨fun b o e => ?_, s.imm, d⟩, fun b o e m => h b o e (fun z => m (.inl z)) (fun z => m (.inr z)), fun b o e n => n⟩
  have m := s.imm b o e
  exact h b o (s.sub b o e) (fun z => m (.inl z)) (fun z => m (.inr z))
theorem deck_of {a l : Addr} {I H : Hp} (s : StI (DeckW a l) I H) : deckAt a l H := s.inv
end Dk
namespace Dk
open PySem L2
/-- how it is written -/
def shw (d : D) : Str := (toPy d).shown
section
variable {F : Fx} {X : Cx} {e : Expr} {t : DAT} {p pos : Pos}
/-- a constant of the module -/
theorem de_gs {x y : Str} {pos : Pos} (h : ∃ t, X.mg x = some (.str y t)) (hg : Gl X x := by rfl) (hd : (x == ("__debug__" : Str)) = false := by decide) : DE F X (.Name x pos) (fun _ Q => Q (.str y)) := by
  obtain ⟨t, e⟩ := h
  exact de_gstr hg e ⟨t, rfl⟩ hd
theorem de_gi {x : Str} {y : Int} {pos : Pos} (h : ∃ t, X.mg x = some (.int y t)) (hg : Gl X x := by rfl) (hd : (x == ("__debug__" : Str)) = false := by decide) : DE F X (.Name x pos) (fun _ Q => Q (.int y)) := by
  obtain ⟨t, e⟩ := h
  exact de_gint hg e ⟨t, rfl⟩ hd
end
theorem getD_0 {d : D} {ρ : DEnv} {Q : D → Prop} : getD (some (.dat d) :: ρ) 0 Q = Q d := by simp [getD]
theorem getD_s {x : Option Ent} {ρ : DEnv} {n : Nat} {Q : D → Prop} : getD (x :: ρ) (n + 1) Q = getD ρ n Q := by simp [getD]
theorem set_0 {x y : Option Ent} {ρ : DEnv} : (x :: ρ).set 0 y = y :: ρ := rfl
theorem set_s {x y : Option Ent} {ρ : DEnv} {n : Nat} : (x :: ρ).set (n + 1) y = x :: ρ.set n y := rfl
theorem forD_ind {g : DGT} {tb : DTS} {Z : DEnds} (P : List D → DEnv → Prop) (h0 : ∀ ρ, P [] ρ → Z.nx ρ) (h1 : ∀ d ds ρ (R : DEnv → Prop), P (d :: ds) ρ → (∀ ρ', P ds ρ' → R ρ') → g d ρ fun ρ2 => tb { Z with nx := R, ct := R, bk := Z.nx } ρ2) : ∀ (ds : List D) (ρ : DEnv), P ds ρ → forD g tb Z ds ρ
  | [], ρ, h => h0 ρ h
  | d :: ds, ρ, h => h1 d ds ρ (forD g tb Z ds) h fun ρ' h' => forD_ind P h0 h1 ds ρ' h'
theorem eqD_int {x y : Int} {Q : D → Prop} : eqD (.int x) (.int y) Q = Q (.bl (decide (x = y))) := by
  have e : deq (.int x) (.int y) = decide (x = y) := by simp [deq, toPy, PyData.eqv]; rfl
  simp [eqD, canEq, scalD, mixD, e]
theorem neD_int {x y : Int} {Q : D → Prop} : neD (.int x) (.int y) Q = Q (.bl (!decide (x = y))) := by
  have e : deq (.int x) (.int y) = decide (x = y) := by simp [deq, toPy, PyData.eqv]; rfl
  simp [neD, canEq, scalD, mixD, e]
theorem eqD_str {x y : Str} {Q : D → Prop} : eqD (.str x) (.str y) Q = Q (.bl (decide (x = y))) := by
  have e : deq (.str x) (.str y) = decide (x = y) := by simp [deq, toPy, PyData.eqv]; rfl
  simp [eqD, canEq, scalD, mixD, e]
theorem neD_str {x y : Str} {Q : D → Prop} : neD (.str x) (.str y) Q = Q (.bl (!decide (x = y))) := by
  have e : deq (.str x) (.str y) = decide (x = y) := by simp [deq, toPy, PyData.eqv]; rfl
  simp [neD, canEq, scalD, mixD, e]
theorem boolD_bl {b : Bool} {Q : Bool → Prop} : boolD (.bl b) Q = Q b := by simp [boolD]
theorem intD_int {i : Int} {Q : Int → Prop} : intD (.int i) Q = Q i := by simp [intD]
structure OkN (k : Nat) (d : D) : Prop where
  pl : plainD d = true
  cl : (toPy d).canLay0 = true
  dp : (toPy d).depth ≤ k
theorem OkN.mono {j k : Nat} {d : D} (h : OkN j d) (l : j ≤ k) : OkN k d := ⟨h.pl, h.cl, Nat.le_trans h.dp l⟩
theorem okN_str {x : Str} (h : PyData.strOk x = true) : OkN 0 (.str x) := ⟨rfl, by simp [toPy, PyData.canLay0, h], by simp [toPy, PyData.depth]⟩
theorem okNs {k : Nat} : ∀ {xs : List D}, (∀ x ∈ xs, OkN k x) → plainDs xs = true ∧ PyData.canLayAll0 (toPys xs) = true ∧ PyData.depthAll (toPys xs) ≤ k
  | [], _ => by simp [plainDs, toPys, PyData.canLayAll0, PyData.depthAll]
  | x :: xs, h => by
    have h1 := h x (by simp)
    obtain ⟨a, b, c⟩ := okNs fun y hy => h y (List.mem_cons_of_mem _ hy)
    simp only [plainDs, toPys, PyData.canLayAll0, PyData.depthAll, h1.pl, h1.cl, a, b, Bool.and_self, true_and]
    exact Nat.max_le.mpr ⟨h1.dp, c⟩
theorem okN_tup {k : Nat} {xs : List D} (h : ∀ x ∈ xs, OkN k x) : OkN (k + 1) (.tup xs) := by
  obtain ⟨a, b, c⟩ := okNs h
  exact ⟨by simp [plainD, a], by simp [toPy, PyData.canLay0, b], by simp [toPy, PyData.depth]; exact c⟩
theorem okN_lst {k : Nat} {xs : List D} (h : ∀ x ∈ xs, OkN k x) : OkN (k + 1) (.lst xs) := by
  obtain ⟨a, b, c⟩ := okNs h
  exact ⟨by simp [plainD, a], by simp [toPy, PyData.canLay0, b], by simp [toPy, PyData.depth]; exact c⟩
theorem OkN.okE {k : Nat} {d : D} (h : OkN k d) (l : k ≤ 64) : Dk.okE d = true := by
  unfold Dk.okE SeqAt.shaped
  simp only [h.pl, h.cl, Bool.and_self, Bool.true_and, decide_eq_true_eq]
  exact Nat.le_trans h.dp l
/-- a comprehension over a list of things, each taken or left -/
theorem lcD_map {α : Type} {g : DGT} {tc : DB} {te : DT} {ρ : DEnv} (f h : α → D) (p : α → Bool) {Q : List D → Prop} : ∀ {l : List α}, (∀ a ∈ l, ∀ (R : D → Prop) (S : Prop), (p a = true → R (h a)) → (p a = false → S) → g (f a) ρ fun ρ2 => tc ρ2 fun b => if b = true then te ρ2 R else S) → Q ((l.filter p).map h) → lcD g tc te ρ (l.map f) Q := by
  intro l
  induction l generalizing Q with
  | nil => intro _ q; exact q
  | cons a l ih =>
    intro hs q
    refine hs a (by simp) _ _ (fun e => ?_) fun e => ?_
    · refine ih (fun b hb => hs b (List.mem_cons_of_mem _ hb)) ?_
      rw [List.filter_cons_of_pos e] at q
      exact q
    · refine ih (fun b hb => hs b (List.mem_cons_of_mem _ hb)) ?_
      rw [List.filter_cons_of_neg (by simp [e])] at q
      exact q
theorem lcD_all {α : Type} {g : DGT} {tc : DB} {te : DT} {ρ : DEnv} (f h : α → D) {Q : List D → Prop} {l : List α} (hs : ∀ a ∈ l, ∀ (R : D → Prop) (S : Prop), R (h a) → g (f a) ρ fun ρ2 => tc ρ2 fun b => if b = true then te ρ2 R else S) (q : Q (l.map h)) : lcD g tc te ρ (l.map f) Q :=
  lcD_map f h (fun _ => true) (fun a ha R S r _ => hs a ha R S (r rfl)) (by rw [List.filter_eq_self.mpr (by simp)]; exact q)
end Dk
namespace Dk
open PySem L2 PySem.Spec PyProof.Rows
theorem law_gn {P : Program} {w : World} {K : PySem.W.Frag} {mg mb : Str → Option Value} {CX : CXT} {k : Nat} {fa a : Addr} {fd : FuncData} {x : Str} {sp : Sp} {s1 : Shared} {us : List Value} {ns : List Int}
    (inK : K.In s1.heap) (inM : s1.heap.Ns mainGlobals mg) (inB : s1.heap.Ns builtinsNs mb) (boots : ∀ x : Str, x ≠ "__name__" → mb x = bootBuiltins x) (noLim : s1.heap.NoLimit) (noGen : s1.gens = #[])
    (isL : s1.heap.get? a = some { cls := .type "list", data := .seq us.toArray }) (its0 : IntsAre us ns) (small : ns.length ≤ sizeLine) (room : Room k callerA)
    (F : ∀ base : Heap, K.In base → base.Ns mainGlobals mg → GnOk P w K mg base CX k fa fd [x] sp) (binds : ∀ (s : Shared) (u : Value), BindsTo s fd ⟨[u], []⟩ [(x, u)])
    (says : ∀ H : Hp, L2.Only H → SqL K H a (ns.map V.int) → sp [.ref a] H (fun v _ => v = .bl true) fun _ _ _ => False) (lets : ∀ H e s', CX [] H s1 (fun _ _ _ => False) e s' → False) :
    codeAny (model P w) callerA (.call (.ref fa) ⟨[.ref a], []⟩) (fun r s' => r = .ok (.ret (.bool true)) ∧ OldK s1.heap s'.heap ∧ s'.os = s1.os ∧ AllBare s'.gens) s1 := by
  have vals := vals_ints its0
  -- a heap that tells of the script, or of nothing
  have main : ∀ H : Hp, L2.Only H → SqL K H a (ns.map V.int) → HOk P w H s1.heap → (∀ b, H b ≠ none → b = a ∧ K.lookup b = none) →
      codeAny (model P w) callerA (.call (.ref fa) ⟨[.ref a], []⟩) (fun r s' => r = .ok (.ret (.bool true)) ∧ OldK s1.heap s'.heap ∧ s'.os = s1.os ∧ AllBare s'.gens) s1 := by
    intro H only sq ok few
    have dict_out : ∀ {b : Addr} {m : Str → Option Value}, s1.heap.Ns b m → (hidT s1.heap H).Ns b m := by
      rintro b m ⟨o, es, ep, e1, e2, e3⟩
      refine ⟨o, es, ep, hidT_get e1 ?_, e2, e3⟩
      rcases hb : H b with _ | u
      · rfl
      · obtain ⟨rfl, _⟩ := few b (by rw [hb]; simp)
        rw [isL] at e1
        cases e1
        exact Data.noConfusion e2
    have inK' : K.In (hidT s1.heap H) := fun b o e => hidT_get (inK b o e) (by
      rcases hb : H b with _ | u
      · rfl
      · have := (few b (by rw [hb]; simp)).2
        rw [this] at e
        cases e)
    obtain ⟨mc, lim1, lim2⟩ := noLim
    have env : Env0 P w K mg (hidT s1.heap H) callerA [] s1 H := { frames := rfl, mod := ⟨inK', dict_out inM, ⟨mb, dict_out inB, boots⟩, ⟨mc, dict_out lim1, lim2⟩⟩, bs := fun b o e => of_hidT e, bsz := Nat.le_of_eq (hidT_size _ _), funs := trivial, frf := (by simp [frs]), hok := ok, bare := .of_eq noGen }
    refine codeAny_mono ((F _ inK' (dict_out inM)).go callerA [] s1 H ⟨[.ref a], []⟩ [.ref a] [.ref a] _ _ ⟨room, rfl⟩ env (binds s1 (.ref a)) (.cons rfl .nil) (says H only sq)) fun r s' q => ?_
    match r, q with
    | .error e, q => exact (lets H e s' q).elim
    | .ok .next, q => exact q.elim
    | .ok .brk, q => exact q.elim
    | .ok .cont, q => exact q.elim
    | .ok (.ret u), ⟨v, H2, os, bare, un, ok2, rel, q⟩ =>
      have q : v = .bl true := q
      subst q
      obtain rfl : u = Value.bool true := rel
      refine ⟨rfl, OldK.of_keep fun b o e => ?_, os, bare⟩
      rcases only b with z | ⟨ob, xs, z⟩
      · exact un.keep b o e z (by simp [frs]) (by simp)
      · obtain ⟨e1, _⟩ := ok b _ z
        obtain ⟨e2, _⟩ := ok2 b _ (un.frzs b ob _ z)
        rw [e1] at e
        cases e
        exact e2
  rcases hk : K.lookup a with _ | o
  · -- the script stands beside the module's objects
    have told : ∀ b u, (if b = a then some (HO.frz { cls := .type "list", data := .seq us.toArray } (.lst (ns.map V.int))) else none) = some u → b = a ∧ u = HO.frz { cls := .type "list", data := .seq us.toArray } (.lst (ns.map V.int)) := fun b u z => by
      split at z
      · exact ⟨by assumption, (Option.some.inj z).symm⟩
      · cases z
    refine main (fun b => if b = a then some (.frz { cls := .type "list", data := .seq us.toArray } (.lst (ns.map V.int))) else none) (fun b => ?_) (.inl (.inr ⟨_, if_pos rfl⟩)) (fun b u z => ?_) fun b z => ?_
    · by_cases hb : b = a
      · right; exact ⟨_, _, if_pos hb⟩
      · left; exact if_neg hb
    · obtain ⟨rfl, rfl⟩ := told b u z
      exact ⟨isL, by rw [List.length_map]; exact small, us, _, vals, isL⟩
    · rcases hb : (if b = a then some (HO.frz { cls := .type "list", data := .seq us.toArray } (.lst (ns.map V.int))) else none) with _ | u
      · exact absurd hb z
      · obtain ⟨rfl, _⟩ := told b u hb
        exact ⟨rfl, hk⟩
  · -- it is one of them
    have e := inK a o hk
    rw [isL] at e
    cases e
    exact main (fun _ => none) (fun _ => .inl rfl) (.inr ⟨_, us.toArray, _, hk, rfl, rfl, rfl, by rw [List.size_toArray, its0.length]; exact small, by simpa using vals⟩) (fun b u z => (nomatch (show (none : Option HO) = some u from z))) fun b z => absurd rfl z
end Dk
namespace Dk
open PySem L2 PySem.Spec PyProof.Rows
/-- all tests of a clause -/
def tests (ifs : List Expr) (env : Env) : Sem Bool := forIn ifs true fun c r => if r = true then do let ok ← isTrue c env (eval c env); pure (ForInStep.yield ok) else pure (ForInStep.yield r)
/-- what follows the k-th clause's tests -/
def behind (e : Expr) (gens : List Comprehension) (emit : Sem Unit) (k : Nat) (acc : Value) (env : Env) (next : Sem Fin) : Sem Fin :=
  match gens[k + 1]? with
  | none => do
    emit
    next
  | some g => do
    let x ← eval g.iter env
    standAt g.iter.pos
    let y ← foldedSetIterable g.iter env x
    let it ← holding [y] (pyIter y)
    let _ ← runOwn (.compStart e (k + 1) it acc env) env
    next
/-- a comprehension: its clauses, what it does with an element -/
structure IsCp (e : Expr) (gens : List Comprehension) (emit : Value → Env → Sem Unit) : Prop where
  cl : clausesOf e = gens
  fl : ∀ (k : Nat) (it acc : Value) (env : Env), (Code.compLoop e k it acc env).isFrame = false ∧ (Code.compStart e k it acc env).isFrame = false
  un : ∀ (A : Around) (k : Nat) (it acc : Value) (env : Env), A.under (.compLoop e k it acc env) = A ∧ A.under (.compStart e k it acc env) = A
  turn : ∀ (k : Nat) (tg iter : Expr) (ifs : List Expr) (it acc : Value) (env : Env), gens[k]? = some ⟨tg, iter, ifs, 0⟩ → (∀ g, gens[k + 1]? = some g → g.is_async = 0) → compTurn e k it acc env = (do
    standAt iter.pos
    match ← pyNext it with
    | none => pure (.done .next)
    | some v => do
      letOwnedTupleGo tg it v
      assign tg env v
      let ok ← tests ifs env
      if ok then behind e gens (emit acc env) k acc env (again (.compLoop e k it acc env))
      else again (.compLoop e k it acc env))
theorem cp_list (elt : Expr) (gens : List Comprehension) (scope : Scope) (pos : Pos) : IsCp (.ListComp elt gens scope pos) gens (fun acc env => do let _ ← call (.builtin "list.append") [acc, ← eval elt env]) := by
  refine ⟨rfl, fun _ _ _ _ => ⟨rfl, rfl⟩, fun _ _ _ _ _ => ⟨rfl, rfl⟩, fun k tg iter ifs it acc env hg hn => ?_⟩
  unfold compTurn behind tests
  simp only [hg]
  cases h : gens[k + 1]? with
  | none => rfl
  | some g => 
    have := hn g h
    simp only [this]
    rfl
theorem cp_set (elt : Expr) (gens : List Comprehension) (scope : Scope) (pos : Pos) : IsCp (.SetComp elt gens scope pos) gens (fun acc env => do let v ← eval elt env; standAt elt.pos; let _ ← call (.builtin "set.add") [acc, v]) := by
  refine ⟨rfl, fun _ _ _ _ => ⟨rfl, rfl⟩, fun _ _ _ _ _ => ⟨rfl, rfl⟩, fun k tg iter ifs it acc env hg hn => ?_⟩
  unfold compTurn behind tests
  simp only [hg]
  cases h : gens[k + 1]? with
  | none => rfl
  | some g => 
    have := hn g h
    simp only [this]
    rfl
theorem cp_dict (kx vx : Expr) (gens : List Comprehension) (scope : Scope) (pos : Pos) : IsCp (.DictComp kx vx gens scope pos) gens (fun acc env => do
    let kv ← eval kx env
    let vv ← holding [kv] (eval vx env)
    match acc with
    | .ref d => do
      standAt { kx.pos with endLine := vx.pos.endLine, endCol := vx.pos.endCol }
      holding [kv, vv] (dictSet d kv vv)
    | _ => unsupported "internal:dictcomp") := by
  refine ⟨rfl, fun _ _ _ _ => ⟨rfl, rfl⟩, fun _ _ _ _ _ => ⟨rfl, rfl⟩, fun k tg iter ifs it acc env hg hn => ?_⟩
  unfold compTurn behind tests
  simp only [hg]
  cases h : gens[k + 1]? with
  | none => rfl
  | some g => 
    have := hn g h
    simp only [this]
    rfl
/-- it runs on to what comes next, in a state that the post tells -/
def Onward (M : Model) (A : Around) (bh : Sem Fin → Sem Fin) (post : Shared → Prop) (s : Shared) : Prop :=
  ∀ (next : Sem Fin) (Q : Fin → Shared → Prop) (E : Value → Shared → Prop), (∀ s', post s' → wpAny M A next Q E s') → wpAny M A (bh next) Q E s
section
variable {prog : Program} {w : World} {A : Around} {R : Result → Shared → Prop} {s : Shared} {e tg iter : Expr} {ifs : List Expr} {gens : List Comprehension} {emit : Value → Env → Sem Unit} {k : Nat} {it acc : Value} {env : Env}
theorem cp_loop (c : IsCp e gens emit) (hg : gens[k]? = some ⟨tg, iter, ifs, 0⟩) (hn : ∀ g, gens[k + 1]? = some g → g.is_async = 0) (I : Nat → Shared → Prop)
    (turn : ∀ n s, I n s → wpAny (model prog w) A (pyNext it) (fun r s1 => match r with
      | none => R (.ok .next) s1
      | some v => wpAny (model prog w) A (letOwnedTupleGo tg it v) (fun _ s2 => wpAny (model prog w) A (assign tg env v) (fun _ s3 => wpAny (model prog w) A (tests ifs env) (fun b s4 =>
          if b = true then Onward (model prog w) A (behind e gens (emit acc env) k acc env) (fun s5 => ∃ m, m < n ∧ I m s5) s4 else ∃ m, m < n ∧ I m s4) (fun _ _ => False) s3) (fun _ _ => False) s2) (fun _ _ => False) s1) (fun _ _ => False) s)
    (n : Nat) (h : I n s) : codeAny (model prog w) A (.compLoop e k it acc env) R s := by
  refine codeAny_loop rfl I (fun n s hI => ?_) n h
  have ed : (model prog w).den (.compLoop e k it acc env) = (compTurn e k it acc env).onRaise (fun x => do noteFrame x env; theTreesLotGoes x) := by
    show (if (Code.compLoop e k it acc env).isFrame = true then _ else _) = _
    rw [if_neg (by rw [(c.fl k it acc env).1]; exact Bool.false_ne_true)]
  rw [ed, (c.un A k it acc env).1]
  refine wpAny_noted ?_
  rw [c.turn k tg iter ifs it acc env hg hn]
  refine wpAny_bind (wpAny_standAt (wpAny_bind (thnF (turn n s hI) fun r s1 h1 => ?_)))
  cases r with
  | none => exact wpAny_pure h1
  | some v =>
    refine wpAny_bind (thnF h1 fun _ s2 h2 => wpAny_bind (thnF h2 fun _ s3 h3 => wpAny_bind (thnF h3 fun b s4 h4 => ?_)))
    cases b with
    | false => exact wpAny_pure ⟨rfl, h4⟩
    | true => exact h4 _ _ _ fun s5 h5 => wpAny_pure ⟨rfl, h5⟩
theorem cp_start (c : IsCp e gens emit) (hg : gens[k]? = some ⟨tg, iter, ifs, 0⟩) (h0 : codeAny (model prog w) A (.compLoop e k it acc env) R s)
    (h : wpAny (model prog w) A (pyIter it) (fun it' s' => codeAny (model prog w) A (.compLoop e k it' acc env) R s') (fun _ _ => False) s) : codeAny (model prog w) A (.compStart e k it acc env) R s := by
  refine codeAny_of_tree ?_
  have ed : (model prog w).den (.compStart e k it acc env) = (compStart e k it acc env).onRaise (fun x => do noteFrame x env; standAt theWindowsPlace) := by
    show (if (Code.compStart e k it acc env).isFrame = true then _ else _) = _
    rw [if_neg (by rw [(c.fl k it acc env).2]; exact Bool.false_ne_true)]
  rw [ed, (c.un A k it acc env).2]
  refine wpAny_notedAt ?_
  unfold compStart
  rw [c.cl, hg]
  show wpAny _ _ (ask >>= _) _ _ s
  refine wpAny_bind (wpAny_askSetting (wpAny_ite ?_))
  split
  · first
      | exact wpAny_bind (wpAny_pure (wpAny_pure (And.intro rfl h0)))
      | exact wpAny_pure (And.intro rfl h0)
  · first
      | exact wpAny_bind (wpAny_rule (wpAny_bind (wpAny_standAt (wpAny_bind (thnF h fun it' s' h' => wpAny_pure (And.intro rfl h'))))))
      | (refine wpAny_bind (wpAny_rule ?_); show wpAny _ _ (standAt iter.pos >>= _) _ _ s; exact wpAny_bind (wpAny_standAt (wpAny_bind (thnF h fun it' s' h' => wpAny_pure (And.intro rfl h')))))
end
abbrev TN := L2.St → Hp → (Hp → Prop) → Prop
/-- what is done with an element, to the object at D -/
structure Emit (Y : Cx) (em : Sem Unit) (T : TN) : Prop where
  run : ∀ (pins : List (Addr × Obj)) (s : Shared) (σ : L2.St) (H : Hp) (Nx : Hp → Prop), Inv Y pins σ H s → T σ H Nx → wpAny (model Y.prog Y.w) Y.A em (fun _ s' => ∃ H', Inv Y pins σ H' s' ∧ Nx H') (fun _ _ => False) s
/-- the clauses behind the k-th; vs: the slots that they store in -/
structure Nest (Y : Cx) (e : Expr) (gens : List Comprehension) (em : Sem Unit) (k : Nat) (D : Addr) (vs : List Nat) (T : TN) : Prop where
  run : ∀ (pins : List (Addr × Obj)) (s : Shared) (σ : L2.St) (H : Hp) (Nx : Hp → Prop), Inv Y pins σ H s → T σ H Nx → Onward (model Y.prog Y.w) Y.A (behind e gens em k (.ref D) Y.env) (fun s' => ∃ H', Inv Y pins (wipe σ vs) H' s' ∧ Nx H') s
section
variable {Y : Cx} {e tg iter : Expr} {ifs : List Expr} {gens : List Comprehension} {em : Sem Unit} {emit : Value → Env → Sem Unit} {k : Nat} {D : Addr} {vs vs' : List Nat} {T T' : TN} {wi : TI} {g : TG} {tt : TT}
theorem nest_nil (hk : gens[k + 1]? = none) (h : Emit Y em T) : Nest Y e gens em k D [] T := by
  refine ⟨fun pins s σ H Nx J q next Q E hn => ?_⟩
  unfold behind
  rw [hk]
  exact wpAny_bind (thnF (h.run pins s σ H Nx J q) fun _ s' h' => hn s' h')
/-- one loop of a clause, over an iterator that has come -/
def tLoop (vs : List Nat) (g : TG) (tt : TT) (T' : TN) (J : It) (σ : L2.St) (H4 : Hp) (Nx : Hp → Prop) : Prop :=
  ∃ W : Nat → Nat → Hp → Prop, (∃ m, W 0 m H4) ∧ ∀ i m H, W i m H → (J.stop i H ∧ Nx H) ∨ (J.go i H ∧ ∃ N1 : Hp → Prop, (∀ H', N1 H' → ∃ m', m' < m ∧ W (i + 1) m' H') ∧
    ∀ x H', J.yld i H x H' → g x (wipe σ vs) H' fun σ2 H2 => wipe σ2 vs = wipe σ vs ∧ tt σ2 H2 fun b H3 => if b = true then T' σ2 H3 N1 else N1 H3)
theorem nest_loop {R : Result → Shared → Prop} {s : Shared} {pins : List (Addr × Obj)} {σ : L2.St} {H : Hp} {Nx : Hp → Prop} {J : It} {fp : List Addr} {it : Addr} {tn : Nat → Heap → Prop} (hx : ∀ e s, ¬ Y.xe e s) (hc : Y.calm = true) (c : IsCp e gens emit) (hk : gens[k]? = some ⟨tg, iter, ifs, 0⟩) (hn : ∀ g, gens[k + 1]? = some g → g.is_async = 0)
    (hg : PG Y tg g) (ht : PTs Y ifs tt) (h : Nest Y e gens (emit (.ref D) Y.env) k D vs' T') (hv : ∀ i ∈ vs', i ∈ vs) (I : Inv Y pins σ H s) (Tu : Turn Y.prog Y.w Y.K tg J fp it tn) (st : tn 0 s.heap) (f : ∀ b ∈ fp, FpOk Y pins H b) (q : tLoop vs g tt T' J σ H Nx)
    (hR : ∀ s' H', Inv Y pins (wipe σ vs) H' s' → Nx H' → R (.ok .next) s') : codeAny (model Y.prog Y.w) Y.A (.compLoop e k (.ref it) (.ref D) Y.env) R s := by
  obtain ⟨W, ⟨m0, w0⟩, turn⟩ := q
  have stat : ∀ {H' : Hp}, (∀ b ∈ fp, H' b = none) → ∀ b ∈ fp, FpOk Y pins H' b := fun hn b hb => ⟨hn b hb, (f b hb).2⟩
  refine cp_loop c hk hn (fun n s' => ∃ i H', Inv Y pins (wipe σ vs) H' s' ∧ tn i s'.heap ∧ (∀ b ∈ fp, H' b = none) ∧ W i n H') ?_ m0 ⟨0, H, I.weak (wipe_length _ _) (fun j v e => (wipe_some e).1), st, fun b hb => (f b hb).1, w0⟩
  rintro n s1 ⟨i, H1, I1, st1, n1, w1⟩
  rcases turn i n H1 w1 with ⟨stop, nx⟩ | ⟨go, N1, hN, step⟩
  · refine thnF (Tu.done Y rfl rfl rfl hc i _ s1 (wipe σ vs) H1 (fun _ _ => False) I1 (stat n1) st1 stop) fun r s2 ⟨hr, I2⟩ => ?_
    subst hr
    exact hR s2 H1 I2 nx
  · refine thnF (Tu.item Y rfl rfl rfl hc i _ s1 (wipe σ vs) H1 (fun _ _ => False) I1 (stat n1) st1 go) fun r s2 ⟨u, hr, h2⟩ => ?_
    subst hr
    refine thnF h2 fun _ s3 ⟨x, H3, I3, r3, y3, st3, n3⟩ => ?_
    have I3' := I3.pinned (stat n3) (Tu.obj _ _ st3)
    refine wpAny_mono (hg.run _ s3 (wipe σ vs) H3 x u _ I3' r3 (step x H3 y3)) (fun _ s4 ⟨σ4, H4, I4, hw4, q4⟩ => ?_) fun e s' z => hx e s' z
    refine wpAny_mono (ht.run _ s4 σ4 H4 _ I4 q4) (fun b s5 ⟨H5, I5, q5⟩ => ?_) fun e s' z => hx e s' z
    have fin : ∀ {σ' : L2.St} {s' : Shared} {H' : Hp}, Inv Y (pins ++ pinsAt fp s3.heap) σ' H' s' → wipe σ' vs = wipe σ vs → N1 H' → ∃ m, m < n ∧ ∃ i H', Inv Y pins (wipe σ vs) H' s' ∧ tn i s'.heap ∧ (∀ b ∈ fp, H' b = none) ∧ W i m H' := fun {σ' s' H'} I' hw nx => by
      obtain ⟨m', hm, w'⟩ := hN H' nx
      have pin' : ∀ b ∈ fp, ∀ o, s3.heap.get? b = some o → s'.heap.get? b = some o ∧ H' b = none := fun b hb o e =>
        let z := I'.pin (b, o) (List.mem_append_right _ (List.mem_append_right _ (mem_pinsAt hb e)))
        ⟨z.1, z.2.1⟩
      refine ⟨m', hm, i + 1, H', I'.unpinned.weak (by rw [← hw, wipe_length]) (fun j v e => by rw [← hw] at e; exact (wipe_some e).1), Tu.keep _ _ _ st3 fun b hb o e => (pin' b hb o e).1, fun b hb => ?_, w'⟩
      obtain ⟨o, e, _⟩ := Tu.obj _ _ st3 b hb
      exact (pin' b hb o e).2
    cases b with
    | false =>
      simp only [Bool.false_eq_true, if_false] at q5 ⊢
      exact fin I5 hw4 q5
    | true =>
      simp only [if_true] at q5 ⊢
      intro next Q E hnext
      refine h.run _ s5 σ4 H5 N1 I5 q5 next Q E fun s6 ⟨H6, I6, nx⟩ => hnext s6 (fin I6 ?_ nx)
      rw [← hw4]
      apply List.ext_getElem?
      intro j
      by_cases hj : j ∈ vs
      · by_cases hlt : j < σ4.length
        · rw [Classical.byContradiction fun z => absurd (wipe_at hj z) (by rw [wipe_length]; omega), Classical.byContradiction fun z => absurd (wipe_at hj z) (by omega)]
        · rw [List.getElem?_eq_none (by rw [wipe_length, wipe_length]; omega), List.getElem?_eq_none (by rw [wipe_length]; omega)]
      · rw [wipe_out hj, wipe_out hj, wipe_out fun z => hj (hv j z)]
theorem nest_cons (hx : ∀ e s, ¬ Y.xe e s) (hc : Y.calm = true) (c : IsCp e gens emit) (hk : gens[k + 1]? = some ⟨tg, iter, ifs, 0⟩) (hn : ∀ g, gens[k + 1 + 1]? = some g → g.is_async = 0) (hi : PI Y tg iter wi) (hg : PG Y tg g) (ht : PTs Y ifs tt)
    (h : Nest Y e gens (emit (.ref D) Y.env) (k + 1) D vs' T') (hv : ∀ i ∈ vs', i ∈ vs) (hs : ∀ x, foldedSetIterable iter Y.env x = pure x) :
    Nest Y e gens (emit (.ref D) Y.env) k D vs (fun σ H Nx => wi σ H fun J H4 => tLoop vs g tt T' J σ H4 Nx) := by
  refine ⟨fun pins s σ H Nx I q next Q E hnext => ?_⟩
  unfold behind
  rw [hk]
  refine wpAny_bind (wpAny_mono (hi.run pins s σ H _ I q) (fun x s1 h1 => ?_) fun e s' z => (hx e s' z).elim)
  refine wpAny_bind (wpAny_standAt (wpAny_bind (wpAny_of_eq (hs x) (wpAny_bind (wpAny_holding (wpAny_mono h1 (fun itv s2 h2 => ?_) fun e s' z => (hx e s' z).elim))))))
  obtain ⟨it, fp, tn, J, H2, rfl, I2, Tu, st2, f2, q2⟩ := h2
  refine wpAny_bind (wpAny_runOwn ?_)
  rw [Around.mark_none]
  have loop := nest_loop (R := fun r s' => match r with
    | .ok _ => ∃ H', Inv Y pins (wipe σ vs) H' s' ∧ Nx H'
    | .error _ => False) hx hc c hk hn hg ht h hv I2 Tu st2 f2 q2 fun s' H' I' nx => ⟨H', I', nx⟩
  refine codeAny_mono (cp_start c hk loop (Tu.self Y.A 0 _ _ _ st2 loop)) fun r s' hr => ?_
  cases r with
  | ok f => exact hnext s' hr
  | error e => exact hr.elim
end
/-- a comprehension as a value: o0 the new object, T what follows the first clause's tests -/
def tCp (o0 : Addr → HO) (wi : TI) (vs : List Nat) (g : TG) (tt : TT) (T : Addr → TN) : TE := fun σ H Q => wi σ H fun J H1 => ∀ D, H1 D = none → tLoop vs g tt (T D) J σ (upd H1 D (o0 D)) fun H' => Q (.ref D) H'
section
variable {X : Cx} {e tg iter : Expr} {ifs : List Expr} {rest : List Comprehension} {emit : Value → Env → Sem Unit} {vs' : List Nat} {T : Addr → TN} {wi : TI} {g : TG} {tt : TT} {scope : Scope} {own : List (Str × Nat)} {ob0 : Obj} {o0 : Addr → HO} {newAcc : Sem Value}
theorem cp_core {pins : List (Addr × Obj)} {s : Shared} {σ : L2.St} {H : Hp} {Q : VK} {pos' : Pos} {use : Option (Value → Sem Unit)} {Qf : Value → Shared → Prop}
    (c : IsCp e (⟨tg, iter, ifs, 0⟩ :: rest) emit) (hnw : ∀ {A : Around} {E : Value → Shared → Prop} {Q : Value → Shared → Prop} {s : Shared}, Q (.ref s.heap.objs.size) { s with heap := s.heap.push ob0 } → wpAny (model X.prog X.w) A newAcc Q E s)
    (hob : ∀ (pins : List (Addr × Obj)) (σ : L2.St) (H : Hp) (s : Shared), Inv X pins σ H s → ObjOk X.prog X.w (upd H s.heap.objs.size (o0 s.heap.objs.size)) (s.heap.push ob0) s.heap.objs.size (o0 s.heap.objs.size))
    (hc : X.calm = true) (hN : X.N.Nodup) (I : Inv X pins σ H s) (hi : PI X tg iter wi) (ok : BlkOk X.N X.env.scope scope own) (hrest : ∀ g ∈ rest, g.is_async = 0) (hv : ∀ i ∈ vs', i ∈ own.map (·.2))
    (hg : ∀ (s : Shared) (H : Hp) (C : Addr) (cl : List (Str × Addr)) (fp : List Addr), PG (X.blk s H scope (compEnvC scope cl C X.env) fp) tg g) (ht : ∀ (s : Shared) (H : Hp) (C : Addr) (cl : List (Str × Addr)) (fp : List Addr), PTs (X.blk s H scope (compEnvC scope cl C X.env) fp) ifs tt)
    (hb : ∀ (s : Shared) (H : Hp) (C : Addr) (cl : List (Str × Addr)) (fp : List Addr) (D : Addr), Nest (X.blk s H scope (compEnvC scope cl C X.env) fp) e (⟨tg, iter, ifs, 0⟩ :: rest) (emit (.ref D) (compEnvC scope cl C X.env)) 0 D vs' (T D))
    (hs : ∀ x, foldedSetIterable iter X.env x = pure x) (h : tCp o0 wi (own.map (·.2)) g tt T σ H Q)
    (hRR : ∀ D C s' m H', Inv X pins σ H' s' → Q (.ref D) H' → s'.heap.Ns C m → FpOk X pins H' C → compPost (model X.prog X.w) X.A X.xe use Qf (.ref D) C (.ok .next) s') :
    wpAny (model X.prog X.w) X.A (comprehension e scope X.env pos' newAcc false (eval iter X.env) use) Qf X.xe s := by
  have hfree : ∀ y ∈ scope.names, y.2 = .free → ∃ c, X.env.cells.lookup y.1 = some c := fun y hy e => (ok.free y hy e).elim (fun k => I.ok.has _ (.inl k)) fun k => I.ok.has _ (.inr k)
  refine wpAny_comprehension_free (use := use) c.cl hs (closure_ok hfree) ok.kind (fun y hy e => by rw [ok.uniq y hy, e]) (thn (hi.run pins s σ H _ I h) fun xv s1 hx => thn hx fun itv s2 h2 => ?_)
  obtain ⟨it, fp, tn, J, H2, rfl, I2, Tu, st2, f2, q⟩ := h2
  refine hnw (newEnv_comp ?_)
  generalize hD : s2.heap.objs.size = D
  have hDn : H2 D = none := I2.hok.fresh (Nat.le_of_eq hD)
  have q := q D hDn
  generalize hs3 : ({ s2 with heap := s2.heap.push ob0 } : Shared) = s3
  have I3 : Inv X pins σ (upd H2 D (o0 D)) s3 := by
    subst hs3 hD
    exact I2.laid (t' := s2.toks) (fun b o e => Heap.get?_push_of_some _ e) (Nat.le_refl _) (hob _ _ _ _ I2)
  have h3 : s3.heap = s2.heap.push ob0 := by rw [← hs3]
  have f3 : ∀ b ∈ fp, FpOk X pins (upd H2 D (o0 D)) b ∧ b < s3.heap.objs.size := fun b hb => by
    obtain ⟨o, e, _⟩ := Tu.obj _ _ st2 b hb
    have hlt := Heap.lt_size e
    refine ⟨⟨?_, (f2 b hb).2⟩, by rw [h3, Heap.size_push]; exact Nat.lt_succ_of_lt hlt⟩
    rw [upd_ne (by rw [← hD]; exact Nat.ne_of_lt hlt)]
    exact (f2 b hb).1
  have st3 : tn 0 s3.heap := Tu.keep _ _ _ st2 fun b _ o e => by rw [h3]; exact Heap.get?_push_of_some _ e
  have I4 := block_start I3 ok hN f3
  have pg := hg s3 (upd H2 D (o0 D)) s3.heap.objs.size (cellsFrom (s3.heap.objs.size + 1) scope.names (cloFrom X.env.cells scope.names [])) fp
  have pt := ht s3 (upd H2 D (o0 D)) s3.heap.objs.size (cellsFrom (s3.heap.objs.size + 1) scope.names (cloFrom X.env.cells scope.names [])) fp
  have pb := hb s3 (upd H2 D (o0 D)) s3.heap.objs.size (cellsFrom (s3.heap.objs.size + 1) scope.names (cloFrom X.env.cells scope.names [])) fp D
  show codeAny _ _ (.compStart e 0 (.ref it) (.ref D) (compEnvC scope (cellsFrom (s3.heap.objs.size + 1) scope.names (cloFrom X.env.cells scope.names [])) s3.heap.objs.size X.env)) (compPost (model X.prog X.w) X.A X.xe use Qf (.ref D) s3.heap.objs.size) { s3 with heap := pushCells (s3.heap.push { cls := .type "dict", data := .dict #[] }) scope.names }
  have nfp : ∀ b ∈ fp, (upd H2 D (o0 D)) b = none := fun b hb => (f3 b hb).1.1
  generalize hce : compEnvC scope (cellsFrom (s3.heap.objs.size + 1) scope.names (cloFrom X.env.cells scope.names [])) s3.heap.objs.size X.env = ce at I4 pg pt pb ⊢
  have cL : ce.locals = s3.heap.objs.size := by subst hce; rfl
  generalize hH3 : upd H2 D (o0 D) = H3 at I3 I4 pg pt pb q nfp f3
  generalize hs4 : ({ s3 with heap := pushCells (s3.heap.push { cls := .type "dict", data := .dict #[] }) scope.names } : Shared) = s4 at I4 ⊢
  have st4 : tn 0 s4.heap := Tu.keep _ _ _ st3 fun b _ o e => by rw [← hs4]; exact pushCells_keeps _ _ _ _ (Heap.get?_push_of_some _ e)
  have stat : ∀ b ∈ fp, FpOk (X.blk s3 H3 scope ce fp) [] H3 b := fun b hb =>
    ⟨nfp b hb, (I4.ok.exf b hb).1, I4.ok.exfs b hb, .inl hb, fun x c e => (I4.ok.exf b hb).2 x c e, fun p hp => absurd (show p ∈ ([] : List (Addr × Obj)) ++ [] from hp) (by simp)⟩
  have loop := nest_loop (Y := X.blk s3 H3 scope ce fp) (k := 0) (D := D) (pins := []) (vs := own.map (·.2)) (σ := wipe σ (own.map (·.2))) (H := H3) (Nx := fun H' => Q (.ref D) H') (J := J) (fp := fp) (it := it) (tn := tn) (s := s4) (R := compPost (model X.prog X.w) X.A X.xe use Qf (.ref D) s3.heap.objs.size) (fun _ _ z => z) hc c rfl (fun g hg => hrest g (List.mem_of_getElem? (by simpa using hg))) pg pt pb hv I4 Tu st4 stat
    (by
      obtain ⟨W, w0, turn⟩ := q
      exact ⟨W, w0, fun i m H w => by rw [wipe_wipe]; exact turn i m H w⟩)
    fun s' H' I6 qq => by
      have I7 : Inv X pins σ H' s' := I3.call' (ch := fp) I6.os I6.base I6.hok I6.bare fun b hb => ⟨(f3 b hb).1.2.2.2.1, (f3 b hb).1.2.1, (f3 b hb).1.2.2.2.2.1, (f3 b hb).1.2.2.2.2.2⟩
      have nC : H' s3.heap.objs.size = none := by
        have z : H' ce.locals = none := I6.free
        rw [cL] at z
        exact z
      obtain ⟨m, hn, _⟩ := I6.loc
      have hn : s'.heap.Ns ce.locals m := hn
      rw [cL] at hn
      exact hRR D s3.heap.objs.size s' m H' I7 qq hn (I3.fpOk (Nat.le_refl _) nC)
  exact cp_start c rfl loop (Tu.self X.A 0 _ _ _ st4 loop)
end
end Dk
namespace Dk
open PySem L2
/-- all but the object at D -/
def dropA (H : Hp) (D : Addr) : Hp := fun b => if b = D then none else H b
theorem dropA_ne {H : Hp} {D b : Addr} (h : b ≠ D) : dropA H D b = H b := if_neg h
theorem dropA_at {H : Hp} {D b : Addr} {o : HO} (h : dropA H D b = some o) : b ≠ D ∧ H b = some o := by
  unfold dropA at h
  split at h
  · cases h
  · exact ⟨by assumption, h⟩
section
variable {W : Wd} {I H I' H' : Hp} {D : Addr} {F : Fx} {K : PySem.W.Frag} {ρ : DEnv} {σ : L2.St}
theorem StI.drop (s : StI W I H) (n : I D = none) (m : ¬ W.mv D) : StI W I (dropA H D) :=
  ⟨fun b o e => by rw [dropA_ne (ne_of_none e n)]; exact s.sub b o e, s.imm, W.frame (.refl _) (fun b hb => dropA_ne fun z => m (z ▸ hb)) s.inv⟩
theorem Stp.dropR (s : Stp W I (dropA H D) I' H') (n : I' D = none) (m : ¬ W.mv D) : Stp W I (dropA H D) I' (dropA H' D) :=
  ⟨s.i, s.st.drop n m, fun b o e k => by rw [dropA_ne (dropA_at e).1]; exact s.h b o e k, fun b o e k => s.new b o e k⟩
theorem Stp.dropL (s : Stp W I H I' H') (n : I' D = none) (m : ¬ W.mv D) : Stp W I (dropA H D) I' (dropA H' D) :=
  ⟨s.i, s.st.drop n m, fun b o e k => by rw [dropA_ne (dropA_at e).1]; exact s.h b o (dropA_at e).2 k, fun b o e k => s.new b o (dropA_at e).2 k⟩
theorem Stp.intro (s : Stp W I (dropA H D) I' (dropA H' D)) : Stp W I (dropA H D) I' H' := by
  refine ⟨s.i, ⟨fun b o e => (dropA_at (s.st.sub b o e)).2, s.st.imm, ?_⟩, fun b o e k => (dropA_at (s.h b o e k)).2, s.new⟩
  refine W.frame (.refl _) (fun b hb => ?_) s.st.inv
  by_cases hd : b = D
  · exact absurd (show dropA H' D b = none from if_pos hd) (W.live s.st.inv hb)
  · exact (dropA_ne hd).symm
/-- the object at D is written, still no one's -/
structure InD (F : Fx) (I H : Hp) (ρ : DEnv) (σ : L2.St) (D : Addr) : Prop where
  ni : I D = none
  nm : ¬ F.W.mv D
  nb : F.B D = none
  ap : Apart ρ σ D
theorem At.drop (a : At F K I ρ σ H) (d : InD F I H ρ σ D) : At F K I ρ σ (dropA H D) := by
  refine ⟨⟨a.stp.i, a.st.drop d.ni d.nm, fun b o e k => by rw [dropA_ne (ne_of_none e d.nb)]; exact a.stp.h b o e k, a.stp.new⟩, a.len, fun i e h => ?_, a.dis⟩
  obtain ⟨v, h1, h2⟩ := a.env i e h
  refine ⟨v, h1, ?_⟩
  rcases h2 with ⟨x, rfl, r⟩ | ⟨p, o, rfl, w⟩
  · exact .inl ⟨x, rfl, r⟩
  · exact .inr ⟨p, o, rfl, by rw [dropA_ne fun z => by subst z; exact d.ap i _ h w.rep.isOwn h1]; exact w.hp, w.rep, w.ni, w.nm, w.nb, w.ad⟩
theorem InD.step (d : InD F I H ρ σ D) (s : I' D = none) : InD F I' H' ρ σ D := ⟨s, d.nm, d.nb, d.ap⟩
theorem Apart.wipe (h : Apart ρ σ D) (vs : List Nat) : Apart (wipeD ρ vs) (wipe σ vs) D := fun i e he o hv => by
  obtain ⟨h1, h2⟩ := wipeD_some he
  exact h i e h1 o (wipe_some hv).1
theorem Apart.kept {ρ' : DEnv} {σ' : L2.St} {js : List Nat} (h : Apart ρ σ D) (k : Kept js ρ ρ') (o : Only js σ σ') : Apart ρ' σ' D := fun i e he ow hv => by
  obtain ⟨h1, h2⟩ := k i e he ow
  exact h i e h2 ow ((o.2 i h1).symm.trans hv)
end
/-- what is told of the object at D: β its state -/
abbrev HoldsD (β : Type) := Addr → PySem.W.Frag → Hp → HO → β → Prop
abbrev DNT (β : Type) := DEnv → β → (β → Prop) → Prop
def finN {β : Type} (F : Fx) (K : PySem.W.Frag) (Hd : HoldsD β) (D : Addr) (I H : Hp) (Nx : Hp → Prop) : β → Prop :=
  fun b => ∀ I' H' o, Stp F.W I (dropA H D) I' H' → H' D = some o → I' D = none → Hd D K I' o b → Nx H'
/-- the reading t stands for the raw reading T -/
def NSays {β : Type} (F : Fx) (K : PySem.W.Frag) (Hd : HoldsD β) (D : Addr) (t : DNT β) (T : TN) : Prop :=
  ∀ (I H : Hp) (ρ : DEnv) (σ : L2.St) (o : HO) (b : β) (Nx : Hp → Prop), At F K I ρ σ H → InD F I H ρ σ D → H D = some o → Hd D K I o b → t ρ b (finN F K Hd D I H Nx) → T σ H Nx
structure DNest (F : Fx) (Y : Cx) (e : Expr) (gens : List Comprehension) (emit : Value → Env → Sem Unit) (k : Nat) (vs : List Nat) {β : Type} (Hd : HoldsD β) (t : DNT β) : Prop where
  mono : ∀ ρ b (Q Q' : β → Prop), (∀ b, Q b → Q' b) → t ρ b Q → t ρ b Q'
  run : ∀ D, ∃ T, Nest Y e gens (emit (.ref D) Y.env) k D vs T ∧ NSays F Y.K Hd D t T
structure DEmit (F : Fx) (Y : Cx) (emit : Value → Env → Sem Unit) {β : Type} (Hd : HoldsD β) (t : DNT β) : Prop where
  mono : ∀ ρ b (Q Q' : β → Prop), (∀ b, Q b → Q' b) → t ρ b Q → t ρ b Q'
  run : ∀ D, ∃ T, Emit Y (emit (.ref D) Y.env) T ∧ NSays F Y.K Hd D t T
def loopD {β : Type} (g : DGT) (tc : DB) (t : DNT β) (ρ : DEnv) : List D → β → (β → Prop) → Prop
  | [], b, Q => Q b
  | d :: ds, b, Q => g d ρ fun ρ2 => tc ρ2 fun c => if c = true then t ρ2 b fun b' => loopD g tc t ρ ds b' Q else loopD g tc t ρ ds b Q
section
variable {F : Fx} {X Y : Cx} {K : PySem.W.Frag} {e tg iter : Expr} {ifs : List Expr} {gens rest : List Comprehension} {emit : Value → Env → Sem Unit} {k : Nat} {vs vs' js : List Nat} {β : Type} {Hd : HoldsD β} {t : DNT β} {ti : DAT} {g : DGT} {tc : DB}
theorem loopD.mono (hgm : ∀ d ρ (Q Q' : DEnv → Prop), (∀ ρ, Q ρ → Q' ρ) → g d ρ Q → g d ρ Q') (htm : ∀ ρ (Q Q' : Bool → Prop), (∀ d, Q d → Q' d) → tc ρ Q → tc ρ Q') (hm : ∀ ρ b (Q Q' : β → Prop), (∀ b, Q b → Q' b) → t ρ b Q → t ρ b Q') (ρ : DEnv) :
    ∀ (ds : List D) (b : β) (Q Q' : β → Prop), (∀ b, Q b → Q' b) → loopD g tc t ρ ds b Q → loopD g tc t ρ ds b Q'
  | [], b, Q, Q', k, h => k _ h
  | d :: ds, b, Q, Q', k, h => hgm _ _ _ _ (fun ρ2 q => htm _ _ _ (fun c q => by
      cases c
      · exact loopD.mono hgm htm hm ρ ds b _ _ k q
      · exact hm _ _ _ _ (fun b' => loopD.mono hgm htm hm ρ ds b' _ _ k) q) q) h
theorem dn_nil (hk : gens[k + 1]? = none) (h : DEmit F Y emit Hd t) : DNest F Y e gens emit k [] Hd t :=
  ⟨h.mono, fun D => let ⟨T, h1, h2⟩ := h.run D; ⟨T, nest_nil hk h1, h2⟩⟩
theorem loop_run {J : It} {I H : Hp} {ρ : DEnv} {σ : L2.St} {o : HO} {b : β} {D : Addr} {Nx : Hp → Prop} {T : TN} {ds : List Dk.D} (Hmono : ∀ D K I I' o b, Same I I' → Hd D K I o b → Hd D K I' o b)
    (hgm : DG F Y tg js g) (htm : ∀ ρ (Q Q' : Bool → Prop), (∀ d, Q d → Q' d) → tc ρ Q → tc ρ Q') (tm : ∀ ρ b (Q Q' : β → Prop), (∀ b, Q b → Q' b) → t ρ b Q → t ρ b Q') (says : NSays F K Hd D t T) (hjs : ∀ j ∈ js, j ∈ vs)
    (jr : JRep F.W K J I ds) (A : At F K I ρ σ H) (d : InD F I H ρ σ D) (hD : H D = some o) (hb : Hd D K I o b) (q : loopD g tc t (wipeD ρ vs) ds b (finN F K Hd D I H Nx)) :
    tLoop vs (rdG F K js g) (rdT F K tc) T J σ H Nx := by
  have s0 : Stp F.W I (dropA H D) I H := Stp.intro (A.st.drop d.ni d.nm).stp
  refine ⟨fun i m H2 => m = ds.length - i ∧ i ≤ ds.length ∧ ∃ I2 o2 b2, Stp F.W I (dropA H D) I2 H2 ∧ H2 D = some o2 ∧ I2 D = none ∧ Hd D K I2 o2 b2 ∧ loopD g tc t (wipeD ρ vs) (ds.drop i) b2 (finN F K Hd D I H Nx), ⟨ds.length, by simp, Nat.zero_le _, I, o, b, s0, hD, d.ni, hb, by simpa using q⟩, ?_⟩
  rintro i m H2 ⟨rfl, hi, I2, o2, b2, s2, hD2, n2, hb2, q2⟩
  have A0 := (A.drop d).wipe vs
  by_cases hlt : i < ds.length
  · refine .inr ⟨jr.go i I2 H2 s2.i s2.st hlt, fun H3 => ∃ I3 o3 b3, Stp F.W I (dropA H D) I3 H3 ∧ H3 D = some o3 ∧ I3 D = none ∧ Hd D K I3 o3 b3 ∧ loopD g tc t (wipeD ρ vs) (ds.drop (i + 1)) b3 (finN F K Hd D I H Nx), fun H3 h => ⟨ds.length - (i + 1), by omega, rfl, hlt, h⟩, fun x H3 y => ?_⟩
    obtain ⟨dx, I3, hd, s3, rx⟩ := jr.yld i I2 H2 x H3 hlt s2.i s2.st y
    rw [List.drop_eq_getElem_cons hlt] at q2
    have hdx : ds[i] = dx := by
      rw [List.getElem?_eq_getElem hlt] at hd
      exact Option.some.inj hd
    rw [hdx] at q2
    -- step over the turn's start
    have n3 : I3 D = none := s3.new D o2 hD2 n2
    have s23 : Stp F.W I (dropA H D) I3 H3 := Stp.intro ((s2.dropR n2 d.nm).trans (s3.dropL n3 d.nm))
    have A3 : At F K I3 (wipeD ρ vs) (wipe σ vs) H3 := A0.step s23
    have q2 : g dx (wipeD ρ vs) fun ρ2 => tc ρ2 fun c => if c = true then t ρ2 b2 fun b' => loopD g tc t (wipeD ρ vs) (ds.drop (i + 1)) b' (finN F K Hd D I H Nx) else loopD g tc t (wipeD ρ vs) (ds.drop (i + 1)) b2 (finN F K Hd D I H Nx) := q2
    refine ⟨I3, wipeD ρ vs, dx, A3, rx, hgm.mono _ _ _ _ (fun ρ4 ⟨q4, kp⟩ I4 σ4 H4 A4 s4 o4 => ⟨?_, ?_⟩) (hgm.keeps _ _ _ q2)⟩
    · rw [wipe_only o4 hjs, wipe_wipe]
    have d4 : H4 D = some o2 := s4.h _ _ (s3.h _ _ hD2 d.nm) d.nm
    have n4 : I4 D = none := s4.new _ _ (s3.h _ _ hD2 d.nm) n3
    have s24 : Stp F.W I (dropA H D) I4 H4 := Stp.intro ((s23.dropR n3 d.nm).trans (s4.dropL n4 d.nm))
    refine ⟨I4, ρ4, A4, htm _ _ _ (fun c q5 I5 H5 s5 => ?_) q4⟩
    have d5 : H5 D = some o2 := s5.h _ _ d4 d.nm
    have n5 : I5 D = none := s5.new _ _ d4 n4
    have s25 : Stp F.W I (dropA H D) I5 H5 := Stp.intro ((s24.dropR n4 d.nm).trans (s5.dropL n5 d.nm))
    have hb5 : Hd D K I5 o2 b2 := Hmono _ _ _ _ _ _ (Same.trans s3.i (Same.trans s4.i s5.i)) hb2
    cases c with
    | false => exact ⟨I5, o2, b2, s25, d5, n5, hb5, q5⟩
    | true =>
      refine says I5 H5 ρ4 σ4 o2 b2 _ (A4.step s5) ⟨n5, d.nm, d.nb, (d.ap.wipe vs).kept kp o4⟩ d5 hb5 (tm _ _ _ _ (fun b6 q6 I6 H6 o6 s6 d6 n6 hb6 => ?_) q5)
      exact ⟨I6, o6, b6, Stp.intro ((s25.dropR n5 d.nm).trans (s6.dropR n6 d.nm)), d6, n6, hb6, q6⟩
  · have e : i = ds.length := by omega
    subst e
    rw [List.drop_length] at q2
    have q2 : finN F K Hd D I H Nx b2 := q2
    exact .inl ⟨jr.stop I2 H2 s2.i s2.st, q2 I2 H2 o2 s2 hD2 n2 hb2⟩
theorem dn_cons (hx : ∀ e s, ¬ Y.xe e s) (hc : Y.calm = true) (c : IsCp e gens emit) (hk : gens[k + 1]? = some ⟨tg, iter, ifs, 0⟩) (hn : ∀ g, gens[k + 1 + 1]? = some g → g.is_async = 0) (Hmono : ∀ D K I I' o b, Same I I' → Hd D K I o b → Hd D K I' o b)
    (hi : DI F Y tg iter ti) (hg : DG F Y tg js g) (ht : DIfs F Y ifs tc) (h : DNest F Y e gens emit (k + 1) vs' Hd t) (hs : ∀ x, foldedSetIterable iter Y.env x = pure x) :
    DNest F Y e gens emit k (js ++ vs') Hd (fun ρ b Q => ti ρ fun ds => loopD g tc t (wipeD ρ (js ++ vs')) ds b Q) := by
  refine ⟨fun ρ b Q Q' k q => hi.mono _ _ _ (fun ds => loopD.mono hg.mono ht.mono h.mono _ ds b _ _ k) q, fun D => ?_⟩
  obtain ⟨T, h1, h2⟩ := h.run D
  refine ⟨_, nest_cons hx hc c hk hn hi.run hg.run ht.run h1 (vs := js ++ vs') (fun i hi => List.mem_append_right _ hi) hs, fun I H ρ σ o b Nx A d hD hb q => ?_⟩
  refine ⟨I, ρ, A, hi.mono _ _ _ (fun ds q J I' H' s jr => ?_) q⟩
  have hD' := s.h _ _ hD d.nm
  have n' := s.new _ _ hD d.ni
  refine loop_run Hmono hg ht.mono h.mono h2 (fun j hj => List.mem_append_left _ hj) jr (A.step s) ⟨n', d.nm, d.nb, d.ap⟩ hD' (Hmono _ _ _ _ _ _ s.i hb) (loopD.mono hg.mono ht.mono h.mono _ _ _ _ _ (fun b2 q2 I2 H2 o2 s2 d2 n2 hb2 => q2 I2 H2 o2 (Stp.intro ((s.dropL n' d.nm).trans (s2.dropR n2 d.nm))) d2 n2 hb2) q)
end
def HdL : HoldsD (List D) := fun _ K I o ds => ∃ vs, o = .lst vs ∧ Reps K I vs ds
def HdK : HoldsD (List (Key × D)) := fun _ K I o ds => ∃ kvs, o = .dK kvs ∧ kvs.map (·.1) = ds.map (·.1) ∧ Reps K I (kvs.map (·.2)) (ds.map (·.2))
theorem HdL.mono : ∀ (D : Addr) (K : PySem.W.Frag) (I I' : Hp) (o : HO) (b : List Dk.D), Same I I' → HdL D K I o b → HdL D K I' o b := fun D K I I' o b s ⟨vs, e, r⟩ => ⟨vs, e, r.mono s⟩
theorem HdK.mono : ∀ (D : Addr) (K : PySem.W.Frag) (I I' : Hp) (o : HO) (b : List (Key × Dk.D)), Same I I' → HdK D K I o b → HdK D K I' o b := fun D K I I' o b s ⟨vs, e, k, r⟩ => ⟨vs, e, k, r.mono s⟩
def putD (kvs : List (Key × D)) (k : Key) (d : D) : List (Key × D) :=
  if (kvs.any fun kv => decide (kv.1 = k)) = true then kvs.map fun kv => if kv.1 = k then (kv.1, d) else kv else kvs ++ [(k, d)]
theorem any_keys {α : Type} (k : Key) (kvs : List (Key × α)) : (kvs.any fun kv => decide (kv.1 = k)) = (kvs.map (·.1)).any fun j => decide (j = k) := by
  rw [List.any_map]
  rfl
theorem putD_rep {K : PySem.W.Frag} {I : Hp} {v : V} {d : D} {k : Key} (rv : Rep K I v d) {kvs : List (Key × V)} {ds : List (Key × D)} (h : kvs.map (·.1) = ds.map (·.1)) (r : Reps K I (kvs.map (·.2)) (ds.map (·.2))) :
    (putK kvs k v).map (·.1) = (putD ds k d).map (·.1) ∧ Reps K I ((putK kvs k v).map (·.2)) ((putD ds k d).map (·.2)) := by
  have e : (kvs.any fun kv => decide (kv.1 = k)) = ds.any fun kv => decide (kv.1 = k) := by rw [any_keys, any_keys, h]
  unfold putK putD
  rw [e]
  split
  · have m : ∀ {kvs : List (Key × V)} {ds : List (Key × D)}, kvs.map (·.1) = ds.map (·.1) → Reps K I (kvs.map (·.2)) (ds.map (·.2)) →
        ((kvs.map fun kv => if kv.1 = k then (kv.1, v) else kv).map (·.1) = (ds.map fun kv => if kv.1 = k then (kv.1, d) else kv).map (·.1) ∧ Reps K I ((kvs.map fun kv => if kv.1 = k then (kv.1, v) else kv).map (·.2)) ((ds.map fun kv => if kv.1 = k then (kv.1, d) else kv).map (·.2))) := by
      intro kvs
      induction kvs with
      | nil => intro ds h _; cases ds with | nil => exact ⟨rfl, .nil⟩ | cons _ _ => simp at h
      | cons p kvs ih =>
        intro ds h r
        cases ds with
        | nil => simp at h
        | cons q ds =>
          obtain ⟨i, x⟩ := p
          obtain ⟨j, y⟩ := q
          simp only [List.map_cons, List.cons.injEq] at h
          obtain ⟨rfl, h⟩ := h
          cases r with
          | cons r1 r2 =>
            obtain ⟨a, b⟩ := ih h r2
            by_cases e : i = k
            · simp only [List.map_cons, e, if_true]
              exact ⟨by rw [a], .cons rv b⟩
            · simp only [List.map_cons, e, if_false]
              exact ⟨by rw [a], .cons r1 b⟩
    exact m h r
  · simp only [List.map_append, h]
    exact ⟨rfl, r.append (.cons rv .nil)⟩
section
variable {F : Fx} {Y : Cx} {elt kx vx : Expr} {te tk tv : DT}
theorem dm_list (hx : ∀ e s, ¬ Y.xe e s) (h : DE F Y elt te) : DEmit F Y (fun acc env => do let _ ← call (.builtin "list.append") [acc, ← eval elt env]) HdL (fun ρ b Q => te ρ fun y => b.length < sizeLine ∧ Q (b ++ [y])) := by
  refine ⟨fun ρ b Q Q' k q => h.mono _ _ _ (fun d q => ⟨q.1, k _ q.2⟩) q, fun D => ⟨fun σ H Nx => rdE F Y.K te σ H fun y H2 => ∃ acc, H2 D = some (.lst acc) ∧ acc.length < sizeLine ∧ Nx (upd H2 D (.lst (acc ++ [y]))), ⟨fun pins s σ H Nx J q => ?_⟩, ?_⟩⟩
  · refine wpAny_bind (wpAny_mono (h.run.run pins s σ H _ J q) (fun u s2 ⟨y, H2, J2, ry, acc, hD, hz, nx⟩ => ?_) fun e s' z => (hx e s' z).elim)
    exact wpAny_bind (app_ok J2 hD hz ry fun s3 J3 => wpAny_pure ⟨_, J3, nx⟩)
  · rintro I H ρ σ o b Nx A d hD ⟨vs, rfl, r⟩ q
    refine rdE_next h.mono A q fun y v I2 H2 q2 s rv => ?_
    refine ⟨vs, s.h _ _ hD d.nm, by rw [r.length]; exact q2.1, q2.2 I2 _ _ ?_ upd_same (s.new _ _ hD d.ni) ⟨_, rfl, (r.mono s.i).append (.cons rv .nil)⟩⟩
    have n2 := s.new _ _ hD d.ni
    refine Stp.intro ?_
    have e : dropA (upd H2 D (.lst (vs ++ [v]))) D = dropA H2 D := by
      funext b
      unfold dropA
      split
      · rfl
      · rw [upd_ne (by assumption)]
    rw [e]
    exact s.dropL n2 d.nm
theorem drop_upd {H : Hp} {D : Addr} {o : HO} : dropA (upd H D o) D = dropA H D := by
  funext b
  unfold dropA
  split
  · rfl
  · rw [upd_ne (by assumption)]
theorem dm_dict (hx : ∀ e s, ¬ Y.xe e s) (hk : DE F Y kx tk) (hv : DE F Y vx tv) : DEmit F Y (fun acc env => do
    let kv ← eval kx env
    let vv ← holding [kv] (eval vx env)
    match acc with
    | .ref d => do
      standAt { kx.pos with endLine := vx.pos.endLine, endCol := vx.pos.endCol }
      holding [kv, vv] (dictSet d kv vv)
    | _ => unsupported "internal:dictcomp") HdK (fun ρ b Q => tk ρ fun y => tv ρ fun z => ∃ k, y = keyD k ∧ b.length < sizeLine ∧ Q (putD b k z)) := by
  refine ⟨fun ρ b Q Q' k q => hk.mono _ _ _ (fun d q => hv.mono _ _ _ (fun z ⟨k0, e, l, q⟩ => ⟨k0, e, l, k _ q⟩) q) q,
    fun D => ⟨fun σ H Nx => rdE F Y.K tk σ H fun y H2 => ∃ I2 ρ2, At F Y.K I2 ρ2 σ H2 ∧ tv ρ2 (fin F Y.K I2 H2 fun z H3 => ∃ kvs k, y = kV k ∧ H3 D = some (.dK kvs) ∧ kvs.length < sizeLine ∧ Nx (upd H3 D (.dK (putK kvs k z)))), ⟨fun pins s σ H Nx J q => ?_⟩, ?_⟩⟩
  · refine wpAny_bind (wpAny_mono (hk.run.run pins s σ H _ J q) (fun u s2 ⟨y, H2, J2, ry, q2⟩ => ?_) fun e s' z => (hx e s' z).elim)
    refine wpAny_bind (wpAny_holding (wpAny_mono (hv.run.run pins s2 σ H2 _ J2 q2) (fun u2 s3 ⟨z, H3, J3, rz, kvs, k, e, hD, hz, nx⟩ => ?_) fun e s' z => (hx e s' z).elim))
    subst e
    exact wpAny_bind (wpAny_standAt (wpAny_holding (d_dictSet J3 hD hz ry rz fun s4 J4 => ⟨_, J4, nx⟩)))
  · rintro I H ρ σ o b Nx A d hD ⟨kvs, rfl, kk, r⟩ q
    refine rdE_next hk.mono A q fun y v I2 H2 q2 s rv => ⟨I2, ρ, A.step s, hv.mono _ _ _ (fun z q3 v3 I3 H3 s3 rz => ?_) q2⟩
    obtain ⟨k0, rfl, l, q3⟩ := q3
    have st := s.trans s3
    have n3 := st.new _ _ hD d.ni
    have ll : kvs.length = b.length := by simpa using congrArg List.length kk
    obtain ⟨a1, a2⟩ := putD_rep (k := k0) rz kk (r.mono st.i)
    refine ⟨kvs, k0, keyD_rep rv, st.h _ _ hD d.nm, by omega, q3 I3 _ _ (Stp.intro ?_) upd_same n3 ⟨_, rfl, a1, a2⟩⟩
    rw [drop_upd]
    exact st.dropL n3 d.nm
end
def rdN {β : Type} (F : Fx) (K : PySem.W.Frag) (Hd : HoldsD β) (D : Addr) (t : DNT β) : TN := fun σ H Nx => ∃ I ρ o b, At F K I ρ σ H ∧ InD F I H ρ σ D ∧ H D = some o ∧ Hd D K I o b ∧ t ρ b (finN F K Hd D I H Nx)
theorem DNest.nest {F : Fx} {Y : Cx} {e : Expr} {gens : List Comprehension} {emit : Value → Env → Sem Unit} {k : Nat} {vs : List Nat} {β : Type} {Hd : HoldsD β} {t : DNT β} (h : DNest F Y e gens emit k vs Hd t) (D : Addr) : Nest Y e gens (emit (.ref D) Y.env) k D vs (rdN F Y.K Hd D t) := by
  obtain ⟨T, h1, h2⟩ := h.run D
  exact ⟨fun pins s σ H Nx J ⟨I, ρ, o, b, A, d, hD, hb, q⟩ => h1.run pins s σ H Nx J (h2 I H ρ σ o b Nx A d hD hb q)⟩
theorem rdN_says {F : Fx} {K : PySem.W.Frag} {β : Type} {Hd : HoldsD β} {D : Addr} {t : DNT β} : NSays F K Hd D t (rdN F K Hd D t) := fun I H ρ σ o b Nx A d hD hb q => ⟨I, ρ, o, b, A, d, hD, hb, q⟩
section
variable {F : Fx} {X : Cx} {K : PySem.W.Frag} {e elt kx vx tg iter : Expr} {ifs : List Expr} {rest : List Comprehension} {emit : Value → Env → Sem Unit} {vs' js : List Nat} {β : Type} {Hd : HoldsD β} {t : DNT β} {ti : DAT} {g : DGT} {tc : DB} {scope : Scope} {own : List (Str × Nat)} {ob0 : Obj} {o0 : Addr → HO} {newAcc : Sem Value} {pos pos' spos : Pos}
/-- the reading of the whole -/
theorem cp_read {σ : L2.St} {H : Hp} {Q Q1 : VK} {b0 : β} {vs : List Nat} {fd : β → (D → Prop) → Prop} (Hmono : ∀ D K I I' o b, Same I I' → Hd D K I o b → Hd D K I' o b) (him : ∀ ρ (Q Q' : List D → Prop), (∀ d, Q d → Q' d) → ti ρ Q → ti ρ Q') (hgm : DG F X tg js g) (htm : ∀ ρ (Q Q' : Bool → Prop), (∀ d, Q d → Q' d) → tc ρ Q → tc ρ Q')
    (tm : ∀ ρ b (Q Q' : β → Prop), (∀ b, Q b → Q' b) → t ρ b Q → t ρ b Q') (hjs : ∀ j ∈ js, j ∈ vs) (h0 : ∀ D I, Hd D K I (o0 D) b0) (q : rdE F K (fun ρ Q => ti ρ fun ds => loopD g tc t (wipeD ρ vs) ds b0 fun b => fd b Q) σ H Q)
    (hfin : ∀ (D : Addr) (I H : Hp) (o : HO) (b : β), I D = none → ¬ F.W.mv D → H D = some o → Hd D K I o b → StI F.W I H → fd b (fun d => ∀ v I' H', Stp F.W I H I' H' ∨ (I' = upd I D o ∧ H' = H) → Rep K I' v d → Q v H') → Q1 (.ref D) H)
    (hfm : ∀ b (Q Q' : D → Prop), (∀ d, Q d → Q' d) → fd b Q → fd b Q') :
    tCp o0 (rdI F K ti) vs (rdG F K js g) (rdT F K tc) (fun D => rdN F K Hd D t) σ H Q1 := by
  obtain ⟨I, ρ, A, q⟩ := q
  refine ⟨I, ρ, A, him _ _ _ (fun ds q J I1 H1 s1 jr D hD => ?_) q⟩
  have A1 := A.step s1
  have m1 : ¬ F.W.mv D := fun m => F.W.live s1.st.inv m hD
  have n1 := s1.st.free hD
  have b1 : F.B D = none := by
    cases z : F.B D with
    | none => rfl
    | some u => have := A1.stp.h _ _ z m1; rw [hD] at this; cases this
  have ap := A1.apart hD
  have A2 := A1.write (o0 D) n1 m1 b1 ap
  have hn : H D = none := by
    cases z : H D with
    | none => rfl
    | some u => have := s1.h _ _ z m1; rw [hD] at this; cases this
  refine loop_run Hmono hgm htm tm rdN_says hjs ?_ A2 ⟨n1, m1, b1, ap⟩ upd_same (h0 D I1) (loopD.mono hgm.mono htm tm _ _ _ _ _ (fun b qb I2 H2 o2 s2 d2 n2 hb2 => ?_) q)
  · exact jr
  · have sd : dropA (upd H1 D (o0 D)) D = H1 := by
      rw [drop_upd]
      funext c
      unfold dropA
      split
      · rw [(by assumption : c = D), hD]
      · rfl
    rw [sd] at s2
    refine hfin D I2 H2 o2 b n2 m1 d2 hb2 s2.st (hfm _ _ _ (fun d qd v I' H' st rv => ?_) qb)
    rcases st with st | ⟨rfl, rfl⟩
    · exact qd v I' H' ((s1.trans s2).trans st) rv
    · exact qd v _ _ ((s1.trans s2).freeze n2 m1 hn d2) rv
theorem pe_cp {wi : TI} {gg : TG} {tt : TT} {T : Addr → TN} (hev : eval e X.env = comprehension e scope X.env pos' newAcc false (eval iter X.env)) (c : IsCp e (⟨tg, iter, ifs, 0⟩ :: rest) emit)
    (hnw : ∀ {A : Around} {E : Value → Shared → Prop} {Q : Value → Shared → Prop} {s : Shared}, Q (.ref s.heap.objs.size) { s with heap := s.heap.push ob0 } → wpAny (model X.prog X.w) A newAcc Q E s)
    (hob : ∀ (pins : List (Addr × Obj)) (σ : L2.St) (H : Hp) (s : Shared), Inv X pins σ H s → ObjOk X.prog X.w (upd H s.heap.objs.size (o0 s.heap.objs.size)) (s.heap.push ob0) s.heap.objs.size (o0 s.heap.objs.size))
    (hc : X.calm = true) (hN : X.N.Nodup) (hi : PI X tg iter wi) (ok : BlkOk X.N X.env.scope scope own) (hrest : ∀ g ∈ rest, g.is_async = 0) (hv : ∀ i ∈ vs', i ∈ own.map (·.2))
    (hg : ∀ (s : Shared) (H : Hp) (C : Addr) (cl : List (Str × Addr)) (fp : List Addr), PG (X.blk s H scope (compEnvC scope cl C X.env) fp) tg gg) (ht : ∀ (s : Shared) (H : Hp) (C : Addr) (cl : List (Str × Addr)) (fp : List Addr), PTs (X.blk s H scope (compEnvC scope cl C X.env) fp) ifs tt)
    (hb : ∀ (s : Shared) (H : Hp) (C : Addr) (cl : List (Str × Addr)) (fp : List Addr) (D : Addr), Nest (X.blk s H scope (compEnvC scope cl C X.env) fp) e (⟨tg, iter, ifs, 0⟩ :: rest) (emit (.ref D) (compEnvC scope cl C X.env)) 0 D vs' (T D))
    (hs : ∀ x, foldedSetIterable iter X.env x = pure x) : PE X e (tCp o0 wi (own.map (·.2)) gg tt T) := by
  refine ⟨fun pins s σ H Q I h => ?_⟩
  rw [hev]
  refine cp_core c hnw hob hc hN I hi ok hrest hv hg ht hb hs h fun D C s' m H' I' q hn f => ⟨m, hn, fun h'' sb => ?_⟩
  obtain ⟨f0, f1, f2, f3, f4, f5⟩ := f
  exact ⟨.ref D, H', I'.turned (t' := s'.toks) (fun b o hb e => (sb.2 b hb).trans e) f0 f1 f3 f4 f5, rfl, q⟩
theorem ps_setCp {wi : TI} {gg : TG} {tt : TT} {T : Addr → TN} {i : Nat} {y : Str} {py : Pos} (hev : evalThenUse e X.env (assign (.Name y py) X.env) = (do let _ ← comprehension e scope X.env pos' newAcc false (eval iter X.env) (some (assign (.Name y py) X.env)))) (c : IsCp e (⟨tg, iter, ifs, 0⟩ :: rest) emit)
    (hnw : ∀ {A : Around} {E : Value → Shared → Prop} {Q : Value → Shared → Prop} {s : Shared}, Q (.ref s.heap.objs.size) { s with heap := s.heap.push ob0 } → wpAny (model X.prog X.w) A newAcc Q E s)
    (hob : ∀ (pins : List (Addr × Obj)) (σ : L2.St) (H : Hp) (s : Shared), Inv X pins σ H s → ObjOk X.prog X.w (upd H s.heap.objs.size (o0 s.heap.objs.size)) (s.heap.push ob0) s.heap.objs.size (o0 s.heap.objs.size))
    (hc : X.calm = true) (hN : X.N.Nodup) (hy : X.N[i]? = some y) (hyl : X.env.scope.names.lookup y = some .local) (hsw : swapsWith e (some (.Name y py)) spos.line X.env = pure true)
    (hi : PI X tg iter wi) (ok : BlkOk X.N X.env.scope scope own) (hrest : ∀ g ∈ rest, g.is_async = 0) (hv : ∀ i ∈ vs', i ∈ own.map (·.2))
    (hg : ∀ (s : Shared) (H : Hp) (C : Addr) (cl : List (Str × Addr)) (fp : List Addr), PG (X.blk s H scope (compEnvC scope cl C X.env) fp) tg gg) (ht : ∀ (s : Shared) (H : Hp) (C : Addr) (cl : List (Str × Addr)) (fp : List Addr), PTs (X.blk s H scope (compEnvC scope cl C X.env) fp) ifs tt)
    (hb : ∀ (s : Shared) (H : Hp) (C : Addr) (cl : List (Str × Addr)) (fp : List Addr) (D : Addr), Nest (X.blk s H scope (compEnvC scope cl C X.env) fp) e (⟨tg, iter, ifs, 0⟩ :: rest) (emit (.ref D) (compEnvC scope cl C X.env)) 0 D vs' (T D))
    (hs : ∀ x, foldedSetIterable iter X.env x = pure x) : PS X (.Assign [.Name y py] e spos) (tAsg (tCp o0 wi (own.map (·.2)) gg tt T) (gName i)) := by
  refine ⟨fun pins s σ H Z I h => ?_⟩
  rw [exec_Assign_Name_used _ _ _ _ hsw, hev]
  refine wpAny_bind (wpAny_standAt (wpAny_bind ?_))
  have h : tCp o0 wi (own.map (·.2)) gg tt T σ H (fun x H1 => gName i x σ H1 Z.nx) := h
  refine wpAny_bind (thn (cp_core (Qf := fun _ s' => SP X pins Z .next s') c hnw hob hc hN I hi ok hrest hv hg ht hb hs h fun L C s' m H' I' q hn f => ?_) fun _ s' hq => wpAny_pure (wpAny_pure hq))
  show wpAny _ _ (assign (.Name y py) X.env (.ref L)) _ _ _
  refine wpAny_assign_Name (store_ok2 (v := V.ref L) I' hN hy (.inl hyl) rfl (fun s2 I2 ⟨a, sb, ha⟩ => ?_) (.inr hyl))
  obtain ⟨f0, f1, f2, f3, f4, f5⟩ := f
  have ne : C ≠ a := by
    rcases ha with z | z
    · rw [z]; exact f1
    · intro e; exact f4 y a z e.symm
  exact ⟨m, hn.sameBut sb ne, fun h3 sb3 => ⟨_, H', I2.turned (t' := s2.toks) (fun b o hb e => (sb3.2 b hb).trans e) f0 f1 f3 f4 f5, q⟩⟩
theorem nw_list {M : Model} {A : Around} {E : Value → Shared → Prop} {Q : Value → Shared → Prop} {s : Shared} (h : Q (.ref s.heap.objs.size) { s with heap := s.heap.push { cls := .type "list", data := .seq ([] : List Value).toArray } }) : wpAny M A (newList []) Q E s :=
  wpAny_newObj_type h (by show 0 ≤ sizeLine; decide)
theorem ob_list (pins : List (Addr × Obj)) (σ : L2.St) (H : Hp) (s : Shared) (I : Inv X pins σ H s) : ObjOk X.prog X.w (upd H s.heap.objs.size (.lst [])) (s.heap.push { cls := .type "list", data := .seq ([] : List Value).toArray }) s.heap.objs.size (.lst []) := ⟨Nat.zero_le _, [], 0, .nil, Heap.get?_push_size _ rfl⟩
theorem nw_dict {M : Model} {A : Around} {E : Value → Shared → Prop} {Q : Value → Shared → Prop} {s : Shared} (h : Q (.ref s.heap.objs.size) { s with heap := s.heap.push { cls := .type "dict", data := .dict #[] } }) : wpAny M A newDict Q E s :=
  wpAny_newObj_type h
theorem ob_dict (pins : List (Addr × Obj)) (σ : L2.St) (H : Hp) (s : Shared) (I : Inv X pins σ H s) : ObjOk X.prog X.w (upd H s.heap.objs.size (.dK [])) (s.heap.push { cls := .type "dict", data := .dict #[] }) s.heap.objs.size (.dK []) := dk_empty s.heap I.big
theorem rd_cpL {σ : L2.St} {H : Hp} {Q : VK} {vs : List Nat} {t : DNT (List D)} (him : ∀ ρ (Q Q' : List D → Prop), (∀ d, Q d → Q' d) → ti ρ Q → ti ρ Q') (hgm : DG F X tg js g) (htm : ∀ ρ (Q Q' : Bool → Prop), (∀ d, Q d → Q' d) → tc ρ Q → tc ρ Q') (tm : ∀ ρ b (Q Q' : List D → Prop), (∀ b, Q b → Q' b) → t ρ b Q → t ρ b Q')
    (hjs : ∀ j ∈ js, j ∈ vs) (q : rdE F K (fun ρ Q => ti ρ fun ds => loopD g tc t (wipeD ρ vs) ds [] fun ys => Q (.lst ys)) σ H Q) : tCp (fun _ => .lst []) (rdI F K ti) vs (rdG F K js g) (rdT F K tc) (fun D => rdN F K HdL D t) σ H Q :=
  cp_read (fd := fun ys Q => Q (.lst ys)) HdL.mono him hgm htm tm hjs (fun D I => ⟨[], rfl, .nil⟩) q (fun D I H o b n m hD hb st h => by
    obtain ⟨ws, rfl, r⟩ := hb
    exact h _ _ _ (.inr ⟨rfl, rfl⟩) (.lst upd_same (r.mono (Same.laid n)))) fun b Q Q' k h => k _ h
theorem rd_cpD {σ : L2.St} {H : Hp} {Q : VK} {vs : List Nat} {t : DNT (List (Key × D))} (him : ∀ ρ (Q Q' : List D → Prop), (∀ d, Q d → Q' d) → ti ρ Q → ti ρ Q') (hgm : DG F X tg js g) (htm : ∀ ρ (Q Q' : Bool → Prop), (∀ d, Q d → Q' d) → tc ρ Q → tc ρ Q') (tm : ∀ ρ b (Q Q' : List (Key × D) → Prop), (∀ b, Q b → Q' b) → t ρ b Q → t ρ b Q')
    (hjs : ∀ j ∈ js, j ∈ vs) (q : rdE F K (fun ρ Q => ti ρ fun ds => loopD g tc t (wipeD ρ vs) ds [] fun ys => Q (.dic ys)) σ H Q) : tCp (fun _ => .dK []) (rdI F K ti) vs (rdG F K js g) (rdT F K tc) (fun D => rdN F K HdK D t) σ H Q :=
  cp_read (fd := fun ys Q => Q (.dic ys)) HdK.mono him hgm htm tm hjs (fun D I => ⟨[], rfl, rfl, .nil⟩) q (fun D I H o b n m hD hb st h => by
    obtain ⟨ws, rfl, k, r⟩ := hb
    exact h _ _ _ (.inr ⟨rfl, rfl⟩) (.dic upd_same k (r.mono (Same.laid n)))) fun b Q Q' k h => k _ h
abbrev AllBlk (X : Cx) (scope : Scope) (p : Cx → Prop) : Prop := ∀ (s : Shared) (H : Hp) (C : Addr) (cl : List (Str × Addr)) (fp : List Addr), p (X.blk s H scope (compEnvC scope cl C X.env) fp)
theorem AllBlk.one {scope : Scope} {p : Cx → Prop} (h : AllBlk X scope p) : p (X.blk X.s_0 X.H_0 scope (compEnvC scope [] 0 X.env) []) := h _ _ _ _ _
/-- [.. for .. in .. ..] -/
theorem de_cpL {t : DNT (List D)} (hc : X.calm = true) (hN : X.N.Nodup) (hi : DI F X tg iter ti) (ok : BlkOk X.N X.env.scope scope own) (hg : AllBlk X scope fun Y => DG F Y tg js g) (ht : AllBlk X scope fun Y => DIfs F Y ifs tc)
    (hb : AllBlk X scope fun Y => DNest F Y (.ListComp elt (⟨tg, iter, ifs, 0⟩ :: rest) scope pos) (⟨tg, iter, ifs, 0⟩ :: rest) (fun acc env => do let _ ← call (.builtin "list.append") [acc, ← eval elt env]) 0 vs' HdL t)
    (hjs : ∀ j ∈ js ++ vs', j ∈ own.map (·.2) := by decide) (hrest : (rest.all fun g => g.is_async == 0) = true := by rfl) (hs : ∀ x, foldedSetIterable iter X.env x = pure x := by intro _; rfl) :
    DE F X (.ListComp elt (⟨tg, iter, ifs, 0⟩ :: rest) scope pos) (fun ρ Q => ti ρ fun ds => loopD g tc t (wipeD ρ (own.map (·.2))) ds [] fun ys => Q (.lst ys)) := by
  have hr : ∀ g ∈ rest, g.is_async = 0 := fun g h => by simpa using List.all_eq_true.mp hrest g h
  have g1 := hg.one
  have t1 := ht.one
  have b1 := hb.one
  refine ⟨fun ρ Q Q' k q => hi.mono _ _ _ (fun ds => loopD.mono g1.mono t1.mono b1.mono _ ds _ _ _ fun ys => k _) q, (pe_cp (o0 := fun _ => .lst []) (gg := rdG F X.K js g) (tt := rdT F X.K tc) (T := fun D => rdN F X.K HdL D t) rfl (cp_list _ _ _ _) nw_list ob_list hc hN hi.run ok hr (fun j hj => hjs j (List.mem_append_right _ hj)) (fun s H C cl fp => (hg s H C cl fp).run) (fun s H C cl fp => (ht s H C cl fp).run) (fun s H C cl fp D => (hb s H C cl fp).nest D) hs).imp fun σ H Q q => ?_⟩
  exact rd_cpL hi.mono g1 t1.mono b1.mono (fun j hj => hjs j (List.mem_append_left _ hj)) q
theorem ds_setCpL {t : DNT (List D)} {i : Nat} {y : Str} {py : Pos} (hc : X.calm = true) (hN : X.N.Nodup) (hy : X.N[i]? = some y) (hyl : X.env.scope.names.lookup y = some .local) (hsw : swapsWith (.ListComp elt (⟨tg, iter, ifs, 0⟩ :: rest) scope pos) (some (.Name y py)) spos.line X.env = pure true)
    (hi : DI F X tg iter ti) (ok : BlkOk X.N X.env.scope scope own) (hg : AllBlk X scope fun Y => DG F Y tg js g) (ht : AllBlk X scope fun Y => DIfs F Y ifs tc)
    (hb : AllBlk X scope fun Y => DNest F Y (.ListComp elt (⟨tg, iter, ifs, 0⟩ :: rest) scope pos) (⟨tg, iter, ifs, 0⟩ :: rest) (fun acc env => do let _ ← call (.builtin "list.append") [acc, ← eval elt env]) 0 vs' HdL t)
    (hjs : ∀ j ∈ js ++ vs', j ∈ own.map (·.2) := by decide) (hrest : (rest.all fun g => g.is_async == 0) = true := by rfl) (hs : ∀ x, foldedSetIterable iter X.env x = pure x := by intro _; rfl) :
    DSt F X (.Assign [.Name y py] (.ListComp elt (⟨tg, iter, ifs, 0⟩ :: rest) scope pos) spos) (fun Z ρ => ti ρ fun ds => loopD g tc t (wipeD ρ (own.map (·.2))) ds [] fun ys => Z.nx (ρ.set i (some (.dat (.lst ys))))) := by
  have hr : ∀ g ∈ rest, g.is_async = 0 := fun g h => by simpa using List.all_eq_true.mp hrest g h
  have g1 := hg.one
  have t1 := ht.one
  have b1 := hb.one
  refine ⟨fun Z Z' ρ l q => hi.mono _ _ _ (fun ds => loopD.mono g1.mono t1.mono b1.mono _ ds _ _ _ fun ys => l.nx _) q, (ps_setCp (o0 := fun _ => .lst []) (gg := rdG F X.K js g) (tt := rdT F X.K tc) (T := fun D => rdN F X.K HdL D t) rfl (cp_list _ _ _ _) nw_list ob_list hc hN hy hyl hsw hi.run ok hr (fun j hj => hjs j (List.mem_append_right _ hj)) (fun s H C cl fp => (hg s H C cl fp).run) (fun s H C cl fp => (ht s H C cl fp).run) (fun s H C cl fp D => (hb s H C cl fp).nest D) hs).imp fun Z σ H ⟨I, ρ, A, q⟩ => ?_⟩
  refine rd_cpL (Q := fun x H1 => gName i x σ H1 Z.nx) hi.mono g1 t1.mono b1.mono (fun j hj => hjs j (List.mem_append_left _ hj)) ⟨I, ρ, A, hi.mono _ _ _ (fun ds => loopD.mono g1.mono t1.mono b1.mono _ ds _ _ _ fun ys q v I' H' s rv => ?_) q⟩
  exact q I' _ H' s.i ((A.step s).set rv)
/-- {k: v for .. in .. ..} -/
theorem de_cpD {t : DNT (List (Key × D))} (hc : X.calm = true) (hN : X.N.Nodup) (hi : DI F X tg iter ti) (ok : BlkOk X.N X.env.scope scope own) (hg : AllBlk X scope fun Y => DG F Y tg js g) (ht : AllBlk X scope fun Y => DIfs F Y ifs tc)
    (hb : AllBlk X scope fun Y => DNest F Y (.DictComp kx vx (⟨tg, iter, ifs, 0⟩ :: rest) scope pos) (⟨tg, iter, ifs, 0⟩ :: rest) (fun acc env => do
      let kv ← eval kx env
      let vv ← holding [kv] (eval vx env)
      match acc with
      | .ref d => do
        standAt { kx.pos with endLine := vx.pos.endLine, endCol := vx.pos.endCol }
        holding [kv, vv] (dictSet d kv vv)
      | _ => unsupported "internal:dictcomp") 0 vs' HdK t)
    (hjs : ∀ j ∈ js ++ vs', j ∈ own.map (·.2) := by decide) (hrest : (rest.all fun g => g.is_async == 0) = true := by rfl) (hs : ∀ x, foldedSetIterable iter X.env x = pure x := by intro _; rfl) :
    DE F X (.DictComp kx vx (⟨tg, iter, ifs, 0⟩ :: rest) scope pos) (fun ρ Q => ti ρ fun ds => loopD g tc t (wipeD ρ (own.map (·.2))) ds [] fun ys => Q (.dic ys)) := by
  have hr : ∀ g ∈ rest, g.is_async = 0 := fun g h => by simpa using List.all_eq_true.mp hrest g h
  have g1 := hg.one
  have t1 := ht.one
  have b1 := hb.one
  refine ⟨fun ρ Q Q' k q => hi.mono _ _ _ (fun ds => loopD.mono g1.mono t1.mono b1.mono _ ds _ _ _ fun ys => k _) q, (pe_cp (o0 := fun _ => .dK []) (gg := rdG F X.K js g) (tt := rdT F X.K tc) (T := fun D => rdN F X.K HdK D t) rfl (cp_dict _ _ _ _ _) nw_dict ob_dict hc hN hi.run ok hr (fun j hj => hjs j (List.mem_append_right _ hj)) (fun s H C cl fp => (hg s H C cl fp).run) (fun s H C cl fp => (ht s H C cl fp).run) (fun s H C cl fp D => (hb s H C cl fp).nest D) hs).imp fun σ H Q q => ?_⟩
  exact rd_cpD hi.mono g1 t1.mono b1.mono (fun j hj => hjs j (List.mem_append_left _ hj)) q
end
end Dk
namespace Dk
open PySem L2
def hasK (ks : List Key) (j : Key) : Bool := ks.any fun x => decide (x = j)
def HdS (P : Program) (w : World) : HoldsD (List Key) := fun D _ _ o ks => o = SetK P w D (hasK ks) ks.length
theorem HdS.mono {P : Program} {w : World} : ∀ (D : Addr) (K : PySem.W.Frag) (I I' : Hp) (o : HO) (b : List Key), Same I I' → HdS P w D K I o b → HdS P w D K I' o b := fun D K I I' o b s h => h
def addK (ks : List Key) (k : Key) : List Key := if hasK ks k = true then ks else ks ++ [k]
theorem addK_mem {ks : List Key} {k : Key} : hasK (addK ks k) = fun j => hasK ks j || decide (j = k) := by
  funext j
  unfold addK
  split
  · by_cases h : j = k
    · subst h; simp; assumption
    · simp [h]
  · have e : decide (k = j) = decide (j = k) := decide_eq_decide.mpr ⟨Eq.symm, Eq.symm⟩
    simp [hasK, List.any_append, e]
theorem addK_len {ks : List Key} {k : Key} : (addK ks k).length = if hasK ks k = true then ks.length else ks.length + 1 := by
  unfold addK
  split <;> simp
section
variable {F : Fx} {X Y : Cx} {K : PySem.W.Frag} {elt tg iter : Expr} {ifs : List Expr} {rest : List Comprehension} {te : DT} {vs' js : List Nat} {t : DNT (List Key)} {ti : DAT} {g : DGT} {tc : DB} {scope : Scope} {own : List (Str × Nat)} {p pos pos2 : Pos}
theorem dm_set (hx : ∀ e s, ¬ Y.xe e s) (h : DE F Y elt te) : DEmit F Y (fun acc env => do let v ← eval elt env; standAt elt.pos; let _ ← call (.builtin "set.add") [acc, v]) (HdS Y.prog Y.w) (fun ρ b Q => te ρ fun y => ∃ k, y = keyD k ∧ b.length < 4000 ∧ Q (addK b k)) := by
  refine ⟨fun ρ b Q Q' k q => h.mono _ _ _ (fun d ⟨k0, e, l, q⟩ => ⟨k0, e, l, k _ q⟩) q, fun D => ⟨fun σ H Nx => rdE F Y.K te σ H fun y H2 => ∃ k S n, y = kV k ∧ H2 D = some (SetK Y.prog Y.w D S n) ∧ n + 1 < scanBound ∧ Nx (upd H2 D (SetK Y.prog Y.w D (fun j => S j || decide (j = k)) (if S k = true then n else n + 1))), ⟨fun pins s σ H Nx J q => ?_⟩, ?_⟩⟩
  · refine wpAny_bind (wpAny_mono (h.run.run pins s σ H _ J q) (fun u s2 ⟨y, H2, J2, ry, k, S, n, e, hD, room, nx⟩ => ?_) fun e s' z => (hx e s' z).elim)
    subst e
    refine wpAny_bind (wpAny_standAt (wpAny_bind (wpAny_mono (mt_saddK pins s2 σ H2 (.ref D) [kV k] (.ref D) [u] (fun _ H3 => Nx H3) J2 rfl (.cons ry .nil) ⟨D, k, S, n, rfl, rfl, hD, room, nx⟩) (fun _ s3 ⟨_, H3, J3, _, nx3⟩ => wpAny_pure ⟨H3, J3, nx3⟩) fun e s' z => (hx e s' z).elim)))
  · rintro I H ρ σ o b Nx A d hD rfl q
    refine rdE_next h.mono A q fun y v I2 H2 q2 s rv => ?_
    obtain ⟨k, rfl, l, q2⟩ := q2
    have n2 := s.new _ _ hD d.ni
    refine ⟨k, _, _, keyD_rep rv, s.h _ _ hD d.nm, by unfold scanBound; omega, q2 I2 _ _ (Stp.intro ?_) upd_same n2 ?_⟩
    · rw [drop_upd]; exact s.dropL n2 d.nm
    · show SetK _ _ _ _ _ = SetK _ _ _ _ _
      rw [addK_mem, addK_len]
theorem call_lenK : CallR X (.builtin "len") (fun xs H Q => ∃ a S n, xs = [.ref a] ∧ H a = some (SetK X.prog X.w a S n) ∧ Q (.int (n : Nat)) H) := by
  intro pins s σ H xs us Q J r h
  obtain ⟨a, S, n, rfl, ha, q⟩ := h
  obtain ⟨u, rfl, ru⟩ := vals1 r
  cases ru
  obtain ⟨o, es, ep, t, ho, hex, hd, _, _, hb, hf, rfl⟩ := setK_get J ha
  refine call_len_set ho hex hd hf ?_ ⟨.int _, H, J.tok _, ⟨_, rfl⟩, q⟩
  have : scanBound = 4096 := rfl
  omega
theorem ob_set (pins : List (Addr × Obj)) (σ : L2.St) (H : Hp) (s : Shared) (I : Inv X pins σ H s) : ObjOk X.prog X.w (upd H s.heap.objs.size (SetK X.prog X.w s.heap.objs.size (fun _ => false) 0)) (s.heap.push { cls := .type "set", dict := none, data := .set #[] 0 (.fresh 0 0 (!X.w.params.followText "set-order")) }) s.heap.objs.size (SetK X.prog X.w s.heap.objs.size (fun _ => false) 0) :=
  setK_new ⟨_, #[], 0, _, Heap.get?_push_size _ rfl, ⟨rfl, rfl, rfl⟩, rfl, (fun e he => by simp at he), (fun k => by simp), (by decide), (by rfl), rfl⟩
theorem nw_set {P : Program} {w : World} {A : Around} {E : Value → Shared → Prop} {Q : Value → Shared → Prop} {s : Shared} (h : Q (.ref s.heap.objs.size) { s with heap := s.heap.push { cls := .type "set", dict := none, data := .set #[] 0 (.fresh 0 0 (!w.params.followText "set-order")) } }) : wpAny (model P w) A (newSet (.type "set")) Q E s := PpSet.newSet_ok h
/-- len({.. for .. in ..}) -/
theorem de_lenSc (hm : X.mg "len" = none) (hc : X.calm = true) (hN : X.N.Nodup) (hi : DI F X tg iter ti) (ok : BlkOk X.N X.env.scope scope own) (hg : AllBlk X scope fun Y => DG F Y tg js g) (ht : AllBlk X scope fun Y => DIfs F Y ifs tc)
    (hb : AllBlk X scope fun Y => DNest F Y (.SetComp elt (⟨tg, iter, ifs, 0⟩ :: rest) scope pos) (⟨tg, iter, ifs, 0⟩ :: rest) (fun acc env => do let v ← eval elt env; standAt elt.pos; let _ ← call (.builtin "set.add") [acc, v]) 0 vs' (HdS Y.prog Y.w) t)
    (hgl : Gl X "len" := by rfl) (hjs : ∀ j ∈ js ++ vs', j ∈ own.map (·.2) := by decide) (hrest : (rest.all fun g => g.is_async == 0) = true := by rfl) (hs : ∀ x, foldedSetIterable iter X.env x = pure x := by intro _; rfl)
    (hst : starEach [Expr.SetComp elt (⟨tg, iter, ifs, 0⟩ :: rest) scope pos] X.env = (false, eval (.SetComp elt (⟨tg, iter, ifs, 0⟩ :: rest) scope pos) X.env) :: starEach [] X.env := by rfl) :
    DE F X (.Call (.Name "len" p) [.SetComp elt (⟨tg, iter, ifs, 0⟩ :: rest) scope pos] [] pos2) (fun ρ Q => ti ρ fun ds => loopD g tc t (wipeD ρ (own.map (·.2))) ds [] fun ks => Q (.int ks.length)) := by
  have hr : ∀ g ∈ rest, g.is_async = 0 := fun g h => by simpa using List.all_eq_true.mp hrest g h
  have g1 := hg.one
  have t1 := ht.one
  have b1 := hb.one
  refine ⟨fun ρ Q Q' k q => hi.mono _ _ _ (fun ds => loopD.mono g1.mono t1.mono b1.mono _ ds _ _ _ fun ys => k _) q, (pe_callB call_lenK hgl hm (by decide +kernel) (pa_cons (pe_cp (o0 := fun D => SetK X.prog X.w D (fun _ => false) 0) (gg := rdG F X.K js g) (tt := rdT F X.K tc) (T := fun D => rdN F X.K (HdS X.prog X.w) D t) rfl (cp_set _ _ _ _) nw_set ob_set hc hN hi.run ok hr (fun j hj => hjs j (List.mem_append_right _ hj)) (fun s H C cl fp => (hg s H C cl fp).run) (fun s H C cl fp => (ht s H C cl fp).run) (fun s H C cl fp D => (hb s H C cl fp).nest D) hs) pa_nil hst) (by decide) (by decide) hst rfl).imp fun σ H Q q => ?_⟩
  refine cp_read (b0 := ([] : List Key)) (Hd := HdS X.prog X.w) (o0 := fun D => SetK X.prog X.w D (fun _ => false) 0) (Q1 := fun v H1 => ∃ a S n, [v] = [V.ref a] ∧ H1 a = some (SetK X.prog X.w a S n) ∧ Q (.int (n : Nat)) H1) (fd := fun ks Q => Q (.int (ks.length : Nat))) HdS.mono hi.mono g1 t1.mono b1.mono (fun j hj => hjs j (List.mem_append_left _ hj)) (fun D I => rfl) q (fun D I H o b n m hD hb st h => ?_) fun b Q Q' k h => k _ h
  obtain rfl := hb
  exact ⟨D, _, _, rfl, hD, h _ _ _ (.inl st.stp) (.int _)⟩
end
end Dk
namespace Dk
open PySem L2
/-- is the text a a part of z -/
def subS (a z : Str) : Bool := !(Builtin.Str.occurrences z a 0 z.length 1).isEmpty
theorem subS_one (c : Nat) (z : Str) : subS ⟨#[c]⟩ z = decide (c ∈ z.cps.toList) := PySem.StrLaws.found_one z c
def flip (n b : Bool) : Bool := if n = true then !b else b
def inD (n : Bool) (x : D) (y : D) (Q : D → Prop) : Prop := match y with
  | .str z => ∃ a, x = .str a ∧ Q (.bl (flip n (subS a z)))
  | .lst ys => okE x = true ∧ okE (.lst ys) = true ∧ Q (.bl (flip n (ys.any fun z => deq z x)))
  | .tup ys => ∃ a, ∃ ss : List Str, x = .str a ∧ ys = ss.map D.str ∧ Q (.bl (flip n (ss.any fun s => s == a)))
  | .dic kvs => ∃ k, x = keyD k ∧ Q (.bl (flip n (lookD kvs k).isSome))
  | .dfz kvs => ∃ k, x = keyD k ∧ Q (.bl (flip n (lookD kvs k).isSome))
  | _ => False
theorem mono_in (n : Bool) : Mono2 (inD n) := by
  intro x y Q Q' k h
  cases y <;> first | exact h.elim | (obtain ⟨a, e, q⟩ := h; exact ⟨a, e, k _ q⟩) | (obtain ⟨a, e, e2, e3, q⟩ := h; exact ⟨a, e, e2, e3, k _ q⟩)
def RIn (K : PySem.W.Frag) (n : Bool) : R2 := fun x y H Q => (∃ i j, x = .str i ∧ y = .str j ∧ Q (.bl (flip n (subS i j))) H) ∨ (∃ d ds, Dp K H x d ∧ Dp K H y (.list ds) ∧ SeqAt.shaped d = true ∧ SeqAt.shaped (.list ds) = true ∧ Q (.bl (flip n (ds.any fun z => PyData.eqv z d))) H) ∨ rIn K n x y H Q ∨ ∃ a o, y = .ref a ∧ DGet H a x o ∧ Q (.bl (flip n o.isSome)) H
section
variable {F : Fx} {X : Cx} {K : PySem.W.Frag} {a b c : Expr} {ta tb tc : DT} {pos : Pos}
theorem or_in (hu : X.A.units + 66 < cLine) : OpR X (compareOp .In) (RIn X.K false) := by
  refine op_in_str.or ((op_inD (by omega)).or (op_in_seq.or ?_))
  intro pins s σ H x y v u Q J rx ry h
  obtain ⟨a, o, rfl, g, q⟩ := h
  cases ry
  exact d_in (by omega) J g rx fun s3 J3 => ⟨.bl o.isSome, H, J3, rfl, q⟩
theorem or_notin (hu : X.A.units + 66 < cLine) : OpR X (compareOp .NotIn) (RIn X.K true) := by
  refine op_notin_str.or ((op_notInD (by omega)).or (op_notIn_seq.or ?_))
  intro pins s σ H x y v u Q J rx ry h
  obtain ⟨a, o, rfl, g, q⟩ := h
  cases ry
  exact d_notIn (by omega) J g rx fun s3 J3 => ⟨.bl (!o.isSome), H, J3, rfl, q⟩
theorem toPys_map : ∀ ds : List D, toPys ds = ds.map toPy
  | [] => rfl
  | d :: ds => by simp only [toPys, List.map_cons, toPys_map ds]
theorem lf_in (n : Bool) : LiftR F K (RIn K n) (inD n) := by
  intro x y dx dy I H Q st rx ry h
  cases ry with
  | str z =>
    obtain ⟨a, rfl, q⟩ := h
    cases rx
    exact .inl ⟨_, _, rfl, rfl, q _ I H st.stp (.bl _)⟩
  | @lst p vs ys a r =>
    obtain ⟨ox, oy, q⟩ := h
    have q := q _ I H st.stp (.bl _)
    refine .inr (.inl ⟨toPy dx, ys.map toPy, rx.dp st.sub (okE_split ox).1, ?_, (okE_split ox).2, ?_, ?_⟩)
    · have := (Rep.lst a r).dp st.sub (okE_split oy).1
      unfold toPy at this
      rwa [toPys_map] at this
    · have := (okE_split oy).2
      unfold toPy at this
      rwa [toPys_map] at this
    · rw [List.any_map]
      exact q
  | @tup p vs ys a r =>
    obtain ⟨z, ss, rfl, rfl, q⟩ := h
    cases rx
    have q := q _ I H st.stp (.bl _)
    rw [r.strsV] at a
    refine .inr (.inr (.inl ⟨p, ss.map V.str, rfl, .inr (Same.seqT st.sub a), rfl, flat_strs ss, ?_⟩))
    have e : inV (.str z) (ss.map V.str) = ss.any fun s => s == z := by
      unfold inV
      rw [List.any_map]
      rfl
    rw [e]
    exact q
  | @dic p ws kvs a kk r =>
    obtain ⟨k, rfl, q⟩ := h
    have q := q _ I H st.stp (.bl _)
    refine .inr (.inr (.inr ⟨p, valV ws k, rfl, .inl ⟨ws, k, .of (st.sub _ _ a), keyD_rep rx, rfl⟩, ?_⟩))
    rcases lookD_rep (k := k) kk r with ⟨h1, h2⟩ | ⟨v, d, h1, h2, _⟩
    · rw [h1]; rw [h2] at q; exact q
    · rw [h1]; rw [h2] at q; exact q
  | @dfz p f ws kvs a kk r =>
    obtain ⟨k, rfl, q⟩ := h
    have q := q _ I H st.stp (.bl _)
    refine .inr (.inr (.inr ⟨p, valV ws k, rfl, .inl ⟨ws, k, .inr ⟨_, st.sub _ _ a⟩, keyD_rep rx, rfl⟩, ?_⟩))
    rcases lookD_rep (k := k) kk r with ⟨h1, h2⟩ | ⟨v, d, h1, h2, _⟩
    · rw [h1]; rw [h2] at q; exact q
    · rw [h1]; rw [h2] at q; exact q
  | _ => exact h.elim
theorem de_in (hu : X.A.units + 66 < cLine) (ha : DE F X a ta) (hb : DE F X b tb) (hm : behindInMarks .In b = false := by first | exact nomark _ | rfl) : DE F X (.Compare a [.In] [b] pos) (fun ρ Q => ta ρ fun x => tb ρ fun y => inD false x y Q) := de_cmp (mono_in _) (or_in hu) (lf_in _) ha hb hm
theorem dt_in (hu : X.A.units + 66 < cLine) (ha : DE F X a ta) (hb : DE F X b tb) (hm : behindInMarks .In b = false := by first | exact nomark _ | rfl) : DTest F X (.Compare a [.In] [b] pos) (fun ρ Q => ta ρ fun x => tb ρ fun y => inD false x y fun z => boolD z Q) := dt_cmp (mono_in _) (or_in hu) (lf_in _) ha hb hm
theorem dt_notin (hu : X.A.units + 66 < cLine) (ha : DE F X a ta) (hb : DE F X b tb) (hm : behindInMarks .NotIn b = false := by first | exact nomark _ | rfl) : DTest F X (.Compare a [.NotIn] [b] pos) (fun ρ Q => ta ρ fun x => tb ρ fun y => inD true x y fun z => boolD z Q) := dt_cmp (mono_in _) (or_notin hu) (lf_in _) ha hb hm
theorem dt_chain {op op' : CmpOp} {R R' : R2} {r r'} (h : Cmp X op R r) (h' : Cmp X op' R' r') (ha : DE F X a ta) (hb : DE F X b tb) (hc : DE F X c tc) (hm : lastMarks [op, op'] [b, c] = false := by with_unfolding_all rfl) :
    DTest F X (.Compare a [op, op'] [b, c] pos) (fun ρ Q => ta ρ fun x => tb ρ fun y => r x y fun z => boolD z fun k => if k = true then tc ρ fun w => r' y w fun z => boolD z Q else Q false) := by
  refine ⟨fun ρ Q Q' k q => ha.mono _ _ _ (fun x q => hb.mono _ _ _ (fun y q => h.mono _ _ _ _ (fun z q => q.mono fun b q => by
      cases b
      · exact k _ q
      · exact hc.mono _ _ _ (fun w => h'.mono _ _ _ _ fun z => boolD.mono k) q) q) q) q, (pt_chain h.op h'.op ha.run hb.run hc.run hm).imp fun σ H Q ⟨I, ρ, A, q⟩ => ?_⟩
  · refine rdE_next ha.mono A q fun x v I1 H1 q1 s1 rx => rdE_next hb.mono (A.step s1) q1 fun y u I2 H2 q2 s2 ry => ?_
    refine h.lf v u x y I2 H2 _ s2.st (rx.mono s2.i) ry (h.mono _ _ _ _ (fun z qz => ?_) q2)
    obtain ⟨k, rfl, qz⟩ := qz
    intro w I3 H3 s3 rw'
    cases rw'
    refine ⟨k, rfl, ?_⟩
    cases k
    · exact ⟨false, rfl, qz I3 H3 ((s1.trans s2).trans s3)⟩
    · refine rdE_next hc.mono (((A.step s1).step s2).step s3) qz fun w u' I4 H4 q4 s4 rw' => ?_
      refine h'.lf u u' y w I4 H4 _ s4.st ((ry.mono s3.i).mono s4.i) rw' (h'.mono _ _ _ _ (fun z hz => ?_) q4)
      obtain ⟨b, rfl, qb⟩ := hz
      intro w2 I5 H5 s5 r5
      cases r5
      exact ⟨b, rfl, qb I5 H5 ((((s1.trans s2).trans s3).trans s4).trans s5)⟩
end
end Dk
namespace Dk
open PySem L2
abbrev DTS2 := DEnv → (D → DEnv → Prop) → Prop
abbrev DATS := DEnv → (List D → DEnv → Prop) → Prop
/-- held in a slot -/
def heldIn (ρ : DEnv) (σ : St) (p : Addr) : Prop := ∃ (i : Nat) (e : Ent), ρ[i]? = some (some e) ∧ e.isOwn ∧ σ[i]? = some (some (V.ref p))
/-- what is held may have turned, nothing else -/
structure Moved (F : Fx) (σ : St) (ρ : DEnv) (I H : Hp) (ρ' : DEnv) (I' H' : Hp) : Prop where
  i : Same I I'
  kp : ∀ p o, H p = some o → I p = none → ¬ F.W.mv p → ¬ heldIn ρ σ p → H' p = some o ∧ I' p = none
  sub : ∀ (i : Nat) (e : Ent), ρ'[i]? = some (some e) → e.isOwn → ∃ e0, ρ[i]? = some (some e0) ∧ e0.isOwn
theorem Moved.refl {F : Fx} {σ : St} {ρ : DEnv} {I H : Hp} : Moved F σ ρ I H ρ I H := ⟨Same.refl I, fun _ _ e n _ _ => ⟨e, n⟩, fun _ e h o => ⟨e, h, o⟩⟩
theorem Moved.of {F : Fx} {σ : St} {ρ : DEnv} {I H I' H' : Hp} (s : Stp F.W I H I' H') : Moved F σ ρ I H ρ I' H' := ⟨s.i, fun p o e n m _ => ⟨s.h _ _ e m, s.new _ _ e n⟩, fun _ e h o => ⟨e, h, o⟩⟩
theorem Moved.trans {F : Fx} {σ : St} {ρ ρ' ρ'' : DEnv} {I H I' H' I'' H'' : Hp} (a : Moved F σ ρ I H ρ' I' H') (b : Moved F σ ρ' I' H' ρ'' I'' H'') : Moved F σ ρ I H ρ'' I'' H'' :=
  ⟨Same.trans a.i b.i, fun p o e n m nh => let ⟨e1, n1⟩ := a.kp p o e n m nh; b.kp p o e1 n1 m fun ⟨i, e, h, ho, hs⟩ => nh (let ⟨e0, h0, o0⟩ := a.sub i e h ho; ⟨i, e0, h0, o0, hs⟩),
    fun i e h o => let ⟨e1, h1, o1⟩ := b.sub i e h o; a.sub i e1 h1 o1⟩
def rdES (F : Fx) (K : PySem.W.Frag) (t : DTS2) : TE := fun σ H Q => ∃ I ρ, At F K I ρ σ H ∧ t ρ fun d ρ' => ∀ v I' H', Moved F σ ρ I H ρ' I' H' → At F K I' ρ' σ H' → Rep K I' v d → Q v H'
def rdAS (F : Fx) (K : PySem.W.Frag) (t : DATS) : TA := fun σ H Q => ∃ I ρ, At F K I ρ σ H ∧ t ρ fun ds ρ' => ∀ vs I' H', Moved F σ ρ I H ρ' I' H' → At F K I' ρ' σ H' → Reps K I' vs ds → Q vs H'
structure DES (F : Fx) (X : Cx) (e : Expr) (t : DTS2) : Prop where
  mono : ∀ ρ (Q Q' : D → DEnv → Prop), (∀ d ρ, Q d ρ → Q' d ρ) → t ρ Q → t ρ Q'
  run : PE X e (rdES F X.K t)
structure DAS (F : Fx) (X : Cx) (es : List Expr) (t : DATS) : Prop where
  mono : ∀ ρ (Q Q' : List D → DEnv → Prop), (∀ d ρ, Q d ρ → Q' d ρ) → t ρ Q → t ρ Q'
  run : PA X es (rdAS F X.K t)
section
variable {F : Fx} {X : Cx} {K : PySem.W.Frag} {I H I' H' : Hp} {ρ : DEnv} {σ : St} {e : Expr} {es : List Expr} {te : DT} {ts : DTS2} {ta : DATS} {x : Str} {p1 p2 p3 pos pos' : Pos}
theorem des_of (h : DE F X e te) : DES F X e (fun ρ Q => te ρ fun d => Q d ρ) :=
  ⟨fun ρ Q Q' k q => h.mono _ _ _ (fun d => k d ρ) q, h.run.imp fun σ H Q ⟨I, ρ, A, q⟩ => rdE_next h.mono A q fun d v I' H' p s rv => p v I' H' (.of s) (A.step s) rv⟩
theorem das_nil : DAS F X [] (fun ρ Q => Q [] ρ) := ⟨fun ρ Q Q' k q => k _ _ q, pa_nil.imp fun σ H Q ⟨I, ρ, A, q⟩ => q [] I H .refl A .nil⟩
theorem das_cons (h : DES F X e ts) (h' : DAS F X es ta) (hs : starEach (e :: es) X.env = (false, eval e X.env) :: starEach es X.env := by rfl) : DAS F X (e :: es) (fun ρ Q => ts ρ fun d ρ1 => ta ρ1 fun ds ρ2 => Q (d :: ds) ρ2) := by
  refine ⟨fun ρ Q Q' k q => h.mono _ _ _ (fun d ρ1 q => h'.mono _ _ _ (fun ds ρ2 => k _ _) q) q, (pa_cons h.run h'.run hs).imp fun σ H Q ⟨I, ρ, A, q⟩ => ?_⟩
  refine ⟨I, ρ, A, h.mono _ _ _ (fun d ρ1 q v I1 H1 s1 A1 rv => ?_) q⟩
  exact ⟨I1, ρ1, A1, h'.mono _ _ _ (fun ds ρ2 q vs I2 H2 s2 A2 rs => q (v :: vs) I2 H2 (s1.trans s2) A2 (.cons (rv.mono s2.i) rs)) q⟩
end
end Dk
namespace Dk
open PySem L2
section
variable {F : Fx} {X : Cx} {K : PySem.W.Frag} {I H I' H' : Hp} {ρ : DEnv} {σ : St} {e i : Expr} {te ti : DT} {x : Str} {p1 p2 pos pos' : Pos}
/-- x = {} -/
theorem ds_ownD (i : Nat) (hN : X.N.Nodup) (hi : X.N[i]? = some x := by rfl) (hx : Loc X.env.scope x := by first | exact Or.inl rfl | exact Or.inr rfl) (hs : swapsWith (.Dict [] [] p2) (some (.Name x pos')) pos.line X.env = pure false := by rfl)
    (hf : X.fn x = true ∨ X.env.scope.names.lookup x = some .local := by first | exact .inl rfl | exact .inr rfl | assumption) : DSt F X (.Assign [.Name x pos'] (.Dict [] [] p2) pos) (fun Z ρ => Z.nx (ρ.set i (some (.ownD [])))) := by
  refine ⟨fun Z Z' ρ l q => l.nx _ q, (ps_set hN hi hx pe_dnewK hs hf).imp fun Z σ H ⟨I, ρ, A, q⟩ a hz => ?_⟩
  exact q I _ _ (Same.refl I) (A.newOwn hz ⟨[], rfl, rfl, .nil⟩)
/-- x[k] = e -/
theorem ds_dput (j : Nat) (hu : X.A.units + 64 < cLine) (hk : DE F X i ti) (he : DE F X e te) (hN : X.N[j]? = some x := by rfl) (hv : Vis X.env.scope x := by first | exact Or.inl rfl | exact Or.inr (Or.inl rfl) | exact Or.inr (Or.inr rfl)) (hd : (x == ("__debug__" : Str)) = false := by decide)
    (hcd : (x == ("__classdict__" : Str)) = false := by decide) (hs : swapsWith e (some (.Subscript (.Name x p1) i pos')) pos.line X.env = pure false := by rfl) :
    DSt F X (.Assign [.Subscript (.Name x p1) i pos'] e pos) (fun Z ρ => te ρ fun d => ∃ kvs, ρ[j]? = some (some (.ownD kvs)) ∧ ti ρ fun y => ∃ k, y = keyD k ∧ kvs.length < sizeLine ∧ Z.nx (ρ.set j (some (.ownD (putD kvs k d))))) := by
  refine ⟨fun Z Z' ρ l q => he.mono _ _ _ (fun d ⟨kvs, h, q⟩ => ⟨kvs, h, hk.mono _ _ _ (fun y ⟨k, e, l', q⟩ => ⟨k, e, l', l.nx _ q⟩) q⟩) q, (ps_dput (by omega) (pv j hN hv hd hcd) hk.run he.run hs).imp fun Z σ H ⟨I, ρ, A, q⟩ => ?_⟩
  refine rdE_next he.mono A q fun d v I1 H1 q1 s1 rv => ?_
  obtain ⟨kvs, hx, q1⟩ := q1
  have A1 := A.step s1
  obtain ⟨p, o, h1, w, _⟩ := A1.turnOwn hx trivial
  obtain ⟨ws, rfl, _, _⟩ := w.rep
  refine ⟨_, h1, rdE_next hk.mono A1 q1 fun y u I2 H2 q2 s2 ry => ?_⟩
  obtain ⟨k, rfl, hl, q2⟩ := q2
  have A2 := A1.step s2
  obtain ⟨p', o', h1', w', turn⟩ := A2.turnOwn hx trivial
  obtain ⟨us, rfl, kk, r⟩ := w'.rep
  rw [h1] at h1'
  cases h1'
  obtain ⟨a1, a2⟩ := putD_rep (k := k) (rv.mono s2.i) kk r
  have ll : us.length = kvs.length := by simpa using congrArg List.length kk
  refine ⟨p, _, rfl, .inl ⟨us, k, w'.hp, keyD_rep ry, by omega, rfl⟩, q2 I2 σ _ (Same.trans s1.i s2.i) (turn _ _ ⟨_, rfl, a1, a2⟩ (by intro _ h; cases h))⟩
end
section
variable {prog : Program} {w : World} {A : Around} {E : Value → Shared → Prop} {s : Shared}
theorem star_L {l : Addr} {items : Array Value} {i : Nat} {Q : List Value → Shared → Prop} (hl : s.heap.IsList l items) (hh : A.handled = none) (hi : i ≤ items.size) (hz : items.size ≤ 16384)
    (h : ∀ (h2 : Heap) (tk : Nat), (∀ b o, s.heap.get? b = some o → h2.get? b = some o) → Q (items.toList.take i ++ [.ref h2.objs.size]) { s with heap := h2.push { cls := .type "list", data := .seq (items.toList.drop i).toArray }, toks := tk }) :
    wpAny (model prog w) A (unpackItems (.ref l) (i + 1) (some i)) Q E s := by
  have hlt : l ≠ s.heap.objs.size := by obtain ⟨o, ho, _⟩ := hl; exact Nat.ne_of_lt (Heap.lt_size ho)
  unfold unpackItems
  refine wpAny_bind ?_
  unfold notIterableAtAll
  refine wpAny_bind (wpAny_specialOf hl.typeIs PySem.F.slot_list_iter.lookup (wpAny_pure ?_))
  simp only [Bool.false_eq_true, if_false]
  refine wpAny_bind (wpAny_holding (wpAny_pyIter_list hl ?_))
  refine wpAny_bind (wpAny_holding (PySem.W.kun_draw hlt i 0 _ _ ⟨_, Heap.get?_push_size _ rfl, rfl, rfl⟩ (hl.push _) (by omega) fun h1 it1 sb => ?_))
  have hl1 : h1.IsList l items := (hl.push _).extBut sb.extBut hlt
  rw [Nat.zero_add] at it1
  obtain ⟨oi, hoi, _⟩ := id it1
  obtain ⟨ol, hol, _⟩ := id hl1
  rw [List.drop_zero]
  have hf : (items.toList.take i).length = i := by rw [List.length_take, Array.length_toList]; omega
  rw [if_neg (show ¬ ((items.toList.take i).length < i) by rw [hf]; omega)]
  refine wpAny_bind (wpAny_holding (PySem.W.kun_collect (s := { s with heap := h1 }) (T := "list_iterator") (.inr (.inr (.inl rfl))) (Walks.list (A := A.in1) hh s.heap.objs.size l hlt items) (fun j u st => st.1.typeIs) (k := i) hi ⟨it1, hl1⟩ (Heap.lt_size hoi) (Heap.lt_size hol) (fun h2 tk hk => ?_) (by rw [sizeLine_eq]; omega)))
  have e0 : i + 1 - 1 - i = 0 := by omega
  show wpAny _ _ (if (items.toList.drop i).length < i + 1 - 1 - i then _ else _) _ _ _
  rw [e0, if_neg (Nat.not_lt_zero _)]
  show wpAny _ _ (newList ((items.toList.drop i).take ((items.toList.drop i).length - 0)) >>= fun d => pure (items.toList.take i ++ [d] ++ (items.toList.drop i).drop ((items.toList.drop i).length - 0))) _ _ _
  rw [Nat.sub_zero, List.take_length, List.drop_length, ]
  have keep : ∀ b o, s.heap.get? b = some o → h2.get? b = some o := fun b o e => by
    have hb : b ≠ s.heap.objs.size := Nat.ne_of_lt (Heap.lt_size e)
    exact hk b o hb (sb.extBut b o hb (Heap.get?_push_of_some _ e))
  refine wpAny_bind (wpAny_newObj_type (wpAny_pure ?_) (by show (items.toList.drop i).length ≤ sizeLine; rw [List.length_drop, Array.length_toList, sizeLine_eq]; omega))
  rw [List.append_nil]
  exact h h2 tk keep
theorem star_T {l : Addr} {items : Array Value} {i : Nat} {Q : List Value → Shared → Prop} (hl : PyProof.Rows.IsTup s.heap l items) (hh : A.handled = none) (hi : i ≤ items.size) (hz : items.size ≤ 16384)
    (h : ∀ (h2 : Heap) (tk : Nat), (∀ b o, s.heap.get? b = some o → h2.get? b = some o) → Q (items.toList.take i ++ [.ref h2.objs.size]) { s with heap := h2.push { cls := .type "list", data := .seq (items.toList.drop i).toArray }, toks := tk }) :
    wpAny (model prog w) A (unpackItems (.ref l) (i + 1) (some i)) Q E s := by
  have hlt : l ≠ s.heap.objs.size := by obtain ⟨o, ho, _⟩ := hl; exact Nat.ne_of_lt (Heap.lt_size ho)
  unfold unpackItems
  refine wpAny_bind ?_
  unfold notIterableAtAll
  refine wpAny_bind (wpAny_specialOf hl.typeIs PySem.F.slot_tuple_iter.lookup (wpAny_pure ?_))
  simp only [Bool.false_eq_true, if_false]
  refine wpAny_bind (wpAny_holding (PyProof.Rows.iter_tuple hl ?_))
  refine wpAny_bind (wpAny_holding (PyProof.Rows.draw_tuple hlt i 0 _ _ ⟨_, Heap.get?_push_size _ rfl, rfl, rfl⟩ (hl.push _) (by omega) fun h1 it1 sb => ?_))
  have hl1 : PyProof.Rows.IsTup h1 l items := (hl.push _).extBut sb.extBut hlt
  rw [Nat.zero_add] at it1
  obtain ⟨oi, hoi, _⟩ := id it1
  obtain ⟨ol, hol, _⟩ := id hl1
  rw [List.drop_zero]
  have hf : (items.toList.take i).length = i := by rw [List.length_take, Array.length_toList]; omega
  rw [if_neg (show ¬ ((items.toList.take i).length < i) by rw [hf]; omega)]
  refine wpAny_bind (wpAny_holding (PySem.W.kun_collect (s := { s with heap := h1 }) (T := "tuple_iterator") (.inr (.inr (.inr rfl))) (Walks.tuple (A := A.in1) hh s.heap.objs.size l hlt items) (fun j u st => st.1.typeIs) (k := i) hi ⟨it1, hl1⟩ (Heap.lt_size hoi) (Heap.lt_size hol) (fun h2 tk hk => ?_) (by rw [sizeLine_eq]; omega)))
  have e0 : i + 1 - 1 - i = 0 := by omega
  show wpAny _ _ (if (items.toList.drop i).length < i + 1 - 1 - i then _ else _) _ _ _
  rw [e0, if_neg (Nat.not_lt_zero _)]
  show wpAny _ _ (newList ((items.toList.drop i).take ((items.toList.drop i).length - 0)) >>= fun d => pure (items.toList.take i ++ [d] ++ (items.toList.drop i).drop ((items.toList.drop i).length - 0))) _ _ _
  rw [Nat.sub_zero, List.take_length, List.drop_length]
  have keep : ∀ b o, s.heap.get? b = some o → h2.get? b = some o := fun b o e => by
    have hb : b ≠ s.heap.objs.size := Nat.ne_of_lt (Heap.lt_size e)
    exact hk b o hb (sb.extBut b o hb (Heap.get?_push_of_some _ e))
  refine wpAny_bind (wpAny_newObj_type (wpAny_pure ?_) (by show (items.toList.drop i).length ≤ sizeLine; rw [List.length_drop, Array.length_toList, sizeLine_eq]; omega))
  rw [List.append_nil]
  exact h h2 tk keep
end
def gStar (K : PySem.W.Frag) (i : Nat) (t : TGs) : TG := fun v σ H Q => ∃ a xs, v = .ref a ∧ (SqL K H a xs ∨ SqT K H a xs) ∧ i ≤ xs.length ∧ xs.length ≤ 16384 ∧ ∀ D, H D = none → t (xs.take i ++ [.ref D]) σ (upd H D (.lst (xs.drop i))) Q
section
variable {F : Fx} {X : Cx} {es es' : List Expr} {k i : Nat} {t : TGs} {pos : Pos} {js : List Nat} {gs : DGTs}
theorem pg_star (hc : X.calm = true) (h : PGs X es' t) (hm : (assignEach es X.env).map (·.2) = (assignEach es' X.env).map (·.2)) (hn : (assignEach es X.env).length = i + 1) (hst : (assignEach es X.env).findIdx? (·.1) = some i) : PG X (.Tuple es k pos) (gStar X.K i t) := by
  refine ⟨fun pins s σ H v u Q J r hw => ?_⟩
  obtain ⟨a, xs, rfl, hq, hi, hz, hw⟩ := hw
  cases r
  rw [PyProof.Rows.assign_Tuple]
  refine wpAny_bind (wpAny_standAt ?_)
  unfold unpack
  rw [hn, hst, hm]
  have fin : ∀ (its : List Value), Vals xs its → ∀ (h2 : Heap) (tk : Nat), (∀ b o, s.heap.get? b = some o → h2.get? b = some o) →
      wpAny (model X.prog X.w) X.A (assignInOrder ((assignEach es' X.env).map (·.2)) (its.toArray.toList.take i ++ [.ref h2.objs.size])) (fun _ s' => ∃ σ' H', Inv X pins σ' H' s' ∧ Q σ' H') X.xe { s with heap := h2.push { cls := .type "list", data := .seq (its.toArray.toList.drop i).toArray }, toks := tk } := fun its rv h2 tk hk => by
    have J1 : Inv X pins σ H { s with heap := h2, toks := tk } := J.kept hk
    have hD : H h2.objs.size = none := J1.hok.fresh (Nat.le_refl _)
    have J2 : Inv X pins σ (upd H h2.objs.size (.lst (xs.drop i))) { s with heap := h2.push { cls := .type "list", data := .seq (its.toArray.toList.drop i).toArray }, toks := tk } :=
      J1.laid (t' := tk) (fun b o e => Heap.get?_push_of_some _ e) (Nat.le_refl _) ⟨Nat.le_trans (by rw [List.length_drop]; omega) (show 16384 ≤ sizeLine by decide), its.drop i, 0, Vals.drop i rv, by simpa using Heap.get?_push_size h2 rfl⟩
    refine h.run pins _ σ _ _ _ Q J2 ?_ (hw _ hD)
    exact (by simpa using Vals.take i rv : Vals (xs.take i) (its.toArray.toList.take i)).append (.cons rfl .nil)
  rcases hq with hq | hq
  · obtain ⟨its, rv, pl, _⟩ := J.list hq
    refine wpAny_bind (wpAny_holding (star_L pl.isList (J.ok.hd hc) (by simpa [← rv.length] using hi) (by simpa [← rv.length] using hz) fun h2 tk hk => fin its rv h2 tk hk))
  · obtain ⟨its, rv, pl, _⟩ := J.tuple hq
    refine wpAny_bind (wpAny_holding (star_T pl (J.ok.hd hc) (by simpa [← rv.length] using hi) (by simpa [← rv.length] using hz) fun h2 tk hk => fin its rv h2 tk hk))
def starD (i : Nat) (d : D) (Q : List D → Prop) : Prop := ∃ ds, (d = .lst ds ∨ d = .tup ds) ∧ i ≤ ds.length ∧ ds.length ≤ 16384 ∧ Q (ds.take i ++ [.lst (ds.drop i)])
theorem dg_star (es' : List Expr) (hc : X.calm = true) (h : DGs F X es' js gs) (hm : (assignEach es X.env).map (·.2) = (assignEach es' X.env).map (·.2) := by rfl) (hn : (assignEach es X.env).length = i + 1 := by rfl) (hst : (assignEach es X.env).findIdx? (·.1) = some i := by rfl) :
    DG F X (.Tuple es k pos) js (fun d ρ Q => starD i d fun ds => gs ds ρ Q) := by
  refine ⟨fun d ρ Q Q' k ⟨ds, e, l, l', q⟩ => ⟨ds, e, l, l', h.mono _ _ _ _ k q⟩, fun d ρ Q ⟨ds, e, l, l', q⟩ => ⟨ds, e, l, l', h.keeps _ _ _ q⟩, (pg_star hc h.run hm hn hst).imp fun v σ H Q ⟨I, ρ, d, A, r, ds, e, l, l', q⟩ => ?_⟩
  have go : ∀ (a : Addr) (vs : List V), v = .ref a → (SqL X.K H a vs ∨ SqT X.K H a vs) → Reps X.K I vs ds → gStar X.K i (rdGs F X.K js gs) v σ H Q := by
    rintro a vs rfl hq r
    refine ⟨a, vs, rfl, hq, by rw [r.length]; exact l, by rw [r.length]; exact l', fun D hD => ?_⟩
    have st := A.st.laid hD (.lst (vs.drop i))
    refine ⟨_, ρ, _, A.step st, ((r.take i).mono st.i).append (.cons (.lst upd_same ((r.drop i).mono st.i)) .nil), h.mono _ _ _ _ (fun ρ' q I' σ' H' A' s o => q I' σ' H' A' (st.trans s) o) q⟩
  rcases e with rfl | rfl
  · cases r with
    | lst a r => exact go _ _ rfl (.inl (.of (A.st.sub _ _ a))) r
  · cases r with
    | tup a r => exact go _ _ rfl (.inr (Same.seqT A.st.sub a)) r
end
end Dk
namespace Dk
open PySem L2
open PyProof.Rows (envOfC)
def fldD (C : Addr) (f : Str) (d : D) (Q : D → Prop) : Prop := ∃ fs x, d = .obj C fs ∧ fs.lookup f = some x ∧ Q x
theorem lookup_rep {K : PySem.W.Frag} {I : Hp} {f : Str} {d : D} : ∀ {ws : List (Str × V)} {fs : List (Str × D)}, ws.map (·.1) = fs.map (·.1) → Reps K I (ws.map (·.2)) (fs.map (·.2)) → fs.lookup f = some d → ∃ v, ws.lookup f = some v ∧ Rep K I v d
  | [], [], _, _, h => by simp at h
  | [], _ :: _, h, _, _ => by simp at h
  | _ :: _, [], h, _, _ => by simp at h
  | (i, x) :: ws, (j, y) :: fs, h, r, e => by
    simp only [List.map_cons, List.cons.injEq] at h
    obtain ⟨rfl, h⟩ := h
    cases r with
    | cons r1 r2 =>
      rw [List.lookup_cons] at e ⊢
      cases hb : f == i with
      | true => rw [hb] at e; cases e; exact ⟨_, rfl, r1⟩
      | false => rw [hb] at e; exact lookup_rep h r2 e
theorem lookup_none {K : PySem.W.Frag} {I : Hp} {f : Str} : ∀ {ws : List (Str × V)} {fs : List (Str × D)}, ws.map (·.1) = fs.map (·.1) → fs.lookup f = none → ws.lookup f = none
  | [], [], _, h => rfl
  | [], _ :: _, h, _ => by simp at h
  | _ :: _, [], h, _ => by simp at h
  | (i, x) :: ws, (j, y) :: fs, h, e => by
    simp only [List.map_cons, List.cons.injEq] at h
    obtain ⟨rfl, h⟩ := h
    rw [List.lookup_cons] at e ⊢
    cases hb : f == i with
    | true => rw [hb] at e; cases e
    | false => rw [hb] at e; exact lookup_none (K := K) (I := I) h e
/-- a field put -/
def putFD (f : Str) (v : D) : List (Str × D) → List (Str × D)
  | [] => [(f, v)]
  | (g, x) :: r => if g = f then (g, v) :: r else (g, x) :: putFD f v r
theorem putF_rep {K : PySem.W.Frag} {I : Hp} {f : Str} {v : V} {d : D} (rv : Rep K I v d) : ∀ {ws : List (Str × V)} {fs : List (Str × D)}, ws.map (·.1) = fs.map (·.1) → Reps K I (ws.map (·.2)) (fs.map (·.2)) → (putF f v ws).map (·.1) = (putFD f d fs).map (·.1) ∧ Reps K I ((putF f v ws).map (·.2)) ((putFD f d fs).map (·.2))
  | [], [], _, _ => ⟨rfl, .cons rv .nil⟩
  | [], _ :: _, h, _ => by simp at h
  | _ :: _, [], h, _ => by simp at h
  | (i, x) :: ws, (j, y) :: fs, h, r => by
    simp only [List.map_cons, List.cons.injEq] at h
    obtain ⟨rfl, h⟩ := h
    cases r with
    | cons r1 r2 =>
      obtain ⟨a, b⟩ := putF_rep rv h r2
      unfold putF putFD
      by_cases e : i = f
      · rw [if_pos e, if_pos e]
        exact ⟨by simp [h], .cons rv r2⟩
      · rw [if_neg e, if_neg e]
        exact ⟨by simp [a], .cons r1 b⟩
section
variable {F : Fx} {X : Cx} {K : PySem.W.Frag} {I H I' H' : Hp} {ρ : DEnv} {σ : St} {e o : Expr} {te to : DT} {C : Addr} {f m x : Str} {p p1 pos pos' apos : Pos}
theorem de_fld (c : Cls X.K C) (n : NoAttr X.K C f) (he : DE F X e te) (hb : attributeBase e f X.env (eval e X.env) = eval e X.env := by rfl) : DE F X (.Attribute e f pos) (fun ρ Q => te ρ fun d => fldD C f d Q) := by
  refine ⟨fun ρ Q Q' k q => he.mono _ _ _ (fun d ⟨fs, x, e, l, q⟩ => ⟨fs, x, e, l, k _ q⟩) q, (pe_fld he.run hb).imp fun σ H Q ⟨I, ρ, A, q⟩ => rdE_next he.mono A q fun d v I1 H1 q1 s rv => ?_⟩
  obtain ⟨fs, x, rfl, l, q1⟩ := q1
  cases rv with
  | @obj a _ dx ws _ ha kk r =>
    obtain ⟨w, h1, h2⟩ := lookup_rep kk r l
    exact ⟨a, C, dx, ws, w, rfl, s.st.sub _ _ ha, c, n, h1, q1 _ _ _ s h2⟩
/-- self.f = e -/
theorem ds_setA (j : Nat) (he : DE F X e te) (hN : X.N[j]? = some x := by rfl) (hv : Vis X.env.scope x := by first | exact Or.inl rfl | exact Or.inr (Or.inl rfl) | exact Or.inr (Or.inr rfl)) (hd : (x == ("__debug__" : Str)) = false := by decide)
    (hcd : (x == ("__classdict__" : Str)) = false := by decide) (hs : swapsWith e (some (.Attribute (.Name x p1) f pos')) pos.line X.env = pure false := by rfl) (cl : Cls X.K C) (n : NoAttr X.K C f) :
    DSt F X (.Assign [.Attribute (.Name x p1) f pos'] e pos) (fun Z ρ => te ρ fun d => ∃ q fs, ρ[j]? = some (some (.ownO q C fs)) ∧ fs.length < 1000 ∧ Z.nx (ρ.set j (some (.ownO q C (putFD f d fs))))) := by
  refine ⟨fun Z Z' ρ l q => he.mono _ _ _ (fun d ⟨q0, fs, h, hl, q⟩ => ⟨q0, fs, h, hl, l.nx _ q⟩) q, (ps_fld (pv j hN hv hd hcd) he.run hs).imp fun Z σ H ⟨I, ρ, A, q⟩ => rdE_next he.mono A q fun d v I1 H1 q1 s rv => ?_⟩
  obtain ⟨q0, fs, hx, hl, q1⟩ := q1
  have A1 := A.step s
  obtain ⟨p, o, h1, w, turn⟩ := A1.turnOwn hx trivial
  have hpq : p = q0 := w.ad _ rfl
  obtain ⟨dx, ws, rfl, kk, r⟩ := w.rep
  obtain ⟨a1, a2⟩ := putF_rep (f := f) rv kk r
  have ll : ws.length = fs.length := by simpa using congrArg List.length kk
  refine ⟨_, h1, p, C, dx, ws, rfl, w.hp, cl, n, by omega, q1 I1 σ _ s.i (turn (.ownO q0 C (putFD f d fs)) _ ⟨dx, _, rfl, a1, a2⟩ fun q h => ?_)⟩
  cases h
  exact hpq
end
theorem Rm.make {k : Nat} {A : Around} (r : Rm (k + 1) A) (C : Addr) (us : List Value) (kw : List (Str × Value)) : Rm k (A.under (.builtin "type.__call__" ⟨.ref C :: us, kw⟩)) := by
  refine ⟨r.room.make C us kw, ?_⟩
  show pushGuards (Code.guards (.builtin "type.__call__" ⟨.ref C :: us, kw⟩)) A.guards = some []
  have e : Code.guards (.builtin "type.__call__" ⟨.ref C :: us, kw⟩) = [] := by
    have g : Code.isGuard (.builtin "type.__call__" ⟨.ref C :: us, kw⟩) = false := show guardIds.contains "type.__call__" = false by decide +kernel
    unfold Code.guards
    rw [g]
    rfl
  rw [e]
  exact r.gd
section
variable {X : Cx} {CX : CXT} {k : Nat} {f C : Addr} {fd : FuncData} {ps ks : List Str} {sp : Sp} {E : XK}
theorem gn_make {pins : List (Addr × Obj)} {σ : St} {H : Hp} {s : Shared} {Q : VK} {us as : List Value} {kw : List (Str × Value)} {vs : List V} (M : Mk X.K C f) (F : GnOk X.prog X.w X.K X.mg X.base CX k f fd ps sp) (hr : Rm (k + 1) X.A) (hx : Passes CX X E)
    (hb : ∀ (s' : Shared) (x : Value), X.K.In s'.heap → BindsTo s' fd ⟨x :: as, kw⟩ (ps.zip (x :: us))) (J : Inv X pins σ H s) (r : Vals vs us)
    (h : ∀ x dx, H x = none → H dx = none → dx ≠ x → sp (.ref x :: vs) (upd (upd H dx (.own x)) x (.ins C dx [])) (fun v H2 => v = .non ∧ Q (.ref x) H2) E) : wpAny (model X.prog X.w) X.A (call (.ref C) as kw) (EP X pins σ Q) X.xe s := by
  have q := h (s.heap.objs.size + 1) s.heap.objs.size (J.hok.fresh (Nat.le_succ _)) (J.hok.fresh (Nat.le_refl _)) (Nat.ne_of_lt (Nat.lt_succ_self _))
  have J2 := Inv.made (C := C) J
  refine wpAny_call (make_map (f := f) J.kIn M.makes M.init (beq_iff_eq.mp M.fn) (codeAny_mono (F.go _ X.stack _ _ ⟨Value.ref (s.heap.objs.size + 1) :: as, kw⟩ (Value.ref (s.heap.objs.size + 1) :: us) _ _ E (hr.make C as kw) (J2.env0.make C as kw) (hb _ _ J2.kIn) (.cons (show RelV (.ref (s.heap.objs.size + 1)) (.ref (s.heap.objs.size + 1)) from rfl) r) q) fun r s' z => ?_))
  cases r with
  | error e => exact hx pins σ _ _ e s' J2 z
  | ok fl => cases fl with
    | ret u =>
      obtain ⟨v, H', J3, rv, ev, q3⟩ := J2.after z
      subst ev
      exact ⟨rv, V.ref (s.heap.objs.size + 1), H', J3, rfl, q3⟩
    | next => exact z.elim
    | brk => exact z.elim
    | cont => exact z.elim
end
/-- what __init__ promises: the object that comes of it -/
def spInit (W : Wd) (K : PySem.W.Frag) (C : Addr) (S : DSp) : Sp := fun vs H Q E => ∃ x dx us I ds, vs = .ref x :: us ∧ H x = some (.ins C dx []) ∧ I x = none ∧ ¬ W.mv x ∧ StI W I H ∧ Reps K I us ds ∧
  S.f ds (fun d => ∀ I' H', Stp W I (dropA H x) I' H' → Rep K I' (.ref x) d → Q .non H') fun e => ∀ cls d I' H', Stp W I (dropA H x) I' H' → ExRep K I' H' cls d e → E cls d H'
def initEnds (x C : Addr) (Q : D → Prop) : DEnds := ⟨fun ρ => ∃ fs, ρ[0]? = some (some (.ownO x C fs)) ∧ Q (.obj C fs), fun _ => False, fun _ => False, fun _ => False, fun _ => False⟩
def startI (N : List Str) (x C : Addr) (ds : List D) : DEnv := some (.ownO x C []) :: (ds.map (fun d => some (Ent.dat d)) ++ List.replicate (N.length - (ds.length + 1)) none)
theorem at_startI {W : Wd} {K : PySem.W.Frag} {I H : Hp} {N : List Str} {us : List V} {ds : List D} {x dx C : Addr} (s : StI W I H) (hx : H x = some (.ins C dx [])) (ni : I x = none) (nm : ¬ W.mv x) (r : Reps K I us ds) :
    At ⟨W, dropA H x, I⟩ K I (startI N x C ds) (L2.start N (.ref x :: us)) H := by
  refine ⟨⟨Same.refl I, s, fun b o e _ => (dropA_at e).2, fun b o e n => n⟩, by simp [startI, L2.start, r.length], fun i e h => ?_, fun i j e e' v hij h1 h2 o1 o2 hv => ?_⟩
  · unfold startI at h
    cases i with
    | zero =>
      simp only [List.getElem?_cons_zero, Option.some.injEq] at h
      subst h
      exact ⟨.ref x, by simp [L2.start], .inr ⟨x, _, rfl, hx, ⟨dx, [], rfl, rfl, .nil⟩, ni, nm, if_pos rfl, fun q h => by cases h; rfl⟩⟩
    | succ i =>
      rw [List.getElem?_cons_succ] at h
      by_cases hi : i < ds.length
      · rw [List.getElem?_append_left (by simpa using hi), List.getElem?_map] at h
        cases q : ds[i]? with
        | none => rw [q] at h; cases h
        | some d =>
          rw [q] at h
          cases h
          obtain ⟨v, h1, h2⟩ := r.get q
          refine ⟨v, ?_, .inl ⟨_, rfl, h2⟩⟩
          unfold L2.start
          rw [List.map_cons, List.cons_append, List.getElem?_cons_succ, List.getElem?_append_left (by simpa [r.length] using hi), List.getElem?_map, h1]
          rfl
      · rw [List.getElem?_append_right (by simpa using hi), List.getElem?_replicate] at h
        split at h <;> cases h
  · have only : ∀ (i : Nat) (e : Ent), (startI N x C ds)[i]? = some (some e) → e.isOwn → i = 0 := fun i e h o => by
      cases i with
      | zero => rfl
      | succ i =>
        unfold startI at h
        rw [List.getElem?_cons_succ] at h
        by_cases hi : i < ds.length
        · rw [List.getElem?_append_left (by simpa using hi), List.getElem?_map] at h
          cases q : ds[i]? with
          | none => rw [q] at h; cases h
          | some d => rw [q] at h; cases h; exact o.elim
        · rw [List.getElem?_append_right (by simpa using hi), List.getElem?_replicate] at h
          split at h <;> cases h
    exact absurd ((only i e h1 o1).trans (only j e' h2 o2).symm) hij
section
variable {P : Program} {w : World} {K : PySem.W.Frag} {mg : Str → Option Value} {base : Heap}
/-- __init__ by its body -/
theorem _root_.L2.Fun.okI {W : Wd} {S : DSp} {C : Addr} {x qual : Str} {st : Stmt} {f : Addr} {fd : FuncData} {N ps : List Str} {k : Nat} (Fn : Fun K x qual st f fd) (Sc : FnScope N ps (defScope st)) (hn : S.n + 1 = ps.length)
    (hbody : ∀ (cdv : Value) (A : Around) (outer : List Env) (s : Shared) (H I B : Hp) (a : Addr) (ds : List D) (Q : D → Prop) (Ed : Ex → Prop) (E : XK), Rm k (A.deeper (envOfC qual (defScope st) s.heap.objs.size f cdv)) → S.f ds Q Ed →
      ∃ t, DSts ⟨W, B, I⟩ (cxOf CX0 P w K mg base N qual (defScope st) f cdv A outer s H E).nox (defBody st) t ∧ t (initEnds a C Q) (startI N a C ds)) : GnOk P w K mg base CX0 (k + 1) f fd ps (spInit W K C S) := by
  refine Fn.gn Sc (fun vs H Q E ⟨a, dx, us, I, ds, e, _, _, _, _, r, h⟩ => ?_) fun cdv A outer s H vs Q E hr ⟨a, dx, us, I, ds, e, hx, ni, nm, si, r, h⟩ => ?_
  · subst e
    rw [List.length_cons, r.length, S.len _ _ _ h, hn]
  subst e
  obtain ⟨t, h1, h2⟩ := hbody cdv A outer s H I (dropA H a) a ds _ _ E hr h
  refine ⟨_, h1.run.nox, I, _, at_startI si hx ni nm r, h1.mono (initEnds a C _) _ _ ⟨fun ρ ⟨fs, e0, q⟩ I' σ' H' sm A' => ?_, fun _ q => q.elim, fun _ q => q.elim, fun _ q => q.elim, fun _ q => q.elim⟩ h2⟩
  obtain ⟨p, o, _, w, s2, A2⟩ := A'.freeze e0 trivial
  have hp : p = a := w.ad _ rfl
  subst hp
  exact q _ _ A2.stp ((w.rep.mono s2).rep upd_same w.ad)
end
/-- a class that may be called -/
structure CalC (P : Program) (w : World) (K : PySem.W.Frag) (mg : Str → Option Value) (base : Heap) (CX : CXT) (W : Wd) (k : Nat) (x : Str) (C : Addr) (ps : List Str) (S : DSp) : Prop where
  ex : ∃ f fd, Mk K C f ∧ GnOk P w K mg base CX k f fd ps (spInit W K C S) ∧ mg x = some (.ref C) ∧ Binds K fd ps [] ∧ ps.length = S.n + 1
section
variable {F : Fx} {X : Cx} {CX : CXT} {k : Nat} {x : Str} {C : Addr} {ps : List Str} {S : DSp} {E : XK} {p pos : Pos} {e : Expr} {es : List Expr} {t : DAT} {Ed : Ex → Prop}
theorem new_run {W : Wd} {K : PySem.W.Frag} {I H : Hp} {x dx : Addr} {o : HO} (s : StI W I H) (hx : H x = none) (hd : H dx = none) (ne : dx ≠ x) : I x = none ∧ ¬ W.mv x ∧ StI W I (upd (upd H dx (.own x)) x o) ∧ ∀ I' H', Stp W I (dropA (upd (upd H dx (.own x)) x o) x) I' H' → Stp W I H I' H' := by
  have s1 := s.laidM hd (.own x)
  have hx1 : upd H dx (.own x) x = none := by rw [upd_ne (Ne.symm ne)]; exact hx
  have s2 := s1.st.laidM hx1 o
  refine ⟨s.free hx, fun m => W.live s.inv m hx, s2.st, fun I' H' st => ⟨st.i, st.st, fun b u e m => ?_, fun b u e n => ?_⟩⟩
  · have hb : b ≠ x := ne_of_none e hx
    exact st.h b u (by rw [dropA_ne hb]; exact s2.h _ _ (s1.h _ _ e m) m) m
  · have hb : b ≠ x := ne_of_none e hx
    exact st.new b u (by rw [dropA_ne hb, upd_ne hb, upd_ne (ne_of_none e hd)]; exact e) n
theorem de_make (c : CalC X.prog X.w X.K X.mg X.base CX F.W k x C ps S) (hr : Rm (k + 1) X.A) (hx : Passes CX X E) (le : Lets F X.K Ed E) (ha : DA F X (e :: es) t)
    (hg : Gl X x := by rfl) (hdb : (x == ("__debug__" : Str)) = false := by decide) (he : starEach (e :: es) X.env = (false, eval e X.env) :: starEach es X.env := by rfl) (hpl : (backTo pos (starEach es X.env)).any (·.1) = false := by rfl) :
    DE F X (.Call (.Name x p) (e :: es) [] pos) (fun ρ Q => t ρ fun ds => S.f ds Q Ed) := by
  obtain ⟨f, fd, M, G, hm, hb, hl⟩ := c.ex
  refine ⟨fun ρ Q Q' k h => ha.mono _ _ _ (fun d h => S.mono _ _ _ _ _ k (fun _ h => h) h) h, ⟨fun pins s σ H Q J ⟨I, ρ, A, h⟩ => ?_⟩⟩
  refine wpAny_Call_Name_kw (ld_glob J hg hm ?_ hdb)
  have run : rdA F X.K t σ H fun vs H1 => vs.length + 1 = ps.length ∧ ∀ x dx, H1 x = none → H1 dx = none → dx ≠ x → spInit F.W X.K C S (.ref x :: vs) (upd (upd H1 dx (.own x)) x (.ins C dx [])) (fun v H2 => v = .non ∧ Q (.ref x) H2) E := by
    refine rdA_next ha.mono A h fun ds vs I1 H1 q s1 rs => ⟨by rw [rs.length, S.len _ _ _ q, hl], fun x dx hx hd ne => ?_⟩
    obtain ⟨ni, nm, st, back⟩ := new_run (K := X.K) (o := .ins C dx []) s1.st hx hd ne
    refine ⟨x, dx, vs, I1, ds, rfl, upd_same, ni, nm, st, rs, S.mono _ _ _ _ _ (fun d q I' H' s' rv => ⟨rfl, q _ I' H' (s1.trans (back I' H' s')) rv⟩) (fun ex q cls d I' H' s' rv => ?_) q⟩
    exact le I1 H1 (A.stp.trans s1) ex q cls d I' H' (back I' H' s') rv
  refine PySem.W.callWith_K (h₀ := X.base) J.ok.mod.kin M.kp (thn (ha.run.run pos pins s σ H _ J run) fun us s1 ⟨vs, H1, J1, r, l, q⟩ => ⟨J1.kIn, ?_⟩) he hpl
  exact gn_make M G hr hx (fun s' x hk => by have := hb s' (x :: us) hk (by rw [List.append_nil, List.length_cons, ← r.length]; exact l); simpa using this) J1 r q
end
end Dk
namespace Dk
open PySem L2
structure CalM (P : Program) (w : World) (K : PySem.W.Frag) (mg : Str → Option Value) (base : Heap) (CX : CXT) (W : Wd) (k : Nat) (C : Addr) (m : Str) (ps : List Str) (S : DSp) : Prop where
  ex : ∃ f fd, Cls K C ∧ Meth K C m f ∧ GnOk P w K mg base CX k f fd ps (spD W K S) ∧ Binds K fd ps [] ∧ ps.length = S.n
section
variable {F : Fx} {X : Cx} {K : PySem.W.Frag} {CX : CXT} {k : Nat} {x m : Str} {C : Addr} {ps : List Str} {S : DSp} {E : XK} {p pos apos : Pos} {o e : Expr} {es : List Expr} {to : DT} {t : DAT} {Ed : Ex → Prop} {pl : Sem Bool}
def methD (C : Addr) (m : Str) (x : D) (Q : Prop) : Prop := ∃ fs, x = .obj C fs ∧ fs.lookup m = none ∧ Q
theorem de_meth (c : CalM X.prog X.w X.K X.mg X.base CX F.W k C m ps S) (hr : Rm k X.A) (hx : Passes CX X E) (le : Lets F X.K Ed E) (ho : DE F X o to) (ha : DA F X (e :: es) t)
    (hst : starEach (e :: es) X.env = (false, eval e X.env) :: starEach es X.env := by rfl) (hpl : (backTo pos (starEach es X.env)).any (·.1) = false := by rfl)
    (ht : eval (.Call (.Attribute o m apos) (e :: es) [] pos) X.env = (do
      let ov ← eval o X.env
      standAt apos.atName
      let (f, first) ← holding [ov] (getMethod ov m pl)
      callWith pos f first (backTo pos (starEach (e :: es) X.env)) (backToKw pos (keywordEach [] X.env))) := by rfl) :
    DE F X (.Call (.Attribute o m apos) (e :: es) [] pos) (fun ρ Q => to ρ fun x => methD C m x (t ρ fun ds => S.f (x :: ds) Q Ed)) := by
  obtain ⟨f, fd, cl, hm, G, hb, hl⟩ := c.ex
  refine ⟨fun ρ Q Q' k h => ho.mono _ _ _ (fun d ⟨fs, e, l, h⟩ => ⟨fs, e, l, ha.mono _ _ _ (fun ds h => S.mono _ _ _ _ _ k (fun _ h => h) h) h⟩) h, ⟨fun pins s σ H Q J ⟨I, ρ, A, h⟩ => ?_⟩⟩
  refine PySem.W.methodCall_KW (pl := pl) (thn (ho.run.run pins s σ H (fun x H1 => ∃ a dx fs, x = .ref a ∧ H1 a = some (.ins C dx fs) ∧ fs.lookup m = none ∧ rdA F X.K t σ H1 fun vs H2 => spD F.W X.K S (.ref a :: vs) H2 Q E) J ?_) fun u s1 ⟨x, H1, J1, rx, a, dx, fs, ex, ea, l, q⟩ => ?_) ht
  · refine rdE_next ho.mono A h fun d v I1 H1 q1 s1 rv => ?_
    obtain ⟨fs, rfl, l, q1⟩ := q1
    cases rv with
    | @obj a _ dx ws _ hi kk r =>
      refine ⟨a, dx, ws, rfl, s1.st.sub _ _ hi, lookup_none (K := X.K) (I := I1) kk l, rdA_next ha.mono (A.step s1) q1 fun ds vs I2 H2 q2 s2 rs => ?_⟩
      have st := s1.trans s2
      exact ⟨I2, _, s2.st, .cons ((Rep.obj hi kk r).mono s2.i) rs, S.mono _ _ _ _ _ (fun d q v I' H' s' rv => q v I' H' (st.trans s') rv) (le I2 H2 (A.stp.trans st)) q2⟩
  · subst ex
    obtain rfl : u = Value.ref a := rx
    refine getmeth_ok J1 ea cl hm l ?_
    refine PySem.W.callWith_K (first := [.ref a]) (h₀ := X.base) J.ok.mod.kin hm.kp (thn (ha.run.run pos pins s1 σ H1 _ J1 q) fun us s2 ⟨vs, H2, J2, r, q2⟩ => ⟨J2.kIn, ?_⟩) hst hpl
    exact gn_pos (us := .ref a :: us) (vs := .ref a :: vs) G hr hb .nil hx J2 (.cons rfl r) (by simpa using q2)
/-- min(xs), max(xs) of numbers -/
def minLD : List D → (D → Prop) → Prop
  | [.lst xs], Q => ∃ ns : List Int, xs = ns.map D.int ∧ ns ≠ [] ∧ ∀ m, m ∈ ns → (∀ y ∈ ns, m ≤ y) → Q (.int m)
  | _, _ => False
def maxLD : List D → (D → Prop) → Prop
  | [.lst xs], Q => ∃ ns : List Int, xs = ns.map D.int ∧ ns ≠ [] ∧ ∀ m, m ∈ ns → (∀ y ∈ ns, y ≤ m) → Q (.int m)
  | _, _ => False
theorem mono_minL : MonoN minLD := by
  intro ds Q Q' k h
  unfold minLD at h ⊢
  split at h
  · obtain ⟨ns, a, b, c⟩ := h; exact ⟨ns, a, b, fun m h1 h2 => k _ (c m h1 h2)⟩
  · exact h.elim
theorem mono_maxL : MonoN maxLD := by
  intro ds Q Q' k h
  unfold maxLD at h ⊢
  split at h
  · obtain ⟨ns, a, b, c⟩ := h; exact ⟨ns, a, b, fun m h1 h2 => k _ (c m h1 h2)⟩
  · exact h.elim
theorem de_minL (hc : X.calm = true) (hm : X.mg "min" = none) (ha : DA F X [e] t) (hg : Gl X "min" := by rfl) (he : starEach [e] X.env = (false, eval e X.env) :: starEach [] X.env := by rfl) : DE F X (.Call (.Name "min" p) [e] [] pos) (fun ρ Q => t ρ fun ds => minLD ds Q) := by
  refine de_callB (id := "min") mono_minL (fun vs ds I H Q st rs h => ?_) (cr_min hc) hm (by decide +kernel) ha hg (by decide) (by decide) he rfl
  unfold minLD at h
  split at h
  · obtain ⟨ns, rfl, hn, q⟩ := h
    obtain ⟨v, rfl, rv⟩ := rs.one
    cases rv with
    | @lst a ws _ ha' r =>
      rw [r.intsV] at ha'
      exact ⟨a, ns, rfl, .of (st.sub _ _ ha'), List.length_pos_iff.mpr hn, fun m h1 h2 => q m h1 h2 _ I H st.stp (.int _)⟩
  · exact h.elim
theorem de_maxL (hc : X.calm = true) (hm : X.mg "max" = none) (ha : DA F X [e] t) (hg : Gl X "max" := by rfl) (he : starEach [e] X.env = (false, eval e X.env) :: starEach [] X.env := by rfl) : DE F X (.Call (.Name "max" p) [e] [] pos) (fun ρ Q => t ρ fun ds => maxLD ds Q) := by
  refine de_callB (id := "max") mono_maxL (fun vs ds I H Q st rs h => ?_) (cr_max hc) hm (by decide +kernel) ha hg (by decide) (by decide) he rfl
  unfold maxLD at h
  split at h
  · obtain ⟨ns, rfl, hn, q⟩ := h
    obtain ⟨v, rfl, rv⟩ := rs.one
    cases rv with
    | @lst a ws _ ha' r =>
      rw [r.intsV] at ha'
      exact ⟨a, ns, rfl, .of (st.sub _ _ ha'), List.length_pos_iff.mpr hn, fun m h1 h2 => q m h1 h2 _ I H st.stp (.int _)⟩
  · exact h.elim
end
end Dk
namespace Dk
open PySem L2
open PyProof.Rows (envOfC)
abbrev DTO := DEnv → (List D → Prop) → Prop
def finO (F : Fx) (K : PySem.W.Frag) (I H : Hp) (Q : VK) : List D → Prop := fun ds => ∀ p vs I' H', Stp F.W I H I' H' → H' p = none → Reps K I' vs ds → Q (.ref p) (upd H' p (.lst vs))
def rdO' (F : Fx) (K : PySem.W.Frag) (t : DTO) : TE := fun σ H Q => ∃ I ρ, At F K I ρ σ H ∧ t ρ (finO F K I H Q)
structure DEO (F : Fx) (X : Cx) (e : Expr) (t : DTO) : Prop where
  mono : ∀ ρ (Q Q' : List D → Prop), (∀ d, Q d → Q' d) → t ρ Q → t ρ Q'
  run : PE X e (rdO' F X.K t)
section
variable {F : Fx} {X : Cx} {K : PySem.W.Frag} {I H I' H' : Hp} {ρ : DEnv} {σ : St} {a b e : Expr} {es : List Expr} {ta tb te : DT} {t : DTO} {x : Str} {p p2 pos pos' : Pos}
theorem ds_retO (he : DEO F X e t) : DSt F X (.Return (some e) pos) (fun Z ρ => t ρ fun ds => Z.ro (.own ds)) :=
  ⟨fun Z Z' ρ l q => he.mono _ _ _ (fun ds => l.ro _) q, (ps_ret he.run).imp fun Z σ H ⟨I, ρ, A, q⟩ => ⟨I, ρ, A, he.mono _ _ _ (fun ds q p vs I' H' s hp rs => q p vs I' H' (A.stp.trans s) hp rs) q⟩⟩
def cutLD (d : D) (lo hi : Option Int) (Q : List D → Prop) : Prop := ∃ xs, d = .lst xs ∧ Q (cutD xs lo hi)
theorem deo_slice {lo hi : Option Expr} {tl th : DOT} (he : DE F X e te) (hl : DO F X lo tl) (hh : DO F X hi th) : DEO F X (.Subscript e (.Slice lo hi none p2) pos) (fun ρ Q => te ρ fun d => tl ρ fun l => th ρ fun u => cutLD d l u Q) := by
  refine ⟨fun ρ Q Q' k q => he.mono _ _ _ (fun d q => hl.mono _ _ _ (fun l q => hh.mono _ _ _ (fun u ⟨xs, e, q⟩ => ⟨xs, e, k _ q⟩) q) q) q, (pe_slice sl_list he.run hl.run hh.run).imp fun σ H Q ⟨I, ρ, A, q⟩ => rdE_next he.mono A q fun d v I1 H1 q1 s1 rv => ?_⟩
  refine ⟨I1, ρ, A.step s1, hl.mono _ _ _ (fun l q2 I2 H2 s2 => ?_) q1⟩
  refine ⟨I2, ρ, (A.step s1).step s2, hh.mono _ _ _ (fun u q3 I3 H3 s3 => ?_) q2⟩
  obtain ⟨xs, rfl, q3⟩ := q3
  have s := (s1.trans s2).trans s3
  have rv := rv.mono (Same.trans s2.i s3.i)
  cases rv with
  | @lst q zs _ a r => exact ⟨q, zs, rfl, .of (s3.st.sub _ _ a), fun p hp => q3 p _ I3 H3 s hp (r.cut l u)⟩
end
structure DSpO where
  n : Nat
  f : List D → (List D → Prop) → Prop
  len : ∀ ds Q, f ds Q → ds.length = n
  mono : ∀ ds (Q Q' : List D → Prop), (∀ d, Q d → Q' d) → f ds Q → f ds Q'
def spO (W : Wd) (K : PySem.W.Frag) (S : DSpO) : Sp := fun vs H Q _ => ∃ I ds, StI W I H ∧ Reps K I vs ds ∧ S.f ds (finO ⟨W, H, I⟩ K I H Q)
def retO (Q : List D → Prop) : Ret → Prop
  | .own ds => Q ds
  | .st _ _ => False
def ownEnds (Q : List D → Prop) : DEnds := ⟨fun _ => False, fun _ => False, fun _ => False, fun _ => False, retO Q⟩
section
variable {P : Program} {w : World} {K : PySem.W.Frag} {mg : Str → Option Value} {base : Heap}
theorem _root_.L2.Fun.okO {W : Wd} {S : DSpO} {x qual : Str} {st : Stmt} {f : Addr} {fd : FuncData} {N ps : List Str} {k : Nat} (Fn : Fun K x qual st f fd) (Sc : FnScope N ps (defScope st)) (hn : S.n = ps.length)
    (hbody : ∀ (cdv : Value) (A : Around) (outer : List Env) (s : Shared) (H I : Hp) (ds : List D) (Q : List D → Prop) (E : XK), Rm k (A.deeper (envOfC qual (defScope st) s.heap.objs.size f cdv)) → S.f ds Q →
      ∃ t, DSts ⟨W, H, I⟩ (cxOf CX0 P w K mg base N qual (defScope st) f cdv A outer s H E).nox (defBody st) t ∧ t (ownEnds Q) (startD N ds)) : GnOk P w K mg base CX0 (k + 1) f fd ps (spO W K S) := by
  refine Fn.gn Sc (fun vs H Q E ⟨I, ds, _, r, h⟩ => r.length.trans ((S.len _ _ h).trans hn)) fun cdv A outer s H vs Q E hr ⟨I, ds, si, r, h⟩ => ?_
  obtain ⟨t, h1, h2⟩ := hbody cdv A outer s H I ds _ E hr h
  exact ⟨_, h1.run.nox, I, _, at_start si r, h1.mono (ownEnds (finO ⟨W, H, I⟩ K I H Q)) _ _ ⟨fun _ q => q.elim, fun _ q => q.elim, fun _ q => q.elim, fun _ q => q.elim, fun r q => match r, q with | .own ds, q => q | .st _ _, q => q.elim⟩ h2⟩
end
structure CalO (P : Program) (w : World) (K : PySem.W.Frag) (mg : Str → Option Value) (base : Heap) (W : Wd) (k : Nat) (x : Str) (ps : List Str) (S : DSpO) : Prop where
  ex : ∃ f fd, GnOk P w K mg base CX0 k f fd ps (spO W K S) ∧ mg x = some (.ref f) ∧ PySem.W.keepIn K (.ref f) = true ∧ Binds K fd ps []
theorem CalO.of {P : Program} {w : World} {K : PySem.W.Frag} {mg : Str → Option Value} {base : Heap} {W : Wd} {k : Nat} {x qual : Str} {st : Stmt} {f : Addr} {fd : FuncData} {ps : List Str} {S : DSpO} (Fn : Fun K x qual st f fd) (G : GnOk P w K mg base CX0 k f fd ps (spO W K S)) (m : mg x = some (.ref f))
    (h : ∀ (kV doc pm : Value) (an : Option Addr) (cdv ct : Value) (us : List Value), us.length = ps.length → bindArgs (PySem.W.fnOf x qual (defArgs st) (defBody st) (defScope st) .none kV doc pm an cdv ct) ⟨us, []⟩ = pure (ps.zip us)) : CalO P w K mg base W k x ps S :=
  ⟨f, fd, G, m, Fn.kp, Fn.binds h⟩
/-- .. as plain data -/
def DSpO.dat (S : DSpO) : DSp := ⟨S.n, fun ds Q _ => S.f ds fun es => Q (.lst es), fun ds Q _ h => S.len _ _ h, fun ds Q Q' _ _ k _ h => S.mono _ _ _ (fun d => k _) h⟩
theorem CalO.cal {P : Program} {w : World} {K : PySem.W.Frag} {mg : Str → Option Value} {base : Heap} {W : Wd} {k : Nat} {x : Str} {ps : List Str} {S : DSpO} (c : CalO P w K mg base W k x ps S) : Cal P w K mg base CX0 W k x ps S.dat := by
  obtain ⟨f, fd, G, h2, h3, h4⟩ := c.ex
  refine ⟨f, fd, G.weak fun vs H Q E ⟨I, ds, st, r, h⟩ => ⟨I, ds, st, r, S.mono _ _ _ (fun es q p us I' H' s hp rs => ?_) h⟩, h2, h3, h4⟩
  have l := s.st.laid hp (.lst us)
  exact q _ _ _ (s.trans l) (.lst upd_same (rs.mono l.i))
/-- a loop that adds some to a list at each turn -/
theorem loopD_app {α : Type} {g : DGT} {tc : DB} {t : DNT (List D)} {ρ : DEnv} (f : α → D) (out : α → List D) (N : Nat) : ∀ {l : List α} {b : List D} {Q : List D → Prop}, (∀ a ∈ l, ∀ (b : List D) (R : List D → Prop) (S : Prop), b.length + (out a).length ≤ N → R (b ++ out a) → g (f a) ρ fun ρ2 => tc ρ2 fun c => if c = true then t ρ2 b R else S) →
    b.length + (l.flatMap out).length ≤ N → Q (b ++ l.flatMap out) → loopD g tc t ρ (l.map f) b Q := by
  intro l
  induction l with
  | nil => intro b Q _ _ q; simpa [loopD] using q
  | cons a l ih =>
    intro b Q hs hl q
    rw [List.flatMap_cons, List.length_append] at hl
    rw [List.flatMap_cons, ← List.append_assoc] at q
    exact hs a (by simp) b _ _ (by omega) (ih (fun x hx => hs x (List.mem_cons_of_mem _ hx)) (by rw [List.length_append]; omega) q)
/-- a comprehension within another one -/
def nestSc (sc0 csc : Scope) : Scope := relabel csc (PyProof.Rows.envOfC "" sc0 0 0 .none)
theorem blkOk_nest {X : Cx} {s : Shared} {H : Hp} {csc c2 : Scope} {cl : List (Str × Addr)} {C : Addr} {fp : List Addr} {N : List Str} {own : List (Str × Nat)} (sc0 : Scope) (h0 : X.env.scope = sc0) (h : blkC N (nestSc sc0 csc) c2 own = true) : BlkOk N (X.blk s H csc (compEnvC csc cl C X.env) fp).env.scope c2 own := by
  subst h0
  exact blkOk_by h
/-- .. that puts new ones in a dict at each turn -/
theorem loopD_put {α : Type} {g : DGT} {tc : DB} {t : DNT (List (Key × D))} {ρ : DEnv} (f : α → D) (out : α → List (Key × D)) (N : Nat) : ∀ {l : List α} {b : List (Key × D)} {Q : List (Key × D) → Prop}, (∀ a ∈ l, ∀ (b : List (Key × D)) (R : List (Key × D) → Prop) (S : Prop), b.length + (out a).length ≤ N → ((b ++ out a).map (·.1)).Nodup → R (b ++ out a) → g (f a) ρ fun ρ2 => tc ρ2 fun c => if c = true then t ρ2 b R else S) →
    b.length + (l.flatMap out).length ≤ N → ((b ++ l.flatMap out).map (·.1)).Nodup → Q (b ++ l.flatMap out) → loopD g tc t ρ (l.map f) b Q := by
  intro l
  induction l with
  | nil => intro b Q _ _ _ q; simpa [loopD] using q
  | cons a l ih =>
    intro b Q hs hl hn q
    rw [List.flatMap_cons, List.length_append] at hl
    rw [List.flatMap_cons, ← List.append_assoc] at q hn
    refine hs a (by simp) b _ _ (by omega) ?_ (ih (fun x hx => hs x (List.mem_cons_of_mem _ hx)) (by rw [List.length_append]; omega) hn q)
    rw [List.map_append] at hn
    exact (List.nodup_append.mp hn).1
theorem putD_new {b : List (Key × D)} {k : Key} {d : D} (h : ((b ++ [(k, d)]).map (·.1)).Nodup) : putD b k d = b ++ [(k, d)] := by
  unfold putD
  rw [if_neg]
  rw [Bool.not_eq_true, List.any_eq_false]
  intro x hx
  rw [decide_eq_true_eq]
  intro e
  rw [List.map_append, List.nodup_append] at h
  exact h.2.2 x.1 (List.mem_map_of_mem hx) k (by simp) e
theorem lookD_mem {l : List (Key × D)} {k : Key} {d : D} (h : (l.map (·.1)).Nodup) (hm : (k, d) ∈ l) : lookD l k = some d := by
  induction l with
  | nil => cases hm
  | cons x l ih =>
    rw [List.map_cons, List.nodup_cons] at h
    unfold lookD
    rw [List.find?_cons]
    rcases List.mem_cons.mp hm with e | hm
    · subst e
      simp
    · have : x.1 ≠ k := fun e => h.1 (e ▸ List.mem_map_of_mem (f := (·.1)) hm)
      simp only [this, decide_false]
      exact ih h.2 hm
end Dk
namespace Dk
open PySem L2
/-- a list of drawn things -/
theorem lcD_any {β : Type} {g : DGT} {tc : DB} {te : DT} {ρ : DEnv} (g' : β → D) (p : β → Prop) : ∀ {l : List D} {Q : List D → Prop}, (∀ a ∈ l, ∀ (R : D → Prop) (S : Prop), (∀ b, p b → R (g' b)) → g a ρ fun ρ2 => tc ρ2 fun b => if b = true then te ρ2 R else S) →
    (∀ bs : List β, bs.length = l.length → (∀ b ∈ bs, p b) → Q (bs.map g')) → lcD g tc te ρ l Q := by
  intro l
  induction l with
  | nil => intro Q _ q; exact q [] rfl (by simp)
  | cons a l ih =>
    intro Q hs q
    refine hs a (by simp) _ _ fun b hb => ih (fun x hx => hs x (List.mem_cons_of_mem _ hx)) fun bs hl hp => q (b :: bs) (by simp [hl]) fun y hy => ?_
    rcases List.mem_cons.mp hy with rfl | hy
    · exact hb
    · exact hp y hy
def txt (l : List Nat) : Str := ⟨l.toArray⟩
theorem txt_app (a b : List Nat) : txt a ++ txt b = txt (a ++ b) := by
  show Str.mk (a.toArray ++ b.toArray) = Str.mk (a ++ b).toArray
  rw [List.append_toArray]
theorem txt_len (l : List Nat) : (txt l).length = l.length := by
  show l.toArray.size = _
  simp
theorem txt_list (l : List Nat) : (txt l).cps.toList = l := by simp [txt]
theorem txt_inj {a b : List Nat} (h : txt a = txt b) : a = b := by
  have := congrArg (fun z => z.cps.toList) h
  simpa [txt] using this
theorem join_txt (l : List Nat) : Txt.join "" (l.map fun c => txt [c]) = txt l := by
  show Builtin.Str.glued "" _ = _
  rw [StrLaws.glued_eq_join]
  induction l with
  | nil => rfl
  | cons c r ih =>
    cases r with
    | nil => rfl
    | cons d r =>
      rw [List.map_cons, List.map_cons]
      show txt [c] ++ "" ++ Str.join "" (txt [d] :: r.map fun c => txt [c]) = _
      rw [List.map_cons] at ih
      rw [ih]
      have : (txt [c] ++ "" : Str) = txt [c] := by
        show txt [c] ++ txt [] = _
        rw [txt_app]; rfl
      rw [this, txt_app]
      rfl
theorem cut_txt_to (l : List Nat) (k : Nat) : cutS (txt l) none (some (k : Int)) = txt (l.take k) := by
  unfold cutS txt
  congr 2
  rw [HT.sIx_none, HT.sIx_nat, List.drop_zero, Nat.sub_zero]
  show List.take (min k l.toArray.size) l.toArray.toList = _
  simp
theorem cut_txt (l : List Nat) (a b : Nat) : cutS (txt l) (some (a : Int)) (some (b : Int)) = txt ((l.drop a).take (b - a)) := by
  unfold cutS txt
  congr 2
  rw [HT.sIx_nat, HT.sIx_nat]
  show List.take (min b l.toArray.size - min a l.toArray.size) (List.drop (min a l.toArray.size) l.toArray.toList) = _
  simp only [List.size_toArray]
  by_cases h : a ≤ l.length
  · rw [Nat.min_eq_left h]
    by_cases h2 : b ≤ l.length
    · rw [Nat.min_eq_left h2]
    · rw [Nat.min_eq_right (by omega), List.take_of_length_le (by simp), List.take_of_length_le (by simp; omega)]
  · rw [Nat.min_eq_right (by omega : l.length ≤ a), List.drop_of_length_le (by simp), List.drop_of_length_le (by omega : l.length ≤ a)]
    simp
theorem Stp.dropNew {W : Wd} {I H I' H' : Hp} {p : Addr} (s : Stp W I H I' H') (hp : H p = none) (n : I' p = none) (m : ¬ W.mv p) : Stp W I H I' (dropA H' p) :=
  ⟨s.i, s.st.drop n m, fun b o e k => by rw [dropA_ne (ne_of_none e hp)]; exact s.h b o e k, s.new⟩
end Dk
namespace Dk
open PySem L2
section
variable {X : Cx} {pins : List (Addr × Obj)} {σ : St} {H : Hp} {s : Shared} {st : Stmt} {t : TS}
/-- no scope sees them -/
def Unseen (X : Cx) (gs : List Nat) : Prop := ∀ g ∈ gs, ∀ x, X.N[g]? = some x → ¬ Vis X.env.scope x
def unseenB (N : List Str) (sc : Scope) (gs : List Nat) : Bool := gs.all fun g => match N[g]? with | none => true | some x => (sc.names.lookup x).isNone
theorem unseen_by {N : List Str} {sc : Scope} {gs : List Nat} (hN : X.N = N) (hs : X.env.scope = sc) (h : unseenB N sc gs = true) : Unseen X gs := by
  intro g hg x hx hv
  have := List.all_eq_true.mp h g hg
  rw [hN] at hx
  rw [hx] at this
  simp only [Option.isNone_iff_eq_none] at this
  rw [hs] at hv
  unfold Vis at hv
  rw [this] at hv
  rcases hv with h | h | h <;> cases h
theorem _root_.L2.Inv.ghost (J : Inv X pins σ H s) {g : Nat} {v : V} (h : ∀ x, X.N[g]? = some x → ¬ Vis X.env.scope x) : Inv X pins (σ.set g (some v)) H s :=
  ⟨J.ok, J.os, J.bare, J.base, let ⟨m, hn, hl⟩ := J.loc; ⟨m, hn, fun i x w e1 e2 e3 => by
      by_cases hg : g = i
      · subst hg; exact absurd e3 (h x e1)
      · exact hl i x w e1 (by rwa [List.getElem?_set_ne hg] at e2) e3⟩, J.cell, J.free, J.freeC, J.pin, J.hok, by simp [J.len]⟩
def setV : List Nat → List Addr → St → St
  | g :: gs, b :: bs, σ => setV gs bs (σ.set g (some (.ref b)))
  | _, _, σ => σ
def setQ : List Nat → List Addr → DEnv → DEnv
  | g :: gs, b :: bs, ρ => setQ gs bs (ρ.set g (some (.ownQ b [])))
  | _, _, ρ => ρ
theorem _root_.L2.Inv.ghosts (J : Inv X pins σ H s) : ∀ {gs : List Nat} {bs : List Addr}, Unseen X gs → Inv X pins (setV gs bs σ) H s := by
  intro gs
  induction gs generalizing σ with
  | nil => intro bs h; cases bs <;> exact J
  | cons g gs ih =>
    intro bs h
    cases bs with
    | nil => exact J
    | cons b bs => exact ih (J.ghost (h g (by simp))) fun g' hg => h g' (List.mem_cons_of_mem _ hg)
theorem _root_.L2.PS.ghosts (h : PS X st t) (gs : List Nat) (hg : Unseen X gs) : PS X st (fun D σ H => t { D with nx := fun σ' H' => ∃ bs, D.nx (setV gs bs σ') H' } σ H) := by
  refine ⟨fun pins s σ H D J q => thn (h.run pins s σ H _ J q) fun f s' z => ?_⟩
  cases f with
  | next =>
    obtain ⟨σ', H', J', bs, n⟩ := z
    exact ⟨_, H', J'.ghosts hg, n⟩
  | brk => exact z
  | cont => exact z
  | ret u => exact z
end
def fill : List (Key × Option D) → List Addr → List (Key × D)
  | [], _ => []
  | (k, some d) :: r, bs => (k, d) :: fill r bs
  | (k, none) :: r, b :: bs => (k, .opq b) :: fill r bs
  | (k, none) :: r, [] => (k, .non) :: fill r []
abbrev DPT := DEnv → (List (Key × Option D) → Prop) → Prop
/-- what the pairs of a display leave: ws the values, bs the empty dicts among them -/
structure Made (F : Fx) (K : PySem.W.Frag) (I H I' H' : Hp) (its : List (Key × Option D)) (kvs : List (Key × V)) (bs : List Addr) : Prop where
  stp : Stp F.W I H I' H'
  keys : kvs.map (·.1) = its.map (·.1)
  reps : Reps K I' (kvs.map (·.2)) ((fill its bs).map (·.2))
  len : bs.length = (its.filter (·.2.isNone)).length
  nd : bs.Nodup
  fresh : ∀ b ∈ bs, H b = none ∧ H' b = some (.dK []) ∧ I' b = none
structure DPs (F : Fx) (X : Cx) (pos : Pos) (keys : List (Option Expr)) (values : List Expr) (trs : List (TE × TE)) (t : DPT) : Prop where
  mono : ∀ ρ (Q Q' : List (Key × Option D) → Prop), (∀ d, Q d → Q' d) → t ρ Q → t ρ Q'
  pps : PPs X pos keys values trs
  run : ∀ (I : Hp) (ρ : DEnv) (σ : St) (H : Hp) (P : List (Key × Option D) → Prop) (R : List (V × V) → Hp → Prop), At F X.K I ρ σ H → t ρ P → (∀ I' H' its kvs bs, P its → Made F X.K I H I' H' its kvs bs → R (kvs.map fun kv => (kV kv.1, kv.2)) H') → tPairs trs σ H R
section
variable {F : Fx} {X : Cx} {K : PySem.W.Frag} {I H I' H' I'' H'' : Hp} {ρ : DEnv} {σ : St} {pos : Pos} {keys : List (Option Expr)} {values : List Expr} {trs : List (TE × TE)} {t : DPT} {v e : Expr} {te : DT} {p : Pos} {j : Nat} {key : Str}
theorem dps_nil : DPs F X pos [] [] [] (fun _ Q => Q []) :=
  ⟨fun _ _ _ k q => k _ q, pps_nil, fun I ρ σ H P R A q k => k I H [] [] [] q ⟨A.st.stp, rfl, .nil, rfl, List.nodup_nil, by simp⟩⟩
theorem dps_val (he : DE F X v te) (h : DPs F X pos keys values trs t) : DPs F X pos (some (.Constant (.str key) j p) :: keys) (v :: values) ((tC (.str key), rdE F X.K te) :: trs) (fun ρ Q => te ρ fun d => t ρ fun its => Q ((.inr key, some d) :: its)) := by
  refine ⟨fun ρ Q Q' k q => he.mono _ _ _ (fun d q => h.mono _ _ _ (fun its => k _) q) q, pps_cons pe_str he.run h.pps, fun I ρ σ H P R A q k => ?_⟩
  show rdE F X.K te σ H _
  refine rdE_next he.mono A q fun d v I1 H1 q1 s1 rv => ?_
  refine h.run I1 ρ σ H1 _ _ (A.step s1) q1 fun I2 H2 its kvs bs q2 m => ?_
  refine k I2 H2 _ ((.inr key, v) :: kvs) bs q2 ⟨s1.trans m.stp, by simp [m.keys], .cons (rv.mono m.stp.i) m.reps, by simpa using m.len, m.nd, fun b hb => ?_⟩
  obtain ⟨a1, a2, a3⟩ := m.fresh b hb
  refine ⟨?_, a2, a3⟩
  cases z : H b with
  | none => rfl
  | some o =>
    have nm : F.W.mv b → False := fun mv => F.W.live s1.st.inv mv a1
    rw [s1.h b o z nm] at a1
    cases a1
theorem fill_keys : ∀ (its : List (Key × Option D)) (bs : List Addr), (fill its bs).map (·.1) = its.map (·.1)
  | [], _ => rfl
  | (k, some d) :: r, bs => by show k :: _ = k :: _; rw [fill_keys r bs]
  | (k, none) :: r, b :: bs => by show k :: _ = k :: _; rw [fill_keys r bs]
  | (k, none) :: r, [] => by show k :: _ = k :: _; rw [fill_keys r []]
theorem mergeK_nodup : ∀ {more acc : List (Key × V)}, ((acc ++ more).map (·.1)).Nodup → more.foldl (fun acc kv => putK acc kv.1 kv.2) acc = acc ++ more
  | [], acc, _ => by simp
  | x :: r, acc, h => by
    have e : putK acc x.1 x.2 = acc ++ [x] := by
      unfold putK
      rw [if_neg]
      rw [Bool.not_eq_true, List.any_eq_false]
      intro y hy
      rw [decide_eq_true_eq]
      intro z
      rw [List.map_append, List.nodup_append] at h
      exact h.2.2 y.1 (List.mem_map_of_mem hy) x.1 (by simp) z
    rw [List.foldl_cons, e, mergeK_nodup (by rwa [List.append_assoc]), List.append_assoc]
    rfl
/-- a slot that no scope sees holds a new dict -/
theorem At.newGhosts : ∀ {gs : List Nat} {bs : List Addr} {ρ : DEnv} {σ : St}, At F K I ρ σ H → bs.Nodup → (∀ b ∈ bs, H b = some (.dK []) ∧ I b = none ∧ ¬ F.W.mv b ∧ F.B b = none ∧ ∀ (i : Nat) e, ρ[i]? = some (some e) → e.isOwn → σ[i]? ≠ some (some (.ref b))) → At F K I (setQ gs bs ρ) (setV gs bs σ) H
  | [], bs, ρ, σ, A, _, _ => by cases bs <;> exact A
  | g :: gs, [], ρ, σ, A, _, _ => A
  | g :: gs, b :: bs, ρ, σ, A, hn, h => by
    obtain ⟨h1, h2, h3, h4, h5⟩ := h b (by simp)
    have A1 : At F K I (ρ.set g (some (.ownQ b []))) (σ.set g (some (.ref b))) H := by
      refine ⟨A.stp, by simp [A.len], fun i e hi => ?_, fun i l e e' v hil hi hl o1 o2 hv => ?_⟩
      · rcases set_at hi with ⟨rfl, q⟩ | ⟨hgi, q⟩
        · cases q
          have hg : g < ρ.length := by simpa using (List.getElem?_eq_some_iff.mp hi).1
          exact ⟨.ref b, by rw [List.getElem?_set]; simp [← A.len, hg], .inr ⟨b, _, rfl, h1, ⟨[], rfl, rfl, .nil⟩, h2, h3, h4, fun q z => by cases z; rfl⟩⟩
        · obtain ⟨v, e1, e2⟩ := A.env i e q
          exact ⟨v, by rw [List.getElem?_set_ne hgi]; exact e1, e2⟩
      · rcases set_at hi with ⟨rfl, q⟩ | ⟨hgi, q⟩
        · have hg : g < ρ.length := by simpa using (List.getElem?_eq_some_iff.mp hi).1
          have hv' : v = .ref b := by
            rw [List.getElem?_set] at hv
            simp [← A.len, hg] at hv
            exact hv.symm
          subst hv'
          rcases set_at hl with ⟨rfl, _⟩ | ⟨hgl, q'⟩
          · exact absurd rfl hil
          · rw [List.getElem?_set_ne hgl]
            exact h5 l e' q' o2
        · rcases set_at hl with ⟨rfl, _⟩ | ⟨hgl, q'⟩
          · rw [List.getElem?_set_ne hgi] at hv
            intro z
            have hg : g < ρ.length := by simpa using (List.getElem?_eq_some_iff.mp hl).1
            rw [List.getElem?_set] at z
            simp [← A.len, hg] at z
            subst z
            exact h5 i e q o1 hv
          · rw [List.getElem?_set_ne hgi] at hv
            rw [List.getElem?_set_ne hgl]
            exact A.dis i l e e' v hil q q' o1 o2 hv
    refine A1.newGhosts (List.nodup_cons.mp hn).2 fun c hc => ?_
    obtain ⟨c1, c2, c3, c4, c5⟩ := h c (List.mem_cons_of_mem _ hc)
    refine ⟨c1, c2, c3, c4, fun i e hi ho z => ?_⟩
    have ncb : c ≠ b := fun e => (List.nodup_cons.mp hn).1 (e ▸ hc)
    rcases set_at hi with ⟨rfl, q⟩ | ⟨hgi, q⟩
    · have hg : g < ρ.length := by simpa using (List.getElem?_eq_some_iff.mp hi).1
      rw [List.getElem?_set] at z
      simp [← A.len, hg] at z
      exact ncb z.symm
    · rw [List.getElem?_set_ne hgi] at z
      exact c5 i e q ho z
/-- x = {'a': e, 'b': {}, ..} -/
theorem ds_disp {x : Str} {p2 pos' : Pos} (i : Nat) (gs : List Nat) (hg : Unseen X gs) (hN : X.N.Nodup) (h : DPs F X p2 keys values trs t) (hi : X.N[i]? = some x := by rfl) (hx : Loc X.env.scope x := by first | exact Or.inl rfl | exact Or.inr rfl)
    (hs : swapsWith (.Dict keys values p2) (some (.Name x pos')) pos.line X.env = pure false := by rfl)
    (hf : X.fn x = true ∨ X.env.scope.names.lookup x = some .local := by first | exact .inl rfl | exact .inr rfl | assumption) (hall : keys.all (·.isSome) = true := by rfl) (hl : keys.length = values.length := by rfl) (h0 : keys ≠ [] := by simp) (h15 : keys.length ≤ 15 := by decide) :
    DSt F X (.Assign [.Name x pos'] (.Dict keys values p2) pos) (fun Z ρ => t ρ fun its => (its.map (·.1)).Nodup ∧ its.length ≤ 15 ∧ ∀ bs, bs.length = (its.filter (·.2.isNone)).length → Z.nx (setQ gs bs (ρ.set i (some (.ownD (fill its bs)))))) := by
  refine ⟨fun Z Z' ρ l q => h.mono _ _ _ (fun its q => ⟨q.1, q.2.1, fun bs hb => l.nx _ (q.2.2 bs hb)⟩) q, ((ps_set hN hi hx (pe_disp h.pps hall hl h0 h15) hs hf).ghosts gs hg).imp fun Z σ H ⟨I, ρ, A, q⟩ p hp => ?_⟩
  have s1 := A.st.laidM hp (.dK [])
  have nm : ¬ F.W.mv p := fun mv => F.W.live A.st.inv mv hp
  refine h.run I ρ σ _ _ _ (A.step s1) q fun I2 H2 its kvs bs ⟨q1, q2, q3⟩ m => ?_
  have hp2 := m.stp.h _ _ upd_same nm
  have ip2 := m.stp.new _ _ upd_same (A.st.free hp)
  have lk : kvs.length = its.length := by simpa using congrArg List.length m.keys
  refine ⟨hp2, kvs, rfl, by omega, bs, ?_⟩
  have em : mergeK [] kvs = kvs := by
    have := mergeK_nodup (more := kvs) (acc := []) (by rw [List.nil_append, m.keys]; exact q1)
    simpa [mergeK] using this
  rw [em]
  have npb : p ∉ bs := fun hm => by have := (m.fresh p hm).1; rw [upd_same] at this; cases this
  have hfr : ∀ b ∈ bs, H b = none := fun b hb => by
    have := (m.fresh b hb).1
    have bp : b ≠ p := fun e => npb (e ▸ hb)
    rwa [upd_ne bp] at this
  have sd : Stp F.W I H I2 (dropA H2 p) := Stp.dropNew (H := H) (H' := H2) ⟨m.stp.i, m.stp.st, fun b o e k => m.stp.h b o (by rw [upd_ne (ne_of_none e hp)]; exact e) k, fun b o e n => m.stp.new b o (by rw [upd_ne (ne_of_none e hp)]; exact e) n⟩ hp ip2 nm
  have A3 := (A.step sd).newOwn (i := i) (en := .ownD (fill its bs)) (o := .dK kvs) (p := p) (if_pos rfl) ⟨kvs, rfl, by rw [m.keys, fill_keys], m.reps⟩
  have eh : upd (dropA H2 p) p (.dK kvs) = upd H2 p (.dK kvs) := by
    funext b
    by_cases e : b = p
    · subst e; rw [upd_same, upd_same]
    · rw [upd_ne e, upd_ne e, dropA_ne e]
  rw [eh] at A3
  have A4 := A3.newGhosts (gs := gs) (bs := bs) m.nd fun b hb => by
    obtain ⟨b1, b2, b3⟩ := m.fresh b hb
    have hb0 := hfr b hb
    have bp : b ≠ p := fun z => npb (z ▸ hb)
    have nmb : ¬ F.W.mv b := fun mv => F.W.live A.st.inv mv hb0
    refine ⟨by rw [upd_ne bp]; exact b2, b3, nmb, ?_, fun j e h1 h2 z => ?_⟩
    · cases z : F.B b with
      | none => rfl
      | some u => have := A.stp.h _ _ z nmb; rw [hb0] at this; cases this
    · rcases set_at h1 with ⟨rfl, q⟩ | ⟨hij, q⟩
      · have hg : i < ρ.length := by simpa using (List.getElem?_eq_some_iff.mp h1).1
        rw [List.getElem?_set] at z
        simp [← A.len, hg] at z
        exact bp z.symm
      · rw [List.getElem?_set_ne hij] at z
        exact A.apart hb0 j e q h2 z
  exact q3 bs m.len I2 _ _ sd.i A4
end
end Dk
namespace Dk
open PySem L2
open PyProof.Rows (envOfC)
def adrs (es : List Ent) : List Addr := es.filterMap Ent.adr
def hideL (H : Hp) (ps : List Addr) : Hp := fun b => if b ∈ ps then none else H b
section
variable {H : Hp} {ps : List Addr} {b : Addr} {o : HO}
theorem hideL_at (e : hideL H ps b = some o) : b ∉ ps ∧ H b = some o := by
  unfold hideL at e
  split at e
  · cases e
  · exact ⟨‹_›, e⟩
theorem hideL_ne (h : b ∉ ps) : hideL H ps b = H b := if_neg h
theorem hideL_in (h : b ∈ ps) : hideL H ps b = none := if_pos h
end
/-- they are all there, each at its place, none of them known to others -/
structure Held (F : Fx) (K : PySem.W.Frag) (I H : Hp) (es : List Ent) : Prop where
  nd : (adrs es).Nodup
  at_ : ∀ e ∈ es, ∃ p o, e.adr = some p ∧ OwnAt F K I H e p o
def setE : List Nat → List Ent → DEnv → DEnv
  | g :: gs, e :: es, ρ => setE gs es (ρ.set g (some e))
  | _, _, ρ => ρ
def getE : List Nat → DEnv → Option (List Ent)
  | [], _ => some []
  | g :: gs, ρ => match ρ[g]?, getE gs ρ with
    | some (some e), some es => some (e :: es)
    | _, _ => none
theorem setE_len : ∀ {gs : List Nat} {es : List Ent} {ρ : DEnv}, (setE gs es ρ).length = ρ.length
  | [], es, ρ => by cases es <;> rfl
  | g :: gs, [], ρ => rfl
  | g :: gs, e :: es, ρ => by rw [setE, setE_len, List.length_set]
theorem setE_at : ∀ {gs : List Nat} {es : List Ent} {ρ : DEnv} {i : Nat} {e : Ent}, gs.Nodup → (setE gs es ρ)[i]? = some (some e) → (∃ k : Nat, gs[k]? = some i ∧ es[k]? = some e) ∨ ((∀ k : Nat, gs[k]? = some i → es[k]? = none) ∧ ρ[i]? = some (some e))
  | [], es, ρ, i, e, _, h => by
    refine .inr ⟨fun k hk => by simp at hk, ?_⟩
    cases es <;> exact h
  | g :: gs, [], ρ, i, e, _, h => .inr ⟨fun k hk => by simp, h⟩
  | g :: gs, e' :: es, ρ, i, e, nd, h => by
    rw [setE] at h
    obtain ⟨n1, n2⟩ := List.nodup_cons.mp nd
    rcases setE_at n2 h with ⟨k, h1, h2⟩ | ⟨h1, h2⟩
    · exact .inl ⟨k + 1, by simpa using h1, by simpa using h2⟩
    · rcases set_at h2 with ⟨rfl, q⟩ | ⟨hgi, q⟩
      · cases q
        exact .inl ⟨0, rfl, rfl⟩
      · refine .inr ⟨fun k hk => ?_, q⟩
        cases k with
        | zero => simp at hk; exact absurd hk hgi
        | succ k => simpa using h1 k (by simpa using hk)
theorem getE_at : ∀ {gs : List Nat} {ρ : DEnv} {es : List Ent}, getE gs ρ = some es → es.length = gs.length ∧ ∀ (k j : Nat), gs[k]? = some j → ∃ e, es[k]? = some e ∧ ρ[j]? = some (some e)
  | [], ρ, es, h => by
    rw [getE] at h
    cases h
    exact ⟨rfl, fun k j hk => by simp at hk⟩
  | g :: gs, ρ, es, h => by
    rw [getE] at h
    split at h
    · rename_i e es' h1 h2
      cases h
      obtain ⟨a, b⟩ := getE_at h2
      refine ⟨by simp [a], fun k j hk => ?_⟩
      cases k with
      | zero => simp at hk; subst hk; exact ⟨e, rfl, h1⟩
      | succ k => simpa using b k j (by simpa using hk)
    · cases h
section
variable {F : Fx} {K : PySem.W.Frag} {I H I' H' : Hp} {ρ : DEnv} {σ : St} {es : List Ent}
theorem Held.step (h : Held F K I H es) (s : Stp F.W I H I' H') : Held F K I' H' es := ⟨h.nd, fun e he => let ⟨p, o, a, b⟩ := h.at_ e he; ⟨p, o, a, b.step s⟩⟩
theorem mem_adrs {p : Addr} : p ∈ adrs es ↔ ∃ e ∈ es, e.adr = some p := by
  unfold adrs
  rw [List.mem_filterMap]
/-- at a def's entry: what it is lent lies in slots of its own -/
theorem At.newHeld : ∀ {gs : List Nat} {es : List Ent} {ρ : DEnv} {σ : St}, At F K I ρ σ H → (adrs es).Nodup → (∀ e ∈ es, ∃ p o, e.adr = some p ∧ OwnAt F K I H e p o ∧ ∀ (i : Nat) e', ρ[i]? = some (some e') → e'.isOwn → σ[i]? ≠ some (some (V.ref p))) → At F K I (setE gs es ρ) (setV gs (adrs es) σ) H
  | [], es, ρ, σ, A, _, _ => by
    have e1 : setE [] es ρ = ρ := by cases es <;> rfl
    have e2 : setV [] (adrs es) σ = σ := by cases adrs es <;> rfl
    rw [e1, e2]; exact A
  | g :: gs, [], ρ, σ, A, _, _ => A
  | g :: gs, en :: es, ρ, σ, A, hn, h => by
    obtain ⟨b, o, ha, hw, h5⟩ := h en (by simp)
    have ea : adrs (en :: es) = b :: adrs es := by simp [adrs, ha]
    rw [ea] at hn ⊢
    have A1 : At F K I (ρ.set g (some en)) (σ.set g (some (.ref b))) H := by
      refine ⟨A.stp, by simp [A.len], fun i e hi => ?_, fun i l e e' v hil hi hl o1 o2 hv => ?_⟩
      · rcases set_at hi with ⟨rfl, q⟩ | ⟨hgi, q⟩
        · cases q
          have hg : g < ρ.length := by simpa using (List.getElem?_eq_some_iff.mp hi).1
          exact ⟨.ref b, by rw [List.getElem?_set]; simp [← A.len, hg], .inr ⟨b, _, rfl, hw⟩⟩
        · obtain ⟨v, e1, e2⟩ := A.env i e q
          exact ⟨v, by rw [List.getElem?_set_ne hgi]; exact e1, e2⟩
      · rcases set_at hi with ⟨rfl, q⟩ | ⟨hgi, q⟩
        · have hg : g < ρ.length := by simpa using (List.getElem?_eq_some_iff.mp hi).1
          have hv' : v = .ref b := by
            rw [List.getElem?_set] at hv
            simp [← A.len, hg] at hv
            exact hv.symm
          subst hv'
          rcases set_at hl with ⟨rfl, _⟩ | ⟨hgl, q'⟩
          · exact absurd rfl hil
          · rw [List.getElem?_set_ne hgl]
            exact h5 l e' q' o2
        · rcases set_at hl with ⟨rfl, _⟩ | ⟨hgl, q'⟩
          · rw [List.getElem?_set_ne hgi] at hv
            intro z
            have hg : g < ρ.length := by simpa using (List.getElem?_eq_some_iff.mp hl).1
            rw [List.getElem?_set] at z
            simp [← A.len, hg] at z
            subst z
            exact h5 i e q o1 hv
          · rw [List.getElem?_set_ne hgi] at hv
            rw [List.getElem?_set_ne hgl]
            exact A.dis i l e e' v hil q q' o1 o2 hv
    refine A1.newHeld (List.nodup_cons.mp hn).2 fun c hc => ?_
    obtain ⟨pc, oc, c1, c2, c5⟩ := h c (List.mem_cons_of_mem _ hc)
    refine ⟨pc, oc, c1, c2, fun i e hi ho z => ?_⟩
    have ncb : pc ≠ b := fun e => (List.nodup_cons.mp hn).1 (e ▸ mem_adrs.mpr ⟨c, hc, c1⟩)
    rcases set_at hi with ⟨rfl, q⟩ | ⟨hgi, q⟩
    · have hg : g < ρ.length := by simpa using (List.getElem?_eq_some_iff.mp hi).1
      rw [List.getElem?_set] at z
      simp [← A.len, hg] at z
      exact ncb z.symm
    · rw [List.getElem?_set_ne hgi] at z
      exact c5 i e q ho z
theorem Stp.backL {W : Wd} {I0 B : Hp} {ps : List Addr} (s0 : Stp W I0 B I H) (hB : ∀ p ∈ ps, B p = none) (s : Stp W I (hideL H ps) I' H') : Stp W I0 B I' H' := by
  have see : ∀ b o, B b = some o → H b = some o → hideL H ps b = some o := fun b o e h => by
    rw [hideL_ne fun m => by rw [hB b m] at e; cases e]
    exact h
  refine ⟨Same.trans s0.i s.i, s.st, fun b o e m => s.h b o (see b o e (s0.h b o e m)) m, fun b o e n => ?_⟩
  by_cases m : W.mv b
  · cases q : I' b with
    | none => rfl
    | some u => exact absurd m (s.st.imm b u q)
  · exact s.new b o (see b o e (s0.h b o e m)) (s0.new b o e n)
/-- what is lent, and how it comes back -/
theorem At.lend (A : At F K I ρ σ H) {js : List Nat} (nd : js.Nodup) (hg : getE js ρ = some es) (hk : ∀ e ∈ es, ∃ p, e.adr = some p) :
    Held ⟨F.W, hideL H (adrs es), I⟩ K I H es ∧ ∀ I' H' es', Stp F.W I (hideL H (adrs es)) I' H' → Held ⟨F.W, hideL H (adrs es), I⟩ K I' H' es' → es'.map Ent.adr = es.map Ent.adr → At F K I' (setE js es' ρ) σ H' := by
  obtain ⟨hl, hs⟩ := getE_at hg
  have own : ∀ {e : Ent} {p : Addr}, e.adr = some p → e.isOwn := fun {e p} h => by cases e <;> first | trivial | cases h
  -- each of them by its place
  have pl : ∀ (k : Nat) (e : Ent) (p : Addr), es[k]? = some e → e.adr = some p → ∃ (j : Nat) (o : HO), js[k]? = some j ∧ ρ[j]? = some (some e) ∧ σ[j]? = some (some (V.ref p)) ∧ OwnAt F K I H e p o := fun k e p he hp => by
    have hk' : k < js.length := by rw [← hl]; exact (List.getElem?_eq_some_iff.mp he).1
    obtain ⟨e', h1, h2⟩ := hs k js[k] (List.getElem?_eq_getElem hk')
    rw [he] at h1
    cases h1
    obtain ⟨v, h3, h4⟩ := A.env _ _ h2
    obtain ⟨q, o, rfl, w⟩ := h4.own (own hp)
    have : q = p := w.ad p hp
    subst this
    exact ⟨_, o, List.getElem?_eq_getElem hk', h2, h3, w⟩
  have ndA : (adrs es).Nodup := by
    have go : ∀ (l : List Ent), (∀ (i j : Nat) (e e' : Ent) (p : Addr), i < j → l[i]? = some e → l[j]? = some e' → e.adr = some p → e'.adr ≠ some p) → (adrs l).Nodup := by
      intro l
      induction l with
      | nil => intro _; simp [adrs]
      | cons e l ih =>
        intro h
        have ih := ih fun i j a b p hij h1 h2 => h (i + 1) (j + 1) a b p (by omega) (by simpa using h1) (by simpa using h2)
        cases ha : e.adr with
        | none => simpa [adrs, ha] using ih
        | some p =>
          have : adrs (e :: l) = p :: adrs l := by simp [adrs, ha]
          rw [this, List.nodup_cons]
          refine ⟨fun m => ?_, ih⟩
          obtain ⟨e', he', hp'⟩ := mem_adrs.mp m
          obtain ⟨n, hn⟩ := List.mem_iff_getElem?.mp he'
          exact h 0 (n + 1) e e' p (by omega) rfl (by simpa using hn) ha hp'
    refine go es fun i j e e' p hij h1 h2 hp hp' => ?_
    obtain ⟨a, o, a1, a2, a3, _⟩ := pl i e p h1 hp
    obtain ⟨b, o', b1, b2, b3, _⟩ := pl j e' p h2 hp'
    have hab : a ≠ b := fun z => by
      subst z
      have hi := (List.getElem?_eq_some_iff.mp a1)
      have hj := (List.getElem?_eq_some_iff.mp b1)
      have := (List.getElem_inj nd).mp (hi.2.trans hj.2.symm)
      omega
    exact A.dis a b e e' _ hab a2 b2 (own hp) (own hp') a3 b3
  refine ⟨⟨ndA, fun e he => ?_⟩, fun I' H' es' s hd hm => ?_⟩
  · obtain ⟨p, hp⟩ := hk e he
    obtain ⟨n, hn⟩ := List.mem_iff_getElem?.mp he
    obtain ⟨j, o, _, _, _, w⟩ := pl n e p hn hp
    exact ⟨p, o, hp, w.hp, w.rep, w.ni, w.nm, hideL_in (mem_adrs.mpr ⟨e, he, hp⟩), w.ad⟩
  have hl' : es'.length = es.length := by simpa using congrArg List.length hm
  have hB : ∀ p ∈ adrs es, F.B p = none := fun p m => by
    obtain ⟨e, he, hp⟩ := mem_adrs.mp m
    obtain ⟨n, hn⟩ := List.mem_iff_getElem?.mp he
    obtain ⟨j, o, _, _, _, w⟩ := pl n e p hn hp
    exact w.nb
  -- a slot of them had one of them ahead
  have was : ∀ (k i : Nat), js[k]? = some i → ∃ e p o, es[k]? = some e ∧ e.adr = some p ∧ ρ[i]? = some (some e) ∧ σ[i]? = some (some (V.ref p)) ∧ OwnAt F K I H e p o := fun k i hki => by
    obtain ⟨e, h1, h2⟩ := hs k i hki
    obtain ⟨p, hp⟩ := hk e (List.mem_iff_getElem?.mpr ⟨k, h1⟩)
    obtain ⟨j, o, a1, a2, a3, a4⟩ := pl k e p h1 hp
    rw [hki] at a1
    cases a1
    exact ⟨e, p, o, h1, hp, a2, a3, a4⟩
  have full : ∀ (k i : Nat), js[k]? = some i → es'[k]? ≠ none := fun k i h z => by
    have h1 : k < js.length := (List.getElem?_eq_some_iff.mp h).1
    rw [List.getElem?_eq_none_iff] at z
    omega
  refine ⟨A.stp.backL hB s, by rw [setE_len]; exact A.len, fun i e hi => ?_, fun i l e e' v hil hi hl2 o1 o2 hv => ?_⟩
  · rcases setE_at nd hi with ⟨k, h1, h2⟩ | ⟨h1, h2⟩
    · obtain ⟨e0, p, o, b1, b2, b3, b4, w⟩ := was k i h1
      have ea : e.adr = some p := by
        have := congrArg (fun l => l[k]?) hm
        simp only [List.getElem?_map, h2, b1, Option.map_some] at this
        rw [← b2]
        exact Option.some.inj this
      obtain ⟨p', o', c1, c2⟩ := hd.at_ e (List.mem_iff_getElem?.mpr ⟨k, h2⟩)
      rw [ea] at c1
      cases c1
      exact ⟨_, b4, .inr ⟨p, o', rfl, c2.hp, c2.rep, c2.ni, c2.nm, w.nb, c2.ad⟩⟩
    · obtain ⟨v, e1, e2⟩ := A.env i e h2
      refine ⟨v, e1, ?_⟩
      rcases e2 with ⟨d, rfl, r⟩ | ⟨p', o, rfl, w⟩
      · exact .inl ⟨d, rfl, r.mono s.i⟩
      · refine .inr ⟨p', o, rfl, ?_⟩
        have np : p' ∉ adrs es := fun m => by
          obtain ⟨e0, he0, hp0⟩ := mem_adrs.mp m
          obtain ⟨n, hn⟩ := List.mem_iff_getElem?.mp he0
          obtain ⟨j, o', a1, a2, a3, _⟩ := pl n e0 p' hn hp0
          by_cases hij : j = i
          · subst hij
            exact full n j a1 (h1 n a1)
          · exact A.dis j i e0 e _ hij a2 h2 (own hp0) w.rep.isOwn a3 e1
        have hh : hideL H (adrs es) p' = some o := by rw [hideL_ne np]; exact w.hp
        exact ⟨s.h _ _ hh w.nm, w.rep.mono s.i, s.new _ _ hh w.ni, w.nm, w.nb, w.ad⟩
  · have back : ∀ (k : Nat) (f : Ent), (setE js es' ρ)[k]? = some (some f) → f.isOwn → ∃ f', ρ[k]? = some (some f') ∧ f'.isOwn := fun k f hk hf => by
      rcases setE_at nd hk with ⟨n, h1, h2⟩ | ⟨h1, h2⟩
      · obtain ⟨e0, p, o, b1, b2, b3, b4, w⟩ := was n k h1
        exact ⟨e0, b3, own b2⟩
      · exact ⟨f, h2, hf⟩
    obtain ⟨f, q1, p1⟩ := back i e hi o1
    obtain ⟨f', q2, p2⟩ := back l e' hl2 o2
    exact A.dis i l f f' v hil q1 q2 p1 p2 hv
theorem At.heldIn_of (A : At F K I ρ σ H) {js : List Nat} (hg : getE js ρ = some es) {p : Addr} (hp : p ∈ adrs es) : heldIn ρ σ p := by
  obtain ⟨hl, hs⟩ := getE_at hg
  obtain ⟨e, he, ha⟩ := mem_adrs.mp hp
  obtain ⟨n, hn⟩ := List.mem_iff_getElem?.mp he
  have hk : n < js.length := by rw [← hl]; exact (List.getElem?_eq_some_iff.mp hn).1
  obtain ⟨e', a1, a2⟩ := hs n js[n] (List.getElem?_eq_getElem hk)
  rw [hn] at a1
  cases a1
  have o : e.isOwn := by cases e <;> first | trivial | cases ha
  obtain ⟨v, a3, a4⟩ := A.env _ _ a2
  obtain ⟨q, u, rfl, w⟩ := a4.own o
  obtain rfl : q = p := w.ad p ha
  exact ⟨_, e, a2, o, a3⟩
/-- what was lent may have turned, nothing else -/
theorem At.lendM (A : At F K I ρ σ H) {js : List Nat} (nd : js.Nodup) (hg : getE js ρ = some es) (hk : ∀ e ∈ es, ∃ p, e.adr = some p) {I' H' : Hp} {es' : List Ent} (s : Stp F.W I (hideL H (adrs es)) I' H') : Moved F σ ρ I H (setE js es' ρ) I' H' := by
  refine ⟨s.i, fun p o e n m nh => ?_, fun i e hi ho => ?_⟩
  · have hh : hideL H (adrs es) p = some o := by rw [hideL_ne fun z => nh (A.heldIn_of hg z)]; exact e
    exact ⟨s.h _ _ hh m, s.new _ _ hh n⟩
  · rcases setE_at nd hi with ⟨k, h1, h2⟩ | ⟨h1, h2⟩
    · obtain ⟨hl, hs⟩ := getE_at hg
      obtain ⟨e0, a1, a2⟩ := hs k i h1
      obtain ⟨p, hp⟩ := hk e0 (List.mem_iff_getElem?.mpr ⟨k, a1⟩)
      exact ⟨e0, a2, by cases e0 <;> first | trivial | cases hp⟩
    · exact ⟨e, h2, ho⟩
end
end Dk
namespace Dk
open PySem L2
open PyProof.Rows (envOfC)
/-- what such a def promises: told things, lent things; a thing back, the lent ones as they are then -/
structure SSp where
  n : Nat
  m : Nat
  f : List D → List Ent → (D → List Ent → Prop) → (Ex → Prop) → Prop
  len : ∀ ds es Q E, f ds es Q E → ds.length = n ∧ es.length = m
  mono : ∀ ds es (Q Q' : D → List Ent → Prop) (E E' : Ex → Prop), (∀ d es, Q d es → Q' d es) → (∀ x, E x → E' x) → f ds es Q E → f ds es Q' E'
def spS (W : Wd) (K : PySem.W.Frag) (S : SSp) : Sp := fun vs H Q E => ∃ I ds es, StI W I H ∧ Reps K I vs ds ∧ Held ⟨W, hideL H (adrs es), I⟩ K I H es ∧ S.f ds es (fun d es' => es'.map Ent.adr = es.map Ent.adr → ∀ v I' H', Stp W I (hideL H (adrs es)) I' H' → Held ⟨W, hideL H (adrs es), I⟩ K I' H' es' → Rep K I' v d → Q v H') (finX W K I (hideL H (adrs es)) E)
/-- the ways out of such a def -/
def retS (gs : List Nat) (Q : D → List Ent → Prop) : Ret → Prop
  | .own _ => False
  | .st d ρ => ∃ es, getE gs ρ = some es ∧ Q d es
def defEndsS (gs : List Nat) (Q : D → List Ent → Prop) : DEnds := ⟨fun ρ => ∃ es, getE gs ρ = some es ∧ Q .non es, fun _ => False, fun _ => False, fun _ => False, retS gs Q⟩
section
variable {X : Cx} {sts : List Stmt} {t : TS}
theorem _root_.L2.PSs.ghosts0 (h : PSs X sts t) (gs : List Nat) (bs : List Addr) (hg : Unseen X gs) : PSs X sts (fun D σ H => t D (setV gs bs σ) H) := ⟨fun pins s σ H D J q => h.run pins s _ H D (J.ghosts hg) q⟩
end
section
variable {F : Fx} {K : PySem.W.Frag} {I H I' H' : Hp} {ρ : DEnv} {σ : St} {es : List Ent}
/-- nothing is held as yet: any base will do -/
theorem At.base {W : Wd} {B : Hp} (A : At ⟨W, H, I⟩ K I ρ σ H) (hB : ∀ b o, B b = some o → H b = some o) : At ⟨W, B, I⟩ K I ρ σ H ∧ ∀ (i : Nat) e, ρ[i]? = some (some e) → ¬ e.isOwn := by
  have no : ∀ (i : Nat) e, ρ[i]? = some (some e) → ¬ e.isOwn := fun i e h o => by
    obtain ⟨v, h1, h2⟩ := A.env i e h
    obtain ⟨p, u, _, w⟩ := h2.own o
    have e1 : H p = none := w.nb
    rw [w.hp] at e1
    cases e1
  refine ⟨⟨⟨Same.refl I, A.st, fun b o e _ => hB b o e, fun b o e n => n⟩, A.len, fun i e h => ?_, A.dis⟩, no⟩
  obtain ⟨v, h1, h2⟩ := A.env i e h
  refine ⟨v, h1, ?_⟩
  rcases h2 with h2 | ⟨p, o, rfl, w⟩
  · exact .inl h2
  · exact absurd w.rep.isOwn (no i e h)
theorem Held.same {W : Wd} {B I0 : Hp} {js : List Nat} (A : At ⟨W, B, I0⟩ K I ρ σ H) (nd : js.Nodup) (hg : getE js ρ = some es) (hk : ∀ e ∈ es, ∃ p, e.adr = some p) : Held ⟨W, B, I0⟩ K I H es := by
  obtain ⟨h1, _⟩ := A.lend nd hg hk
  refine ⟨h1.nd, fun e he => ?_⟩
  obtain ⟨p, hp⟩ := hk e he
  obtain ⟨hl, hs⟩ := getE_at hg
  obtain ⟨n, hn⟩ := List.mem_iff_getElem?.mp he
  have hk' : n < js.length := by rw [← hl]; exact (List.getElem?_eq_some_iff.mp hn).1
  obtain ⟨e', a1, a2⟩ := hs n js[n] (List.getElem?_eq_getElem hk')
  rw [hn] at a1
  cases a1
  obtain ⟨v, a3, a4⟩ := A.env _ _ a2
  obtain ⟨q, o, rfl, w⟩ := a4.own (by cases e <;> first | trivial | cases hp)
  obtain rfl : q = p := w.ad p hp
  exact ⟨q, o, hp, w⟩
end
def startS (N : List Str) (gs : List Nat) (ds : List D) (es : List Ent) : DEnv := setE gs es (startD N ds)
section
variable {P : Program} {w : World} {K : PySem.W.Frag} {mg : Str → Option Value} {base : Heap}
theorem body_runS {X : Cx} {t : DTS} {body : List Stmt} {N : List Str} {vs : List V} {ds : List D} {es : List Ent} {Q : VK} {H I : Hp} {W : Wd} {gs : List Nat} (nd : gs.Nodup) (hu : Unseen X gs) (h : DSts ⟨W, hideL H (adrs es), I⟩ X body t) (s : StI W I H) (r : Reps X.K I vs ds)
    (hd : Held ⟨W, hideL H (adrs es), I⟩ X.K I H es) (q : t (defEndsS gs fun d es' => (∀ e ∈ es', ∃ p, e.adr = some p) ∧ ∀ v I' H', Stp W I (hideL H (adrs es)) I' H' → Held ⟨W, hideL H (adrs es), I⟩ X.K I' H' es' → Rep X.K I' v d → Q v H') (startS N gs ds es)) :
    ∃ t', PSs X body t' ∧ t' { nx := fun _ H' => Q .non H', rt := Q } (L2.start N vs) H := by
  obtain ⟨A0, no⟩ := (at_start (N := N) s r).base (B := hideL H (adrs es)) fun b o e => (hideL_at e).2
  have A : At ⟨W, hideL H (adrs es), I⟩ X.K I (startS N gs ds es) (setV gs (adrs es) (L2.start N vs)) H := A0.newHeld hd.nd fun e he => let ⟨p, o, a, b⟩ := hd.at_ e he; ⟨p, o, a, b, fun i e' h o _ => no i e' h o⟩
  refine ⟨_, h.run.ghosts0 gs (adrs es) hu, I, _, A, h.mono (defEndsS gs fun d es' => (∀ e ∈ es', ∃ p, e.adr = some p) ∧ ∀ v I' H', Stp W I (hideL H (adrs es)) I' H' → Held ⟨W, hideL H (adrs es), I⟩ X.K I' H' es' → Rep X.K I' v d → Q v H') _ _ ⟨fun ρ ⟨es', hg, hk, q⟩ I' σ' H' s A' => ?_, fun d q => q.elim, fun _ q => q.elim, fun _ q => q.elim, fun u q => ?_⟩ q⟩
  · exact q .non I' H' A'.stp (Held.same A' nd hg hk) .non
  · match u, q with
    | .own _, q => exact q.elim
    | .st d ρ, ⟨es', hg, hk, q⟩ => exact fun v I' σ' H' A' rv => q v I' H' A'.stp (Held.same A' nd hg hk) rv
/-- such a def by its body; no exception comes out -/
theorem _root_.L2.Fun.okS {W : Wd} {S : SSp} {x qual : Str} {st : Stmt} {f : Addr} {fd : FuncData} {N ps : List Str} {k : Nat} (Fn : Fun K x qual st f fd) (gs : List Nat) (nd : gs.Nodup) (hu : unseenB N (defScope st) gs = true) (Sc : FnScope N ps (defScope st)) (hn : S.n = ps.length)
    (hbody : ∀ (cdv : Value) (A : Around) (outer : List Env) (s : Shared) (H I B : Hp) (ds : List D) (es : List Ent) (Q : D → List Ent → Prop) (Ed : Ex → Prop) (E : XK), Rm k (A.deeper (envOfC qual (defScope st) s.heap.objs.size f cdv)) → (∀ e ∈ es, ∃ p, e.adr = some p) → S.f ds es (fun d es' => es'.map Ent.adr = es.map Ent.adr → Q d es') Ed →
      ∃ t, DSts ⟨W, B, I⟩ (cxOf CX0 P w K mg base N qual (defScope st) f cdv A outer s H E).nox (defBody st) t ∧ t (defEndsS gs fun d es' => es'.map Ent.adr = es.map Ent.adr ∧ Q d es') (startS N gs ds es)) : GnOk P w K mg base CX0 (k + 1) f fd ps (spS W K S) := by
  refine Fn.gn Sc (fun vs H Q E ⟨I, ds, es, _, r, _, h⟩ => r.length.trans ((S.len _ _ _ _ h).1.trans hn)) fun cdv A outer s H vs Q E hr ⟨I, ds, es, si, r, hd, h⟩ => ?_
  have ka : ∀ e ∈ es, ∃ p, e.adr = some p := fun e he => let ⟨p, o, a, b⟩ := hd.at_ e he; ⟨p, a⟩
  obtain ⟨t, h1, h2⟩ := hbody cdv A outer s H I (hideL H (adrs es)) ds es _ _ E hr ka h
  have known : ∀ es' : List Ent, es'.map Ent.adr = es.map Ent.adr → ∀ e ∈ es', ∃ p, e.adr = some p := fun es' hm e he => by
    have : e.adr ∈ es.map Ent.adr := hm ▸ List.mem_map_of_mem he
    obtain ⟨e0, a, b⟩ := List.mem_map.mp this
    rw [← b]
    exact ka e0 a
  have go := body_runS (X := (cxOf CX0 P w K mg base N qual (defScope st) f cdv A outer s H E).nox) (Q := Q) nd (unseen_by rfl rfl hu) h1 si r hd (h1.mono (defEndsS gs fun d es' => es'.map Ent.adr = es.map Ent.adr ∧ ∀ v I' H', Stp W I (hideL H (adrs es)) I' H' → Held ⟨W, hideL H (adrs es), I⟩ K I' H' es' → Rep K I' v d → Q v H') _ _ ⟨fun ρ ⟨es', hg, hm, q⟩ => ⟨es', hg, known es' hm, q⟩, fun _ q => q, fun _ q => q, fun _ q => q, fun u q => match u, q with
    | .own _, q => q
    | .st d ρ, ⟨es', hg, hm, q⟩ => ⟨es', hg, known es' hm, q⟩⟩ h2)
  obtain ⟨t', h3, h4⟩ := go
  exact ⟨t', h3.nox, h4⟩
end
/-- what comes out is let out, whatever was turned -/
def LetsB (F : Fx) (K : PySem.W.Frag) (Ed : Ex → Prop) (E : XK) : Prop := ∀ x, Ed x → finX F.W K F.I0 F.B E x
theorem letsB0 {F : Fx} {K : PySem.W.Frag} {E : XK} : LetsB F K (fun _ => False) E := fun _ h => h.elim
structure CalS (P : Program) (w : World) (K : PySem.W.Frag) (mg : Str → Option Value) (base : Heap) (CX : CXT) (W : Wd) (k : Nat) (C : Addr) (m : Str) (ps : List Str) (S : SSp) : Prop where
  ex : ∃ f fd, Cls K C ∧ Meth K C m f ∧ GnOk P w K mg base CX k f fd ps (spS W K S) ∧ Binds K fd ps []
section
variable {F : Fx} {X : Cx} {K : PySem.W.Frag} {CX : CXT} {k : Nat} {x m f : Str} {C : Addr} {ps : List Str} {S : SSp} {E : XK} {p pos apos : Pos} {o e : Expr} {es : List Expr} {to te : DT} {t : DATS} {ta : DAT} {ts : DTS2} {Ed : Ex → Prop} {pl : Sem Bool}
/-- return e -/
theorem ds_retS (he : DES F X e ts) : DSt F X (.Return (some e) pos) (fun Z ρ => ts ρ fun d ρ' => Z.ro (.st d ρ')) :=
  ⟨fun Z Z' ρ l q => he.mono _ _ _ (fun d ρ => l.ro _) q, (ps_ret he.run).imp fun Z σ H ⟨I, ρ, A, q⟩ => ⟨I, ρ, A, he.mono _ _ _ (fun d ρ' q v I' H' s A' rv => q v I' σ H' A' rv) q⟩⟩
/-- o.f of an object that is held -/
def heldO (ρ : DEnv) (j : Nat) (C : Addr) (x : D) (Q : Addr → List (Str × D) → Prop) : Prop := ∃ q fs, x = .opq q ∧ ρ[j]? = some (some (.ownO q C fs)) ∧ Q q fs
theorem de_fldS (j : Nat) (c : Cls X.K C) (n : NoAttr X.K C f) (he : DE F X e te) (hb : attributeBase e f X.env (eval e X.env) = eval e X.env := by rfl) : DE F X (.Attribute e f pos) (fun ρ Q => te ρ fun d => heldO ρ j C d fun _ fs => ∃ x, fs.lookup f = some x ∧ Q x) := by
  refine ⟨fun ρ Q Q' k q => he.mono _ _ _ (fun d ⟨q0, fs, e, hj, x, l, q⟩ => ⟨q0, fs, e, hj, x, l, k _ q⟩) q, (pe_fld he.run hb).imp fun σ H Q ⟨I, ρ, A, q⟩ => rdE_next he.mono A q fun d v I1 H1 q1 s rv => ?_⟩
  obtain ⟨q0, fs, rfl, hj, x, l, q1⟩ := q1
  cases rv
  obtain ⟨p, o, h1, w, _⟩ := (A.step s).turnOwn hj trivial
  obtain rfl : p = q0 := w.ad _ rfl
  obtain ⟨dx, ws, rfl, kk, r⟩ := w.rep
  obtain ⟨u, a1, a2⟩ := lookup_rep kk r l
  exact ⟨_, C, dx, ws, u, rfl, w.hp, c, n, a1, q1 _ _ _ s a2⟩
/-- o.m(e, ..), o and what it holds lent -/
theorem des_meth (c : CalS X.prog X.w X.K X.mg X.base CX F.W k C m ps S) (hr : Rm k X.A) (hx : Passes CX X E) (le : LetsB F X.K Ed E) (j : Nat) (js : List Nat) (nd : js.Nodup) (ho : DE F X o to) (ha : DAS F X (e :: es) t)
    (hst : starEach (e :: es) X.env = (false, eval e X.env) :: starEach es X.env := by rfl) (hpl : (backTo pos (starEach es X.env)).any (·.1) = false := by rfl)
    (ht : eval (.Call (.Attribute o m apos) (e :: es) [] pos) X.env = (do
      let ov ← eval o X.env
      standAt apos.atName
      let (f, first) ← holding [ov] (getMethod ov m pl)
      callWith pos f first (backTo pos (starEach (e :: es) X.env)) (backToKw pos (keywordEach [] X.env))) := by rfl) :
    DES F X (.Call (.Attribute o m apos) (e :: es) [] pos) (fun ρ Q => to ρ fun x => heldO ρ j C x fun q fs => fs.lookup m = none ∧ t ρ fun ds ρ1 => ∃ en, getE js ρ1 = some en ∧ (∀ e ∈ en, ∃ p, e.adr = some p) ∧ S.f (x :: ds) en (fun d en' => en'.map Ent.adr = en.map Ent.adr → Q d (setE js en' ρ1)) Ed) := by
  obtain ⟨f, fd, cl, hm, G, hb⟩ := c.ex
  refine ⟨fun ρ Q Q' k h => ho.mono _ _ _ (fun d ⟨q, fs, e, hj, l, h⟩ => ⟨q, fs, e, hj, l, ha.mono _ _ _ (fun ds ρ1 ⟨en, hg, hk, h⟩ => ⟨en, hg, hk, S.mono _ _ _ _ _ _ (fun d en' z hm => k _ _ (z hm)) (fun _ h => h) h⟩) h⟩) h, ⟨fun pins s σ H Q J ⟨I, ρ, A, h⟩ => ?_⟩⟩
  refine PySem.W.methodCall_KW (pl := pl) (thn (ho.run.run pins s σ H (fun x H1 => ∃ a dx fs, x = .ref a ∧ H1 a = some (.ins C dx fs) ∧ fs.lookup m = none ∧ rdAS F X.K t σ H1 fun vs H2 => spS F.W X.K S (.ref a :: vs) H2 Q E) J ?_) fun u s1 ⟨x, H1, J1, rx, a, dx, fs, ex, ea, l, q⟩ => ?_) ht
  · refine rdE_next ho.mono A h fun d v I1 H1 q1 s1 rv => ?_
    obtain ⟨q0, fs, rfl, hj, l, q1⟩ := q1
    cases rv
    have A1 := A.step s1
    obtain ⟨p, o, h1, w, _⟩ := A1.turnOwn hj trivial
    obtain rfl : p = q0 := w.ad _ rfl
    obtain ⟨dx, ws, rfl, kk, r⟩ := w.rep
    refine ⟨_, dx, ws, rfl, w.hp, lookup_none (K := X.K) (I := I1) kk l, I1, ρ, A1, ha.mono _ _ _ (fun ds ρ1 ⟨en, hg, hk, q⟩ vs I2 H2 s2 A2 rs => ?_) q1⟩
    obtain ⟨hd, back⟩ := A2.lend nd hg hk
    have hB : ∀ b ∈ adrs en, F.B b = none := fun b m => by
      obtain ⟨e0, he0, hp0⟩ := mem_adrs.mp m
      obtain ⟨p', o', c1, c2⟩ := (Held.same (W := F.W) (B := F.B) (I0 := F.I0) A2 nd hg hk).at_ e0 he0
      rw [hp0] at c1
      cases c1
      exact c2.nb
    refine ⟨I2, _, en, A2.st, .cons (.opq _) rs, hd, S.mono _ _ _ _ _ _ (fun d en' q hm v I' H' s' hd' rv => ?_) (fun x hx => ?_) q⟩
    · exact q hm v I' H' ((Moved.of s1).trans (s2.trans (A2.lendM nd hg hk s'))) (back I' H' en' s' hd' hm) rv
    · intro cls dd I' H' s' er
      exact le x hx cls dd I' H' (A2.stp.backL hB s') er
  · subst ex
    obtain rfl : u = Value.ref a := rx
    refine getmeth_ok J1 ea cl hm l ?_
    refine PySem.W.callWith_K (first := [.ref a]) (h₀ := X.base) J.ok.mod.kin hm.kp (thn (ha.run.run pos pins s1 σ H1 _ J1 q) fun us s2 ⟨vs, H2, J2, r, q2⟩ => ⟨J2.kIn, ?_⟩) hst hpl
    exact gn_pos (us := .ref a :: us) (vs := .ref a :: vs) G hr hb .nil hx J2 (.cons rfl r) (by simpa using q2)
end
end Dk
namespace Dk
open PySem L2
def putT (kvs : List (List Key × D)) (k : List Key) (d : D) : List (List Key × D) :=
  if (kvs.any fun kv => decide (kv.1 = k)) = true then kvs.map fun kv => if kv.1 = k then (kv.1, d) else kv else kvs ++ [(k, d)]
end Dk
namespace Dk
open PySem L2
section
variable {F : Fx} {X : Cx} {K : PySem.W.Frag} {I H I' H' : Hp} {ρ : DEnv} {σ : St} {a b e : Expr} {es : List Expr} {ta tb ts : DTS2} {t : DATS} {R : R2} {r : D → D → (D → Prop) → Prop} {x : Str} {p pos pos' : Pos}
theorem des_op {op : Operator} (mr : Mono2 r) (ho : OpR X (binaryOp op) R) (l : LiftR F X.K R r) (ha : DES F X a ta) (hb : DES F X b tb) : DES F X (.BinOp a op b pos) (fun ρ Q => ta ρ fun x ρ1 => tb ρ1 fun y ρ2 => r x y fun d => Q d ρ2) := by
  refine ⟨fun ρ Q Q' k q => ha.mono _ _ _ (fun x ρ1 q => hb.mono _ _ _ (fun y ρ2 q => mr _ _ _ _ (fun d => k d _) q) q) q, (pe_op ho ha.run hb.run).imp fun σ H Q ⟨I, ρ, A, q⟩ => ⟨I, ρ, A, ha.mono _ _ _ (fun x ρ1 q v I1 H1 m1 A1 rv => ⟨I1, ρ1, A1, hb.mono _ _ _ (fun y ρ2 q u I2 H2 m2 A2 ru => ?_) q⟩) q⟩⟩
  exact l v u x y I2 H2 Q A2.st (rv.mono m2.i) ru (mr _ _ _ _ (fun d qd w I3 H3 s3 rw => qd w I3 H3 ((m1.trans m2).trans (.of s3)) (A2.step s3) rw) q)
variable {Rc : List V → Hp → VK → Prop} {rc : List D → (D → Prop) → Prop} {id T : String}
theorem bltS_run (mr : MonoN rc) (l : LiftC F K Rc rc) (hm : ∀ ρ (Q Q' : List D → DEnv → Prop), (∀ d ρ, Q d ρ → Q' d ρ) → t ρ Q → t ρ Q') {Q : VK} (h : rdES F K (fun ρ Q => t ρ fun ds ρ1 => rc ds fun d => Q d ρ1) σ H Q) : rdAS F K t σ H fun vs H1 => Rc vs H1 Q := by
  obtain ⟨I, ρ, A, h⟩ := h
  refine ⟨I, ρ, A, hm _ _ _ (fun ds ρ1 q vs I1 H1 m1 A1 rs => l vs ds I1 H1 Q A1.st rs (mr _ _ _ (fun d qd w I2 H2 s2 rw => qd w I2 H2 (m1.trans (.of s2)) (A1.step s2) rw) q)) h⟩
theorem des_callB (mr : MonoN rc) (l : LiftC F X.K Rc rc) (hc : CallR X (.builtin id) Rc) (hm : X.mg x = none) (hv : bootBuiltins x = some (.builtin id)) (ha : DAS F X (e :: es) t) (hg : Gl X x := by rfl) (hn : x ≠ "__name__" := by decide) (hdb : (x == ("__debug__" : Str)) = false := by decide)
    (he : starEach (e :: es) X.env = (false, eval e X.env) :: starEach es X.env := by rfl) (hpl : (backTo pos (starEach es X.env)).any (·.1) = false := by rfl) : DES F X (.Call (.Name x p) (e :: es) [] pos) (fun ρ Q => t ρ fun ds ρ1 => rc ds fun d => Q d ρ1) :=
  ⟨fun ρ Q Q' k h => ha.mono _ _ _ (fun d ρ h => mr _ _ _ (fun d => k d _) h) h, (pe_callB hc hg hm hv ha.run hn hdb he hpl).imp fun σ H Q h => bltS_run mr l ha.mono h⟩
theorem des_callT (mr : MonoN rc) (l : LiftC F X.K Rc rc) (hc : CallR X (.type T) Rc) (hm : X.mg x = none) (hv : bootBuiltins x = some (.type T)) (ha : DAS F X (e :: es) t) (hg : Gl X x := by rfl) (hn : x ≠ "__name__" := by decide) (hdb : (x == ("__debug__" : Str)) = false := by decide)
    (he : starEach (e :: es) X.env = (false, eval e X.env) :: starEach es X.env := by rfl) (hpl : (backTo pos (starEach es X.env)).any (·.1) = false := by rfl) : DES F X (.Call (.Name x p) (e :: es) [] pos) (fun ρ Q => t ρ fun ds ρ1 => rc ds fun d => Q d ρ1) :=
  ⟨fun ρ Q Q' k h => ha.mono _ _ _ (fun d ρ h => mr _ _ _ (fun d => k d _) h) h, (pe_callTy hc hg hm hv ha.run hn hdb he hpl).imp fun σ H Q h => bltS_run mr l ha.mono h⟩
theorem des_tuple (hm : X.mg "tuple" = none) (ha : DAS F X [e] t) (hg : Gl X "tuple" := by rfl) (he : starEach [e] X.env = (false, eval e X.env) :: starEach [] X.env := by rfl) : DES F X (.Call (.Name "tuple" p) [e] [] pos) (fun ρ Q => t ρ fun ds ρ1 => tupleD ds fun d => Q d ρ1) := des_callT mono_tupleD lc_tuple call_tuple_of hm (by decide +kernel) ha hg (by decide) (by decide) he rfl
end
def lcS (g : DGT) (tc : DB) (te : DTS2) (vs : List Nat) : List D → DEnv → (List D → DEnv → Prop) → Prop
  | [], ρ, Q => Q [] ρ
  | d :: ds, ρ, Q => g d ρ fun ρ2 => tc ρ2 fun b => if b = true then te ρ2 fun y ρ3 => lcS g tc te vs ds (wipeD ρ3 vs) fun ys ρ4 => Q (y :: ys) ρ4 else lcS g tc te vs ds (wipeD ρ2 vs) Q
section
variable {F : Fx} {X Y : Cx} {K : PySem.W.Frag} {I H I' H' : Hp} {ρ : DEnv} {σ : St} {elt tg iter : Expr} {ifs : List Expr} {scope : Scope} {own : List (Str × Nat)} {pos : Pos} {ti : DAT} {js vs : List Nat} {g : DGT} {tc : DB} {te : DTS2}
theorem lcS.mono (hg : ∀ d ρ (Q Q' : DEnv → Prop), (∀ ρ, Q ρ → Q' ρ) → g d ρ Q → g d ρ Q') (ht : ∀ ρ (Q Q' : Bool → Prop), (∀ d, Q d → Q' d) → tc ρ Q → tc ρ Q') (he : ∀ ρ (Q Q' : D → DEnv → Prop), (∀ d ρ, Q d ρ → Q' d ρ) → te ρ Q → te ρ Q') : ∀ (ds : List D) (ρ : DEnv) (Q Q' : List D → DEnv → Prop), (∀ ys ρ, Q ys ρ → Q' ys ρ) → lcS g tc te vs ds ρ Q → lcS g tc te vs ds ρ Q'
  | [], ρ, Q, Q', k, h => k _ _ h
  | d :: ds, ρ, Q, Q', k, h => hg _ _ _ _ (fun ρ2 q => ht _ _ _ (fun b q => by
      cases b
      · exact lcS.mono hg ht he ds _ _ _ k q
      · exact he _ _ _ (fun y ρ3 q => lcS.mono hg ht he ds _ _ _ (fun ys ρ4 => k _ _) q) q) q) h
/-- what a slot doesn't hold stands still from now on -/
theorem At.freezeX (A : At F K I ρ σ H) {D : Addr} {o : HO} (hI : I D = none) (hm : ¬ F.W.mv D) (hB : F.B D = none) (hD : H D = some o) (ha : ¬ heldIn ρ σ D) : At F K (upd I D o) ρ σ H := by
  have s : Same I (upd I D o) := Same.laid hI
  refine ⟨A.stp.freeze hI hm hB hD, A.len, fun i e h => ?_, A.dis⟩
  obtain ⟨v, h1, h2⟩ := A.env i e h
  refine ⟨v, h1, ?_⟩
  rcases h2 with ⟨d, rfl, r⟩ | ⟨p, u, rfl, w⟩
  · exact .inl ⟨d, rfl, r.mono s⟩
  · have ne : p ≠ D := fun z => ha ⟨i, e, h, w.rep.isOwn, by rw [← z]; exact h1⟩
    exact .inr ⟨p, u, rfl, w.hp, w.rep.mono s, by rw [upd_ne ne]; exact w.ni, w.nm, w.nb, w.ad⟩
theorem lcS_raw (hgm : ∀ d ρ (Q Q' : DEnv → Prop), (∀ ρ, Q ρ → Q' ρ) → g d ρ Q → g d ρ Q') (hgk : ∀ d ρ (Q : DEnv → Prop), g d ρ Q → g d ρ fun ρ' => Q ρ' ∧ Kept js ρ ρ') (htm : ∀ ρ (Q Q' : Bool → Prop), (∀ d, Q d → Q' d) → tc ρ Q → tc ρ Q') (hem : ∀ ρ (Q Q' : D → DEnv → Prop), (∀ d ρ, Q d ρ → Q' d ρ) → te ρ Q → te ρ Q')
    (him : ∀ ρ (Q Q' : List D → Prop), (∀ d, Q d → Q' d) → ti ρ Q → ti ρ Q') (hjs : ∀ j ∈ js, j ∈ vs) {Q : VK} {Kq : List D → DEnv → Prop} (A : At F K I ρ σ H)
    (fin : ∀ (E : Addr) (I2 H2 : Hp) (ρ2 : DEnv) (ws : List V) (ys : List D), H E = none → ¬ F.W.mv E → F.B E = none → Moved F σ ρ I H ρ2 I2 H2 → At F K I2 ρ2 σ H2 → ¬ heldIn ρ2 σ E → H2 E = some (.lst ws) → I2 E = none → Reps K I2 ws ys → Kq ys ρ2 → Q (.ref E) H2)
    (q : ti ρ fun ds => ds.length ≤ sizeLine ∧ lcS g tc te vs ds (wipeD ρ vs) Kq) :
    tLc (rdI F K ti) (rdG F K js g) (rdT F K tc) (rdES F K te) vs σ H Q := by
  refine ⟨I, ρ, A, him _ _ _ (fun ds q J I1 H1 s jr E hE => ?_) q⟩
  obtain ⟨hl, q⟩ := q
  have A0 := A.step s
  have A1 := A0.wipe vs
  have ap0 : Apart ρ σ E := A0.apart hE
  have hI1 : I1 E = none := s.st.free hE
  have hm : ¬ F.W.mv E := fun m => F.W.live s.st.inv m hE
  have hB : F.B E = none := by
    cases z : F.B E with
    | none => rfl
    | some u => have := A1.stp.h _ _ z hm; rw [hE] at this; cases this
  have hHE : H E = none := by
    cases z : H E with
    | none => rfl
    | some u => have := s.h _ _ z hm; rw [hE] at this; cases this
  -- held by the inner slots is held by the outer ones
  have out : ∀ {ρ2 : DEnv} {p : Addr} {σ2 : St}, (∀ (i : Nat) e, ρ2[i]? = some (some e) → e.isOwn → i ∉ vs ∧ ∃ e0, ρ[i]? = some (some e0) ∧ e0.isOwn) → (∀ i, i ∉ vs → σ2[i]? = σ[i]?) → heldIn ρ2 σ2 p → heldIn ρ σ p := fun h1 h2 ⟨i, e, a, o, b⟩ => by
    obtain ⟨n, e0, a0, o0⟩ := h1 i e a o
    exact ⟨i, e0, a0, o0, by rw [← h2 i n]; exact b⟩
  have wo : ∀ i, i ∉ vs → (wipe σ vs)[i]? = σ[i]? := fun i h => wipe_out h
  have noE : ¬ heldIn ρ σ E := fun ⟨i, e, a, o, b⟩ => ap0 i e a o b
  refine ⟨fun i m H2 => m = ds.length - i ∧ i ≤ ds.length ∧ ∃ I2 ρ2 ws ys, At F K I2 ρ2 (wipe σ vs) H2 ∧ (∀ (i : Nat) e, ρ2[i]? = some (some e) → i ∉ vs) ∧ Moved F σ ρ I H ρ2 I2 H2 ∧ Same I1 I2 ∧ H2 E = some (.lst ws) ∧ I2 E = none ∧ Reps K I2 ws ys ∧ ws.length ≤ i ∧ lcS g tc te vs (ds.drop i) ρ2 (fun zs ρ' => Kq (ys ++ zs) ρ'),
    ⟨ds.length, by simp, Nat.zero_le _, I1, wipeD ρ vs, [], [], A1.write _ hI1 hm hB (fun i e he o hv => noE (out (ρ2 := wipeD ρ vs) (fun i e h o => ⟨(wipeD_some h).2, e, (wipeD_some h).1, o⟩) wo ⟨i, e, he, o, hv⟩)), fun i e h => (wipeD_some h).2, ?_, Same.refl I1, upd_same, hI1, .nil, Nat.zero_le _, by simpa using q⟩, ?_⟩
  · refine ⟨s.i, fun p o e n mm nh => ⟨?_, s.new _ _ e n⟩, fun i e h o => ⟨e, (wipeD_some h).1, o⟩⟩
    rw [upd_ne (ne_of_none e hHE)]
    exact s.h _ _ e mm
  rintro i m H2 ⟨rfl, hi, I2, ρ2, ws, ys, A2, w2, M2, s2, h2, n2, r2, l2, q2⟩
  have own2 : ∀ (i : Nat) e, ρ2[i]? = some (some e) → e.isOwn → i ∉ vs ∧ ∃ e0, ρ[i]? = some (some e0) ∧ e0.isOwn := fun i e h o => ⟨w2 i e h, M2.sub i e h o⟩
  by_cases hlt : i < ds.length
  · refine .inr ⟨jr.go i I2 H2 s2 A2.st hlt, fun H3 => ∃ I3 ρ3 ws3 ys3, At F K I3 ρ3 (wipe σ vs) H3 ∧ (∀ (i : Nat) e, ρ3[i]? = some (some e) → i ∉ vs) ∧ Moved F σ ρ I H ρ3 I3 H3 ∧ Same I1 I3 ∧ H3 E = some (.lst ws3) ∧ I3 E = none ∧ Reps K I3 ws3 ys3 ∧ ws3.length ≤ i + 1 ∧ lcS g tc te vs (ds.drop (i + 1)) ρ3 (fun zs ρ' => Kq (ys3 ++ zs) ρ'),
      fun H3 h => ⟨ds.length - (i + 1), by omega, rfl, hlt, h⟩, fun x H3 y => ?_⟩
    obtain ⟨d, I3, hd, st3, rx⟩ := jr.yld i I2 H2 x H3 hlt s2 A2.st y
    rw [List.drop_eq_getElem_cons hlt] at q2
    rw [List.getElem?_eq_getElem hlt] at hd
    rw [Option.some.inj hd] at q2
    refine ⟨I3, ρ2, d, A2.step st3, rx, hgm _ _ _ _ (fun ρ4 ⟨q4, kp4⟩ I4 σ4 H4 A4 st4 o4 => ⟨(wipe_only o4 hjs).trans (wipe_wipe σ vs), ?_⟩) (hgk _ _ _ q2)⟩
    have own4 : ∀ (i : Nat) e, ρ4[i]? = some (some e) → e.isOwn → i ∉ vs ∧ ∃ e0, ρ[i]? = some (some e0) ∧ e0.isOwn := fun i e h o => own2 i e (kp4 i e h o).2 o
    have so4 : ∀ i, i ∉ vs → σ4[i]? = σ[i]? := fun i h => (o4.2 i fun z => h (hjs i z)).trans (wo i h)
    have wip : wipe σ4 vs = wipe σ vs := (wipe_only o4 hjs).trans (wipe_wipe σ vs)
    refine rdT_next htm A4 q4 fun b I5 H5 q5 st5 => ?_
    have s25 : Stp F.W I2 H2 I5 H5 := (st3.trans st4).trans st5
    have A5 := A4.step st5
    have M5 : Moved F σ ρ I H (wipeD ρ4 vs) I5 H5 := by
      refine ⟨Same.trans M2.i s25.i, fun p o e n mm nh => ?_, fun i e h o => (own4 i e (wipeD_some h).1 o).2⟩
      obtain ⟨e1, n1⟩ := M2.kp p o e n mm nh
      exact ⟨s25.h _ _ e1 mm, s25.new _ _ e1 n1⟩
    cases b
    · have A6 := A5.wipe vs
      rw [wip] at A6
      exact ⟨I5, wipeD ρ4 vs, ws, ys, A6, fun i e h => (wipeD_some h).2, M5, Same.trans s2 s25.i, s25.h _ _ h2 hm, s25.new _ _ h2 n2, r2.mono s25.i, by omega, q5⟩
    · refine ⟨I5, ρ4, A5, hem _ _ _ (fun y' ρ6 q6 v I6 H6 m6 A6 rv => ?_) q5⟩
      have hE5 : H5 E = some (.lst ws) := s25.h _ _ h2 hm
      have nE5 : I5 E = none := s25.new _ _ h2 n2
      obtain ⟨hE6, nE6⟩ := m6.kp E _ hE5 nE5 hm fun z => noE (out own4 so4 z)
      have A7 := A6.wipe vs
      rw [wip] at A7
      have own6 : ∀ (i : Nat) e, (wipeD ρ6 vs)[i]? = some (some e) → e.isOwn → i ∉ vs ∧ ∃ e0, ρ[i]? = some (some e0) ∧ e0.isOwn := fun i e h o => by
        obtain ⟨a1, a2⟩ := wipeD_some h
        obtain ⟨e4, a3, a4⟩ := m6.sub i e a1 o
        exact own4 i e4 a3 a4
      have M6 : Moved F σ ρ I H (wipeD ρ6 vs) I6 (upd H6 E (.lst (ws ++ [v]))) := by
        refine ⟨Same.trans (Same.trans M2.i s25.i) m6.i, fun p o e n mm nh => ?_, fun i e h o => (own6 i e h o).2⟩
        obtain ⟨e1, n1⟩ := M5.kp p o e n mm nh
        obtain ⟨e2, n3⟩ := m6.kp p o e1 n1 mm fun z => nh (out own4 so4 z)
        rw [upd_ne (ne_of_none e hHE)]
        exact ⟨e2, n3⟩
      refine ⟨ws, hE6, by omega, I6, wipeD ρ6 vs, ws ++ [v], ys ++ [y'], A7.write _ nE6 hm hB (fun i e he o hv => noE (out own6 wo ⟨i, e, he, o, hv⟩)), fun i e h => (wipeD_some h).2, M6, Same.trans (Same.trans s2 s25.i) m6.i, upd_same, nE6, ((r2.mono s25.i).mono m6.i).append (.cons rv .nil), by simp; omega, ?_⟩
      simpa using q6
  · have e : i = ds.length := by omega
    subst e
    rw [List.drop_length] at q2
    have nh2 : ¬ heldIn ρ2 σ E := fun z => noE (out own2 (fun _ _ => rfl) z)
    -- the outer slots again
    have A3 : At F K I2 ρ2 σ H2 := by
      refine ⟨A2.stp, by rw [A2.len, wipe_length], fun i e h => ?_, fun i j e e' v hij h1 h3 o1 o2 hv => ?_⟩
      · obtain ⟨v, a1, a2⟩ := A2.env i e h
        exact ⟨v, by rw [← wo i (w2 i e h)]; exact a1, a2⟩
      · have := A2.dis i j e e' v hij h1 h3 o1 o2 (by rw [wo i (w2 i e h1)]; exact hv)
        rwa [wo j (w2 j e' h3)] at this
    refine .inl ⟨jr.stop I2 H2 s2 A2.st, ?_⟩
    have q3 : Kq ys ρ2 := by simpa [lcS] using q2
    exact fin E I2 H2 ρ2 ws ys hHE hm hB M2 A3 nh2 h2 n2 r2 q3
theorem lcS_run (hgm : ∀ d ρ (Q Q' : DEnv → Prop), (∀ ρ, Q ρ → Q' ρ) → g d ρ Q → g d ρ Q') (hgk : ∀ d ρ (Q : DEnv → Prop), g d ρ Q → g d ρ fun ρ' => Q ρ' ∧ Kept js ρ ρ') (htm : ∀ ρ (Q Q' : Bool → Prop), (∀ d, Q d → Q' d) → tc ρ Q → tc ρ Q') (hem : ∀ ρ (Q Q' : D → DEnv → Prop), (∀ d ρ, Q d ρ → Q' d ρ) → te ρ Q → te ρ Q')
    (him : ∀ ρ (Q Q' : List D → Prop), (∀ d, Q d → Q' d) → ti ρ Q → ti ρ Q') (hjs : ∀ j ∈ js, j ∈ vs) {Q : VK} (A : At F K I ρ σ H)
    (q : ti ρ fun ds => ds.length ≤ sizeLine ∧ lcS g tc te vs ds (wipeD ρ vs) fun ys ρ' => ∀ v I' H', Moved F σ ρ I H ρ' I' H' → At F K I' ρ' σ H' → Rep K I' v (.lst ys) → Q v H') :
    tLc (rdI F K ti) (rdG F K js g) (rdT F K tc) (rdES F K te) vs σ H Q :=
  lcS_raw hgm hgk htm hem him hjs A (fun E I2 H2 ρ2 ws ys hHE hm hB M2 A3 nh2 h2 n2 r2 q3 => by
    refine q3 (.ref E) (upd I2 E (.lst ws)) H2 ⟨Same.trans M2.i (Same.laid n2), fun p o e n mm nh => ?_, M2.sub⟩ (A3.freezeX n2 hm hB h2 nh2) (.lst upd_same (r2.mono (Same.laid n2)))
    obtain ⟨e1, n1⟩ := M2.kp p o e n mm nh
    exact ⟨e1, by rw [upd_ne (ne_of_none e hHE)]; exact n1⟩) q
theorem des_lc (hc : X.calm = true) (hN : X.N.Nodup) (hi : DI F X tg iter ti) (ok : BlkOk X.N X.env.scope scope own)
    (hg : ∀ (s : Shared) (H : Hp) (C : Addr) (cl : List (Str × Addr)) (fp : List Addr), DG F (X.blk s H scope (compEnvC scope cl C X.env) fp) tg js g)
    (ht : ∀ (s : Shared) (H : Hp) (C : Addr) (cl : List (Str × Addr)) (fp : List Addr), DIfs F (X.blk s H scope (compEnvC scope cl C X.env) fp) ifs tc)
    (he : ∀ (s : Shared) (H : Hp) (C : Addr) (cl : List (Str × Addr)) (fp : List Addr), DES F (X.blk s H scope (compEnvC scope cl C X.env) fp) elt te)
    (hjs : ∀ j ∈ js, j ∈ own.map (·.2) := by decide) (hs : ∀ x, foldedSetIterable iter X.env x = pure x := by intro _; rfl) :
    DES F X (.ListComp elt [⟨tg, iter, ifs, 0⟩] scope pos) (fun ρ Q => ti ρ fun ds => ds.length ≤ sizeLine ∧ lcS g tc te (own.map (·.2)) ds (wipeD ρ (own.map (·.2))) fun ys ρ' => Q (.lst ys) ρ') := by
  have g0 := hg X.s_0 X.H_0 0 [] []
  have t0 := ht X.s_0 X.H_0 0 [] []
  have e0 := he X.s_0 X.H_0 0 [] []
  refine ⟨fun ρ Q Q' k q => hi.mono _ _ _ (fun ds q => ⟨q.1, lcS.mono g0.mono t0.mono e0.mono _ _ _ _ (fun ys ρ' => k _ _) q.2⟩) q, (pe_lc (g := rdG F X.K js g) (tt := rdT F X.K tc) (te := rdES F X.K te) hc hN hi.run ok (fun s H C cl fp => (hg s H C cl fp).run) (fun s H C cl fp => (ht s H C cl fp).run) (fun s H C cl fp => (he s H C cl fp).run) hs).imp fun σ H Q ⟨I, ρ, A, q⟩ => ?_⟩
  exact lcS_run g0.mono g0.keeps t0.mono e0.mono hi.mono hjs A q
end
end Dk
namespace Dk
open PySem L2
abbrev DATS2 := DEnv → (List D → DEnv → Prop) → Prop
def rdIS (F : Fx) (K : PySem.W.Frag) (ti : DATS2) : TI := fun σ H QI => ∃ I ρ, At F K I ρ σ H ∧ ti ρ fun ds ρ1 => ∀ J I1 H1, Moved F σ ρ I H ρ1 I1 H1 → At F K I1 ρ1 σ H1 → JRep F.W K J I1 ds → QI J H1
structure DIS (F : Fx) (X : Cx) (tg e : Expr) (ti : DATS2) : Prop where
  mono : ∀ ρ (Q Q' : List D → DEnv → Prop), (∀ d ρ, Q d ρ → Q' d ρ) → ti ρ Q → ti ρ Q'
  run : PI X tg e (rdIS F X.K ti)
section
variable {F : Fx} {X : Cx} {tg e : Expr} {ti : DAT} {ts : DTS2}
theorem DI.dis (h : DI F X tg e ti) : DIS F X tg e (fun ρ Q => ti ρ fun ds => Q ds ρ) :=
  ⟨fun ρ Q Q' k q => h.mono _ _ _ (fun ds => k ds ρ) q, h.run.imp fun σ H R ⟨I, ρ, A, q⟩ => ⟨I, ρ, A, h.mono _ _ _ (fun ds q J I1 H1 s jr => q J I1 H1 (.of s) (A.step s) jr) q⟩⟩
end
/-- the list at E is no one's; the state that it was made in -/
structure AccB (F : Fx) (σ0 : St) (ρ0 : DEnv) (H0 : Hp) (E : Addr) : Prop where
  hm : ¬ F.W.mv E
  hB : F.B E = none
  hH : H0 E = none
  no : ¬ heldIn ρ0 σ0 E
/-- so far it holds ys -/
structure AccS (F : Fx) (K : PySem.W.Frag) (σ0 : St) (ρ0 : DEnv) (I0 H0 : Hp) (va : List Nat) (E : Addr) (I : Hp) (ρ : DEnv) (σ : St) (H : Hp) (ws : List V) (ys : List D) : Prop where
  A : At F K I ρ σ H
  sl : ∀ i, i ∉ va → σ[i]? = σ0[i]?
  ow : ∀ (i : Nat) e, ρ[i]? = some (some e) → e.isOwn → i ∉ va
  M : Moved F σ0 ρ0 I0 H0 ρ I H
  hE : H E = some (.lst ws)
  nE : I E = none
  r : Reps K I ws ys
section
variable {F : Fx} {K : PySem.W.Frag} {σ0 σ : St} {ρ0 ρ : DEnv} {I0 H0 I H I' H' : Hp} {va vs : List Nat} {E : Addr} {ws : List V} {ys : List D}
theorem AccS.wipe (S : AccS F K σ0 ρ0 I0 H0 va E I ρ σ H ws ys) (h : ∀ i ∈ vs, i ∈ va) : AccS F K σ0 ρ0 I0 H0 va E I (wipeD ρ vs) (wipe σ vs) H ws ys where
  A := S.A.wipe vs
  sl := fun i hi => (wipe_out fun z => hi (h i z)).trans (S.sl i hi)
  ow := fun i e a o => S.ow i e (wipeD_some a).1 o
  M := ⟨S.M.i, S.M.kp, fun i e a o => S.M.sub i e (wipeD_some a).1 o⟩
  hE := S.hE
  nE := S.nE
  r := S.r
theorem AccS.step (S : AccS F K σ0 ρ0 I0 H0 va E I ρ σ H ws ys) (B : AccB F σ0 ρ0 H0 E) (s : Stp F.W I H I' H') : AccS F K σ0 ρ0 I0 H0 va E I' ρ σ H' ws ys where
  A := S.A.step s
  sl := S.sl
  ow := S.ow
  M := ⟨Same.trans S.M.i s.i, fun p o e n mm nh => let ⟨e1, n1⟩ := S.M.kp p o e n mm nh; ⟨s.h _ _ e1 mm, s.new _ _ e1 n1⟩, S.M.sub⟩
  hE := s.h _ _ S.hE B.hm
  nE := s.new _ _ S.hE S.nE
  r := S.r.mono s.i
/-- held then is held at first -/
theorem AccS.back (S : AccS F K σ0 ρ0 I0 H0 va E I ρ σ H ws ys) {p : Addr} (h : heldIn ρ σ p) : heldIn ρ0 σ0 p := by
  obtain ⟨i, e, a, o, b⟩ := h
  obtain ⟨e0, a0, o0⟩ := S.M.sub i e a o
  exact ⟨i, e0, a0, o0, by rw [← S.sl i (S.ow i e a o)]; exact b⟩
theorem AccS.put {v : V} {y : D} (S : AccS F K σ0 ρ0 I0 H0 va E I ρ σ H ws ys) (B : AccB F σ0 ρ0 H0 E) (rv : Rep K I v y) : AccS F K σ0 ρ0 I0 H0 va E I ρ σ (upd H E (.lst (ws ++ [v]))) (ws ++ [v]) (ys ++ [y]) where
  A := S.A.write _ S.nE B.hm B.hB fun i e he o hv => B.no (S.back ⟨i, e, he, o, hv⟩)
  sl := S.sl
  ow := S.ow
  M := ⟨S.M.i, fun p o e n mm nh => by
    obtain ⟨e1, n1⟩ := S.M.kp p o e n mm nh
    rw [upd_ne (ne_of_none e B.hH)]
    exact ⟨e1, n1⟩, S.M.sub⟩
  hE := upd_same
  nE := S.nE
  r := S.r.append (.cons rv .nil)
end
abbrev DBT := Nat → DEnv → (List D → DEnv → Prop) → Prop
def loopE (g : DGT) (tc : DB) (bt : DBT) (vs : List Nat) : Nat → List D → DEnv → (List D → DEnv → Prop) → Prop
  | _, [], ρ, Q => Q [] ρ
  | n, d :: ds, ρ, Q => g d ρ fun ρ2 => tc ρ2 fun b => if b = true then bt n ρ2 fun zs ρ3 => loopE g tc bt vs (n + zs.length) ds (wipeD ρ3 vs) fun ys ρ4 => Q (zs ++ ys) ρ4 else loopE g tc bt vs n ds (wipeD ρ2 vs) Q
theorem loopE.mono {g : DGT} {tc : DB} {bt : DBT} {vs : List Nat} (hg : ∀ d ρ (Q Q' : DEnv → Prop), (∀ ρ, Q ρ → Q' ρ) → g d ρ Q → g d ρ Q') (ht : ∀ ρ (Q Q' : Bool → Prop), (∀ d, Q d → Q' d) → tc ρ Q → tc ρ Q') (hb : ∀ n ρ (Q Q' : List D → DEnv → Prop), (∀ d ρ, Q d ρ → Q' d ρ) → bt n ρ Q → bt n ρ Q') :
    ∀ (n : Nat) (ds : List D) (ρ : DEnv) (Q Q' : List D → DEnv → Prop), (∀ ys ρ, Q ys ρ → Q' ys ρ) → loopE g tc bt vs n ds ρ Q → loopE g tc bt vs n ds ρ Q'
  | n, [], ρ, Q, Q', k, h => k _ _ h
  | n, d :: ds, ρ, Q, Q', k, h => hg _ _ _ _ (fun ρ2 q => ht _ _ _ (fun b q => by
      cases b
      · exact loopE.mono hg ht hb n ds _ _ _ k q
      · exact hb _ _ _ _ (fun zs ρ3 q => loopE.mono hg ht hb _ ds _ _ _ (fun ys ρ4 => k _ _) q) q) q) h
end Dk
namespace Dk
open PySem L2
open PyProof.Rows (envOfC)
/-- what such an __init__ promises -/
structure ISp where
  n : Nat
  f : List D → Addr → (List Ent → Prop) → (Ex → Prop) → Prop
  len : ∀ ds x Q E, f ds x Q E → ds.length = n
  mono : ∀ ds x (Q Q' : List Ent → Prop) (E E' : Ex → Prop), (∀ es, Q es → Q' es) → (∀ x, E x → E' x) → f ds x Q E → f ds x Q' E'
def spI (W : Wd) (K : PySem.W.Frag) (C : Addr) (S : ISp) : Sp := fun vs H Q E => ∃ x dx us I ds, vs = .ref x :: us ∧ H x = some (.ins C dx []) ∧ I x = none ∧ ¬ W.mv x ∧ StI W I H ∧ Reps K I us ds ∧
  S.f ds x (fun es => (∀ e ∈ es, ∃ p, e.adr = some p) ∧ ∀ I' H', Stp W I (dropA H x) I' H' → Held ⟨W, dropA H x, I⟩ K I' H' es → Q .non H') fun e => ∀ cls d I' H', Stp W I (dropA H x) I' H' → ExRep K I' H' cls d e → E cls d H'
def initEndsS (gs : List Nat) (Q : List Ent → Prop) : DEnds := ⟨fun ρ => ∃ es, getE gs ρ = some es ∧ Q es, fun _ => False, fun _ => False, fun _ => False, fun _ => False⟩
section
variable {P : Program} {w : World} {K : PySem.W.Frag} {mg : Str → Option Value} {base : Heap}
theorem _root_.L2.Fun.okIS {W : Wd} {S : ISp} {C : Addr} {x qual : Str} {st : Stmt} {f : Addr} {fd : FuncData} {N ps : List Str} {k : Nat} (Fn : Fun K x qual st f fd) (gs : List Nat) (nd : gs.Nodup) (Sc : FnScope N ps (defScope st)) (hn : S.n + 1 = ps.length)
    (hbody : ∀ (cdv : Value) (A : Around) (outer : List Env) (s : Shared) (H I B : Hp) (a : Addr) (ds : List D) (Q : List Ent → Prop) (Ed : Ex → Prop) (E : XK), Rm k (A.deeper (envOfC qual (defScope st) s.heap.objs.size f cdv)) → S.f ds a (fun es => (∀ e ∈ es, ∃ p, e.adr = some p) ∧ Q es) Ed →
      ∃ t, DSts ⟨W, B, I⟩ (cxOf CX0 P w K mg base N qual (defScope st) f cdv A outer s H E).nox (defBody st) t ∧ t (initEndsS gs fun es => (∀ e ∈ es, ∃ p, e.adr = some p) ∧ Q es) (startI N a C ds)) : GnOk P w K mg base CX0 (k + 1) f fd ps (spI W K C S) := by
  refine Fn.gn Sc (fun vs H Q E ⟨a, dx, us, I, ds, e, _, _, _, _, r, h⟩ => ?_) fun cdv A outer s H vs Q E hr ⟨a, dx, us, I, ds, e, hx, ni, nm, si, r, h⟩ => ?_
  · subst e
    rw [List.length_cons, r.length, S.len _ _ _ _ h, hn]
  subst e
  obtain ⟨t, h1, h2⟩ := hbody cdv A outer s H I (dropA H a) a ds _ _ E hr h
  refine ⟨_, h1.run.nox, I, _, at_startI si hx ni nm r, h1.mono (initEndsS gs fun es => (∀ e ∈ es, ∃ p, e.adr = some p) ∧ ∀ I' H', Stp W I (dropA H a) I' H' → Held ⟨W, dropA H a, I⟩ K I' H' es → Q .non H') _ _ ⟨fun ρ ⟨es, e0, hk, q⟩ I' σ' H' sm A' => q I' H' A'.stp (Held.same A' nd e0 hk), fun _ q => q.elim, fun _ q => q.elim, fun _ q => q.elim, fun u q => q.elim⟩ h2⟩
end
structure CalI (P : Program) (w : World) (K : PySem.W.Frag) (mg : Str → Option Value) (base : Heap) (CX : CXT) (W : Wd) (k : Nat) (x : Str) (C : Addr) (ps : List Str) (S : ISp) : Prop where
  ex : ∃ f fd, Mk K C f ∧ GnOk P w K mg base CX k f fd ps (spI W K C S) ∧ mg x = some (.ref C) ∧ Binds K fd ps [] ∧ ps.length = S.n + 1
section
variable {F : Fx} {X : Cx} {CX : CXT} {k : Nat} {x m : Str} {C f : Addr} {fd : FuncData} {ps ps' : List Str} {S : ISp} {S' : SSp} {E : XK} {p pos cpos apos : Pos} {e e' : Expr} {es es' : List Expr} {t t' : DAT} {ta : TA} {Ed : Ex → Prop} {sp : Sp} {pl : Sem Bool}
theorem pe_make (M : Mk X.K C f) (G : GnOk X.prog X.w X.K X.mg X.base CX k f fd ps sp) (hm : X.mg x = some (.ref C)) (hb : Binds X.K fd ps []) (hr : Rm (k + 1) X.A) (hx : Passes CX X E) (ha : PA X (e :: es) ta)
    (hg : Gl X x := by rfl) (hdb : (x == ("__debug__" : Str)) = false := by decide) (he : starEach (e :: es) X.env = (false, eval e X.env) :: starEach es X.env := by rfl) (hpl : (backTo pos (starEach es X.env)).any (·.1) = false := by rfl) :
    PE X (.Call (.Name x p) (e :: es) [] pos) (fun σ H Q => ta σ H fun vs H1 => vs.length + 1 = ps.length ∧ ∀ a dx, H1 a = none → H1 dx = none → dx ≠ a → sp (.ref a :: vs) (upd (upd H1 dx (.own a)) a (.ins C dx [])) (fun v H2 => v = .non ∧ Q (.ref a) H2) E) := by
  refine ⟨fun pins s σ H Q J h => ?_⟩
  refine wpAny_Call_Name_kw (ld_glob J hg hm ?_ hdb)
  refine PySem.W.callWith_K (h₀ := X.base) J.ok.mod.kin M.kp (thn (ha.run pos pins s σ H _ J h) fun us s1 ⟨vs, H1, J1, r, l, q⟩ => ⟨J1.kIn, ?_⟩) he hpl
  exact gn_make M G hr hx (fun s' x hk => by have := hb s' (x :: us) hk (by rw [List.append_nil, List.length_cons, ← r.length]; exact l); simpa using this) J1 r q
/-- C(e, ..).m(e', ..): the object is gone behind it -/
theorem de_makeMeth (c : CalI X.prog X.w X.K X.mg X.base CX F.W k x C ps S) (c' : CalS X.prog X.w X.K X.mg X.base CX F.W k C m ps' S') (hr : Rm (k + 1) X.A) (hx : Passes CX X E) (le : LetsB F X.K Ed E) (ha : DA F X (e :: es) t) (ha' : DA F X (e' :: es') t')
    (hg : Gl X x := by rfl) (hdb : (x == ("__debug__" : Str)) = false := by decide) (he : starEach (e :: es) X.env = (false, eval e X.env) :: starEach es X.env := by rfl) (hpl : (backTo cpos (starEach es X.env)).any (·.1) = false := by rfl)
    (hst : starEach (e' :: es') X.env = (false, eval e' X.env) :: starEach es' X.env := by rfl) (hpl' : (backTo pos (starEach es' X.env)).any (·.1) = false := by rfl)
    (ht : eval (.Call (.Attribute (.Call (.Name x p) (e :: es) [] cpos) m apos) (e' :: es') [] pos) X.env = (do
      let ov ← eval (.Call (.Name x p) (e :: es) [] cpos) X.env
      standAt apos.atName
      let (f, first) ← holding [ov] (getMethod ov m pl)
      callWith pos f first (backTo pos (starEach (e' :: es') X.env)) (backToKw pos (keywordEach [] X.env))) := by rfl) :
    DE F X (.Call (.Attribute (.Call (.Name x p) (e :: es) [] cpos) m apos) (e' :: es') [] pos) (fun ρ Q => t ρ fun ds => ∀ a, S.f ds a (fun en => ((∀ e ∈ en, ∃ p, e.adr = some p) ∧ ∃ fs r, en = .ownO a C fs :: r ∧ fs.lookup m = none) ∧ t' ρ fun ds' => S'.f (.opq a :: ds') en (fun d en' => en'.map Ent.adr = en.map Ent.adr → Q d) Ed) Ed) := by
  obtain ⟨f, fd, M, G, hm, hb, hl⟩ := c.ex
  obtain ⟨f', fd', cl, hm', G', hb'⟩ := c'.ex
  refine ⟨fun ρ Q Q' k h => ha.mono _ _ _ (fun ds h a => S.mono _ _ _ _ _ _ (fun en h => ⟨h.1, ha'.mono _ _ _ (fun ds' h => S'.mono _ _ _ _ _ _ (fun d en' q hm => k _ (q hm)) (fun _ h => h) h) h.2⟩) (fun _ h => h) (h a)) h, ⟨fun pins s σ H Q J ⟨I, ρ, A, h⟩ => ?_⟩⟩
  have P1 := pe_make (pos := cpos) (p := p) M G hm hb hr hx ha.run hg hdb he hpl
  refine PySem.W.methodCall_KW (pl := pl) (thn (P1.run pins s σ H (fun v H1 => ∃ a dx fs, v = .ref a ∧ H1 a = some (.ins C dx fs) ∧ fs.lookup m = none ∧ rdA F X.K t' σ H1 fun vs H2 => spS F.W X.K S' (.ref a :: vs) H2 Q E) J ?_) fun u s1 ⟨v, H1, J1, rx, a, dx, fs, ex, ea, l, q⟩ => ?_) ht
  · refine rdA_next ha.mono A h fun ds vs I1 H1 q1 s1 rs => ⟨by rw [rs.length, S.len _ _ _ _ (q1 0), hl], fun a dx hz hd ne => ?_⟩
    obtain ⟨ni, nm, st, back⟩ := new_run (K := X.K) (o := .ins C dx []) s1.st hz hd ne
    refine ⟨a, dx, vs, I1, ds, rfl, upd_same, ni, nm, st, rs, S.mono _ _ _ _ _ _ (fun en q => ⟨q.1.1, fun I2 H2 s2 hd2 => ⟨rfl, ?_⟩⟩) (fun ex q cls d I2 H2 s2 rv => ?_) (q1 a)⟩
    · obtain ⟨⟨hk, fs, r, rfl, hlk⟩, q⟩ := q
      have sB := s1.trans (back I2 H2 s2)
      have A2 := A.step sB
      obtain ⟨p0, o0, e0, w0⟩ := hd2.at_ (.ownO a C fs) (by simp)
      cases e0
      have w0r := w0.rep
      obtain ⟨dx', ws, rfl, kk, r0⟩ := w0r
      refine ⟨_, dx', ws, rfl, w0.hp, lookup_none (K := X.K) (I := I2) kk hlk, rdA_next ha'.mono A2 q fun ds' vs' I3 H3 q3 s3 rs' => ?_⟩
      -- the object and what it holds, seen from the call
      have at3 : ∀ e ∈ (Ent.ownO a C fs :: r), ∃ p o, e.adr = some p ∧ H3 p = some o ∧ OwnRep X.K I3 e o ∧ I3 p = none ∧ ¬ F.W.mv p ∧ H p = none := fun e he => by
        obtain ⟨p, o, ep, w⟩ := hd2.at_ e he
        refine ⟨p, o, ep, s3.h _ _ w.hp w.nm, w.rep.mono s3.i, s3.new _ _ w.hp w.ni, w.nm, ?_⟩
        cases z : H p with
        | none => rfl
        | some u =>
          have h1 : H1 p = some u := s1.h _ _ z w.nm
          have hne : p ≠ a := ne_of_none h1 hz
          have hnd : p ≠ dx := ne_of_none h1 hd
          have nb : dropA (upd (upd H1 dx (.own a)) a (.ins C dx [])) a p = none := w.nb
          rw [dropA_ne hne, upd_ne hne, upd_ne hnd, h1] at nb
          cases nb
      have hd3 : Held ⟨F.W, hideL H3 (adrs (Ent.ownO a C fs :: r)), I3⟩ X.K I3 H3 (Ent.ownO a C fs :: r) := ⟨hd2.nd, fun e he => by
        obtain ⟨p, o, ep, c1, c2, c3, c4, _⟩ := at3 e he
        exact ⟨p, o, ep, c1, c2, c3, c4, hideL_in (mem_adrs.mpr ⟨e, he, ep⟩), fun q h => by rw [ep] at h; exact Option.some.inj h⟩⟩
      have hH : ∀ p ∈ adrs (Ent.ownO a C fs :: r), H p = none := fun p hp => by
        obtain ⟨e, he, ep⟩ := mem_adrs.mp hp
        obtain ⟨p', o, ep', _, _, _, _, c5⟩ := at3 e he
        rw [ep] at ep'
        cases ep'
        exact c5
      have sC : Stp F.W I H I3 H3 := sB.trans s3
      refine ⟨I3, _, _, sC.st, .cons (.opq _) rs', hd3, S'.mono _ _ _ _ _ _ (fun d en' q hmm v I' H' s' hd' rv => q hmm v I' H' (sC.backL hH s') rv) (fun x hx => ?_) q3⟩
      intro cls dd I' H' s' er
      exact le x hx cls dd I' H' (A.stp.trans (sC.backL hH s')) er
    · exact le ex q cls d I2 H2 ((A.stp.trans s1).trans (back I2 H2 s2)) rv
  · subst ex
    obtain rfl : u = Value.ref a := rx
    refine getmeth_ok J1 ea cl hm' l ?_
    refine PySem.W.callWith_K (first := [.ref a]) (h₀ := X.base) J.ok.mod.kin hm'.kp (thn (ha'.run.run pos pins s1 σ H1 _ J1 q) fun us s2 ⟨vs, H2, J2, r, q2⟩ => ⟨J2.kIn, ?_⟩) hst hpl'
    exact gn_pos (us := .ref a :: us) (vs := .ref a :: vs) G' (hr.mono (Nat.le_succ _)) hb' .nil hx J2 (.cons rfl r) (by simpa using q2)
end
end Dk
namespace Dk
open PySem L2
section
variable {F : Fx} {X : Cx} {a b e : Expr} {ta tb ts : DTS2} {x : Str} {pos pos' : Pos}
theorem des_add (ha : DES F X a ta) (hb : DES F X b tb) : DES F X (.BinOp a .Add b pos) (fun ρ Q => ta ρ fun x ρ1 => tb ρ1 fun y ρ2 => addD x y fun d => Q d ρ2) := des_op mono_add or_add lf_add ha hb
variable {K : PySem.W.Frag} {o : Expr} {es : List Expr} {to : DT} {t : DAT} {kt : Nat} {p2 : Pos}
end
end Dk
namespace Dk
open PySem L2
end Dk
namespace Dk
open PySem L2
section
variable {F : Fx} {X : Cx} {o e : Expr} {to te : DT} {ts : DTS2} {f : Str} {C : Addr} {tpos pos pos' : Pos}
/-- o.f += e, numbers -/
theorem ds_addF (j : Nat) (cl : Cls X.K C) (n : NoAttr X.K C f) (ho : DE F X o to) (he : DE F X e te) :
    DSt F X (.AugAssign (.Attribute o f tpos) .Add e pos) (fun Z ρ => to ρ fun x => heldO ρ j C x fun q fs => ∃ i : Int, fs.lookup f = some (.int i) ∧ fs.length < 999 ∧ te ρ fun y => ∃ k : Int, y = .int k ∧ Z.nx (ρ.set j (some (.ownO q C (putFD f (.int (i + k)) fs))))) := by
  refine ⟨fun Z Z' ρ l q => ho.mono _ _ _ (fun x ⟨q0, fs, e, h, i, a, b, q⟩ => ⟨q0, fs, e, h, i, a, b, he.mono _ _ _ (fun y ⟨k, e, q⟩ => ⟨k, e, l.nx _ q⟩) q⟩) q, (ps_fldaug ho.run he.run in_add).imp fun Z σ H ⟨I, ρ, A, q⟩ => ?_⟩
  refine rdE_next ho.mono A q fun x u I1 H1 q1 s1 rx => ?_
  obtain ⟨q0, fs, rfl, hj, i, hlk, hl, q1⟩ := q1
  cases rx
  have A1 := A.step s1
  obtain ⟨p, ob, h1, w, _⟩ := A1.turnOwn hj trivial
  obtain rfl : p = q0 := w.ad _ rfl
  obtain ⟨dx, ws, rfl, kk, r⟩ := w.rep
  obtain ⟨v, b1, b2⟩ := lookup_rep kk r hlk
  cases b2
  refine ⟨_, C, dx, ws, _, rfl, w.hp, cl, n, b1, rdE_next he.mono A1 q1 fun y u I2 H2 q2 s2 ry => ?_⟩
  obtain ⟨k, rfl, q2⟩ := q2
  cases ry
  obtain ⟨p', ob', h1', w', turn⟩ := (A1.step s2).turnOwn hj trivial
  obtain rfl : p' = p := w'.ad _ rfl
  obtain ⟨dx', ws', rfl, kk', r'⟩ := w'.rep
  obtain ⟨a1, a2⟩ := putF_rep (f := f) (Rep.int (K := X.K) (I := I2) (i + k)) kk' r'
  have ll : ws'.length = fs.length := by simpa using congrArg List.length kk'
  refine ⟨i, k, rfl, rfl, dx', ws', w'.hp, by omega, q2 I2 σ _ (Same.trans s1.i s2.i) (turn (.ownO p' C (putFD f (.int (i + k)) fs)) _ ⟨dx', _, rfl, a1, a2⟩ fun q h => ?_)⟩
  cases h
  rfl
end
end Dk
namespace Dk
open PySem L2
open PyProof.Rows (envOfC)
end Dk
namespace Dk
open PySem L2
end Dk
namespace Dk
open PySem L2
end Dk
namespace Dk
open PySem L2
inductive Prs (F : Fx) (K : PySem.W.Frag) (H0 I H : Hp) : List (D × List D) → List Addr → List V → Prop
  | nil : Prs F K H0 I H [] [] []
  | cons {t q : Addr} {v : V} {d : D} {ds : List D} {us : List V} {ps : List (D × List D)} {qs : List Addr} {ws : List V} : I t = some (.tup [v, .ref q]) → Rep K I v d → H q = some (.lst us) → Reps K I us ds → I q = none → ¬ F.W.mv q → H0 q = none → Prs F K H0 I H ps qs ws → Prs F K H0 I H ((d, ds) :: ps) (q :: qs) (.ref t :: ws)
section
variable {F : Fx} {K : PySem.W.Frag} {H0 I H I' H' : Hp} {ps ps' : List (D × List D)} {qs qs' : List Addr} {ws ws' : List V}
theorem Prs.step (h : Prs F K H0 I H ps qs ws) (s : Stp F.W I H I' H') : Prs F K H0 I' H' ps qs ws := by
  induction h with
  | nil => exact .nil
  | cons a b c d e f g _ ih => exact .cons (s.i _ _ a) (b.mono s.i) (s.h _ _ c f) (d.mono s.i) (s.new _ _ c e) f g ih
theorem Prs.write (h : Prs F K H0 I H ps qs ws) {E : Addr} {o : HO} (hE : E ∉ qs) : Prs F K H0 I (upd H E o) ps qs ws := by
  induction h with
  | nil => exact .nil
  | cons a b c d e f g _ ih => exact .cons a b (by rw [upd_ne fun z => hE (by simp [z])]; exact c) d e f g (ih fun z => hE (List.mem_cons_of_mem _ z))
theorem Prs.append (h : Prs F K H0 I H ps qs ws) (h' : Prs F K H0 I H ps' qs' ws') : Prs F K H0 I H (ps ++ ps') (qs ++ qs') (ws ++ ws') := by
  induction h with
  | nil => exact h'
  | cons a b c d e f g _ ih => exact .cons a b c d e f g ih
theorem Prs.len (h : Prs F K H0 I H ps qs ws) : ps.length = qs.length ∧ ws.length = qs.length := by
  induction h with
  | nil => exact ⟨rfl, rfl⟩
  | cons _ _ _ _ _ _ _ _ ih => simp [ih]
theorem Prs.some (h : Prs F K H0 I H ps qs ws) : ∀ q ∈ qs, ∃ us, H q = Option.some (.lst us) := by
  induction h with
  | nil => intro q hq; simp at hq
  | cons a b c d e f g _ ih =>
    intro q hq
    rcases List.mem_cons.mp hq with rfl | hq
    · exact ⟨_, c⟩
    · exact ih q hq
end
/-- a list, a dict -/
def Mut (o : HO) : Prop := (∃ vs, o = .lst vs) ∨ ∃ kvs, o = .dK kvs
theorem Mut.noext {o : HO} (m : Mut o) : ∀ φ, o ≠ .ext φ := fun φ z => by
  rcases m with ⟨_, e⟩ | ⟨_, e⟩ <;> rw [z] at e <;> cases e
end Dk
namespace Dk
open PySem L2
end Dk
namespace Dk
open PySem L2
/-- the inner list of slot g, where there is one, goes into the dict of slot i -/
def sinkR (i g : Nat) (t : DEnv → Prop) (ρ : DEnv) : Prop := t ρ ∨ ∃ n kvs k q xs, ρ[i]? = some (some (.ownD kvs)) ∧ ρ[g]? = some (some (.ownL q xs)) ∧ kvs[n]? = some (k, .opq q) ∧ t ((ρ.set g (some (.dat (.lst xs)))).set i (some (.ownD (kvs.set n (k, .lst xs)))))
theorem sinkR.of {i g : Nat} {t : DEnv → Prop} {ρ : DEnv} (P : DEnv → Prop) (h : ∀ ρ', P ρ' → t ρ') (hc : sinkR i g P ρ) : sinkR i g t ρ :=
  hc.imp (h _) fun ⟨n, kvs, k, q, xs, a, b, c, d⟩ => ⟨n, kvs, k, q, xs, a, b, c, h _ d⟩
end Dk
namespace Dk
open PySem L2
end Dk
namespace Dk
open PySem L2
end Dk
namespace Dk
open PySem L2
def dictPD : List D → (D → Prop) → Prop
  | [.lst xs], Q => ∃ kvs : List (Key × D), xs = kvs.map (fun kv => D.tup [keyD kv.1, kv.2]) ∧ (kvs.map (·.1)).Nodup ∧ Q (.dic kvs)
  | _, _ => False
theorem mono_dictPD : MonoN dictPD := by
  intro ds Q Q' k h
  unfold dictPD at h ⊢
  split at h
  · obtain ⟨kvs, a, b, q⟩ := h
    exact ⟨kvs, a, b, k _ q⟩
  · exact h.elim
theorem pairs_of {K : PySem.W.Frag} {I H : Hp} (st : Same I H) : ∀ {kvs : List (Key × D)} {vs : List V}, Reps K I vs (kvs.map fun kv => D.tup [keyD kv.1, kv.2]) →
    ∃ (ps : List Addr) (us : List (Key × V)), vs = ps.map V.ref ∧ Paired (fun p kv => SqT K H p [kV kv.1, kv.2]) ps us ∧ us.map (·.1) = kvs.map (·.1) ∧ Reps K I (us.map (·.2)) (kvs.map (·.2))
  | [], vs, r => by
    cases r
    exact ⟨[], [], rfl, .nil, rfl, .nil⟩
  | kv :: kvs, vs, r => by
    cases r with
    | cons r rs =>
      obtain ⟨ps, us, rfl, p, e, r2⟩ := pairs_of st rs
      cases r with
      | @tup a ws _ ha hr =>
        obtain ⟨v1, v2, rfl, h1, h2⟩ := hr.two
        obtain rfl := keyD_rep h1
        exact ⟨a :: ps, (kv.1, v2) :: us, rfl, .cons (Same.seqT st ha) p, by rw [List.map_cons, List.map_cons, e], .cons h2 r2⟩
section
variable {F : Fx} {X : Cx} {K : PySem.W.Frag} {e : Expr} {t : DAT} {p pos : Pos}
theorem lc_dictP : LiftC F K (fun xs H Q => ∃ (a : Addr) (ps : List Addr) (kvs : List (Key × V)), xs = [.ref a] ∧ SqL K H a (ps.map V.ref) ∧ Paired (fun p kv => SqT K H p [kV kv.1, kv.2]) ps kvs ∧
    ∀ p, H p = none → Q (.ref p) (upd H p (.dK (mergeK [] kvs)))) dictPD := by
  intro vs ds I H Q st rs h
  unfold dictPD at h
  split at h
  · obtain ⟨kvs, rfl, nd, q⟩ := h
    obtain ⟨v, rfl, r⟩ := rs.one
    cases r with
    | @lst a zs es ha hr =>
      obtain ⟨ps, us, rfl, pp, ek, r2⟩ := pairs_of st.sub hr
      refine ⟨a, ps, us, rfl, .of (st.sub _ _ ha), pp, fun z hz => ?_⟩
      have em : mergeK [] us = us := by
        have := mergeK_nodup (more := us) (acc := []) (by rw [List.nil_append, ek]; exact nd)
        rw [mergeK]; simpa using this
      rw [em]
      have l := st.laid hz (.dK us)
      exact q _ _ _ l (.dic upd_same ek (r2.mono l.i))
  · exact h.elim
theorem de_dictP (hc : X.calm = true) (hm : X.mg "dict" = none) (ha : DA F X [e] t) (hg : Gl X "dict" := by rfl) (he : starEach [e] X.env = (false, eval e X.env) :: starEach [] X.env := by rfl) : DE F X (.Call (.Name "dict" p) [e] [] pos) (fun ρ Q => t ρ fun ds => dictPD ds Q) :=
  de_callT mono_dictPD lc_dictP (call_dictP hc) hm (by decide +kernel) ha hg (by decide) (by decide) he rfl
end
end Dk
namespace Tre
open PySem PySem.SeqAt PySem.W PyProof.Rows
open PySem.AutoSeq1 (wpAny_loadPart')
open PySem.MeetsSeq PySem.MeetsSeq2 PySem.MeetsSeq3 PySem.SeqRoads2
mutual
/-- comparable up to the first place that differs -/
def cmpU : PyData → PyData → Bool
  | .int _, .int _ => true
  | .str _, .str _ => true
  | .tuple xs, .tuple ys => cmpUs xs ys
  | _, _ => false
def cmpUs : List PyData → List PyData → Bool
  | x :: xs, y :: ys => cmpU x y && (!PyData.eqv x y || cmpUs xs ys)
  | [], _ => true
  | _ :: _, [] => true
end
theorem cmp_head {x y : PyData} {xs ys : List PyData} (h : cmpUs (x :: xs) (y :: ys) = true) : cmpU x y = true := by
  rw [cmpUs, Bool.and_eq_true] at h
  exact h.1
theorem cmp_tail {x y : PyData} {xs ys : List PyData} (h : cmpUs (x :: xs) (y :: ys) = true) (e : PyData.eqv x y = true) : cmpUs xs ys = true := by
  rw [cmpUs, Bool.and_eq_true, e] at h
  simpa using h.2
theorem cmp_tup {xs ys : List PyData} : cmpU (.tuple xs) (.tuple ys) = cmpUs xs ys := by rw [cmpU]
end Tre
namespace Tre
open PySem PySem.SeqAt PySem.W PyProof.Rows Srt SrtO
/-- the order of what reads as data -/
def ltD (dat : Value → PyData) (u v : Value) : Bool := dataLt (dat u) (dat v)
section
variable {prog : Program} {w : World} {A : Around} {E : Value → Shared → Prop} {s : Shared}
/-- rows that may be sorted -/
structure KeysU (h : Heap) (A : Around) (vs : List Value) (dat : Value → PyData) (T : Value) : Prop where
  rd : ∀ v, v ∈ vs → ∃ as, Reads h v (dat v) as
  tup : ∀ v, v ∈ vs → ∃ x r, dat v = .tuple (x :: r) ∧ dataType x = T
  nt : (T != Value.type "tuple") = true
  tt : (T == T) = true
  cmp : ∀ v, v ∈ vs → ∀ u, u ∈ vs → cmpU (dat v) (dat u) = true
  lay : ∀ v, v ∈ vs → (dat v).canLay0 = true
  rm : ∀ v, v ∈ vs → A.units + (dat v).depth < cLine
theorem KeysU.keeps {h h' : Heap} {vs : List Value} {dat : Value → PyData} {T : Value} (K : KeysU h A vs dat T) (k : ∀ b o, h.get? b = some o → h'.get? b = some o) : KeysU h' A vs dat T :=
  ⟨fun v hv => let ⟨as, r⟩ := K.rd v hv; ⟨as, PyProof.Rows.Reads.keeps k r⟩, K.tup, K.nt, K.tt, K.cmp, K.lay, K.rm⟩
theorem each_dat {h : Heap} {dat : Value → PyData} : ∀ {vs : List Value}, (∀ v, v ∈ vs → ∃ as, Reads h v (dat v) as) → EachIs (fun v d => ∃ as, Reads h v d as) vs (vs.map dat)
  | [], _ => .nil
  | v :: vs, k => .cons (k v (List.mem_cons_self ..)) (each_dat fun u hu => k u (List.mem_cons_of_mem _ hu))
theorem KeysU.kind {vs : List Value} {dat : Value → PyData} {T : Value} {Q : SortKind → Shared → Prop} (K : KeysU s.heap A vs dat T) (h2 : 0 < vs.length) (hq : Q (tuples' true) s) : wpAny (model prog w) A (keyKind' vs.toArray) Q E s := by
  obtain ⟨fs, t1, t2, t3⟩ := each_katTups (each_dat K.rd) fun d hd => by
    obtain ⟨v, hv, rfl⟩ := List.mem_map.mp hd
    obtain ⟨x, r, e, _⟩ := K.tup v hv
    exact ⟨x, r, e⟩
  refine kat_kind (T := T) t1 (by omega) (fun f hf => ?_) K.tt (by rw [K.nt]; exact hq)
  obtain ⟨x, r, as, m1, m2⟩ := t3 f hf
  obtain ⟨v, hv, e⟩ := List.mem_map.mp m1
  obtain ⟨x', r', e', tx⟩ := K.tup v hv
  rw [e'] at e
  injection e with e
  obtain ⟨rfl, rfl⟩ := List.cons.inj e
  rw [← tx]
  exact looks_reads m2
end
end Tre
namespace Tre
open PySem PySem.SeqAt PySem.W PyProof.Rows Srt SrtO
mutual
theorem eqvU : ∀ d : PyData, cmpU d d = true → PyData.eqv d d = true
  | .int _, _ => by simp [PyData.eqv]
  | .str _, _ => by simp [PyData.eqv]
  | .tuple xs, h => by rw [cmp_tup] at h; rw [PyData.eqv]; exact eqvUs xs h
  | .none, h => absurd h (by simp [cmpU])
  | .bool _, h => absurd h (by simp [cmpU])
  | .list _, h => absurd h (by simp [cmpU])
  | .dict _, h => absurd h (by simp [cmpU])
theorem eqvUs : ∀ xs : List PyData, cmpUs xs xs = true → PyData.eqvAll xs xs = true
  | [], _ => by simp [PyData.eqvAll]
  | x :: xs, h => by
    have e := eqvU x (cmp_head h)
    rw [eqv_all_cons, e, eqvUs xs (cmp_tail h e)]
    rfl
end
mutual
theorem uniqU {h : Heap} : ∀ (d d' : PyData) (v : Value) (as as' : List Addr), cmpU d d' = true → Reads h v d as → Reads h v d' as' → d = d'
  | .int _, d', _, _, _, c, r, r' => by cases r; cases r'; rfl
  | .str _, d', _, _, _, c, r, r' => by cases r; cases r'; rfl
  | .tuple xs, d', _, _, _, c, r, r' => by
    cases r with
    | tuple h1 h2 h3 h4 =>
      cases r' with
      | tuple k1 k2 k3 k4 =>
        rw [h1] at k1; cases k1
        rw [h3] at k3; cases k3
        rw [cmp_tup] at c
        rw [uniqUs xs _ _ _ _ c h4 k4]
      | list k1 k2 k3 k4 => exact absurd c (by simp [cmpU])
      | dict k1 k2 k3 k4 k5 => exact absurd c (by simp [cmpU])
  | .none, d', _, _, _, c, _, _ => absurd c (by cases d' <;> simp [cmpU])
  | .bool _, d', _, _, _, c, _, _ => absurd c (by cases d' <;> simp [cmpU])
  | .list _, d', _, _, _, c, _, _ => absurd c (by cases d' <;> simp [cmpU])
  | .dict _, d', _, _, _, c, _, _ => absurd c (by cases d' <;> simp [cmpU])
theorem uniqUs {h : Heap} : ∀ (xs ys : List PyData) (vs : List Value) (as as' : List Addr), cmpUs xs ys = true → ReadsAll h vs xs as → ReadsAll h vs ys as' → xs = ys
  | [], _, _, _, _, _, r, r' => by cases r; cases r'; rfl
  | x :: xs, [], _, _, _, _, r, r' => by cases r'; cases r
  | x :: xs, y :: ys, _, _, _, c, r, r' => by
    cases r with
    | cons h1 h2 =>
      cases r' with
      | cons k1 k2 =>
        have c1 := cmp_head c
        have e := uniqU x y _ _ _ c1 h1 k1
        subst e
        rw [uniqUs xs ys _ _ _ (cmp_tail c (eqvU x c1)) h2 k2]
end
/-- what a value reads as, among some data -/
noncomputable def datOf (h : Heap) (ds : List PyData) (v : Value) : PyData := open Classical in if q : ∃ d, d ∈ ds ∧ ∃ as, Reads h v d as then q.choose else .none
theorem datOf_eq {h : Heap} {ds : List PyData} (hc : ∀ d, d ∈ ds → ∀ d', d' ∈ ds → cmpU d d' = true) {v : Value} {d : PyData} {as : List Addr} (hd : d ∈ ds) (r : Reads h v d as) : datOf h ds v = d := by
  have q : ∃ d, d ∈ ds ∧ ∃ as, Reads h v d as := ⟨d, hd, as, r⟩
  unfold datOf
  rw [dif_pos q]
  obtain ⟨h1, as', h2⟩ := q.choose_spec
  exact uniqU _ _ _ _ _ (hc _ h1 _ hd) h2 r
/-- rows that may be sorted -/
structure RowsU (ds : List PyData) : Prop where
  ty : ∃ T : Value, (T != Value.type "tuple") = true ∧ (T == T) = true ∧ ∀ d, d ∈ ds → ∃ x r, d = .tuple (x :: r) ∧ dataType x = T
  cmp : ∀ d, d ∈ ds → ∀ d', d' ∈ ds → cmpU d d' = true
  lay : ∀ d, d ∈ ds → d.canLay0 = true
theorem RowsU.keys {h : Heap} {A : Around} {vs : List Value} {ds : List PyData} (R : RowsU ds) (e : EachIs (fun v d => ∃ as, Reads h v d as) vs ds) (rm : ∀ d, d ∈ ds → A.units + d.depth < cLine) : ∃ T, KeysU h A vs (datOf h ds) T := by
  obtain ⟨T, t1, t2, t3⟩ := R.ty
  have one : ∀ v, v ∈ vs → ∃ d as, d ∈ ds ∧ Reads h v d as ∧ datOf h ds v = d := fun v hv => by
    obtain ⟨d, hd, as, r⟩ := e.left v hv
    exact ⟨d, as, hd, r, datOf_eq R.cmp hd r⟩
  refine ⟨T, fun v hv => ?_, fun v hv => ?_, t1, t2, fun v hv u hu => ?_, fun v hv => ?_, fun v hv => ?_⟩
  · obtain ⟨d, as, hd, r, e⟩ := one v hv
    exact ⟨as, e ▸ r⟩
  · obtain ⟨d, as, hd, r, e⟩ := one v hv
    obtain ⟨x, rr, ex, tx⟩ := t3 d hd
    exact ⟨x, rr, e.trans ex, tx⟩
  · obtain ⟨d, as, hd, r, e⟩ := one v hv
    obtain ⟨d', as', hd', r', e'⟩ := one u hu
    rw [e, e']
    exact R.cmp d hd d' hd'
  · obtain ⟨d, as, hd, r, e⟩ := one v hv
    rw [e]
    exact R.lay d hd
  · obtain ⟨d, as, hd, r, e⟩ := one v hv
    rw [e]
    exact rm d hd
end Tre
namespace Dk
open PySem L2 Tre
end Dk
namespace Dk
open PySem L2 Tre
open PyProof.Rows Srt SrtO
/-- just this object stands at b -/
def isO (b : Addr) (o : Obj) : HO := .ext fun h => h.get? b = some o
theorem isO_ok {P : Program} {w : World} {H : Hp} {h : Heap} {b : Addr} {o : Obj} (e : h.get? b = some o) : ObjOk P w H h b (isO b o) := ⟨e, ⟨_, e⟩, fun h1 h2 p k => k _ p⟩
theorem isO_at {X : Cx} {pins : List (Addr × Obj)} {σ : L2.St} {H : Hp} {s : Shared} {b : Addr} {o : Obj} (J : L2.Inv X pins σ H s) (e : H b = some (isO b o)) : s.heap.get? b = some o := by
  obtain ⟨h, _, _⟩ := J.hok b _ e
  exact h
theorem isO_set {X : Cx} {pins : List (Addr × Obj)} {σ : L2.St} {H : Hp} {s : Shared} {b : Addr} {o o' : Obj} {h' : Heap} {t' : Nat} (J : L2.Inv X pins σ H s) (e : H b = some (isO b o)) (k : ∀ c u, c ≠ b → s.heap.get? c = some u → h'.get? c = some u) (e' : h'.get? b = some o') : L2.Inv X pins σ (upd H b (isO b o')) { s with heap := h', toks := t' } :=
  J.write (x := b) (e := b) (by rw [e]; exact trivial) (.inl rfl) k ⟨_, e'⟩ (isO_ok e')
end Dk
namespace Dk
open PySem L2
open PyProof.Rows (envOfC)
theorem Rm.in1 {k : Nat} {A : Around} (r : Rm (k + 1) A) : Rm k A.in1 := ⟨r.room.in1, r.gd⟩
end Dk
namespace Dk
open PySem L2 LamX
/-- the table at P: each code object that it tells stands still, and bears the name q -/
def TabI (I H : Hp) (P : Addr) (q : Str) : Prop := ∃ ps : Array Value, H P = some (.tbl ps) ∧ TriplesOk ps.toList ∧ ∀ (pos : Pos) (cv : Value), codeAmong pos ps.toList = some cv → ∃ c, cv = .ref c ∧ I c = some (CodeO c q)
theorem TabI.keep {I H I' H' : Hp} {P : Addr} {q : Str} (t : TabI I H P q) (s : SameX I I') (e : H' P = H P) : TabI I' H' P q := by
  obtain ⟨ps, h1, h2, h3⟩ := t
  refine ⟨ps, e.trans h1, h2, fun pos cv hc => ?_⟩
  obtain ⟨c, e1, e2⟩ := h3 pos cv hc
  exact ⟨c, e1, s _ _ e2⟩
theorem TabI.nil {I H : Hp} {P : Addr} {q : Str} (h : H P = some (.tbl #[])) : TabI I H P q := ⟨#[], h, True.intro, fun pos cv hc => by
  have z : codeAmong pos [] = some cv := hc
  simp [codeAmong] at z⟩
end Dk
namespace Dk
open PySem L2 NdefX LamX
end Dk
namespace Dk
open PySem L2 NdefX LamX
open PyProof.Rows (seqObj listItems_at listUpdate_at get?_update_seq)
end Dk
namespace Dk
open PySem L2 NdefX LamX
open PyProof.Rows (envOfC)
/-- a def of the text, its defaults dV, its code at c -/
structure FunV (K : PySem.W.Frag) (x qual : Str) (st : Stmt) (f : Addr) (fd : FuncData) (dV : Value) (c : Addr) : Prop where
  ex : ∃ (oc : Value) (od : Option Addr) (kV doc pm : Value) (an : Option Addr) (ct : Value) (osl : Array (Option Value)),
    fd = PySem.W.fnOf x qual (defArgs st) (defBody st) (defScope st) dV kV doc pm an (.ref c) ct ∧ K.lookup f = some ⟨oc, od, .func fd, osl⟩ ∧ PySem.W.codeIn K (.ref c) qual = true
  kp : PySem.W.keepIn K (.ref f) = true
section
variable {P : Program} {w : World} {K : PySem.W.Frag} {mg : Str → Option Value} {base : Heap} {dV : Value} {c : Addr}
theorem FunV.okD {W : Wd} {S : DSp} {x qual : Str} {st : Stmt} {f : Addr} {fd : FuncData} {N ps : List Str} {k : Nat} (Fn : FunV K x qual st f fd dV c) (Sc : FnScope N ps (defScope st)) (hn : S.n = ps.length)
    (hbody : ∀ (A : Around) (outer : List Env) (s : Shared) (H I : Hp) (ds : List D) (Q : D → Prop) (Ed : Ex → Prop) (E : XK), Rm k (A.deeper (envOfC qual (defScope st) s.heap.objs.size f (.ref c))) → S.f ds Q Ed →
      ∃ t, DSts ⟨W, H, I⟩ (cxOf CX0 P w K mg base N qual (defScope st) f (.ref c) A outer s H E).nox (defBody st) t ∧ t (defEnds Q) (startD N ds)) : GnOk P w K mg base CX0 (k + 1) f fd ps (spD W K S) := by
  obtain ⟨oc, od, kV, doc, pm, an, ct, osl, rfl, lk, hcd⟩ := Fn.ex
  refine gn_of lk hcd Sc (fun vs H Q E h => (spD_len _ _ _ _ h).trans hn) fun A outer s H vs Q E hr ⟨I, ds, si, r, h⟩ => ?_
  obtain ⟨t, h1, h2⟩ := hbody A outer s H I ds _ _ E hr h
  exact ⟨_, h1.run.nox, body_run rfl h1 si r h2⟩
/-- how it is called: the arguments us, behind them its own defaults from the j-th on -/
theorem FunV.binds {x qual : Str} {st : Stmt} {f T : Addr} {o : Obj} {its : List Value} {m n j : Nat} {fd : FuncData} {ps : List Str} (Fn : FunV K x qual st f fd (.ref T) c) (lT : K.lookup T = some o) (oT : o.data = .seq its.toArray m) (hn : n + (its.length - j) = ps.length)
    (h : ∀ (T : Addr) (kV doc pm : Value) (an : Option Addr) (cdv ct : Value) (us js : List Value), us.length = n → js.length = its.length → ∃ k, bindArgs (PySem.W.fnOf x qual (defArgs st) (defBody st) (defScope st) (.ref T) kV doc pm an cdv ct) ⟨us, []⟩ = seqItems? (.ref T) >>= k ∧ k (some js.toArray) = pure (ps.zip (us ++ js.drop j))) : Binds K fd ps (its.drop j) := by
  obtain ⟨oc, od, kV, doc, pm, an, ct, osl, rfl, lk, hcd⟩ := Fn.ex
  refine fun s us X hlen => ?_
  have l2 : us.length = n := by
    rw [List.length_append, List.length_drop] at hlen
    omega
  obtain ⟨k, e1, e2⟩ := h T kV doc pm an (.ref c) ct us its l2 rfl
  refine BindsTo.of_looks fun M => ?_
  rw [e1]
  exact looks_items X lT oT (.of_pure e2)
end
end Dk
namespace Dk
open PySem L2
end Dk
namespace Dk
open PySem L2
/-- asked of the head: what stands for the keyword x of the def at f -/
def kwdI (K : PySem.W.Frag) (f : Addr) (x : Str) (i : Int) : Bool := match K.lookup f with
  | some ⟨_, _, .func fd, _⟩ => (match fd.kwdefaults with
    | .ref D => (match PySem.W.nsIn K D x with
      | some (some (.int j _)) => decide (j = i)
      | _ => false)
    | _ => false)
  | _ => false
structure CalKd (P : Program) (w : World) (K : PySem.W.Frag) (mg : Str → Option Value) (base : Heap) (CX : CXT) (W : Wd) (k : Nat) (x : Str) (ps : List Str) (i : Int) (S : DSp) : Prop where
  ex : ∃ f fd u, GnOk P w K mg base CX k f fd ps (spD W K S) ∧ mg x = some (.ref f) ∧ PySem.W.keepIn K (.ref f) = true ∧ Binds K fd ps [u] ∧ RelV (.int i) u
section
variable {F : Fx} {X : Cx} {CX : CXT} {k : Nat} {x : Str} {ps : List Str} {i : Int} {S : DSp} {E : XK} {p pos : Pos} {e : Expr} {es : List Expr} {t : DAT} {Ed : Ex → Prop}
theorem de_fnKd (C : CalKd X.prog X.w X.K X.mg X.base CX F.W k x ps i S) (hr : Rm k X.A) (hx : Passes CX X E) (le : Lets F X.K Ed E) (ha : DA F X (e :: es) t)
    (hg : Gl X x := by rfl) (hdb : (x == ("__debug__" : Str)) = false := by decide) (he : starEach (e :: es) X.env = (false, eval e X.env) :: starEach es X.env := by rfl) (hpl : (backTo pos (starEach es X.env)).any (·.1) = false := by rfl) :
    DE F X (.Call (.Name x p) (e :: es) [] pos) (fun ρ Q => t ρ fun ds => S.f (ds ++ [.int i]) Q Ed) := by
  obtain ⟨f, fd, u, h1, h2, h3, h4, h5⟩ := C.ex
  refine ⟨fun ρ Q Q' k h => ha.mono _ _ _ (fun d h => S.mono _ _ _ _ _ k (fun _ h => h) h) h, (gn_call h1 hr hg h2 h3 h4 (show Vals [V.int i] [u] from .cons h5 .nil) hx ha.run hdb he hpl).imp fun σ H Q ⟨I, ρ, A, h⟩ => ?_⟩
  show rdA F X.K t σ H fun vs H1 => spD F.W X.K S (vs ++ [.int i]) H1 Q E
  refine rdA_next ha.mono A h fun ds vs I' H' p s rs => ?_
  exact ⟨I', ds ++ [.int i], s.st, rs.append (.cons (.int _) .nil), S.mono _ _ _ _ _ (fun d q v I2 H2 s2 rv => q v I2 H2 (s.trans s2) rv) (le I' H' (A.stp.trans s)) p⟩
end
/-- what binds the arguments us and the keyword's own value -/
theorem Fun.bindsK {K : PySem.W.Frag} {x qual y : Str} {st : Stmt} {f : Addr} {fd : FuncData} {ps : List Str} {n : Nat} {i : Int} (Fn : Fun K x qual st f fd) (kw : kwdI K f y i = true) (hn : n + 1 = ps.length)
    (h : ∀ (D : Addr) (doc pm : Value) (an : Option Addr) (cdv ct u : Value) (us : List Value), us.length = n → KwChain D [(y, u)] (bindArgs (PySem.W.fnOf x qual (defArgs st) (defBody st) (defScope st) .none (.ref D) doc pm an cdv ct) ⟨us, []⟩) (ps.zip (us ++ [u]))) : ∃ u, Binds K fd ps [u] ∧ RelV (.int i) u := by
  obtain ⟨oc, od, kV, doc, pm, an, cdv, ct, osl, rfl, lk, hcd⟩ := Fn.ex
  unfold kwdI at kw
  rw [lk] at kw
  have kw : (match (generalizing := false) kV with
    | .ref D => (match PySem.W.nsIn K D y with
      | some (some (.int j _)) => decide (j = i)
      | _ => false)
    | _ => false) = true := kw
  cases kV with
  | ref D =>
    have kw : (match (generalizing := false) PySem.W.nsIn K D y with
      | some (some (.int j _)) => decide (j = i)
      | _ => false) = true := kw
    cases e : PySem.W.nsIn K D y with
    | none => rw [e] at kw; cases kw
    | some r =>
      rw [e] at kw
      cases r with
      | none => cases kw
      | some u =>
        cases u with
        | int j ob =>
          have : j = i := of_decide_eq_true kw
          subst this
          refine ⟨.int j ob, fun s us X hlen => BindsTo.of_looks fun M => KwChain.looks X (l := [(y, .int j ob)]) (fun q hq => ?_) (h D doc pm an cdv ct _ us (by rw [List.length_append] at hlen; simp at hlen; omega)), ?_⟩
          · rw [List.mem_singleton.mp hq]; exact e
          · exact ⟨_, rfl⟩
        | _ => cases kw
  | _ => cases kw
end Dk
namespace KB
open PySem L2 Dk PySem.Spec PyProof.Rows
def hTop (i : Nat) : Stmt := PySem.Challenge.pw_dressedkinds_k22_great_numbers.main.body.getD i (.Pass ⟨0, 0, 0, 0⟩)
def hB0 (K : PySem.W.Frag) : Bool := decide ((PySem.W.nsIn K mainGlobals "Book" = some (some (.ref (He.ga K "Book")))) ∧ (PySem.W.nsIn K mainGlobals "Runner" = some (some (.ref (He.ga K "Runner")))) ∧ (PySem.W.nsIn K mainGlobals "is_name" = some (some (.ref (He.fAd K ("is_name", none))))) ∧ (PySem.W.keepIn K (.ref (He.fAd K ("is_name", none))) = true) ∧ (PySem.W.nsIn K mainGlobals "is_bough" = some (some (.ref (He.fAd K ("is_bough", none))))) ∧ (PySem.W.keepIn K (.ref (He.fAd K ("is_bough", none))) = true) ∧ (PySem.W.nsIn K mainGlobals "is_kind" = some (some (.ref (He.fAd K ("is_kind", none))))) ∧ (PySem.W.keepIn K (.ref (He.fAd K ("is_kind", none))) = true) ∧ (PySem.W.nsIn K mainGlobals "are_unlike" = some (some (.ref (He.fAd K ("are_unlike", none))))) ∧ (PySem.W.keepIn K (.ref (He.fAd K ("are_unlike", none))) = true) ∧ (PySem.W.nsIn K mainGlobals "is_kinds" = some (some (.ref (He.fAd K ("is_kinds", none))))) ∧ (PySem.W.keepIn K (.ref (He.fAd K ("is_kinds", none))) = true) ∧ (PySem.W.nsIn K mainGlobals "with_worths" = some (some (.ref (He.fAd K ("with_worths", none))))) ∧ (PySem.W.keepIn K (.ref (He.fAd K ("with_worths", none))) = true) ∧ (PySem.W.findIn K (.ref (He.ga K "Book")) "__init__" = some (some (.ref (He.fAd K ("Book", some "__init__"))))) ∧ (PySem.W.keepIn K (.ref (He.fAd K ("Book", some "__init__"))) = true) ∧ (PySem.W.isFn K (.ref (He.fAd K ("Book", some "__init__"))) = true) ∧ (PySem.W.findIn K (.ref (He.ga K "Book")) "boughs" = some (some (.ref (He.fAd K ("Book", some "boughs"))))) ∧ (PySem.W.keepIn K (.ref (He.fAd K ("Book", some "boughs"))) = true) ∧ (PySem.W.isFn K (.ref (He.fAd K ("Book", some "boughs"))) = true) ∧ (PySem.W.findIn K (.ref (He.ga K "Runner")) "__init__" = some (some (.ref (He.fAd K ("Runner", some "__init__"))))) ∧ (PySem.W.keepIn K (.ref (He.fAd K ("Runner", some "__init__"))) = true) ∧ (PySem.W.isFn K (.ref (He.fAd K ("Runner", some "__init__"))) = true) ∧ (PySem.W.findIn K (.ref (He.ga K "Runner")) "given" = some (some (.ref (He.fAd K ("Runner", some "given"))))) ∧ (PySem.W.keepIn K (.ref (He.fAd K ("Runner", some "given"))) = true))
def hB1 (K : PySem.W.Frag) : Bool := decide ((PySem.W.isFn K (.ref (He.fAd K ("Runner", some "given"))) = true) ∧ (PySem.W.findIn K (.ref (He.ga K "Runner")) "all_given" = some (some (.ref (He.fAd K ("Runner", some "all_given"))))) ∧ (PySem.W.keepIn K (.ref (He.fAd K ("Runner", some "all_given"))) = true) ∧ (PySem.W.isFn K (.ref (He.fAd K ("Runner", some "all_given"))) = true) ∧ (PySem.W.findIn K (.ref (He.ga K "Runner")) "stands_for" = some (some (.ref (He.fAd K ("Runner", some "stands_for"))))) ∧ (PySem.W.keepIn K (.ref (He.fAd K ("Runner", some "stands_for"))) = true) ∧ (PySem.W.isFn K (.ref (He.fAd K ("Runner", some "stands_for"))) = true) ∧ (PySem.W.nsIn K mainGlobals "run" = some (some (.ref (He.fAd K ("run", none))))) ∧ (PySem.W.keepIn K (.ref (He.fAd K ("run", none))) = true) ∧ (PySem.W.nsIn K mainGlobals "_law_deck" = some (some (.ref (He.fAd K ("_law_deck", none))))) ∧ (PySem.W.keepIn K (.ref (He.fAd K ("_law_deck", none))) = true) ∧ (PySem.W.nsIn K mainGlobals "_law_draw" = some (some (.ref (He.fAd K ("_law_draw", none))))) ∧ (PySem.W.keepIn K (.ref (He.fAd K ("_law_draw", none))) = true) ∧ (PySem.W.nsIn K mainGlobals "_law_names" = some (some (.ref (He.fAd K ("_law_names", none))))) ∧ (PySem.W.keepIn K (.ref (He.fAd K ("_law_names", none))) = true) ∧ (PySem.W.nsIn K mainGlobals "_law_number" = some (some (.ref (He.fAd K ("_law_number", none))))) ∧ (PySem.W.keepIn K (.ref (He.fAd K ("_law_number", none))) = true) ∧ (PySem.W.nsIn K mainGlobals "_law_row_of" = some (some (.ref (He.fAd K ("_law_row_of", none))))) ∧ (PySem.W.keepIn K (.ref (He.fAd K ("_law_row_of", none))) = true) ∧ (PySem.W.nsIn K mainGlobals "_law_world" = some (some (.ref (He.fAd K ("_law_world", none))))) ∧ (PySem.W.keepIn K (.ref (He.fAd K ("_law_world", none))) = true) ∧ (PySem.W.nsIn K mainGlobals "_law_fun_of" = some (some (.ref (He.fAd K ("_law_fun_of", none))))) ∧ (PySem.W.keepIn K (.ref (He.fAd K ("_law_fun_of", none))) = true) ∧ (PySem.W.nsIn K mainGlobals "_law_again" = some (some (.ref (He.fAd K ("_law_again", none))))) ∧ (PySem.W.keepIn K (.ref (He.fAd K ("_law_again", none))) = true))
def hB2 (K : PySem.W.Frag) : Bool := decide ((PySem.W.nsIn K mainGlobals "_law_functions" = some (some (.ref (He.fAd K ("_law_functions", none))))) ∧ (PySem.W.keepIn K (.ref (He.fAd K ("_law_functions", none))) = true) ∧ (PySem.W.nsIn K mainGlobals "_law_due" = some (some (.ref (He.fAd K ("_law_due", none))))) ∧ (PySem.W.keepIn K (.ref (He.fAd K ("_law_due", none))) = true) ∧ (PySem.W.nsIn K mainGlobals "_law_right" = some (some (.ref (He.fAd K ("_law_right", none))))) ∧ (PySem.W.keepIn K (.ref (He.fAd K ("_law_right", none))) = true) ∧ (PySem.W.nsIn K mainGlobals "_law_often_right" = some (some (.ref (He.fAd K ("_law_often_right", none))))) ∧ (PySem.W.keepIn K (.ref (He.fAd K ("_law_often_right", none))) = true) ∧ (PySem.W.nsIn K mainGlobals "law" = some (some (.ref (He.fAd K ("law", none))))) ∧ (PySem.W.keepIn K (.ref (He.fAd K ("law", none))) = true) ∧ ((He.Fa.str "LETTERS" "abcdefghijklmnopqrstuvwxyz").ok K = true) ∧ ((He.Fa.int "LONGEST" (8)).ok K = true) ∧ ((He.Fa.str "NUM" "num").ok K = true) ∧ (PySem.W.nsIn K mainGlobals "isinstance" = some none) ∧ (PySem.W.nsIn K mainGlobals "str" = some none) ∧ (PySem.W.nsIn K mainGlobals "tuple" = some none) ∧ (PySem.W.nsIn K mainGlobals "len" = some none) ∧ (PySem.W.nsIn K mainGlobals "all" = some none) ∧ (PySem.W.nsIn K mainGlobals "any" = some none) ∧ (PySem.W.nsIn K mainGlobals "range" = some none) ∧ (PySem.W.nsIn K mainGlobals "sum" = some none) ∧ (PySem.W.nsIn K mainGlobals "min" = some none) ∧ (PySem.W.nsIn K mainGlobals "max" = some none) ∧ (PySem.W.nsIn K mainGlobals "int" = some none) ∧ (PySem.W.nsIn K mainGlobals "repr" = some none))
def hB3 (K : PySem.W.Frag) : Bool := decide ((PySem.W.nsIn K mainGlobals "list" = some none) ∧ (PySem.W.nsIn K mainGlobals "sorted" = some none) ∧ (PySem.W.nsIn K mainGlobals "zip" = some none) ∧ (PySem.W.nsIn K mainGlobals "dict" = some none) ∧ (PySem.W.plainGet K (He.ga K "Book") Str.empty = true) ∧ (PySem.W.hasDictIn K (He.ga K "Book") = true) ∧ (PySem.W.plainOver K (He.ga K "Book") = true) ∧ (PySem.W.findIn K (.ref (He.ga K "Book")) "__setattr__" = some (some (.builtin "object.__setattr__"))) ∧ (PySem.W.makesIn K (He.ga K "Book") = true) ∧ (PySem.W.keepIn K (.ref (He.ga K "Book")) = true) ∧ (PySem.W.findIn K (.ref (He.ga K "Book")) "kinds" = some none) ∧ (PySem.W.findIn K (.ref (He.ga K "Book")) "names_by" = some none) ∧ (PySem.W.findIn K (.ref (He.ga K "Book")) "kinds_by" = some none) ∧ (PySem.W.findIn K (.ref (He.ga K "Book")) "fields_by" = some none) ∧ (PySem.W.plainGet K (He.ga K "Runner") Str.empty = true) ∧ (PySem.W.hasDictIn K (He.ga K "Runner") = true) ∧ (PySem.W.plainOver K (He.ga K "Runner") = true) ∧ (PySem.W.findIn K (.ref (He.ga K "Runner")) "__setattr__" = some (some (.builtin "object.__setattr__"))) ∧ (PySem.W.makesIn K (He.ga K "Runner") = true) ∧ (PySem.W.keepIn K (.ref (He.ga K "Runner")) = true) ∧ (PySem.W.findIn K (.ref (He.ga K "Runner")) "rows_by_bough" = some none) ∧ (PySem.W.findIn K (.ref (He.ga K "Runner")) "most_runs" = some none) ∧ (PySem.W.findIn K (.ref (He.ga K "Runner")) "many_runs" = some none) ∧ (Dk.kwdI K (He.fAd K ("run", none)) "most" 400 = true))
def hBs (K : PySem.W.Frag) : Bool := (hB0 K && (hB1 K && (hB2 K && (hB3 K))))
def hFn : List He.FnD := [⟨("is_name", none), "is_name", "is_name", defArgs (hTop 15), defBody (hTop 15), defScope (hTop 15)⟩, ⟨("is_bough", none), "is_bough", "is_bough", defArgs (hTop 17), defBody (hTop 17), defScope (hTop 17)⟩, ⟨("is_kind", none), "is_kind", "is_kind", defArgs (hTop 18), defBody (hTop 18), defScope (hTop 18)⟩, ⟨("are_unlike", none), "are_unlike", "are_unlike", defArgs (hTop 19), defBody (hTop 19), defScope (hTop 19)⟩, ⟨("is_kinds", none), "is_kinds", "is_kinds", defArgs (hTop 20), defBody (hTop 20), defScope (hTop 20)⟩, ⟨("with_worths", none), "with_worths", "with_worths", defArgs (hTop 21), defBody (hTop 21), defScope (hTop 21)⟩, ⟨("Book", some "__init__"), "__init__", "Book.__init__", defArgs (inClass (hTop 23) 0), defBody (inClass (hTop 23) 0), defScope (inClass (hTop 23) 0)⟩, ⟨("Book", some "boughs"), "boughs", "Book.boughs", defArgs (inClass (hTop 23) 5), defBody (inClass (hTop 23) 5), defScope (inClass (hTop 23) 5)⟩, ⟨("Runner", some "__init__"), "__init__", "Runner.__init__", defArgs (inClass (hTop 10) 0), defBody (inClass (hTop 10) 0), defScope (inClass (hTop 10) 0)⟩, ⟨("Runner", some "given"), "given", "Runner.given", defArgs (inClass (hTop 10) 1), defBody (inClass (hTop 10) 1), defScope (inClass (hTop 10) 1)⟩, ⟨("Runner", some "all_given"), "all_given", "Runner.all_given", defArgs (inClass (hTop 10) 2), defBody (inClass (hTop 10) 2), defScope (inClass (hTop 10) 2)⟩, ⟨("Runner", some "stands_for"), "stands_for", "Runner.stands_for", defArgs (inClass (hTop 10) 3), defBody (inClass (hTop 10) 3), defScope (inClass (hTop 10) 3)⟩, ⟨("run", none), "run", "run", defArgs (hTop 11), defBody (hTop 11), defScope (hTop 11)⟩, ⟨("_law_deck", none), "_law_deck", "_law_deck", defArgs (hTop 25), defBody (hTop 25), defScope (hTop 25)⟩, ⟨("_law_draw", none), "_law_draw", "_law_draw", defArgs (hTop 26), defBody (hTop 26), defScope (hTop 26)⟩, ⟨("_law_names", none), "_law_names", "_law_names", defArgs (hTop 28), defBody (hTop 28), defScope (hTop 28)⟩, ⟨("_law_number", none), "_law_number", "_law_number", defArgs (hTop 29), defBody (hTop 29), defScope (hTop 29)⟩, ⟨("_law_row_of", none), "_law_row_of", "_law_row_of", defArgs (hTop 30), defBody (hTop 30), defScope (hTop 30)⟩, ⟨("_law_world", none), "_law_world", "_law_world", defArgs (hTop 31), defBody (hTop 31), defScope (hTop 31)⟩, ⟨("_law_fun_of", none), "_law_fun_of", "_law_fun_of", defArgs (hTop 32), defBody (hTop 32), defScope (hTop 32)⟩, ⟨("_law_again", none), "_law_again", "_law_again", defArgs (hTop 33), defBody (hTop 33), defScope (hTop 33)⟩, ⟨("_law_functions", none), "_law_functions", "_law_functions", defArgs (hTop 34), defBody (hTop 34), defScope (hTop 34)⟩, ⟨("_law_due", none), "_law_due", "_law_due", defArgs (hTop 35), defBody (hTop 35), defScope (hTop 35)⟩, ⟨("_law_right", none), "_law_right", "_law_right", defArgs (hTop 36), defBody (hTop 36), defScope (hTop 36)⟩, ⟨("_law_often_right", none), "_law_often_right", "_law_often_right", defArgs (hTop 37), defBody (hTop 37), defScope (hTop 37)⟩, ⟨("law", none), "law", "law", defArgs (hTop 38), defBody (hTop 38), defScope (hTop 38)⟩]
def hL0 : List PySem.Str := ["_wall", "KindError", "NoBook", "Bare", "TooLong", "NoKind", "NUM", "RUNS", "Runner", "run", "LETTERS", "LONGEST", "is_name", "is_bough", "is_kind", "are_unlike", "is_kinds", "with_worths", "kind_text", "Book", "_law_deck", "_law_draw", "_law_pick", "_law_names", "_law_number", "_law_row_of", "_law_world", "_law_fun_of", "_law_again", "_law_functions"]
def hL1 : List PySem.Str := ["_law_due", "_law_right", "_law_often_right"]
def hLoose : List PySem.Str := hL0 ++ hL1
abbrev hR : PySem.W.OpenRow := PySem.W.OpenLaw.row PySem.Challenge.rw_dressedkinds_k22_great_numbers
def hAs : List Addr := mainGlobals :: (List.range 1000).reverse
abbrev hH : PySem.W.Hook := Dk.hookX hAs hBs hFn
set_option maxHeartbeats 0 in
theorem hrun (w : World) : HandSHeadRun.RunEq hR (PySem.W.view hR.prog [38]) hH (Dk.obX hAs hBs hFn) 15000 hLoose w := by
  intro os
  kernel_rfl
end KB
namespace Dk
open PySem L2
def objD (C : Addr) (d : D) (P : Prop) : Prop := ∃ fs, d = .obj C fs ∧ P
theorem objD.mono {C : Addr} {d : D} {P P' : Prop} (k : P → P') : objD C d P → objD C d P' := fun ⟨fs, e, p⟩ => ⟨fs, e, k p⟩
theorem Rep.ins {K : PySem.W.Frag} {I : Hp} {v : V} {C : Addr} {fs : List (Str × D)} (r : Rep K I v (.obj C fs)) : ∃ a dx ws, v = .ref a ∧ I a = some (.ins C dx ws) := by
  cases r with
  | @obj a C dx ws ds h _ _ => exact ⟨a, dx, ws, rfl, h⟩
section
variable {F : Fx} {X : Cx} {K : PySem.W.Frag} {k : Nat} {C : Addr} {S : DSp} {ps : List Str} {e a b : Expr} {te ta tb : DT} {t : DAT} {p pos q1 q2 : Pos} {T : V → Hp → VK → Prop} {m x : Str}
def tStrD (r : D) (Q : D → Prop) : Prop := ∃ x, r = .str x ∧ Q (.str x)
theorem tStrD.mono : ∀ r (Q Q' : D → Prop), (∀ d, Q d → Q' d) → tStrD r Q → tStrD r Q' := fun r Q Q' k ⟨n, e, q⟩ => ⟨n, e, k _ q⟩
end
end Dk
namespace Dk
open PySem L2
end Dk
namespace Dk
open PySem PySem.Spec PyProof.Rows L2
end Dk
namespace Dk
open PySem PySem.W L2
open Builtin Builtin.ObjectAttr
end Dk
namespace Dk
open PySem PySem.W L2 PySem.Spec
open Builtin Builtin.ObjectAttr
end Dk
namespace Dk
open PySem L2
/-- what is wished of an exception, by the names where it comes -/
abbrev WD := DEnv → Ex → Prop
theorem _root_.L2.PMk.imp {X : Cx} {e : Expr} {t u : St → Hp → XK → Prop} (h : PMk X e t) (i : ∀ σ H Q, u σ H Q → t σ H Q) : PMk X e u := fun pins s σ H Q J q => h pins s σ H Q J (i _ _ _ q)
section
variable {F : Fx} {K : PySem.W.Frag} {I H : Hp} {ρ : DEnv} {σ : St}
/-- what the frame's own things hide -/
def baseOf (F : Fx) (H : Hp) : Hp := fun b => if F.B b = none then none else H b
theorem Stp.back {I' H' : Hp} (s0 : Stp F.W F.I0 F.B I H) (s : Stp F.W I (baseOf F H) I' H') : Stp F.W F.I0 F.B I' H' := by
  have see : ∀ b o, F.B b = some o → H b = some o → baseOf F H b = some o := fun b o e h => by
    unfold baseOf
    rw [if_neg (by rw [e]; exact fun z => nomatch z)]
    exact h
  refine ⟨Same.trans s0.i s.i, s.st, fun b o e m => s.h b o (see b o e (s0.h b o e m)) m, fun b o e n => ?_⟩
  by_cases m : F.W.mv b
  · cases q : I' b with
    | none => rfl
    | some u => exact absurd m (s.st.imm b u q)
  · exact s.new b o (see b o e (s0.h b o e m)) (s0.new b o e n)
theorem At.back {I' H' : Hp} {ρ' : DEnv} {σ' : St} (A : At F K I ρ σ H) (A' : At ⟨F.W, baseOf F H, I⟩ K I' ρ' σ' H') : At F K I' ρ' σ' H' := by
  refine ⟨Stp.back A.stp A'.stp, A'.len, fun i e h => ?_, A'.dis⟩
  obtain ⟨v, h1, h2⟩ := A'.env i e h
  refine ⟨v, h1, ?_⟩
  rcases h2 with h2 | ⟨p, o, e1, w⟩
  · exact .inl h2
  refine .inr ⟨p, o, e1, w.hp, w.rep, w.ni, w.nm, ?_, w.ad⟩
  cases q : F.B p with
  | none => rfl
  | some u =>
    have hp := A.stp.h p u q w.nm
    have z : (if F.B p = none then none else H p) = none := w.nb
    rw [if_neg (by rw [q]; exact fun z => nomatch z), hp] at z
    cases z
end
end Dk
namespace Dk
open PySem L2 PySem.Spec
/-- a clause over data -/
abbrev Cls2 := Value × Option Nat × (Addr → Ex → DTS)
def wipeZ (Z : DEnds) : Option Nat → DEnds
  | none => Z
  | some i => ⟨fun ρ => Z.nx (ρ.set i none), Z.rt, fun ρ => Z.bk (ρ.set i none), fun ρ => Z.ct (ρ.set i none), Z.ro⟩
section
variable {F : Fx} {X : Cx} {K : PySem.W.Frag} {I H : Hp} {ρ : DEnv} {σ : St}
theorem wipeZ.le {Z Z' : DEnds} {i : Option Nat} (l : DEnds.le Z Z') : DEnds.le (wipeZ Z i) (wipeZ Z' i) := by
  cases i with
  | none => exact l
  | some i => exact ⟨fun ρ h => l.nx _ h, l.rt, fun ρ h => l.bk _ h, fun ρ h => l.ct _ h, l.ro⟩
theorem DEnds.le.trans {a b c : DEnds} (l : DEnds.le a b) (m : DEnds.le b c) : DEnds.le a c :=
  ⟨fun _ h => m.nx _ (l.nx _ h), fun _ h => m.rt _ (l.rt _ h), fun _ h => m.bk _ (l.bk _ h), fun _ h => m.ct _ (l.ct _ h), fun _ h => m.ro _ (l.ro _ h)⟩
variable {Wout : WX} {w : WD} {body : List Stmt} {h₀ : ExceptHandler} {hs : List ExceptHandler} {l : List Cls2} {pos : Pos} {tb : WD → DTS}
end
end Dk
namespace Dk
open PySem L2 PySem.Spec
end Dk
namespace Dk
open PySem L2 PySem.Spec
open PyProof.Rows (envOfC)
end Dk
namespace Dk
open PySem L2 PySem.Spec
structure CalMK (P : Program) (w : World) (K : PySem.W.Frag) (mg : Str → Option Value) (base : Heap) (CX : CXT) (W : Wd) (k : Nat) (C : Addr) (m : Str) (ps ks : List Str) (g : {α : Type} → List α → List α → List α) (S : DSp) : Prop where
  ex : ∃ f fd, Cls K C ∧ Meth K C m f ∧ GnOk P w K mg base CX k f fd ps (spD W K S) ∧ KBn K fd ps 1 ks (fun us ws => g us ws) (fun vs zs => g vs zs)
  rel : ∀ {K : PySem.W.Frag} {I : Hp} {us vs : List V} {ds es : List D}, Reps K I us ds → Reps K I vs es → Reps K I (g us vs) (g ds es)
end Dk
namespace Dk
open PySem L2
/-- a class that may be called: n by place, ks by name (as written); g their order -/
structure CalCK (P : Program) (w : World) (K : PySem.W.Frag) (mg : Str → Option Value) (base : Heap) (CX : CXT) (W : Wd) (k : Nat) (x : Str) (C : Addr) (ps : List Str) (n : Nat) (ks : List Str) (g : {α : Type} → List α → List α → List α) (S : DSp) : Prop where
  ex : ∃ f fd, Mk K C f ∧ GnOk P w K mg base CX k f fd ps (spInit W K C S) ∧ mg x = some (.ref C) ∧ KBn K fd ps (n + 1) ks (fun us ws => g us ws) (fun vs zs => g vs zs)
  len : ps.length = S.n + 1
  own : ∀ {α : Type} (a : α) (us ws : List α), g (a :: us) ws = a :: g us ws
  rel : ∀ {K : PySem.W.Frag} {I : Hp} {us vs : List V} {ds es : List D}, Reps K I us ds → Reps K I vs es → Reps K I (g us vs) (g ds es)
section
variable {P : Program} {w : World} {K : PySem.W.Frag} {mg : Str → Option Value} {base : Heap} {CX : CXT} {W : Wd} {k n : Nat} {x qual : Str} {C : Addr} {st : Stmt} {f : Addr} {fd : FuncData} {ps ks : List Str} {S : DSp} {g : {α : Type} → List α → List α → List α}
theorem CalCK.of (Fn : Fun K "__init__" qual st f fd) (M : Mk K C f) (G : GnOk P w K mg base CX k f fd ps (spInit W K C S)) (m : mg x = some (.ref C)) (hl : ps.length = S.n + 1) (own : ∀ {α : Type} (a : α) (us ws : List α), g (a :: us) ws = a :: g us ws)
    (rV : ∀ {vs zs : List V} {us ws : List Value}, Vals vs us → Vals zs ws → Vals (g vs zs) (g us ws)) (rD : ∀ {K : PySem.W.Frag} {I : Hp} {us vs : List V} {ds es : List D}, Reps K I us ds → Reps K I vs es → Reps K I (g us vs) (g ds es))
    (h : ∀ (kV doc pm : Value) (an : Option Addr) (cdv ct : Value) (us ws : List Value), us.length = n + 1 → ws.length = ks.length → bindArgs (PySem.W.fnOf "__init__" qual (defArgs st) (defBody st) (defScope st) .none kV doc pm an cdv ct) ⟨us, ks.zip ws⟩ = pure (ps.zip (g us ws))) : CalCK P w K mg base CX W k x C ps n ks g S := by
  refine ⟨⟨f, fd, M, G, m, fun s us ws _ l1 l2 => ?_, fun r z => rV r z⟩, hl, own, rD⟩
  obtain ⟨oc, od, kV, doc, pm, an, cdv, ct, osl, rfl, lk, hcd⟩ := Fn.ex
  exact .of_eq (h kV doc pm an cdv ct us ws l1 l2)
end
end Dk
namespace Dk
open PySem L2 PySem.Spec PyProof.Rows
end Dk
namespace Dk
open PySem L2
open PyProof.Rows (IntsAre)
theorem depth_ints : ∀ ns : List Int, PyData.depthAll (ns.map PyData.int) = 0
  | [] => by simp [PyData.depthAll]
  | n :: ns => by simp [PyData.depthAll, PyData.depth, depth_ints ns]
end Dk
namespace RZ
open PySem
open PySem.Sem (wp)
section
variable {prog : Program} {w : World} {A : Around} {E : Value → Shared → Prop} {s : Shared}
theorem callType_meetsK {T newId initId : String} {Bn Bi : Builtin} {args : List Value} {kw : List (Str × Value)} {S : Spec} {Q Q₁ : Value → Shared → Prop} (ft : TypeCalled T newId initId)
    (hct : checkTypeCall T ⟨args, kw⟩ = pure ()) (hcn : checkBuiltinCall newId ⟨.type T :: args, kw⟩ = pure ())
    (entryN : entryFor table newId = some Bn) (entryI : entryFor table initId = some Bi) (g : Meets (Bn ⟨.type T :: args, kw⟩) S)
    (h : S A.in1 (wants Q₁ E) s)
    (hnext : ∀ obj s₁, Q₁ obj s₁ → s₁.TypeIs obj T ∧ argsOk initId ⟨obj :: args, kw⟩ ∧ ∃ Si, Meets (Bi ⟨obj :: args, kw⟩) Si ∧ Si A.in1 (wants (fun r s₂ => r = .none ∧ Q obj s₂) E) s₁) :
    wpAny (model prog w) A (call (.type T) args kw) Q E s := by
  obtain ⟨c, tl, hmro⟩ := ft.mro
  have hmade := ft.made
  have hsub := ft.sub
  refine wpAny_call (codeAny_of_tree ?_)
  show wpAny _ _ (callAny (.type T) _) _ _ _
  refine wpAny_pure ⟨Code.quiet_builtin _ (by decide +kernel), codeAny_builtin F.entry_type_call ?_⟩
  rw [Around.under_plain (weight_type_call_type T args kw) (units_type_call_type T args kw)]
  have h1 := ft.notType
  have h2 := ft.canCreate
  repeat (any_goals (first | assumption | wp_step))
  refine codeAny_mono (codeAny_call_builtin ft.plain entryN (wpAny_of_eq hcn (g prog w A.in1 _ s h))) fun r s₁ hr => ?_
  cases r with
  | error e => exact hr
  | ok fl =>
    cases fl with
    | ret obj =>
      obtain ⟨hT, hok, Si, gi, hsi⟩ := hnext _ _ hr
      have hli := ft.init.lookup
      have hbi := ft.init.bind obj
      repeat (any_goals (first | assumption | wp_step))
      refine codeAny_mono (codeAny_call_builtin ft.init.plain entryI (ft.init.check _ _ _ _ _ _ _ _ hT hok (gi prog w A.in1 _ s₁ hsi))) fun r₂ s₂ hr₂ => ?_
      cases r₂ with
      | error e => exact hr₂
      | ok fl₂ =>
        cases fl₂ with
        | ret r =>
          obtain ⟨rfl, hq⟩ := hr₂
          repeat (any_goals (first | assumption | wp_step))
        | _ => exact hr₂.elim
    | _ => exact hr.elim
theorem object_init_meetsK {T newId : String} {self : Value} {rest : List Value} {kw : List (Str × Value)} (hl : typeLookup (.type T) "__init__" = pure (some (.builtin "object.__init__")))
    (hm : Bind.madeBy (.type T) = pure (some newId)) (hne : (some newId != some "object.__new__") = true) :
    Meets (Builtin.«object.__init__» ⟨self :: rest, kw⟩) (fun _ R s => s.TypeIs self T ∧ R (.ok (.ret .none)) s) := by
  refine Meets.of_wp fun prog w A R s hs => ?_
  obtain ⟨hT, hq⟩ := hs
  cases rest with
  | nil =>
    cases kw with
    | nil => exact wpAny_pure ⟨_, rfl, hq⟩
    | cons k kw =>
      repeat (any_goals (first | assumption | wp_step))
      exact ⟨_, rfl, hq⟩
  | cons a rest =>
    repeat (any_goals (first | assumption | wp_step))
    exact ⟨_, rfl, hq⟩
theorem callType_newK {T newId : String} {Bn : Builtin} {args : List Value} {kw : List (Str × Value)} {S : Spec} {Q : Value → Shared → Prop} (ft : TypeCalled T newId "object.__init__")
    (hne : (some newId != some "object.__new__") = true) (hct : checkTypeCall T ⟨args, kw⟩ = pure ()) (hcn : checkBuiltinCall newId ⟨.type T :: args, kw⟩ = pure ())
    (hok : ∀ obj, argsOk "object.__init__" ⟨obj :: args, kw⟩) (entryN : entryFor table newId = some Bn) (g : Meets (Bn ⟨.type T :: args, kw⟩) S)
    (h : S A.in1 (wants (fun obj s₁ => s₁.TypeIs obj T ∧ Q obj s₁) E) s) : wpAny (model prog w) A (call (.type T) args kw) Q E s :=
  callType_meetsK ft hct hcn entryN F.entry_object_init g h fun obj _ hq =>
    ⟨hq.1, hok obj, _, object_init_meetsK ft.init.lookup ft.made hne, hq.1, rfl, hq.2⟩
/-- T(.., k=..) -/
theorem callWith_typeK {M : Model} {A : Around} {E : Value → Shared → Prop} {s : Shared} {pos : Pos} {T : String} {first : List Value} {args : List (Bool × Sem Value)} {keywords : List (Option Str × Sem Value)} {Q : Value → Shared → Prop}
    (hplain : args.any (·.1) = false) (hkw : keywords.any (·.1.isNone) = false)
    (h : wpAny M A (evalArgs (.type T) true args keywords) (fun a s₁ => wpAny M A (call (.type T) (first ++ a.pos) a.kw) Q E s₁) E s) :
    wpAny M A (callWith pos (.type T) first args keywords) Q E s := by
  unfold callWith
  refine wpAny_bind (wpAny_holding (wpAny_mono h (fun a s₁ h₁ => wpAny_bind (wpAny_standAt ?_)) fun _ _ x => x))
  simp only [hplain, hkw, Bool.or_false]
  refine wpAny_bind (wpAny_pure ?_)
  exact wpAny_bind (wpAny_mono h₁ (fun r s₂ hr => wpAny_bind (wpAny_holding (wpAny_point (wpAny_pure hr)))) fun _ _ x => x)
end
abbrev IsZipB (st : Bool) (h : Heap) (z TI TO : Addr) (f0 : Value) : Prop :=
  h.get? z = some { cls := .type "zip", dict := none, data := .fields #[f0, .bool false, .bool st, .ref TI, .ref TO], slots := #[] }
def SqAt (k : Bool) (h : Heap) (l : Addr) (xs : Array Value) : Prop := if k then h.IsList l xs else h.IsTuple l xs
def ItAt (k : Bool) (h : Heap) (it l : Addr) (n : Nat) : Prop := if k then h.IsListIter it l n else h.IsTupleIter it l n
theorem SqAt.extBut {k : Bool} {h h' : Heap} {l c : Addr} {xs : Array Value} (a : SqAt k h l xs) (e : Heap.ExtBut c h h') (n : l ≠ c) : SqAt k h' l xs := by
  cases k
  · exact Heap.IsTuple.extBut (show h.IsTuple l xs from a) e n
  · exact Heap.IsList.extBut (show h.IsList l xs from a) e n
theorem ItAt.extBut {k : Bool} {h h' : Heap} {it l c : Addr} {n : Nat} (a : ItAt k h it l n) (e : Heap.ExtBut c h h') (ne : it ≠ c) : ItAt k h' it l n := by
  cases k
  · exact Heap.IsTupleIter.extBut (show h.IsTupleIter it l n from a) e ne
  · exact Heap.IsListIter.extBut (show h.IsListIter it l n from a) e ne
theorem ItAt.at {k : Bool} {h h' : Heap} {it l : Addr} {n : Nat} (a : ItAt k h it l n) (e : ∀ o, h.get? it = some o → h'.get? it = some o) : ItAt k h' it l n := by
  cases k
  · exact Heap.IsTupleIter.at (show h.IsTupleIter it l n from a) e
  · exact Heap.IsListIter.at (show h.IsListIter it l n from a) e
theorem ItAt.obj {k : Bool} {h : Heap} {it l : Addr} {n : Nat} (a : ItAt k h it l n) : ∃ o, h.get? it = some o ∧ o.data = .fields #[.ref l, .int n 0] := by
  cases k
  · obtain ⟨o, e, _, d⟩ := (show h.IsTupleIter it l n from a)
    exact ⟨o, e, d⟩
  · obtain ⟨o, e, _, d⟩ := (show h.IsListIter it l n from a)
    exact ⟨o, e, d⟩
section
variable {prog : Program} {w : World} {A : Around} {E : Value → Shared → Prop} {s : Shared}
theorem nextOf_seq_item {k : Bool} {it l : Addr} {i : Nat} {items} {x : Value} {Q : Value → Shared → Prop} (hit : ItAt k s.heap it l i)
    (hl : SqAt k s.heap l items) (hx : items[i]? = some x)
    (hQ : ∀ h', ItAt k h' it l (i + 1) → Heap.SameBut it s.heap h' → Q x { s with heap := h' }) :
    wpAny (model prog w) A (Builtin.SmallTypes.nextOf (.ref it)) Q E s := by
  cases k
  · exact nextOf_tuple_item hit hl hx hQ
  · exact wpAny_nextOf_list_item hit hl hx hQ
theorem nextOf_seq_end {k : Bool} {it l : Addr} {i : Nat} {items} {Q : Value → Shared → Prop} (hh : A.handled = none)
    (hit : ItAt k s.heap it l i) (hl : SqAt k s.heap l items) (hx : items[i]? = none)
    (hE : ∀ h' e, Heap.ExtBut it s.heap h' → (∃ o, h'.get? e = some o ∧ o.cls = .type "StopIteration") → E (.ref e) { s with heap := h' }) :
    wpAny (model prog w) A (Builtin.SmallTypes.nextOf (.ref it)) Q E s := by
  cases k
  · exact nextOf_tuple_end hh hit hl hx hE
  · exact wpAny_nextOf_list_end hh hit hl hx hE
theorem nextOrEnd_item {k : Bool} {it l : Addr} {i : Nat} {items} {x : Value} {Q : Option Value → Shared → Prop} (hit : ItAt k s.heap it l i)
    (hl : SqAt k s.heap l items) (hx : items[i]? = some x)
    (hQ : ∀ h', ItAt k h' it l (i + 1) → Heap.SameBut it s.heap h' → Q (some x) { s with heap := h' }) :
    wpAny (model prog w) A (Builtin.SmallTypes.nextOrEnd (.ref it)) Q E s := by
  unfold Builtin.SmallTypes.nextOrEnd
  exact wpAny_bind (wpAny_attempt (nextOf_seq_item hit hl hx fun h' a b => wpAny_pure (hQ h' a b)))
theorem nextOrEnd_end {k : Bool} {it l : Addr} {i : Nat} {items} {Q : Option Value → Shared → Prop} (hh : A.handled = none)
    (hit : ItAt k s.heap it l i) (hl : SqAt k s.heap l items) (hx : items[i]? = none)
    (hQ : ∀ h', Heap.ExtBut it s.heap h' → Q none { s with heap := h' }) :
    wpAny (model prog w) A (Builtin.SmallTypes.nextOrEnd (.ref it)) Q E s := by
  unfold Builtin.SmallTypes.nextOrEnd
  refine wpAny_bind (wpAny_attempt (nextOf_seq_end hh hit hl hx fun h' e hk he => ?_))
  obtain ⟨o, ho, hc⟩ := he
  exact wpAny_bind (wpAny_isInstance (T := "StopIteration") (b := true) ⟨o, ho, hc⟩ isSubtype_stop (wpAny_pure (hQ _ hk)))
end
end RZ
namespace RZ
open PySem
open PySem.Sem (wp)
section
variable {prog : Program} {w : World} {A : Around} {E : Value → Shared → Prop} {s : Shared} {st ka kb : Bool}
/-- what a turn of zip draws of one of both -/
theorem draw_item {k : Bool} {it l z : Addr} {i : Nat} {items : Array Value} {x : Value} {R : Option Value → Shared → Prop} {E' : Value → Shared → Prop} (hit : ItAt k s.heap it l i) (hl : SqAt k s.heap l items) (hx : items[i]? = some x)
    (hQ : ∀ h', ItAt k h' it l (i + 1) → Heap.SameBut it s.heap h' → R (some x) { s with heap := h' }) :
    wpAny (model prog w) A (if st = true then Builtin.SmallTypes.nextOrEnd (.ref it) else do return some (← Builtin.SmallTypes.nextOf (.ref it))) R E' s := by
  cases st
  · rw [if_neg (by decide)]
    exact wpAny_bind (nextOf_seq_item hit hl hx fun h' a b => wpAny_pure (hQ h' a b))
  · rw [if_pos rfl]
    exact nextOrEnd_item hit hl hx hQ
theorem zipG_next_item {z TI TO i1 i2 l1 l2 : Addr} {k1 k2 : Nat} {xs ys : Array Value} {x y a b : Value} {Q : Value → Shared → Prop} (D : ZipApart z TI TO i1 i2 l1 l2)
    (hz : IsZipB st s.heap z TI TO .none) (hTI : IsPair s.heap TI (.ref i1) (.ref i2)) (hTO : IsPair s.heap TO a b)
    (h1 : ItAt ka s.heap i1 l1 k1) (h2 : ItAt kb s.heap i2 l2 k2) (hl1 : SqAt ka s.heap l1 xs) (hl2 : SqAt kb s.heap l2 ys) (hx : xs[k1]? = some x) (hy : ys[k2]? = some y)
    (hQ : ∀ h', IsZipB st h' z TI TO (rawInt s.heap.objs.size) → IsPair h' TO x y → ItAt ka h' i1 l1 (k1 + 1) → ItAt kb h' i2 l2 (k2 + 1) → IsPair h' s.heap.objs.size x y → h'.objs.size = s.heap.objs.size + 1 →
      (∀ c o, c ≠ z → c ≠ TO → c ≠ i1 → c ≠ i2 → s.heap.get? c = some o → h'.get? c = some o) → Q (.ref s.heap.objs.size) { s with heap := h' }) :
    wpAny (model prog w) A (Builtin.«zip.__next__» ⟨[.ref z], []⟩) (fun fin s' => ∃ v, fin = .done (.ret v) ∧ Q v s') E s := by
  show wpAny _ _ (field (.ref z) 2 >>= _) _ _ _
  refine wpAny_bind (wpAny_field hz rfl (x := .bool st) rfl ?_)
  show wpAny _ _ (field (.ref z) 3 >>= _) _ _ _
  refine wpAny_bind (wpAny_field hz rfl (x := .ref TI) rfl ?_)
  refine wpAny_bind (wpAny_seqItems hTI rfl ?_)
  show wpAny _ _ (Builtin.SmallTypes.ownedTupleIsFree (.ref z) >>= _) _ _ _
  refine wpAny_bind ?_
  unfold Builtin.SmallTypes.ownedTupleIsFree
  refine wpAny_bind (wpAny_field hz rfl (x := .none) rfl (wpAny_pure ?_))
  simp only [if_true]
  refine wpAny_bind (wpAny_rule ?_)
  refine wpAny_bind (wpAny_field hz rfl (x := .ref TO) rfl ?_)
  refine wpAny_bind (wpAny_setField_rec hz (by simp) fun h₁ hz₁ hs₁ => ?_)
  replace hz₁ : IsZipB st h₁ z TI TO .ellipsis := hz₁
  refine wpAny_bind ?_
  have es : (Value.bool st == Value.bool true) = st := by cases st <;> rfl
  rw [es]
  simp only [List.zipIdx_cons, List.zipIdx_nil, List.forIn_cons, List.forIn_nil]
  refine wpAny_bind (wpAny_bind (wpAny_onRaise ?_))
  show wpAny _ _ (if st = true then Builtin.SmallTypes.nextOrEnd (.ref i1) else do return some (← Builtin.SmallTypes.nextOf (.ref i1))) _ _ _
  refine draw_item (z := z) (h1.extBut hs₁.extBut D.i1z) (hl1.extBut hs₁.extBut D.l1z) hx fun h₂ h1₂ hs₂ => ?_
  have hTO₂ : IsPair h₂ TO a b := hs₂.extBut _ _ D.TOi1 (hs₁.extBut _ _ D.TOz hTO)
  refine wpAny_bind (wpAny_seqItems hTO₂ rfl ?_)
  refine wpAny_bind (wpAny_updateSeq_pair hTO₂ fun h₃ hTO₃ hs₃ => ?_)
  replace hTO₃ : IsPair h₃ TO x b := hTO₃
  refine wpAny_bind (wpAny_letGo (wpAny_pure ?_))
  refine wpAny_bind (wpAny_bind (wpAny_onRaise ?_))
  show wpAny _ _ (if st = true then Builtin.SmallTypes.nextOrEnd (.ref i2) else do return some (← Builtin.SmallTypes.nextOf (.ref i2))) _ _ _
  refine draw_item (z := z) (((h2.extBut hs₁.extBut D.i2z).extBut hs₂.extBut D.i12.symm).extBut hs₃.extBut D.TOi2.symm)
    (((hl2.extBut hs₁.extBut D.l2z).extBut hs₂.extBut D.l2i1).extBut hs₃.extBut D.l2TO) hy fun h₄ h2₄ hs₄ => ?_
  have hTO₄ : IsPair h₄ TO x b := hs₄.extBut _ _ D.TOi2 hTO₃
  refine wpAny_bind (wpAny_seqItems hTO₄ rfl ?_)
  refine wpAny_bind (wpAny_updateSeq_pair hTO₄ fun h₅ hTO₅ hs₅ => ?_)
  replace hTO₅ : IsPair h₅ TO x y := hTO₅
  refine wpAny_bind (wpAny_letGo (wpAny_pure (wpAny_pure ?_)))
  refine wpAny_bind (wpAny_seqItems hTO₅ rfl ?_)
  refine wpAny_bind (wpAny_newTuple ?_)
  have hsz : h₅.objs.size = s.heap.objs.size := by rw [hs₅.1, hs₄.1, hs₃.1, hs₂.1, hs₁.1]
  have hz₅ : IsZipB st h₅ z TI TO .ellipsis := hs₅.extBut _ _ D.TOz.symm (hs₄.extBut _ _ D.i2z.symm (hs₃.extBut _ _ D.TOz.symm (hs₂.extBut _ _ D.i1z.symm hz₁)))
  have hk₅ : ∀ c o, c ≠ z → c ≠ TO → c ≠ i1 → c ≠ i2 → s.heap.get? c = some o → h₅.get? c = some o := fun c o c1 c2 c3 c4 e =>
    hs₅.extBut _ _ c2 (hs₄.extBut _ _ c4 (hs₃.extBut _ _ c2 (hs₂.extBut _ _ c3 (hs₁.extBut _ _ c1 e))))
  have h1₅ : ItAt ka h₅ i1 l1 (k1 + 1) := ((h1₂.extBut hs₃.extBut D.TOi1.symm).extBut hs₄.extBut D.i12).extBut hs₅.extBut D.TOi1.symm
  have h2₅ : ItAt kb h₅ i2 l2 (k2 + 1) := h2₄.extBut hs₅.extBut D.TOi2.symm
  have hzlt : z < h₅.objs.size := Heap.lt_size hz₅
  have hTOlt : TO < h₅.objs.size := Heap.lt_size hTO₅
  show wpAny _ _ (Builtin.SmallTypes.ownedTupleHandOut (.ref z) (.ref h₅.objs.size) >>= _) _ _ _
  refine wpAny_bind ?_
  unfold Builtin.SmallTypes.ownedTupleHandOut
  have hz₆ : IsZipB st (h₅.push { cls := .type "tuple", data := .seq #[x, y] }) z TI TO .ellipsis := Heap.get?_push_of_some _ hz₅
  refine wpAny_bind (wpAny_setField_rec hz₆ (by simp) fun h₇ hz₇ hs₇ => ?_)
  replace hz₇ : IsZipB st h₇ z TI TO (rawInt h₅.objs.size) := hz₇
  refine wpAny_setField_rec hz₇ (by simp) fun h₈ hz₈ hs₈ => ?_
  replace hz₈ : IsZipB st h₈ z TI TO (rawInt h₅.objs.size) := hz₈
  have up : ∀ c o, c ≠ z → h₅.get? c = some o → h₈.get? c = some o := fun c o c1 e => hs₈.extBut _ _ c1 (hs₇.extBut _ _ c1 (Heap.get?_push_of_some _ e))
  have hT₈ : IsPair h₈ h₅.objs.size x y := hs₈.extBut _ _ (Nat.ne_of_gt hzlt) (hs₇.extBut _ _ (Nat.ne_of_gt hzlt) (Heap.get?_push_size _ rfl))
  have hz8 : h₈.objs.size = h₅.objs.size + 1 := by rw [hs₈.1, hs₇.1, Heap.size_push]
  rw [hsz] at hz₈ hT₈ hz8
  refine wpAny_pure ⟨_, rfl, ?_⟩
  show Q (.ref h₅.objs.size) _
  rw [hsz]
  exact hQ h₈ hz₈ (up _ _ D.TOz hTO₅) (h1₅.at fun o e => up _ o D.i1z e) (h2₅.at fun o e => up _ o D.i2z e) hT₈ hz8 fun c o c1 c2 c3 c4 e => up c o c1 (hk₅ c o c1 c2 c3 c4 e)
/-- the end: either one is, where it isn't strict; both are, where it is -/
theorem zipG_next_end {z TI TO i1 i2 l1 l2 : Addr} {k1 k2 : Nat} {xs ys : Array Value} {a b : Value} {Q : Fin → Shared → Prop} (hh : A.handled = none) (D : ZipApart z TI TO i1 i2 l1 l2)
    (hz : IsZipB st s.heap z TI TO .none) (hTI : IsPair s.heap TI (.ref i1) (.ref i2)) (hTO : IsPair s.heap TO a b)
    (h1 : ItAt ka s.heap i1 l1 k1) (h2 : ItAt kb s.heap i2 l2 k2) (hl1 : SqAt ka s.heap l1 xs) (hl2 : SqAt kb s.heap l2 ys) (hend : if st then xs[k1]? = none ∧ ys[k2]? = none else xs[k1]? = none ∨ ys[k2]? = none)
    (hE : ∀ h' e, (∀ c o, c ≠ z → c ≠ TO → c ≠ i1 → c ≠ i2 → s.heap.get? c = some o → h'.get? c = some o) → (∃ o, h'.get? e = some o ∧ o.cls = .type "StopIteration") → E (.ref e) { s with heap := h' }) :
    wpAny (model prog w) A (Builtin.«zip.__next__» ⟨[.ref z], []⟩) Q E s := by
  show wpAny _ _ (field (.ref z) 2 >>= _) _ _ _
  refine wpAny_bind (wpAny_field hz rfl (x := .bool st) rfl ?_)
  show wpAny _ _ (field (.ref z) 3 >>= _) _ _ _
  refine wpAny_bind (wpAny_field hz rfl (x := .ref TI) rfl ?_)
  refine wpAny_bind (wpAny_seqItems hTI rfl ?_)
  show wpAny _ _ (Builtin.SmallTypes.ownedTupleIsFree (.ref z) >>= _) _ _ _
  refine wpAny_bind ?_
  unfold Builtin.SmallTypes.ownedTupleIsFree
  refine wpAny_bind (wpAny_field hz rfl (x := .none) rfl (wpAny_pure ?_))
  simp only [if_true]
  refine wpAny_bind (wpAny_rule ?_)
  refine wpAny_bind (wpAny_field hz rfl (x := .ref TO) rfl ?_)
  refine wpAny_bind (wpAny_setField_rec hz (by simp) fun h₁ hz₁ hs₁ => ?_)
  replace hz₁ : IsZipB st h₁ z TI TO .ellipsis := hz₁
  refine wpAny_bind ?_
  have es : (Value.bool st == Value.bool true) = st := by cases st <;> rfl
  rw [es]
  simp only [List.zipIdx_cons, List.zipIdx_nil, List.forIn_cons, List.forIn_nil]
  refine wpAny_bind (wpAny_bind (wpAny_onRaise ?_))
  cases st with
  | false =>
    show wpAny _ _ (Builtin.SmallTypes.nextOf (.ref i1) >>= _) _ _ _
    cases hx : xs[k1]? with
    | none =>
      refine wpAny_bind (nextOf_seq_end hh (h1.extBut hs₁.extBut D.i1z) (hl1.extBut hs₁.extBut D.l1z) hx fun h₂ e hs₂ he => ?_)
      obtain ⟨oe, hoe, hce⟩ := he
      have hz₂ : IsZipB false h₂ z TI TO .ellipsis := hs₂ _ _ D.i1z.symm hz₁
      have hez : e ≠ z := fun x => by subst x; rw [hz₂] at hoe; cases hoe; simp at hce
      refine wpAny_setField_rec hz₂ (by simp) fun h₃ _ hs₃ => hE h₃ e (fun c o c1 _ c3 _ x => hs₃.extBut _ _ c1 (hs₂ _ _ c3 (hs₁.extBut _ _ c1 x))) ⟨oe, hs₃.extBut _ _ hez hoe, hce⟩
    | some x =>
      have hy : ys[k2]? = none := by
        simp only [Bool.false_eq_true, if_false] at hend
        rcases hend with h | h
        · rw [hx] at h; cases h
        · exact h
      refine wpAny_bind (nextOf_seq_item (h1.extBut hs₁.extBut D.i1z) (hl1.extBut hs₁.extBut D.l1z) hx fun h₂ h1₂ hs₂ => wpAny_pure ?_)
      have hTO₂ : IsPair h₂ TO a b := hs₂.extBut _ _ D.TOi1 (hs₁.extBut _ _ D.TOz hTO)
      refine wpAny_bind (wpAny_seqItems hTO₂ rfl ?_)
      refine wpAny_bind (wpAny_updateSeq_pair hTO₂ fun h₃ hTO₃ hs₃ => ?_)
      refine wpAny_bind (wpAny_letGo (wpAny_pure ?_))
      refine wpAny_bind (wpAny_bind (wpAny_onRaise ?_))
      show wpAny _ _ (Builtin.SmallTypes.nextOf (.ref i2) >>= _) _ _ _
      refine wpAny_bind (nextOf_seq_end hh (((h2.extBut hs₁.extBut D.i2z).extBut hs₂.extBut D.i12.symm).extBut hs₃.extBut D.TOi2.symm)
        (((hl2.extBut hs₁.extBut D.l2z).extBut hs₂.extBut D.l2i1).extBut hs₃.extBut D.l2TO) hy fun h₄ e hs₄ he => ?_)
      obtain ⟨oe, hoe, hce⟩ := he
      have hz₄ : IsZipB false h₄ z TI TO .ellipsis := hs₄ _ _ D.i2z.symm (hs₃.extBut _ _ D.TOz.symm (hs₂.extBut _ _ D.i1z.symm hz₁))
      have hez : e ≠ z := fun x => by subst x; rw [hz₄] at hoe; cases hoe; simp at hce
      refine wpAny_setField_rec hz₄ (by simp) fun h₅ _ hs₅ => hE h₅ e (fun c o c1 c2 c3 c4 x => hs₅.extBut _ _ c1 (hs₄ _ _ c4 (hs₃.extBut _ _ c2 (hs₂.extBut _ _ c3 (hs₁.extBut _ _ c1 x))))) ⟨oe, hs₅.extBut _ _ hez hoe, hce⟩
  | true =>
    simp only [if_true] at hend
    obtain ⟨hx, hy⟩ := hend
    show wpAny _ _ (Builtin.SmallTypes.nextOrEnd (.ref i1)) _ _ _
    refine nextOrEnd_end hh (h1.extBut hs₁.extBut D.i1z) (hl1.extBut hs₁.extBut D.l1z) hx fun h₂ hs₂ => ?_
    have hz₂ : IsZipB true h₂ z TI TO .ellipsis := hs₂ _ _ D.i1z.symm hz₁
    dsimp only
    refine wpAny_bind (wpAny_setField_rec hz₂ (by simp) fun h₃ hz₃ hs₃ => ?_)
    refine wpAny_bind ?_
    show wpAny _ _ ((forIn (m := Sem) (([Value.ref i1, Value.ref i2].drop 1).zipIdx 1) () _) >>= _) _ _ _
    simp only [List.drop_succ_cons, List.drop_zero, List.zipIdx_cons, List.zipIdx_nil, List.forIn_cons, List.forIn_nil]
    refine wpAny_bind (wpAny_bind (wpAny_bind ?_))
    have k₃ : ∀ c o, c ≠ z → c ≠ i1 → s.heap.get? c = some o → h₃.get? c = some o := fun c o c1 c2 x => hs₃.extBut _ _ c1 (hs₂ _ _ c2 (hs₁.extBut _ _ c1 x))
    refine nextOrEnd_end hh (((h2.extBut hs₁.extBut D.i2z).extBut hs₂ D.i12.symm).extBut hs₃.extBut D.i2z) (((hl2.extBut hs₁.extBut D.l2z).extBut hs₂ D.l2i1).extBut hs₃.extBut D.l2z) hy fun h₄ hs₄ => ?_
    simp only [Option.isSome_none, Bool.false_eq_true, if_false]
    refine wpAny_pure (wpAny_pure ?_)
    refine wpAny_bind (wpAny_rule ?_)
    unfold Builtin.SmallTypes.stopIteration
    refine wpAny_bind ?_
    simp only [newExc, newTuple]
    refine wpAny_bind (wpAny_newObj_type ?_ (by size_fits))
    refine wpAny_bind (m := firstArgMember _ _) (wpAny_of_eq (a := Value.none) (by first | rfl | (simp only [firstArgMember]; rfl)) ?_)
    refine wpAny_newObj_type ?_ (by size_fits)
    simp only [raiseNew]
    refine wpAny_bind (wpAny_handled ?_)
    rw [hh]
    refine wpAny_bind (wpAny_pure (wpAny_throw ?_))
    exact hE _ _ (fun c o c1 _ c3 c4 x => Heap.get?_push_of_some _ (Heap.get?_push_of_some _ (hs₄ _ _ c4 (k₃ c o c1 c3 x)))) ⟨_, Heap.get?_push_size _ rfl, rfl⟩
end
end RZ
namespace RZ
open PySem
open PySem.Sem (wp)
abbrev itCls (k : Bool) : String := if k then "list_iterator" else "tuple_iterator"
abbrev zipGH1 (ka : Bool) (h : Heap) (l1 : Addr) : Heap := h.push { cls := .type (itCls ka), data := .fields #[.ref l1, .int 0 0] }
abbrev zipGH2 (ka kb : Bool) (h : Heap) (l1 l2 : Addr) : Heap := (zipGH1 ka h l1).push { cls := .type (itCls kb), data := .fields #[.ref l2, .int 0 0] }
abbrev zipGH3 (ka kb : Bool) (h : Heap) (l1 l2 : Addr) : Heap := (zipGH2 ka kb h l1 l2).push { cls := .type "tuple", data := .seq #[.ref h.objs.size, .ref (zipGH1 ka h l1).objs.size] }
abbrev zipGH4 (ka kb : Bool) (h : Heap) (l1 l2 : Addr) : Heap := (zipGH3 ka kb h l1 l2).push { cls := .type "tuple", data := .seq #[.none, .none] }
abbrev zipGH5 (st ka kb : Bool) (h : Heap) (l1 l2 : Addr) : Heap := (zipGH4 ka kb h l1 l2).push { cls := .type "zip", data := .fields #[.none, .bool false, .bool st, .ref (zipGH2 ka kb h l1 l2).objs.size, .ref (zipGH3 ka kb h l1 l2).objs.size] }
abbrev zipKw (st : Bool) : List (Str × Value) := if st then [("strict", .bool true)] else []
theorem pyIter_seq {prog : Program} {w : World} {A : Around} {E : Value → Shared → Prop} {s : Shared} {k : Bool} {l : Addr} {xs : Array Value} {Q : Value → Shared → Prop} (hl : SqAt k s.heap l xs)
    (h : Q (.ref s.heap.objs.size) { s with heap := s.heap.push { cls := .type (itCls k), data := .fields #[.ref l, .int 0 0] } }) : wpAny (model prog w) A (pyIter (.ref l)) Q E s := by
  cases k
  · exact wpAny_pyIter_tuple (show s.heap.IsTuple l xs from hl) h
  · exact wpAny_pyIter_list (show s.heap.IsList l xs from hl) h
theorem SqAt.push {k : Bool} {h : Heap} {l : Addr} {xs : Array Value} (a : SqAt k h l xs) (o : Obj) : SqAt k (h.push o) l xs := by
  cases k
  · exact Heap.IsTuple.push (show h.IsTuple l xs from a) _
  · exact Heap.IsList.push (show h.IsList l xs from a) _
theorem meets_zipG_new (st ka kb : Bool) (l1 l2 : Addr) (xs ys : Array Value) :
    Meets (Builtin.«zip.__new__» ⟨[.type "zip", .ref l1, .ref l2], zipKw st⟩) (fun _ R s => SqAt ka s.heap l1 xs ∧ SqAt kb s.heap l2 ys ∧
      R (.ok (.ret (.ref (zipGH4 ka kb s.heap l1 l2).objs.size))) { s with heap := zipGH5 st ka kb s.heap l1 l2 }) :=
  .of_wp fun prog w A R s h => by
    obtain ⟨hp, g, d, tk, os⟩ := s; obtain ⟨hl1, hl2, h⟩ := h
    have hsub := sub_zip
    have hL1 : SqAt ka (Shared.heap ⟨hp, g, d, tk, os⟩) l1 xs := hl1
    have hL2 : SqAt kb (Shared.heap ⟨hp.push { cls := .type (itCls ka), data := .fields #[.ref l1, .int 0 0] }, g, d, tk, os⟩) l2 ys := hl2.push _
    cases st
    · wp_walk using pyIter_seq hL1, pyIter_seq hL2
      exact ⟨_, rfl, h⟩
    · wp_walk using pyIter_seq hL1, pyIter_seq hL2
      exact ⟨_, rfl, h⟩
theorem typeCall_zipS (st : Bool) (a b : Value) : checkTypeCall "zip" ⟨[a, b], zipKw st⟩ = pure () := by cases st <;> kernel_rfl
theorem newCall_zipS (st : Bool) (a b : Value) : checkBuiltinCall "zip.__new__" ⟨[.type "zip", a, b], zipKw st⟩ = pure () := by cases st <;> kernel_rfl
theorem args_object_initS (st : Bool) (a b c : Value) : argsOk "object.__init__" ⟨[a, b, c], zipKw st⟩ := by
  cases st <;> (unfold argsOk; rw [signature?_of (id := "object.__init__") (n := ['_', '_', 't', 'i', 'n', 'i', '_', '_']) (o := ['t', 'c', 'e', 'j', 'b', 'o']) (by kernel_rfl) F.owner_object]; kernel_rfl)
section
variable {prog : Program} {w : World} {A : Around} {E : Value → Shared → Prop} {s : Shared}
theorem call_zipG {st ka kb : Bool} {l1 l2 : Addr} {xs ys : Array Value} {Q : Value → Shared → Prop} (hl1 : SqAt ka s.heap l1 xs) (hl2 : SqAt kb s.heap l2 ys)
    (h : ∀ h', IsZipB st h' (s.heap.objs.size + 4) (s.heap.objs.size + 2) (s.heap.objs.size + 3) .none → IsPair h' (s.heap.objs.size + 2) (.ref s.heap.objs.size) (.ref (s.heap.objs.size + 1)) →
      IsPair h' (s.heap.objs.size + 3) .none .none → ItAt ka h' s.heap.objs.size l1 0 → ItAt kb h' (s.heap.objs.size + 1) l2 0 → h'.objs.size = s.heap.objs.size + 5 →
      (∀ c o, s.heap.get? c = some o → h'.get? c = some o) → Q (.ref (s.heap.objs.size + 4)) { s with heap := h' }) :
    wpAny (model prog w) A (call (.type "zip") [.ref l1, .ref l2] (zipKw st)) Q E s := by
  refine callType_newK F.called_zip (by decide) (typeCall_zipS st _ _) (newCall_zipS st _ _) (fun obj => args_object_initS st obj _ _) F.entry_zip_new
    (meets_zipG_new st ka kb l1 l2 xs ys) ⟨hl1, hl2, ?_⟩
  have z1 : (zipGH1 ka s.heap l1).objs.size = s.heap.objs.size + 1 := Heap.size_push ..
  have z2 : (zipGH2 ka kb s.heap l1 l2).objs.size = s.heap.objs.size + 2 := by rw [Heap.size_push, z1]
  have z3 : (zipGH3 ka kb s.heap l1 l2).objs.size = s.heap.objs.size + 3 := by rw [Heap.size_push, z2]
  have z4 : (zipGH4 ka kb s.heap l1 l2).objs.size = s.heap.objs.size + 4 := by rw [Heap.size_push, z3]
  have z5 : (zipGH5 st ka kb s.heap l1 l2).objs.size = s.heap.objs.size + 5 := by rw [Heap.size_push, z4]
  have g5 : (zipGH5 st ka kb s.heap l1 l2).get? (zipGH4 ka kb s.heap l1 l2).objs.size = some _ := Heap.get?_push_size _ rfl
  have g4 : (zipGH5 st ka kb s.heap l1 l2).get? (zipGH3 ka kb s.heap l1 l2).objs.size = some _ := Heap.get?_push_of_some _ (Heap.get?_push_size _ rfl)
  have g3 : (zipGH5 st ka kb s.heap l1 l2).get? (zipGH2 ka kb s.heap l1 l2).objs.size = some _ := Heap.get?_push_of_some _ (Heap.get?_push_of_some _ (Heap.get?_push_size _ rfl))
  have g2 : (zipGH5 st ka kb s.heap l1 l2).get? (zipGH1 ka s.heap l1).objs.size = some _ := Heap.get?_push_of_some _ (Heap.get?_push_of_some _ (Heap.get?_push_of_some _ (Heap.get?_push_size _ rfl)))
  have g1 : (zipGH5 st ka kb s.heap l1 l2).get? s.heap.objs.size = some _ := Heap.get?_push_of_some _ (Heap.get?_push_of_some _ (Heap.get?_push_of_some _ (Heap.get?_push_of_some _ (Heap.get?_push_size _ rfl))))
  show _ ∧ _
  rw [z2, z3, z4] at g5
  rw [z1, z2] at g3
  rw [z3] at g4
  rw [z1] at g2
  rw [z4]
  refine ⟨⟨_, g5, rfl⟩, h _ g5 g3 g4 ?_ ?_ z5 fun c o x =>
    Heap.get?_push_of_some _ (Heap.get?_push_of_some _ (Heap.get?_push_of_some _ (Heap.get?_push_of_some _ (Heap.get?_push_of_some _ x))))⟩
  · cases ka <;> exact ⟨_, g1, rfl, rfl⟩
  · cases kb <;> exact ⟨_, g2, rfl, rfl⟩
theorem pyNext_zipG_item {st ka kb : Bool} {z TI TO i1 i2 l1 l2 : Addr} {k1 k2 : Nat} {xs ys : Array Value} {x y a b : Value} {Q : Option Value → Shared → Prop} (D : ZipApart z TI TO i1 i2 l1 l2)
    (hz : IsZipB st s.heap z TI TO .none) (hTI : IsPair s.heap TI (.ref i1) (.ref i2)) (hTO : IsPair s.heap TO a b)
    (h1 : ItAt ka s.heap i1 l1 k1) (h2 : ItAt kb s.heap i2 l2 k2) (hl1 : SqAt ka s.heap l1 xs) (hl2 : SqAt kb s.heap l2 ys) (hx : xs[k1]? = some x) (hy : ys[k2]? = some y)
    (hQ : ∀ h', IsZipB st h' z TI TO (rawInt s.heap.objs.size) → IsPair h' TO x y → ItAt ka h' i1 l1 (k1 + 1) → ItAt kb h' i2 l2 (k2 + 1) → IsPair h' s.heap.objs.size x y → h'.objs.size = s.heap.objs.size + 1 →
      (∀ c o, c ≠ z → c ≠ TO → c ≠ i1 → c ≠ i2 → s.heap.get? c = some o → h'.get? c = some o) → Q (some (.ref s.heap.objs.size)) { s with heap := h' }) :
    wpAny (model prog w) A (pyNext (.ref z)) Q E s := by
  have hT : s.TypeIs (.ref z) "zip" := ⟨_, hz, rfl⟩
  unfold pyNext
  exact wpAny_bind (wpAny_attempt (wpAny_callSpecial?_slot (name := Str.ofString "__next__") hT F.slot_zip_next
    (wpAny_call_entry F.slot_zip_next hT F.entry_zip_next
      (zipG_next_item D hz hTI hTO h1 h2 hl1 hl2 hx hy fun h' a1 a2 a3 a4 a5 a6 a7 => wpAny_pure (hQ h' a1 a2 a3 a4 a5 a6 a7)) (F.args_zip_next_1 _))))
theorem pyNext_zipG_end {st ka kb : Bool} {z TI TO i1 i2 l1 l2 : Addr} {k1 k2 : Nat} {xs ys : Array Value} {a b : Value} {Q : Option Value → Shared → Prop} (hh : A.handled = none) (D : ZipApart z TI TO i1 i2 l1 l2)
    (hz : IsZipB st s.heap z TI TO .none) (hTI : IsPair s.heap TI (.ref i1) (.ref i2)) (hTO : IsPair s.heap TO a b)
    (h1 : ItAt ka s.heap i1 l1 k1) (h2 : ItAt kb s.heap i2 l2 k2) (hl1 : SqAt ka s.heap l1 xs) (hl2 : SqAt kb s.heap l2 ys) (hend : if st then xs[k1]? = none ∧ ys[k2]? = none else xs[k1]? = none ∨ ys[k2]? = none)
    (hQ : ∀ h', (∀ c o, c ≠ z → c ≠ TO → c ≠ i1 → c ≠ i2 → s.heap.get? c = some o → h'.get? c = some o) → Q none { s with heap := h' }) : wpAny (model prog w) A (pyNext (.ref z)) Q E s := by
  have hT : s.TypeIs (.ref z) "zip" := ⟨_, hz, rfl⟩
  unfold pyNext
  refine wpAny_bind (wpAny_attempt (wpAny_callSpecial?_slot (name := Str.ofString "__next__") hT F.slot_zip_next
    (wpAny_call_entry F.slot_zip_next hT F.entry_zip_next (zipG_next_end hh D hz hTI hTO h1 h2 hl1 hl2 hend fun h' e hk he => ?_) (F.args_zip_next_1 _))))
  obtain ⟨o, ho, hc⟩ := he
  refine wpAny_bind (wpAny_isInstance (T := "StopIteration") (b := true) ⟨o, ho, hc⟩ isSubtype_stop ?_)
  exact wpAny_pure (hQ _ hk)
theorem pyIter_zipG {st : Bool} {z TI TO : Addr} {f0 : Value} {Q : Value → Shared → Prop} (hz : IsZipB st s.heap z TI TO f0) (h : Q (.ref z) s) : wpAny (model prog w) A (pyIter (.ref z)) Q E s := by
  have hT : s.TypeIs (.ref z) "zip" := ⟨_, hz, rfl⟩
  refine wpAny_pyIter_slot hT F.slot_zip_iter (wpAny_call_entry F.slot_zip_iter hT F.entry_zip_iter ?_ (F.args_zip_iter_1 _))
  show wpAny _ _ (ret (.ref z)) _ _ s
  exact wpAny_pure ⟨_, rfl, "zip", _, hT, F.slot_zip_next.lookup, h⟩
end
end RZ
namespace RZ
open PySem PySem.Spec PyProof.Rows L2
def SqK (K : PySem.W.Frag) (k : Bool) (H : Hp) (a : Addr) (xs : List V) : Prop := if k then SqL K H a xs else SqT K H a xs
theorem SqK.at {X : Cx} {pins : List (Addr × Obj)} {σ : L2.St} {H : Hp} {s : Shared} {k : Bool} {a : Addr} {xs : List V} (h : SqK X.K k H a xs) (I : Inv X pins σ H s) : ∃ its : List Value, Vals xs its ∧ SqAt k s.heap a its.toArray := by
  cases k
  · obtain ⟨its, rv, p, _⟩ := I.tuple (show SqT X.K H a xs from h)
    exact ⟨its, rv, p⟩
  · obtain ⟨its, rv, p, _⟩ := I.list (show SqL X.K H a xs from h)
    exact ⟨its, rv, p.isList⟩
theorem SqK.inj {X : Cx} {pins : List (Addr × Obj)} {σ : L2.St} {H : Hp} {s : Shared} {k : Bool} {a : Addr} {xs ys : List V} (h : SqK X.K k H a xs) (h' : SqK X.K k H a ys) (I : Inv X pins σ H s) : xs = ys := by
  cases k
  · exact I.tuple_inj (show SqT X.K H a xs from h) h'
  · exact I.list_inj (show SqL X.K H a xs from h) h'
theorem SqAt.lt {k : Bool} {h : Heap} {l : Addr} {xs : Array Value} (a : SqAt k h l xs) : l < h.objs.size := by
  cases k
  · obtain ⟨o, e, _⟩ := (show h.IsTuple l xs from a)
    exact Heap.lt_size e
  · obtain ⟨o, e, _⟩ := (show h.IsList l xs from a)
    exact Heap.lt_size e
end RZ
namespace Dk
open PySem L2
open RZ
section
variable {F : Fx} {X : Cx} {K : PySem.W.Frag} {W : Wd} {I : Hp} {e e2 : Expr} {ta : DAT} {p pos : Pos}
def SqI (K : PySem.W.Frag) (k : Bool) (I : Hp) (a : Addr) (vs : List V) : Prop := if k then I a = some (.lst vs) else SqT K I a vs
theorem SqI.to {k : Bool} {I H : Hp} {a : Addr} {vs : List V} (h : SqI K k I a vs) (s : Same I H) : SqK K k H a vs := by
  cases k
  · exact Same.seqT s (show SqT K I a vs from h)
  · exact SqL.of (s _ _ (show I a = some (.lst vs) from h))
/-- what may be zipped -/
def seqD : D → Option (List D)
  | .lst xs => some xs
  | .tup xs => some xs
  | _ => none
def zipGD (st : Bool) (ds : List D) (Q : List D → Prop) : Prop := ∃ d e xs ys, ds = [d, e] ∧ seqD d = some xs ∧ seqD e = some ys ∧ (st = true → xs.length = ys.length) ∧ Q (List.zipWith (fun d e => .tup [d, e]) xs ys)
theorem zipGD.mono {st : Bool} {ds : List D} {Q Q' : List D → Prop} (k : ∀ ds, Q ds → Q' ds) : zipGD st ds Q → zipGD st ds Q' := fun ⟨d, e, xs, ys, a, b, c, l, q⟩ => ⟨d, e, xs, ys, a, b, c, l, k _ q⟩
theorem seqD_rep {v : V} {d : D} {xs : List D} (h : seqD d = some xs) (r : Rep K I v d) : ∃ (k : Bool) (a : Addr) (vs : List V), v = .ref a ∧ SqI K k I a vs ∧ Reps K I vs xs := by
  cases r with
  | lst a r => cases h; exact ⟨true, _, _, rfl, a, r⟩
  | tup a r => cases h; exact ⟨false, _, _, rfl, a, r⟩
  | _ => cases h
end
end Dk
namespace RZ
open PySem PySem.Spec PyProof.Rows L2
abbrev IsZipH (st : Bool) (h : Heap) (z TI TO T : Addr) (f : Bool) : Prop :=
  h.get? z = some { cls := .type "zip", dict := none, data := .fields #[rawInt T, .bool f, .bool st, .ref TI, .ref TO], slots := #[] }
theorem zipNoLen : typeLookup (.type "zip") "__len__" = pure none := am_miss_of_fast (by decide +kernel)
theorem zipNoHint : typeLookup (.type "zip") "__length_hint__" = pure none := am_miss_of_fast (by decide +kernel)
section
variable {prog : Program} {w : World} {A : Around} {E : Value → Shared → Prop} {s : Shared} {st ka kb : Bool}
theorem zip_heldB {z TI TO T : Addr} {f : Bool} {oT : Obj} {Q : Bool → Shared → Prop} (hz : IsZipH st s.heap z TI TO T f) (hT : s.heap.get? T = some oT)
    (h : ∀ h', IsZipH st h' z TI TO T true → Heap.SameBut z s.heap h' → Q false { s with heap := h' }) : wpAny (model prog w) A (Builtin.SmallTypes.ownedTupleIsFree (.ref z)) Q E s := by
  unfold Builtin.SmallTypes.ownedTupleIsFree
  refine wpAny_bind (wpAny_field hz rfl (x := rawInt T) rfl ?_)
  show wpAny _ _ (loadIfAlive ((T : Int).toNat) >>= _) _ _ _
  rw [Int.toNat_natCast]
  refine wpAny_bind (PySem.W.kdx_alive hT ?_)
  rw [Option.isNone_some, if_neg Bool.false_ne_true]
  refine wpAny_bind (wpAny_field hz rfl (x := .bool f) rfl ?_)
  cases f with
  | true =>
    rw [if_neg (show ¬ ((Value.bool true != Value.bool true) = true) from by decide)]
    exact wpAny_pure (h s.heap hz (Heap.SameBut.refl _ _))
  | false =>
    rw [if_pos (show (Value.bool false != Value.bool true) = true from by decide)]
    exact wpAny_bind (wpAny_setField_rec hz (by simp) fun h₁ hz₁ hs₁ => wpAny_pure (h h₁ hz₁ hs₁))
theorem zipH_next_item {z TI TO T i1 i2 l1 l2 : Addr} {f : Bool} {oT : Obj} {k1 k2 : Nat} {xs ys : Array Value} {x y : Value} {Q : Value → Shared → Prop} (D : ZipApart z TI TO i1 i2 l1 l2)
    (hz : IsZipH st s.heap z TI TO T f) (hT : s.heap.get? T = some oT) (hTI : IsPair s.heap TI (.ref i1) (.ref i2))
    (h1 : ItAt ka s.heap i1 l1 k1) (h2 : ItAt kb s.heap i2 l2 k2) (hl1 : SqAt ka s.heap l1 xs) (hl2 : SqAt kb s.heap l2 ys) (hx : xs[k1]? = some x) (hy : ys[k2]? = some y)
    (hQ : ∀ h', IsZipH st h' z TI TO T true → ItAt ka h' i1 l1 (k1 + 1) → ItAt kb h' i2 l2 (k2 + 1) → IsPair h' s.heap.objs.size x y → h'.objs.size = s.heap.objs.size + 1 →
      (∀ c o, c ≠ z → c ≠ i1 → c ≠ i2 → s.heap.get? c = some o → h'.get? c = some o) → Q (.ref s.heap.objs.size) { s with heap := h' }) :
    wpAny (model prog w) A (Builtin.«zip.__next__» ⟨[.ref z], []⟩) (fun fin s' => ∃ v, fin = .done (.ret v) ∧ Q v s') E s := by
  show wpAny _ _ (field (.ref z) 2 >>= _) _ _ _
  refine wpAny_bind (wpAny_field hz rfl (x := .bool st) rfl ?_)
  show wpAny _ _ (field (.ref z) 3 >>= _) _ _ _
  refine wpAny_bind (wpAny_field hz rfl (x := .ref TI) rfl ?_)
  refine wpAny_bind (wpAny_seqItems hTI rfl ?_)
  show wpAny _ _ (Builtin.SmallTypes.ownedTupleIsFree (.ref z) >>= _) _ _ _
  refine wpAny_bind (zip_heldB hz hT fun h₁ hz₁ hs₁ => ?_)
  rw [if_neg Bool.false_ne_true]
  have es : (Value.bool st == Value.bool true) = st := by cases st <;> rfl
  rw [es]
  refine wpAny_bind ?_
  rw [← Array.forIn_toList]
  simp only [List.forIn_cons, List.forIn_nil]
  refine wpAny_bind (wpAny_bind (wpAny_holding ?_))
  show wpAny _ _ (if st = true then Builtin.SmallTypes.nextOrEnd (.ref i1) else do return some (← Builtin.SmallTypes.nextOf (.ref i1))) _ _ _
  refine draw_item (z := z) (s := { s with heap := h₁ }) (h1.extBut hs₁.extBut D.i1z) (hl1.extBut hs₁.extBut D.l1z) hx fun h₂ h1₂ hs₂ => ?_
  refine wpAny_pure ?_
  refine wpAny_bind (wpAny_bind (wpAny_holding ?_))
  show wpAny _ _ (if st = true then Builtin.SmallTypes.nextOrEnd (.ref i2) else do return some (← Builtin.SmallTypes.nextOf (.ref i2))) _ _ _
  refine draw_item (z := z) (s := { s with heap := h₂ }) ((h2.extBut hs₁.extBut D.i2z).extBut hs₂.extBut D.i12.symm) ((hl2.extBut hs₁.extBut D.l2z).extBut hs₂.extBut D.l2i1) hy fun h₃ h2₃ hs₃ => ?_
  refine wpAny_pure (wpAny_pure ?_)
  show wpAny _ _ (newTuple [x, y] >>= _) _ _ _
  refine wpAny_bind (wpAny_newTuple ?_)
  have hsz : h₃.objs.size = s.heap.objs.size := by rw [hs₃.1, hs₂.1, hs₁.1]
  have hz₃ : IsZipH st h₃ z TI TO T true := hs₃.extBut _ _ D.i2z.symm (hs₂.extBut _ _ D.i1z.symm hz₁)
  have hk : ∀ c o, c ≠ z → c ≠ i1 → c ≠ i2 → s.heap.get? c = some o → h₃.get? c = some o := fun c o c1 c2 c3 e => hs₃.extBut _ _ c3 (hs₂.extBut _ _ c2 (hs₁.extBut _ _ c1 e))
  have h1₃ : ItAt ka h₃ i1 l1 (k1 + 1) := h1₂.extBut hs₃.extBut D.i12
  refine wpAny_pure ⟨_, rfl, ?_⟩
  show Q (.ref h₃.objs.size) _
  have hp : IsPair (h₃.push { cls := .type "tuple", data := .seq #[x, y] }) h₃.objs.size x y := Heap.get?_push_size _ rfl
  have hz4 : (h₃.push { cls := .type "tuple", data := .seq #[x, y] }).objs.size = h₃.objs.size + 1 := Heap.size_push ..
  rw [hsz] at hp hz4 ⊢
  exact hQ _ (Heap.get?_push_of_some _ hz₃) (h1₃.at fun o e => Heap.get?_push_of_some _ e) (h2₃.at fun o e => Heap.get?_push_of_some _ e) hp hz4 fun c o c1 c2 c3 e => Heap.get?_push_of_some _ (hk c o c1 c2 c3 e)
theorem zipH_next_end {z TI TO T i1 i2 l1 l2 : Addr} {f : Bool} {oT : Obj} {k1 k2 : Nat} {xs ys : Array Value} {Q : PySem.Fin → Shared → Prop} (hh : A.handled = none) (D : ZipApart z TI TO i1 i2 l1 l2)
    (hz : IsZipH st s.heap z TI TO T f) (hT : s.heap.get? T = some oT) (hTI : IsPair s.heap TI (.ref i1) (.ref i2))
    (h1 : ItAt ka s.heap i1 l1 k1) (h2 : ItAt kb s.heap i2 l2 k2) (hl1 : SqAt ka s.heap l1 xs) (hl2 : SqAt kb s.heap l2 ys) (hend : if st then xs[k1]? = none ∧ ys[k2]? = none else xs[k1]? = none ∨ ys[k2]? = none)
    (hE : ∀ h' e, (∀ c o, c ≠ z → c ≠ i1 → c ≠ i2 → s.heap.get? c = some o → h'.get? c = some o) → (∃ o, h'.get? e = some o ∧ o.cls = .type "StopIteration") → E (.ref e) { s with heap := h' }) :
    wpAny (model prog w) A (Builtin.«zip.__next__» ⟨[.ref z], []⟩) Q E s := by
  show wpAny _ _ (field (.ref z) 2 >>= _) _ _ _
  refine wpAny_bind (wpAny_field hz rfl (x := .bool st) rfl ?_)
  show wpAny _ _ (field (.ref z) 3 >>= _) _ _ _
  refine wpAny_bind (wpAny_field hz rfl (x := .ref TI) rfl ?_)
  refine wpAny_bind (wpAny_seqItems hTI rfl ?_)
  show wpAny _ _ (Builtin.SmallTypes.ownedTupleIsFree (.ref z) >>= _) _ _ _
  refine wpAny_bind (zip_heldB hz hT fun h₁ hz₁ hs₁ => ?_)
  rw [if_neg Bool.false_ne_true]
  have es : (Value.bool st == Value.bool true) = st := by cases st <;> rfl
  rw [es]
  refine wpAny_bind ?_
  rw [← Array.forIn_toList]
  simp only [List.forIn_cons, List.forIn_nil]
  refine wpAny_bind (wpAny_bind (wpAny_holding ?_))
  cases st with
  | false =>
    show wpAny _ _ (Builtin.SmallTypes.nextOf (.ref i1) >>= _) _ _ _
    cases hx : xs[k1]? with
    | none =>
      refine wpAny_bind (nextOf_seq_end (s := { s with heap := h₁ }) hh (h1.extBut hs₁.extBut D.i1z) (hl1.extBut hs₁.extBut D.l1z) hx fun h₂ e hs₂ he => ?_)
      exact hE h₂ e (fun c o c1 c2 _ x => hs₂ _ _ c2 (hs₁.extBut _ _ c1 x)) he
    | some x =>
      have hy : ys[k2]? = none := by
        rw [if_neg Bool.false_ne_true, hx] at hend
        exact hend.resolve_left (fun z => nomatch z)
      refine wpAny_bind (nextOf_seq_item (s := { s with heap := h₁ }) (h1.extBut hs₁.extBut D.i1z) (hl1.extBut hs₁.extBut D.l1z) hx fun h₂ h1₂ hs₂ => wpAny_pure ?_)
      refine wpAny_pure ?_
      refine wpAny_bind (wpAny_bind (wpAny_holding ?_))
      show wpAny _ _ (Builtin.SmallTypes.nextOf (.ref i2) >>= _) _ _ _
      refine wpAny_bind (nextOf_seq_end (s := { s with heap := h₂ }) hh ((h2.extBut hs₁.extBut D.i2z).extBut hs₂.extBut D.i12.symm) ((hl2.extBut hs₁.extBut D.l2z).extBut hs₂.extBut D.l2i1) hy fun h₃ e hs₃ he => ?_)
      exact hE h₃ e (fun c o c1 c2 c3 x => hs₃ _ _ c3 (hs₂.extBut _ _ c2 (hs₁.extBut _ _ c1 x))) he
  | true =>
    rw [if_pos rfl] at hend
    obtain ⟨hx, hy⟩ := hend
    show wpAny _ _ (Builtin.SmallTypes.nextOrEnd (.ref i1)) _ _ _
    refine nextOrEnd_end (s := { s with heap := h₁ }) hh (h1.extBut hs₁.extBut D.i1z) (hl1.extBut hs₁.extBut D.l1z) hx fun h₂ hs₂ => ?_
    dsimp only
    refine wpAny_bind ?_
    show wpAny _ _ ((forIn (m := Sem) (([Value.ref i1, Value.ref i2].drop 1).zipIdx 1) () _) >>= _) _ _ _
    simp only [List.drop_succ_cons, List.drop_zero, List.zipIdx_cons, List.zipIdx_nil, List.forIn_cons, List.forIn_nil]
    refine wpAny_bind (wpAny_bind (wpAny_bind ?_))
    have k₂ : ∀ c o, c ≠ z → c ≠ i1 → s.heap.get? c = some o → h₂.get? c = some o := fun c o c1 c2 x => hs₂ _ _ c2 (hs₁.extBut _ _ c1 x)
    refine nextOrEnd_end (s := { s with heap := h₂ }) hh ((h2.extBut hs₁.extBut D.i2z).extBut hs₂ D.i12.symm) ((hl2.extBut hs₁.extBut D.l2z).extBut hs₂ D.l2i1) hy fun h₄ hs₄ => ?_
    simp only [Option.isSome_none, Bool.false_eq_true, if_false]
    refine wpAny_pure (wpAny_pure ?_)
    refine wpAny_bind (wpAny_rule ?_)
    unfold Builtin.SmallTypes.stopIteration
    refine wpAny_bind ?_
    simp only [newExc, newTuple]
    refine wpAny_bind (wpAny_newObj_type ?_ (by size_fits))
    refine wpAny_bind (m := firstArgMember _ _) (wpAny_of_eq (a := Value.none) (by first | rfl | (simp only [firstArgMember]; rfl)) ?_)
    refine wpAny_newObj_type ?_ (by size_fits)
    simp only [raiseNew]
    refine wpAny_bind (wpAny_handled ?_)
    rw [hh]
    refine wpAny_bind (wpAny_pure (wpAny_throw ?_))
    exact hE _ _ (fun c o c1 c3 c4 x => Heap.get?_push_of_some _ (Heap.get?_push_of_some _ (hs₄ _ _ c4 (k₂ c o c1 c3 x)))) ⟨_, Heap.get?_push_size _ rfl, rfl⟩
theorem pyNext_zipH_item {z TI TO T i1 i2 l1 l2 : Addr} {f : Bool} {oT : Obj} {k1 k2 : Nat} {xs ys : Array Value} {x y : Value} {Q : Option Value → Shared → Prop} (D : ZipApart z TI TO i1 i2 l1 l2)
    (hz : IsZipH st s.heap z TI TO T f) (hT : s.heap.get? T = some oT) (hTI : IsPair s.heap TI (.ref i1) (.ref i2))
    (h1 : ItAt ka s.heap i1 l1 k1) (h2 : ItAt kb s.heap i2 l2 k2) (hl1 : SqAt ka s.heap l1 xs) (hl2 : SqAt kb s.heap l2 ys) (hx : xs[k1]? = some x) (hy : ys[k2]? = some y)
    (hQ : ∀ h', IsZipH st h' z TI TO T true → ItAt ka h' i1 l1 (k1 + 1) → ItAt kb h' i2 l2 (k2 + 1) → IsPair h' s.heap.objs.size x y → h'.objs.size = s.heap.objs.size + 1 →
      (∀ c o, c ≠ z → c ≠ i1 → c ≠ i2 → s.heap.get? c = some o → h'.get? c = some o) → Q (some (.ref s.heap.objs.size)) { s with heap := h' }) :
    wpAny (model prog w) A (pyNext (.ref z)) Q E s := by
  have hTy : s.TypeIs (.ref z) "zip" := ⟨_, hz, rfl⟩
  unfold pyNext
  exact wpAny_bind (wpAny_attempt (wpAny_callSpecial?_slot (name := Str.ofString "__next__") hTy F.slot_zip_next
    (wpAny_call_entry F.slot_zip_next hTy F.entry_zip_next
      (zipH_next_item D hz hT hTI h1 h2 hl1 hl2 hx hy fun h' a1 a3 a4 a5 a6 a7 => wpAny_pure (hQ h' a1 a3 a4 a5 a6 a7)) (F.args_zip_next_1 _))))
theorem pyNext_zipH_end {z TI TO T i1 i2 l1 l2 : Addr} {f : Bool} {oT : Obj} {k1 k2 : Nat} {xs ys : Array Value} {Q : Option Value → Shared → Prop} (hh : A.handled = none) (D : ZipApart z TI TO i1 i2 l1 l2)
    (hz : IsZipH st s.heap z TI TO T f) (hT : s.heap.get? T = some oT) (hTI : IsPair s.heap TI (.ref i1) (.ref i2))
    (h1 : ItAt ka s.heap i1 l1 k1) (h2 : ItAt kb s.heap i2 l2 k2) (hl1 : SqAt ka s.heap l1 xs) (hl2 : SqAt kb s.heap l2 ys) (hend : if st then xs[k1]? = none ∧ ys[k2]? = none else xs[k1]? = none ∨ ys[k2]? = none)
    (hQ : ∀ h', (∀ c o, c ≠ z → c ≠ i1 → c ≠ i2 → s.heap.get? c = some o → h'.get? c = some o) → Q none { s with heap := h' }) : wpAny (model prog w) A (pyNext (.ref z)) Q E s := by
  have hTy : s.TypeIs (.ref z) "zip" := ⟨_, hz, rfl⟩
  unfold pyNext
  refine wpAny_bind (wpAny_attempt (wpAny_callSpecial?_slot (name := Str.ofString "__next__") hTy F.slot_zip_next
    (wpAny_call_entry F.slot_zip_next hTy F.entry_zip_next (zipH_next_end hh D hz hT hTI h1 h2 hl1 hl2 hend fun h' e hk he => ?_) (F.args_zip_next_1 _))))
  obtain ⟨o, ho, hc⟩ := he
  refine wpAny_bind (wpAny_isInstance (T := "StopIteration") (b := true) ⟨o, ho, hc⟩ isSubtype_stop ?_)
  exact wpAny_pure (hQ _ hk)
end
/-- how the zip stands ahead of turn i: nothing handed out yet, or its first pair, which is still there -/
def ZSt (st ka kb : Bool) (z TI TO i1 i2 a b : Addr) (H : Hp) (i : Nat) (h : Heap) : Prop :=
  IsPair h TI (.ref i1) (.ref i2) ∧ ItAt ka h i1 a i ∧ ItAt kb h i2 b i ∧ ((IsZipB st h z TI TO .none ∧ ∃ x y, IsPair h TO x y) ∨ ∃ (T : Addr) (f : Bool) (x y : V), IsZipH st h z TI TO T f ∧ H T = some (.tup [x, y]))
abbrev zch (z TI TO i1 i2 : Addr) : List Addr := [z, TI, TO, i1, i2]
theorem ItAt.lt {k : Bool} {h : Heap} {it l : Addr} {n : Nat} (a : ItAt k h it l n) : it < h.objs.size := by
  obtain ⟨o, e, _⟩ := a.obj
  exact Heap.lt_size e
end RZ
namespace Dk
open PySem PySem.Spec PyProof.Rows L2 RZ
abbrev prZ (d e : D) : D := .tup [d, e]
section
variable {X : Cx} {W : Wd} {pins : List (Addr × Obj)} {σ : L2.St} {I0 H0 : Hp} {st ka kb : Bool} {z TI TO i1 i2 a b S : Addr} {vs ws : List V} {ds es : List D}
/-- what is there ahead of turn i -/
structure ZLst (X : Cx) (W : Wd) (pins : List (Addr × Obj)) (σ : L2.St) (I0 H0 : Hp) (st ka kb : Bool) (z TI TO i1 i2 a b S : Addr) (ds es : List D) (i : Nat) (s : Shared) (acc : Array Value) (c : Nat) (I H : Hp) (ps : List V) : Prop where
  J : L2.Inv X pins σ H s
  sp : Stp W I0 H0 I H
  ia : I S = none
  ha : H S = some (isO S (seqObj "list" acc c))
  v : Vals ps acc.toList
  r : Reps X.K I ps ((List.zipWith prZ ds es).take i)
  f : ∀ c ∈ zch z TI TO i1 i2, FpOk X pins H c
  zs : ZSt st ka kb z TI TO i1 i2 a b H i s.heap
  l : ∀ c ∈ zch z TI TO i1 i2, c < s.heap.objs.size
theorem zst_move {H H' : Hp} {i : Nat} {h h' : Heap} (t : ZSt st ka kb z TI TO i1 i2 a b H i h) (e : ∀ T x y, H T = some (.tup [x, y]) → H' T = some (.tup [x, y])) (k : ∀ c ∈ zch z TI TO i1 i2, ∀ o, h.get? c = some o → h'.get? c = some o) : ZSt st ka kb z TI TO i1 i2 a b H' i h' := by
  obtain ⟨t1, t2, t3, t4⟩ := t
  refine ⟨k TI (by simp) _ t1, t2.at fun o q => k i1 (by simp) o q, t3.at fun o q => k i2 (by simp) o q, ?_⟩
  rcases t4 with ⟨t4, x, y, t5⟩ | ⟨T, f, x, y, t4, t5⟩
  · exact .inl ⟨k z (by simp) _ t4, x, y, k TO (by simp) _ t5⟩
  · exact .inr ⟨T, f, x, y, k z (by simp) _ t4, e _ _ _ t5⟩
theorem vals_snoc {ps : List V} {us : List Value} {v : V} {u : Value} (h : Vals ps us) (r : RelV v u) : Vals (ps ++ [v]) (us ++ [u]) := by
  induction h with
  | nil => exact .cons r .nil
  | cons q _ ih => exact .cons q ih
theorem sqI_at {K : PySem.W.Frag} {k : Bool} {I : Hp} {a : Addr} {vs : List V} (h : SqI K k I0 a vs) (s : Same I0 I) : SqI K k I a vs := by
  cases k
  · exact Same.seqT s (show SqT K I0 a vs from h)
  · exact s _ _ (show I0 a = some (.lst vs) from h)
theorem zip_loop (hc : X.calm = true) (D : ZipApart z TI TO i1 i2 a b) {res : Value} {A : Around} {R : Result → Shared → Prop} (hA : A.in1.handled = none) (hz : (List.zipWith prZ ds es).length ≤ 1000) (hl : st = true → ds.length = es.length)
    (h1 : SqI X.K ka I0 a vs) (r1 : Reps X.K I0 vs ds) (h2 : SqI X.K kb I0 b ws) (r2 : Reps X.K I0 ws es) (mS : ¬ W.mv S) (h0S : H0 S = none) (hSc : S ∉ zch z TI TO i1 i2)
    (hR : ∀ (s' : Shared) (acc : Array Value) (c : Nat) (I H : Hp) (ps : List V), L2.Inv X pins σ H s' → Stp W I0 H0 I H → I S = none → H S = some (isO S (seqObj "list" acc c)) → Vals ps acc.toList → Reps X.K I ps (List.zipWith prZ ds es) → R (.ok (.ret res)) s') :
    ∀ (k i : Nat) (s : Shared) (acc : Array Value) (c : Nat) (I H : Hp) (ps : List V), (List.zipWith prZ ds es).length - i = k → i ≤ (List.zipWith prZ ds es).length → ZLst X W pins σ I0 H0 st ka kb z TI TO i1 i2 a b S ds es i s acc c I H ps →
      codeAny (model X.prog X.w) A (.builtin "list.extend.loop" ⟨[.ref S, .ref z, res], []⟩) R s := by
  have hwl : (List.zipWith prZ ds es).length = min ds.length es.length := List.length_zipWith
  intro k
  induction k with
  | zero =>
    intro i s acc c I H ps hk hi Z
    have hin : i = (List.zipWith prZ ds es).length := by omega
    refine codeAny_builtin F.entry_extend_loop ?_
    rw [Around.under_plainId F.plain_extend_loop _]
    show wpAny _ A.in1 (pyNext (.ref z) >>= _) _ _ s
    refine wpAny_bind ?_
    obtain ⟨its, rv, p⟩ := ((sqI_at h1 Z.sp.i).to Z.sp.st.sub).at Z.J
    obtain ⟨its2, rv2, p2⟩ := ((sqI_at h2 Z.sp.i).to Z.sp.st.sub).at Z.J
    have l1 := rv.length
    have l2 := rv2.length
    have l3 := r1.length
    have l4 := r2.length
    have hend : if st then its.toArray[i]? = none ∧ its2.toArray[i]? = none else its.toArray[i]? = none ∨ its2.toArray[i]? = none := by
      cases st
      · rw [if_neg Bool.false_ne_true]
        by_cases q : ds.length ≤ es.length
        · exact .inl (by simp; omega)
        · exact .inr (by simp; omega)
      · rw [if_pos rfl]
        have := hl rfl
        exact ⟨by simp; omega, by simp; omega⟩
    have fin : ∀ h' : Heap, (∀ c o, c ∉ zch z TI TO i1 i2 → s.heap.get? c = some o → h'.get? c = some o) → R (.ok (.ret res)) { s with heap := h' } := fun h' hk => by
      have rr := Z.r
      rw [hin, List.take_length] at rr
      exact hR _ acc c I H ps (Z.J.turnedL (t' := s.toks) hk Z.f) Z.sp Z.ia Z.ha Z.v rr
    obtain ⟨hTI, t1, t2, hst⟩ := Z.zs
    rcases hst with ⟨hzz, x, y, hTO⟩ | ⟨T, f, x, y, hzz, hT⟩
    · refine pyNext_zipG_end hA D hzz hTI hTO t1 t2 p p2 hend fun h' hk => wpAny_pure (fin h' fun c o hc e => hk c o (fun q => hc (by simp [q])) (fun q => hc (by simp [q])) (fun q => hc (by simp [q])) (fun q => hc (by simp [q])) e)
    · obtain ⟨_, _, _, oT, eT, _⟩ := Z.J.hok T _ hT
      refine pyNext_zipH_end hA D hzz eT hTI t1 t2 p p2 hend fun h' hk => wpAny_pure (fin h' fun c o hc e => hk c o (fun q => hc (by simp [q])) (fun q => hc (by simp [q])) (fun q => hc (by simp [q])) e)
  | succ k ih =>
    intro i s acc c I H ps hk hi Z
    have hlt : i < (List.zipWith prZ ds es).length := by omega
    refine codeAny_builtin F.entry_extend_loop ?_
    rw [Around.under_plainId F.plain_extend_loop _]
    show wpAny _ A.in1 (pyNext (.ref z) >>= _) _ _ s
    refine wpAny_bind ?_
    obtain ⟨its, rv, p⟩ := ((sqI_at h1 Z.sp.i).to Z.sp.st.sub).at Z.J
    obtain ⟨its2, rv2, p2⟩ := ((sqI_at h2 Z.sp.i).to Z.sp.st.sub).at Z.J
    have l3 := r1.length
    have l4 := r2.length
    obtain ⟨x, ex, rx⟩ := r1.get (show ds[i]? = some ds[i] from by rw [List.getElem?_eq_getElem (by omega)])
    obtain ⟨y, ey, ry⟩ := r2.get (show es[i]? = some es[i] from by rw [List.getElem?_eq_getElem (by omega)])
    obtain ⟨u, hu, ru⟩ := rv.get ex
    obtain ⟨u2, hu2, ru2⟩ := rv2.get ey
    -- behind the turn
    have step : ∀ (h' : Heap), (∀ c o, c ∉ zch z TI TO i1 i2 → s.heap.get? c = some o → h'.get? c = some o) → h'.objs.size = s.heap.objs.size + 1 → IsPair h' s.heap.objs.size u u2 → (∀ H', (∀ T x y, H T = some (.tup [x, y]) → H' T = some (.tup [x, y])) → H' s.heap.objs.size = some (.tup [x, y]) → ZSt st ka kb z TI TO i1 i2 a b H' (i + 1) h') →
        wpAny (model X.prog X.w) A.in1 (updateSeq S (·.push (.ref s.heap.objs.size)) >>= fun _ => again (.builtin "list.extend.loop" ⟨[.ref S, .ref z, res], []⟩)) (fun fin s' => match fin with | .done f => R (.ok f) s' | .again c' => c'.quiet = true ∧ codeAny (model X.prog X.w) A c' R s') (fun e s' => R (.error e) s') { s with heap := h' } := by
      intro h' hk hsz hp hZ
      have hT0 : H s.heap.objs.size = none := Z.J.hok.fresh (Nat.le_refl _)
      have J1 := Z.J.turnedNew (t' := s.toks) (T := s.heap.objs.size) (ob := .tup [x, y]) hk Z.f (Nat.le_refl _) ⟨by show 2 ≤ sizeLine; decide, [u, u2], .cons ru (.cons ru2 .nil), ⟨_, hp, rfl, _, rfl⟩⟩
      have S1 := Z.sp.trans (Z.sp.st.laid hT0 (.tup [x, y]))
      have sT : S ≠ s.heap.objs.size := fun q => by
        have := Z.ha
        rw [q, hT0] at this
        cases this
      have ha1 : (upd H s.heap.objs.size (.tup [x, y])) S = some (isO S (seqObj "list" acc c)) := by rw [upd_ne sT]; exact Z.ha
      have hS1 := isO_at J1 ha1
      have hal : acc.toList.length = i := by
        have e1 := Z.v.length
        have e2 := Z.r.length
        rw [List.length_take] at e2
        omega
      have hal2 : acc.size = i := by rw [← Array.length_toList]; exact hal
      obtain ⟨c2, hS2⟩ : ∃ c2, (h'.update S (Obj.mapSeq (·.push (Value.ref s.heap.objs.size)))).get? S = some (seqObj "list" (acc.push (.ref s.heap.objs.size)) c2) := ⟨_, get?_update_seq hS1 (·.push (Value.ref s.heap.objs.size))⟩
      have oth : ∀ c w, c ≠ S → h'.get? c = some w → (h'.update S (Obj.mapSeq (·.push (Value.ref s.heap.objs.size)))).get? c = some w := fun c w hc e => (Heap.get?_update_other h' (Obj.mapSeq (·.push (Value.ref s.heap.objs.size))) (Ne.symm hc)).trans e
      have J2 := isO_set (t' := s.toks) J1 ha1 (fun c w hc e => oth c w hc e) hS2
      have ia1 : (upd I s.heap.objs.size (.tup [x, y])) S = none := by rw [upd_ne sT]; exact Z.ia
      refine wpAny_bind (wpAny_updateSeq hS1 rfl (wpAny_pure ⟨plainId_quiet F.plain_extend_loop _, ?_⟩) (by rw [hal2]; exact Nat.le_trans (by omega : i ≤ 1000) (by decide)) (by show (acc.push _).size ≤ sizeLine + 1; rw [Array.size_push, hal2]; exact Nat.le_trans (by omega : i + 1 ≤ 1001) (by decide)))
      refine ih (i + 1) _ (acc.push (.ref s.heap.objs.size)) c2 (upd I s.heap.objs.size (.tup [x, y])) (upd (upd H s.heap.objs.size (.tup [x, y])) S (isO S (seqObj "list" (acc.push (.ref s.heap.objs.size)) c2))) (ps ++ [.ref s.heap.objs.size]) (by omega) hlt ⟨J2, S1.write _ ia1 mS h0S, ia1, upd_same, ?_, ?_, fun c hc => ?_, ?_, fun c hc => ?_⟩
      · rw [Array.toList_push]
        exact vals_snoc Z.v rfl
      · have ez : (List.zipWith prZ ds es).take (i + 1) = (List.zipWith prZ ds es).take i ++ [prZ ds[i] es[i]] := by
          rw [List.take_succ_eq_append_getElem hlt, List.getElem_zipWith]
        rw [ez]
        have si : Same I (upd I s.heap.objs.size (.tup [x, y])) := (Z.sp.st.laid hT0 (.tup [x, y])).i
        have s0 : Same I0 (upd I s.heap.objs.size (.tup [x, y])) := Same.trans Z.sp.i si
        exact (Z.r.mono si).append (.cons (.tup (.of upd_same) (.cons (rx.mono s0) (.cons (ry.mono s0) .nil))) .nil)
      · obtain ⟨f0, f1⟩ := Z.f c hc
        refine ⟨?_, f1⟩
        have cS : c ≠ S := fun q => hSc (q ▸ hc)
        rw [upd_ne cS, upd_ne (Nat.ne_of_lt (Z.l c hc))]
        exact f0
      · have nT : ∀ T (o : HO), H T = some o → T ≠ s.heap.objs.size := fun T o e => ne_of_none e hT0
        have nS : ∀ T x y, H T = some (.tup [x, y]) → T ≠ S := fun T x y e q => by
          rw [q, Z.ha] at e
          cases e
        refine zst_move (hZ _ (fun T x' y' e => ?_) ?_) (fun T x' y' e => e) fun c hc o e => oth c o (fun q => hSc (q ▸ hc)) e
        · rw [upd_ne (nS _ _ _ e), upd_ne (nT _ _ e)]; exact e
        · rw [upd_ne (Ne.symm sT), upd_same]
      · show c < (h'.update S _).objs.size
        rw [Heap.size_update, hsz]
        exact Nat.lt_succ_of_lt (Z.l c hc)
    obtain ⟨hTI, t1, t2, hst⟩ := Z.zs
    have lz := Z.l z (by simp)
    rcases hst with ⟨hzz, x0, y0, hTO⟩ | ⟨T, f, x0, y0, hzz, hT⟩
    · refine pyNext_zipG_item D hzz hTI hTO t1 t2 p p2 (x := u) (y := u2) (by simpa using hu) (by simpa using hu2) fun h' z' TO' h1' h2' hp hsz hk => step h' (fun c o hc e => hk c o (fun q => hc (by simp [q])) (fun q => hc (by simp [q])) (fun q => hc (by simp [q])) (fun q => hc (by simp [q])) e) hsz hp fun H' hH hT' => ?_
      exact ⟨hk _ _ D.TIz D.TITO D.TIi1 D.TIi2 hTI, h1', h2', .inr ⟨_, false, x, y, z', hT'⟩⟩
    · obtain ⟨_, _, _, oT, eT, _⟩ := Z.J.hok T _ hT
      refine pyNext_zipH_item D hzz eT hTI t1 t2 p p2 (x := u) (y := u2) (by simpa using hu) (by simpa using hu2) fun h' z' h1' h2' hp hsz hk => step h' (fun c o hc e => hk c o (fun q => hc (by simp [q])) (fun q => hc (by simp [q])) (fun q => hc (by simp [q])) e) hsz hp fun H' hH hT' => ?_
      exact ⟨hk _ _ D.TIz D.TIi1 D.TIi2 hTI, h1', h2', .inr ⟨T, true, x0, y0, z', hH _ _ _ hT⟩⟩
/-- list(z), z a zip just made -/
theorem call_listZip {pins : List (Addr × Obj)} {s : Shared} {I H : Hp} {E : Value → Shared → Prop} {Q : Value → Shared → Prop} (hc : X.calm = true) (J : L2.Inv X pins σ H s) (St : StI W I H) (D : ZipApart z TI TO i1 i2 a b) (hz : (List.zipWith prZ ds es).length ≤ 1000) (hl : st = true → ds.length = es.length)
    (h1 : SqI X.K ka I a vs) (r1 : Reps X.K I vs ds) (h2 : SqI X.K kb I b ws) (r2 : Reps X.K I ws es) (hf : ∀ c ∈ zch z TI TO i1 i2, FpOk X pins H c) (lf : ∀ c ∈ zch z TI TO i1 i2, c < s.heap.objs.size) (hZ : ZSt st ka kb z TI TO i1 i2 a b H 0 s.heap) (hzz : IsZipB st s.heap z TI TO .none)
    (h : ∀ (s' : Shared) (I' H' : Hp) (p : Addr), L2.Inv X pins σ H' s' → Stp W I H I' H' → Rep X.K I' (.ref p) (.lst (List.zipWith prZ ds es)) → Q (.ref p) s') : wpAny (model X.prog X.w) X.A (call (.type "list") [.ref z]) Q E s := by
  have hS0 : H s.heap.objs.size = none := J.hok.fresh (Nat.le_refl _)
  have mS : ¬ W.mv s.heap.objs.size := fun m => W.live St.inv m hS0
  have iS : I s.heap.objs.size = none := St.free hS0
  have hSc : s.heap.objs.size ∉ zch z TI TO i1 i2 := fun m => Nat.lt_irrefl _ (lf _ m)
  refine callType_codes (Q₁ := fun obj s₁ => obj = .ref s.heap.objs.size ∧ s₁ = { s with heap := s.heap.push { cls := .type "list", data := .seq #[] } }) F.called_list (F.typeCall_list_1 _) F.entry_list_init
    (code_list_new _ ⟨rfl, rfl⟩) fun obj s₁ h₁ => ?_
  obtain ⟨rfl, rfl⟩ := h₁
  have oS : (s.heap.push (seqObj "list" #[] 0)).get? s.heap.objs.size = some (seqObj "list" #[] 0) := Heap.get?_push_size _ rfl
  have keep : ∀ b o, s.heap.get? b = some o → (s.heap.push (seqObj "list" #[] 0)).get? b = some o := fun _ _ e => Heap.get?_push_of_some _ e
  have J1 := J.laid (t' := s.toks) keep (Nat.le_refl _) (isO_ok (H := upd H s.heap.objs.size (isO s.heap.objs.size (seqObj "list" #[] 0))) oS)
  refine ⟨⟨_, oS, rfl⟩, F.args_list_init_2 _ _, ?_⟩
  show wpAny _ X.A.in1.in1 (do let old ← Builtin.List.listItems (.ref s.heap.objs.size); Builtin.List.listUpdate (.ref s.heap.objs.size) (fun _ => #[]); letGo old.toList.reverse; Builtin.List.listExtendWith (.ref s.heap.objs.size) (.ref z) .none) _ _ { s with heap := s.heap.push (seqObj "list" #[] 0) }
  refine wpAny_bind (listItems_at oS rfl ?_)
  refine wpAny_bind (listUpdate_at oS rfl ?_ (Nat.zero_le _) (Nat.zero_le _))
  obtain ⟨c1, oS1⟩ : ∃ c1, ((s.heap.push (seqObj "list" #[] 0)).update s.heap.objs.size (Obj.mapSeq fun _ => (#[] : Array Value))).get? s.heap.objs.size = some (seqObj "list" #[] c1) := ⟨_, get?_update_seq oS fun _ => #[]⟩
  have oth1 : ∀ c u, c ≠ s.heap.objs.size → (s.heap.push (seqObj "list" #[] 0)).get? c = some u → ((s.heap.push (seqObj "list" #[] 0)).update s.heap.objs.size (Obj.mapSeq fun _ => (#[] : Array Value))).get? c = some u := fun c u hc e => (Heap.get?_update_other _ (Obj.mapSeq fun _ => (#[] : Array Value)) (Ne.symm hc)).trans e
  have J2 := isO_set (t' := s.toks) J1 upd_same oth1 oS1
  refine wpAny_bind (wpAny_letGo ?_)
  have lz : z ≠ s.heap.objs.size := Nat.ne_of_lt (lf z (by simp))
  have hz2 : IsZipB st ((s.heap.push (seqObj "list" #[] 0)).update s.heap.objs.size (Obj.mapSeq fun _ => (#[] : Array Value))) z TI TO .none := oth1 _ _ lz (keep _ _ hzz)
  unfold Builtin.List.listExtendWith
  refine wpAny_bind (wpAny_typeOf (T := "zip") ⟨_, hz2, rfl⟩ ?_)
  have q1 : Builtin.List.listSameRef (.ref s.heap.objs.size) (.ref z) = false := by simp [Builtin.List.listSameRef, Ne.symm lz]
  have q2 : (Value.type "zip" == Value.type "list") = false := by decide
  have q3 : (Value.type "zip" == Value.type "tuple") = false := by decide
  rw [q1, q2, q3, Bool.or_false, Bool.or_false, if_neg Bool.false_ne_true]
  refine wpAny_bind (pyIter_zipG hz2 ?_)
  refine wpAny_bind (wpAny_holding ?_)
  unfold Builtin.List.listLengthHint
  refine wpAny_bind (wpAny_specialOf (T := "zip") ⟨_, hz2, rfl⟩ zipNoLen ?_)
  show wpAny _ X.A.in1.in1 (specialOf (Value.ref z) (Str.ofString "__length_hint__") >>= _) _ _ _
  refine wpAny_bind (wpAny_specialOf (T := "zip") ⟨_, hz2, rfl⟩ zipNoHint ?_)
  refine wpAny_pure ?_
  show wpAny _ X.A.in1.in1 (rule "list.extend.makes-room" >>= fun _ => Builtin.List.listTouch (.ref s.heap.objs.size) >>= fun _ => again (.builtin "list.extend.loop" ⟨[.ref s.heap.objs.size, .ref z, .none], []⟩)) _ _ _
  refine wpAny_bind (wpAny_rule ?_)
  refine wpAny_bind ?_
  show wpAny _ X.A.in1.in1 (updateSeq s.heap.objs.size (·.push .none) >>= fun _ => updateSeq s.heap.objs.size (·.pop)) _ _ _
  refine wpAny_bind (wpAny_updateSeq oS1 rfl ?_)
  obtain ⟨c2, oS2⟩ : ∃ c2, (((s.heap.push (seqObj "list" #[] 0)).update s.heap.objs.size (Obj.mapSeq fun _ => (#[] : Array Value))).update s.heap.objs.size (Obj.mapSeq (·.push Value.none))).get? s.heap.objs.size = some (seqObj "list" #[Value.none] c2) := ⟨_, get?_update_seq oS1 (·.push Value.none)⟩
  refine wpAny_updateSeq (hz := by seq_fits) oS2 rfl ?_
  obtain ⟨c3, oS3⟩ : ∃ c3, ((((s.heap.push (seqObj "list" #[] 0)).update s.heap.objs.size (Obj.mapSeq fun _ => (#[] : Array Value))).update s.heap.objs.size (Obj.mapSeq (·.push Value.none))).update s.heap.objs.size (Obj.mapSeq (·.pop))).get? s.heap.objs.size = some (seqObj "list" #[] c3) := ⟨_, get?_update_seq oS2 (·.pop)⟩
  have oth3 : ∀ c u, c ≠ s.heap.objs.size → ((s.heap.push (seqObj "list" #[] 0)).update s.heap.objs.size (Obj.mapSeq fun _ => (#[] : Array Value))).get? c = some u → ((((s.heap.push (seqObj "list" #[] 0)).update s.heap.objs.size (Obj.mapSeq fun _ => (#[] : Array Value))).update s.heap.objs.size (Obj.mapSeq (·.push Value.none))).update s.heap.objs.size (Obj.mapSeq (·.pop))).get? c = some u := fun c u hc e =>
    (Heap.get?_update_other _ _ (Ne.symm hc)).trans ((Heap.get?_update_other _ _ (Ne.symm hc)).trans e)
  have J3 := isO_set (t' := s.toks) J2 upd_same oth3 oS3
  rw [upd_upd, upd_upd] at J3
  have St3 := St.stp.write (isO s.heap.objs.size (seqObj "list" #[] c3)) iS mS hS0
  refine wpAny_pure ⟨plainId_quiet F.plain_extend_loop _, ?_⟩
  refine zip_loop (A := X.A.in1) hc D (J.ok.hd hc) hz hl h1 r1 h2 r2 mS hS0 hSc (fun s' acc c I' H' ps J' S' ia' ha' v' r' => ?_) _ 0 _ #[] c3 I _ [] rfl (Nat.zero_le _) ⟨J3, St3, iS, upd_same, .nil, .nil, fun c hc => ?_, ?_, fun c hc => ?_⟩
  · have oa := isO_at J' ha'
    have hlen : ps.length ≤ sizeLine := by rw [r'.length]; exact Nat.le_trans hz (by decide)
    have J4 := J'.write (x := s.heap.objs.size) (e := s.heap.objs.size) (o := .lst ps) (h' := s'.heap) (t' := s'.toks) (by rw [ha']; exact trivial) (.inl rfl) (fun _ _ _ e => e) ⟨_, oa⟩ ⟨hlen, acc.toList, c, v', by rw [Array.toArray_toList]; exact oa⟩
    have S4 := (S'.write (.lst ps) ia' mS hS0).freeze ia' mS hS0 upd_same
    have sI : Same I' (upd I' s.heap.objs.size (.lst ps)) := fun b u e => by rw [upd_ne (ne_of_none e ia')]; exact e
    exact ⟨rfl, h _ _ _ _ J4 S4 (.lst upd_same (r'.mono sI))⟩
  · obtain ⟨f0, f1⟩ := hf c hc
    have cS : c ≠ s.heap.objs.size := fun q => hSc (q ▸ hc)
    exact ⟨by rw [upd_ne cS]; exact f0, f1⟩
  · refine zst_move hZ (fun T x y e => by rw [upd_ne (ne_of_none e hS0)]; exact e) fun c hc o e => oth3 _ _ (fun q => hSc (q ▸ hc)) (oth1 _ _ (fun q => hSc (q ▸ hc)) (keep _ _ e))
  · rw [Heap.size_after_update, Heap.size_after_update, Heap.size_after_update, Heap.size_push]
    exact Nat.lt_succ_of_lt (lf c hc)
end
def zipLD (st : Bool) (ds : List D) (Q : D → Prop) : Prop := zipGD st ds fun rs => rs.length ≤ 1000 ∧ Q (.lst rs)
theorem zipLD.mono {st : Bool} {ds : List D} {Q Q' : D → Prop} (k : ∀ d, Q d → Q' d) : zipLD st ds Q → zipLD st ds Q' := zipGD.mono fun _ ⟨l, q⟩ => ⟨l, k _ q⟩
section
variable {F : Fx} {X : Cx} {e e2 : Expr} {ta : DAT} {p p2 pos zpos : Pos} {pins : List (Addr × Obj)} {σ : L2.St} {st : Bool}
theorem zip_then {s : Shared} {I H : Hp} {vs : List V} {ds : List D} {us : List Value} {Q : VK} {E : Value → Shared → Prop} (hc : X.calm = true) (J : L2.Inv X pins σ H s) (St : StI F.W I H) (rs : Reps X.K I vs ds) (rv : Vals vs us) (q : zipLD st ds (fin F X.K I H Q))
    {A : Around} {Q2 : Value → Shared → Prop} (h : ∀ (z : Addr) (s' : Shared), wpAny (model X.prog X.w) X.A (call (.type "list") [.ref z]) (EP X pins σ Q) E s' → Q2 (.ref z) s') : wpAny (model X.prog X.w) A (call (.type "zip") us (zipKw st)) Q2 E s := by
  obtain ⟨d, e, xs, ys, rfl, h1, h2, hl, hz, q⟩ := q
  cases rs with
  | cons r1 r2 =>
    cases r2 with
    | cons r2 r3 =>
      cases r3
      obtain ⟨ka, a, ws1, rfl, s1, t1⟩ := seqD_rep h1 r1
      obtain ⟨kb, b, ws2, rfl, s2, t2⟩ := seqD_rep h2 r2
      cases rv with
      | cons v1 v2 =>
        cases v2 with
        | cons v2 v3 =>
          cases v3
          cases v1
          cases v2
          obtain ⟨its, rv, p1⟩ := (s1.to St.sub).at J
          obtain ⟨its2, rv2, p2⟩ := (s2.to St.sub).at J
          refine call_zipG (st := st) p1 p2 fun h' hz' hTI hTO g1 g2 hsz hk => h _ _ ?_
          have J2 : L2.Inv X pins σ H { s with heap := h' } := J.kept (t' := s.toks) hk
          have bound : ∀ c, c ∈ zch (s.heap.objs.size + 4) (s.heap.objs.size + 2) (s.heap.objs.size + 3) s.heap.objs.size (s.heap.objs.size + 1) → s.heap.objs.size ≤ c ∧ c < s.heap.objs.size + 5 := fun c hc => by
            have e' : c = s.heap.objs.size + 4 ∨ c = s.heap.objs.size + 2 ∨ c = s.heap.objs.size + 3 ∨ c = s.heap.objs.size ∨ c = s.heap.objs.size + 1 := by simpa using hc
            have gn : ∀ k : Nat, k < 5 → s.heap.objs.size ≤ s.heap.objs.size + k ∧ s.heap.objs.size + k < s.heap.objs.size + 5 := fun k hk => ⟨Nat.le_add_right _ _, Nat.add_lt_add_left hk _⟩
            rcases e' with q | q | q | q | q <;> rw [q]
            · exact gn 4 (by decide)
            · exact gn 2 (by decide)
            · exact gn 3 (by decide)
            · exact gn 0 (by decide)
            · exact gn 1 (by decide)
          refine call_listZip hc J2 St (PySem.W.ktu_apart s.heap.objs.size a b p1.lt p2.lt) hz hl s1 t1 s2 t2 (fun c hc => J.fpOk (bound c hc).1 (J.hok.fresh (bound c hc).1)) (fun c hc => ?_) ⟨hTI, g1, g2, .inl ⟨hz', _, _, hTO⟩⟩ hz' fun s' I' H' p J' S' r' => ?_
          · show c < h'.objs.size
            rw [hsz]
            exact (bound c hc).2
          · exact ⟨.ref p, H', J', rfl, q _ _ _ S' r'⟩
/-- list(zip(e, e2, strict=True)) -/
theorem de_listZipS {jk : Nat} {pk kp : Pos} (hc : X.calm = true) (hl : X.mg "list" = none) (hm : X.mg "zip" = none) (ha : DA F X [e, e2] ta) (hgl : Gl X "list" := by rfl) (hg : Gl X "zip" := by rfl) (hs : backTo zpos (starEach [e, e2] X.env) = (false, eval e X.env) :: backTo zpos (starEach [e2] X.env) := by rfl) (hpl : (backTo zpos (starEach [e, e2] X.env)).any (·.1) = false := by rfl)
    (na : starEach [Expr.Call (.Name "zip" p2) [e, e2] [⟨some "strict", .Constant (.bool true) jk pk, kp⟩] zpos] X.env = (false, eval (Expr.Call (.Name "zip" p2) [e, e2] [⟨some "strict", .Constant (.bool true) jk pk, kp⟩] zpos) X.env) :: starEach [] X.env := by rfl) :
    DE F X (.Call (.Name "list" p) [.Call (.Name "zip" p2) [e, e2] [⟨some "strict", .Constant (.bool true) jk pk, kp⟩] zpos] [] pos) (fun ρ Q => ta ρ fun ds => zipLD true ds Q) := by
  refine ⟨fun ρ Q Q' k q => ha.mono _ _ _ (fun ds => zipLD.mono k) q, ⟨fun pins s σ H Q J ⟨I, ρ, A, h⟩ => ?_⟩⟩
  refine Call_ (ld_blt J hgl hl PyProof.Rows.boot_list ?_)
  refine PyProof.Rows.callWith_type1 (PyProof.Rows.args_cons ?_ rfl) na rfl
  refine wpAny_Call_Name_kw (ld_blt J hg hm PyProof.Rows.boot_zip ?_ (by decide) (by decide))
  refine callWith_typeK hpl rfl ?_
  rw [hs]
  refine PyProof.Rows.evalArgs_kwB rfl ?_
  rw [← hs]
  have hk : PK X [⟨some "strict", .Constant (.bool true) jk pk, kp⟩] (fun σ H Q => Q [V.bl true] H) := by
    have h1 := pk_cons (X := X) (nm := "strict") (kpos := kp) (pe_bl (X := X) (b := true) (j := jk) (pos := pk)) pk_nil
    exact ⟨fun pos pins s σ H Q J q => h1.run pos pins s σ H Q J q⟩
  refine thn (ha.run.run zpos pins s σ H (fun vs H1 => ∃ (I1 : Hp) (ds : List D), Stp F.W I H I1 H1 ∧ Reps X.K I1 vs ds ∧ zipLD true ds (fin F X.K I H Q)) J ?_) fun us s1 ⟨vs, H1, J1, r1, I1, ds, S1, rs, q⟩ => thn (hk.run zpos pins s1 σ H1 (fun zs H2 => zs = [V.bl true] ∧ H2 = H1) J1 ⟨rfl, rfl⟩) fun ws s2 ⟨zs, H2, J2, rz, ez, eH⟩ => ?_
  · exact rdA_next ha.mono A h fun ds vs I1 H1 q s1 rs => ⟨I1, ds, s1, rs, q⟩
  · subst ez eH
    obtain ⟨w1, rfl, e1⟩ := vals1 rz
    cases (show w1 = Value.bool true from e1)
    refine zip_then (st := true) hc J2 S1.st rs r1 (zipLD.mono (fun d q v I' H' s' r => q v I' H' (S1.trans s') r) q) fun z s' hz => ?_
    exact PyProof.Rows.args_nil hz
end
end Dk
namespace Dk
open PySem L2
/-- the first place of y among texts -/
def tixD (x y : D) (Q : D → Prop) : Prop := ∃ (ys : List Str) (z : Str) (j : Nat), x = .lst (ys.map D.str) ∧ y = .str z ∧ ys[j]? = some z ∧ (∀ m, m < j → ys[m]? ≠ some z) ∧ Q (.int (j : Nat))
theorem tixD.mono {x y : D} {Q Q' : D → Prop} (k : ∀ d, Q d → Q' d) : tixD x y Q → tixD x y Q' := fun ⟨ys, z, j, a, b, c, d, q⟩ => ⟨ys, z, j, a, b, c, d, k _ q⟩
end Dk
namespace Dk
open PySem L2
end Dk
namespace Dk
open PySem L2
end Dk
namespace Dk
open PySem L2
end Dk
namespace PySem.SeqAt
open AutoSeq1 (wpAny_loadPart')
open MeetsSeq MeetsSeq2 MeetsSeq3 SeqRoads2
end PySem.SeqAt
namespace Dk
open PySem L2 PySem.SeqAt
open MeetsSeq MeetsSeq2 MeetsSeq3 SeqRoads2
end Dk
namespace Dk
open PySem L2
open PyProof.Rows (envOfC)
end Dk
namespace Dk
open PySem L2
section
variable {F : Fx} {K : PySem.W.Frag} {I H I' H' : Hp} {ρ ρ' ρ2 : DEnv} {σ σ' σ2 : L2.St}
theorem At.reindex (A : At F K I ρ σ H) (hl : ρ'.length = σ'.length) (φ : Nat → Nat) (inj : ∀ i j, φ i = φ j → i = j) (h : ∀ j e, ρ'[j]? = some (some e) → ρ[φ j]? = some (some e) ∧ σ'[j]? = σ[φ j]?) : At F K I ρ' σ' H := by
  refine ⟨A.stp, hl, fun j e hj => ?_, fun i j e e' v hij h1 h2 o1 o2 hv hv2 => ?_⟩
  · obtain ⟨h1, h2⟩ := h j e hj
    obtain ⟨v, h3, h4⟩ := A.env _ _ h1
    exact ⟨v, by rw [h2, h3], h4⟩
  · obtain ⟨a1, a2⟩ := h i e h1
    obtain ⟨b1, b2⟩ := h j e' h2
    exact A.dis (φ i) (φ j) e e' v (fun z => hij (inj _ _ z)) a1 b1 o1 o2 (by rw [← a2]; exact hv) (by rw [← b2]; exact hv2)
theorem At.left (A : At F K I (ρ ++ ρ2) (σ ++ σ2) H) (hl : ρ.length = σ.length) : At F K I ρ σ H :=
  A.reindex hl id (fun _ _ h => h) fun j e hj => by
    have lt : j < ρ.length := (List.getElem?_eq_some_iff.mp hj).1
    exact ⟨by rw [id, List.getElem?_append_left lt]; exact hj, by rw [id, List.getElem?_append_left (by omega)]⟩
theorem At.put {e : Option Ent} {v : Option V} {i : Nat} (A : At F K I (ρ ++ e :: ρ2) (σ ++ v :: σ2) H) (hl : ρ.length = σ.length) : At F K I (ρ.set i e ++ ρ2) (σ.set i v ++ σ2) H := by
  have l2 := A.len
  simp only [List.length_append, List.length_cons] at l2
  refine A.reindex (by simp only [List.length_append, List.length_set]; omega) (fun j => if j < ρ.length then (if j = i then ρ.length else j) else j + 1) (fun a b hab => ?_) fun j en hj => ?_
  · try simp only at hab
    split at hab <;> split at hab <;> (try split at hab) <;> (try split at hab) <;> omega
  · by_cases lt : j < ρ.length
    · have lt2 : j < σ.length := by omega
      have e1 : (σ.set i v ++ σ2)[j]? = (σ.set i v)[j]? := List.getElem?_append_left (by rw [List.length_set]; exact lt2)
      rw [List.getElem?_append_left (by rw [List.length_set]; exact lt)] at hj
      by_cases hji : j = i
      · subst hji
        rw [List.getElem?_set_self lt] at hj
        rw [List.getElem?_set_self lt2] at e1
        have e2 : (ρ ++ e :: ρ2)[ρ.length]? = some e := by rw [List.getElem?_append_right (Nat.le_refl _), Nat.sub_self]; rfl
        have e3 : (σ ++ v :: σ2)[ρ.length]? = some v := by rw [List.getElem?_append_right (by omega), show ρ.length - σ.length = 0 by omega]; rfl
        simp only [lt, if_true]
        exact ⟨by rw [e2]; exact hj, by rw [e1, e3]⟩
      · rw [List.getElem?_set_ne (Ne.symm hji)] at hj
        rw [List.getElem?_set_ne (Ne.symm hji)] at e1
        simp only [lt, hji, if_true, if_false]
        exact ⟨by rw [List.getElem?_append_left lt]; exact hj, by rw [e1, List.getElem?_append_left lt2]⟩
    · have e1 : (σ.set i v ++ σ2)[j]? = σ2[j - σ.length]? := by rw [List.getElem?_append_right (by rw [List.length_set]; omega), List.length_set]
      have e2 : (σ ++ v :: σ2)[j + 1]? = σ2[j - σ.length]? := by rw [List.getElem?_append_right (by omega), show j + 1 - σ.length = (j - σ.length) + 1 by omega, List.getElem?_cons_succ]
      have e3 : (ρ ++ e :: ρ2)[j + 1]? = ρ2[j - ρ.length]? := by rw [List.getElem?_append_right (by omega), show j + 1 - ρ.length = (j - ρ.length) + 1 by omega, List.getElem?_cons_succ]
      rw [List.getElem?_append_right (by rw [List.length_set]; omega), List.length_set] at hj
      simp only [lt, if_false]
      exact ⟨by rw [e3]; exact hj, by rw [e1, e2]⟩
theorem At.more {d : D} {v : V} (A : At F K I ρ σ H) (r : Rep K I v d) : At F K I (ρ ++ [some (.dat d)]) (σ ++ [some v]) H := by
  have hl := A.len
  refine ⟨A.stp, by simp [hl], fun j e hj => ?_, fun i j e e' w hij h1 h2 o1 o2 => ?_⟩
  · by_cases lt : j < ρ.length
    · rw [List.getElem?_append_left lt] at hj
      obtain ⟨u, a, b⟩ := A.env j e hj
      exact ⟨u, by rw [List.getElem?_append_left (by omega)]; exact a, b⟩
    · rw [List.getElem?_append_right (by omega)] at hj
      have h0 : j - ρ.length = 0 := by
        have := (List.getElem?_eq_some_iff.mp hj).1
        simpa using this
      rw [h0] at hj
      cases hj
      exact ⟨v, by rw [List.getElem?_append_right (by omega), show j - σ.length = 0 by omega]; rfl, .inl ⟨d, rfl, r⟩⟩
  · have own : ∀ (k : Nat) (en : Ent), (ρ ++ [some (Ent.dat d)])[k]? = some (some en) → en.isOwn → k < ρ.length ∧ ρ[k]? = some (some en) := fun k en hk ho => by
      by_cases lt : k < ρ.length
      · rw [List.getElem?_append_left lt] at hk
        exact ⟨lt, hk⟩
      · rw [List.getElem?_append_right (by omega)] at hk
        have h0 : k - ρ.length = 0 := by
          have := (List.getElem?_eq_some_iff.mp hk).1
          simpa using this
        rw [h0] at hk
        cases hk
        exact ho.elim
    obtain ⟨l1, a1⟩ := own i e h1 o1
    obtain ⟨l2, a2⟩ := own j e' h2 o2
    rw [List.getElem?_append_left (by omega), List.getElem?_append_left (by omega)]
    exact A.dis i j e e' w hij a1 a2 o1 o2
abbrev DMT := DEnv → (List Ent → Prop) → Prop
def rdM (F : Fx) (K : PySem.W.Frag) (t : DMT) : TA := fun σ H Q => ∃ I ρ ρ2 σ2, ρ.length = σ.length ∧ At F K I (ρ ++ ρ2) (σ ++ σ2) H ∧
  t ρ fun ens => ∀ (vs : List V) I' H', Same I I' → vs.length = ens.length → At F K I' (ρ ++ ρ2 ++ ens.map some) (σ ++ σ2 ++ vs.map some) H' → Q vs H'
structure DM (F : Fx) (X : Cx) (es : List Expr) (t : DMT) : Prop where
  mono : ∀ ρ (Q Q' : List Ent → Prop), (∀ d, Q d → Q' d) → t ρ Q → t ρ Q'
  run : PA X es (rdM F X.K t)
end
section
variable {F : Fx} {X : Cx} {e : Expr} {es : List Expr} {te : DT} {to : DTO} {t : DMT}
theorem dm_nil : DM F X [] (fun _ Q => Q []) := ⟨fun _ _ _ k q => k _ q, pa_nil.imp fun σ H Q ⟨I, ρ, ρ2, σ2, hl, A, q⟩ => q [] I H (Same.refl I) rfl (by simpa using A)⟩
theorem dm_next {I I1 : Hp} {H1 : Hp} {ρ ρ2 : DEnv} {σ σ2 : L2.St} {en : Ent} {v : V} {Q : List V → Hp → Prop} (mono : ∀ ρ (Q Q' : List Ent → Prop), (∀ d, Q d → Q' d) → t ρ Q → t ρ Q') (hl : ρ.length = σ.length) (sm : Same I I1) (A : At F X.K I1 (ρ ++ ρ2 ++ [some en]) (σ ++ σ2 ++ [some v]) H1)
    (q : t ρ fun ens => ∀ (vs : List V) I' H', Same I I' → vs.length = (en :: ens).length → At F X.K I' (ρ ++ ρ2 ++ (en :: ens).map some) (σ ++ σ2 ++ vs.map some) H' → Q vs H') : rdM F X.K t σ H1 fun vs H2 => Q (v :: vs) H2 := by
  refine ⟨I1, ρ, ρ2 ++ [some en], σ2 ++ [some v], hl, by rw [← List.append_assoc, ← List.append_assoc]; exact A, mono _ _ _ (fun ens q vs I' H' s' hl' A' => q (v :: vs) I' H' (Same.trans sm s') (by simp [hl']) ?_) q⟩
  simp only [List.map_cons, List.append_assoc, List.cons_append, List.nil_append] at A' ⊢
  exact A'
theorem dm_dat (he : DE F X e te) (h : DM F X es t) (hs : starEach (e :: es) X.env = (false, eval e X.env) :: starEach es X.env := by rfl) : DM F X (e :: es) (fun ρ Q => te ρ fun d => t ρ fun ens => Q (.dat d :: ens)) := by
  refine ⟨fun ρ Q Q' k q => he.mono _ _ _ (fun d q => h.mono _ _ _ (fun ens => k _) q) q, (pa_cons he.run h.run hs).imp fun σ H Q ⟨I, ρ, ρ2, σ2, hl, A, q⟩ => ?_⟩
  exact rdE_next he.mono (A.left hl) q fun d v I1 H1 q1 s1 rv => dm_next h.mono hl s1.i ((A.step s1).more rv) q1
end
section
variable {F : Fx} {X : Cx} {a b c : Expr} {t : DMT} {px py pz pt pos : Pos} {x y z : Str}
/-- a, b, c = x, y, z -/
theorem ds_parM3 {i j l : Nat} {kt k2 pt2} (hc : X.calm = true) (hN : X.N.Nodup) (hi : X.N[i]? = some x) (hj : X.N[j]? = some y) (hl : X.N[l]? = some z) (hij : i ≠ j) (hil : i ≠ l) (hjl : j ≠ l) (hkx : X.env.scope.names.lookup x = some .local) (hky : X.env.scope.names.lookup y = some .local) (hkz : X.env.scope.names.lookup z = some .local)
    (ha : DM F X [a, b, c] t) (hsw : swappedStores [.Tuple [.Name x px, .Name y py, .Name z pz] kt pt] (.Tuple [a, b, c] k2 pt2) X.env = pure (some [x, y, z]) := by rfl) (hs : swapsWithSole [.Tuple [.Name x px, .Name y py, .Name z pz] kt pt] (.Tuple [a, b, c] k2 pt2) pos.line X.env = pure false := by rfl) : DSt F X (.Assign [.Tuple [.Name x px, .Name y py, .Name z pz] kt pt] (.Tuple [a, b, c] k2 pt2) pos) (fun Z ρ => t ρ fun ens => ∃ d e f, ens = [d, e, f] ∧ Z.nx (((ρ.set i (some d)).set j (some e)).set l (some f))) := by
  refine ⟨fun Z Z' ρ l q => ha.mono _ _ _ (fun d ⟨x, y, z, e, q⟩ => ⟨x, y, z, e, l.nx _ q⟩) q, (ps_par3 hc hN hi hj hl hij hil hjl hkx hky hkz ha.run hsw hs).imp fun Z σ H ⟨I, ρ, A, q⟩ => ⟨I, ρ, [], [], A.len, by simpa using A, ha.mono _ _ _ (fun ens q vs I' H' s' hl A' => ?_) q⟩⟩
  obtain ⟨d, e, f, rfl, q⟩ := q
  match vs, hl with
  | [v, w, u], _ =>
    rw [List.append_nil, List.append_nil] at A'
    have A1 := ((A'.put (i := i) A.len).put (i := j) (by rw [List.length_set, List.length_set]; exact A.len)).put (i := l) (by simp only [List.length_set]; exact A.len)
    simp only [List.map_nil, List.append_nil] at A1
    exact ⟨v, w, u, rfl, q I' _ H' s' A1⟩
end
end Dk
namespace Dk
open PySem L2
open PyProof.Rows (IsTup IsTup.new sortedS)
end Dk
namespace Dk
open PySem L2 PySem.Spec PyProof.Rows
section
variable {F : Fx} {X : Cx} {o : Expr} {td : DT} {p pos apos mpos : Pos}
theorem vals_ints {K : PySem.W.Frag} {I : Hp} {ns : List Int} {ws : List V} (h : Reps K I ws (ns.map D.int)) : ws = ns.map V.int := h.intsV
end
end Dk
namespace Dk
open PySem L2
end Dk
namespace Dk
open PySem L2
end Dk
namespace KB
open PySem L2 Dk
abbrev Bough := Str × List Str
abbrev Kind := Str × List Bough
def boughD (b : Bough) : D := .tup [.str b.1, .tup (b.2.map D.str)]
def kindD (k : Kind) : D := .tup [.str k.1, .tup (k.2.map boughD)]
def kindsD (ks : List Kind) : D := .tup (ks.map kindD)
def numS : Str := "num"
def signOk (c : Nat) : Bool := decide (97 ≤ c) && decide (c ≤ 122)
def nameOk (x : Str) : Bool := decide (1 ≤ x.length) && (decide (x.length ≤ 8) && (!decide (x = numS) && x.cps.toList.all signOk))
theorem nameOk_split {x : Str} (h : nameOk x = true) : 1 ≤ x.length ∧ x.length ≤ 8 ∧ x ≠ numS ∧ ∀ c ∈ x.cps.toList, 97 ≤ c ∧ c ≤ 122 := by
  unfold nameOk at h
  simp only [Bool.and_eq_true, decide_eq_true_eq, Bool.not_eq_true', decide_eq_false_iff_not, List.all_eq_true] at h
  obtain ⟨a, b, c, d⟩ := h
  refine ⟨a, b, c, fun x hx => ?_⟩
  have := d x hx
  unfold signOk at this
  simpa using this
def kNames (ks : List Kind) : List Str := ks.map (·.1)
def bNames (ks : List Kind) : List Str := ks.flatMap fun k => k.2.map (·.1)
def fNames (ks : List Kind) : List Str := ks.flatMap fun k => k.2.flatMap fun b => b.2
/-- what the fields of a bough weigh -/
def wsum (s : Str → Nat) (fs : List Str) : Nat := ((fs.filter fun f => !decide (f = numS)).map s).sum
structure Good (ks : List Kind) : Prop where
  ne : ks ≠ []
  kn : ∀ k ∈ ks, nameOk k.1 = true
  kb : ∀ k ∈ ks, k.2 ≠ []
  bn : ∀ k ∈ ks, ∀ b ∈ k.2, nameOk b.1 = true
  nd : (kNames ks).Nodup
  bd : (bNames ks).Nodup
  fl : ∀ k ∈ ks, ∀ b ∈ k.2, ∀ f ∈ b.2, f = numS ∨ f ∈ kNames ks
  wf : ∃ r s : Str → Nat, ∀ k ∈ ks, r k.1 < ks.length ∧ s k.1 ≤ 29 ∧ ∃ b ∈ k.2, (∀ f ∈ b.2, f = numS ∨ (f ∈ kNames ks ∧ r f < r k.1)) ∧ 1 + wsum s b.2 ≤ s k.1
  s1 : ks.length ≤ 6
  s2 : ∀ k ∈ ks, k.2.length ≤ 8
  s3 : ∀ k ∈ ks, ∀ b ∈ k.2, b.2.length ≤ 8
theorem Good.wf0 {ks : List Kind} (g : Good ks) : ∃ r : Str → Nat, ∀ k ∈ ks, r k.1 < ks.length ∧ ∃ b ∈ k.2, ∀ f ∈ b.2, f = numS ∨ (f ∈ kNames ks ∧ r f < r k.1) :=
  let ⟨r, s, h⟩ := g.wf
  ⟨r, fun k hk => let ⟨h1, h2, b, hb, h3, h4⟩ := h k hk; ⟨h1, b, hb, h3⟩⟩
theorem strOk_name {x : Str} (h : nameOk x = true) : PyData.strOk x = true := by
  unfold PyData.strOk
  rw [← Array.all_toList, List.all_eq_true]
  intro c hc
  have := (nameOk_split h).2.2.2 c hc
  simp
  omega
theorem okN_name {x : Str} (h : nameOk x = true) : OkN 0 (.str x) := okN_str (strOk_name h)
theorem okN_num : OkN 0 (.str numS) := okN_str (by decide +kernel)
theorem Good.field {ks : List Kind} (g : Good ks) {k : Kind} (hk : k ∈ ks) {b : Bough} (hb : b ∈ k.2) {f : Str} (hf : f ∈ b.2) : OkN 0 (.str f) := by
  rcases g.fl k hk b hb f hf with rfl | h
  · exact okN_num
  · obtain ⟨k', h1, rfl⟩ := List.mem_map.mp h
    exact okN_name (g.kn k' h1)
theorem Good.okBough {ks : List Kind} (g : Good ks) {k : Kind} (hk : k ∈ ks) {b : Bough} (hb : b ∈ k.2) : OkN 2 (boughD b) := okN_tup (k := 1) fun x hx => by
  simp only [List.mem_cons, List.not_mem_nil, or_false] at hx
  rcases hx with rfl | rfl
  · exact (okN_name (g.bn k hk b hb)).mono (by decide)
  · refine okN_tup (k := 0) fun y hy => ?_
    obtain ⟨f, hf, rfl⟩ := List.mem_map.mp hy
    exact g.field hk hb hf
theorem Good.okKind {ks : List Kind} (g : Good ks) {k : Kind} (hk : k ∈ ks) : OkN 4 (kindD k) := okN_tup (k := 3) fun x hx => by
  simp only [List.mem_cons, List.not_mem_nil, or_false] at hx
  rcases hx with rfl | rfl
  · exact (okN_name (g.kn k hk)).mono (by decide)
  · refine okN_tup (k := 2) fun y hy => ?_
    obtain ⟨b, hb, rfl⟩ := List.mem_map.mp hy
    exact g.okBough hk hb
theorem Good.ok {ks : List Kind} (g : Good ks) : OkN 5 (kindsD ks) := okN_tup (k := 4) fun x hx => by
  obtain ⟨k, hk, rfl⟩ := List.mem_map.mp hx
  exact g.okKind hk
theorem deq_strs (x y : Str) : deq (.str x) (.str y) = decide (x = y) := by simp [deq, toPy, PyData.eqv]; rfl
theorem in_abc {c : Nat} : subS ⟨#[c]⟩ "abcdefghijklmnopqrstuvwxyz" = signOk c := by
  rw [subS_one]
  have e : ("abcdefghijklmnopqrstuvwxyz" : Str).cps.toList = (List.range 26).map (97 + ·) := by decide +kernel
  rw [e]
  unfold signOk
  by_cases h : 97 ≤ c ∧ c ≤ 122
  · have : c ∈ (List.range 26).map (97 + ·) := List.mem_map.mpr ⟨c - 97, List.mem_range.mpr (by omega), by omega⟩
    simp [this, h.1, h.2]
  · have : c ∉ (List.range 26).map (97 + ·) := by
      intro hc
      obtain ⟨d, h1, h2⟩ := List.mem_map.mp hc
      have := List.mem_range.mp h1
      omega
    simp only [this, decide_false]
    symm
    rw [Bool.and_eq_false_iff]
    by_cases h1 : 97 ≤ c
    · right; simp; omega
    · left; simp; omega
theorem in_names {xs : List Str} {f : Str} (ok : ∀ x ∈ xs, OkN 0 (.str x)) (hf : OkN 0 (.str f)) {Q : D → Prop} (q : Q (.bl (decide (f ∈ xs)))) : inD false (.str f) (.lst (xs.map D.str)) Q := by
  refine ⟨hf.okE (by decide), (okN_lst (k := 0) fun x hx => ?_).okE (by decide), ?_⟩
  · obtain ⟨y, hy, rfl⟩ := List.mem_map.mp hx
    exact ok y hy
  · have e : ((xs.map D.str).any fun z => deq z (.str f)) = decide (f ∈ xs) := by
      rw [List.any_map, List.any_eq]
      congr 1
      simp only [Function.comp_apply, deq_strs, decide_eq_true_eq, eq_iff_iff]
      exact ⟨fun ⟨x, h1, h2⟩ => h2 ▸ h1, fun h => ⟨f, h, rfl⟩⟩
    rw [e]
    exact q
/-- the names of a dict -/
def hasN (kvs : List (Key × D)) (f : Str) : Bool := (lookD kvs (.inr f)).isSome
theorem hasN_put (kvs : List (Key × D)) (n : Str) (d : D) (f : Str) : hasN (putD kvs (.inr n) d) f = (hasN kvs f || decide (f = n)) := by
  have main : ∀ kvs : List (Key × D), (lookD (putD kvs (.inr n) d) (.inr f)).isSome = ((lookD kvs (.inr f)).isSome || decide (f = n)) := by
    intro kvs
    have any_iff : ∀ (l : List (Key × D)) (k : Key), (lookD l k).isSome = l.any fun kv => decide (kv.1 = k) := by
      intro l k
      unfold lookD
      rw [Option.isSome_map, Bool.eq_iff_iff, List.find?_isSome, List.any_eq_true]
    rw [any_iff, any_iff]
    unfold putD
    split
    · rename_i hc
      have e : ((kvs.map fun kv => if kv.1 = .inr n then (kv.1, d) else kv).any fun kv => decide (kv.1 = (.inr f : Key))) = kvs.any fun kv => decide (kv.1 = (.inr f : Key)) := by
        rw [List.any_map]
        congr 1
        funext kv
        simp only [Function.comp_apply]
        split <;> rfl
      rw [e]
      by_cases hf : f = n
      · subst hf; rw [hc]; simp
      · simp [hf]
    · rw [List.any_append]
      congr 1
      simp only [List.any_cons, List.any_nil, Bool.or_false]
      rw [decide_eq_decide]
      exact ⟨fun h => (Sum.inr.inj h).symm, fun h => by rw [h]⟩
  exact main kvs
end KB
namespace KB
open PySem L2 Dk
def tl (x : Str) : List Nat := x.cps.toList
theorem S_eq (x : Str) : SX.S (tl x) = x := SX.S_tl x
theorem map_S (ys : List Str) : (ys.map tl).map SX.S = ys := by
  rw [List.map_map]
  conv => rhs; rw [← List.map_id ys]
  exact List.map_congr_left fun y _ => S_eq y
/-- letters alone -/
def clean (x : Str) : Prop := x.length ≤ 8 ∧ ∀ c ∈ tl x, 97 ≤ c ∧ c ≤ 122
theorem clean_name {x : Str} (h : nameOk x = true) : clean x := ⟨(nameOk_split h).2.1, (nameOk_split h).2.2.2⟩
theorem clean_num : clean numS := by unfold clean; exact ⟨by decide +kernel, by decide +kernel⟩
theorem Good.cleanF {ks : List Kind} (g : Good ks) {k : Kind} (hk : k ∈ ks) {b : Bough} (hb : b ∈ k.2) : ∀ f ∈ b.1 :: b.2, clean f := fun f hf => by
  rcases List.mem_cons.mp hf with rfl | hf
  · exact clean_name (g.bn k hk b hb)
  · rcases g.fl k hk b hb f hf with rfl | h
    · exact clean_num
    · obtain ⟨k', h1, rfl⟩ := List.mem_map.mp h
      exact clean_name (g.kn k' h1)
theorem len_join {y : Str} {m : Nat} : ∀ {parts : List Str}, (∀ p ∈ parts, p.length ≤ m) → (Txt.join y parts).length ≤ parts.length * (m + y.length) := by
  intro parts h
  have e : (Txt.join y parts).length = (TL.joinL (tl y) (parts.map tl)).length := by
    have : Txt.join y parts = SX.S (TL.joinL (tl y) (parts.map tl)) := by rw [← SX.join_S, S_eq, map_S]
    rw [this, SX.S_len]
  rw [e]
  clear e
  induction parts with
  | nil => simp [TL.joinL]
  | cons p r ih =>
    have hp := h p (by simp)
    have ep : (tl p).length = p.length := by simp [tl, Str.length]
    have ey : (tl y).length = y.length := by simp [tl, Str.length]
    cases r with
    | nil =>
      show (tl p).length ≤ _
      rw [List.length_singleton]
      omega
    | cons q r =>
      have h2 := ih fun z hz => h z (List.mem_cons_of_mem _ hz)
      show (tl p ++ (tl y ++ TL.joinL (tl y) ((q :: r).map tl))).length ≤ _
      rw [List.length_append, List.length_append]
      rw [List.length_cons, Nat.succ_mul]
      omega
end KB
namespace KB
open PySem L2 Dk
/-- may be shown, in at most m signs -/
structure Sh (m : Nat) (d : D) : Prop where
  sh : (toPy d).showable = true
  ln : (shw d).length ≤ m
theorem shownAll_map : ∀ ds : List D, PyData.shownAll (toPys ds) = ds.map shw
  | [] => by simp [toPys, PyData.shownAll]
  | d :: ds => by simp [toPys, PyData.shownAll, shownAll_map ds, shw]
theorem showableAll_of : ∀ {ds : List D}, (∀ d ∈ ds, (toPy d).showable = true) → PyData.showableAll (toPys ds) = true
  | [], _ => by simp [toPys, PyData.showableAll]
  | d :: ds, h => by
    simp only [toPys, PyData.showableAll, Bool.and_eq_true]
    exact ⟨h d (by simp), showableAll_of fun x hx => h x (List.mem_cons_of_mem _ hx)⟩
theorem len_app (a b : Str) : (a ++ b).length = a.length + b.length := by
  show (a.cps ++ b.cps).size = _
  exact Array.size_append
theorem Sh.tup {m n : Nat} {ds : List D} (h : ∀ d ∈ ds, Sh m d) (hn : ds.length ≤ n) : Sh (n * (m + 2) + 3) (.tup ds) where
  sh := by
    simp only [toPy, PyData.showable]
    exact showableAll_of fun d hd => (h d hd).sh
  ln := by
    have e : shw (.tup ds) = (PyData.tuple (toPys ds)).shown := by simp [shw, toPy]
    rw [e, PyData.shown_tuple, shownAll_map, len_app, len_app]
    have h1 := len_join (y := ", ") (m := m) (parts := ds.map shw) fun p hp => by
      obtain ⟨d, hd, rfl⟩ := List.mem_map.mp hp
      exact (h d hd).ln
    rw [TL.join_eq, List.length_map] at h1
    have e2 : (", " : Str).length = 2 := rfl
    rw [e2] at h1
    have h2 : ds.length * (m + 2) ≤ n * (m + 2) := Nat.mul_le_mul_right _ hn
    have e1 : ("(" : Str).length = 1 := rfl
    rw [e1]
    have h3 : (((if (toPys ds).length == 1 then ",)" else ")" : String) : Str)).length ≤ 2 := by split <;> decide
    omega
theorem Sh.lst {m n : Nat} {ds : List D} (h : ∀ d ∈ ds, Sh m d) (hn : ds.length ≤ n) : Sh (n * (m + 2) + 3) (.lst ds) where
  sh := by
    simp only [toPy, PyData.showable]
    exact showableAll_of fun d hd => (h d hd).sh
  ln := by
    have e : shw (.lst ds) = (PyData.list (toPys ds)).shown := by simp [shw, toPy]
    rw [e, PyData.shown_list, shownAll_map, len_app, len_app]
    have h1 := len_join (y := ", ") (m := m) (parts := ds.map shw) fun p hp => by
      obtain ⟨d, hd, rfl⟩ := List.mem_map.mp hp
      exact (h d hd).ln
    rw [TL.join_eq, List.length_map] at h1
    have e2 : (", " : Str).length = 2 := rfl
    rw [e2] at h1
    have h2 : ds.length * (m + 2) ≤ n * (m + 2) := Nat.mul_le_mul_right _ hn
    have e1 : ("[" : Str).length = 1 := rfl
    have e3 : ("]" : Str).length = 1 := rfl
    rw [e1, e3]
    omega
theorem Sh.mono {m n : Nat} {d : D} (h : Sh m d) (l : m ≤ n) : Sh n d := ⟨h.sh, Nat.le_trans h.ln l⟩
theorem Sh.name {x : Str} (h : clean x) : Sh 82 (.str x) where
  sh := by simp [toPy, PyData.showable]
  ln := by
    have e : shw (.str x) = reprText x := by simp [shw, toPy, PyData.shown]
    rw [e]
    have := StrLaws.reprText_len x fun c hc => Nat.lt_of_le_of_lt (h.2 c hc).2 (by decide)
    have := h.1
    omega
theorem Good.sh {ks : List Kind} (g : Good ks) : Sh 130557 (kindsD ks) := by
  refine Sh.tup (m := 21757) (n := 6) (fun d hd => ?_) (by rw [List.length_map]; exact g.s1)
  obtain ⟨k, hk, rfl⟩ := List.mem_map.mp hd
  refine Sh.tup (m := 10875) (n := 2) (fun d hd => ?_) (by simp)
  simp only [List.mem_cons, List.not_mem_nil, or_false] at hd
  rcases hd with rfl | rfl
  · exact (Sh.name (clean_name (g.kn k hk))).mono (by decide)
  refine Sh.tup (m := 1357) (n := 8) (fun d hd => ?_) (by rw [List.length_map]; exact g.s2 k hk)
  obtain ⟨b, hb, rfl⟩ := List.mem_map.mp hd
  refine Sh.tup (m := 675) (n := 2) (fun d hd => ?_) (by simp)
  simp only [List.mem_cons, List.not_mem_nil, or_false] at hd
  rcases hd with rfl | rfl
  · exact (Sh.name (clean_name (g.bn k hk b hb))).mono (by decide)
  refine Sh.tup (m := 82) (n := 8) (fun d hd => ?_) (by rw [List.length_map]; exact g.s3 k hk b hb)
  obtain ⟨f, hf, rfl⟩ := List.mem_map.mp hd
  exact Sh.name (g.cleanF hk hb f (List.mem_cons_of_mem _ hf))
end KB
namespace Dk
open PySem L2 PySem.Spec
def scals (kvs : List (Key × D)) : Bool := kvs.all fun kv => scalD kv.2
def pyE0 : D → PyData
  | .dic kvs => .dict (kvs.map fun kv => (toPy (keyD kv.1), toPy kv.2))
  | d => toPy d
def pyE : D → PyData
  | .dic kvs => .dict (kvs.map fun kv => (toPy (keyD kv.1), toPy kv.2))
  | .tup xs => .tuple (xs.map pyE0)
  | d => toPy d
/-- a plain thing, a dict of plain ones, a tuple of such -/
inductive ShE : D → Prop
  | pl {d : D} : plainD d = true → (∀ xs, d ≠ .tup xs) → ShE d
  | dic {kvs : List (Key × D)} : scals kvs = true → ShE (.dic kvs)
  | two {xs : List D} : (∀ x ∈ xs, plainD x = true) → ShE (.tup xs)
  | tup {xs : List D} : (∀ x ∈ xs, scalD x = true ∨ ∃ kvs, x = .dic kvs ∧ scals kvs = true) → ShE (.tup xs)
section
variable {X : Cx} {pins : List (Addr × Obj)} {σ : St} {I H : Hp} {s : Shared}
theorem pyE0_pl {d : D} (h : plainD d = true) : pyE0 d = toPy d := by
  cases d <;> first | rfl | cases h
end
end Dk
namespace KB
open PySem L2 Dk
theorem ok_app {a b : Str} (h : PyData.strOk a = true) (h' : PyData.strOk b = true) : PyData.strOk (a ++ b) = true := by
  unfold PyData.strOk at h h' ⊢
  show (a.cps ++ b.cps).all _ = true
  rw [Array.all_append, h, h']
  rfl
theorem ok_lit (s : String) : PyData.strOk (Str.ofString s) = true := by
  unfold PyData.strOk
  rw [Str.ofString_eq_toList]
  rw [List.all_toArray, List.all_eq_true]
  intro c hc
  obtain ⟨x, _, rfl⟩ := List.mem_map.mp hc
  have hv : x.val.toNat < 0xd800 ∨ 0xdfff < x.val.toNat ∧ x.val.toNat < 0x110000 := x.valid
  have e : x.toNat = x.val.toNat := rfl
  simp only [decide_eq_true_eq]
  omega
end KB
namespace Dk
open PySem L2
/-- a method of the text called by its object and by names -/
theorem CalMK.of {P : Program} {w : World} {K : PySem.W.Frag} {mg : Str → Option Value} {base : Heap} {CX : CXT} {W : Wd} {k : Nat} {C : Addr} {x m qual : Str} {st : Stmt} {f : Addr} {fd : FuncData} {ps ks : List Str} {S : DSp} (cl : Cls K C) (me : Meth K C m f) (Fn : Fun K x qual st f fd) (G : GnOk P w K mg base CX k f fd ps (spD W K S))
    (h : ∀ (kV doc pm : Value) (an : Option Addr) (cdv ct : Value) (us ws : List Value), us.length = 1 → ws.length = ks.length → bindArgs (PySem.W.fnOf x qual (defArgs st) (defBody st) (defScope st) .none kV doc pm an cdv ct) ⟨us, ks.zip ws⟩ = pure (ps.zip (us ++ ws))) :
    CalMK P w K mg base CX W k C m ps ks (fun us ws => us ++ ws) S := by
  refine ⟨⟨f, fd, cl, me, G, ⟨fun s us ws _ l1 l2 => ?_, fun a b => a.append b⟩⟩, fun a b => a.append b⟩
  obtain ⟨oc, od, kV, doc, pm, an, cdv, ct, osl, rfl, lk, hcd⟩ := Fn.ex
  exact .of_eq (h kV doc pm an cdv ct us ws l1 l2)
end Dk
namespace KB
open PySem L2 Dk
def small (l : List Nat) : Prop := ∀ c ∈ l, c < 0x110000
theorem ok_small {x : Str} : PyData.strOk x = true ↔ small (tl x) := by
  unfold PyData.strOk small tl
  rw [← Array.all_toList, List.all_eq_true]
  simp only [decide_eq_true_eq]
theorem small_char (x : Char) : x.toNat < 0x110000 := by
  have hv : x.val.toNat < 0xd800 ∨ 0xdfff < x.val.toNat ∧ x.val.toNat < 0x110000 := x.valid
  have e : x.toNat = x.val.toNat := rfl
  omega
theorem small_reprChar {q c : Nat} (hc : c < 0x110000) : small (Builtin.Str.reprChar q c) := by
  have hx : ∀ w, small (List.replicate (w - ((Nat.toDigits 16 c).map Char.toNat).length) 48 ++ (Nat.toDigits 16 c).map Char.toNat) := fun w d hd => by
    rcases List.mem_append.mp hd with h | h
    · rw [(List.mem_replicate.mp h).2]; decide
    · obtain ⟨y, _, rfl⟩ := List.mem_map.mp h
      exact small_char y
  have two : ∀ a b : Nat, a < 0x110000 → b < 0x110000 → small [a, b] := fun a b ha hb d hd => by
    simp only [List.mem_cons, List.not_mem_nil, or_false] at hd
    rcases hd with rfl | rfl <;> assumption
  have cat : ∀ {l m : List Nat}, small l → small m → small (l ++ m) := fun hl hm d hd => (List.mem_append.mp hd).elim (hl d) (hm d)
  unfold Builtin.Str.reprChar
  dsimp only
  split
  · exact two _ _ (by decide) hc
  split
  · exact two _ _ (by decide) (by decide)
  split
  · exact two _ _ (by decide) (by decide)
  split
  · exact two _ _ (by decide) (by decide)
  split
  · intro d hd
    have : d = c := by simpa using hd
    omega
  split
  · exact cat (two _ _ (by decide) (by decide)) (hx 2)
  split
  · exact cat (two _ _ (by decide) (by decide)) (hx 4)
  · exact cat (two _ _ (by decide) (by decide)) (hx 8)
theorem small_fold {q : Nat} : ∀ (l : List Nat) (acc : Array Nat), small l → small acc.toList → small (l.foldl (fun out c => out ++ (Builtin.Str.reprChar q c).toArray) acc).toList
  | [], acc, _, h => h
  | c :: r, acc, hl, h => by
    rw [List.foldl_cons]
    refine small_fold r _ (fun d hd => hl d (List.mem_cons_of_mem _ hd)) fun d hd => ?_
    rw [Array.toList_append] at hd
    rcases List.mem_append.mp hd with z | z
    · exact h d z
    · exact small_reprChar (hl c (by simp)) d (by simpa using z)
theorem ok_reprText {x : Str} (h : PyData.strOk x = true) : PyData.strOk (reprText x) = true := by
  rw [ok_small] at h ⊢
  have hq : reprQuote x < 0x110000 := by
    unfold reprQuote
    split <;> decide
  unfold reprText tl
  intro c hc
  rw [Array.toList_push] at hc
  rcases List.mem_append.mp hc with z | z
  · rw [← Array.foldl_toList] at z
    exact small_fold _ _ h (fun d hd => by have : d = reprQuote x := by simpa using hd
                                           omega) c z
  · have : c = reprQuote x := by simpa using z
    omega
theorem ok_join {y : Str} (hy : PyData.strOk y = true) : ∀ {parts : List Str}, (∀ p ∈ parts, PyData.strOk p = true) → PyData.strOk (Str.join y parts) = true := by
  intro parts h
  rw [ok_small]
  show small (TL.tl (Str.join y parts))
  rw [TL.tl_join]
  induction parts with
  | nil => intro c hc; cases hc
  | cons p r ih =>
    have hp := ok_small.mp (h p (by simp))
    cases r with
    | nil => exact hp
    | cons q r =>
      have h2 := ih fun z hz => h z (List.mem_cons_of_mem _ hz)
      show small (TL.tl p ++ (TL.tl y ++ TL.joinL (TL.tl y) ((q :: r).map TL.tl)))
      intro c hc
      rcases List.mem_append.mp hc with z | z
      · exact hp c z
      rcases List.mem_append.mp z with z | z
      · exact ok_small.mp hy c z
      · exact h2 c z
/-- may be shown in at most m signs, k deep at most -/
structure Sn (m k : Nat) (p : PyData) : Prop where
  sh : p.showable = true
  ln : p.shown.length ≤ m
  ok : PyData.strOk p.shown = true
  dp : p.depth ≤ k
theorem Sn.mono {m k m' k' : Nat} {p : PyData} (h : Sn m k p) (a : m ≤ m') (b : k ≤ k') : Sn m' k' p := ⟨h.sh, Nat.le_trans h.ln a, h.ok, Nat.le_trans h.dp b⟩
theorem shownAll_eq : ∀ ps : List PyData, PyData.shownAll ps = ps.map PyData.shown
  | [] => by simp only [PyData.shownAll, List.map_nil]
  | p :: ps => by simp only [PyData.shownAll, List.map_cons, shownAll_eq ps]
theorem sn_all {m k : Nat} : ∀ {ps : List PyData}, (∀ p ∈ ps, Sn m k p) → PyData.showableAll ps = true ∧ PyData.depthAll ps ≤ k
  | [], _ => by simp [PyData.showableAll, PyData.depthAll]
  | p :: ps, h => by
    obtain ⟨a, b⟩ := sn_all fun x hx => h x (List.mem_cons_of_mem _ hx)
    have h1 := h p (by simp)
    simp only [PyData.showableAll, PyData.depthAll, h1.sh, a, Bool.and_self, true_and]
    exact Nat.max_le.mpr ⟨h1.dp, b⟩
theorem sn_join {m k n : Nat} {ps : List PyData} (h : ∀ p ∈ ps, Sn m k p) (hn : ps.length ≤ n) : (Str.join ", " (PyData.shownAll ps)).length ≤ n * (m + 2) ∧ PyData.strOk (Str.join ", " (PyData.shownAll ps)) = true := by
  rw [shownAll_eq]
  refine ⟨?_, ok_join (ok_lit ", ") fun p hp => ?_⟩
  · have h1 := len_join (y := ", ") (m := m) (parts := ps.map PyData.shown) fun p hp => by
      obtain ⟨d, hd, rfl⟩ := List.mem_map.mp hp
      exact (h d hd).ln
    rw [TL.join_eq, List.length_map] at h1
    have e2 : (", " : Str).length = 2 := rfl
    rw [e2] at h1
    exact Nat.le_trans h1 (Nat.mul_le_mul_right _ hn)
  · obtain ⟨d, hd, rfl⟩ := List.mem_map.mp hp
    exact (h d hd).ok
theorem Sn.tuple {m k n : Nat} {ps : List PyData} (h : ∀ p ∈ ps, Sn m k p) (hn : ps.length ≤ n) : Sn (n * (m + 2) + 3) (k + 1) (.tuple ps) := by
  obtain ⟨a, b⟩ := sn_all h
  obtain ⟨c, d⟩ := sn_join h hn
  refine ⟨by simp only [PyData.showable]; exact a, ?_, ?_, by simp only [PyData.depth]; omega⟩
  · rw [PyData.shown_tuple, len_app, len_app]
    have e1 : ("(" : Str).length = 1 := rfl
    have h3 : (((if ps.length == 1 then ",)" else ")" : String) : Str)).length ≤ 2 := by split <;> decide
    omega
  · rw [PyData.shown_tuple]
    exact ok_app (ok_app (ok_lit _) d) (ok_lit _)
theorem Sn.list {m k n : Nat} {ps : List PyData} (h : ∀ p ∈ ps, Sn m k p) (hn : ps.length ≤ n) : Sn (n * (m + 2) + 3) (k + 1) (.list ps) := by
  obtain ⟨a, b⟩ := sn_all h
  obtain ⟨c, d⟩ := sn_join h hn
  refine ⟨by simp only [PyData.showable]; exact a, ?_, ?_, by simp only [PyData.depth]; omega⟩
  · rw [PyData.shown_list, len_app, len_app]
    have e1 : ("[" : Str).length = 1 := rfl
    have e3 : ("]" : Str).length = 1 := rfl
    omega
  · rw [PyData.shown_list]
    exact ok_app (ok_app (ok_lit _) d) (ok_lit _)
theorem Sn.str {m : Nat} {x : Str} (hl : x.length ≤ m) (h : PyData.strOk x = true) : Sn (10 * m + 2) 0 (.str x) := by
  refine ⟨by simp [PyData.showable], ?_, ?_, by simp [PyData.depth]⟩
  · have e : (PyData.str x).shown = reprText x := by simp only [PyData.shown]
    rw [e]
    have := StrLaws.reprText_len x fun c hc => Nat.lt_of_lt_of_le (ok_small.mp h c hc) (by decide)
    omega
  · have e : (PyData.str x).shown = reprText x := by simp only [PyData.shown]
    rw [e]
    exact ok_reprText h
theorem strOk_clean {x : Str} (h : clean x) : PyData.strOk x = true := ok_small.mpr fun c hc => Nat.lt_of_le_of_lt (h.2 c hc).2 (by decide)
theorem Sn.name {x : Str} (h : clean x) : Sn 82 0 (.str x) := Sn.str h.1 (strOk_clean h)
/-- a thing that a book may be asked -/
structure Thing (d : D) : Prop where
  kn : known d = true
  sn : Sn 200000 8 (pyE0 d)
  sh : plainD d = true ∨ ∃ kvs, d = .dic kvs ∧ scals kvs = true
  tx : ∀ x, d = .str x → PyData.strOk x = true
theorem Thing.pl {m k : Nat} {d : D} (kn : known d = true) (pl : plainD d = true) (ns : ∀ x, d ≠ .str x) (h : Sn m k (toPy d)) (a : m ≤ 200000 := by decide) (b : k ≤ 8 := by decide) : Thing d := ⟨kn, by rw [pyE0_pl pl]; exact h.mono a b, .inl pl, fun x e => absurd e (ns x)⟩
theorem Thing.str {m : Nat} {x : Str} (hl : x.length ≤ m) (h : PyData.strOk x = true) (a : m ≤ 1000 := by decide) : Thing (.str x) :=
  ⟨rfl, by rw [pyE0_pl rfl, show toPy (.str x) = .str x from by simp [toPy]]; exact (Sn.str hl h).mono (by omega) (by decide), .inl rfl, fun y e => by cases e; exact h⟩
/-- ("kind", thing) may be shown -/
theorem Thing.two {d : D} (t : Thing d) {x : Str} (h : clean x) : ShE (.tup [.str x, d]) ∧ Sn 400007 9 (pyE (.tup [.str x, d])) := by
  refine ⟨?_, ?_⟩
  · rcases t.sh with pl | ⟨kvs, rfl, sc⟩
    · refine .two fun y hy => ?_
      simp only [List.mem_cons, List.not_mem_nil, or_false] at hy
      rcases hy with rfl | rfl
      · rfl
      · exact pl
    · refine .tup fun y hy => ?_
      simp only [List.mem_cons, List.not_mem_nil, or_false] at hy
      rcases hy with rfl | rfl
      · exact .inl rfl
      · exact .inr ⟨kvs, rfl, sc⟩
  · unfold pyE
    refine Sn.tuple (m := 200000) (n := 2) (k := 8) (fun p hp => ?_) (by simp)
    simp only [List.map_cons, List.map_nil, List.mem_cons, List.not_mem_nil, or_false] at hp
    rcases hp with rfl | rfl
    · have e : pyE0 (.str x) = .str x := by simp [pyE0, toPy]
      rw [e]
      exact (Sn.name h).mono (by decide) (by decide)
    · exact t.sn
end KB
namespace Dk
open PySem L2 PySem.Spec
mutual
def pyF : D → PyData
  | .dic kvs => .dict (pyFk kvs)
  | .tup xs => .tuple (pyFs xs)
  | .lst xs => .list (pyFs xs)
  | .bl b => .bool b
  | .int i => .int i
  | .str x => .str x
  | .non => .none
  | .obj _ _ => .none
  | .opq _ => .none
  | .ptp _ => .none
  | .dfz _ => .none
def pyFs : List D → List PyData
  | [] => []
  | d :: ds => pyF d :: pyFs ds
def pyFk : List (Key × D) → List (PyData × PyData)
  | [] => []
  | (k, d) :: ds => (toPy (keyD k), pyF d) :: pyFk ds
end
mutual
/-- nothing of an object in it -/
def shF : D → Bool
  | .dic kvs => shFk kvs
  | .tup xs => shFs xs
  | .lst xs => shFs xs
  | .bl _ => true
  | .int _ => true
  | .str _ => true
  | .non => true
  | .obj _ _ => false
  | .opq _ => false
  | .ptp _ => false
  | .dfz _ => false
def shFs : List D → Bool
  | [] => true
  | d :: ds => shF d && shFs ds
def shFk : List (Key × D) → Bool
  | [] => true
  | (_, d) :: ds => shF d && shFk ds
end
section
variable {X : Cx} {pins : List (Addr × Obj)} {σ : St} {I H : Hp} {s : Shared}
/-- what is needed of a thing's text -/
structure Rk (X : Cx) (h : Heap) (u : Value) (p : PyData) : Prop where
  ex : ∃ as bs, Reads h u p as ∧ ReadAtMost h p.depth bs ∧ ReprK X.prog X.w bs h p.depth u p.shown
structure Rks (X : Cx) (h : Heap) (us : List Value) (ps : List PyData) : Prop where
  ex : ∃ as bs, ReadsAll h us ps as ∧ ReadAtMost h (PyData.depthAll ps) bs ∧ ReprAllK X.prog X.w bs h (PyData.depthAll ps) us (PyData.shownAll ps)
theorem Rks.nil {h : Heap} : Rks X h [] [] := ⟨[], [], .nil, fun _ z => (nomatch z), by simp only [PyData.shownAll]; exact .nil⟩
theorem Rks.cons {h : Heap} {u : Value} {us : List Value} {p : PyData} {ps : List PyData} (a : Rk X h u p) (b : Rks X h us ps) : Rks X h (u :: us) (p :: ps) := by
  obtain ⟨as, b1, r1, m1, k1⟩ := a.ex
  obtain ⟨as2, b2, r2, m2, k2⟩ := b.ex
  have le1 : p.depth ≤ PyData.depthAll (p :: ps) := by simp only [PyData.depthAll]; exact Nat.le_max_left _ _
  have le2 : PyData.depthAll ps ≤ PyData.depthAll (p :: ps) := by simp only [PyData.depthAll]; exact Nat.le_max_right _ _
  refine ⟨as ++ as2, b1 ++ b2, .cons r1 r2, (m1.mono le1).append (m2.mono le2), ?_⟩
  simp only [PyData.shownAll]
  exact .cons ((k1.more fun c hc => List.mem_append_left _ hc).level_le le1) (k2.more_le (fun c hc => List.mem_append_right _ hc) le2)
theorem Rk.lst {h : Heap} {a : Addr} {o : Obj} {vs : Array Value} {n : Nat} {ps : List PyData} (ho : h.get? a = some o) (hc : o.cls = .type "list") (hd : o.data = .seq vs n) (k : Rks X h vs.toList ps) : Rk X h (.ref a) (.list ps) := by
  obtain ⟨as, bs, r1, m1, k1⟩ := k.ex
  have r : Reads h (.ref a) (.list ps) _ := .list ho hc hd r1
  have fr : a ∉ bs := not_mem_of_deeper r (by simp only [PyData.depth]; omega) m1
  refine ⟨_, a :: bs, r, ReadAtMost.cons r (by simp only [PyData.depth]; omega) m1, ?_⟩
  simp only [PyData.depth, PyData.shown]
  obtain ⟨l⟩ := vs
  cases l with
  | nil =>
    have r0 : ReadsAll h [] ps _ := r1
    cases r0
    simp only [PyData.shownAll, listText_nil]
    exact ReprK.listEmpty ho hc hd
  | cons x l => exact ReprK.list ho hc hd fr (by simpa using k1.length_eq) (fun i y e => k1.item i y (by simpa using e))
theorem Rk.tup {h : Heap} {a : Addr} {o : Obj} {vs : Array Value} {n : Nat} {ps : List PyData} (ho : h.get? a = some o) (hc : o.cls = .type "tuple") (hd : o.data = .seq vs n) (k : Rks X h vs.toList ps) : Rk X h (.ref a) (.tuple ps) := by
  obtain ⟨as, bs, r1, m1, k1⟩ := k.ex
  have r : Reads h (.ref a) (.tuple ps) _ := .tuple ho hc hd r1
  have fr : a ∉ bs := not_mem_of_deeper r (by simp only [PyData.depth]; omega) m1
  refine ⟨_, a :: bs, r, ReadAtMost.cons r (by simp only [PyData.depth]; omega) m1, ?_⟩
  simp only [PyData.depth, PyData.shown]
  exact ReprK.tuple ho hc hd fr k1
theorem Rk.dic {h : Heap} {a : Addr} {o : Obj} {es : Array DictEntry} {n : Nat} {ps : List (PyData × PyData)} (ho : h.get? a = some o) (hc : o.cls = .type "dict") (hd : o.data = .dict es n) (hs : (a == sysModules) = false)
    (k : Rks X h (es.toList.map (·.key)) (ps.map (·.1))) (k' : Rks X h (es.toList.map (·.val)) (ps.map (·.2))) : Rk X h (.ref a) (.dict ps) := by
  obtain ⟨as, b1, r1, m1, k1⟩ := k.ex
  obtain ⟨as2, b2, r2, m2, k2⟩ := k'.ex
  have r : Reads h (.ref a) (.dict ps) _ := .dict ho hc hd r1 r2
  have m : ReadAtMost h (PyData.depthKv ps) (b1 ++ b2) := (m1.mono (PyData.depthAll_keys_le ps)).append (m2.mono (PyData.depthAll_vals_le ps))
  have fr : a ∉ b1 ++ b2 := not_mem_of_deeper r (by simp only [PyData.depth]; omega) m
  refine ⟨_, a :: (b1 ++ b2), r, ReadAtMost.cons r (by simp only [PyData.depth]; omega) m, ?_⟩
  simp only [PyData.depth, PyData.shown, PyData.shownKv_eq]
  exact ReprK.dict ho hc hd hs fr (ReprEntriesK.of_two es.toList _ _ (k1.more_le (fun c hc => List.mem_append_left _ hc) (PyData.depthAll_keys_le ps)) (k2.more_le (fun c hc => List.mem_append_right _ hc) (PyData.depthAll_vals_le ps)))
mutual
/-- each text in it is short -/
def shortP : PyData → Bool
  | .int i => decide (i.natAbs.log2 < 1920)
  | .str x => decide ((reprText x).length ≤ sizeLine)
  | .tuple xs => shortPs xs
  | .list xs => shortPs xs
  | .dict kvs => shortPk kvs
  | _ => true
def shortPs : List PyData → Bool
  | [] => true
  | x :: xs => shortP x && shortPs xs
def shortPk : List (PyData × PyData) → Bool
  | [] => true
  | (k, x) :: xs => shortP k && (shortP x && shortPk xs)
end
theorem rk_key {h : Heap} {k : Key} {u : Value} (e : keyIs k u = true) (hs : shortP (toPy (keyD k)) = true) : Rk X h u (toPy (keyD k)) := by
  rcases keyIs_shape e with ⟨i, t, rfl, rfl⟩ | ⟨x, t, rfl, rfl⟩
  · simp only [keyD, toPy, shortP, decide_eq_true_eq] at hs ⊢
    exact ⟨[], [], .int i t, (fun _ h => nomatch h), by simp only [PyData.shown]; exact .of_is (ReprIs.int t hs) _ _ _⟩
  · simp only [keyD, toPy, shortP, decide_eq_true_eq] at hs ⊢
    exact ⟨[], [], .str x t, (fun _ h => nomatch h), by simp only [PyData.shown]; exact .of_is (ReprIs.str x t hs) _ _ _⟩
mutual
theorem rk_any (J : Inv X pins σ H s) (st : Same I H) : ∀ (d : D) {v : V} {u : Value}, shF d = true → shortP (pyF d) = true → Rep X.K I v d → RelV v u → Rk X s.heap u (pyF d)
  | .non, _, _, _, _, r, ru => by cases r; cases ru; unfold pyF; exact ⟨[], [], .none, (fun _ h => nomatch h), by simp only [PyData.shown]; exact .of_is ReprIs.none _ _ _⟩
  | .bl b, _, _, _, _, r, ru => by cases r; cases ru; unfold pyF; exact ⟨[], [], .bool b, (fun _ h => nomatch h), by simp only [PyData.shown]; exact .of_is (ReprIs.bool b) _ _ _⟩
  | .int i, _, _, _, hs, r, ru => by
    cases r
    obtain ⟨t, rfl⟩ := ru
    unfold pyF at hs ⊢
    simp only [shortP, decide_eq_true_eq] at hs
    exact ⟨[], [], .int i t, (fun _ h => nomatch h), by simp only [PyData.shown]; exact .of_is (ReprIs.int t hs) _ _ _⟩
  | .str x, _, _, _, hs, r, ru => by
    cases r
    obtain ⟨t, rfl⟩ := ru
    unfold pyF at hs ⊢
    simp only [shortP, decide_eq_true_eq] at hs
    exact ⟨[], [], .str x t, (fun _ h => nomatch h), by simp only [PyData.shown]; exact .of_is (ReprIs.str x t hs) _ _ _⟩
  | .tup xs, v, u, h, hs, r, ru => by
    unfold shF at h
    unfold pyF shortP at hs
    cases r with
    | @tup a vs _ ha rs =>
      cases (show u = Value.ref a from ru)
      obtain ⟨its, rv, ⟨o, ho, hc, n, hd⟩, _⟩ := J.tuple (Same.seqT st ha)
      unfold pyF
      exact .tup ho hc hd (rk_anys J st xs h hs rs rv)
  | .lst xs, v, u, h, hs, r, ru => by
    unfold shF at h
    unfold pyF shortP at hs
    cases r with
    | @lst a vs _ ha rs =>
      cases (show u = Value.ref a from ru)
      obtain ⟨its, rv, pl, _⟩ := J.list (.of (st _ _ ha))
      obtain ⟨o, ho, hc, n, hd⟩ := pl.isList
      unfold pyF
      exact .lst ho hc hd (rk_anys J st xs h hs rs rv)
  | .dic kvs, v, u, h, hs, r, ru => by
    unfold shF at h
    unfold pyF shortP at hs
    cases r with
    | @dic a ws _ ha kk rr =>
      cases (show u = Value.ref a from ru)
      obtain ⟨_, sy, vs, kv, o, es, ep, ho, ex, hd, _, pr, _⟩ := dk_of J.hok (st _ _ ha)
      obtain ⟨h1, h2⟩ := rk_anyk J st kvs h hs kk rr kv pr
      unfold pyF
      exact .dic ho ex.1 hd sy h1 h2
  | .obj _ _, _, _, h, _, _, _ => by unfold shF at h; cases h
  | .opq _, _, _, h, _, _, _ => by unfold shF at h; cases h
  | .ptp _, _, _, h, _, _, _ => by unfold shF at h; cases h
  | .dfz _, _, _, h, _, _, _ => by unfold shF at h; cases h
theorem rk_anys (J : Inv X pins σ H s) (st : Same I H) : ∀ (xs : List D) {vs : List V} {us : List Value}, shFs xs = true → shortPs (pyFs xs) = true → Reps X.K I vs xs → Vals vs us → Rks X s.heap us (pyFs xs)
  | [], _, _, _, _, r, ru => by cases r; cases ru; unfold pyFs; exact .nil
  | x :: xs, _, _, h, hs, r, ru => by
    unfold shFs at h
    rw [Bool.and_eq_true] at h
    unfold pyFs shortPs at hs
    rw [Bool.and_eq_true] at hs
    cases r with
    | cons r1 r2 =>
      cases ru with
      | cons u1 u2 =>
        unfold pyFs
        exact .cons (rk_any J st x h.1 hs.1 r1 u1) (rk_anys J st xs h.2 hs.2 r2 u2)
theorem rk_anyk (J : Inv X pins σ H s) (st : Same I H) : ∀ (ds : List (Key × D)) {kvs : List (Key × V)} {vs : List (Key × Value)} {es : List DictEntry}, shFk ds = true → shortPk (pyFk ds) = true → kvs.map (·.1) = ds.map (·.1) → Reps X.K I (kvs.map (·.2)) (ds.map (·.2)) → KV kvs vs → Pairs (mixKind X.prog X.w) es vs →
    Rks X s.heap (es.map (·.key)) ((pyFk ds).map (·.1)) ∧ Rks X s.heap (es.map (·.val)) ((pyFk ds).map (·.2))
  | [], kvs, vs, es, _, _, hk, _, kv, pr => by
    obtain rfl : kvs = [] := by simpa using hk
    cases kv
    cases pr
    unfold pyFk
    exact ⟨.nil, .nil⟩
  | (k, d) :: ds, kvs, vs, es, h, hs, hk, r, kv, pr => by
    unfold shFk at h
    rw [Bool.and_eq_true] at h
    unfold pyFk shortPk at hs
    rw [Bool.and_eq_true, Bool.and_eq_true] at hs
    cases kvs with
    | nil => simp at hk
    | cons p kvs =>
      obtain ⟨k', v⟩ := p
      simp only [List.map_cons, List.cons.injEq] at hk
      obtain ⟨rfl, hk⟩ := hk
      cases r with
      | cons r1 r2 =>
        cases kv with
        | @cons _ q _ qs a b =>
          cases pr with
          | @cons e _ es _ c1 c2 c3 =>
            obtain ⟨h1, h2⟩ := rk_anyk J st ds (kvs := kvs) h.2 hs.2.2 hk r2 b c3
            obtain ⟨ea, ra⟩ := a
            have e1 : keyIs k' e.key = true := by have : keyIs q.1 e.key = true := c1; rwa [← ea] at this
            have e2 : RelV v e.val := by rw [c2]; exact ra
            unfold pyFk
            exact ⟨.cons (rk_key e1 hs.1) h1, .cons (rk_any J st d h.1 hs.2.1 r1 e2) h2⟩
end
end
end Dk
namespace Dk
open PySem L2 PySem.Spec
section
variable {X : Cx} {pins : List (Addr × Obj)} {σ : St} {I H : Hp} {s : Shared}
theorem shows_lst {h : Heap} {a : Addr} {o : Obj} {vs : Array Value} {n : Nat} {ps : List PyData} (ho : h.get? a = some o) (hc : o.cls = .type "list") (hd : o.data = .seq vs n) (k : Rks X h vs.toList ps) (hz : (PyData.list ps).shown.length ≤ sizeLine) : ∃ T idr, ShowsBy X.prog X.w h a (.list ps) T idr := by
  obtain ⟨as, bs, r1, m1, k1⟩ := k.ex
  have r : Reads h (.ref a) (.list ps) _ := .list ho hc hd r1
  have fr : a ∉ bs := not_mem_of_deeper r (by simp only [PyData.depth]; omega) m1
  have hz2 : (listText (PyData.shownAll ps)).length ≤ sizeLine := by simpa only [PyData.shown] using hz
  refine ⟨"list", "list.__repr__", F.slot_list_repr.toG, F.slot_list_str, F.slot_list_format, fun s e => ⟨o, e _ _ ho, hc⟩, fun A E s Q hg hu e hQ => ?_⟩
  simp only [PyData.depth] at hu
  simp only [PyData.shown] at hQ
  obtain ⟨l⟩ := vs
  cases l with
  | nil =>
    have r0 : ReadsAll h [] ps _ := r1
    cases r0
    simp only [PyData.shownAll, listText_nil] at hQ
    exact call_list_repr_empty ⟨o, e _ _ ho, hc⟩ (e _ _ ho) hd (hQ s.heap _ _ fun _ _ z => z)
  | cons x l => exact call_list_reprK ho hc hd fr (by simpa using k1.length_eq) (fun i y q => k1.item i y (by simpa using q)) hg (fun b _ => Clear.nil b) hu e hQ hz2
theorem shows_tup {h : Heap} {a : Addr} {o : Obj} {vs : Array Value} {n : Nat} {ps : List PyData} (ho : h.get? a = some o) (hc : o.cls = .type "tuple") (hd : o.data = .seq vs n) (k : Rks X h vs.toList ps) (hz : (PyData.tuple ps).shown.length ≤ sizeLine) : ∃ T idr, ShowsBy X.prog X.w h a (.tuple ps) T idr := by
  obtain ⟨as, bs, r1, m1, k1⟩ := k.ex
  have r : Reads h (.ref a) (.tuple ps) _ := .tuple ho hc hd r1
  have fr : a ∉ bs := not_mem_of_deeper r (by simp only [PyData.depth]; omega) m1
  have hz2 : (tupleText (PyData.shownAll ps)).length ≤ sizeLine := by simpa only [PyData.shown] using hz
  refine ⟨"tuple", "tuple.__repr__", F.slot_tuple_repr, F.slot_tuple_str, F.slot_tuple_format, fun s e => ⟨o, e _ _ ho, hc⟩, fun A E s Q hg hu e hQ => ?_⟩
  simp only [PyData.depth] at hu
  simp only [PyData.shown] at hQ
  exact call_tuple_reprK ho hc hd fr k1 hg (fun b _ => Clear.nil b) hu e hQ hz2
theorem shows_dic {h : Heap} {a : Addr} {o : Obj} {es : Array DictEntry} {n : Nat} {ps : List (PyData × PyData)} (ho : h.get? a = some o) (hc : o.cls = .type "dict") (hd : o.data = .dict es n) (hs : (a == sysModules) = false)
    (k : Rks X h (es.toList.map (·.key)) (ps.map (·.1))) (k' : Rks X h (es.toList.map (·.val)) (ps.map (·.2))) (hz : (PyData.dict ps).shown.length ≤ sizeLine) : ∃ T idr, ShowsBy X.prog X.w h a (.dict ps) T idr := by
  obtain ⟨as, b1, r1, m1, k1⟩ := k.ex
  obtain ⟨as2, b2, r2, m2, k2⟩ := k'.ex
  have r : Reads h (.ref a) (.dict ps) _ := .dict ho hc hd r1 r2
  have m : ReadAtMost h (PyData.depthKv ps) (b1 ++ b2) := (m1.mono (PyData.depthAll_keys_le ps)).append (m2.mono (PyData.depthAll_vals_le ps))
  have fr : a ∉ b1 ++ b2 := not_mem_of_deeper r (by simp only [PyData.depth]; omega) m
  have hz2 : (dictText (PyData.shownKv ps)).length ≤ sizeLine := by simpa only [PyData.shown] using hz
  refine ⟨"dict", "dict.__repr__", F.slot_dict_repr, F.slot_dict_str, F.slot_dict_format, fun s e => ⟨o, e _ _ ho, hc⟩, fun A E s Q hg hu e hQ => ?_⟩
  simp only [PyData.depth] at hu
  simp only [PyData.shown, PyData.shownKv_eq] at hQ
  exact call_dict_reprK ho hc hd hs fr (ReprEntriesK.of_two es.toList _ _ (k1.more_le (fun c hc => List.mem_append_left _ hc) (PyData.depthAll_keys_le ps)) (k2.more_le (fun c hc => List.mem_append_right _ hc) (PyData.depthAll_vals_le ps))) hg (fun b _ => Clear.nil b) hu e hQ (by rw [← PyData.shownKv_eq]; exact hz2)
/-- repr of anything -/
def reprF : List D → (D → Prop) → Prop
  | [d], Q => shF d = true ∧ shortP (pyF d) = true ∧ (pyF d).depth ≤ 62 ∧ (pyF d).shown.length ≤ sizeLine ∧ Q (.str (pyF d).shown)
  | _, _ => False
theorem mono_reprF : MonoN reprF := by
  intro ds Q Q' k h
  unfold reprF at h ⊢
  split at h
  · exact ⟨h.1, h.2.1, h.2.2.1, h.2.2.2.1, k _ h.2.2.2.2⟩
  · exact h.elim
def RReprF (K : PySem.W.Frag) : List V → Hp → VK → Prop := fun xs H Q => ∃ v d I, xs = [v] ∧ Same I H ∧ Rep K I v d ∧ shF d = true ∧ shortP (pyF d) = true ∧ (pyF d).depth ≤ 62 ∧ (pyF d).shown.length ≤ sizeLine ∧ Q (.str (pyF d).shown) H
theorem call_reprF (hg : X.A.guards = some []) (hu : X.A.units + 64 < cLine) : CallR X (.builtin "repr") (RReprF X.K) := by
  rintro pins s σ H xs us Q J r ⟨v, d, I, rfl, st, rp, h0, h1, h2, h3, q⟩
  obtain ⟨u, rfl, ru⟩ := vals1 r
  have fin : ∀ (tk : Nat) (u' : Tok), EP X pins σ Q (.str (pyF d).shown u') { s with toks := tk } := fun tk u' => ⟨.str (pyF d).shown, H, J.tok tk, ⟨u', rfl⟩, q⟩
  have go : ∀ a, u = .ref a → (∃ T idr, ShowsBy X.prog X.w s.heap a (pyF d) T idr) → wpAny (model X.prog X.w) X.A (call (.builtin "repr") [u]) (EP X pins σ Q) X.xe s := by
    rintro a rfl ⟨T, idr, S⟩
    exact call_repr_slot (by omega) (S.typeIs s fun _ _ e => e) S.slotRepr (S.call X.A.in1 X.xe s _ hg (by show X.A.units + 1 + (pyF d).depth < cLine; omega) (fun _ _ e => e) fun h' u tk hk => ⟨_, _, rfl, ⟨.str _, H, J.kept hk, ⟨u, rfl⟩, q⟩⟩)
  cases rp with
  | non => cases ru; exact PySem.P.repr_of_none (by unfold pyF PyData.shown at fin; exact fin _ _)
  | bl b => cases ru; exact PySem.P.repr_of_bool (by unfold pyF PyData.shown at fin; exact fin _ _)
  | int i =>
    obtain ⟨t, rfl⟩ := ru
    unfold pyF at h1 fin
    simp only [shortP, decide_eq_true_eq] at h1
    exact PySem.P.repr_of_int h1 (by unfold PyData.shown at fin; exact fin _ _)
  | str x =>
    obtain ⟨t, rfl⟩ := ru
    unfold pyF PyData.shown at fin h3
    exact PySem.P.repr_of_str (fin _ _) h3
  | @tup a vs xs ha rs =>
    cases (show u = Value.ref a from ru)
    unfold shF at h0
    unfold pyF shortP at h1
    unfold pyF at h3 go
    obtain ⟨its, rv, ⟨o, ho, hc, n, hd⟩, _⟩ := J.tuple (Same.seqT st ha)
    exact go a rfl (shows_tup ho hc hd (rk_anys J st xs h0 h1 rs rv) h3)
  | @lst a vs xs ha rs =>
    cases (show u = Value.ref a from ru)
    unfold shF at h0
    unfold pyF shortP at h1
    unfold pyF at h3 go
    obtain ⟨its, rv, pl, _⟩ := J.list (.of (st _ _ ha))
    obtain ⟨o, ho, hc, n, hd⟩ := pl.isList
    exact go a rfl (shows_lst ho hc hd (rk_anys J st xs h0 h1 rs rv) h3)
  | @dic a ws kvs ha kk rr =>
    cases (show u = Value.ref a from ru)
    unfold shF at h0
    unfold pyF shortP at h1
    unfold pyF at h3 go
    obtain ⟨_, sy, vs, kv, o, es, ep, ho, ex, hd, _, pr, _⟩ := dk_of J.hok (st _ _ ha)
    obtain ⟨k1, k2⟩ := rk_anyk J st kvs h0 h1 kk rr kv pr
    exact go a rfl (shows_dic ho ex.1 hd sy k1 k2 h3)
  | obj _ _ _ => unfold shF at h0; cases h0
  | opq _ => unfold shF at h0; cases h0
  | dfz _ _ _ => unfold shF at h0; cases h0
  | ptp _ _ _ => unfold shF at h0; cases h0
end
section
variable {F : Fx} {X : Cx} {e a b : Expr} {te ta tb : DT} {t : DAT} {p pos : Pos}
theorem de_reprF (hm : X.mg "repr" = none) (hg : X.A.guards = some []) (hu : X.A.units + 64 < cLine) (ha : DA F X [e] t) (hgl : Gl X "repr" := by rfl) (he : starEach [e] X.env = (false, eval e X.env) :: starEach [] X.env := by rfl) : DE F X (.Call (.Name "repr" p) [e] [] pos) (fun ρ Q => t ρ fun ds => reprF ds Q) := by
  refine de_callB (id := "repr") mono_reprF (fun vs ds I H Q st rs h => ?_) (call_reprF hg hu) hm (by decide +kernel) ha hgl (by decide) (by decide) he rfl
  match ds, rs, h with
  | [], _, h => exact h.elim
  | _ :: _ :: _, _, h => exact h.elim
  | [d], rs, h =>
    obtain ⟨h0, h1, h2, h3, q⟩ := h
    obtain ⟨v, rfl, rv⟩ := rs.one
    exact ⟨v, d, I, rfl, st.sub, rv, h0, h1, h2, h3, q _ _ _ st.stp (.str _)⟩
end
end Dk
namespace Dk
open PySem L2 PySem.Spec
end Dk
namespace Dk
open PySem L2 PySem.Spec PyProof.Rows HT
end Dk
namespace Dk
open PySem L2
end Dk
namespace Dk
open PySem L2 PySem.Spec PyProof.Rows
end Dk
namespace PySem
open Sem (wp)
end PySem
namespace Dk
open PySem L2 PySem.Spec PyProof.Rows
end Dk
namespace Dk
open PySem L2
end Dk
namespace Dk
open PySem L2
section
variable {F : Fx} {X : Cx} {e tg : Expr} {ts : DTS2} {g : DGT} {pos : Pos}
theorem ds_asgS {js : List Nat} (he : DES F X e ts) (hg : DG F X tg js g) (hs : swapsWithSole [tg] e pos.line X.env = pure false := by rfl) (hw : swappedStores [tg] e X.env = pure none := by rfl) (h1 : (assignEach [tg] X.env).map (·.2) = [assign tg X.env] := by rfl) : DSt F X (.Assign [tg] e pos) (fun Z ρ => ts ρ fun d ρ' => g d ρ' Z.nx) := by
  refine ⟨fun Z Z' ρ l q => he.mono _ _ _ (fun d ρ' q => hg.mono _ _ _ _ l.nx q) q, (ps_asg he.run hg.run hs hw h1).imp fun Z σ H ⟨I, ρ, A, q⟩ => ⟨I, ρ, A, he.mono _ _ _ (fun d ρ' q v I' H' m A' rv => ?_) q⟩⟩
  exact ⟨I', ρ', d, A', rv, hg.mono _ _ _ _ (fun ρ2 q I2 σ2 H2 A2 s2 _ => q I2 σ2 H2 (Same.trans m.i s2.i) A2) q⟩
end
section
variable {F : Fx} {X : Cx} {e : Expr} {te : DT} {x k1 k2 k3 : Str} {p1 p2 p3 q1 q2 q3 c1 c2 c3 tp pos : Pos} {j1 j2 j3 kt : Nat}
theorem len_putD {kvs : List (Key × D)} {k : Key} {d : D} : (putD kvs k d).length ≤ kvs.length + 1 := by
  unfold putD
  split
  · rw [List.length_map]; omega
  · simp
/-- the dict at slot j, written once more -/
theorem own_put {K : PySem.W.Frag} {I H I0 : Hp} {ρ : DEnv} {σ : L2.St} {j : Nat} {kvs : List (Key × D)} (A : At F K I ρ σ H) (hx : ρ[j]? = some (some (.ownD kvs))) (k : Key) {v : V} {d : D} (rv : Rep K I v d) :
    ∃ p ws, σ[j]? = some (some (.ref p)) ∧ H p = some (.dK ws) ∧ ws.length = kvs.length ∧ ∀ H', H' = upd H p (.dK (putK ws k v)) → At F K I (ρ.set j (some (.ownD (putD kvs k d)))) σ H' := by
  obtain ⟨p, o, h1, w, turn⟩ := A.turnOwn hx trivial
  obtain ⟨ws, rfl, kk, r⟩ := w.rep
  obtain ⟨a1, a2⟩ := putD_rep (k := k) rv kk r
  refine ⟨p, ws, h1, w.hp, by simpa using congrArg List.length kk, fun H' e => ?_⟩
  subst e
  exact turn _ _ ⟨_, rfl, a1, a2⟩ (by intro _ h; cases h)
theorem ds_put3 (j : Nat) (hc : X.calm = true) (hu : X.A.units + 64 < cLine) (he : DE F X e te) (hN : X.N[j]? = some x := by rfl) (hv : Vis X.env.scope x := by first | exact Or.inl rfl | exact Or.inr (Or.inl rfl) | exact Or.inr (Or.inr rfl)) (hd : (x == ("__debug__" : Str)) = false := by decide)
    (hcd : (x == ("__classdict__" : Str)) = false := by decide)
    (hs : swapsWithSole [.Tuple [.Subscript (.Name x p1) (.Constant (.str k1) j1 c1) q1, .Subscript (.Name x p2) (.Constant (.str k2) j2 c2) q2, .Subscript (.Name x p3) (.Constant (.str k3) j3 c3) q3] kt tp] e pos.line X.env = pure false := by rfl)
    (hw : swappedStores [.Tuple [.Subscript (.Name x p1) (.Constant (.str k1) j1 c1) q1, .Subscript (.Name x p2) (.Constant (.str k2) j2 c2) q2, .Subscript (.Name x p3) (.Constant (.str k3) j3 c3) q3] kt tp] e X.env = pure none := by rfl) :
    DSt F X (.Assign [.Tuple [.Subscript (.Name x p1) (.Constant (.str k1) j1 c1) q1, .Subscript (.Name x p2) (.Constant (.str k2) j2 c2) q2, .Subscript (.Name x p3) (.Constant (.str k3) j3 c3) q3] kt tp] e pos)
      (fun Z ρ => te ρ fun d => ∃ d1 d2 d3 kvs, d = .lst [d1, d2, d3] ∧ ρ[j]? = some (some (.ownD kvs)) ∧ kvs.length ≤ 1000 ∧ Z.nx (ρ.set j (some (.ownD (putD (putD (putD kvs (.inr k1) d1) (.inr k2) d2) (.inr k3) d3))))) := by
  have S := fun {p : Pos} => pv (X := X) (pos := p) j hN hv hd hcd
  refine ⟨fun Z Z' ρ l q => he.mono _ _ _ (fun d ⟨d1, d2, d3, kvs, a, b, c, q⟩ => ⟨d1, d2, d3, kvs, a, b, c, l.nx _ q⟩) q, (ps_asg he.run (pg_unl hc (pgs_cons (pg_sub S pe_str (set_dict (by omega))) (pgs_cons (pg_sub S pe_str (set_dict (by omega))) (pgs_cons (pg_sub S pe_str (set_dict (by omega))) pgs_nil)))) hs hw).imp fun Z σ H ⟨I, ρ, A, q⟩ => ?_⟩
  refine rdE_next he.mono A q fun d v I1 H1 q1 s1 rv => ?_
  obtain ⟨d1, d2, d3, kvs, rfl, hx, hl, q1⟩ := q1
  cases rv with
  | @lst a vs _ ha rr =>
  have A1 := A.step s1
  obtain ⟨v1, v2, v3, rfl, r1, r2, r3⟩ : ∃ v1 v2 v3, vs = [v1, v2, v3] ∧ Rep X.K I1 v1 d1 ∧ Rep X.K I1 v2 d2 ∧ Rep X.K I1 v3 d3 := by
    cases rr with
    | cons a rr => cases rr with
      | cons b rr => cases rr with
        | cons c rr => cases rr; exact ⟨_, _, _, rfl, a, b, c⟩
  obtain ⟨p, ws, e1, h1, l1, next1⟩ := own_put (I0 := I1) A1 hx (.inr k1) r1
  refine ⟨_, _, rfl, .of (A1.st.sub _ _ ha), rfl, ?_⟩
  have A2 := next1 _ rfl
  have hl1 := len_putD (kvs := kvs) (k := .inr k1) (d := d1)
  have hj : j < ρ.length := (List.getElem?_eq_some_iff.mp hx).1
  obtain ⟨p', ws', e2, h2, l2, next2⟩ := own_put (I0 := I1) A2 (j := j) (kvs := putD kvs (.inr k1) d1) (by rw [List.getElem?_set_self hj]) (.inr k2) r2
  rw [e1] at e2
  cases e2
  have A3 := next2 _ rfl
  have hl2 := len_putD (kvs := putD kvs (.inr k1) d1) (k := .inr k2) (d := d2)
  obtain ⟨p'', ws'', e3, h3, l3, next3⟩ := own_put (I0 := I1) A3 (j := j) (kvs := putD (putD kvs (.inr k1) d1) (.inr k2) d2) (by rw [List.getElem?_set_self (by rw [List.length_set]; exact hj)]) (.inr k3) r3
  rw [e1] at e3
  cases e3
  have A4 := next3 _ rfl
  rw [List.set_set, List.set_set] at A4
  have big : ∀ n, n ≤ 2000 → n < sizeLine := fun n h => by rw [sizeLine_eq]; omega
  refine ⟨_, _, rfl, _, e1, p, _, rfl, .inl ⟨ws, .inr k1, h1, rfl, big _ (by omega), rfl⟩, ?_⟩
  refine ⟨_, _, rfl, _, e1, p, _, rfl, .inl ⟨ws', .inr k2, h2, rfl, big _ (by omega), rfl⟩, ?_⟩
  refine ⟨_, _, rfl, _, e1, p, _, rfl, .inl ⟨ws'', .inr k3, h3, rfl, big _ (by omega), rfl⟩, rfl, ?_⟩
  exact q1 I1 σ _ s1.i A4
end
end Dk
namespace KB
open PySem L2 Dk
def boughsOf (ks : List Kind) (f : Str) : List Bough := match ks.find? fun k => decide (k.1 = f) with
  | some k => k.2
  | none => []
mutual
/-- parts of the field f of size s -/
def cnt (ks : List Kind) (f : Str) (s : Nat) : Nat := if f = numS then 1 else match s with
  | 0 => 0
  | s + 1 => ((boughsOf ks f).map fun b => cnts ks b.2 s).sum
termination_by (s, 0)
/-- rows of parts of fields, of size s together -/
def cnts (ks : List Kind) (fs : List Str) (s : Nat) : Nat := match fs with
  | [] => if s = 0 then 1 else 0
  | f :: fs => ((List.range (s + 1)).attach.map fun h => cnt ks f h.1 * cnts ks fs (s - h.1)).sum
termination_by (s, fs.length + 1)
decreasing_by
  · have := List.mem_range.mp h.2
    by_cases e : h.1 = s
    · rw [e]; exact Prod.Lex.right _ (by simp)
    · exact Prod.Lex.left _ _ (by omega)
  · by_cases e : s - h.1 = s
    · rw [e]; exact Prod.Lex.right _ (by simp)
    · exact Prod.Lex.left _ _ (by omega)
end
theorem nodup_len {α : Type} [DecidableEq α] : ∀ {l m : List α}, l.Nodup → (∀ x ∈ l, x ∈ m) → l.length ≤ m.length
  | [], m, _, _ => Nat.zero_le _
  | a :: l, m, nd, h => by
    obtain ⟨n1, n2⟩ := List.nodup_cons.mp nd
    have ha := h a (by simp)
    have := nodup_len (l := l) (m := m.erase a) n2 fun x hx => (List.mem_erase_of_ne (fun e : x = a => n1 (e ▸ hx))).mpr (h x (List.mem_cons_of_mem _ hx))
    rw [List.length_erase_of_mem ha] at this
    have := List.length_pos_of_mem ha
    rw [List.length_cons]
    omega
/-- what was reckoned so far -/
structure Memo (ks : List Kind) (kvs : List (List Key × D)) : Prop where
  nd : (kvs.map (·.1)).Nodup
  ok : ∀ kv ∈ kvs, ∃ (f : Str) (s : Nat), f ∈ kNames ks ∧ s ≤ 7 ∧ kv.1 = [.inr f, .inl (s : Int)] ∧ kv.2 = .int (cnt ks f s : Nat)
theorem Memo.nil {ks : List Kind} : Memo ks [] := ⟨by simp, fun kv h => by cases h⟩
theorem Memo.len {ks : List Kind} {kvs : List (List Key × D)} (g : Good ks) (h : Memo ks kvs) : kvs.length ≤ 48 := by
  have := nodup_len (m := (kNames ks).flatMap fun f => (List.range 8).map fun s : Nat => [(.inr f : Key), .inl (s : Int)]) h.nd fun k hk => by
    obtain ⟨kv, a, rfl⟩ := List.mem_map.mp hk
    obtain ⟨f, s, h1, h2, h3, _⟩ := h.ok kv a
    rw [h3]
    exact List.mem_flatMap.mpr ⟨f, h1, List.mem_map.mpr ⟨s, List.mem_range.mpr (by omega), rfl⟩⟩
  rw [List.length_map] at this
  have l : ∀ l : List Str, (l.flatMap fun f => (List.range 8).map fun s : Nat => [(.inr f : Key), .inl (s : Int)]).length = 8 * l.length := fun l => by
    induction l with
    | nil => rfl
    | cons a r ih => rw [List.flatMap_cons, List.length_append, ih, List.length_map, List.length_range, List.length_cons]; omega
  rw [l] at this
  have e : (kNames ks).length = ks.length := by unfold kNames; simp
  have := g.s1
  omega
theorem Memo.put {ks : List Kind} {kvs : List (List Key × D)} (h : Memo ks kvs) {f : Str} {s : Nat} (hf : f ∈ kNames ks) (hs : s ≤ 7) : Memo ks (putT kvs [.inr f, .inl (s : Int)] (.int (cnt ks f s : Nat))) := by
  unfold putT
  split
  · refine ⟨?_, fun kv hk => ?_⟩
    · have e : (kvs.map fun kv => if kv.1 = [.inr f, .inl (s : Int)] then (kv.1, D.int (cnt ks f s : Nat)) else kv).map (·.1) = kvs.map (·.1) := by
        rw [List.map_map]
        exact List.map_congr_left fun kv _ => by simp only [Function.comp]; split <;> rfl
      rw [e]
      exact h.nd
    · obtain ⟨kv0, h0, rfl⟩ := List.mem_map.mp hk
      split
      · rename_i e
        exact ⟨f, s, hf, hs, e, rfl⟩
      · exact h.ok kv0 h0
  · rename_i n
    refine ⟨?_, fun kv hk => ?_⟩
    · rw [List.map_append, List.nodup_append]
      refine ⟨h.nd, by simp, fun a ha b hb e => ?_⟩
      simp only [List.map_cons, List.map_nil, List.mem_singleton] at hb
      subst hb
      subst e
      obtain ⟨kv, hkv, e⟩ := List.mem_map.mp ha
      exact n (List.any_eq_true.mpr ⟨kv, hkv, by rw [decide_eq_true_eq]; exact e⟩)
    · rcases List.mem_append.mp hk with hk | hk
      · exact h.ok kv hk
      · rw [List.mem_singleton.mp hk]
        exact ⟨f, s, hf, hs, rfl, rfl⟩
/-- no count up to the size s is out of the common -/
def Low (ks : List Kind) (s : Nat) : Prop := ∀ h, h ≤ s → ∀ f, f ∈ kNames ks → cnt ks f h < 2 ^ 60
theorem Low.mono {ks : List Kind} {s s' : Nat} (h : Low ks s) (l : s' ≤ s) : Low ks s' := fun i hi => h i (by omega)
end KB
namespace KB
open PySem L2 Dk
/-- a row of a function: its names and its body, by its bough -/
abbrev FRow := Str × (List Str × D)
def frD (rows : List FRow) : List (Key × D) := rows.map fun r => (.inr r.1, .tup [.tup (r.2.1.map D.str), r.2.2])
def hereD (names : List Str) (things : List D) : List (Key × D) := (names.zip things).map fun p => (.inr p.1, p.2)
mutual
/-- what is given of things: by so many calls one in another; runs ahead and behind -/
inductive EvT (rows : List FRow) (most : Nat) : Nat → List D → Nat → D → Nat → Prop
  | mk {k n n' : Nat} {b : Str} {parts others : List D} {names : List Str} {body d : D} : (b, (names, body)) ∈ rows → (rows.map (·.1)).Nodup → names.Nodup → names.length = (parts ++ others).length → names.length ≤ 100 → n < most → EvB rows most k (hereD names (parts ++ others)) body (n + 1) d n' → EvT rows most (k + 1) (.tup (.str b :: parts) :: others) n d n'
inductive EvB (rows : List FRow) (most : Nat) : Nat → List (Key × D) → D → Nat → D → Nat → Prop
  | name {k n : Nat} {here : List (Key × D)} {x : Str} {d : D} : lookD here (.inr x) = some d → EvB rows most (k + 1) here (.tup [.str "name", .str x]) n d n
  | num {k n : Nat} {here : List (Key × D)} {d : D} : EvB rows most (k + 1) here (.tup [.str "num", d]) n d n
  | sum {k n n' : Nat} {here : List (Key × D)} {bs : List D} {is : List Int} : bs.length ≤ 100 → EvL rows most k here bs n (is.map D.int) n' → EvB rows most (k + 1 + 1) here (.tup (.str "sum" :: bs)) n (.int is.sum) n'
  | less {k n n1 n2 : Nat} {here : List (Key × D)} {a b c e d : D} {i j : Int} : EvL rows most k here [a, b] n [.int i, .int j] n1 → EvB rows most (k + 1) here (if i < j then c else e) n1 d n2 → EvB rows most (k + 1 + 1) here (.tup [.str "less", a, b, c, e]) n d n2
  | make {k n n' : Nat} {here : List (Key × D)} {b : Str} {bs ds : List D} : bs.length ≤ 100 → EvL rows most k here bs n ds n' → EvB rows most (k + 1 + 1) here (.tup [.str "make", .str b, .tup bs]) n (.tup (.str b :: ds)) n'
  | again {k n n1 n2 : Nat} {here : List (Key × D)} {bs ds : List D} {d : D} : bs.length ≤ 100 → EvL rows most k here bs n ds n1 → EvT rows most (k + 1) ds n1 d n2 → EvB rows most (k + 1 + 1) here (.tup [.str "again", .tup bs]) n d n2
inductive EvL (rows : List FRow) (most : Nat) : Nat → List (Key × D) → List D → Nat → List D → Nat → Prop
  | nil {k n : Nat} {here : List (Key × D)} : EvL rows most k here [] n [] n
  | cons {k n n1 n2 : Nat} {here : List (Key × D)} {b d : D} {bs ds : List D} : EvB rows most k here b n d n1 → EvL rows most k here bs n1 ds n2 → EvL rows most k here (b :: bs) n (d :: ds) n2
end
theorem EvL.len {rows : List FRow} {most k : Nat} {here : List (Key × D)} : ∀ {bs : List D} {n : Nat} {ds : List D} {n' : Nat}, EvL rows most k here bs n ds n' → ds.length = bs.length
  | _, _, _, _, .nil => rfl
  | _, _, _, _, .cons _ h => by rw [List.length_cons, List.length_cons, h.len]
mutual
theorem EvT.up {rows : List FRow} {most : Nat} : ∀ {k : Nat} {ts : List D} {n : Nat} {d : D} {n' : Nat}, EvT rows most k ts n d n' → ∀ {m : Nat}, k ≤ m → EvT rows most m ts n d n'
  | _, _, _, _, _, .mk a b c e f g h, 0, l => by omega
  | _, _, _, _, _, .mk a b c e f g h, m + 1, l => .mk a b c e f g (h.up (by omega))
theorem EvB.up {rows : List FRow} {most : Nat} : ∀ {k : Nat} {here : List (Key × D)} {b : D} {n : Nat} {d : D} {n' : Nat}, EvB rows most k here b n d n' → ∀ {m : Nat}, k ≤ m → EvB rows most m here b n d n'
  | _, _, _, _, _, _, .name a, 0, l => by omega
  | _, _, _, _, _, _, .name a, m + 1, l => .name a
  | _, _, _, _, _, _, .num, 0, l => by omega
  | _, _, _, _, _, _, .num, m + 1, l => .num
  | _, _, _, _, _, _, .sum a h, m + 2, l => .sum a (h.up (by omega))
  | _, _, _, _, _, _, .less h h', m + 2, l => .less (h.up (by omega)) (h'.up (by omega))
  | _, _, _, _, _, _, .make a h, m + 2, l => .make a (h.up (by omega))
  | _, _, _, _, _, _, .again a h h', m + 2, l => .again a (h.up (by omega)) (h'.up (by omega))
  | _, _, _, _, _, _, .sum a h, 0, l => by omega
  | _, _, _, _, _, _, .sum a h, 1, l => by omega
  | _, _, _, _, _, _, .less h h', 0, l => by omega
  | _, _, _, _, _, _, .less h h', 1, l => by omega
  | _, _, _, _, _, _, .make a h, 0, l => by omega
  | _, _, _, _, _, _, .make a h, 1, l => by omega
  | _, _, _, _, _, _, .again a h h', 0, l => by omega
  | _, _, _, _, _, _, .again a h h', 1, l => by omega
theorem EvL.up {rows : List FRow} {most : Nat} : ∀ {k : Nat} {here : List (Key × D)} {bs : List D} {n : Nat} {ds : List D} {n' : Nat}, EvL rows most k here bs n ds n' → ∀ {m : Nat}, k ≤ m → EvL rows most m here bs n ds n'
  | _, _, _, _, _, _, .nil, m, l => .nil
  | _, _, _, _, _, _, .cons h h', m, l => .cons (h.up l) (h'.up l)
end
end KB
namespace KB
open PySem L2 Dk
open PyProof.Rows (envOfC)
def top (i : Nat) : Stmt := PySem.Challenge.pw_dressedkinds_k22_great_numbers.main.body.getD i (.Pass ⟨0, 0, 0, 0⟩)
abbrev s_is_name : Stmt := top 15
theorem sc_is_name : FnScope ["thing", "sign"] ["thing"] (defScope s_is_name) := ⟨rfl, rfl, rfl, by decide +kernel, rfl, by decide +kernel, by decide +kernel⟩
theorem bd_is_name (kV doc pm : Value) (an : Option Addr) (cdv ct : Value) (us : List Value) (hl : us.length = 1) : bindArgs (PySem.W.fnOf "is_name" "is_name" (defArgs s_is_name) (defBody s_is_name) (defScope s_is_name) .none kV doc pm an cdv ct) ⟨us, []⟩ = pure ((["thing"] : List Str).zip us) := by
  match us, hl with
  | [v0], _ => rfl
abbrev s_is_bough : Stmt := top 17
theorem sc_is_bough : FnScope ["thing", "field"] ["thing"] (defScope s_is_bough) := ⟨rfl, rfl, rfl, by decide +kernel, rfl, by decide +kernel, by decide +kernel⟩
theorem bd_is_bough (kV doc pm : Value) (an : Option Addr) (cdv ct : Value) (us : List Value) (hl : us.length = 1) : bindArgs (PySem.W.fnOf "is_bough" "is_bough" (defArgs s_is_bough) (defBody s_is_bough) (defScope s_is_bough) .none kV doc pm an cdv ct) ⟨us, []⟩ = pure ((["thing"] : List Str).zip us) := by
  match us, hl with
  | [v0], _ => rfl
abbrev s_is_kind : Stmt := top 18
theorem sc_is_kind : FnScope ["thing", "bough"] ["thing"] (defScope s_is_kind) := ⟨rfl, rfl, rfl, by decide +kernel, rfl, by decide +kernel, by decide +kernel⟩
theorem bd_is_kind (kV doc pm : Value) (an : Option Addr) (cdv ct : Value) (us : List Value) (hl : us.length = 1) : bindArgs (PySem.W.fnOf "is_kind" "is_kind" (defArgs s_is_kind) (defBody s_is_kind) (defScope s_is_kind) .none kV doc pm an cdv ct) ⟨us, []⟩ = pure ((["thing"] : List Str).zip us) := by
  match us, hl with
  | [v0], _ => rfl
abbrev s_are_unlike : Stmt := top 19
theorem sc_are_unlike : FnScope ["names", "name"] ["names"] (defScope s_are_unlike) := ⟨rfl, rfl, rfl, by decide +kernel, rfl, by decide +kernel, by decide +kernel⟩
theorem bd_are_unlike (kV doc pm : Value) (an : Option Addr) (cdv ct : Value) (us : List Value) (hl : us.length = 1) : bindArgs (PySem.W.fnOf "are_unlike" "are_unlike" (defArgs s_are_unlike) (defBody s_are_unlike) (defScope s_are_unlike) .none kV doc pm an cdv ct) ⟨us, []⟩ = pure ((["names"] : List Str).zip us) := by
  match us, hl with
  | [v0], _ => rfl
abbrev s_is_kinds : Stmt := top 20
theorem sc_is_kinds : FnScope ["thing", "kind", "names", "name", "boughs", "bough", "fields", "some", "field"] ["thing"] (defScope s_is_kinds) := ⟨rfl, rfl, rfl, by decide +kernel, rfl, by decide +kernel, by decide +kernel⟩
theorem bd_is_kinds (kV doc pm : Value) (an : Option Addr) (cdv ct : Value) (us : List Value) (hl : us.length = 1) : bindArgs (PySem.W.fnOf "is_kinds" "is_kinds" (defArgs s_is_kinds) (defBody s_is_kinds) (defScope s_is_kinds) .none kV doc pm an cdv ct) ⟨us, []⟩ = pure ((["thing"] : List Str).zip us) := by
  match us, hl with
  | [v0], _ => rfl
abbrev s_with_worths : Stmt := top 21
theorem sc_with_worths : FnScope ["kinds", "found", "turn", "name", "boughs", "field", "bough", "fields"] ["kinds"] (defScope s_with_worths) := ⟨rfl, rfl, rfl, by decide +kernel, rfl, by decide +kernel, by decide +kernel⟩
theorem bd_with_worths (kV doc pm : Value) (an : Option Addr) (cdv ct : Value) (us : List Value) (hl : us.length = 1) : bindArgs (PySem.W.fnOf "with_worths" "with_worths" (defArgs s_with_worths) (defBody s_with_worths) (defScope s_with_worths) .none kV doc pm an cdv ct) ⟨us, []⟩ = pure ((["kinds"] : List Str).zip us) := by
  match us, hl with
  | [v0], _ => rfl
structure TxtB (K : PySem.W.Frag) (C : Addr) (mg : Str → Option Value) : Prop where
  g_LETTERS : ∃ t, mg "LETTERS" = some (.str "abcdefghijklmnopqrstuvwxyz" t)
  g_LONGEST : ∃ t, mg "LONGEST" = some (.int 8 t)
  g_NUM : ∃ t, mg "NUM" = some (.str "num" t)
  b_isinstance : mg "isinstance" = none
  b_str : mg "str" = none
  b_tuple : mg "tuple" = none
  b_len : mg "len" = none
  b_all : mg "all" = none
  b_any : mg "any" = none
  b_range : mg "range" = none
  b_sum : mg "sum" = none
  b_min : mg "min" = none
  b_max : mg "max" = none
  b_int : mg "int" = none
  b_repr : mg "repr" = none
  b_list : mg "list" = none
  b_sorted : mg "sorted" = none
  b_zip : mg "zip" = none
  cl_Book : Cls K C
  na_Book_kinds : NoAttr K C "kinds"
  na_Book_names_by : NoAttr K C "names_by"
  na_Book_kinds_by : NoAttr K C "kinds_by"
  na_Book_fields_by : NoAttr K C "fields_by"
def spOne (R : D → Prop) : DSp where
  n := 1
  f := fun ds Q _ => ∃ x, ds = [x] ∧ R x ∧ Q (.bl true)
  len := fun ds Q E ⟨m, e, _⟩ => by rw [e]; rfl
  mono := fun ds Q Q' E E' k _ ⟨m, e, h, q⟩ => ⟨m, e, h, k _ q⟩
def spIsName : DSp := spOne fun d => ∃ x, d = .str x ∧ nameOk x = true
def spIsBough : DSp := spOne fun d => ∃ b : Bough, d = boughD b ∧ nameOk b.1 = true ∧ b.2.length ≤ 8
def spIsKind : DSp := spOne fun d => ∃ k : Kind, d = kindD k ∧ nameOk k.1 = true ∧ k.2 ≠ [] ∧ k.2.length ≤ 8 ∧ (∀ b ∈ k.2, nameOk b.1 = true ∧ b.2.length ≤ 8) ∧ OkN 4 (kindD k)
def spUnlike : DSp := spOne fun d => ∃ xs : List Str, d = .lst (xs.map D.str) ∧ xs.Nodup ∧ xs.length ≤ 1000
def spIsKinds : DSp := spOne fun d => ∃ ks, d = kindsD ks ∧ Good ks
section
variable {P : Program} {w : World} {K : PySem.W.Frag} {C : Addr} {mg : Str → Option Value} {base : Heap} {W : Wd} {k : Nat} {f : Addr} {fd : FuncData}
theorem all_true {α : Type} (l : List α) : ∃ ns : List Bool, (l.map fun _ => D.bl true) = ns.map D.bl ∧ ns.all id = true := ⟨l.map fun _ => true, by rw [List.map_map]; rfl, by simp⟩
theorem ok_is_name (T : TxtB K C mg) (Fn : Fun K "is_name" "is_name" s_is_name f fd) : GnOk P w K mg base CX0 (k + 1) f fd ["thing"] (spD W K spIsName) := by
  refine Fn.okD sc_is_name rfl fun cdv A outer s H I ds Q Ed E hr h => ?_
  have hu := hr.units
  have hu2 : (A.deeper (envOfC "is_name" (defScope s_is_name) s.heap.objs.size f cdv)).units + 66 < cLine := by have := hr.room.un; omega
  obtain ⟨_, rfl, ⟨x, rfl, hx⟩, q⟩ := h
  refine ⟨_, (dss_cons (ds_if (dt_wh (dw_or (dt_not (dt_val (de_isi is_str T.b_isinstance T.b_str (by decide +kernel) (de_name 0)))) (dw_or (dt_not (dt_chain .le .le de_int (de_len T.b_len (da_cons (de_name 0) da_nil)) (de_gi T.g_LONGEST))) (dw_or1 (dt_c (.eq hu) (de_name 0) (de_gs T.g_NUM))))))
  (dss_one (ds_ret de_bl))
  dss_nil)
  (dss_one (ds_ret (de_all rfl T.b_all (da_cons (de_lc (own := [("sign", 1)]) rfl sc_is_name.nd (di_seq (de_name 0)) (blkOk_by (own := [("sign", 1)]) (N := ["thing", "sign"]) (sc := defScope s_is_name) (by decide +kernel)) (fun _ _ _ _ _ => (dg_name 1 sc_is_name.nd)) (fun _ _ _ _ _ => dif_nil) (fun _ _ _ _ _ => (de_in hu2 (de_name 1) (de_gs T.g_LETTERS)))) da_nil))))), ?_⟩
  obtain ⟨h1, h2, h3, h4⟩ := nameOk_split hx
  have hl : x.length ≤ sizeLine := Nat.le_trans h2 (by decide)
  simp only [getD_0, getD_s, set_0, set_s, boolD_bl, intD_int, startD, List.map, List.length_cons, List.length_nil, List.replicate, List.cons_append, List.nil_append, defEnds]
  refine ⟨rfl, ?_⟩
  simp only [isStr, Bool.not_true, Bool.false_eq_true, if_false, lenD, leD]
  refine ⟨hl, ?_⟩
  simp only [getD_0, getD_s, set_0, set_s, boolD_bl, intD_int, startD, List.map, List.length_cons, List.length_nil, List.replicate, List.cons_append, List.nil_append, defEnds]
  rw [if_pos (by simp; omega), if_neg (by simp; omega)]
  simp only [eqD_str, getD_0, getD_s, set_0, set_s, boolD_bl, intD_int, startD, List.map, List.length_cons, List.length_nil, List.replicate, List.cons_append, List.nil_append, defEnds]
  rw [if_neg (by rw [decide_eq_true_eq]; exact h3)]
  simp only [itemsD]
  have e : sgnD x = x.cps.toList.map fun c => D.str ⟨#[c]⟩ := rfl
  rw [e]
  refine ⟨by rw [List.length_map]; exact hl, lcD_all (fun c => D.str ⟨#[c]⟩) (fun _ => .bl true) (fun c hc R S r => ?_) ?_⟩
  · simp only [wipeD, getD_0, getD_s, set_0, set_s, boolD_bl, intD_int, startD, List.map, List.length_cons, List.length_nil, List.replicate, List.cons_append, List.nil_append, defEnds, if_true]
    refine ⟨_, rfl, ?_⟩
    rw [in_abc]
    have : signOk c = true := by have := h4 c hc; unfold signOk; simp [this]
    rw [this]
    exact r
  · obtain ⟨ns, e1, e2⟩ := all_true x.cps.toList
    exact ⟨ns, e1, by rw [e2]; exact q⟩
theorem ok_is_bough (T : TxtB K C mg) (Fn : Fun K "is_bough" "is_bough" s_is_bough f fd) (C_is_name : Cal P w K mg base CX0 W k "is_name" ["thing"] spIsName) : GnOk P w K mg base CX0 (k + 1) f fd ["thing"] (spD W K spIsBough) := by
  refine Fn.okD sc_is_bough rfl fun cdv A outer s H I ds Q Ed E hr h => ?_
  have hu := hr.units
  obtain ⟨_, rfl, ⟨b, rfl, hb, h8⟩, q⟩ := h
  refine ⟨_, (dss_cons (ds_if (dt_wh (dw_or (dt_not (dt_val (de_isi is_tup T.b_isinstance T.b_tuple (by decide +kernel) (de_name 0)))) (dw_or (dt_c (.ne hu) (de_len T.b_len (da_cons (de_name 0) da_nil)) de_int) (dw_or (dt_not (dt_val (de_fn C_is_name (hr.mono (by omega)) pass0 lets0 (da_cons (de_at hu (de_name 0) de_int) da_nil)))) (dw_or1 (dt_not (dt_val (de_isi is_tup T.b_isinstance T.b_tuple (by decide +kernel) (de_at hu (de_name 0) de_int)))))))))
  (dss_one (ds_ret de_bl))
  dss_nil)
  (dss_one (ds_ret (de_all rfl T.b_all (da_cons (de_lc (own := [("field", 1)]) rfl sc_is_bough.nd (di_seq (de_at hu (de_name 0) de_int)) (blkOk_by (own := [("field", 1)]) (N := ["thing", "field"]) (sc := defScope s_is_bough) (by decide +kernel)) (fun _ _ _ _ _ => (dg_name 1 sc_is_bough.nd)) (fun _ _ _ _ _ => dif_nil) (fun _ _ _ _ _ => (de_isi is_str T.b_isinstance T.b_str (by decide +kernel) (de_name 1)))) da_nil))))), ?_⟩
  simp only [getD_0, getD_s, set_0, set_s, boolD_bl, intD_int, startD, List.map, List.length_cons, List.length_nil, List.replicate, List.cons_append, List.nil_append, defEnds, boughD]
  refine ⟨rfl, ?_⟩
  simp only [isTup, Bool.not_true, Bool.false_eq_true, if_false, lenD]
  simp only [neD_int, getD_0, getD_s, set_0, set_s, boolD_bl, intD_int, startD, List.map, List.length_cons, List.length_nil, List.replicate, List.cons_append, List.nil_append, defEnds, Bool.not_true, Bool.false_eq_true, if_false]
  rw [if_neg (by decide)]
  refine ⟨_, rfl, _, rfl, ⟨_, rfl, hb⟩, ?_⟩
  simp only [getD_0, getD_s, set_0, set_s, boolD_bl, intD_int, startD, List.map, List.length_cons, List.length_nil, List.replicate, List.cons_append, List.nil_append, defEnds, Bool.not_true, Bool.false_eq_true, if_false]
  refine ⟨_, rfl, rfl, ?_⟩
  simp only [isTup, Bool.not_true, Bool.false_eq_true, if_false]
  refine ⟨_, rfl, ?_⟩
  simp only [itemsD]
  refine ⟨Nat.le_trans (by rw [List.length_map]; exact h8) (by decide), lcD_all D.str (fun _ => .bl true) (fun c hc R S r => ?_) ?_⟩
  · simp only [wipeD, getD_0, getD_s, set_0, set_s, boolD_bl, intD_int, startD, List.map, List.length_cons, List.length_nil, List.replicate, List.cons_append, List.nil_append, defEnds, if_true]
    exact ⟨rfl, r⟩
  · obtain ⟨ns, e1, e2⟩ := all_true b.2
    exact ⟨ns, e1, by rw [e2]; exact q⟩
theorem ok_is_kind (T : TxtB K C mg) (Fn : Fun K "is_kind" "is_kind" s_is_kind f fd) (C_is_name : Cal P w K mg base CX0 W k "is_name" ["thing"] spIsName) (C_is_bough : Cal P w K mg base CX0 W k "is_bough" ["thing"] spIsBough) : GnOk P w K mg base CX0 (k + 1) f fd ["thing"] (spD W K spIsKind) := by
  refine Fn.okD sc_is_kind rfl fun cdv A outer s H I ds Q Ed E hr h => ?_
  have hu := hr.units
  obtain ⟨_, rfl, ⟨a, rfl, ha, hne, h8, hb, okk⟩, q⟩ := h
  refine ⟨_, (dss_cons (ds_if (dt_wh (dw_or (dt_not (dt_val (de_isi is_tup T.b_isinstance T.b_tuple (by decide +kernel) (de_name 0)))) (dw_or (dt_c (.ne hu) (de_len T.b_len (da_cons (de_name 0) da_nil)) de_int) (dw_or (dt_not (dt_val (de_fn C_is_name (hr.mono (by omega)) pass0 lets0 (da_cons (de_at hu (de_name 0) de_int) da_nil)))) (dw_or1 (dt_not (dt_val (de_isi is_tup T.b_isinstance T.b_tuple (by decide +kernel) (de_at hu (de_name 0) de_int)))))))))
  (dss_one (ds_ret de_bl))
  dss_nil)
  (dss_one (ds_ret (de_and (de_c (.ne hu) (de_at hu (de_name 0) de_int) (de_tup da_nil)) (de_one (de_all rfl T.b_all (da_cons (de_lc (own := [("bough", 1)]) rfl sc_is_kind.nd (di_seq (de_at hu (de_name 0) de_int)) (blkOk_by (own := [("bough", 1)]) (N := ["thing", "bough"]) (sc := defScope s_is_kind) (by decide +kernel)) (fun _ _ _ _ _ => (dg_name 1 sc_is_kind.nd)) (fun _ _ _ _ _ => dif_nil) (fun _ _ _ _ _ => (de_fn C_is_bough (hr.mono (by omega)) pass0 lets0 (da_cons (de_name 1) da_nil)))) da_nil))))))), ?_⟩
  simp only [getD_0, getD_s, set_0, set_s, boolD_bl, intD_int, startD, List.map, List.length_cons, List.length_nil, List.replicate, List.cons_append, List.nil_append, defEnds, kindD]
  refine ⟨rfl, ?_⟩
  simp only [isTup, Bool.not_true, Bool.false_eq_true, if_false, lenD]
  simp only [neD_int, getD_0, getD_s, set_0, set_s, boolD_bl, intD_int, startD, List.map, List.length_cons, List.length_nil, List.replicate, List.cons_append, List.nil_append, defEnds, Bool.not_true, Bool.false_eq_true, if_false]
  rw [if_neg (by decide)]
  refine ⟨_, rfl, _, rfl, ⟨_, rfl, ha⟩, ?_⟩
  simp only [getD_0, getD_s, set_0, set_s, boolD_bl, intD_int, startD, List.map, List.length_cons, List.length_nil, List.replicate, List.cons_append, List.nil_append, defEnds, Bool.not_true, Bool.false_eq_true, if_false]
  refine ⟨_, rfl, rfl, ?_⟩
  simp only [isTup, Bool.not_true, Bool.false_eq_true, if_false]
  refine ⟨_, rfl, by decide, ?_⟩
  have okt : OkN 3 (.tup (a.2.map boughD)) := by
    have p := okk.pl
    have c := okk.cl
    have d := okk.dp
    simp only [kindD, toPy, toPys, plainD, plainDs, PyData.canLay0, PyData.canLayAll0, PyData.depth, PyData.depthAll, Bool.and_eq_true] at p c d
    exact ⟨p.2.1, by simpa [toPy, PyData.canLay0] using c.2.1, by simp only [toPy, PyData.depth]; omega⟩
  have e0 : deq (.tup (a.2.map boughD)) (.tup []) = false := by
    cases hq : a.2 with
    | nil => exact absurd hq hne
    | cons x xs => simp [deq, toPy, toPys, PyData.eqv, PyData.eqvAll]
  refine ⟨?_, ?_⟩
  · unfold canEq
    rw [okt.okE (by decide), (okN_tup (k := 0) (xs := []) (by simp)).okE (by decide)]
    simp
  rw [e0]
  simp only [getD_0, getD_s, set_0, set_s, boolD_bl, intD_int, startD, List.map, List.length_cons, List.length_nil, List.replicate, List.cons_append, List.nil_append, defEnds, Bool.not_false, if_true]
  refine ⟨_, rfl, ?_⟩
  simp only [itemsD]
  refine ⟨Nat.le_trans (by rw [List.length_map]; exact h8) (by decide), lcD_all boughD (fun _ => .bl true) (fun b hbm R S r => ?_) ?_⟩
  · simp only [wipeD, getD_0, getD_s, set_0, set_s, boolD_bl, intD_int, startD, List.map, List.length_cons, List.length_nil, List.replicate, List.cons_append, List.nil_append, defEnds, if_true]
    exact ⟨_, rfl, ⟨b, rfl, (hb b hbm).1, (hb b hbm).2⟩, r⟩
  · obtain ⟨ns, e1, e2⟩ := all_true a.2
    exact ⟨ns, e1, by rw [e2]; exact q⟩
theorem addK_nodup (xs : List Str) : ∀ (pre : List Str), (pre ++ xs).Nodup → (xs.map Sum.inr).foldl addK (pre.map (Sum.inr : Str → Key)) = (pre ++ xs).map Sum.inr := by
  induction xs with
  | nil => intro pre _; simp
  | cons x xs ih =>
    intro pre h
    have hx : x ∉ pre := by
      rw [List.nodup_append] at h
      exact fun hm => h.2.2 x hm x (by simp) rfl
    have e : addK (pre.map Sum.inr) (Sum.inr x : Key) = (pre ++ [x]).map Sum.inr := by
      unfold addK
      rw [if_neg]
      · simp
      · unfold hasK
        rw [List.any_map, Bool.not_eq_true, List.any_eq_false]
        intro y hy
        simp only [Function.comp_apply, decide_eq_true_eq]
        exact fun z => hx (Sum.inr.inj z ▸ hy)
    rw [List.map_cons, List.foldl_cons, e, ih (pre ++ [x]) (by simpa using h)]
    simp
theorem ok_are_unlike (T : TxtB K C mg) (Fn : Fun K "are_unlike" "are_unlike" s_are_unlike f fd) : GnOk P w K mg base CX0 (k + 1) f fd ["names"] (spD W K spUnlike) := by
  refine Fn.okD sc_are_unlike rfl fun cdv A outer s H I ds Q Ed E hr h => ?_
  have hu := hr.units
  obtain ⟨_, rfl, ⟨xs, rfl, hn, hl⟩, q⟩ := h
  refine ⟨_, (dss_one (ds_ret (de_c (.eq hu) (de_lenSc (own := [("name", 1)]) T.b_len rfl sc_are_unlike.nd (di_seq (de_name 0)) (blkOk_by (own := [("name", 1)]) (N := ["names", "name"]) (sc := defScope s_are_unlike) (by decide +kernel)) (fun _ _ _ _ _ => (dg_name 1 sc_are_unlike.nd)) (fun _ _ _ _ _ => dif_nil) (fun _ _ _ _ _ => (dn_nil rfl (dm_set (fun _ _ z => z) (de_name 1))))) (de_len T.b_len (da_cons (de_name 0) da_nil))))), ?_⟩
  simp only [getD_0, getD_s, set_0, set_s, boolD_bl, intD_int, startD, List.map, List.length_cons, List.length_nil, List.replicate, List.cons_append, List.nil_append, defEnds, itemsD, wipeD]
  have run : ∀ (ys pre : List Str) (R : List Key → Prop), (pre ++ ys).Nodup → (pre ++ ys).length ≤ 1000 → R ((pre ++ ys).map Sum.inr) → loopD (fun d ρ Q => Q (List.set ρ 1 (some (Ent.dat d)))) (fun x Q => Q true) (fun ρ b Q => getD ρ 1 fun y => ∃ k, y = keyD k ∧ b.length < 4000 ∧ Q (addK b k)) [some (Ent.dat (D.lst (xs.map D.str))), none] (ys.map D.str) (pre.map (Sum.inr : Str → Key)) R := by
    intro ys
    induction ys with
    | nil => intro pre R _ _ q; simpa [loopD] using q
    | cons y ys ih =>
      intro pre R hn hl q
      have e : addK (pre.map Sum.inr) (Sum.inr y : Key) = (pre ++ [y]).map Sum.inr := addK_nodup [y] pre (by
        have : (pre ++ [y] ++ ys).Nodup := by simpa using hn
        exact (List.nodup_append.mp this).1)
      simp only [List.map_cons, loopD, getD_0, getD_s, set_0, set_s, boolD_bl, intD_int, startD, List.map, List.length_cons, List.length_nil, List.replicate, List.cons_append, List.nil_append, defEnds, if_true]
      refine ⟨.inr y, rfl, by rw [List.length_map]; simp at hl; omega, ?_⟩
      rw [e]
      exact ih (pre ++ [y]) R (by simpa using hn) (by simpa using hl) (by simpa using q)
  refine run xs [] _ (by simpa using hn) (by simpa using hl) ?_
  simp only [lenD, List.length_map, List.nil_append, eqD_int, decide_true]
  exact q
end
end KB
namespace KB
open PySem L2 Dk
open PyProof.Rows (envOfC)
section
variable {P : Program} {w : World} {K : PySem.W.Frag} {C : Addr} {mg : Str → Option Value} {base : Heap} {W : Wd} {k : Nat} {f : Addr} {fd : FuncData}
theorem ok_is_kinds (T : TxtB K C mg) (Fn : Fun K "is_kinds" "is_kinds" s_is_kinds f fd) (C_is_kind : Cal P w K mg base CX0 W k "is_kind" ["thing"] spIsKind) (C_are_unlike : Cal P w K mg base CX0 W k "are_unlike" ["names"] spUnlike) : GnOk P w K mg base CX0 (k + 1) f fd ["thing"] (spD W K spIsKinds) := by
  refine Fn.okD sc_is_kinds rfl fun cdv A outer s H I ds Q Ed E hr h => ?_
  have hu := hr.units
  have hu2 : (A.deeper (envOfC "is_kinds" (defScope s_is_kinds) s.heap.objs.size f cdv)).units + 66 < cLine := by have := hr.room.un; omega
  obtain ⟨_, rfl, ⟨ks, rfl, g⟩, q⟩ := h
  refine ⟨_, (dss_cons (ds_if (dt_wh (dw_or (dt_not (dt_val (de_isi is_tup T.b_isinstance T.b_tuple (by decide +kernel) (de_name 0)))) (dw_or (dt_c (.eq hu) (de_name 0) (de_tup da_nil)) (dw_or1 (dt_not (dt_val (de_all rfl T.b_all (da_cons (de_lc (own := [("kind", 1)]) rfl sc_is_kinds.nd (di_seq (de_name 0)) (blkOk_by (own := [("kind", 1)]) (N := ["thing", "kind", "names", "name", "boughs", "bough", "fields", "some", "field"]) (sc := defScope s_is_kinds) (by decide +kernel)) (fun _ _ _ _ _ => (dg_name 1 sc_is_kinds.nd)) (fun _ _ _ _ _ => dif_nil) (fun _ _ _ _ _ => (de_fn C_is_kind (hr.mono (by omega)) pass0 lets0 (da_cons (de_name 1) da_nil)))) da_nil))))))))
  (dss_one (ds_ret de_bl))
  dss_nil)
  (dss_cons (by first | exact (ds_setLc (i := 2) (own := [("name", 3), ("boughs", 4)]) rfl sc_is_kinds.nd rfl rfl (sw_true rfl rfl rfl (by decide +kernel)) (di_seq (de_name 0)) (blkOk_by (own := [("name", 3), ("boughs", 4)]) (N := ["thing", "kind", "names", "name", "boughs", "bough", "fields", "some", "field"]) (sc := defScope s_is_kinds) (by decide +kernel)) (fun _ _ _ _ _ => (dg_tup (n := 2) rfl (dgs_cons (dg_name 3 sc_is_kinds.nd) (dgs_cons (dg_name 4 sc_is_kinds.nd) dgs_nil)))) (fun _ _ _ _ _ => dif_nil) (fun _ _ _ _ _ => (de_name 3))) | exact (ds_set 2 (de_lc (own := [("name", 3), ("boughs", 4)]) rfl sc_is_kinds.nd (di_seq (de_name 0)) (blkOk_by (own := [("name", 3), ("boughs", 4)]) (N := ["thing", "kind", "names", "name", "boughs", "bough", "fields", "some", "field"]) (sc := defScope s_is_kinds) (by decide +kernel)) (fun _ _ _ _ _ => (dg_tup (n := 2) rfl (dgs_cons (dg_name 3 sc_is_kinds.nd) (dgs_cons (dg_name 4 sc_is_kinds.nd) dgs_nil)))) (fun _ _ _ _ _ => dif_nil) (fun _ _ _ _ _ => (de_name 3))) sc_is_kinds.nd))
  (dss_cons (ds_if (dt_wh (dw_or (dt_not (dt_val (de_fn C_are_unlike (hr.mono (by omega)) pass0 lets0 (da_cons (de_name 2) da_nil)))) (dw_or1 (dt_not (dt_val (de_fn C_are_unlike (hr.mono (by omega)) pass0 lets0 (da_cons (de_cpL (own := [("name", 3), ("boughs", 4), ("bough", 5), ("fields", 6)]) rfl sc_is_kinds.nd (di_seq (de_name 0)) (blkOk_by (own := [("name", 3), ("boughs", 4), ("bough", 5), ("fields", 6)]) (N := ["thing", "kind", "names", "name", "boughs", "bough", "fields", "some", "field"]) (sc := defScope s_is_kinds) (by decide +kernel)) (fun _ _ _ _ _ => (dg_tup (n := 2) rfl (dgs_cons (dg_name 3 sc_is_kinds.nd) (dgs_cons (dg_name 4 sc_is_kinds.nd) dgs_nil)))) (fun _ _ _ _ _ => dif_nil) (fun _ _ _ _ _ => (dn_cons (fun _ _ z => z) rfl (cp_list _ _ _ _) rfl (fun g h => by first | (cases h; rfl) | cases h) HdL.mono (di_seq (de_name 4)) (dg_tup (n := 2) rfl (dgs_cons (dg_name 5 sc_is_kinds.nd) (dgs_cons (dg_name 6 sc_is_kinds.nd) dgs_nil))) dif_nil (dn_nil rfl (dm_list (fun _ _ z => z) (de_name 5))) (by intro _; rfl)))) da_nil)))))))
  (dss_one (ds_ret de_bl))
  dss_nil)
  (dss_cons (by first | exact (ds_setCpL (i := 7) (own := [("name", 3), ("boughs", 4), ("bough", 5), ("fields", 6), ("field", 8)]) rfl sc_is_kinds.nd rfl rfl (sw_true rfl rfl rfl (by decide +kernel)) (di_seq (de_name 0)) (blkOk_by (own := [("name", 3), ("boughs", 4), ("bough", 5), ("fields", 6), ("field", 8)]) (N := ["thing", "kind", "names", "name", "boughs", "bough", "fields", "some", "field"]) (sc := defScope s_is_kinds) (by decide +kernel)) (fun _ _ _ _ _ => (dg_tup (n := 2) rfl (dgs_cons (dg_name 3 sc_is_kinds.nd) (dgs_cons (dg_name 4 sc_is_kinds.nd) dgs_nil)))) (fun _ _ _ _ _ => dif_nil) (fun _ _ _ _ _ => (dn_cons (fun _ _ z => z) rfl (cp_list _ _ _ _) rfl (fun g h => by first | (cases h; rfl) | cases h) HdL.mono (di_seq (de_name 4)) (dg_tup (n := 2) rfl (dgs_cons (dg_name 5 sc_is_kinds.nd) (dgs_cons (dg_name 6 sc_is_kinds.nd) dgs_nil))) dif_nil (dn_cons (fun _ _ z => z) rfl (cp_list _ _ _ _) rfl (fun g h => by first | (cases h; rfl) | cases h) HdL.mono (di_seq (de_name 6)) (dg_name 8 sc_is_kinds.nd) dif_nil (dn_nil rfl (dm_list (fun _ _ z => z) (de_name 8))) (by intro _; rfl)) (by intro _; rfl)))) | exact (ds_set 7 (de_cpL (own := [("name", 3), ("boughs", 4), ("bough", 5), ("fields", 6), ("field", 8)]) rfl sc_is_kinds.nd (di_seq (de_name 0)) (blkOk_by (own := [("name", 3), ("boughs", 4), ("bough", 5), ("fields", 6), ("field", 8)]) (N := ["thing", "kind", "names", "name", "boughs", "bough", "fields", "some", "field"]) (sc := defScope s_is_kinds) (by decide +kernel)) (fun _ _ _ _ _ => (dg_tup (n := 2) rfl (dgs_cons (dg_name 3 sc_is_kinds.nd) (dgs_cons (dg_name 4 sc_is_kinds.nd) dgs_nil)))) (fun _ _ _ _ _ => dif_nil) (fun _ _ _ _ _ => (dn_cons (fun _ _ z => z) rfl (cp_list _ _ _ _) rfl (fun g h => by first | (cases h; rfl) | cases h) HdL.mono (di_seq (de_name 4)) (dg_tup (n := 2) rfl (dgs_cons (dg_name 5 sc_is_kinds.nd) (dgs_cons (dg_name 6 sc_is_kinds.nd) dgs_nil))) dif_nil (dn_cons (fun _ _ z => z) rfl (cp_list _ _ _ _) rfl (fun g h => by first | (cases h; rfl) | cases h) HdL.mono (di_seq (de_name 6)) (dg_name 8 sc_is_kinds.nd) dif_nil (dn_nil rfl (dm_list (fun _ _ z => z) (de_name 8))) (by intro _; rfl)) (by intro _; rfl)))) sc_is_kinds.nd))
  (dss_one (ds_ret (de_all rfl T.b_all (da_cons (de_lc (own := [("field", 8)]) rfl sc_is_kinds.nd (di_seq (de_name 7)) (blkOk_by (own := [("field", 8)]) (N := ["thing", "kind", "names", "name", "boughs", "bough", "fields", "some", "field"]) (sc := defScope s_is_kinds) (by decide +kernel)) (fun _ _ _ _ _ => (dg_name 8 sc_is_kinds.nd)) (fun _ _ _ _ _ => dif_nil) (fun _ _ _ _ _ => (de_or (de_c (.eq hu) (de_name 8) (de_gs T.g_NUM)) (de_one (de_in hu2 (de_name 8) (de_name 2)))))) da_nil)))))))), ?_⟩
  simp only [getD_0, getD_s, set_0, set_s, boolD_bl, intD_int, startD, List.map, List.length_cons, List.length_nil, List.replicate, List.cons_append, List.nil_append, defEnds, wipeD, if_true, if_false, Bool.not_true, Bool.not_false, Bool.false_eq_true]
  simp only [kindsD]
  refine ⟨rfl, ?_⟩
  simp only [isTup, Bool.not_true, Bool.false_eq_true, if_false]
  have okk := g.ok
  have e0 : deq (.tup (ks.map kindD)) (.tup []) = false := by
    cases hq : ks with
    | nil => exact absurd hq g.ne
    | cons x xs => simp [deq, toPy, toPys, PyData.eqv, PyData.eqvAll]
  refine ⟨Nat.zero_le _, ?_, ?_⟩
  · unfold canEq
    rw [show okE (.tup (ks.map kindD)) = true from okk.okE (by decide), (okN_tup (k := 0) (xs := []) (by simp)).okE (by decide)]
    simp
  rw [e0]
  simp only [getD_0, getD_s, set_0, set_s, boolD_bl, intD_int, startD, List.map, List.length_cons, List.length_nil, List.replicate, List.cons_append, List.nil_append, defEnds, wipeD, if_true, if_false, Bool.not_true, Bool.not_false, Bool.false_eq_true]
  have lk : (ks.map kindD).length ≤ sizeLine := by rw [List.length_map]; exact Nat.le_trans g.s1 (by decide)
  simp only [itemsD]
  refine ⟨lk, lcD_all kindD (fun _ => .bl true) (fun a ha R S r => ?_) ?_⟩
  · simp only [getD_0, getD_s, set_0, set_s, boolD_bl, intD_int, startD, List.map, List.length_cons, List.length_nil, List.replicate, List.cons_append, List.nil_append, defEnds, wipeD, if_true, if_false, Bool.not_true, Bool.not_false, Bool.false_eq_true]
    exact ⟨_, rfl, ⟨a, rfl, g.kn a ha, g.kb a ha, g.s2 a ha, fun b hb => ⟨g.bn a ha b hb, g.s3 a ha b hb⟩, g.okKind ha⟩, r⟩
  obtain ⟨ns, en, an⟩ := all_true ks
  refine ⟨ns, en, ?_⟩
  rw [an]
  simp only [getD_0, getD_s, set_0, set_s, boolD_bl, intD_int, startD, List.map, List.length_cons, List.length_nil, List.replicate, List.cons_append, List.nil_append, defEnds, wipeD, if_true, if_false, Bool.not_true, Bool.not_false, Bool.false_eq_true]
  refine ⟨lk, lcD_all kindD (fun a => .str a.1) (fun a ha R S r => ?_) ?_⟩
  · refine ⟨_, rfl, rfl, _, _, rfl, _, _, rfl, rfl, ?_⟩
    simp only [getD_0, getD_s, set_0, set_s, boolD_bl, intD_int, startD, List.map, List.length_cons, List.length_nil, List.replicate, List.cons_append, List.nil_append, defEnds, wipeD, if_true, if_false, Bool.not_true, Bool.not_false, Bool.false_eq_true]
    exact r
  have enm : (ks.map fun a : Kind => D.str a.1) = (kNames ks).map D.str := by rw [kNames, List.map_map]; rfl
  rw [enm]
  refine ⟨_, rfl, ⟨_, rfl, g.nd, by rw [kNames, List.length_map]; exact Nat.le_trans g.s1 (by decide)⟩, ?_⟩
  simp only [getD_0, getD_s, set_0, set_s, boolD_bl, intD_int, startD, List.map, List.length_cons, List.length_nil, List.replicate, List.cons_append, List.nil_append, defEnds, wipeD, if_true, if_false, Bool.not_true, Bool.not_false, Bool.false_eq_true]
  have blen : ∀ ks' : List Kind, (∀ k ∈ ks', k.2.length ≤ 8) → (ks'.flatMap fun a => a.2.map fun b : Bough => D.str b.1).length ≤ 8 * ks'.length := fun ks' => by
    induction ks' with
    | nil => simp
    | cons a l ih =>
      intro h
      have h1 := h a (by simp)
      have h2 := ih fun k hk => h k (List.mem_cons_of_mem _ hk)
      simp only [List.flatMap_cons, List.length_append, List.length_map, List.length_cons] at h2 ⊢
      omega
  refine loopD_app kindD (fun a => a.2.map fun b => .str b.1) 1000 (fun a ha b R S hl r => ?_) (by have := blen ks g.s2; have := g.s1; simp only [List.length_nil]; omega) ?_
  · refine ⟨_, rfl, rfl, _, _, rfl, _, _, rfl, rfl, ?_⟩
    simp only [getD_0, getD_s, set_0, set_s, boolD_bl, intD_int, startD, List.map, List.length_cons, List.length_nil, List.replicate, List.cons_append, List.nil_append, defEnds, wipeD, if_true, if_false, Bool.not_true, Bool.not_false, Bool.false_eq_true]
    refine loopD_app boughD (fun b => [.str b.1]) 1000 (fun b' hb b R S hl r => ?_) (by simpa [← List.map_eq_flatMap] using hl) (by simpa [← List.map_eq_flatMap] using r)
    refine ⟨_, rfl, rfl, _, _, rfl, _, _, rfl, rfl, ?_⟩
    simp only [getD_0, getD_s, set_0, set_s, boolD_bl, intD_int, startD, List.map, List.length_cons, List.length_nil, List.replicate, List.cons_append, List.nil_append, defEnds, wipeD, if_true, if_false, Bool.not_true, Bool.not_false, Bool.false_eq_true]
    exact ⟨Nat.lt_of_lt_of_le (show b.length < 1001 by simp at hl; omega) (by decide), r⟩
  have ebm : (ks.flatMap fun a : Kind => a.2.map fun b : Bough => D.str b.1) = (bNames ks).map D.str := by rw [bNames, List.map_flatMap]; simp only [List.map_map]; rfl
  rw [List.nil_append, ebm]
  refine ⟨_, rfl, ⟨_, rfl, g.bd, by have := blen ks g.s2; rw [ebm, List.length_map] at this; have := g.s1; omega⟩, ?_⟩
  simp only [getD_0, getD_s, set_0, set_s, boolD_bl, intD_int, startD, List.map, List.length_cons, List.length_nil, List.replicate, List.cons_append, List.nil_append, defEnds, wipeD, if_true, if_false, Bool.not_true, Bool.not_false, Bool.false_eq_true]
  have flen1 : ∀ bs : List Bough, (∀ b ∈ bs, b.2.length ≤ 8) → (bs.flatMap fun b => b.2.map D.str).length ≤ 8 * bs.length := fun bs => by
    induction bs with
    | nil => simp
    | cons a l ih =>
      intro h
      have h1 := h a (by simp)
      have h2 := ih fun k hk => h k (List.mem_cons_of_mem _ hk)
      simp only [List.flatMap_cons, List.length_append, List.length_map, List.length_cons] at h2 ⊢
      omega
  have flen : ∀ ks' : List Kind, (∀ k ∈ ks', k.2.length ≤ 8 ∧ ∀ b ∈ k.2, b.2.length ≤ 8) → (ks'.flatMap fun a => a.2.flatMap fun b => b.2.map D.str).length ≤ 64 * ks'.length := fun ks' => by
    induction ks' with
    | nil => simp
    | cons a l ih =>
      intro h
      have h1 := h a (by simp)
      have h2 := ih fun k hk => h k (List.mem_cons_of_mem _ hk)
      have h3 := flen1 a.2 h1.2
      simp only [List.flatMap_cons, List.length_append, List.length_cons] at h2 ⊢
      omega
  have fl0 := flen ks fun k hk => ⟨g.s2 k hk, g.s3 k hk⟩
  have gs1 := g.s1
  refine loopD_app kindD (fun a => a.2.flatMap fun b => b.2.map D.str) 1000 (fun a ha b R S hl r => ?_) (by simp only [List.length_nil]; omega) ?_
  · refine ⟨_, rfl, rfl, _, _, rfl, _, _, rfl, rfl, ?_⟩
    simp only [getD_0, getD_s, set_0, set_s, boolD_bl, intD_int, startD, List.map, List.length_cons, List.length_nil, List.replicate, List.cons_append, List.nil_append, defEnds, wipeD, if_true, if_false, Bool.not_true, Bool.not_false, Bool.false_eq_true]
    refine loopD_app boughD (fun b => b.2.map D.str) 1000 (fun b' hb b R S hl r => ?_) hl r
    refine ⟨_, rfl, rfl, _, _, rfl, _, _, rfl, rfl, ?_⟩
    simp only [getD_0, getD_s, set_0, set_s, boolD_bl, intD_int, startD, List.map, List.length_cons, List.length_nil, List.replicate, List.cons_append, List.nil_append, defEnds, wipeD, if_true, if_false, Bool.not_true, Bool.not_false, Bool.false_eq_true]
    refine loopD_app D.str (fun f => [.str f]) 1000 (fun f hf b R S hl r => ?_) (by simpa [← List.map_eq_flatMap] using hl) (by simpa [← List.map_eq_flatMap] using r)
    simp only [getD_0, getD_s, set_0, set_s, boolD_bl, intD_int, startD, List.map, List.length_cons, List.length_nil, List.replicate, List.cons_append, List.nil_append, defEnds, wipeD, if_true, if_false, Bool.not_true, Bool.not_false, Bool.false_eq_true]
    exact ⟨Nat.lt_of_lt_of_le (show b.length < 1001 by simp at hl; omega) (by decide), r⟩
  have efm : (ks.flatMap fun a : Kind => a.2.flatMap fun b : Bough => b.2.map D.str) = (fNames ks).map D.str := by rw [fNames, List.map_flatMap]; simp only [List.map_flatMap]
  rw [List.nil_append, efm]
  rw [efm, List.length_map] at fl0
  refine ⟨by rw [List.length_map]; exact Nat.le_trans (show _ ≤ 1000 by omega) (by decide), lcD_all D.str (fun _ => .bl true) (fun f hf R S r => ?_) ?_⟩
  · simp only [getD_0, getD_s, set_0, set_s, boolD_bl, intD_int, startD, List.map, List.length_cons, List.length_nil, List.replicate, List.cons_append, List.nil_append, defEnds, wipeD, if_true, if_false, Bool.not_true, Bool.not_false, Bool.false_eq_true]
    have hff : f = numS ∨ f ∈ kNames ks := by
      obtain ⟨a, ha, hf⟩ := List.mem_flatMap.mp hf
      obtain ⟨b, hb, hf⟩ := List.mem_flatMap.mp hf
      exact g.fl a ha b hb f hf
    simp only [eqD_str, boolD_bl]
    by_cases hn : f = numS
    · rw [if_pos (by rw [decide_eq_true_eq]; exact hn)]
      exact r
    · rw [if_neg (by rw [decide_eq_true_eq]; exact hn)]
      have hfk : f ∈ kNames ks := hff.resolve_left hn
      obtain ⟨k', hk', rfl⟩ := List.mem_map.mp hfk
      refine in_names (xs := kNames ks) (fun x hx => ?_) (okN_name (g.kn k' hk')) ?_
      · obtain ⟨k'', hk'', rfl⟩ := List.mem_map.mp hx
        exact okN_name (g.kn k'' hk'')
      · rw [decide_eq_true hfk]
        exact r
  obtain ⟨ns, en, an⟩ := all_true (fNames ks)
  refine ⟨ns, en, ?_⟩
  rw [an]
  exact q
end
end KB
namespace KB
open PySem L2 Dk
open PyProof.Rows (envOfC)
def spWith : DSp where
  n := 1
  f := fun ds Q _ => ∃ ks, ds = [kindsD ks] ∧ Good ks ∧ ∀ kvs, (∀ k ∈ ks, hasN kvs k.1 = true) → Q (.dic kvs)
  len := fun ds Q E ⟨m, e, _⟩ => by rw [e]; rfl
  mono := fun ds Q Q' E E' k _ ⟨m, e, h, q⟩ => ⟨m, e, h, fun kvs h => k _ (q kvs h)⟩
def fieldsOk (kvs : List (Key × D)) (b : Bough) : Bool := b.2.all fun f => decide (f = numS) || hasN kvs f
theorem hasN_in {kvs : List (Key × D)} {f : Str} {Q : D → Prop} : inD false (.str f) (.dic kvs) Q ↔ Q (.bl (hasN kvs f)) := by
  refine ⟨fun ⟨k, e, q⟩ => ?_, fun q => ⟨.inr f, rfl, q⟩⟩
  cases k with
  | inl _ => cases e
  | inr g => cases e; exact q
theorem len_put {kvs : List (Key × D)} {k : Key} {d : D} : (putD kvs k d).length ≤ kvs.length + 1 := by
  unfold putD
  split
  · rw [List.length_map]; omega
  · simp
section
variable {P : Program} {w : World} {K : PySem.W.Frag} {C : Addr} {mg : Str → Option Value} {base : Heap} {W : Wd} {k : Nat} {f : Addr} {fd : FuncData}
theorem ok_with_worths (T : TxtB K C mg) (Fn : Fun K "with_worths" "with_worths" s_with_worths f fd) : GnOk P w K mg base CX0 (k + 1) f fd ["kinds"] (spD W K spWith) := by
  refine Fn.okD sc_with_worths rfl fun cdv A outer s H I ds Q Ed E hr h => ?_
  have hu := hr.units
  have hu2 : (A.deeper (envOfC "with_worths" (defScope s_with_worths) s.heap.objs.size f cdv)).units + 66 < cLine := by have := hr.room.un; omega
  obtain ⟨ks, rfl, g, q⟩ := h
  refine ⟨_, (dss_cons (ds_ownD 1 sc_with_worths.nd)
  (dss_cons (ds_for PassesOwn.never rfl (di_seq (de_name 0)) (dg_name 2 sc_with_worths.nd)
  (dss_one (ds_for PassesOwn.never rfl (di_seq (de_name 0)) (dg_tup (n := 2) rfl (dgs_cons (dg_name 3 sc_with_worths.nd) (dgs_cons (dg_name 4 sc_with_worths.nd) dgs_nil)))
  (dss_one (ds_if (dt_lend 1 (dt_val (de_any rfl T.b_any (da_cons (de_lc (own := [("bough", 6), ("fields", 7)]) rfl sc_with_worths.nd (di_seq (de_name 4)) (blkOk_by (own := [("bough", 6), ("fields", 7)]) (N := ["kinds", "found", "turn", "name", "boughs", "field", "bough", "fields"]) (sc := defScope s_with_worths) (by decide +kernel)) (fun _ _ _ _ _ => (dg_tup (n := 2) rfl (dgs_cons (dg_name 6 sc_with_worths.nd) (dgs_cons (dg_name 7 sc_with_worths.nd) dgs_nil)))) (fun _ _ _ _ _ => dif_nil) (fun _ _ _ _ _ => (de_all rfl T.b_all (da_cons (de_lc (own := [("field", 5)]) rfl sc_with_worths.nd (di_seq (de_name 7)) (blkOk_nest (own := [("field", 5)]) (N := ["kinds", "found", "turn", "name", "boughs", "field", "bough", "fields"]) (defScope s_with_worths) rfl (by decide +kernel)) (fun _ _ _ _ _ => (dg_name 5 sc_with_worths.nd)) (fun _ _ _ _ _ => dif_nil) (fun _ _ _ _ _ => (de_or (de_c (.eq hu) (de_name 5) (de_gs T.g_NUM)) (de_one (de_in hu2 (de_name 5) (de_name 1)))))) da_nil)))) da_nil))))
  (dss_one (ds_dput 1 hu (de_name 3) de_bl))
  dss_nil)))))
  (dss_freeze 1
  (dss_one (ds_ret (de_name 1)))))), ?_⟩
  simp only [getD_0, getD_s, set_0, set_s, boolD_bl, intD_int, startD, List.map, List.length_cons, List.length_nil, List.replicate, List.cons_append, List.nil_append, defEnds, wipeD, if_true, if_false, Bool.not_true, Bool.not_false, Bool.false_eq_true]
  simp only [kindsD]
  obtain ⟨r, hr'⟩ := g.wf0
  have gs1 := g.s1
  refine forD_ind (fun (l : List D) ρ => ∃ kvs a b c, ρ = [some (.dat (.tup (ks.map kindD))), some (.ownD kvs), a, b, c, none, none, none] ∧ l.length ≤ ks.length ∧ kvs.length + 8 * l.length ≤ 100 ∧ ∀ k ∈ ks, r k.1 < ks.length - l.length → hasN kvs k.1 = true) (fun ρ ⟨kvs, a, b, c, e, _, _, h⟩ => ?_) (fun d l ρ R ⟨kvs, a, b, c, e, hl, hb, h⟩ hR => ?_) _ _ ⟨[], none, none, none, rfl, by simp, by simp; omega, fun k _ h => by simp at h⟩
  · subst e
    refine ⟨_, rfl, trivial, ?_⟩
    simp only [getD_0, getD_s, set_0, set_s, boolD_bl, intD_int, startD, List.map, List.length_cons, List.length_nil, List.replicate, List.cons_append, List.nil_append, defEnds, wipeD, if_true, if_false, Bool.not_true, Bool.not_false, Bool.false_eq_true]
    exact q kvs fun k hk => h k hk (by have := (hr' k hk).1; simpa using this)
  · subst e
    simp only [getD_0, getD_s, set_0, set_s, boolD_bl, intD_int, startD, List.map, List.length_cons, List.length_nil, List.replicate, List.cons_append, List.nil_append, defEnds, wipeD, if_true, if_false, Bool.not_true, Bool.not_false, Bool.false_eq_true]
    simp only [List.length_cons] at hl hb h
    refine forD_ind (fun (m : List D) ρ => ∃ (rest : List Kind) (kvs : List (Key × D)) (a b c : Option Ent), m = rest.map kindD ∧ ρ = [some (.dat (.tup (ks.map kindD))), some (.ownD kvs), a, b, c, none, none, none] ∧ (∀ k ∈ rest, k ∈ ks) ∧ kvs.length + rest.length + 8 * l.length ≤ 100 ∧ ∀ k ∈ ks, (r k.1 < ks.length - (l.length + 1) ∨ (k ∉ rest ∧ r k.1 < ks.length - l.length)) → hasN kvs k.1 = true) (fun ρ ⟨rest, kvs, a, b, c, em, e, _, hb, h⟩ => ?_) (fun d m ρ R2 ⟨rest, kvs, a, b, c, em, e, hk, hb, h⟩ hR2 => ?_) _ _ ⟨ks, kvs, _, b, c, rfl, rfl, fun _ h => h, by omega, fun k hk h' => h'.elim (h k hk) fun ⟨h1, _⟩ => absurd hk h1⟩
    · subst e
      have : rest = [] := by simpa using em.symm
      subst this
      exact hR _ ⟨kvs, a, b, c, rfl, by omega, by simpa using hb, fun k hk hr => h k hk (.inr ⟨by simp, hr⟩)⟩
    · subst e
      cases rest with
      | nil => cases em
      | cons x rest =>
        rw [List.map_cons] at em
        obtain ⟨rfl, rfl⟩ := List.cons.inj em
        have hx := hk x (by simp)
        refine ⟨_, rfl, rfl, _, _, rfl, _, _, rfl, rfl, ?_⟩
        simp only [getD_0, getD_s, set_0, set_s, boolD_bl, intD_int, startD, List.map, List.length_cons, List.length_nil, List.replicate, List.cons_append, List.nil_append, defEnds, wipeD, if_true, if_false, Bool.not_true, Bool.not_false, Bool.false_eq_true]
        refine ⟨_, rfl, trivial, ?_⟩
        simp only [Ent.toD, itemsD]
        refine ⟨Nat.le_trans (by rw [List.length_map]; exact g.s2 x hx) (by decide), lcD_all boughD (fun b => .bl (fieldsOk kvs b)) (fun b hbm R S hr => ?_) ?_⟩
        · refine ⟨_, rfl, rfl, _, _, rfl, _, _, rfl, rfl, ?_⟩
          simp only [getD_0, getD_s, set_0, set_s, boolD_bl, intD_int, startD, List.map, List.length_cons, List.length_nil, List.replicate, List.cons_append, List.nil_append, defEnds, wipeD, if_true, if_false, Bool.not_true, Bool.not_false, Bool.false_eq_true]
          refine ⟨Nat.le_trans (by rw [List.length_map]; exact g.s3 x hx b hbm) (by decide), lcD_all D.str (fun f => .bl (decide (f = numS) || hasN kvs f)) (fun f hf R S hr => ?_) ?_⟩
          · simp only [getD_0, getD_s, set_0, set_s, boolD_bl, intD_int, startD, List.map, List.length_cons, List.length_nil, List.replicate, List.cons_append, List.nil_append, defEnds, wipeD, if_true, if_false, Bool.not_true, Bool.not_false, Bool.false_eq_true]
            simp only [eqD_str, boolD_bl]
            by_cases hn : f = numS
            · rw [if_pos (by rw [decide_eq_true_eq]; exact hn)]
              simpa [hn] using hr
            · rw [if_neg (by rw [decide_eq_true_eq]; exact hn)]
              rw [hasN_in]
              simpa [hn] using hr
          · refine ⟨b.2.map fun f => decide (f = numS) || hasN kvs f, by rw [List.map_map]; rfl, ?_⟩
            rw [List.all_map]
            exact hr
        · refine ⟨x.2.map (fieldsOk kvs), by rw [List.map_map]; rfl, ?_⟩
          simp only [boolD_bl]
          have many : ∀ kvs', (∀ f, hasN kvs f = true → hasN kvs' f = true) → (r x.1 < ks.length - l.length → hasN kvs' x.1 = true) → ∀ k ∈ ks, (r k.1 < ks.length - (l.length + 1) ∨ (k ∉ rest ∧ r k.1 < ks.length - l.length)) → hasN kvs' k.1 = true := by
            intro kvs' mono hx' k hk hor
            rcases hor with h1 | ⟨h1, h2⟩
            · exact mono _ (h k hk (.inl h1))
            · by_cases hkx : k = x
              · subst hkx; exact hx' h2
              · exact mono _ (h k hk (.inr ⟨by simp [hkx, h1], h2⟩))
          by_cases ha : (x.2.map (fieldsOk kvs)).any id = true
          · rw [if_pos ha]
            refine ⟨_, rfl, .inr x.1, rfl, Nat.lt_of_lt_of_le (show kvs.length < 1000 by omega) (by decide), ?_⟩
            refine hR2 _ ⟨rest, _, _, _, _, rfl, rfl, fun k hk' => hk k (List.mem_cons_of_mem _ hk'), ?_, many _ (fun f hf => by rw [hasN_put, hf]; rfl) (fun _ => by rw [hasN_put]; simp)⟩
            have := len_put (kvs := kvs) (k := .inr x.1) (d := .bl true)
            simp only [List.length_cons] at hb
            omega
          · rw [if_neg ha]
            refine hR2 _ ⟨rest, _, _, _, _, rfl, rfl, fun k hk' => hk k (List.mem_cons_of_mem _ hk'), by simp only [List.length_cons] at hb; omega, many kvs (fun f hf => hf) fun hlt => ?_⟩
            exfalso
            refine ha ?_
            obtain ⟨_, b, hb1, hb2⟩ := hr' x hx
            rw [List.any_map, List.any_eq_true]
            refine ⟨b, hb1, ?_⟩
            simp only [Function.comp_apply, id]
            unfold fieldsOk
            rw [List.all_eq_true]
            intro f hf
            rcases hb2 f hf with h1 | ⟨h1, h2⟩
            · simp [h1]
            · obtain ⟨k', hk', rfl⟩ := List.mem_map.mp h1
              rw [h k' hk' (.inl (by omega)), Bool.or_true]
end
end KB
namespace KB
open PySem L2 Dk
open PyProof.Rows (envOfC)
abbrev s_Book___init__ : Stmt := inClass (top 23) 0
theorem sc_Book___init__ : FnScope ["self", "kinds", "founded", "name", "boughs", "bough", "fields"] ["self", "kinds"] (defScope s_Book___init__) := ⟨rfl, rfl, rfl, by decide +kernel, rfl, by decide +kernel, by decide +kernel⟩
theorem bd_Book___init__ (kV doc pm : Value) (an : Option Addr) (cdv ct : Value) (us : List Value) (hl : us.length = 2) : bindArgs (PySem.W.fnOf "__init__" "Book.__init__" (defArgs s_Book___init__) (defBody s_Book___init__) (defScope s_Book___init__) .none kV doc pm an cdv ct) ⟨us, []⟩ = pure ((["self", "kinds"] : List Str).zip us) := by
  match us, hl with
  | [v0, v1], _ => rfl
def namesBy (ks : List Kind) : List (Key × D) := ks.map fun k => (.inr k.1, .tup (k.2.map fun b => .str b.1))
def kindsBy (ks : List Kind) : List (Key × D) := ks.flatMap fun k => k.2.map fun b => (.inr b.1, .str k.1)
def fieldsBy (ks : List Kind) : List (Key × D) := ks.flatMap fun k => k.2.map fun b => (.inr b.1, .tup (b.2.map D.str))
theorem namesBy_keys {ks : List Kind} : (namesBy ks).map (·.1) = (kNames ks).map Sum.inr := by unfold namesBy kNames; rw [List.map_map, List.map_map]; rfl
theorem kindsBy_keys {ks : List Kind} : (kindsBy ks).map (·.1) = (bNames ks).map Sum.inr := by
  unfold kindsBy bNames; rw [List.map_flatMap, List.map_flatMap]; simp only [List.map_map]; rfl
theorem fieldsBy_keys {ks : List Kind} : (fieldsBy ks).map (·.1) = (bNames ks).map Sum.inr := by
  unfold fieldsBy bNames; rw [List.map_flatMap, List.map_flatMap]; simp only [List.map_map]; rfl
theorem nodup_inr {l : List Str} (h : l.Nodup) : (l.map (Sum.inr : Str → Key)).Nodup := (List.pairwise_map).mpr (h.imp fun h e => h (Sum.inr.inj e))
theorem Good.nk {ks : List Kind} (g : Good ks) : ((namesBy ks).map (·.1)).Nodup := by rw [namesBy_keys]; exact nodup_inr g.nd
theorem Good.kk {ks : List Kind} (g : Good ks) : ((kindsBy ks).map (·.1)).Nodup := by rw [kindsBy_keys]; exact nodup_inr g.bd
theorem Good.fk {ks : List Kind} (g : Good ks) : ((fieldsBy ks).map (·.1)).Nodup := by rw [fieldsBy_keys]; exact nodup_inr g.bd
theorem Good.blen {ks : List Kind} (g : Good ks) : (bNames ks).length ≤ 48 := by
  have : ∀ ks' : List Kind, (∀ k ∈ ks', k.2.length ≤ 8) → (bNames ks').length ≤ 8 * ks'.length := fun ks' => by
    induction ks' with
    | nil => simp [bNames]
    | cons a l ih =>
      intro h
      have h1 := h a (by simp)
      have h2 := ih fun k hk => h k (List.mem_cons_of_mem _ hk)
      simp only [bNames, List.flatMap_cons, List.length_append, List.length_map, List.length_cons] at h2 ⊢
      omega
  have h1 := this ks g.s2
  have h2 := g.s1
  omega
theorem Good.klen {ks : List Kind} (g : Good ks) : (kindsBy ks).length ≤ 48 := by
  have := congrArg List.length (kindsBy_keys (ks := ks))
  rw [List.length_map, List.length_map] at this
  rw [this]; exact g.blen
theorem Good.flen {ks : List Kind} (g : Good ks) : (fieldsBy ks).length ≤ 48 := by
  have := congrArg List.length (fieldsBy_keys (ks := ks))
  rw [List.length_map, List.length_map] at this
  rw [this]; exact g.blen
def bookD (C : Addr) (ks : List Kind) : D := .obj C [("kinds", kindsD ks), ("names_by", .dic (namesBy ks)), ("kinds_by", .dic (kindsBy ks)), ("fields_by", .dic (fieldsBy ks))]
def spBook (C : Addr) : DSp where
  n := 1
  f := fun ds Q _ => ∃ ks, ds = [kindsD ks] ∧ Good ks ∧ Q (bookD C ks)
  len := fun ds Q E ⟨m, e, _⟩ => by rw [e]; rfl
  mono := fun ds Q Q' E E' k _ ⟨m, e, h, q⟩ => ⟨m, e, h, k _ q⟩
def spBoughs (C : Addr) : DSp where
  n := 2
  f := fun ds Q _ => ∃ ks k, ds = [bookD C ks, .str k.1] ∧ Good ks ∧ k ∈ ks ∧ Q (.tup (k.2.map fun b => .str b.1))
  len := fun ds Q E ⟨m, _, e, _⟩ => by rw [e]; rfl
  mono := fun ds Q Q' E E' k _ ⟨m, x, e, h, h2, q⟩ => ⟨m, x, e, h, h2, k _ q⟩
theorem len_putFD {f : Str} {v : D} {n : Nat} : ∀ {l : List (Str × D)}, l.length < n → (putFD f v l).length < n + 1
  | [], h => by simp [putFD]; omega
  | (g, x) :: r, h => by
    unfold putFD
    split
    · simp only [List.length_cons] at h ⊢; omega
    · cases n with
      | zero => omega
      | succ n =>
        have := len_putFD (f := f) (v := v) (n := n) (l := r) (by simp only [List.length_cons] at h; omega)
        simp only [List.length_cons]
        omega
section
variable {P : Program} {w : World} {K : PySem.W.Frag} {C : Addr} {mg : Str → Option Value} {base : Heap} {W : Wd} {k : Nat} {f : Addr} {fd : FuncData}
theorem ok_init (T : TxtB K C mg) (Fn : Fun K "__init__" "Book.__init__" s_Book___init__ f fd) (C_is_kinds : Cal P w K mg base CX0 W k "is_kinds" ["thing"] spIsKinds) (C_with_worths : Cal P w K mg base CX0 W k "with_worths" ["kinds"] spWith) : GnOk P w K mg base CX0 (k + 1) f fd ["self", "kinds"] (spInit W K C (spBook C)) := by
  refine Fn.okI sc_Book___init__ rfl fun cdv A outer s H I B a ds Q Ed E hr h => ?_
  have hu := hr.units
  have hu2 : (A.deeper (envOfC "Book.__init__" (defScope s_Book___init__) s.heap.objs.size f cdv)).units + 66 < cLine := by have := hr.room.un; omega
  obtain ⟨ks, rfl, g, q⟩ := h
  refine ⟨_, (dss_cons (ds_if (dt_not (dt_val (de_fn C_is_kinds (hr.mono (by omega)) pass0 lets0 (da_cons (de_name 1) da_nil))))
  (dss_one ds_never)
  dss_nil)
  (dss_cons (ds_set 2 (de_fn C_with_worths (hr.mono (by omega)) pass0 lets0 (da_cons (de_name 1) da_nil)) sc_Book___init__.nd)
  (dss_cons (ds_for PassesOwn.never rfl (di_seq (de_name 1)) (dg_tup (n := 2) rfl (dgs_cons (dg_name 3 sc_Book___init__.nd) (dgs_cons (dg_name 4 sc_Book___init__.nd) dgs_nil)))
  (dss_one (ds_if (dt_notin hu2 (de_name 3) (de_name 2))
  (dss_one ds_never)
  dss_nil)))
  (dss_cons (ds_setA 0 (de_name 1) (cl := T.cl_Book) (n := T.na_Book_kinds))
  (dss_cons (ds_setA 0 (de_cpD (own := [("name", 3), ("boughs", 4)]) rfl sc_Book___init__.nd (di_seq (de_name 1)) (blkOk_by (own := [("name", 3), ("boughs", 4)]) (N := ["self", "kinds", "founded", "name", "boughs", "bough", "fields"]) (sc := defScope s_Book___init__) (by decide +kernel)) (fun _ _ _ _ _ => (dg_tup (n := 2) rfl (dgs_cons (dg_name 3 sc_Book___init__.nd) (dgs_cons (dg_name 4 sc_Book___init__.nd) dgs_nil)))) (fun _ _ _ _ _ => dif_nil) (fun _ _ _ _ _ => (dn_nil rfl (dm_dict (fun _ _ z => z) (de_name 3) (de_tuple T.b_tuple (da_cons (de_lc (own := [("bough", 5), ("fields", 6)]) rfl sc_Book___init__.nd (di_seq (de_name 4)) (blkOk_nest (own := [("bough", 5), ("fields", 6)]) (N := ["self", "kinds", "founded", "name", "boughs", "bough", "fields"]) (defScope s_Book___init__) rfl (by decide +kernel)) (fun _ _ _ _ _ => (dg_tup (n := 2) rfl (dgs_cons (dg_name 5 sc_Book___init__.nd) (dgs_cons (dg_name 6 sc_Book___init__.nd) dgs_nil)))) (fun _ _ _ _ _ => dif_nil) (fun _ _ _ _ _ => (de_name 5))) da_nil)))))) (cl := T.cl_Book) (n := T.na_Book_names_by))
  (dss_cons (ds_setA 0 (de_cpD (own := [("name", 3), ("boughs", 4), ("bough", 5), ("fields", 6)]) rfl sc_Book___init__.nd (di_seq (de_name 1)) (blkOk_by (own := [("name", 3), ("boughs", 4), ("bough", 5), ("fields", 6)]) (N := ["self", "kinds", "founded", "name", "boughs", "bough", "fields"]) (sc := defScope s_Book___init__) (by decide +kernel)) (fun _ _ _ _ _ => (dg_tup (n := 2) rfl (dgs_cons (dg_name 3 sc_Book___init__.nd) (dgs_cons (dg_name 4 sc_Book___init__.nd) dgs_nil)))) (fun _ _ _ _ _ => dif_nil) (fun _ _ _ _ _ => (dn_cons (fun _ _ z => z) rfl (cp_dict _ _ _ _ _) rfl (fun g h => by first | (cases h; rfl) | cases h) HdK.mono (di_seq (de_name 4)) (dg_tup (n := 2) rfl (dgs_cons (dg_name 5 sc_Book___init__.nd) (dgs_cons (dg_name 6 sc_Book___init__.nd) dgs_nil))) dif_nil (dn_nil rfl (dm_dict (fun _ _ z => z) (de_name 5) (de_name 3))) (by intro _; rfl)))) (cl := T.cl_Book) (n := T.na_Book_kinds_by))
  (dss_one (ds_setA 0 (de_cpD (own := [("name", 3), ("boughs", 4), ("bough", 5), ("fields", 6)]) rfl sc_Book___init__.nd (di_seq (de_name 1)) (blkOk_by (own := [("name", 3), ("boughs", 4), ("bough", 5), ("fields", 6)]) (N := ["self", "kinds", "founded", "name", "boughs", "bough", "fields"]) (sc := defScope s_Book___init__) (by decide +kernel)) (fun _ _ _ _ _ => (dg_tup (n := 2) rfl (dgs_cons (dg_name 3 sc_Book___init__.nd) (dgs_cons (dg_name 4 sc_Book___init__.nd) dgs_nil)))) (fun _ _ _ _ _ => dif_nil) (fun _ _ _ _ _ => (dn_cons (fun _ _ z => z) rfl (cp_dict _ _ _ _ _) rfl (fun g h => by first | (cases h; rfl) | cases h) HdK.mono (di_seq (de_name 4)) (dg_tup (n := 2) rfl (dgs_cons (dg_name 5 sc_Book___init__.nd) (dgs_cons (dg_name 6 sc_Book___init__.nd) dgs_nil))) dif_nil (dn_nil rfl (dm_dict (fun _ _ z => z) (de_name 5) (de_name 6))) (by intro _; rfl)))) (cl := T.cl_Book) (n := T.na_Book_fields_by))))))))), ?_⟩
  simp only [startI]
  simp only [getD_0, getD_s, set_0, set_s, boolD_bl, intD_int, startD, List.map, List.length_cons, List.length_nil, List.replicate, List.cons_append, List.nil_append, defEnds, wipeD, if_true, if_false, Bool.not_true, Bool.not_false, Bool.false_eq_true]
  refine ⟨_, rfl, ⟨ks, rfl, g⟩, ?_⟩
  simp only [getD_0, getD_s, set_0, set_s, boolD_bl, intD_int, startD, List.map, List.length_cons, List.length_nil, List.replicate, List.cons_append, List.nil_append, defEnds, wipeD, if_true, if_false, Bool.not_true, Bool.not_false, Bool.false_eq_true]
  refine ⟨ks, rfl, g, fun kvs hkvs => ?_⟩
  simp only [getD_0, getD_s, set_0, set_s, boolD_bl, intD_int, startD, List.map, List.length_cons, List.length_nil, List.replicate, List.cons_append, List.nil_append, defEnds, wipeD, if_true, if_false, Bool.not_true, Bool.not_false, Bool.false_eq_true]
  simp only [kindsD, itemsD]
  refine forD_ind (fun (l : List D) ρ => ∃ (rest : List Kind) (b c : Option Ent), l = rest.map kindD ∧ (∀ k ∈ rest, k ∈ ks) ∧ ρ = [some (.ownO a C []), some (.dat (kindsD ks)), some (.dat (.dic kvs)), b, c, none, none]) (fun ρ ⟨_, b, c, _, _, e⟩ => ?_) (fun d l ρ R ⟨rest, b, c, el, hl, e⟩ hR => ?_) _ _ ⟨ks, none, none, rfl, fun _ h => h, rfl⟩
  rotate_left
  · subst e
    cases rest with
    | nil => cases el
    | cons x rest =>
      rw [List.map_cons] at el
      obtain ⟨rfl, rfl⟩ := List.cons.inj el
      have hx := hl x (by simp)
      refine ⟨_, rfl, rfl, _, _, rfl, _, _, rfl, rfl, ?_⟩
      simp only [getD_0, getD_s, set_0, set_s, boolD_bl, intD_int, startD, List.map, List.length_cons, List.length_nil, List.replicate, List.cons_append, List.nil_append, defEnds, wipeD, if_true, if_false, Bool.not_true, Bool.not_false, Bool.false_eq_true]
      refine ⟨.inr x.1, rfl, ?_⟩
      have e1 : flip true (lookD kvs (.inr x.1)).isSome = false := by
        have := hkvs x hx
        unfold hasN at this
        rw [this]
        rfl
      rw [e1]
      simp only [boolD_bl, Bool.false_eq_true, if_false]
      exact hR _ ⟨rest, _, _, rfl, fun k hk => hl k (List.mem_cons_of_mem _ hk), rfl⟩
  subst e
  simp only [getD_0, getD_s, set_0, set_s, boolD_bl, intD_int, startD, List.map, List.length_cons, List.length_nil, List.replicate, List.cons_append, List.nil_append, defEnds, wipeD, if_true, if_false, Bool.not_true, Bool.not_false, Bool.false_eq_true]
  refine ⟨a, [], rfl, by decide, ?_⟩
  simp only [kindsD, itemsD]
  have gs1 := g.s1
  have gs2 := g.s2
  have lk : (ks.map kindD).length ≤ sizeLine := by rw [List.length_map]; exact Nat.le_trans gs1 (by decide)
  have en : ∀ l : List Kind, (l.flatMap fun k => [((.inr k.1 : Key), D.tup (k.2.map fun b => .str b.1))]) = namesBy l := fun l => by unfold namesBy; rw [List.map_eq_flatMap]
  refine loopD_put kindD (fun k => [(.inr k.1, .tup (k.2.map fun b => .str b.1))]) 100 (fun x hx b R S hl hn r => ?_) (by rw [en]; simp [namesBy]; omega) (by rw [en]; exact g.nk) ?_
  · refine ⟨_, rfl, rfl, _, _, rfl, _, _, rfl, rfl, ?_⟩
    simp only [getD_0, getD_s, set_0, set_s, boolD_bl, intD_int, startD, List.map, List.length_cons, List.length_nil, List.replicate, List.cons_append, List.nil_append, defEnds, wipeD, if_true, if_false, Bool.not_true, Bool.not_false, Bool.false_eq_true]
    refine ⟨Nat.le_trans (by rw [List.length_map]; exact gs2 x hx) (by decide), lcD_all boughD (fun b => .str b.1) (fun b hb R S hr => ?_) ?_⟩
    · refine ⟨_, rfl, rfl, _, _, rfl, _, _, rfl, rfl, ?_⟩
      simp only [getD_0, getD_s, set_0, set_s, boolD_bl, intD_int, startD, List.map, List.length_cons, List.length_nil, List.replicate, List.cons_append, List.nil_append, defEnds, wipeD, if_true, if_false, Bool.not_true, Bool.not_false, Bool.false_eq_true]
      exact hr
    · refine ⟨.inr x.1, rfl, Nat.lt_of_lt_of_le (show b.length < 1000 by simp at hl; omega) (by decide), ?_⟩
      rw [putD_new hn]
      exact r
  rw [en, List.nil_append]
  refine ⟨a, _, rfl, Nat.lt_of_lt_of_le (len_putFD (n := 1) (by decide)) (by decide), ?_⟩
  have flk : ∀ (out : Kind → Bough → D), (∀ k b, k ∈ ks → b ∈ k.2 → True) → ((ks.flatMap fun k => k.2.map fun b => ((.inr b.1 : Key), out k b)).map (·.1)) = (bNames ks).map Sum.inr := fun out _ => by
    unfold bNames; rw [List.map_flatMap, List.map_flatMap]; simp only [List.map_map]; rfl
  have sub : ∀ x ∈ ks, ∀ (out : Bough → D) (b : List (Key × D)), b.length + (x.2.flatMap fun y => [((.inr y.1 : Key), out y)]).length ≤ 1000 ↔ b.length + (x.2.map fun y => ((.inr y.1 : Key), out y)).length ≤ 1000 := fun x _ out b => by rw [← List.map_eq_flatMap]
  refine loopD_put kindD (fun k => k.2.map fun b => (.inr b.1, .str k.1)) 1000 (fun x hx b R S hl hn r => ?_) (by have := g.klen; unfold kindsBy at this; simp only [List.length_nil]; omega) (by rw [List.nil_append]; exact g.kk) ?_
  · refine ⟨_, rfl, rfl, _, _, rfl, _, _, rfl, rfl, ?_⟩
    simp only [getD_0, getD_s, set_0, set_s, boolD_bl, intD_int, startD, List.map, List.length_cons, List.length_nil, List.replicate, List.cons_append, List.nil_append, defEnds, wipeD, if_true, if_false, Bool.not_true, Bool.not_false, Bool.false_eq_true]
    refine loopD_put boughD (fun y => [(.inr y.1, .str x.1)]) 1000 (fun y hy b R S hl hn r => ?_) (by rw [← List.map_eq_flatMap]; exact hl) (by rw [← List.map_eq_flatMap]; exact hn) (by rw [← List.map_eq_flatMap]; exact r)
    refine ⟨_, rfl, rfl, _, _, rfl, _, _, rfl, rfl, ?_⟩
    simp only [getD_0, getD_s, set_0, set_s, boolD_bl, intD_int, startD, List.map, List.length_cons, List.length_nil, List.replicate, List.cons_append, List.nil_append, defEnds, wipeD, if_true, if_false, Bool.not_true, Bool.not_false, Bool.false_eq_true]
    refine ⟨.inr y.1, rfl, Nat.lt_of_lt_of_le (show b.length < 1001 by simp at hl; omega) (by decide), ?_⟩
    rw [putD_new hn]
    exact r
  rw [List.nil_append]
  refine ⟨a, _, rfl, Nat.lt_of_lt_of_le (len_putFD (len_putFD (n := 1) (by decide))) (by decide), ?_⟩
  refine loopD_put kindD (fun k => k.2.map fun b => (.inr b.1, .tup (b.2.map D.str))) 1000 (fun x hx b R S hl hn r => ?_) (by have := g.flen; unfold fieldsBy at this; simp only [List.length_nil]; omega) (by rw [List.nil_append]; exact g.fk) ?_
  · refine ⟨_, rfl, rfl, _, _, rfl, _, _, rfl, rfl, ?_⟩
    simp only [getD_0, getD_s, set_0, set_s, boolD_bl, intD_int, startD, List.map, List.length_cons, List.length_nil, List.replicate, List.cons_append, List.nil_append, defEnds, wipeD, if_true, if_false, Bool.not_true, Bool.not_false, Bool.false_eq_true]
    refine loopD_put boughD (fun y => [(.inr y.1, .tup (y.2.map D.str))]) 1000 (fun y hy b R S hl hn r => ?_) (by rw [← List.map_eq_flatMap]; exact hl) (by rw [← List.map_eq_flatMap]; exact hn) (by rw [← List.map_eq_flatMap]; exact r)
    refine ⟨_, rfl, rfl, _, _, rfl, _, _, rfl, rfl, ?_⟩
    simp only [getD_0, getD_s, set_0, set_s, boolD_bl, intD_int, startD, List.map, List.length_cons, List.length_nil, List.replicate, List.cons_append, List.nil_append, defEnds, wipeD, if_true, if_false, Bool.not_true, Bool.not_false, Bool.false_eq_true]
    refine ⟨.inr y.1, rfl, Nat.lt_of_lt_of_le (show b.length < 1001 by simp at hl; omega) (by decide), ?_⟩
    rw [putD_new hn]
    exact r
  rw [List.nil_append]
  refine ⟨a, _, rfl, Nat.lt_of_lt_of_le (len_putFD (len_putFD (len_putFD (n := 1) (by decide)))) (by decide), ?_⟩
  exact ⟨_, rfl, q⟩
theorem mem_namesBy {ks : List Kind} {x : Kind} (h : x ∈ ks) : ((.inr x.1 : Key), D.tup (x.2.map fun b => .str b.1)) ∈ namesBy ks := List.mem_map.mpr ⟨x, h, rfl⟩
end
end KB
namespace KB
open PySem L2 Dk
open PyProof.Rows (envOfC)
abbrev s_Book_boughs : Stmt := inClass (top 23) 5
theorem sc_Book_boughs : FnScope ["self", "kind"] ["self", "kind"] (defScope s_Book_boughs) := ⟨rfl, rfl, rfl, by decide +kernel, rfl, by decide +kernel, by decide +kernel⟩
theorem bd_Book_boughs (kV doc pm : Value) (an : Option Addr) (cdv ct : Value) (us : List Value) (hl : us.length = 2) : bindArgs (PySem.W.fnOf "boughs" "Book.boughs" (defArgs s_Book_boughs) (defBody s_Book_boughs) (defScope s_Book_boughs) .none kV doc pm an cdv ct) ⟨us, []⟩ = pure ((["self", "kind"] : List Str).zip us) := by
  match us, hl with
  | [v0, v1], _ => rfl
section
variable {P : Program} {w : World} {K : PySem.W.Frag} {C : Addr} {mg : Str → Option Value} {base : Heap} {W : Wd} {k : Nat} {f : Addr} {fd : FuncData}
theorem ok_boughs (T : TxtB K C mg) (Fn : Fun K "boughs" "Book.boughs" s_Book_boughs f fd) : GnOk P w K mg base CX0 (k + 1) f fd ["self", "kind"] (spD W K (spBoughs C)) := by
  refine Fn.okD sc_Book_boughs rfl fun cdv A outer s H I ds Q Ed E hr h => ?_
  have hu := hr.units
  have hu2 : (A.deeper (envOfC "Book.boughs" (defScope s_Book_boughs) s.heap.objs.size f cdv)).units + 66 < cLine := by have := hr.room.un; omega
  obtain ⟨ks, x, rfl, g, hx, q⟩ := h
  refine ⟨_, (dss_cons (ds_if (dt_wh (dw_or (dt_not (dt_val (de_isi is_str T.b_isinstance T.b_str (by decide +kernel) (de_name 1)))) (dw_or1 (dt_notin hu2 (de_name 1) (de_fld T.cl_Book T.na_Book_names_by (de_name 0))))))
  (dss_one ds_never)
  dss_nil)
  (dss_one (ds_ret (de_at hu (de_fld T.cl_Book T.na_Book_names_by (de_name 0)) (de_name 1))))), ?_⟩
  simp only [getD_0, getD_s, set_0, set_s, boolD_bl, intD_int, startD, List.map, List.length_cons, List.length_nil, List.replicate, List.cons_append, List.nil_append, defEnds, wipeD, if_true, if_false, Bool.not_true, Bool.not_false, Bool.false_eq_true]
  refine ⟨rfl, ?_⟩
  simp only [isStr, Bool.not_true, Bool.false_eq_true, if_false]
  have e := lookD_mem g.nk (mem_namesBy hx)
  refine ⟨_, _, rfl, rfl, .inr x.1, rfl, ?_⟩
  rw [e]
  simp only [Dk.flip, if_true, Option.isSome_some, Bool.not_true, boolD_bl, Bool.false_eq_true, if_false]
  exact ⟨_, _, rfl, rfl, .inr x.1, _, rfl, e, q⟩
end
end KB
namespace KB
open PySem L2 Dk
open PyProof.Rows (envOfC)
abbrev s__law_deck : Stmt := top 25
theorem sc__law_deck : FnScope ["_law_script", "_law_cell"] ["_law_script"] (defScope s__law_deck) := ⟨rfl, rfl, rfl, by decide +kernel, rfl, by decide +kernel, by decide +kernel⟩
theorem bd__law_deck (kV doc pm : Value) (an : Option Addr) (cdv ct : Value) (us : List Value) (hl : us.length = 1) : bindArgs (PySem.W.fnOf "_law_deck" "_law_deck" (defArgs s__law_deck) (defBody s__law_deck) (defScope s__law_deck) .none kV doc pm an cdv ct) ⟨us, []⟩ = pure ((["_law_script"] : List Str).zip us) := by
  match us, hl with
  | [v0], _ => rfl
abbrev s__law_draw : Stmt := top 26
theorem sc__law_draw : FnScope ["_law_deck_here", "_law_most", "_law_cell", "_law_number_here"] ["_law_deck_here", "_law_most"] (defScope s__law_draw) := ⟨rfl, rfl, rfl, by decide +kernel, rfl, by decide +kernel, by decide +kernel⟩
theorem bd__law_draw (kV doc pm : Value) (an : Option Addr) (cdv ct : Value) (us : List Value) (hl : us.length = 2) : bindArgs (PySem.W.fnOf "_law_draw" "_law_draw" (defArgs s__law_draw) (defBody s__law_draw) (defScope s__law_draw) .none kV doc pm an cdv ct) ⟨us, []⟩ = pure ((["_law_deck_here", "_law_most"] : List Str).zip us) := by
  match us, hl with
  | [v0, v1], _ => rfl
section
variable {P : Program} {w : World} {K : PySem.W.Frag} {mg : Str → Option Value} {base : Heap}
/-- a deck made of the script -/
def spDeck (K : PySem.W.Frag) : Sp := fun vs H Q _ => ∃ (a : Addr) (ns : List Int), vs = [.ref a] ∧ SqL K H a (ns.map V.int) ∧ ns.length ≤ 63 ∧ ∀ p l H', Same H H' → H p = none → H l = none → deckAt p l H' → Q (.ref p) H'
theorem ok_deck {f : Addr} {fd : FuncData} {k : Nat} (Fn : Fun K "_law_deck" "_law_deck" s__law_deck f fd) (mList : mg "list" = none) (mSum : mg "sum" = none) (mLen : mg "len" = none) : FnOk P w K mg base CX0 (k + 1) f fd ["_law_script"] (spDeck K) := by
  refine Fn.ok sc__law_deck (fun vs H Q E h => ?_) (fun cdv A outer s H vs Q E hr h => ?_)
  · obtain ⟨a, ns, rfl, _⟩ := h
    rfl
  obtain ⟨a, ns, rfl, hS, h63, q⟩ := h
  refine ⟨_, pss_one (ps_ret (pe_lst (pa_cons (pe_revL (pe_callTy call_list_of rfl mList (by decide +kernel) (pa_cons (pe_slice sl_list (pv 0) po_none (po_some pe_int)) pa_nil)))
    (pa_cons (pe_op op_add (pe_callB (cr_sum rfl) rfl mSum (by decide +kernel) (pa_cons (pe_lc (own := [("_law_cell", 1)]) (g := gName 1) (tt := tYes) rfl sc__law_deck.nd (pi_list (pe_slice sl_list (pv 0) po_none (po_some pe_int))) (blkOk_by (own := [("_law_cell", 1)]) (N := ["_law_script", "_law_cell"]) (sc := defScope s__law_deck) (by decide +kernel))
        (fun _ _ _ _ _ => pg_name (i := 1) sc__law_deck.nd rfl (Or.inl rfl)) (fun _ _ _ _ _ => pts_nil) (fun _ _ _ _ _ => pe_op op_modN (pv 1) pe_int)) pa_nil))
      (pe_op op_mul pe_int (pe_callB call_len_seq rfl mLen PySem.boot_len (pa_cons (pe_slice sl_list (pv 0) po_none (po_some pe_int)) pa_nil))))
    (pa_cons pe_int pa_nil))))), ?_⟩
  have cut63 : cutV (ns.map V.int) none (some 63) = ns.map V.int := by
    unfold cutV
    rw [HT.sIx_none, List.drop_zero, show HT.sIx (ns.map V.int).length (ns.map V.int).length (some 63) = min 63 (ns.map V.int).length from HT.sIx_nat _ _ 63]
    rw [List.length_map, Nat.min_eq_right h63, Nat.sub_zero, ← List.length_map (f := V.int), List.take_length]
  -- list(script[:63])[::-1]
  refine ⟨_, rfl, 63, rfl, a, _, rfl, hS, fun c nc => ?_⟩
  rw [cut63]
  have s1 : Same H (upd H c (.lst (ns.map V.int))) := Same.laid nc
  refine ⟨c, _, rfl, .inl (.of upd_same), fun d nd => ?_⟩
  have s2 := Same.trans s1 (Same.laid (o := .lst (ns.map V.int)) nd)
  refine ⟨d, _, rfl, .of upd_same, fun l nl => ?_⟩
  have s3 := Same.trans s2 (Same.laid (o := .lst (ns.map V.int).reverse) nl)
  -- sum([cell % 1000003 for cell in script[:63]]) + 7919 * len(script[:63])
  refine ⟨_, rfl, 63, rfl, a, _, rfl, s3.seq hS, fun e ne => ?_⟩
  rw [cut63]
  have s4 := Same.trans s3 (Same.laid (o := .lst (ns.map V.int)) ne)
  refine ⟨e, rfl, ⟨_, .of upd_same⟩, fun D nD => ?_⟩
  generalize hH4 : upd (upd (upd (upd H c (HO.lst (List.map V.int ns))) d (HO.lst (List.map V.int ns))) l (HO.lst (List.map V.int ns).reverse)) e (HO.lst (List.map V.int ns)) = H4 at *
  have e4 : H4 e = some (.lst (ns.map V.int)) := by rw [← hH4]; exact upd_same
  have l4 : H4 l = some (.lst (ns.map V.int).reverse) := by rw [← hH4, upd_ne (ne_of_none upd_same ne)]; exact upd_same
  refine lc_list (K := K) (a := e) (xs := ns.map V.int) (fun i H' => Same H4 H' ∧ H' D = some (.lst ((ns.take i).map fun c => V.int (c.fmod 1000003)))) ⟨Same.laid nD, upd_same⟩ (fun i H' _ h => .of (h.1 _ _ e4)) ?_ ?_
  · intro i x H' hx ⟨sm, hD⟩
    have hi : i < ns.length := by
      have := (List.getElem?_eq_some_iff.mp hx).1
      simpa using this
    have hx' : x = .int ns[i] := by
      rw [List.getElem?_map, List.getElem?_eq_getElem hi] at hx
      exact (Option.some.inj hx).symm
    subst hx'
    refine ⟨rfl, _, rfl, _, _, rfl, rfl, (show (1000003 : Int) ≠ 0 by decide), _, hD, ?_, fun b u eb => ?_, ?_⟩
    · rw [List.length_map, List.length_take]
      exact Nat.lt_of_le_of_lt (Nat.min_le_left _ _) (small1000 (by omega))
    · rw [upd_ne (ne_of_none eb nD)]; exact sm _ _ eb
    · rw [upd_same, List.take_add_one, List.getElem?_eq_getElem hi, List.map_append]
      rfl
  · intro H' ⟨sm, hD⟩
    rw [List.length_map, List.take_length] at hD
    refine ⟨D, ns.map fun c => c.fmod 1000003, rfl, .of (by rw [hD, List.map_map]; rfl), _, rfl, 63, rfl, a, _, rfl, sm.seq (s4.seq hS), fun g ng => ?_⟩
    rw [cut63]
    refine ⟨g, _, rfl, .inl (.of upd_same), _, _, rfl, rfl, (.inl ⟨by decide, by decide⟩), _, _, rfl, rfl, (show 3 ≤ sizeLine by decide), fun p np => ?_⟩
    have s5 : Same H4 (upd (upd H' g (.lst (ns.map V.int))) p (.lst [.ref l, .int ((ns.map fun c => c.fmod 1000003).sum + 7919 * ((ns.map V.int).length : Int)), .int 0])) := Same.trans sm (Same.trans (Same.laid ng) (Same.laid np))
    have np4 : H4 p = none := by
      cases z : H4 p with
      | none => rfl
      | some u => have := Same.trans sm (Same.laid (o := .lst (ns.map V.int)) ng) _ _ z; rw [np] at this; cases this
    refine q p l _ (Same.trans s4 s5) (Same.free s4 np4) (Same.free s2 nl) ⟨ns.reverse, _, 0, upd_same, ?_, by simpa using h63, ?_⟩
    · rw [s5 _ _ l4, List.map_reverse]
    · intro z
      rw [z, l4] at np4
      cases np4
/-- a draw: any number below the most -/
theorem ok_draw {a l : Addr} {f : Addr} {fd : FuncData} {k : Nat} (Fn : Fun K "_law_draw" "_law_draw" s__law_draw f fd) : FnOk P w K mg base CX0 (k + 1) f fd ["_law_deck_here", "_law_most"] (spD (DeckW a l) K (spDraw a)) := by
  refine Fn.ok sc__law_draw (fun vs H Q E h => spD_len _ _ _ _ h) (fun cdv A outer s H vs Q E hr h => ?_)
  obtain ⟨I, ds, st, rs, m, rfl, m0, m1, q⟩ := h
  obtain ⟨v1, v2, rfl, r1, r2⟩ := rs.two
  cases r1
  cases r2
  have hu := hr.units
  obtain ⟨ns, sm, t, ha, hl, h63, nal⟩ := deck_of st
  have done : ∀ (v : Int) (ns' : List Int) (sm' t' : Int) (H' : Hp), 0 ≤ v → v < m → ns'.length ≤ 63 → H' a = some (.lst [.ref l, .int sm', .int t']) → H' l = some (.lst (ns'.map V.int)) → (∀ b o, H b = some o → b ≠ a → b ≠ l → H' b = some o) → Q (.int v) H' :=
    fun v ns' sm' t' H' h0 h1 h2 h3 h4 h5 => q v h0 h1 (.int v) I H' (stp_deck st h5 ⟨ns', sm', t', h3, h4, h2, nal⟩) (.int v)
  -- the last three rows
  obtain ⟨t2, d2, r2⟩ : ∃ t2, PSs (cxOf CX0 P w K mg base ["_law_deck_here", "_law_most", "_law_cell", "_law_number_here"] "_law_draw" (defScope s__law_draw) f cdv A outer s H E).nox ((defBody s__law_draw).drop 3) t2 ∧
      ∀ (c : Int) (ns' : List Int) (t' : Int) (H' : Hp), ns'.length ≤ 63 → H' a = some (.lst [.ref l, .int sm, .int t']) → H' l = some (.lst (ns'.map V.int)) → (∀ b o, H b = some o → b ≠ a → b ≠ l → H' b = some o) →
        t2 { nx := fun _ H' => Q .non H', rt := Q } [some (.ref a), some (.int m), some (.int c), none] H' := by
    refine ⟨_, pss_cons (ps_set (i := 3) sc__law_draw.nd rfl (.inl rfl) (pe_op op_mod (pe_op op_mul (pe_op op_add (pe_op op_add (pe_op op_mod (pv 2) pe_int) (pe_op op_mul pe_int (pe_ix ix_list (pv 0) pe_int (fun _ _ => rfl)))) pe_int) pe_int) pe_int))
      (pss_cons (ps_set (i := 3) sc__law_draw.nd rfl (.inl rfl) (pe_op op_mod (pe_op op_add (pe_op op_add (pe_op op_mul (pv 3) (pv 3)) (pe_op op_mul pe_int (pe_ix ix_list (pv 0) pe_int (fun _ _ => rfl)))) pe_int) pe_int))
      (pss_one (ps_ret (pe_op op_mod (pe_op op_fdivW (pe_op op_mod (pe_op op_add (pe_op op_mul (pv 3) (pv 3)) pe_int) pe_int) pe_int) (pv 1))))), fun c ns' t' H' h2 h3 h4 h5 => ?_⟩
    have pos1 : (0 : Int) < 2147483629 := by decide
    refine ⟨_, rfl, _, _, rfl, rfl, pos1, _, rfl, a, _, 2, .int t', rfl, rfl, .of h3, atI_nat (j := 2) rfl, _, _, rfl, rfl, .inl ⟨by decide, by decide⟩, _, _, rfl, rfl, _, _, rfl, rfl, _, _, rfl, rfl, .inr ⟨by decide, by decide⟩, _, _, rfl, rfl, (show (0 : Int) < 2147483647 by decide), ?_⟩
    generalize hx : (c % 2147483629 + 65537 * t' + 11) * 48271 % 2147483647 = x
    have x0 : 0 ≤ x := by rw [← hx]; exact Int.emod_nonneg _ (by decide)
    have x1 : x < 2147483647 := by rw [← hx]; exact Int.emod_lt_of_pos _ (by decide)
    refine ⟨_, rfl, _, rfl, _, _, rfl, rfl, .inl ⟨by omega, by omega⟩, _, rfl, a, _, 2, .int t', rfl, rfl, .of h3, atI_nat (j := 2) rfl, _, _, rfl, rfl, .inl ⟨by decide, by decide⟩, _, _, rfl, rfl, _, _, rfl, rfl, _, _, rfl, rfl, (show (0 : Int) < 2147483587 by decide), ?_⟩
    generalize hy : (x * x + 69621 * t' + 23) % 2147483587 = y
    have y0 : 0 ≤ y := by rw [← hy]; exact Int.emod_nonneg _ (by decide)
    have y1 : y < 2147483587 := by rw [← hy]; exact Int.emod_lt_of_pos _ (by decide)
    refine ⟨_, rfl, _, rfl, _, _, rfl, rfl, .inl ⟨by omega, by omega⟩, _, _, rfl, rfl, _, _, rfl, rfl, (show (0 : Int) < 2147483563 by decide), _, _, rfl, rfl, ⟨by decide, by decide⟩, _, rfl, _, _, rfl, rfl, m0, ?_⟩
    exact done _ ns' sm t' H' (Int.emod_nonneg _ (by omega)) (Int.emod_lt_of_pos _ m0) h2 h3 h4 h5
  refine ⟨_, pss_cons (ps_asg (pe_op op_add (pe_ix ix_list (pv 0) pe_int (fun _ _ => rfl)) pe_int) (pg_sub (pv 0) pe_int set_list))
    (pss_cons (ps_set (i := 2) sc__law_draw.nd rfl (.inl rfl) (pe_ix ix_list (pv 0) pe_int (fun _ _ => rfl)))
    (pss_cons (ps_if (pt_cmpR (op_neD hu) (pe_ix ix_list (pv 0) pe_int (fun _ _ => rfl)) (pe_lst pa_nil) (nomark _))
      (pss_cons (ps_set (i := 2) sc__law_draw.nd rfl (.inl rfl) (pe_bm0 PySem.F.plainAttrs_list PySem.F.slot_list_pop PySem.F.type_list_pop mt_pop (pe_ix ix_list (pv 0) pe_int (fun _ _ => rfl))))
      (pss_one (ps_if (pt_cmpR op_ge (pv 2) (pe_op op_pow pe_int pe_int) (nomark _))
        (pss_cons (ps_expr (pe_bm PySem.F.plainAttrs_list PySem.F.slot_list_append PySem.F.type_list_append mt_append (pe_ix ix_list (pv 0) pe_int (fun _ _ => rfl)) (pa_cons (pe_op op_fdivW (pv 2) (pv 1)) pa_nil)))
        (pss_one (ps_ret (pe_op op_mod (pv 2) (pv 1))))) pss_nil))) pss_nil) d2)), ?_⟩
  -- deck[2] = deck[2] + 1; cell = deck[1]
  refine ⟨_, rfl, a, _, 2, .int t, rfl, rfl, .of ha, atI_nat (j := 2) rfl, _, _, rfl, rfl, _, rfl, a, _, 2, 2, rfl, rfl, ha, rfl, ?_⟩
  refine ⟨_, rfl, a, _, 1, .int sm, rfl, rfl, .of upd_same, atI_nat (j := 1) rfl, ?_⟩
  -- if deck[0] != []
  have hl1 : ∀ o, upd H a o l = some (.lst (ns.map V.int)) := fun o => by rw [upd_ne nal.symm]; exact hl
  refine ⟨_, rfl, a, _, 0, .ref l, rfl, rfl, .of upd_same, atI_nat (j := 0) rfl, Nat.zero_le _, fun p np => ?_⟩
  have npa : a ≠ p := ne_of_none upd_same np
  have npl : l ≠ p := ne_of_none (hl1 _) np
  have ha2 : upd (upd H a (.lst [.ref l, .int sm, .int (t + 1)])) p (.lst []) a = some (.lst [.ref l, .int sm, .int (t + 1)]) := by rw [upd_ne npa, upd_same]
  have hl2 : upd (upd H a (.lst [.ref l, .int sm, .int (t + 1)])) p (.lst []) l = some (.lst (ns.map V.int)) := by rw [upd_ne npl]; exact hl1 _
  have kp2 : ∀ b o, H b = some o → b ≠ a → upd (upd H a (.lst [.ref l, .int sm, .int (t + 1)])) p (.lst []) b = some o := fun b o e nb => by
    have e' : upd H a (.lst [.ref l, .int sm, .int (t + 1)]) b = some o := by rw [upd_ne nb]; exact e
    rw [upd_ne (ne_of_none e' np)]; exact e'
  refine ⟨.list (ns.map .int), .list [], .lst (.of hl2) (dp_ints ns), .lst (.of upd_same) .nil, shaped_ints ns, shaped_ints [], _, rfl, ?_⟩
  rw [eqv_nil]
  refine ite2 (fun hc => ?_) (fun hc => ?_)
  · -- a cell is there
    have hne : ns ≠ [] := by
      rintro rfl
      simp at hc
    obtain ⟨pre, c, rfl⟩ : ∃ pre c, ns = pre ++ [c] := ⟨_, _, (List.dropLast_concat_getLast hne).symm⟩
    have hlen : ((pre ++ [c]).map V.int).length - 1 = pre.length := by simp
    refine ⟨_, rfl, a, _, 0, .ref l, rfl, rfl, .of ha2, atI_nat (j := 0) rfl, .inl ⟨rfl, _, .of hl2⟩, l, _, .int c, rfl, rfl, hl2, ?_, ?_⟩
    · rw [hlen]; simp
    have hd : ((pre ++ [c]).map V.int).dropLast = pre.map V.int := by simp
    rw [hd]
    have ha3 : upd (upd (upd H a (.lst [.ref l, .int sm, .int (t + 1)])) p (.lst [])) l (.lst (pre.map V.int)) a = some (.lst [.ref l, .int sm, .int (t + 1)]) := by rw [upd_ne nal]; exact ha2
    have hpre : pre.length ≤ 62 := by
      have := h63
      simp at this
      omega
    refine ⟨_, rfl, _, _, rfl, rfl, ⟨by decide, by decide, by decide⟩, _, _, rfl, rfl, _, rfl, ?_⟩
    refine ite2 (fun hb => ?_) (fun hb => ?_)
    · -- the rest of it is put back
      refine ⟨_, rfl, a, _, 0, .ref l, rfl, rfl, .of ha3, atI_nat (j := 0) rfl, .inl ⟨rfl, _, .of upd_same⟩, _, rfl, _, rfl, _, _, rfl, rfl, ⟨m0, m1⟩, l, _, _, rfl, rfl, upd_same, ?_, ?_⟩
      · rw [List.length_map]; exact small1000 (by omega)
      · refine ⟨_, rfl, _, rfl, _, _, rfl, rfl, m0, ?_⟩
        refine done _ (pre ++ [c / m]) sm (t + 1) _ (Int.emod_nonneg _ (by omega)) (Int.emod_lt_of_pos _ m0) (by simp; omega) ?_ ?_ fun b o e na nl => ?_
        · rw [upd_ne nal, upd_ne nal]; exact ha2
        · rw [upd_same]; simp
        · rw [upd_ne nl, upd_ne nl]; exact kp2 b o e na
    · exact r2 c pre (t + 1) _ (by omega) ha3 upd_same fun b o e na nl => by rw [upd_ne nl]; exact kp2 b o e na
  · exact r2 sm ns (t + 1) _ h63 ha2 hl2 fun b o e na _ => kp2 b o e na
end
end KB
namespace KB
open PySem L2 Dk
def letter (c : Nat) : Prop := 97 ≤ c ∧ c ≤ 122
def sgAt (w : List Nat) (at' k : Nat) : Nat := 97 + ((w.getD at' 97 - 97) + k) % 26
def nm (way : Int) (w : List Nat) (at' sz k : Nat) : List Nat :=
  if way = 1 then sgAt w at' k :: w.take (k % 8) else w.take at' ++ (sgAt w at' k :: (w.drop (at' + 1)).take (sz - (at' + 1)))
theorem sgAt_letter {w : List Nat} {a k : Nat} : letter (sgAt w a k) := by
  unfold letter sgAt
  have := Nat.mod_lt ((w.getD a 97 - 97) + k) (show 26 > 0 by decide)
  omega
theorem sgAt_inj {w : List Nat} {a i j : Nat} (hi : i < 26) (hj : j < 26) (h : sgAt w a i = sgAt w a j) : i = j := by
  unfold sgAt at h
  omega
theorem nm_letters {way : Int} {w : List Nat} {a sz k : Nat} (hw : ∀ c ∈ w, letter c) : ∀ c ∈ nm way w a sz k, letter c := by
  intro c hc
  unfold nm at hc
  split at hc
  · rcases List.mem_cons.mp hc with rfl | h
    · exact sgAt_letter
    · exact hw c (List.mem_of_mem_take h)
  · rcases List.mem_append.mp hc with h | h
    · exact hw c (List.mem_of_mem_take h)
    · rcases List.mem_cons.mp h with rfl | h
      · exact sgAt_letter
      · exact hw c (List.mem_of_mem_drop (List.mem_of_mem_take h))
theorem nm_len {way : Int} {w : List Nat} {a sz k : Nat} (h8 : w.length = 8) (ha : a < 8) (h1 : a + 1 ≤ sz) (h2 : sz ≤ 8) : 1 ≤ (nm way w a sz k).length ∧ (nm way w a sz k).length ≤ 8 := by
  unfold nm
  split
  · simp only [List.length_cons, List.length_take, h8]
    have := Nat.mod_lt k (show 8 > 0 by decide)
    omega
  · simp only [List.length_append, List.length_cons, List.length_take, List.length_drop, h8]
    omega
theorem nm_inj {way : Int} {w : List Nat} {a sz i j : Nat} (h8 : w.length = 8) (ha : a < 8) (hi : i < 26) (hj : j < 26) (h : nm way w a sz i = nm way w a sz j) : i = j := by
  unfold nm at h
  split at h
  · exact sgAt_inj hi hj (List.cons.inj h).1
  · have := List.append_cancel_left h
    exact sgAt_inj hi hj (List.cons.inj this).1
theorem nodup_map_of {α β : Type} {f : α → β} {l : List α} (h : l.Nodup) (hf : ∀ a ∈ l, ∀ b ∈ l, f a = f b → a = b) : (l.map f).Nodup := by
  induction l with
  | nil => simp
  | cons a l ih =>
    rw [List.nodup_cons] at h
    rw [List.map_cons, List.nodup_cons]
    refine ⟨fun hm => ?_, ih h.2 fun x hx y hy => hf x (List.mem_cons_of_mem _ hx) y (List.mem_cons_of_mem _ hy)⟩
    obtain ⟨b, hb, e⟩ := List.mem_map.mp hm
    have := hf a (by simp) b (List.mem_cons_of_mem _ hb) e.symm
    exact h.1 (this ▸ hb)
def found26 (way : Int) (w : List Nat) (a sz : Nat) : List Str := (List.range 26).map fun k => txt (nm way w a sz k)
def prefixes (w : List Nat) : List Str := (List.range 8).map fun k => txt (w.take (k + 1))
structure Fresh (l : List Str) : Prop where
  nd : l.Nodup
  ok : ∀ x ∈ l, 1 ≤ x.length ∧ x.length ≤ 8 ∧ ∀ c ∈ x.cps.toList, letter c
theorem fresh26 {way : Int} {w : List Nat} {a sz : Nat} (h8 : w.length = 8) (hw : ∀ c ∈ w, letter c) (ha : a < 8) (h1 : a + 1 ≤ sz) (h2 : sz ≤ 8) : Fresh (found26 way w a sz) where
  nd := nodup_map_of List.nodup_range fun i hi j hj e => nm_inj h8 ha (List.mem_range.mp hi) (List.mem_range.mp hj) (txt_inj e)
  ok := fun x hx => by
    obtain ⟨k, _, rfl⟩ := List.mem_map.mp hx
    rw [txt_len, txt_list]
    exact ⟨(nm_len h8 ha h1 h2).1, (nm_len h8 ha h1 h2).2, nm_letters hw⟩
theorem freshP {w : List Nat} (h8 : w.length = 8) (hw : ∀ c ∈ w, letter c) : Fresh (prefixes w) where
  nd := nodup_map_of List.nodup_range fun i hi j hj e => by
    have := congrArg List.length (txt_inj e)
    have h1 := List.mem_range.mp hi
    have h2 := List.mem_range.mp hj
    simp only [List.length_take, h8] at this
    omega
  ok := fun x hx => by
    obtain ⟨k, hk, rfl⟩ := List.mem_map.mp hx
    have := List.mem_range.mp hk
    rw [txt_len, txt_list, List.length_take, h8]
    exact ⟨by omega, by omega, fun c hc => hw c (List.mem_of_mem_take hc)⟩
theorem fresh_names {l : List Str} (h : Fresh l) {m : Nat} (hm : m + 1 ≤ l.length) : ((l.filter fun x => !decide (x = numS)).take m).length = m ∧ ((l.filter fun x => !decide (x = numS)).take m).Nodup ∧ ∀ x ∈ (l.filter fun x => !decide (x = numS)).take m, nameOk x = true := by
  have e : (l.filter fun x => !decide (x = numS)) = l.erase numS := by
    rw [h.nd.erase_eq_filter]
    refine List.filter_congr fun x _ => ?_
    by_cases hx : x = numS <;> simp [hx]
  refine ⟨?_, ?_, fun x hx => ?_⟩
  · rw [List.length_take, e, List.length_erase]
    split <;> omega
  · exact (h.nd.filter _).sublist (List.take_sublist _ _)
  · have hf := List.mem_of_mem_take hx
    obtain ⟨h1, h2⟩ := List.mem_filter.mp hf
    obtain ⟨a, b, c⟩ := h.ok x h1
    unfold nameOk
    simp only [a, b, decide_true, Bool.true_and, Bool.and_eq_true]
    refine ⟨h2, ?_⟩
    rw [List.all_eq_true]
    intro z hz
    have := c z hz
    unfold letter at this
    unfold signOk
    simp [this.1, this.2]
end KB
namespace KB
open PySem L2 Dk
open PyProof.Rows (envOfC)
abbrev s__law_names : Stmt := top 28
theorem sc__law_names : FnScope ["_law_deck_here", "_law_many", "_law_letters", "_law_way", "_law_word", "_law_k", "_law_at", "_law_size", "_law_found", "_law_sign", "_law_name"] ["_law_deck_here", "_law_many"] (defScope s__law_names) := ⟨rfl, rfl, rfl, by decide +kernel, rfl, by decide +kernel, by decide +kernel⟩
theorem bd__law_names (kV doc pm : Value) (an : Option Addr) (cdv ct : Value) (us : List Value) (hl : us.length = 2) : bindArgs (PySem.W.fnOf "_law_names" "_law_names" (defArgs s__law_names) (defBody s__law_names) (defScope s__law_names) .none kV doc pm an cdv ct) ⟨us, []⟩ = pure ((["_law_deck_here", "_law_many"] : List Str).zip us) := by
  match us, hl with
  | [v0, v1], _ => rfl
def spNames (a : Addr) : DSpO where
  n := 2
  f := fun ds Q => ∃ m : Nat, ds = [.opq a, .int m] ∧ 1 ≤ m ∧ m ≤ 25 ∧ ∀ xs : List Str, xs.length = m → xs.Nodup → (∀ x ∈ xs, nameOk x = true) → Q (xs.map D.str)
  len := fun ds Q ⟨m, e, _⟩ => by rw [e]; rfl
  mono := fun ds Q Q' k ⟨m, e, h, h2, q⟩ => ⟨m, e, h, h2, fun xs h1 h2 h3 => k _ (q xs h1 h2 h3)⟩
theorem ix_abc {i : Int} {Q : D → Prop} (h0 : 0 ≤ i) (h1 : i < 26) (q : Q (.str (txt [97 + i.toNat]))) : ixD (.str "abcdefghijklmnopqrstuvwxyz") (.int i) Q := by
  refine ⟨by decide, 97 + i.toNat, ?_, q⟩
  obtain ⟨n, rfl⟩ := Int.eq_ofNat_of_zero_le h0
  have h : n < 26 := by omega
  have all : ∀ n, n < 26 → atI ("abcdefghijklmnopqrstuvwxyz" : Str).cps.toList ((n : Nat) : Int) = some (97 + n) := by decide +kernel
  simpa using all n h
theorem idx_abc {c : Nat} {Q : D → Prop} (h : letter c) (q : Q (.int ((c - 97 : Nat) : Int))) : sidxD "abcdefghijklmnopqrstuvwxyz" (.str ⟨#[c]⟩) Q := by
  refine ⟨_, c - 97, rfl, ?_, q⟩
  have all : ∀ n, n < 26 → Txt.index0 "abcdefghijklmnopqrstuvwxyz" ⟨#[97 + n]⟩ = some n := by decide +kernel
  have h1 := all (c - 97) (by have := h.2; omega)
  have e : 97 + (c - 97) = c := by have := h.1; omega
  rwa [e] at h1
theorem rng_drop {lo : Int} {n i : Nat} {d : D} {ds : List D} (h : d :: ds = (rngD lo n).drop i) : i < n ∧ d = .int (lo + (i : Nat)) ∧ ds = (rngD lo n).drop (i + 1) := by
  have hi : i < (rngD lo n).length := by
    by_cases hc : i < (rngD lo n).length
    · exact hc
    · rw [List.drop_of_length_le (by omega)] at h; cases h
  rw [List.drop_eq_getElem_cons hi] at h
  obtain ⟨e1, e2⟩ := List.cons.inj h
  rw [rngD_length] at hi
  refine ⟨hi, ?_, e2⟩
  rw [e1]
  simp [rngD]
section
variable {P : Program} {w : World} {K : PySem.W.Frag} {C a l : Addr} {mg : Str → Option Value} {base : Heap} {k : Nat} {f : Addr} {fd : FuncData}
theorem ok_names (T : TxtB K C mg) (Fn : Fun K "_law_names" "_law_names" s__law_names f fd) (C__law_draw : Cal P w K mg base CX0 (DeckW a l) k "_law_draw" ["_law_deck_here", "_law_most"] (spDraw a)) : GnOk P w K mg base CX0 (k + 1) f fd ["_law_deck_here", "_law_many"] (spO (DeckW a l) K (spNames a)) := by
  refine Fn.okO sc__law_names rfl fun cdv A outer s H I ds Q E hr h => ?_
  have hu := hr.units
  obtain ⟨m, rfl, hm1, hm2, q⟩ := h
  refine ⟨_, (dss_cons (ds_set 2 de_str sc__law_names.nd)
  (dss_cons (ds_set 3 (de_fn C__law_draw (hr.mono (by omega)) pass0 lets0 (da_cons (de_name 0) (da_cons de_int da_nil))) sc__law_names.nd)
  (dss_cons (ds_set 4 (de_join de_str (de_lc (own := [("_law_k", 5)]) rfl sc__law_names.nd (di_range1 T.b_range (da_cons de_int da_nil)) (blkOk_by (own := [("_law_k", 5)]) (N := ["_law_deck_here", "_law_many", "_law_letters", "_law_way", "_law_word", "_law_k", "_law_at", "_law_size", "_law_found", "_law_sign", "_law_name"]) (sc := defScope s__law_names) (by decide +kernel)) (fun _ _ _ _ _ => (dg_name 5 sc__law_names.nd)) (fun _ _ _ _ _ => dif_nil) (fun _ _ _ _ _ => (de_at hu (de_name 2) (de_fn C__law_draw (hr.mono (by omega)) pass0 lets0 (da_cons (de_name 0) (da_cons de_int da_nil))))))) sc__law_names.nd)
  (dss_cons (ds_set 6 (de_fn C__law_draw (hr.mono (by omega)) pass0 lets0 (da_cons (de_name 0) (da_cons de_int da_nil))) sc__law_names.nd)
  (dss_cons (ds_set 7 (de_add (de_add (de_name 6) de_int) (de_fn C__law_draw (hr.mono (by omega)) pass0 lets0 (da_cons (de_name 0) (da_cons (de_sub de_int (de_name 6)) da_nil)))) sc__law_names.nd)
  (dss_cons (ds_own 8 da_nil sc__law_names.nd)
  (dss_cons (ds_for PassesOwn.never rfl (di_range1 T.b_range (da_cons de_int da_nil)) (dg_name 5 sc__law_names.nd)
  (dss_cons (ds_set 9 (de_at hu (de_name 2) (de_mod (de_add (de_sindex rfl takes0 (de_name 2) (de_at hu (de_name 4) (de_name 6))) (de_name 5)) de_int)) sc__law_names.nd)
  (dss_cons (ds_set 10 (de_add (de_add (de_slice (de_name 4) do_none (do_some (de_name 6))) (de_name 9)) (de_slice (de_name 4) (do_some (de_add (de_name 6) de_int)) (do_some (de_name 7)))) sc__law_names.nd)
  (dss_cons (ds_if (dt_c (.eq hu) (de_name 3) de_int)
  (dss_one (ds_set 10 (de_add (de_name 9) (de_slice (de_name 4) do_none (do_some (de_mod (de_name 5) de_int)))) sc__law_names.nd))
  dss_nil)
  (dss_one (ds_append 8 (de_name 10)))))))
  (dss_freeze 8
  (dss_cons (ds_if (dt_wh (dw_and (dt_c (.eq hu) (de_name 3) de_int) (dw_and1 (dt_c .lt (de_name 1) de_int))))
  (dss_one (by first | exact (ds_setLc (i := 8) (own := [("_law_k", 5)]) rfl sc__law_names.nd rfl rfl (sw_true rfl rfl rfl (by decide +kernel)) (di_range1 T.b_range (da_cons de_int da_nil)) (blkOk_by (own := [("_law_k", 5)]) (N := ["_law_deck_here", "_law_many", "_law_letters", "_law_way", "_law_word", "_law_k", "_law_at", "_law_size", "_law_found", "_law_sign", "_law_name"]) (sc := defScope s__law_names) (by decide +kernel)) (fun _ _ _ _ _ => (dg_name 5 sc__law_names.nd)) (fun _ _ _ _ _ => dif_nil) (fun _ _ _ _ _ => (de_slice (de_name 4) do_none (do_some (de_add (de_name 5) de_int))))) | exact (ds_set 8 (de_lc (own := [("_law_k", 5)]) rfl sc__law_names.nd (di_range1 T.b_range (da_cons de_int da_nil)) (blkOk_by (own := [("_law_k", 5)]) (N := ["_law_deck_here", "_law_many", "_law_letters", "_law_way", "_law_word", "_law_k", "_law_at", "_law_size", "_law_found", "_law_sign", "_law_name"]) (sc := defScope s__law_names) (by decide +kernel)) (fun _ _ _ _ _ => (dg_name 5 sc__law_names.nd)) (fun _ _ _ _ _ => dif_nil) (fun _ _ _ _ _ => (de_slice (de_name 4) do_none (do_some (de_add (de_name 5) de_int))))) sc__law_names.nd)))
  dss_nil)
  (dss_one (ds_retO (deo_slice (de_lc (own := [("_law_name", 10)]) rfl sc__law_names.nd (di_seq (de_name 8)) (blkOk_by (own := [("_law_name", 10)]) (N := ["_law_deck_here", "_law_many", "_law_letters", "_law_way", "_law_word", "_law_k", "_law_at", "_law_size", "_law_found", "_law_sign", "_law_name"]) (sc := defScope s__law_names) (by decide +kernel)) (fun _ _ _ _ _ => (dg_name 10 sc__law_names.nd)) (fun _ _ _ _ _ => (dif_one (dt_c (.ne hu) (de_name 10) de_str))) (fun _ _ _ _ _ => (de_name 10))) do_none (do_some (de_name 1)))))))))))))), ?_⟩
  simp only [getD_0, getD_s, set_0, set_s, boolD_bl, intD_int, startD, List.map, List.length_cons, List.length_nil, List.replicate, List.cons_append, List.nil_append, defEnds, wipeD, if_true, if_false, Bool.not_true, Bool.not_false, Bool.false_eq_true]
  refine ⟨3, rfl, by decide, by decide, fun way _ _ => ?_⟩
  simp only [getD_0, getD_s, set_0, set_s, boolD_bl, intD_int, startD, List.map, List.length_cons, List.length_nil, List.replicate, List.cons_append, List.nil_append, defEnds, wipeD, if_true, if_false, Bool.not_true, Bool.not_false, Bool.false_eq_true]
  refine ⟨_, rfl, 8, rfl, by decide, by decide, by decide, lcD_any (fun c => D.str (txt [c])) letter (fun d hd R S hR => ?_) fun w0 hw0 hl0 => ?_⟩
  · simp only [getD_0, getD_s, set_0, set_s, boolD_bl, intD_int, startD, List.map, List.length_cons, List.length_nil, List.replicate, List.cons_append, List.nil_append, defEnds, wipeD, if_true, if_false, Bool.not_true, Bool.not_false, Bool.false_eq_true]
    refine ⟨26, rfl, by decide, by decide, fun v h0 h1 => ix_abc h0 h1 (hR _ ?_)⟩
    unfold letter
    omega
  have h8 : w0.length = 8 := by rw [hw0]; rfl
  refine ⟨w0.map fun c => txt [c], .inl (by rw [List.map_map]; rfl), ?_, ?_⟩
  · have e0 : ("" : Str).length = 0 := rfl
    rw [e0, Nat.mul_zero, Nat.add_zero, List.map_map]
    have : (w0.map ((fun x : Str => x.length) ∘ fun c => txt [c])) = w0.map fun _ => 1 := rfl
    rw [this, List.map_const', List.sum_replicate_nat, h8]
    decide
  rw [join_txt]
  refine ⟨8, rfl, by decide, by decide, fun at' a0 a1 => ?_⟩
  obtain ⟨at', rfl⟩ := Int.eq_ofNat_of_zero_le a0
  have ha : at' < 8 := by omega
  refine ⟨8 - (at' : Int), rfl, by omega, ?_, fun mo m0 m1 => ?_⟩
  · have : (8 - (at' : Int)).natAbs < 2 ^ 10 := by omega
    by_cases z : (8 - (at' : Int)).natAbs = 0
    · rw [z]; decide
    · exact Nat.lt_of_lt_of_le ((Nat.log2_lt z).mpr this) (by decide)
  obtain ⟨mo, rfl⟩ := Int.eq_ofNat_of_zero_le m0
  have esz : ((at' : Int) + 1 + (mo : Int)) = ((at' + 1 + mo : Nat) : Int) := by omega
  have hsz : at' + 1 + mo ≤ 8 := by omega
  refine ⟨Nat.zero_le _, 26, rfl, by decide, by decide, ?_⟩
  simp only [addD]
  generalize hS : at' + 1 + mo = sz at *
  rw [esz]
  refine forD_ind (fun (l : List D) ρ => ∃ (i : Nat) (x s n : Option Ent), i ≤ 26 ∧ l = (rngD 0 26).drop i ∧ ρ = [some (.dat (.opq a)), some (.dat (.int m)), some (.dat (.str "abcdefghijklmnopqrstuvwxyz")), some (.dat (.int way)), some (.dat (.str (txt w0))), x, some (.dat (.int at')), some (.dat (.int sz)), some (.own (((List.range i).map fun k => txt (nm way w0 at' sz k)).map D.str)), s, n]) (fun ρ ⟨i, x, s, n, hi, el, e⟩ => ?_) (fun d l ρ R ⟨i, x, s, n, hi, el, e⟩ hR => ?_) _ _ ⟨0, none, none, none, by decide, rfl, rfl⟩
  rotate_left
  · obtain ⟨hi', rfl, el'⟩ := rng_drop el
    subst e
    simp only [getD_0, getD_s, set_0, set_s, boolD_bl, intD_int, startD, List.map, List.length_cons, List.length_nil, List.replicate, List.cons_append, List.nil_append, defEnds, wipeD, if_true, if_false, Bool.not_true, Bool.not_false, Bool.false_eq_true]
    have la : (txt w0).length ≤ sizeLine := by rw [txt_len, h8]; decide
    have hget : w0[at']? = some (w0.getD at' 97) := by
      rw [List.getD_eq_getElem?_getD, List.getElem?_eq_getElem (by omega)]
      rfl
    have hat : atI (txt w0).cps.toList (at' : Int) = some (w0.getD at' 97) := by
      rw [txt_list]; exact atI_nat hget
    have hlet : letter (w0.getD at' 97) := hl0 _ (List.mem_of_getElem? hget)
    have hsg : (97 + (((((w0.getD at' 97 - 97 : Nat) : Int) + (0 + (i : Int))) % 26).toNat)) = sgAt w0 at' i := by
      unfold sgAt
      omega
    have fin : ∀ (nl : List Nat) (sg : Option Ent), nl = nm way w0 at' sz i → R [some (.dat (.opq a)), some (.dat (.int m)), some (.dat (.str "abcdefghijklmnopqrstuvwxyz")), some (.dat (.int way)), some (.dat (.str (txt w0))), some (.dat (.int (0 + (i : Int)))), some (.dat (.int at')), some (.dat (.int sz)), some (.own ((((List.range i).map fun k => txt (nm way w0 at' sz k)).map D.str) ++ [.str (txt nl)])), sg, some (.dat (.str (txt nl)))] := fun nl sg e => by
      subst e
      refine hR _ ⟨i + 1, some (.dat (.int (0 + (i : Int)))), sg, some (.dat (.str (txt (nm way w0 at' sz i)))), hi', el', ?_⟩
      rw [List.range_succ, List.map_append, List.map_append]
      rfl
    have own_len : (((List.range i).map fun k => txt (nm way w0 at' sz k)).map D.str).length < sizeLine := by
      rw [List.length_map, List.length_map, List.length_range]
      exact Nat.lt_of_lt_of_le (show i < 26 by omega) (by decide)
    refine ⟨_, rfl, la, _, hat, idx_abc hlet ?_⟩
    refine ⟨by decide, ix_abc (Int.emod_nonneg _ (by decide)) (Int.emod_lt_of_pos _ (by decide)) ?_⟩
    rw [hsg]
    refine ⟨la, ?_⟩
    rw [cut_txt_to]
    refine ⟨?_, la, ?_⟩
    · rw [txt_len, txt_len, List.length_take, h8]
      exact Nat.le_trans (show _ ≤ 100 by simp; omega) (by decide)
    rw [txt_app]
    have e1 : ((at' : Int) + 1) = ((at' + 1 : Nat) : Int) := by omega
    rw [e1, cut_txt]
    refine ⟨?_, ?_⟩
    · rw [txt_len, txt_len]
      simp only [List.length_append, List.length_take, List.length_drop, List.length_cons, List.length_nil, h8]
      exact Nat.le_trans (show _ ≤ 100 by omega) (by decide)
    rw [txt_app]
    show eqD (.int way) (.int 1) _
    rw [eqD_int]
    simp only [boolD_bl]
    by_cases hw1 : way = 1
    · rw [if_pos (by rw [decide_eq_true_eq]; exact hw1)]
      refine ⟨by decide, ?_⟩
      simp only [intD_int]
      have e2 : ((0 + (i : Int)) % 8) = ((i % 8 : Nat) : Int) := by omega
      rw [e2]
      refine ⟨la, ?_⟩
      rw [cut_txt_to]
      refine ⟨?_, _, rfl, own_len, ?_⟩
      · rw [txt_len, txt_len]
        simp only [List.length_take, List.length_cons, List.length_nil, h8]
        exact Nat.le_trans (show _ ≤ 100 by omega) (by decide)
      rw [txt_app]
      refine fin _ _ ?_
      unfold nm
      rw [if_pos hw1]
      rfl
    · rw [if_neg (by rw [decide_eq_true_eq]; exact hw1)]
      refine ⟨_, rfl, own_len, fin _ _ ?_⟩
      unfold nm
      rw [if_neg hw1]
      simp
  have hi26 : i = 26 := by
    by_cases z : i = 26
    · exact z
    · exfalso
      have := congrArg List.length el
      rw [List.length_drop, rngD_length] at this
      simp at this
      omega
  subst hi26 e
  refine ⟨_, rfl, trivial, ?_⟩
  simp only [getD_0, getD_s, set_0, set_s, boolD_bl, intD_int, startD, List.map, List.length_cons, List.length_nil, List.replicate, List.cons_append, List.nil_append, defEnds, wipeD, if_true, if_false, Bool.not_true, Bool.not_false, Bool.false_eq_true]
  simp only [eqD_int, boolD_bl]
  have fin : ∀ (L : List Str), Fresh L → m + 1 ≤ L.length → Q (cutD ((L.filter fun x => !decide (x = numS)).map D.str) none (some (m : Int))) := fun L hL hm => by
    obtain ⟨n1, n2, n3⟩ := fresh_names hL hm
    have e : cutD ((L.filter fun x => !decide (x = numS)).map D.str) none (some (m : Int)) = ((L.filter fun x => !decide (x = numS)).take m).map D.str := by
      unfold cutD
      rw [HT.sIx_none, HT.sIx_nat, List.drop_zero, Nat.sub_zero, List.map_take]
      by_cases z : m ≤ ((L.filter fun x => !decide (x = numS)).map D.str).length
      · rw [Nat.min_eq_left z]
      · rw [Nat.min_eq_right (by omega), List.take_of_length_le (Nat.le_refl _), List.take_of_length_le (by omega)]
    rw [e]
    exact q _ n1 n2 n3
  have f26 : Fresh (found26 way w0 at' sz) := fresh26 h8 hl0 ha (by omega) hsz
  by_cases hw2 : way = 2
  · rw [if_pos (by rw [decide_eq_true_eq]; exact hw2)]
    simp only [ltD, boolD_bl]
    by_cases hm4 : m < 4
    · rw [if_pos (by rw [decide_eq_true_eq]; omega)]
      refine ⟨8, rfl, by decide, by decide, by decide, ?_⟩
      rw [show rngD 0 (Int.toNat 8) = (List.range 8).map (fun i => D.int (0 + (i : Nat))) from rfl]
      refine lcD_all (fun i : Nat => D.int (0 + (i : Nat))) (fun i => .str (txt (w0.take (i + 1)))) (fun i hi R S hR => ?_) ?_
      · simp only [getD_0, getD_s, set_0, set_s, boolD_bl, intD_int, startD, List.map, List.length_cons, List.length_nil, List.replicate, List.cons_append, List.nil_append, defEnds, if_true]
        have e2 : ((0 + (i : Int)) + 1) = ((i + 1 : Nat) : Int) := by omega
        show sliceD (.str (txt w0)) none (some ((0 + (i : Int)) + 1)) R
        rw [e2]
        refine ⟨by rw [txt_len, h8]; decide, ?_⟩
        rw [cut_txt_to]
        exact hR
      · have ep : ((List.range 8).map fun i => D.str (txt (w0.take (i + 1)))) = (prefixes w0).map D.str := by unfold prefixes; rw [List.map_map]; rfl
        rw [ep]
        simp only [itemsD]
        refine ⟨by rw [List.length_map]; exact (by decide : 8 ≤ sizeLine), lcD_map D.str D.str (fun x => !decide (x = numS)) (fun x hx R S h1 h2 => ?_) ⟨_, rfl, fin _ (freshP h8 hl0) (by show m + 1 ≤ 8; omega)⟩⟩
        simp only [getD_0, getD_s, set_0, set_s, boolD_bl, intD_int, startD, List.map, List.length_cons, List.length_nil, List.replicate, List.cons_append, List.nil_append, defEnds]
        rw [neD_str]
        simp only [boolD_bl]
        cases e : !decide (x = numS)
        · have e' : (!decide (x = ("num" : Str))) = false := e
          rw [e']
          exact h2 e
        · have e' : (!decide (x = ("num" : Str))) = true := e
          rw [e']
          exact h1 e
    · rw [if_neg (by rw [decide_eq_true_eq]; omega)]
      have ep : (((List.range 26).map fun k => txt (nm way w0 at' sz k)).map D.str) = (found26 way w0 at' sz).map D.str := rfl
      rw [ep]
      simp only [itemsD, Ent.toD]
      refine ⟨by rw [List.length_map]; exact (by decide : 26 ≤ sizeLine), lcD_map D.str D.str (fun x => !decide (x = numS)) (fun x hx R S h1 h2 => ?_) ⟨_, rfl, fin _ f26 (by show m + 1 ≤ 26; omega)⟩⟩
      simp only [getD_0, getD_s, set_0, set_s, boolD_bl, intD_int, startD, List.map, List.length_cons, List.length_nil, List.replicate, List.cons_append, List.nil_append, defEnds]
      rw [neD_str]
      simp only [boolD_bl]
      cases e : !decide (x = numS)
      · have e' : (!decide (x = ("num" : Str))) = false := e
        rw [e']
        exact h2 e
      · have e' : (!decide (x = ("num" : Str))) = true := e
        rw [e']
        exact h1 e
  · rw [if_neg (by rw [decide_eq_true_eq]; exact hw2)]
    have ep : (((List.range 26).map fun k => txt (nm way w0 at' sz k)).map D.str) = (found26 way w0 at' sz).map D.str := rfl
    rw [ep]
    simp only [itemsD, Ent.toD]
    refine ⟨by rw [List.length_map]; exact (by decide : 26 ≤ sizeLine), lcD_map D.str D.str (fun x => !decide (x = numS)) (fun x hx R S h1 h2 => ?_) ⟨_, rfl, fin _ f26 (by show m + 1 ≤ 26; omega)⟩⟩
    simp only [getD_0, getD_s, set_0, set_s, boolD_bl, intD_int, startD, List.map, List.length_cons, List.length_nil, List.replicate, List.cons_append, List.nil_append, defEnds]
    rw [neD_str]
    simp only [boolD_bl]
    cases e : !decide (x = numS)
    · have e' : (!decide (x = ("num" : Str))) = false := e
      rw [e']
      exact h2 e
    · have e' : (!decide (x = ("num" : Str))) = true := e
      rw [e']
      exact h1 e
end
end KB
namespace KB
open PySem L2 Dk
def cw (i : Nat) : Nat := [8, 3, 3, 2, 1, 1].getD i 0
def sw (i : Nat) : Nat := [1, 4, 13, 27, 28, 29].getD i 29
/-- fields of a bough by which the i-th kind has worths -/
def wit (names : List Str) (i : Nat) (fs : List Str) : Prop := (∀ f ∈ fs, f = numS ∨ f ∈ names.take i) ∧ (fs.filter fun f => !decide (f = numS)).length ≤ cw i
theorem sw_le : ∀ i, i < 6 → ∀ j, j < i → sw j ≤ sw (i - 1) := by decide
theorem sw_ok : ∀ i, i < 6 → 0 < i → 1 + cw i * sw (i - 1) ≤ sw i := by decide
theorem sw_29 : ∀ i, i < 6 → sw i ≤ 29 := by decide
theorem sum_le_mul {α : Type} {l : List α} {s : α → Nat} {M : Nat} (h : ∀ a ∈ l, s a ≤ M) : (l.map s).sum ≤ l.length * M := by
  induction l with
  | nil => simp
  | cons a l ih =>
    have h1 := h a (by simp)
    have h2 := ih fun b hb => h b (List.mem_cons_of_mem _ hb)
    rw [List.map_cons, List.sum_cons, List.length_cons, Nat.succ_mul]
    omega
/-- kinds made so far: by the first of `names`, boughs by some of n12, the others left -/
structure Made (names n12 : List Str) (found : List Kind) (left : List Str) : Prop where
  nm : kNames found = names.take found.length
  le : found.length ≤ names.length
  pm : (bNames found ++ left).Perm n12
  ln : ∀ k ∈ found, k.2.length ≤ 8
  fld : ∀ k ∈ found, ∀ b ∈ k.2, b.2.length ≤ 8 ∧ ∀ f ∈ b.2, f = numS ∨ f ∈ names
  wf : ∀ i k, found[i]? = some k → ∃ b ∈ k.2, wit names i b.2
/-- .. and the rows of the next one -/
structure Rows (names n12 : List Str) (found : List Kind) (rows : List Bough) (left : List Str) : Prop where
  pm : (bNames found ++ (rows.map (·.1) ++ left)).Perm n12
  fld : ∀ b ∈ rows, b.2.length ≤ 8 ∧ ∀ f ∈ b.2, f = numS ∨ f ∈ names
theorem Made.nil {names n12 : List Str} : Made names n12 [] n12 where
  nm := rfl
  le := Nat.zero_le _
  pm := List.Perm.refl _
  ln := by simp
  fld := by simp
  wf := by simp
theorem Made.rows {names n12 : List Str} {found : List Kind} {left : List Str} (m : Made names n12 found left) : Rows names n12 found [] left := ⟨m.pm, by simp⟩
theorem Made.good {names n12 : List Str} {found : List Kind} {left : List Str} (m : Made names n12 found left) (nd : names.Nodup) (ok : ∀ x ∈ names, nameOk x = true) (nd2 : n12.Nodup) (ok2 : ∀ x ∈ n12, nameOk x = true)
    (hl : found.length = names.length) (h1 : 1 ≤ names.length) (h6 : names.length ≤ 6) : Good found := by
  have enm : kNames found = names := by rw [m.nm, hl, List.take_length]
  have bmem : ∀ k ∈ found, ∀ b ∈ k.2, b.1 ∈ n12 := fun k hk b hb => m.pm.mem_iff.mp (List.mem_append_left _ (List.mem_flatMap.mpr ⟨k, hk, List.mem_map_of_mem hb⟩))
  refine ⟨fun e => ?_, fun k hk => ok _ (enm ▸ List.mem_map_of_mem hk), fun k hk e => ?_, fun k hk b hb => ok2 _ (bmem k hk b hb), enm ▸ nd, ?_, fun k hk b hb f hf => enm ▸ (m.fld k hk b hb).2 f hf, ?_, by omega, m.ln, fun k hk b hb => (m.fld k hk b hb).1⟩
  · subst e; simp at hl; omega
  · obtain ⟨i, hi⟩ := List.getElem?_of_mem hk
    obtain ⟨b, hb, _⟩ := m.wf i k hi
    rw [e] at hb
    cases hb
  · have := m.pm.nodup_iff.mpr nd2
    exact (List.nodup_append.mp this).1
  · refine ⟨fun f => names.idxOf f, fun f => sw (names.idxOf f), fun k hk => ?_⟩
    obtain ⟨i, hi⟩ := List.getElem?_of_mem hk
    have hin : names[i]? = some k.1 := by
      rw [← enm]; unfold kNames; rw [List.getElem?_map, hi]; rfl
    have hlt := (List.getElem?_eq_some_iff.mp hin).1
    have hidx : names.idxOf k.1 = i := by
      have e := (List.getElem?_eq_some_iff.mp hin).2
      rw [← e]
      exact nd.idxOf_getElem i hlt
    have lower : ∀ f ∈ names.take i, names.idxOf f < i := fun f ht => by
      obtain ⟨j, hj⟩ := List.getElem?_of_mem ht
      have hj2 := (List.getElem?_eq_some_iff.mp hj).1
      rw [List.length_take] at hj2
      have hjn : names[j]? = some f := by
        rw [List.getElem?_take] at hj
        split at hj
        · exact hj
        · cases hj
      have e := (List.getElem?_eq_some_iff.mp hjn).2
      have hl2 := (List.getElem?_eq_some_iff.mp hjn).1
      rw [← e, nd.idxOf_getElem j hl2]
      omega
    obtain ⟨b, hb, h, hc⟩ := m.wf i k hi
    refine ⟨by show names.idxOf k.1 < _; rw [hidx]; omega, by show sw (names.idxOf k.1) ≤ 29; rw [hidx]; exact sw_29 i (by omega), b, hb, fun f hf => (h f hf).imp id fun ht => ⟨enm ▸ List.mem_of_mem_take ht, ?_⟩, ?_⟩
    · show names.idxOf f < names.idxOf k.1
      rw [hidx]
      exact lower f ht
    · show 1 + wsum (fun f => sw (names.idxOf f)) b.2 ≤ sw (names.idxOf k.1)
      rw [hidx]
      have hin2 : ∀ f ∈ b.2.filter (fun f => !decide (f = numS)), names.idxOf f < i := fun f hf => by
        obtain ⟨h1, h2⟩ := List.mem_filter.mp hf
        rcases h f h1 with e | ht
        · simp [e] at h2
        · exact lower f ht
      by_cases hz : i = 0
      · have e : b.2.filter (fun f => !decide (f = numS)) = [] := by
          rw [List.eq_nil_iff_forall_not_mem]
          intro f hf
          have := hin2 f hf
          omega
        unfold wsum
        rw [e, hz]
        exact Nat.le_refl 1
      · have h1 := sum_le_mul (s := fun f => sw (names.idxOf f)) (M := sw (i - 1)) fun f hf => sw_le i (by omega) _ (hin2 f hf)
        have h2 := sw_ok i (by omega) (by omega)
        have h3 := Nat.mul_le_mul_right (sw (i - 1)) hc
        unfold wsum
        omega
theorem cutD_to (xs : List D) (k : Nat) : cutD xs none (some (k : Int)) = xs.take k := by
  unfold cutD
  rw [HT.sIx_none, HT.sIx_nat, List.drop_zero, Nat.sub_zero]
  by_cases z : k ≤ xs.length
  · rw [Nat.min_eq_left z]
  · rw [Nat.min_eq_right (by omega), List.take_of_length_le (Nat.le_refl _), List.take_of_length_le (by omega)]
theorem cutD_from (xs : List D) (k : Nat) : cutD xs (some (k : Int)) none = xs.drop k := by
  unfold cutD
  rw [HT.sIx_none, HT.sIx_nat]
  by_cases z : k ≤ xs.length
  · rw [Nat.min_eq_left z, List.take_of_length_le (by simp)]
  · rw [Nat.min_eq_right (by omega), List.drop_of_length_le (Nat.le_refl _), List.drop_of_length_le (by omega)]
    simp
theorem cutD_mem {xs : List D} {a b : Option Int} {d : D} (h : d ∈ cutD xs a b) : d ∈ xs := by
  unfold cutD at h
  exact List.mem_of_mem_drop (List.mem_of_mem_take h)
theorem cutD_len (xs : List D) (a b : Option Int) : (cutD xs a b).length ≤ xs.length := by
  unfold cutD
  rw [List.length_take, List.length_drop]
  omega
theorem small_len {n : Nat} (h : n ≤ 1000) : n ≤ sizeLine := Nat.le_trans h (by decide)
end KB
namespace KB
open PySem L2 Dk
theorem lookD_put (kvs : List (Key × D)) (k j : Key) (d : D) : lookD (putD kvs k d) j = if j = k then some d else lookD kvs j := by
  have hmap : ∀ l : List (Key × D), (l.any fun kv => decide (kv.1 = k)) = true → lookD (l.map fun kv => if kv.1 = k then (kv.1, d) else kv) j = if j = k then some d else lookD l j := by
    intro l
    induction l with
    | nil => intro h; simp at h
    | cons x l ih =>
      intro h
      by_cases hx : x.1 = k
      · by_cases hj : j = k
        · subst hj
          rw [if_pos rfl]
          simp [lookD, List.find?_cons, hx]
        · rw [if_neg hj]
          have e1 : ¬ x.1 = j := fun e => hj (e.symm.trans hx)
          have e2 : ∀ l : List (Key × D), lookD (l.map fun kv => if kv.1 = k then (kv.1, d) else kv) j = lookD l j := by
            intro l
            induction l with
            | nil => rfl
            | cons y l ih2 =>
              by_cases hy : y.1 = k
              · have e3 : ¬ y.1 = j := fun e => hj (e.symm.trans hy)
                have e4 : ¬ k = j := fun e => hj e.symm
                simp only [lookD, List.map_cons, List.find?_cons, hy, if_true, e4, decide_false] at ih2 ⊢
                exact ih2
              · by_cases hz : y.1 = j
                · simp [lookD, List.find?_cons, hz, hj]
                · simp only [lookD, List.map_cons, List.find?_cons, hy, if_false, hz, decide_false] at ih2 ⊢
                  exact ih2
          exact e2 (x :: l)
      · have h2 : (l.any fun kv => decide (kv.1 = k)) = true := by simpa [hx] using h
        have := ih h2
        by_cases hz : x.1 = j
        · have : ¬ j = k := fun e => hx (hz.trans e)
          rw [if_neg this]
          simp [lookD, List.find?_cons, hz, this]
        · simp only [lookD, List.map_cons, List.find?_cons, hx, if_false, hz, decide_false] at this ⊢
          exact this
  unfold putD
  split
  · rename_i h; exact hmap kvs h
  · rename_i h
    have hn : ∀ kv ∈ kvs, ¬ kv.1 = k := fun kv hk e => h (List.any_eq_true.mpr ⟨kv, hk, by simpa using e⟩)
    by_cases hj : j = k
    · subst hj
      rw [if_pos rfl]
      have e : kvs.find? (fun kv => decide (kv.1 = j)) = none := List.find?_eq_none.mpr fun kv hk => by simpa using hn kv hk
      simp [lookD, List.find?_append, e]
    · rw [if_neg hj]
      have e : ¬ k = j := fun e => hj e.symm
      simp [lookD, List.find?_append, e]
/-- the size told of a kind -/
def zv (kvs : List (Key × D)) (f : Str) : Nat := match lookD kvs (.inr f) with
  | some (.int n) => n.toNat
  | _ => 0
theorem zv_put (kvs : List (Key × D)) (x f : Str) (m : Nat) : zv (putD kvs (.inr x) (.int m)) f = if f = x then m else zv kvs f := by
  unfold zv
  rw [lookD_put]
  by_cases h : f = x
  · subst h; simp
  · have : ¬ (Sum.inr f : Key) = .inr x := fun e => h (Sum.inr.inj e)
    rw [if_neg this, if_neg h]
def okFs (kvs : List (Key × D)) (fs : List Str) : Prop := ∀ f ∈ fs, f = numS ∨ hasN kvs f = true
structure Szs (ks : List Kind) (kvs : List (Key × D)) : Prop where
  val : ∀ f, hasN kvs f = true → f ∈ kNames ks ∧ lookD kvs (.inr f) = some (.int (zv kvs f)) ∧ 1 ≤ zv kvs f
  wit : ∀ k ∈ ks, hasN kvs k.1 = true → ∃ b ∈ k.2, okFs kvs b.2 ∧ 1 + wsum (zv kvs) b.2 ≤ zv kvs k.1
theorem Szs.nil {ks : List Kind} : Szs ks [] := ⟨fun f h => by simp [hasN, lookD] at h, fun k _ h => by simp [hasN, lookD] at h⟩
theorem wsum_le {s t : Str → Nat} {fs : List Str} (h : ∀ f ∈ fs, f = numS ∨ s f ≤ t f) : wsum s fs ≤ wsum t fs := by
  unfold wsum
  induction fs with
  | nil => simp
  | cons f fs ih =>
    have h2 := ih fun g hg => h g (List.mem_cons_of_mem _ hg)
    by_cases hf : f = numS
    · simp only [List.filter_cons, hf, decide_true, Bool.not_true, Bool.false_eq_true, if_false]
      exact h2
    · have h1 := (h f (by simp)).resolve_left hf
      simp only [List.filter_cons, hf, decide_false, Bool.not_false, if_true, List.map_cons, List.sum_cons]
      omega
theorem Good.uniq {ks : List Kind} (g : Good ks) {k k' : Kind} (h : k ∈ ks) (h' : k' ∈ ks) (e : k.1 = k'.1) : k = k' := by
  have nd := g.nd
  unfold kNames at nd
  obtain ⟨i, hi⟩ := List.getElem?_of_mem h
  obtain ⟨j, hj⟩ := List.getElem?_of_mem h'
  have e1 : (ks.map (·.1))[i]? = some k.1 := by rw [List.getElem?_map, hi]; rfl
  have e2 : (ks.map (·.1))[j]? = some k.1 := by rw [List.getElem?_map, hj]; simp [e]
  have := nodup_ix nd e1 e2
  subst this
  rw [hi] at hj
  exact Option.some.inj hj
theorem okFs_put {kvs : List (Key × D)} {fs : List Str} {x : Str} {d : D} (h : okFs kvs fs) : okFs (putD kvs (.inr x) d) fs := fun f hf => (h f hf).imp id fun e => by rw [hasN_put, e]; rfl
/-- the size of a kind told anew -/
theorem Szs.put {ks : List Kind} {kvs : List (Key × D)} {x : Kind} {m : Nat} (g : Good ks) (z : Szs ks kvs) (hx : x ∈ ks) (hm : ∃ b ∈ x.2, okFs kvs b.2 ∧ m = 1 + wsum (zv kvs) b.2) (hle : ∀ b ∈ x.2, okFs kvs b.2 → m ≤ 1 + wsum (zv kvs) b.2) :
    Szs ks (putD kvs (.inr x.1) (.int m)) ∧ ∀ f, hasN kvs f = true → zv (putD kvs (.inr x.1) (.int m)) f ≤ zv kvs f := by
  have down : ∀ f, hasN kvs f = true → zv (putD kvs (.inr x.1) (.int m)) f ≤ zv kvs f := fun f hf => by
    rw [zv_put]
    split
    · rename_i e
      subst e
      obtain ⟨b, hb, h1, h2⟩ := z.wit x hx hf
      exact Nat.le_trans (hle b hb h1) h2
    · exact Nat.le_refl _
  have dsum : ∀ fs, okFs kvs fs → wsum (zv (putD kvs (.inr x.1) (.int m))) fs ≤ wsum (zv kvs) fs := fun fs h => wsum_le fun f hf => (h f hf).imp id (down f)
  refine ⟨⟨fun f hf => ?_, fun k hk hf => ?_⟩, down⟩
  · rw [zv_put, lookD_put]
    by_cases e : f = x.1
    · subst e
      rw [if_pos rfl, if_pos rfl]
      obtain ⟨b, _, _, e⟩ := hm
      exact ⟨List.mem_map_of_mem hx, rfl, by omega⟩
    · have : ¬ (Sum.inr f : Key) = .inr x.1 := fun h => e (Sum.inr.inj h)
      rw [if_neg this, if_neg e]
      rw [hasN_put] at hf
      exact z.val f (by simpa [e] using hf)
  · by_cases e : k.1 = x.1
    · have := g.uniq hk hx e
      subst this
      obtain ⟨b, hb, h1, h2⟩ := hm
      refine ⟨b, hb, okFs_put h1, ?_⟩
      rw [zv_put, if_pos rfl]
      have := dsum b.2 h1
      omega
    · rw [hasN_put] at hf
      obtain ⟨b, hb, h1, h2⟩ := z.wit k hk (by simpa [e] using hf)
      refine ⟨b, hb, okFs_put h1, ?_⟩
      rw [zv_put, if_neg e]
      have := dsum b.2 h1
      omega
end KB
namespace Dk
open PySem L2
section
variable {F : Fx} {X : Cx} {es : List Expr} {gs : DGTs} {pos : Pos}
theorem dg_lst {n k : Nat} {js : List Nat} (hc : X.calm = true) (h : DGs F X es js gs) (hn : (assignEach es X.env).length = n := by rfl) (hst : (assignEach es X.env).findIdx? (·.1) = none := by rfl) : DG F X (.Tuple es k pos) js (fun d ρ Q => ∃ ds, d = .lst ds ∧ ds.length = n ∧ gs ds ρ Q) := by
  refine ⟨fun d ρ Q Q' k ⟨ds, e, l, q⟩ => ⟨ds, e, l, h.mono _ _ _ _ k q⟩, fun d ρ Q ⟨ds, e, l, q⟩ => ⟨ds, e, l, h.keeps _ _ _ q⟩, (pg_lst hc h.run hn hst).imp fun v σ H Q ⟨I, ρ, d, A, r, ds, e, l, q⟩ => ?_⟩
  subst e
  cases r with
  | lst a rs => exact ⟨_, _, rfl, .of (A.st.sub _ _ a), by rw [rs.length]; exact l, I, ρ, ds, A, rs, q⟩
end
end Dk
namespace Dk
open PySem L2 PySem.Spec PyProof.Rows
section
variable {X : Cx}
def rSumT (K : PySem.W.Frag) : List V → Hp → VK → Prop := fun vs H Q => ∃ (a : Addr) (ns : List Int), vs = [V.ref a] ∧ SqT K H a (ns.map V.int) ∧ Q (.int ns.sum) H
theorem cr_sumT (hc : X.calm = true) : CallR X (.builtin "sum") (rSumT X.K) := by
  intro pins s σ H vs us Q I r h
  obtain ⟨a, ns, rfl, hs, q⟩ := h
  obtain ⟨its, rv, hl, _⟩ := I.tuple hs
  rw [Vals.ref1 r]
  have hi := rv.ints
  obtain ⟨xs, e⟩ := hi.allInts.items
  have hn : numsOf (intItems xs).toList = ns := by rw [← e]; exact hi.numsOf
  rw [nums_intItems] at hn
  rw [e] at hl
  refine PySem.W.ktm_sumG (I.ok.hd hc) hl fun h' tk t' hk => ?_
  rw [preSum_eq, List.take_of_length_le (by simp), hn]
  exact ⟨.int _, H, I.kept hk, ⟨_, rfl⟩, q⟩
end
def sumTD : List D → (D → Prop) → Prop
  | [.tup xs], Q => ∃ ns : List Int, xs = ns.map D.int ∧ Q (.int ns.sum)
  | _, _ => False
theorem mono_sumTD : MonoN sumTD := by
  intro ds Q Q' k h
  unfold sumTD at h ⊢
  split at h
  · obtain ⟨ns, a, q⟩ := h
    exact ⟨ns, a, k _ q⟩
  · exact h.elim
theorem lc_sumT {F : Fx} {K : PySem.W.Frag} : LiftC F K (rSumT K) sumTD := by
  intro vs ds I H Q st rs h
  unfold sumTD at h
  split at h
  · obtain ⟨v, rfl, r⟩ := rs.one
    obtain ⟨ns, rfl, q⟩ := h
    cases r with
    | tup a r => exact ⟨_, ns, rfl, r.intsV ▸ Same.seqT st.sub a, q _ I H st.stp (.int _)⟩
  · exact h.elim
section
variable {F : Fx} {X : Cx} {e : Expr} {t : DATS} {p pos : Pos}
theorem des_sumT (hc : X.calm = true) (hm : X.mg "sum" = none) (ha : DAS F X [e] t) (hg : Gl X "sum" := by rfl) (he : starEach [e] X.env = (false, eval e X.env) :: starEach [] X.env := by rfl) : DES F X (.Call (.Name "sum" p) [e] [] pos) (fun ρ Q => t ρ fun ds ρ1 => sumTD ds fun d => Q d ρ1) := des_callB mono_sumTD lc_sumT (cr_sumT hc) hm (by decide +kernel) ha hg (by decide) (by decide) he rfl
end
end Dk
namespace KB
open PySem L2 Dk
open PyProof.Rows (envOfC)
abbrev s_Runner___init__ : Stmt := inClass (top 10) 0
theorem sc_Runner___init__ : FnScope ["self", "book", "fun", "most", "name", "takes", "gives", "rows"] ["self", "book", "fun", "most"] (defScope s_Runner___init__) := ⟨rfl, rfl, rfl, by decide +kernel, rfl, by decide +kernel, by decide +kernel⟩
theorem bd_Runner___init__ (kV doc pm : Value) (an : Option Addr) (cdv ct : Value) (us : List Value) (hl : us.length = 4) : bindArgs (PySem.W.fnOf "__init__" "Runner.__init__" (defArgs s_Runner___init__) (defBody s_Runner___init__) (defScope s_Runner___init__) .none kV doc pm an cdv ct) ⟨us, []⟩ = pure ((["self", "book", "fun", "most"] : List Str).zip us) := by
  match us, hl with
  | [v0, v1, v2, v3], _ => rfl
abbrev s_Runner_given : Stmt := inClass (top 10) 1
theorem sc_Runner_given : FnScope ["self", "things", "first", "others", "bough", "parts", "names", "body", "?o"] ["self", "things"] (defScope s_Runner_given) := ⟨rfl, rfl, rfl, by decide +kernel, rfl, by decide +kernel, by decide +kernel⟩
theorem bd_Runner_given (kV doc pm : Value) (an : Option Addr) (cdv ct : Value) (us : List Value) (hl : us.length = 2) : bindArgs (PySem.W.fnOf "given" "Runner.given" (defArgs s_Runner_given) (defBody s_Runner_given) (defScope s_Runner_given) .none kV doc pm an cdv ct) ⟨us, []⟩ = pure ((["self", "things"] : List Str).zip us) := by
  match us, hl with
  | [v0, v1], _ => rfl
abbrev s_Runner_all_given : Stmt := inClass (top 10) 2
theorem sc_Runner_all_given : FnScope ["self", "bodies", "here", "body", "?o"] ["self", "bodies", "here"] (defScope s_Runner_all_given) := ⟨rfl, rfl, rfl, by decide +kernel, rfl, by decide +kernel, by decide +kernel⟩
theorem bd_Runner_all_given (kV doc pm : Value) (an : Option Addr) (cdv ct : Value) (us : List Value) (hl : us.length = 3) : bindArgs (PySem.W.fnOf "all_given" "Runner.all_given" (defArgs s_Runner_all_given) (defBody s_Runner_all_given) (defScope s_Runner_all_given) .none kV doc pm an cdv ct) ⟨us, []⟩ = pure ((["self", "bodies", "here"] : List Str).zip us) := by
  match us, hl with
  | [v0, v1, v2], _ => rfl
abbrev s_Runner_stands_for : Stmt := inClass (top 10) 3
theorem sc_Runner_stands_for : FnScope ["self", "body", "here", "word", "parts", "one", "other", "bough", "bodies", "?o"] ["self", "body", "here"] (defScope s_Runner_stands_for) := ⟨rfl, rfl, rfl, by decide +kernel, rfl, by decide +kernel, by decide +kernel⟩
theorem bd_Runner_stands_for (kV doc pm : Value) (an : Option Addr) (cdv ct : Value) (us : List Value) (hl : us.length = 3) : bindArgs (PySem.W.fnOf "stands_for" "Runner.stands_for" (defArgs s_Runner_stands_for) (defBody s_Runner_stands_for) (defScope s_Runner_stands_for) .none kV doc pm an cdv ct) ⟨us, []⟩ = pure ((["self", "body", "here"] : List Str).zip us) := by
  match us, hl with
  | [v0, v1, v2], _ => rfl
structure TxtU (K : PySem.W.Frag) (C CU : Addr) (mg : Str → Option Value) : Prop extends TxtB K C mg where
  b_dict : mg "dict" = none
  cl_Runner : Cls K CU
  na_Runner_rows_by_bough : NoAttr K CU "rows_by_bough"
  na_Runner_most_runs : NoAttr K CU "most_runs"
  na_Runner_many_runs : NoAttr K CU "many_runs"
def runE (CU q : Addr) (rows : List FRow) (most n : Nat) : List Ent := [.ownO q CU [("rows_by_bough", .dic (frD rows)), ("most_runs", .int (most : Nat)), ("many_runs", .int (n : Nat))]]
theorem runE_adr {CU q : Addr} {rows : List FRow} {most n : Nat} : ∀ e ∈ runE CU q rows most n, ∃ p, e.adr = some p := by
  intro e he
  simp only [runE, List.mem_cons, List.not_mem_nil, or_false] at he
  subst he
  exact ⟨_, rfl⟩
theorem frD_look {rows : List FRow} {b : Str} {names : List Str} {body : D} (nd : (rows.map (·.1)).Nodup) (h : (b, (names, body)) ∈ rows) : lookD (frD rows) (.inr b) = some (.tup [.tup (names.map D.str), body]) := by
  refine lookD_mem ?_ (List.mem_map.mpr ⟨_, h, rfl⟩)
  unfold frD
  rw [List.map_map]
  have := nodup_inr nd
  rwa [List.map_map] at this
theorem here_zip : ∀ (names : List Str) (ts : List D), List.zipWith (fun d e => D.tup [d, e]) (names.map D.str) ts = (hereD names ts).map fun kv => D.tup [keyD kv.1, kv.2]
  | [], _ => rfl
  | _ :: _, [] => rfl
  | n :: names, t :: ts => by
    have := here_zip names ts
    unfold hereD at this ⊢
    rw [List.map_cons, List.zipWith_cons_cons, this]
    rfl
theorem here_nd {names : List Str} {ts : List D} (nd : names.Nodup) (hl : names.length = ts.length) : ((hereD names ts).map (·.1)).Nodup := by
  have e : (hereD names ts).map (·.1) = names.map Sum.inr := by
    unfold hereD
    rw [List.map_map]
    have : (names.zip ts).map Prod.fst = names := List.map_fst_zip (Nat.le_of_eq hl)
    conv => rhs; rw [← this, List.map_map]
    rfl
  rw [e]
  exact nodup_inr nd
theorem at0 {x : D} {xs : List D} : atI (x :: xs) (0 : Int) = some x := atI_nat (j := 0) rfl
theorem run_put {rows : List FRow} {most n : Nat} : putFD "many_runs" (.int (((n : Nat) : Int) + 1)) [("rows_by_bough", .dic (frD rows)), ("most_runs", .int (most : Nat)), ("many_runs", .int (n : Nat))] = ([("rows_by_bough", .dic (frD rows)), ("most_runs", .int (most : Nat)), ("many_runs", .int ((n + 1 : Nat) : Int))] : List (Str × D)) := rfl
def spGiven (CU : Addr) (k : Nat) : SSp where
  n := 2
  m := 1
  f := fun ds es Q _ => ∃ q rows most n ts d n', ds = [.opq q, .tup ts] ∧ es = runE CU q rows most n ∧ EvT rows most k ts n d n' ∧ Q d (runE CU q rows most n')
  len := fun ds es Q E ⟨_, _, _, _, _, _, _, e, e', _⟩ => by rw [e, e']; exact ⟨rfl, rfl⟩
  mono := fun ds es Q Q' E E' k _ ⟨q, rows, most, n, ts, d, n', e, e', h1, h⟩ => ⟨q, rows, most, n, ts, d, n', e, e', h1, k _ _ h⟩
def spAllGiven (CU : Addr) (k : Nat) : SSp where
  n := 3
  m := 1
  f := fun ds es Q _ => ∃ q rows most n bs here ds' n', ∃ x : D, ds = [.opq q, x, .dic here] ∧ (x = .tup bs ∨ x = .lst bs) ∧ bs.length ≤ 100 ∧ es = runE CU q rows most n ∧ EvL rows most k here bs n ds' n' ∧ Q (.tup ds') (runE CU q rows most n')
  len := fun ds es Q E ⟨_, _, _, _, _, _, _, _, _, e, _, _, e', _⟩ => by rw [e, e']; exact ⟨rfl, rfl⟩
  mono := fun ds es Q Q' E E' k _ ⟨q, rows, most, n, bs, here, ds', n', x, e, h0, h2, e', h1, h⟩ => ⟨q, rows, most, n, bs, here, ds', n', x, e, h0, h2, e', h1, k _ _ h⟩
def spStands (CU : Addr) (k : Nat) : SSp where
  n := 3
  m := 1
  f := fun ds es Q _ => ∃ q rows most n b here d n', ds = [.opq q, b, .dic here] ∧ es = runE CU q rows most n ∧ EvB rows most k here b n d n' ∧ Q d (runE CU q rows most n')
  len := fun ds es Q E ⟨_, _, _, _, _, _, _, _, e, e', _⟩ => by rw [e, e']; exact ⟨rfl, rfl⟩
  mono := fun ds es Q Q' E E' k _ ⟨q, rows, most, n, b, here, d, n', e, e', h1, h⟩ => ⟨q, rows, most, n, b, here, d, n', e, e', h1, k _ _ h⟩
theorem lcS_ev {rows : List FRow} {most k : Nat} {here : List (Key × D)} {g : DGT} {tc : DB} {te : DTS2} {vs : List Nat} (Iv : Nat → DEnv) (hs : ∀ b n d n1, EvB rows most k here b n d n1 → ∀ (R : D → DEnv → Prop) (S : DEnv → Prop), (∀ ρ', wipeD ρ' vs = Iv n1 → R d ρ') → g b (Iv n) fun ρ2 => tc ρ2 fun b => if b = true then te ρ2 R else S ρ2) : ∀ {bs : List D} {n : Nat} {ds : List D} {n' : Nat}, EvL rows most k here bs n ds n' → ∀ {Q : List D → DEnv → Prop}, Q ds (Iv n') → lcS g tc te vs bs (Iv n) Q
  | _, _, _, _, .nil, Q, q => q
  | _, _, _, _, .cons h h', Q, q => hs _ _ _ _ h _ _ fun ρ' e => by
    show lcS g tc te vs _ (wipeD ρ' vs) _
    rw [e]
    exact lcS_ev Iv hs h' q
section
variable {P : Program} {w : World} {K : PySem.W.Frag} {C CU a l : Addr} {mg : Str → Option Value} {base : Heap} {W : Wd} {k : Nat} {f : Addr} {fd : FuncData}
theorem ok_all_given (T : TxtU K C CU mg) (Fn : Fun K "all_given" "Runner.all_given" s_Runner_all_given f fd) {j : Nat} (CS_stands_for : CalS P w K mg base CX0 W k CU "stands_for" ["self", "body", "here"] (spStands CU j)) : GnOk P w K mg base CX0 (k + 1) f fd ["self", "bodies", "here"] (spS W K (spAllGiven CU j)) := by
  refine Fn.okS [4] (by decide) (by decide +kernel) sc_Runner_all_given rfl fun cdv A outer s H I B ds es Q Ed E hr hk h => ?_
  have hu := hr.units
  obtain ⟨q, rows, most, n, bs, here, ds', n', x, rfl, hx, hl, rfl, ev, qq⟩ := h
  refine ⟨_, (dss_one (ds_retS (des_tuple T.b_tuple (das_cons (des_lc (own := [("body", 3)]) rfl sc_Runner_all_given.nd (di_seq (de_name 1)) (blkOk_by (own := [("body", 3)]) (N := ["self", "bodies", "here", "body", "?o"]) (sc := defScope s_Runner_all_given) (by decide +kernel)) (fun _ _ _ _ _ => (dg_name 3 sc_Runner_all_given.nd)) (fun _ _ _ _ _ => dif_nil) (fun _ _ _ _ _ => (des_meth CS_stands_for (hr.mono (by omega)) pass0 letsB0 4 [4] (by decide) (de_name 0) (das_cons (des_of (de_name 3)) (das_cons (des_of (de_name 2)) das_nil))))) das_nil)))), ?_⟩
  have e0 : startS ["self", "bodies", "here", "body", "?o"] [4] [.opq q, x, .dic here] (runE CU q rows most n) = [some (.dat (.opq q)), some (.dat x), some (.dat (.dic here)), none, some (.ownO q CU [("rows_by_bough", .dic (frD rows)), ("most_runs", .int (most : Nat)), ("many_runs", .int (n : Nat))])] := rfl
  rw [e0]
  simp only [getD_0, getD_s, set_0, set_s, boolD_bl, intD_int, startD, List.map, List.length_cons, List.length_nil, List.replicate, List.cons_append, List.nil_append, defEnds, wipeD, if_true, if_false, Bool.not_true, Bool.not_false, Bool.false_eq_true]
  have hit : ∀ Q : List D → Prop, Q bs → itemsD x Q := fun Q h => by
    rcases hx with rfl | rfl
    · exact h
    · exact h
  refine hit _ ⟨small_len (by omega), ?_⟩
  refine lcS_ev (fun n => [some (.dat (.opq q)), some (.dat x), some (.dat (.dic here)), none, some (.ownO q CU [("rows_by_bough", .dic (frD rows)), ("most_runs", .int (most : Nat)), ("many_runs", .int (n : Nat))])]) (fun b n d n1 hb R S hR => ?_) ev ?_
  · simp only [getD_0, getD_s, set_0, set_s, boolD_bl, intD_int, startD, List.map, List.length_cons, List.length_nil, List.replicate, List.cons_append, List.nil_append, defEnds, wipeD, if_true, if_false, Bool.not_true, Bool.not_false, Bool.false_eq_true]
    refine ⟨_, _, rfl, rfl, rfl, _, rfl, runE_adr, q, rows, most, n, b, here, d, n1, rfl, rfl, hb, fun _ => ?_⟩
    exact hR _ rfl
  · exact ⟨_, rfl, rfl, qq rfl⟩
theorem ok_given (T : TxtU K C CU mg) (Fn : Fun K "given" "Runner.given" s_Runner_given f fd) {j : Nat} (CS_stands_for : CalS P w K mg base CX0 W k CU "stands_for" ["self", "body", "here"] (spStands CU j)) : GnOk P w K mg base CX0 (k + 1) f fd ["self", "things"] (spS W K (spGiven CU (j + 1))) := by
  refine Fn.okS [8] (by decide) (by decide +kernel) sc_Runner_given rfl fun cdv A outer s H I B ds es Q Ed E hr hk h => ?_
  have hu := hr.units
  obtain ⟨q, rows, most, n, ts, d, n', rfl, rfl, ev, qq⟩ := h
  cases ev with
  | @mk _ _ _ b parts others names body _ hb hnd hn hl h100 hm hev =>
  refine ⟨_, (dss_cons (ds_addF 8 T.cl_Runner T.na_Runner_many_runs (de_name 0) de_int)
  (dss_cons (ds_if (dt_c .gt (de_fldS 8 T.cl_Runner T.na_Runner_many_runs (de_name 0)) (de_fldS 8 T.cl_Runner T.na_Runner_most_runs (de_name 0)))
  (dss_one ds_never)
  dss_nil)
  (dss_cons (ds_asg (de_name 1) (dg_star (i := 1) [.Name "first" ⟨39, 8, 39, 13⟩, .Name "others" ⟨39, 16, 39, 22⟩] rfl (dgs_cons (dg_name 2 sc_Runner_given.nd) (dgs_cons (dg_name 3 sc_Runner_given.nd) dgs_nil))))
  (dss_cons (ds_asg (de_name 2) (dg_star (i := 1) [.Name "bough" ⟨40, 8, 40, 13⟩, .Name "parts" ⟨40, 16, 40, 21⟩] rfl (dgs_cons (dg_name 4 sc_Runner_given.nd) (dgs_cons (dg_name 5 sc_Runner_given.nd) dgs_nil))))
  (dss_cons (ds_asg (de_at hu (de_fldS 8 T.cl_Runner T.na_Runner_rows_by_bough (de_name 0)) (de_name 4)) (dg_tup (n := 2) rfl (dgs_cons (dg_name 6 sc_Runner_given.nd) (dgs_cons (dg_name 7 sc_Runner_given.nd) dgs_nil))))
  (dss_one (ds_retS (des_meth CS_stands_for (hr.mono (by omega)) pass0 letsB0 8 [8] (by decide) (de_name 0) (das_cons (des_of (de_name 7)) (das_cons (des_of (de_dictP rfl T.b_dict (da_cons (de_listZipS rfl T.b_list T.b_zip (da_cons (de_name 6) (da_cons (de_add (de_name 5) (de_name 3)) da_nil))) da_nil))) das_nil)))))))))), ?_⟩
  have e0 : startS ["self", "things", "first", "others", "bough", "parts", "names", "body", "?o"] [8] [.opq q, .tup (.tup (.str b :: parts) :: others)] (runE CU q rows most n) = [some (.dat (.opq q)), some (.dat (.tup (.tup (.str b :: parts) :: others))), none, none, none, none, none, none, some (.ownO q CU [("rows_by_bough", .dic (frD rows)), ("most_runs", .int (most : Nat)), ("many_runs", .int (n : Nat))])] := rfl
  rw [e0]
  simp only [getD_0, getD_s, set_0, set_s, boolD_bl, intD_int, startD, List.map, List.length_cons, List.length_nil, List.replicate, List.cons_append, List.nil_append, defEnds, wipeD, if_true, if_false, Bool.not_true, Bool.not_false, Bool.false_eq_true]
  refine ⟨_, _, rfl, rfl, n, rfl, by simp, 1, rfl, ?_⟩
  rw [run_put]
  refine ⟨_, _, rfl, rfl, _, rfl, _, _, rfl, rfl, _, rfl, ?_⟩
  show boolD (.bl (decide ((most : Int) < ((n + 1 : Nat) : Int)))) _
  rw [boolD_bl, if_neg (by rw [decide_eq_true_eq]; omega)]
  rw [List.length_append] at hl
  refine ⟨_, .inr rfl, by simp, by rw [List.length_cons]; omega, _, _, rfl, _, _, rfl, rfl, _, .inr rfl, by simp, by rw [List.length_cons]; omega, _, _, rfl, _, _, rfl, rfl, ?_⟩
  refine ⟨_, _, rfl, rfl, _, rfl, .inr b, _, rfl, frD_look hnd hb, ?_⟩
  refine ⟨_, rfl, rfl, _, _, rfl, _, _, rfl, rfl, ?_⟩
  refine ⟨_, _, rfl, rfl, rfl, ?_⟩
  have hlen : (parts ++ others).length ≤ 100 := by rw [List.length_append]; omega
  refine ⟨small_len (by show parts.length + others.length ≤ 1000; omega), ?_⟩
  refine ⟨_, _, _, _, rfl, rfl, rfl, fun _ => by rw [List.length_map, hl]; exact (List.length_append).symm, by rw [List.length_zipWith, List.length_map]; omega, ?_⟩
  refine ⟨hereD names (parts ++ others), here_zip _ _, here_nd hn (by rw [List.length_append]; exact hl), ?_⟩
  refine ⟨_, rfl, runE_adr, q, rows, most, n + 1, body, _, _, _, rfl, rfl, hev, fun _ => ?_⟩
  exact ⟨_, rfl, rfl, qq rfl⟩
theorem ok_stands (T : TxtU K C CU mg) (Fn : Fun K "stands_for" "Runner.stands_for" s_Runner_stands_for f fd) {j : Nat} (CS_stands_for : CalS P w K mg base CX0 W k CU "stands_for" ["self", "body", "here"] (spStands CU (j + 1))) (CS_all_given : CalS P w K mg base CX0 W k CU "all_given" ["self", "bodies", "here"] (spAllGiven CU j)) (CS_given : CalS P w K mg base CX0 W k CU "given" ["self", "things"] (spGiven CU (j + 1))) : GnOk P w K mg base CX0 (k + 1) f fd ["self", "body", "here"] (spS W K (spStands CU (j + 2))) := by
  refine Fn.okS [9] (by decide) (by decide +kernel) sc_Runner_stands_for rfl fun cdv A outer s H I B ds es Q Ed E hr hk h => ?_
  have hu := hr.units
  obtain ⟨q, rows, most, n, b, here, d, n', rfl, rfl, ev, qq⟩ := h
  refine ⟨_, (dss_cons (ds_asg (de_name 1) (dg_star (i := 1) [.Name "word" ⟨48, 8, 48, 12⟩, .Name "parts" ⟨48, 15, 48, 20⟩] rfl (dgs_cons (dg_name 3 sc_Runner_stands_for.nd) (dgs_cons (dg_name 4 sc_Runner_stands_for.nd) dgs_nil))))
  (dss_cons (ds_if (dt_c (.eq hu) (de_name 3) de_str)
  (dss_one (ds_retS (des_of (de_at hu (de_name 2) (de_at hu (de_name 4) de_int)))))
  dss_nil)
  (dss_cons (ds_if (dt_c (.eq hu) (de_name 3) de_str)
  (dss_one (ds_retS (des_of (de_at hu (de_name 4) de_int))))
  dss_nil)
  (dss_cons (ds_if (dt_c (.eq hu) (de_name 3) de_str)
  (dss_one (ds_retS (des_sumT rfl T.b_sum (das_cons (des_meth CS_all_given (hr.mono (by omega)) pass0 letsB0 9 [9] (by decide) (de_name 0) (das_cons (des_of (de_name 4)) (das_cons (des_of (de_name 2)) das_nil))) das_nil))))
  dss_nil)
  (dss_cons (ds_if (dt_c (.eq hu) (de_name 3) de_str)
  (dss_cons (ds_asgS (des_meth CS_all_given (hr.mono (by omega)) pass0 letsB0 9 [9] (by decide) (de_name 0) (das_cons (des_of (de_slice (de_name 4) do_none (do_some de_int))) (das_cons (des_of (de_name 2)) das_nil))) (dg_tup (n := 2) rfl (dgs_cons (dg_name 5 sc_Runner_stands_for.nd) (dgs_cons (dg_name 6 sc_Runner_stands_for.nd) dgs_nil))))
  (dss_one (ds_retS (des_meth CS_stands_for (hr.mono (by omega)) pass0 letsB0 9 [9] (by decide) (de_name 0) (das_cons (des_of (de_if (dt_c .lt (de_name 5) (de_name 6)) (de_at hu (de_name 4) de_int) (de_at hu (de_name 4) de_int))) (das_cons (des_of (de_name 2)) das_nil))))))
  dss_nil)
  (dss_cons (ds_if (dt_c (.eq hu) (de_name 3) de_str)
  (dss_cons (ds_asg (de_name 4) (dg_lst (n := 2) rfl (dgs_cons (dg_name 7 sc_Runner_stands_for.nd) (dgs_cons (dg_name 8 sc_Runner_stands_for.nd) dgs_nil))))
  (dss_one (ds_retS (des_add (des_of (de_tup (da_cons (de_name 7) da_nil))) (des_meth CS_all_given (hr.mono (by omega)) pass0 letsB0 9 [9] (by decide) (de_name 0) (das_cons (des_of (de_name 8)) (das_cons (des_of (de_name 2)) das_nil)))))))
  dss_nil)
  (dss_one (ds_retS (des_meth CS_given (hr.mono (by omega)) pass0 letsB0 9 [9] (by decide) (de_name 0) (das_cons (des_meth CS_all_given (hr.mono (by omega)) pass0 letsB0 9 [9] (by decide) (de_name 0) (das_cons (des_of (de_at hu (de_name 4) de_int)) (das_cons (des_of (de_name 2)) das_nil))) das_nil)))))))))), ?_⟩
  have e0 : startS ["self", "body", "here", "word", "parts", "one", "other", "bough", "bodies", "?o"] [9] [.opq q, b, .dic here] (runE CU q rows most n) = [some (.dat (.opq q)), some (.dat b), some (.dat (.dic here)), none, none, none, none, none, none, some (.ownO q CU [("rows_by_bough", .dic (frD rows)), ("most_runs", .int (most : Nat)), ("many_runs", .int (n : Nat))])] := rfl
  rw [e0]
  simp only [getD_0, getD_s, set_0, set_s, boolD_bl, intD_int, startD, List.map, List.length_cons, List.length_nil, List.replicate, List.cons_append, List.nil_append, defEnds, wipeD, if_true, if_false, Bool.not_true, Bool.not_false, Bool.false_eq_true]
  cases ev with
  | name h =>
    refine ⟨_, .inr rfl, by simp, by simp, _, _, rfl, _, _, rfl, rfl, ?_⟩
    rw [eqD_str, boolD_bl, if_pos (by decide)]
    refine ⟨_, at0, .inr _, _, rfl, h, ?_⟩
    exact ⟨_, rfl, rfl, qq rfl⟩
  | num =>
    refine ⟨_, .inr rfl, by simp, by simp, _, _, rfl, _, _, rfl, rfl, ?_⟩
    rw [eqD_str, boolD_bl, if_neg (by decide), eqD_str, boolD_bl, if_pos (by decide)]
    refine ⟨_, at0, ?_⟩
    exact ⟨_, rfl, rfl, qq rfl⟩
  | sum hl h =>
    refine ⟨_, .inr rfl, by simp, by simp; omega, _, _, rfl, _, _, rfl, rfl, ?_⟩
    rw [eqD_str, boolD_bl, if_neg (by decide), eqD_str, boolD_bl, if_neg (by decide), eqD_str, boolD_bl, if_pos (by decide)]
    refine ⟨_, _, rfl, rfl, rfl, _, rfl, runE_adr, q, rows, most, n, _, here, _, _, _, rfl, .inr rfl, hl, rfl, h, fun _ => ?_⟩
    exact ⟨_, rfl, _, rfl, rfl, qq rfl⟩
  | @less _ n n1 n2 _ a b c e d i0 j0 h h' =>
    refine ⟨_, .inr rfl, by simp, by simp, _, _, rfl, _, _, rfl, rfl, ?_⟩
    rw [eqD_str, boolD_bl, if_neg (by decide), eqD_str, boolD_bl, if_neg (by decide), eqD_str, boolD_bl, if_neg (by decide), eqD_str, boolD_bl, if_pos (by decide)]
    refine ⟨_, _, rfl, rfl, rfl, ?_⟩
    simp only [sliceD]
    refine ⟨_, rfl, runE_adr, q, rows, most, n, _, here, _, _, _, rfl, .inr rfl, Nat.le_trans (cutD_len _ _ _) (by simp), rfl, h, fun _ => ?_⟩
    refine ⟨_, rfl, rfl, _, _, rfl, _, _, rfl, rfl, ?_⟩
    refine ⟨_, rfl, _, _, rfl, rfl, rfl, _, rfl, _, rfl, ?_⟩
    show boolD (.bl (decide (i0 < j0))) _
    rw [boolD_bl]
    by_cases hlt : i0 < j0
    · rw [if_pos hlt] at h'
      rw [if_pos (decide_eq_true hlt)]
      refine ⟨_, rfl, _, atI_nat (j := 2) rfl, _, rfl, _, rfl, runE_adr, q, rows, most, n1, _, here, _, _, rfl, rfl, h', fun _ => ?_⟩
      exact ⟨_, rfl, rfl, qq rfl⟩
    · rw [if_neg hlt] at h'
      rw [if_neg (by rw [decide_eq_true_eq]; exact hlt)]
      refine ⟨_, rfl, _, atI_nat (j := 3) rfl, _, rfl, _, rfl, runE_adr, q, rows, most, n1, _, here, _, _, rfl, rfl, h', fun _ => ?_⟩
      exact ⟨_, rfl, rfl, qq rfl⟩
  | make hl h =>
    refine ⟨_, .inr rfl, by simp, by simp, _, _, rfl, _, _, rfl, rfl, ?_⟩
    rw [eqD_str, boolD_bl, if_neg (by decide), eqD_str, boolD_bl, if_neg (by decide), eqD_str, boolD_bl, if_neg (by decide), eqD_str, boolD_bl, if_neg (by decide), eqD_str, boolD_bl, if_pos (by decide)]
    refine ⟨_, rfl, rfl, _, _, rfl, _, _, rfl, rfl, by decide, _, _, rfl, rfl, rfl, _, rfl, runE_adr, q, rows, most, n, _, here, _, _, _, rfl, .inl rfl, hl, rfl, h, fun _ => ?_⟩
    have := h.len
    exact ⟨small_len (by simp only [List.length_cons, List.length_nil]; omega), _, rfl, rfl, qq rfl⟩
  | again hl h h' =>
    refine ⟨_, .inr rfl, by simp, by simp, _, _, rfl, _, _, rfl, rfl, ?_⟩
    rw [eqD_str, boolD_bl, if_neg (by decide), eqD_str, boolD_bl, if_neg (by decide), eqD_str, boolD_bl, if_neg (by decide), eqD_str, boolD_bl, if_neg (by decide), eqD_str, boolD_bl, if_neg (by decide)]
    refine ⟨_, _, rfl, rfl, rfl, _, _, rfl, rfl, rfl, _, at0, _, rfl, runE_adr, q, rows, most, n, _, here, _, _, _, rfl, .inl rfl, hl, rfl, h, fun _ => ?_⟩
    refine ⟨_, rfl, runE_adr, q, rows, most, _, _, _, _, rfl, rfl, h', fun _ => ?_⟩
    exact ⟨_, rfl, rfl, qq rfl⟩
end
end KB
namespace KB
open PySem L2 Dk
open PyProof.Rows (envOfC)
abbrev s_run : Stmt := top 11
theorem sc_run : FnScope ["book", "fun", "things", "most"] ["book", "fun", "things", "most"] (defScope s_run) := ⟨rfl, rfl, rfl, by decide +kernel, rfl, by decide +kernel, by decide +kernel⟩
theorem bdk_run (D : Addr) (doc pm : Value) (an : Option Addr) (cdv ct u : Value) (us : List Value) (hl : us.length = 3) : KwChain D [("most", u)] (bindArgs (PySem.W.fnOf "run" "run" (defArgs s_run) (defBody s_run) (defScope s_run) .none (.ref D) doc pm an cdv ct) ⟨us, []⟩) ((["book", "fun", "things", "most"] : List Str).zip (us ++ [u])) := by
  match us, hl with
  | [v0, v1, v2], _ => exact ⟨_, _, _, _, _, _, rfl, rfl, rfl⟩
def funD (nm : D) (k : Str) (rest : List D) (gives : D) (rows : List FRow) : D := .tup [nm, .tup (.str k :: rest), gives, .tup (rows.map fun r => D.tup [.tup (r.2.1.map D.str), r.2.2])]
def spRunner (C CU : Addr) : ISp where
  n := 3
  f := fun ds x Q _ => ∃ ks kd nm rest gives rows most, ds = [bookD C ks, funD nm kd.1 rest gives rows, .int ((most : Nat) : Int)] ∧ Good ks ∧ kd ∈ ks ∧ rows.map (·.1) = kd.2.map (·.1) ∧ (rows.map (·.1)).Nodup ∧ rows.length ≤ 100 ∧ Q (runE CU x rows most 0)
  len := fun ds x Q E ⟨_, _, _, _, _, _, _, e, _⟩ => by rw [e]; rfl
  mono := fun ds x Q Q' E E' k _ ⟨ks, kd, nm, rest, gives, rows, most, e, h1, h2, h3, h4, h5, q⟩ => ⟨ks, kd, nm, rest, gives, rows, most, e, h1, h2, h3, h4, h5, k _ q⟩
/-- what is given of things, asked of a function's own kind -/
def spRun (C : Addr) (k : Nat) : DSp where
  n := 4
  f := fun ds Q _ => ∃ ks kd nm rest gives rows ts d n most, ds = [bookD C ks, funD nm kd.1 rest gives rows, .tup ts, .int ((most : Nat) : Int)] ∧ Good ks ∧ kd ∈ ks ∧ rows.map (·.1) = kd.2.map (·.1) ∧ (rows.map (·.1)).Nodup ∧ rows.length ≤ 100 ∧ EvT rows most k ts 0 d n ∧ Q d
  len := fun ds Q E ⟨_, _, _, _, _, _, _, _, _, _, e, _⟩ => by rw [e]; rfl
  mono := fun ds Q Q' E E' k _ ⟨ks, kd, nm, rest, gives, rows, ts, d, n, most, e, h1, h2, h3, h4, h5, h6, q⟩ => ⟨ks, kd, nm, rest, gives, rows, ts, d, n, most, e, h1, h2, h3, h4, h5, h6, k _ q⟩
theorem rows_zip : ∀ (rows : List FRow), List.zipWith (fun d e => D.tup [d, e]) ((rows.map (·.1)).map D.str) (rows.map fun r => D.tup [.tup (r.2.1.map D.str), r.2.2]) = (frD rows).map fun kv => D.tup [keyD kv.1, kv.2]
  | [] => rfl
  | r :: rows => by
    have := rows_zip rows
    unfold frD at this ⊢
    rw [List.map_cons, List.map_cons, List.map_cons, List.zipWith_cons_cons, this]
    rfl
section
variable {P : Program} {w : World} {K : PySem.W.Frag} {C CU a l : Addr} {mg : Str → Option Value} {base : Heap} {W : Wd} {k : Nat} {f : Addr} {fd : FuncData}
theorem ok_runner (T : TxtU K C CU mg) (Fn : Fun K "__init__" "Runner.__init__" s_Runner___init__ f fd) (CM_boughs : CalM P w K mg base CX0 W k C "boughs" ["self", "kind"] (spBoughs C)) : GnOk P w K mg base CX0 (k + 1) f fd ["self", "book", "fun", "most"] (spI W K CU (spRunner C CU)) := by
  refine Fn.okIS [0] (by decide) sc_Runner___init__ rfl fun cdv A outer s H I B a ds Q Ed E hr h => ?_
  have hu := hr.units
  obtain ⟨ks, kd, nm, rest, gives, rows, most, rfl, g, hk, hn, hnd, hl, hadr, q⟩ := h
  refine ⟨_, (dss_cons (ds_asg (de_name 2) (dg_tup (n := 4) rfl (dgs_cons (dg_name 4 sc_Runner___init__.nd) (dgs_cons (dg_name 5 sc_Runner___init__.nd) (dgs_cons (dg_name 6 sc_Runner___init__.nd) (dgs_cons (dg_name 7 sc_Runner___init__.nd) dgs_nil))))))
  (dss_cons (ds_setA 0 (de_dictP rfl T.b_dict (da_cons (de_listZipS rfl T.b_list T.b_zip (da_cons (de_meth CM_boughs (hr.mono (by omega)) pass0 lets0 (de_name 1) (da_cons (de_at hu (de_name 5) de_int) da_nil)) (da_cons (de_name 7) da_nil))) da_nil)) (cl := T.cl_Runner) (n := T.na_Runner_rows_by_bough))
  (dss_cons (ds_setA 0 (de_name 3) (cl := T.cl_Runner) (n := T.na_Runner_most_runs))
  (dss_one (ds_setA 0 de_int (cl := T.cl_Runner) (n := T.na_Runner_many_runs)))))), ?_⟩
  simp only [startI]
  simp only [getD_0, getD_s, set_0, set_s, boolD_bl, intD_int, startD, List.map, List.length_cons, List.length_nil, List.replicate, List.cons_append, List.nil_append, defEnds, wipeD, if_true, if_false, Bool.not_true, Bool.not_false, Bool.false_eq_true]
  refine ⟨_, rfl, rfl, _, _, rfl, _, _, rfl, _, _, rfl, _, _, rfl, rfl, ?_⟩
  refine ⟨_, rfl, rfl, ?_⟩
  refine ⟨_, at0, ?_⟩
  refine ⟨ks, kd, rfl, g, hk, ?_⟩
  refine ⟨_, _, _, _, rfl, rfl, rfl, fun _ => ?_, ?_, frD rows, ?_, ?_, ?_⟩
  · rw [List.length_map, List.length_map]
    have := congrArg List.length hn
    rw [List.length_map, List.length_map] at this
    exact this.symm
  · rw [List.length_zipWith, List.length_map, List.length_map]
    omega
  · rw [← rows_zip, hn, List.map_map]
    rfl
  · unfold frD
    rw [List.map_map]
    have := nodup_inr hnd
    rwa [List.map_map] at this
  refine ⟨a, _, rfl, by simp, a, _, rfl, Nat.lt_of_lt_of_le (len_putFD (n := 1) (by decide)) (by decide), a, _, rfl, Nat.lt_of_lt_of_le (len_putFD (len_putFD (n := 1) (by decide))) (by decide), ?_⟩
  exact ⟨_, rfl, hadr, q⟩
theorem ok_run (T : TxtU K C CU mg) (Fn : Fun K "run" "run" s_run f fd) {j : Nat} (CI_Runner : CalI P w K mg base CX0 W k "Runner" CU ["self", "book", "fun", "most"] (spRunner C CU)) (CS_given : CalS P w K mg base CX0 W k CU "given" ["self", "things"] (spGiven CU j)) : GnOk P w K mg base CX0 (k + 2) f fd ["book", "fun", "things", "most"] (spD W K (spRun C j)) := by
  refine Fn.okD sc_run rfl fun cdv A outer s H I ds Q Ed E hr h => ?_
  have hu := hr.units
  obtain ⟨ks, kd, nm, rest, gives, rows, ts, d, n, most, rfl, g, hk, hn, hnd, hl, ev, q⟩ := h
  refine ⟨_, (dss_one (ds_ret (de_makeMeth CI_Runner CS_given (hr.mono (by omega)) pass0 letsB0 (da_cons (de_name 0) (da_cons (de_name 1) (da_cons (de_name 3) da_nil))) (da_cons (de_name 2) da_nil)))), ?_⟩
  simp only [getD_0, getD_s, set_0, set_s, boolD_bl, intD_int, startD, List.map, List.length_cons, List.length_nil, List.replicate, List.cons_append, List.nil_append, defEnds, wipeD, if_true, if_false, Bool.not_true, Bool.not_false, Bool.false_eq_true]
  refine fun a => ⟨ks, kd, nm, rest, gives, rows, most, rfl, g, hk, hn, hnd, hl, ⟨runE_adr, _, _, rfl, rfl⟩, ?_⟩
  exact ⟨a, rows, most, 0, ts, d, n, rfl, rfl, ev, fun _ => q⟩
end
end KB
namespace KB
open PySem L2 Dk
open PyProof.Rows (envOfC)
section
variable {P : Program} {w : World} {K : PySem.W.Frag} {C CU a l : Addr} {mg : Str → Option Value} {base : Heap} {W : Wd} {k : Nat} {f : Addr} {fd : FuncData}
theorem ok_stands0 (Fn : Fun K "stands_for" "Runner.stands_for" s_Runner_stands_for f fd) : GnOk P w K mg base CX0 (k + 1) f fd ["self", "body", "here"] (spS W K (spStands CU 0)) :=
  Fn.okS [9] (by decide) (by decide +kernel) sc_Runner_stands_for rfl fun cdv A outer s H I B ds es Q Ed E hr hk ⟨_, _, _, _, _, _, _, _, _, _, ev, _⟩ => nomatch ev
theorem ok_given0 (Fn : Fun K "given" "Runner.given" s_Runner_given f fd) : GnOk P w K mg base CX0 (k + 1) f fd ["self", "things"] (spS W K (spGiven CU 0)) :=
  Fn.okS [8] (by decide) (by decide +kernel) sc_Runner_given rfl fun cdv A outer s H I B ds es Q Ed E hr hk ⟨_, _, _, _, _, _, _, _, _, ev, _⟩ => nomatch ev
theorem ok_stands1 (T : TxtU K C CU mg) (Fn : Fun K "stands_for" "Runner.stands_for" s_Runner_stands_for f fd) (CS_stands_for : CalS P w K mg base CX0 W k CU "stands_for" ["self", "body", "here"] (spStands CU 0)) (CS_all_given : CalS P w K mg base CX0 W k CU "all_given" ["self", "bodies", "here"] (spAllGiven CU 0)) (CS_given : CalS P w K mg base CX0 W k CU "given" ["self", "things"] (spGiven CU 0)) : GnOk P w K mg base CX0 (k + 1) f fd ["self", "body", "here"] (spS W K (spStands CU 1)) := by
  refine Fn.okS [9] (by decide) (by decide +kernel) sc_Runner_stands_for rfl fun cdv A outer s H I B ds es Q Ed E hr hk h => ?_
  have hu := hr.units
  obtain ⟨q, rows, most, n, b, here, d, n', rfl, rfl, ev, qq⟩ := h
  refine ⟨_, (dss_cons (ds_asg (de_name 1) (dg_star (i := 1) [.Name "word" ⟨48, 8, 48, 12⟩, .Name "parts" ⟨48, 15, 48, 20⟩] rfl (dgs_cons (dg_name 3 sc_Runner_stands_for.nd) (dgs_cons (dg_name 4 sc_Runner_stands_for.nd) dgs_nil))))
  (dss_cons (ds_if (dt_c (.eq hu) (de_name 3) de_str)
  (dss_one (ds_retS (des_of (de_at hu (de_name 2) (de_at hu (de_name 4) de_int)))))
  dss_nil)
  (dss_cons (ds_if (dt_c (.eq hu) (de_name 3) de_str)
  (dss_one (ds_retS (des_of (de_at hu (de_name 4) de_int))))
  dss_nil)
  (dss_cons (ds_if (dt_c (.eq hu) (de_name 3) de_str)
  (dss_one (ds_retS (des_sumT rfl T.b_sum (das_cons (des_meth CS_all_given (hr.mono (by omega)) pass0 letsB0 9 [9] (by decide) (de_name 0) (das_cons (des_of (de_name 4)) (das_cons (des_of (de_name 2)) das_nil))) das_nil))))
  dss_nil)
  (dss_cons (ds_if (dt_c (.eq hu) (de_name 3) de_str)
  (dss_cons (ds_asgS (des_meth CS_all_given (hr.mono (by omega)) pass0 letsB0 9 [9] (by decide) (de_name 0) (das_cons (des_of (de_slice (de_name 4) do_none (do_some de_int))) (das_cons (des_of (de_name 2)) das_nil))) (dg_tup (n := 2) rfl (dgs_cons (dg_name 5 sc_Runner_stands_for.nd) (dgs_cons (dg_name 6 sc_Runner_stands_for.nd) dgs_nil))))
  (dss_one (ds_retS (des_meth CS_stands_for (hr.mono (by omega)) pass0 letsB0 9 [9] (by decide) (de_name 0) (das_cons (des_of (de_if (dt_c .lt (de_name 5) (de_name 6)) (de_at hu (de_name 4) de_int) (de_at hu (de_name 4) de_int))) (das_cons (des_of (de_name 2)) das_nil))))))
  dss_nil)
  (dss_cons (ds_if (dt_c (.eq hu) (de_name 3) de_str)
  (dss_cons (ds_asg (de_name 4) (dg_lst (n := 2) rfl (dgs_cons (dg_name 7 sc_Runner_stands_for.nd) (dgs_cons (dg_name 8 sc_Runner_stands_for.nd) dgs_nil))))
  (dss_one (ds_retS (des_add (des_of (de_tup (da_cons (de_name 7) da_nil))) (des_meth CS_all_given (hr.mono (by omega)) pass0 letsB0 9 [9] (by decide) (de_name 0) (das_cons (des_of (de_name 8)) (das_cons (des_of (de_name 2)) das_nil)))))))
  dss_nil)
  (dss_one (ds_retS (des_meth CS_given (hr.mono (by omega)) pass0 letsB0 9 [9] (by decide) (de_name 0) (das_cons (des_meth CS_all_given (hr.mono (by omega)) pass0 letsB0 9 [9] (by decide) (de_name 0) (das_cons (des_of (de_at hu (de_name 4) de_int)) (das_cons (des_of (de_name 2)) das_nil))) das_nil)))))))))), ?_⟩
  have e0 : startS ["self", "body", "here", "word", "parts", "one", "other", "bough", "bodies", "?o"] [9] [.opq q, b, .dic here] (runE CU q rows most n) = [some (.dat (.opq q)), some (.dat b), some (.dat (.dic here)), none, none, none, none, none, none, some (.ownO q CU [("rows_by_bough", .dic (frD rows)), ("most_runs", .int (most : Nat)), ("many_runs", .int (n : Nat))])] := rfl
  rw [e0]
  simp only [getD_0, getD_s, set_0, set_s, boolD_bl, intD_int, startD, List.map, List.length_cons, List.length_nil, List.replicate, List.cons_append, List.nil_append, defEnds, wipeD, if_true, if_false, Bool.not_true, Bool.not_false, Bool.false_eq_true]
  cases ev with
  | name h =>
    refine ⟨_, .inr rfl, by simp, by simp, _, _, rfl, _, _, rfl, rfl, ?_⟩
    rw [eqD_str, boolD_bl, if_pos (by decide)]
    refine ⟨_, at0, .inr _, _, rfl, h, ?_⟩
    exact ⟨_, rfl, rfl, qq rfl⟩
  | num =>
    refine ⟨_, .inr rfl, by simp, by simp, _, _, rfl, _, _, rfl, rfl, ?_⟩
    rw [eqD_str, boolD_bl, if_neg (by decide), eqD_str, boolD_bl, if_pos (by decide)]
    refine ⟨_, at0, ?_⟩
    exact ⟨_, rfl, rfl, qq rfl⟩
theorem all_stands {fS fA fG : Addr} {fdS fdA fdG : FuncData} (T : TxtU K C CU mg) (FS : Fun K "stands_for" "Runner.stands_for" s_Runner_stands_for fS fdS) (FA : Fun K "all_given" "Runner.all_given" s_Runner_all_given fA fdA) (FG : Fun K "given" "Runner.given" s_Runner_given fG fdG)
    (MS : Meth K CU "stands_for" fS) (MA : Meth K CU "all_given" fA) (MG : Meth K CU "given" fG) (bS : Binds K fdS ["self", "body", "here"] []) (bA : Binds K fdA ["self", "bodies", "here"] []) (bG : Binds K fdG ["self", "things"] []) : ∀ j, GnOk P w K mg base CX0 (j + 2) fS fdS ["self", "body", "here"] (spS W K (spStands CU j))
  | 0 => ok_stands0 (k := 1) FS
  | 1 => ok_stands1 (k := 2) T FS ⟨_, _, T.cl_Runner, MS, ok_stands0 (k := 1) FS, bS⟩ ⟨_, _, T.cl_Runner, MA, ok_all_given (k := 1) T FA ⟨_, _, T.cl_Runner, MS, ok_stands0 (k := 0) FS, bS⟩, bA⟩ ⟨_, _, T.cl_Runner, MG, ok_given0 (k := 1) FG, bG⟩
  | j + 2 => ok_stands T FS ⟨_, _, T.cl_Runner, MS, all_stands T FS FA FG MS MA MG bS bA bG (j + 1), bS⟩ ⟨_, _, T.cl_Runner, MA, ok_all_given T FA ⟨_, _, T.cl_Runner, MS, all_stands T FS FA FG MS MA MG bS bA bG j, bS⟩, bA⟩ ⟨_, _, T.cl_Runner, MG, ok_given T FG ⟨_, _, T.cl_Runner, MS, all_stands T FS FA FG MS MA MG bS bA bG j, bS⟩, bG⟩
theorem all_given_ok {fS fA fG : Addr} {fdS fdA fdG : FuncData} (T : TxtU K C CU mg) (FS : Fun K "stands_for" "Runner.stands_for" s_Runner_stands_for fS fdS) (FA : Fun K "all_given" "Runner.all_given" s_Runner_all_given fA fdA) (FG : Fun K "given" "Runner.given" s_Runner_given fG fdG)
    (MS : Meth K CU "stands_for" fS) (MA : Meth K CU "all_given" fA) (MG : Meth K CU "given" fG) (bS : Binds K fdS ["self", "body", "here"] []) (bA : Binds K fdA ["self", "bodies", "here"] []) (bG : Binds K fdG ["self", "things"] []) (j : Nat) : GnOk P w K mg base CX0 (j + 3) fG fdG ["self", "things"] (spS W K (spGiven CU (j + 1))) :=
  ok_given T FG ⟨_, _, T.cl_Runner, MS, all_stands T FS FA FG MS MA MG bS bA bG j, bS⟩
end
end KB
namespace KB
open PySem L2 Dk
/-- a row of numbers -/
def rowD (w0 w1 : Str) : List Int → D
  | [] => .tup [.str w0]
  | v :: vs => .tup [.str w1, .int v, rowD w0 w1 vs]
def nmB (x : Str) : D := .tup [.str "name", .str x]
def numB (i : Int) : D := .tup [.str "num", .int i]
def sumB (a b : D) : D := .tup [.str "sum", a, b]
def lessB (a b c d : D) : D := .tup [.str "less", a, b, c, d]
def makeB (b : Str) (bs : List D) : D := .tup [.str "make", .str b, .tup bs]
def againB (bs : List D) : D := .tup [.str "again", .tup bs]
/-- a function's rows: its names behind the first two serve the bough without parts -/
def fnR (w0 w1 : Str) (own : List Str) (base body : D) : List FRow := [(w0, (own.drop 2, base)), (w1, (own, body))]
section
variable {w0 w1 w2 o0 o1 o2 : Str} {most : Nat} {base body : D}
theorem fn_nd (hw : w0 ≠ w1) {own : List Str} : ((fnR w0 w1 own base body).map (·.1)).Nodup := by simp [fnR, hw]
theorem look0 {d : D} {r : List (Key × D)} {x : Str} : lookD ((.inr x, d) :: r) (.inr x) = some d := by simp [lookD]
theorem look1 {d d' : D} {r : List (Key × D)} {x y : Str} (h : x ≠ y) : lookD ((.inr x, d) :: (.inr y, d') :: r) (.inr y) = some d' := by simp [lookD, h]
theorem look2 {d d' d'' : D} {r : List (Key × D)} {x y z : Str} (h : x ≠ z) (h' : y ≠ z) : lookD ((.inr x, d) :: (.inr y, d') :: (.inr z, d'') :: r) (.inr z) = some d'' := by simp [lookD, h, h']
/-- the bough without parts -/
theorem ev_nil {own : List Str} {others : List D} {k n n' : Nat} {d : D} (hw : w0 ≠ w1) (hnd : own.Nodup) (hl : own.length = 2 + others.length) (h3 : own.length ≤ 3) (hn : n < most) (h : EvB (fnR w0 w1 own base body) most k (hereD (own.drop 2) others) base (n + 1) d n') : EvT (fnR w0 w1 own base body) most (k + 1) (rowD w0 w1 [] :: others) n d n' :=
  .mk (parts := []) (names := own.drop 2) (by simp [fnR]) (fn_nd hw) (hnd.sublist (List.drop_sublist _ _)) (by rw [List.length_drop, List.nil_append]; omega) (by rw [List.length_drop]; omega) hn h
/-- the bough of a number and a row -/
theorem ev_cons {own : List Str} {others : List D} {k n n' : Nat} {d : D} {v : Int} {vs : List Int} (hw : w0 ≠ w1) (hnd : own.Nodup) (hl : own.length = 2 + others.length) (h3 : own.length ≤ 3) (hn : n < most) (h : EvB (fnR w0 w1 own base body) most k (hereD own (.int v :: rowD w0 w1 vs :: others)) body (n + 1) d n') : EvT (fnR w0 w1 own base body) most (k + 1) (rowD w0 w1 (v :: vs) :: others) n d n' :=
  .mk (parts := [.int v, rowD w0 w1 vs]) (names := own) (by simp [fnR]) (fn_nd hw) hnd (by simp; omega) (by omega) hn h
theorem nd2 (h : o0 ≠ o1) : [o0, o1].Nodup := by simp [h]
theorem nd3 (h : o0 ≠ o1) (h1 : o0 ≠ o2) (h2 : o1 ≠ o2) : [o0, o1, o2].Nodup := by simp [h, h1, h2]
theorem ev_sum (hw : w0 ≠ w1) (h01 : o0 ≠ o1) : ∀ (vs : List Int) (n : Nat), n + vs.length < most → EvT (fnR w0 w1 [o0, o1] (numB 0) (sumB (nmB o0) (againB [nmB o1]))) most (6 * vs.length + 5) [rowD w0 w1 vs] n (.int vs.sum) (n + vs.length + 1)
  | [], n, h => ev_nil (k := 4) hw (nd2 h01) rfl (by simp) h (.num (k := 3))
  | v :: vs, n, h => by
    rw [List.length_cons] at h
    have ih := ev_sum hw h01 vs (n + 1) (by omega)
    have e := ev_cons (k := 6 * vs.length + 10) (v := v) (vs := vs) (others := []) (base := numB 0) hw (nd2 h01) rfl (by simp) (show n < most by omega) ((EvB.sum (k := 6 * vs.length + 6) (is := [v, vs.sum]) (by simp) (.cons (.name (k := 6 * vs.length + 5) look0) (.cons (.again (k := 6 * vs.length + 4) (by simp) (.cons (.name (k := 6 * vs.length + 3) (look1 h01)) .nil) ih) .nil))).up (by omega))
    rw [show ([v, vs.sum] : List Int).sum = (v :: vs).sum by simp] at e
    rw [show 6 * (v :: vs).length + 5 = 6 * vs.length + 10 + 1 by rw [List.length_cons]; omega, show n + (v :: vs).length + 1 = n + 1 + vs.length + 1 by rw [List.length_cons]; omega]
    exact e
/-- the greater ones -/
def grF (m : Int) (vs : List Int) : Int := vs.foldl (fun m v => if m < v then v else m) m
def leF (m : Int) (vs : List Int) : Int := vs.foldl (fun m v => if v < m then v else m) m
theorem ev_great (hw : w0 ≠ w1) (h01 : o0 ≠ o1) (h02 : o0 ≠ o2) (h12 : o1 ≠ o2) : ∀ (vs : List Int) (m : Int) (n : Nat), n + vs.length < most → EvT (fnR w0 w1 [o0, o1, o2] (nmB o2) (lessB (nmB o2) (nmB o0) (againB [nmB o1, nmB o0]) (againB [nmB o1, nmB o2]))) most (6 * vs.length + 5) [rowD w0 w1 vs, .int m] n (.int (grF m vs)) (n + vs.length + 1)
  | [], m, n, h => ev_nil (k := 4) hw (nd3 h01 h02 h12) rfl (by simp) h (.name (k := 3) look0)
  | v :: vs, m, n, h => by
    rw [List.length_cons] at h
    have ih := ev_great hw h01 h02 h12 vs (if m < v then v else m) (n + 1) (by omega)
    rw [show 6 * (v :: vs).length + 5 = 6 * vs.length + 10 + 1 by rw [List.length_cons]; omega, show n + (v :: vs).length + 1 = n + 1 + vs.length + 1 by rw [List.length_cons]; omega]
    refine ev_cons (k := 6 * vs.length + 10) (v := v) (vs := vs) (others := [.int m]) hw (nd3 h01 h02 h12) rfl (by simp) (show n < most by omega) ((EvB.less (k := 6 * vs.length + 6) (i := m) (j := v) (.cons (.name (k := 6 * vs.length + 5) (look2 h02 h12)) (.cons (.name (k := 6 * vs.length + 5) look0) .nil)) ?_).up (by omega))
    refine EvB.up (k := 6 * vs.length + 6) ?_ (by omega)
    by_cases hm : m < v
    · rw [if_pos hm] at ih ⊢
      rw [show grF m (v :: vs) = grF v vs by simp [grF, hm]]
      exact .again (k := 6 * vs.length + 4) (by simp) (.cons (.name (k := 6 * vs.length + 3) (look1 h01)) (.cons (.name (k := 6 * vs.length + 3) look0) .nil)) ih
    · rw [if_neg hm] at ih ⊢
      rw [show grF m (v :: vs) = grF m vs by simp [grF, hm]]
      exact .again (k := 6 * vs.length + 4) (by simp) (.cons (.name (k := 6 * vs.length + 3) (look1 h01)) (.cons (.name (k := 6 * vs.length + 3) (look2 h02 h12)) .nil)) ih
theorem ev_least (hw : w0 ≠ w1) (h01 : o0 ≠ o1) (h02 : o0 ≠ o2) (h12 : o1 ≠ o2) : ∀ (vs : List Int) (m : Int) (n : Nat), n + vs.length < most → EvT (fnR w0 w1 [o0, o1, o2] (nmB o2) (lessB (nmB o0) (nmB o2) (againB [nmB o1, nmB o0]) (againB [nmB o1, nmB o2]))) most (6 * vs.length + 5) [rowD w0 w1 vs, .int m] n (.int (leF m vs)) (n + vs.length + 1)
  | [], m, n, h => ev_nil (k := 4) hw (nd3 h01 h02 h12) rfl (by simp) h (.name (k := 3) look0)
  | v :: vs, m, n, h => by
    rw [List.length_cons] at h
    have ih := ev_least hw h01 h02 h12 vs (if v < m then v else m) (n + 1) (by omega)
    rw [show 6 * (v :: vs).length + 5 = 6 * vs.length + 10 + 1 by rw [List.length_cons]; omega, show n + (v :: vs).length + 1 = n + 1 + vs.length + 1 by rw [List.length_cons]; omega]
    refine ev_cons (k := 6 * vs.length + 10) (v := v) (vs := vs) (others := [.int m]) hw (nd3 h01 h02 h12) rfl (by simp) (show n < most by omega) ((EvB.less (k := 6 * vs.length + 6) (i := v) (j := m) (.cons (.name (k := 6 * vs.length + 5) look0) (.cons (.name (k := 6 * vs.length + 5) (look2 h02 h12)) .nil)) ?_).up (by omega))
    refine EvB.up (k := 6 * vs.length + 6) ?_ (by omega)
    by_cases hm : v < m
    · rw [if_pos hm] at ih ⊢
      rw [show leF m (v :: vs) = leF v vs by simp [leF, hm]]
      exact .again (k := 6 * vs.length + 4) (by simp) (.cons (.name (k := 6 * vs.length + 3) (look1 h01)) (.cons (.name (k := 6 * vs.length + 3) look0) .nil)) ih
    · rw [if_neg hm] at ih ⊢
      rw [show leF m (v :: vs) = leF m vs by simp [leF, hm]]
      exact .again (k := 6 * vs.length + 4) (by simp) (.cons (.name (k := 6 * vs.length + 3) (look1 h01)) (.cons (.name (k := 6 * vs.length + 3) (look2 h02 h12)) .nil)) ih
theorem ev_nilB {own : List Str} {k n : Nat} {here : List (Key × D)} : EvB (fnR w0 w1 own base body) most (k + 2) here (makeB w0 []) n (rowD w0 w1 []) n := .make (by simp) .nil
theorem ev_double (hw : w0 ≠ w1) (h01 : o0 ≠ o1) : ∀ (vs : List Int) (n : Nat), n + vs.length < most → EvT (fnR w0 w1 [o0, o1] (makeB w0 []) (makeB w1 [nmB o0, makeB w1 [nmB o0, againB [nmB o1]]])) most (6 * vs.length + 5) [rowD w0 w1 vs] n (rowD w0 w1 (vs.flatMap fun v => [v, v])) (n + vs.length + 1)
  | [], n, h => ev_nil (k := 4) hw (nd2 h01) rfl (by simp) h ev_nilB
  | v :: vs, n, h => by
    rw [List.length_cons] at h
    have ih := ev_double hw h01 vs (n + 1) (by omega)
    rw [show 6 * (v :: vs).length + 5 = 6 * vs.length + 10 + 1 by rw [List.length_cons]; omega, show n + (v :: vs).length + 1 = n + 1 + vs.length + 1 by rw [List.length_cons]; omega]
    exact ev_cons (k := 6 * vs.length + 10) (v := v) (vs := vs) (others := []) hw (nd2 h01) rfl (by simp) (show n < most by omega) (EvB.make (k := 6 * vs.length + 8) (by simp) (.cons (.name (k := 6 * vs.length + 7) look0) (.cons (.make (k := 6 * vs.length + 6) (by simp) (.cons (.name (k := 6 * vs.length + 5) look0) (.cons (.again (k := 6 * vs.length + 4) (by simp) (.cons (.name (k := 6 * vs.length + 3) (look1 h01)) .nil) ih) .nil))) .nil)))
theorem ev_add {z : Int} (hw : w0 ≠ w1) (h01 : o0 ≠ o1) : ∀ (vs : List Int) (n : Nat), n + vs.length < most → EvT (fnR w0 w1 [o0, o1] (makeB w0 []) (makeB w1 [sumB (nmB o0) (numB z), againB [nmB o1]])) most (6 * vs.length + 5) [rowD w0 w1 vs] n (rowD w0 w1 (vs.map fun v => v + z)) (n + vs.length + 1)
  | [], n, h => ev_nil (k := 4) hw (nd2 h01) rfl (by simp) h ev_nilB
  | v :: vs, n, h => by
    rw [List.length_cons] at h
    have ih := ev_add (z := z) hw h01 vs (n + 1) (by omega)
    rw [show 6 * (v :: vs).length + 5 = 6 * vs.length + 10 + 1 by rw [List.length_cons]; omega, show n + (v :: vs).length + 1 = n + 1 + vs.length + 1 by rw [List.length_cons]; omega]
    have e1 : EvB (fnR w0 w1 [o0, o1] (makeB w0 []) (makeB w1 [sumB (nmB o0) (numB z), againB [nmB o1]])) most (6 * vs.length + 8) (hereD [o0, o1] (.int v :: rowD w0 w1 vs :: [])) (sumB (nmB o0) (numB z)) (n + 1) (.int (v + z)) (n + 1) := by
      have := EvB.sum (rows := fnR w0 w1 [o0, o1] (makeB w0 []) (makeB w1 [sumB (nmB o0) (numB z), againB [nmB o1]])) (most := most) (k := 6 * vs.length + 6) (here := hereD [o0, o1] (.int v :: rowD w0 w1 vs :: [])) (n := n + 1) (is := [v, z]) (by simp) (.cons (.name (k := 6 * vs.length + 5) look0) (.cons (.num (k := 6 * vs.length + 5)) .nil))
      rw [show ([v, z] : List Int).sum = v + z by simp] at this
      exact this
    exact ev_cons (k := 6 * vs.length + 10) (v := v) (vs := vs) (others := []) hw (nd2 h01) rfl (by simp) (show n < most by omega) (EvB.make (k := 6 * vs.length + 8) (by simp) (.cons e1 (.cons ((EvB.again (k := 6 * vs.length + 4) (by simp) (.cons (.name (k := 6 * vs.length + 3) (look1 h01)) .nil) ih).up (by omega)) .nil)))
theorem ev_behind (hw : w0 ≠ w1) (h01 : o0 ≠ o1) (h02 : o0 ≠ o2) (h12 : o1 ≠ o2) (us : List Int) : ∀ (vs : List Int) (n : Nat), n + vs.length < most → EvT (fnR w0 w1 [o0, o1, o2] (nmB o2) (makeB w1 [nmB o0, againB [nmB o1, nmB o2]])) most (6 * vs.length + 5) [rowD w0 w1 vs, rowD w0 w1 us] n (rowD w0 w1 (vs ++ us)) (n + vs.length + 1)
  | [], n, h => ev_nil (k := 4) hw (nd3 h01 h02 h12) rfl (by simp) h (.name (k := 3) look0)
  | v :: vs, n, h => by
    rw [List.length_cons] at h
    have ih := ev_behind hw h01 h02 h12 us vs (n + 1) (by omega)
    rw [show 6 * (v :: vs).length + 5 = 6 * vs.length + 10 + 1 by rw [List.length_cons]; omega, show n + (v :: vs).length + 1 = n + 1 + vs.length + 1 by rw [List.length_cons]; omega]
    exact ev_cons (k := 6 * vs.length + 10) (v := v) (vs := vs) (others := [rowD w0 w1 us]) hw (nd3 h01 h02 h12) rfl (by simp) (show n < most by omega) (EvB.make (k := 6 * vs.length + 8) (by simp) (.cons (.name (k := 6 * vs.length + 7) look0) (.cons ((EvB.again (k := 6 * vs.length + 4) (by simp) (.cons (.name (k := 6 * vs.length + 3) (look1 h01)) (.cons (.name (k := 6 * vs.length + 3) (look2 h02 h12)) .nil)) ih).up (by omega)) .nil)))
theorem ev_below {m : Int} (hw : w0 ≠ w1) (h01 : o0 ≠ o1) (h02 : o0 ≠ o2) (h12 : o1 ≠ o2) : ∀ (vs : List Int) (n : Nat), n + vs.length < most → EvT (fnR w0 w1 [o0, o1, o2] (makeB w0 []) (lessB (nmB o0) (nmB o2) (makeB w1 [nmB o0, againB [nmB o1, nmB o2]]) (againB [nmB o1, nmB o2]))) most (6 * vs.length + 5) [rowD w0 w1 vs, .int m] n (rowD w0 w1 (vs.filter fun v => decide (v < m))) (n + vs.length + 1)
  | [], n, h => ev_nil (k := 4) hw (nd3 h01 h02 h12) rfl (by simp) h ev_nilB
  | v :: vs, n, h => by
    rw [List.length_cons] at h
    have ih := ev_below (m := m) hw h01 h02 h12 vs (n + 1) (by omega)
    rw [show 6 * (v :: vs).length + 5 = 6 * vs.length + 10 + 1 by rw [List.length_cons]; omega, show n + (v :: vs).length + 1 = n + 1 + vs.length + 1 by rw [List.length_cons]; omega]
    refine ev_cons (k := 6 * vs.length + 10) (v := v) (vs := vs) (others := [.int m]) hw (nd3 h01 h02 h12) rfl (by simp) (show n < most by omega) (EvB.less (k := 6 * vs.length + 8) (i := v) (j := m) (.cons (.name (k := 6 * vs.length + 7) look0) (.cons (.name (k := 6 * vs.length + 7) (look2 h02 h12)) .nil)) ?_)
    have ag := EvB.again (k := 6 * vs.length + 4) (by simp) (.cons (.name (k := 6 * vs.length + 3) (look1 (d := .int v) (r := [(.inr o2, .int m)]) h01)) (.cons (.name (k := 6 * vs.length + 3) (look2 h02 h12)) .nil)) ih
    by_cases hm : v < m
    · rw [if_pos hm]
      rw [List.filter_cons_of_pos (by simpa using hm)]
      exact .up (k := 6 * vs.length + 8) (.make (k := 6 * vs.length + 6) (by simp) (.cons (.name (k := 6 * vs.length + 5) look0) (.cons ag .nil))) (by omega)
    · rw [if_neg hm]
      rw [List.filter_cons_of_neg (by simpa using hm)]
      exact ag.up (by omega)
theorem ev_both (hw : w0 ≠ w1) (h01 : o0 ≠ o1) : ∀ (vs : List Int) (n : Nat), n + vs.length < most → EvT (fnR w0 w1 [o0, o1] (makeB w2 [makeB w0 [], makeB w0 []]) (makeB w2 [nmB o1, makeB w1 [nmB o0, nmB o1]])) most (6 * vs.length + 5) [rowD w0 w1 vs] n (.tup [.str w2, rowD w0 w1 (vs.drop 1), rowD w0 w1 vs]) (n + 1)
  | [], n, h => ev_nil (k := 4) hw (nd2 h01) rfl (by simp) h (.make (k := 2) (by simp) (.cons ev_nilB (.cons ev_nilB .nil)))
  | v :: vs, n, h => by
    rw [List.length_cons] at h
    rw [show 6 * (v :: vs).length + 5 = 6 * vs.length + 10 + 1 by rw [List.length_cons]; omega]
    exact ev_cons (k := 6 * vs.length + 10) (v := v) (vs := vs) (others := []) hw (nd2 h01) rfl (by simp) (show n < most by omega) (EvB.make (k := 6 * vs.length + 8) (by simp) (.cons (.name (k := 6 * vs.length + 7) (look1 h01)) (.cons (.make (k := 6 * vs.length + 6) (by simp) (.cons (.name (k := 6 * vs.length + 5) look0) (.cons (.name (k := 6 * vs.length + 5) (look1 h01)) .nil))) .nil)))
end
end KB
namespace KB
open PySem L2 Dk
open PyProof.Rows (envOfC)
abbrev s__law_number : Stmt := top 29
theorem sc__law_number : FnScope ["_law_deck_here", "_law_way", "_law_near"] ["_law_deck_here"] (defScope s__law_number) := ⟨rfl, rfl, rfl, by decide +kernel, rfl, by decide +kernel, by decide +kernel⟩
theorem bd__law_number (kV doc pm : Value) (an : Option Addr) (cdv ct : Value) (us : List Value) (hl : us.length = 1) : bindArgs (PySem.W.fnOf "_law_number" "_law_number" (defArgs s__law_number) (defBody s__law_number) (defScope s__law_number) .none kV doc pm an cdv ct) ⟨us, []⟩ = pure ((["_law_deck_here"] : List Str).zip us) := by
  match us, hl with
  | [v0], _ => rfl
abbrev s__law_row_of : Stmt := top 30
theorem sc__law_row_of : FnScope ["_law_words", "_law_numbers", "_law_found", "_law_number_here"] ["_law_words", "_law_numbers"] (defScope s__law_row_of) := ⟨rfl, rfl, rfl, by decide +kernel, rfl, by decide +kernel, by decide +kernel⟩
theorem bd__law_row_of (kV doc pm : Value) (an : Option Addr) (cdv ct : Value) (us : List Value) (hl : us.length = 2) : bindArgs (PySem.W.fnOf "_law_row_of" "_law_row_of" (defArgs s__law_row_of) (defBody s__law_row_of) (defScope s__law_row_of) .none kV doc pm an cdv ct) ⟨us, []⟩ = pure ((["_law_words", "_law_numbers"] : List Str).zip us) := by
  match us, hl with
  | [v0, v1], _ => rfl
abbrev s__law_world : Stmt := top 31
theorem sc__law_world : FnScope ["_law_deck_here", "_law_names_here", "_law_words", "_law_own", "_law_kinds", "_law_world_here", "_law_name"] ["_law_deck_here"] (defScope s__law_world) := ⟨rfl, rfl, rfl, by decide +kernel, rfl, by decide +kernel, by decide +kernel⟩
theorem bd__law_world (kV doc pm : Value) (an : Option Addr) (cdv ct : Value) (us : List Value) (hl : us.length = 1) : bindArgs (PySem.W.fnOf "_law_world" "_law_world" (defArgs s__law_world) (defBody s__law_world) (defScope s__law_world) .none kV doc pm an cdv ct) ⟨us, []⟩ = pure ((["_law_deck_here"] : List Str).zip us) := by
  match us, hl with
  | [v0], _ => rfl
abbrev s__law_fun_of : Stmt := top 32
theorem sc__law_fun_of : FnScope ["_law_world_here", "_law_takes", "_law_gives", "_law_base", "_law_body", "_law_names_here"] ["_law_world_here", "_law_takes", "_law_gives", "_law_base", "_law_body"] (defScope s__law_fun_of) := ⟨rfl, rfl, rfl, by decide +kernel, rfl, by decide +kernel, by decide +kernel⟩
theorem bd__law_fun_of (kV doc pm : Value) (an : Option Addr) (cdv ct : Value) (us : List Value) (hl : us.length = 5) : bindArgs (PySem.W.fnOf "_law_fun_of" "_law_fun_of" (defArgs s__law_fun_of) (defBody s__law_fun_of) (defScope s__law_fun_of) .none kV doc pm an cdv ct) ⟨us, []⟩ = pure ((["_law_world_here", "_law_takes", "_law_gives", "_law_base", "_law_body"] : List Str).zip us) := by
  match us, hl with
  | [v0, v1, v2, v3, v4], _ => rfl
abbrev s__law_again : Stmt := top 33
theorem sc__law_again : FnScope ["_law_world_here", "_law_one"] ["_law_world_here", "_law_one"] (defScope s__law_again) := ⟨rfl, rfl, rfl, by decide +kernel, rfl, by decide +kernel, by decide +kernel⟩
theorem bd__law_again (kV doc pm : Value) (an : Option Addr) (cdv ct : Value) (us : List Value) (hl : us.length = 2) : bindArgs (PySem.W.fnOf "_law_again" "_law_again" (defArgs s__law_again) (defBody s__law_again) (defScope s__law_again) .none kV doc pm an cdv ct) ⟨us, []⟩ = pure ((["_law_world_here", "_law_one"] : List Str).zip us) := by
  match us, hl with
  | [v0, v1], _ => rfl
abbrev s__law_functions : Stmt := top 34
theorem sc__law_functions : FnScope ["_law_world_here", "_law_number_here", "_law_first", "_law_here", "_law_more", "_law_row", "_law_words", "_law_nil", "_law_put_more", "_law_alone", "_law_found", "_law_greater", "_law_lesser", "_law_doubled", "_law_behind", "_law_kept", "_law_both"] ["_law_world_here", "_law_number_here"] (defScope s__law_functions) := ⟨rfl, rfl, rfl, by decide +kernel, rfl, by decide +kernel, by decide +kernel⟩
theorem bd__law_functions (kV doc pm : Value) (an : Option Addr) (cdv ct : Value) (us : List Value) (hl : us.length = 2) : bindArgs (PySem.W.fnOf "_law_functions" "_law_functions" (defArgs s__law_functions) (defBody s__law_functions) (defScope s__law_functions) .none kV doc pm an cdv ct) ⟨us, []⟩ = pure ((["_law_world_here", "_law_number_here"] : List Str).zip us) := by
  match us, hl with
  | [v0, v1], _ => rfl
/-- a world's names -/
structure Wv where
  n0 : Str
  n1 : Str
  w0 : Str
  w1 : Str
  w2 : Str
  o0 : Str
  o1 : Str
  o2 : Str
structure Wv.Ok (V : Wv) : Prop where
  n : [V.n0, V.n1].Nodup
  w : [V.w0, V.w1, V.w2].Nodup
  o : [V.o0, V.o1, V.o2].Nodup
  on : ∀ x ∈ [V.n0, V.n1], nameOk x = true
  ow : ∀ x ∈ [V.w0, V.w1, V.w2], nameOk x = true
  oo : ∀ x ∈ [V.o0, V.o1, V.o2], nameOk x = true
def Wv.ks (V : Wv) : List Kind := [(V.n0, [(V.w0, []), (V.w1, [numS, V.n0])]), (V.n1, [(V.w2, [V.n0, V.n0])])]
def Wv.words (V : Wv) : D := .lst [.str V.w0, .str V.w1, .str V.w2]
def Wv.dic (V : Wv) : List (Key × D) := [(.inr "kinds", kindsD V.ks), (.inr "row", .str V.n0), (.inr "pair", .str V.n1), (.inr "words", V.words), (.inr "own", .lst [.str V.o0, .str V.o1, .str V.o2]), (.inr "first", nmB V.o0), (.inr "here", nmB V.o1), (.inr "more", nmB V.o2)]
theorem Wv.Ok.good {V : Wv} (h : V.Ok) : Good V.ks := by
  have hn := h.n
  have hw := h.w
  simp only [List.nodup_cons, List.mem_cons, List.not_mem_nil, or_false, not_or, not_false_iff, List.nodup_nil, and_true] at hn hw
  have hnn : V.n0 ≠ numS := (nameOk_split (h.on V.n0 (by simp))).2.2.1
  refine ⟨by simp [Wv.ks], ?_, ?_, ?_, ?_, ?_, ?_, ⟨fun x => if x = V.n0 then 0 else 1, fun x => if x = V.n0 then 1 else 3, ?_⟩, by simp [Wv.ks], ?_, ?_⟩
  · intro k hk; simp [Wv.ks] at hk; rcases hk with rfl | rfl <;> exact h.on _ (by simp)
  · intro k hk; simp [Wv.ks] at hk; rcases hk with rfl | rfl <;> simp
  · intro k hk b hb; simp [Wv.ks] at hk
    rcases hk with rfl | rfl <;> simp at hb
    · rcases hb with rfl | rfl <;> exact h.ow _ (by simp)
    · subst hb; exact h.ow _ (by simp)
  · simp [Wv.ks, kNames, hn]
  · simp [Wv.ks, bNames, hw]
  · intro k hk b hb f hf; simp [Wv.ks] at hk
    rcases hk with rfl | rfl <;> simp at hb
    · rcases hb with rfl | rfl <;> simp at hf
      rcases hf with rfl | rfl
      · exact .inl rfl
      · exact .inr (by simp [Wv.ks, kNames])
    · subst hb; simp at hf; subst hf; exact .inr (by simp [Wv.ks, kNames])
  · intro k hk; simp [Wv.ks] at hk
    rcases hk with rfl | rfl
    · refine ⟨by simp [Wv.ks], by simp, (V.w0, []), by simp, by simp, by simp [wsum]⟩
    · have hn' : ¬ V.n1 = V.n0 := fun e => hn e.symm
      refine ⟨by simp [Wv.ks, hn'], by simp [hn'], (V.w2, [V.n0, V.n0]), by simp, ?_, by simp [wsum, hnn, hn']⟩
      intro f hf; simp at hf; subst hf
      exact .inr ⟨by simp [Wv.ks, kNames], by simp [hn']⟩
  · intro k hk; simp [Wv.ks] at hk; rcases hk with rfl | rfl <;> simp
  · intro k hk b hb; simp [Wv.ks] at hk
    rcases hk with rfl | rfl <;> simp at hb
    · rcases hb with rfl | rfl <;> simp
    · subst hb; simp
def spNumber (a : Addr) : DSp where
  n := 1
  f := fun ds Q _ => ds = [.opq a] ∧ ∀ i : Int, 0 ≤ i → i ≤ 1000000 → Q (.int i)
  len := fun ds Q E ⟨e, _⟩ => by rw [e]; rfl
  mono := fun ds Q Q' E E' k _ ⟨e, q⟩ => ⟨e, fun i h0 h1 => k _ (q i h0 h1)⟩
def spRowOf : DSp where
  n := 2
  f := fun ds Q _ => ∃ (V : Wv) (is : List Int), ds = [V.words, .lst (is.map D.int)] ∧ is.length ≤ 100 ∧ Q (rowD V.w0 V.w1 is)
  len := fun ds Q E ⟨_, _, e, _⟩ => by rw [e]; rfl
  mono := fun ds Q Q' E E' k _ ⟨V, is, e, h, q⟩ => ⟨V, is, e, h, k _ q⟩
def spWorld (a : Addr) : DSp where
  n := 1
  f := fun ds Q _ => ds = [.opq a] ∧ ∀ V : Wv, V.Ok → Q (.dic V.dic)
  len := fun ds Q E ⟨e, _⟩ => by rw [e]; rfl
  mono := fun ds Q Q' E E' k _ ⟨e, q⟩ => ⟨e, fun V h => k _ (q V h)⟩
section
variable {P : Program} {w : World} {K : PySem.W.Frag} {C CU a l : Addr} {mg : Str → Option Value} {base : Heap} {W : Wd} {k : Nat} {f : Addr} {fd : FuncData}
theorem ok_number (T : TxtU K C CU mg) (Fn : Fun K "_law_number" "_law_number" s__law_number f fd) (C__law_draw : Cal P w K mg base CX0 (DeckW a l) k "_law_draw" ["_law_deck_here", "_law_most"] (spDraw a)) : GnOk P w K mg base CX0 (k + 1) f fd ["_law_deck_here"] (spD (DeckW a l) K (spNumber a)) := by
  refine Fn.okD sc__law_number rfl fun cdv A outer s H I ds Q Ed E hr h => ?_
  have hu := hr.units
  obtain ⟨rfl, q⟩ := h
  refine ⟨_, (dss_cons (ds_set 1 (de_fn C__law_draw (hr.mono (by omega)) pass0 lets0 (da_cons (de_name 0) (da_cons de_int da_nil))) sc__law_number.nd)
  (dss_cons (ds_set 2 (de_add de_int (de_fn C__law_draw (hr.mono (by omega)) pass0 lets0 (da_cons (de_name 0) (da_cons de_int da_nil)))) sc__law_number.nd)
  (dss_one (ds_ret (de_at hu (de_lst (da_cons (de_name 2) (da_cons (de_pow de_int de_int) (da_cons (de_fn C__law_draw (hr.mono (by omega)) pass0 lets0 (da_cons (de_name 0) (da_cons de_int da_nil))) (da_cons (de_fn C__law_draw (hr.mono (by omega)) pass0 lets0 (da_cons (de_name 0) (da_cons (de_add (de_pow de_int de_int) de_int) da_nil))) (da_cons de_int da_nil)))))) (de_name 1)))))), ?_⟩
  simp only [getD_0, getD_s, set_0, set_s, boolD_bl, intD_int, startD, List.map, List.length_cons, List.length_nil, List.replicate, List.cons_append, List.nil_append, defEnds, wipeD, if_true, if_false, Bool.not_true, Bool.not_false, Bool.false_eq_true]
  refine ⟨5, rfl, by decide, by decide, fun way h0 h5 => ?_⟩
  refine ⟨11, rfl, by decide, by decide, fun near hn0 hn1 => ?_⟩
  refine ⟨⟨by decide, by decide, by decide⟩, 3, rfl, by decide, by decide, fun c c0 c1 => ?_⟩
  refine ⟨⟨by decide, by decide, by decide⟩, 10 ^ 6 + 1, rfl, by decide, by decide, fun e e0 e1 => ?_⟩
  refine ⟨by decide, ?_⟩
  have hw : way = 0 ∨ way = 1 ∨ way = 2 ∨ way = 3 ∨ way = 4 := by omega
  rcases hw with rfl | rfl | rfl | rfl | rfl
  · exact ⟨_, atI_nat (j := 0) rfl, q _ (by omega) (by omega)⟩
  · exact ⟨_, atI_nat (j := 1) rfl, q _ (by decide) (by decide)⟩
  · exact ⟨_, atI_nat (j := 2) rfl, q _ (by omega) (by omega)⟩
  · exact ⟨_, atI_nat (j := 3) rfl, q _ e0 (by omega)⟩
  · exact ⟨_, atI_nat (j := 4) rfl, q _ (by decide) (by decide)⟩
theorem ok_row_of (T : TxtU K C CU mg) (Fn : Fun K "_law_row_of" "_law_row_of" s__law_row_of f fd) : GnOk P w K mg base CX0 (k + 1) f fd ["_law_words", "_law_numbers"] (spD W K spRowOf) := by
  refine Fn.okD sc__law_row_of rfl fun cdv A outer s H I ds Q Ed E hr h => ?_
  have hu := hr.units
  obtain ⟨V, is, rfl, hl, q⟩ := h
  refine ⟨_, (dss_cons (ds_set 2 (de_tup (da_cons (de_at hu (de_name 0) de_int) da_nil)) sc__law_row_of.nd)
  (dss_cons (ds_for PassesOwn.never rfl (di_seq (de_rev (de_name 1))) (dg_name 3 sc__law_row_of.nd)
  (dss_one (ds_set 2 (de_tup (da_cons (de_at hu (de_name 0) de_int) (da_cons (de_name 3) (da_cons (de_name 2) da_nil)))) sc__law_row_of.nd)))
  (dss_one (ds_ret (de_name 2))))), ?_⟩
  simp only [getD_0, getD_s, set_0, set_s, boolD_bl, intD_int, startD, List.map, List.length_cons, List.length_nil, List.replicate, List.cons_append, List.nil_append, defEnds, wipeD, if_true, if_false, Bool.not_true, Bool.not_false, Bool.false_eq_true]
  refine ⟨_, at0, by decide, ?_⟩
  refine forD_ind (fun ds ρ => ∃ (pre done : List Int) (u : Option Ent), is = pre ++ done ∧ ds = pre.reverse.map D.int ∧ ρ = [some (.dat V.words), some (.dat (.lst (is.map D.int))), some (.dat (rowD V.w0 V.w1 done)), u]) (fun ρ ⟨pre, done, u, e1, e2, e3⟩ => ?_) (fun d ds ρ R ⟨pre, done, u, e1, e2, e3⟩ hR => ?_) _ _ ⟨is, [], none, by simp, by simp, rfl⟩
  · subst e3
    have : pre = [] := by
      cases pre with
      | nil => rfl
      | cons a b => simp at e2
    subst this
    subst e1
    exact ⟨_, rfl, q⟩
  · subst e3
    rcases List.eq_nil_or_concat pre with rfl | ⟨p', v, rfl⟩
    · simp at e2
    rw [List.concat_eq_append, List.reverse_append, List.map_append] at e2
    obtain ⟨rfl, rfl⟩ := List.cons.inj e2
    refine ⟨_, rfl, _, atI_nat (j := 1) rfl, _, rfl, _, rfl, by decide, hR _ ⟨p', v :: done, _, ?_, rfl, rfl⟩⟩
    rw [e1]; simp
theorem ok_world (T : TxtU K C CU mg) (Fn : Fun K "_law_world" "_law_world" s__law_world f fd) (CO__law_names : CalO P w K mg base (DeckW a l) k "_law_names" ["_law_deck_here", "_law_many"] (spNames a)) : GnOk P w K mg base CX0 (k + 1) f fd ["_law_deck_here"] (spD (DeckW a l) K (spWorld a)) := by
  have C__law_names := CO__law_names.cal
  refine Fn.okD sc__law_world rfl fun cdv A outer s H I ds Q Ed E hr h => ?_
  have hu := hr.units
  obtain ⟨rfl, q⟩ := h
  refine ⟨_, (dss_cons (ds_parM3 (i := 1) (j := 2) (l := 3) rfl sc__law_world.nd rfl rfl rfl (by decide) (by decide) (by decide) rfl rfl rfl (dm_dat (de_fn C__law_names (hr.mono (by omega)) pass0 lets0 (da_cons (de_name 0) (da_cons de_int da_nil))) (dm_dat (de_fn C__law_names (hr.mono (by omega)) pass0 lets0 (da_cons (de_name 0) (da_cons de_int da_nil))) (dm_dat (de_fn C__law_names (hr.mono (by omega)) pass0 lets0 (da_cons (de_name 0) (da_cons de_int da_nil))) dm_nil))))
  (dss_cons (ds_set 4 (de_tup (da_cons (de_tup (da_cons (de_at hu (de_name 1) de_int) (da_cons (de_tup (da_cons (de_tup (da_cons (de_at hu (de_name 2) de_int) (da_cons (de_tup da_nil) da_nil))) (da_cons (de_tup (da_cons (de_at hu (de_name 2) de_int) (da_cons (de_tup (da_cons de_str (da_cons (de_at hu (de_name 1) de_int) da_nil))) da_nil))) da_nil))) da_nil))) da_nil)) sc__law_world.nd)
  (dss_cons (ds_set 4 (de_add (de_name 4) (de_tup (da_cons (de_tup (da_cons (de_at hu (de_name 1) de_int) (da_cons (de_tup (da_cons (de_tup (da_cons (de_at hu (de_name 2) de_int) (da_cons (de_tup (da_cons (de_at hu (de_name 1) de_int) (da_cons (de_at hu (de_name 1) de_int) da_nil))) da_nil))) da_nil)) da_nil))) da_nil))) sc__law_world.nd)
  (dss_cons (ds_disp 5 [] (unseen_by (N := ["_law_deck_here", "_law_names_here", "_law_words", "_law_own", "_law_kinds", "_law_world_here", "_law_name"]) (sc := defScope s__law_world) rfl rfl (by decide +kernel)) sc__law_world.nd (dps_val (de_name 4) (dps_val (de_at hu (de_name 1) de_int) (dps_val (de_at hu (de_name 1) de_int) (dps_val (de_name 2) (dps_val (de_name 3) dps_nil))))))
  (dss_cons (ds_put3 5 rfl hu (de_lc (own := [("_law_name", 6)]) rfl sc__law_world.nd (di_seq (de_name 3)) (blkOk_by (own := [("_law_name", 6)]) (N := ["_law_deck_here", "_law_names_here", "_law_words", "_law_own", "_law_kinds", "_law_world_here", "_law_name"]) (sc := defScope s__law_world) (by decide +kernel)) (fun _ _ _ _ _ => (dg_name 6 sc__law_world.nd)) (fun _ _ _ _ _ => dif_nil) (fun _ _ _ _ _ => (de_tup (da_cons de_str (da_cons (de_name 6) da_nil))))))
  (dss_freeze 5
  (dss_one (ds_ret (de_name 5))))))))), ?_⟩
  simp only [getD_0, getD_s, set_0, set_s, boolD_bl, intD_int, startD, List.map, List.length_cons, List.length_nil, List.replicate, List.cons_append, List.nil_append, defEnds, wipeD, if_true, if_false, Bool.not_true, Bool.not_false, Bool.false_eq_true]
  refine ⟨2, rfl, by decide, by decide, fun ns hns hnn hno => ?_⟩
  refine ⟨3, rfl, by decide, by decide, fun ws hws hwn hwo => ?_⟩
  refine ⟨3, rfl, by decide, by decide, fun os hos hon hoo => ?_⟩
  match ns, hns, hnn, hno, ws, hws, hwn, hwo, os, hos, hon, hoo with
  | [n0, n1], _, hnn, hno, [w0, w1, w2], _, hwn, hwo, [o0, o1, o2], _, hon, hoo =>
  have VO : Wv.Ok ⟨n0, n1, w0, w1, w2, o0, o1, o2⟩ := ⟨hnn, hwn, hon, hno, hwo, hoo⟩
  refine ⟨_, _, _, rfl, ?_⟩
  refine ⟨_, rfl, _, atI_nat (j := 0) rfl, _, rfl, _, atI_nat (j := 0) rfl, by decide, by decide, ?_⟩
  refine ⟨_, rfl, _, atI_nat (j := 1) rfl, _, rfl, _, atI_nat (j := 0) rfl, by decide, by decide, by decide, by decide, by decide, ?_⟩
  refine ⟨_, rfl, _, atI_nat (j := 1) rfl, _, rfl, _, atI_nat (j := 2) rfl, _, rfl, _, atI_nat (j := 0) rfl, _, rfl, _, atI_nat (j := 0) rfl, by decide, by decide, by decide, by decide, by decide, ?_⟩
  refine ⟨small_len (by show 2 ≤ 1000; decide), ?_⟩
  repeat refine ⟨_, rfl, ?_⟩
  refine ⟨by decide, by decide, fun bs hbs => ?_⟩
  obtain rfl : bs = [] := List.eq_nil_of_length_eq_zero hbs
  refine ⟨_, rfl, small_len (by show 3 ≤ 1000; decide), ?_⟩
  refine lcD_map (l := [o0, o1, o2]) D.str nmB (fun _ => true) (fun d hd R S hR _ => ?_) ?_
  · exact ⟨_, rfl, by decide, hR rfl⟩
  refine ⟨_, _, _, _, rfl, rfl, by show 5 ≤ 1000; decide, ?_⟩
  refine ⟨_, rfl, by simp [Ent.isOwn], _, rfl, ?_⟩
  exact q _ VO
end
end KB
namespace KB
open PySem L2 Dk
open PyProof.Rows (envOfC)
def Wv.own (V : Wv) (n : Nat) : List Str := if n = 0 then [V.o0, V.o1] else [V.o0, V.o1, V.o2]
def Wv.rows (V : Wv) (rest : List D) (base body : D) : List FRow := fnR V.w0 V.w1 (V.own rest.length) base body
def Wv.fn (V : Wv) (rest : List D) (gives base body : D) : D := funD (.str "f") V.n0 rest gives (V.rows rest base body)
/-- the functions: word, what more it takes, gives, bodies -/
def Wv.fnL (V : Wv) (z : Int) : List (Str × (List D × D × D × D)) := [
  ("sum", ([], .str numS, numB 0, sumB (nmB V.o0) (againB [nmB V.o1]))),
  ("greatest", ([.str numS], .str numS, nmB V.o2, lessB (nmB V.o2) (nmB V.o0) (againB [nmB V.o1, nmB V.o0]) (againB [nmB V.o1, nmB V.o2]))),
  ("least", ([.str numS], .str numS, nmB V.o2, lessB (nmB V.o0) (nmB V.o2) (againB [nmB V.o1, nmB V.o0]) (againB [nmB V.o1, nmB V.o2]))),
  ("doubled", ([], .str V.n0, makeB V.w0 [], makeB V.w1 [nmB V.o0, makeB V.w1 [nmB V.o0, againB [nmB V.o1]]])),
  ("added", ([], .str V.n0, makeB V.w0 [], makeB V.w1 [sumB (nmB V.o0) (numB z), againB [nmB V.o1]])),
  ("behind", ([.str V.n0], .str V.n0, nmB V.o2, makeB V.w1 [nmB V.o0, againB [nmB V.o1, nmB V.o2]])),
  ("below", ([.str numS], .str V.n0, makeB V.w0 [], lessB (nmB V.o0) (nmB V.o2) (makeB V.w1 [nmB V.o0, againB [nmB V.o1, nmB V.o2]]) (againB [nmB V.o1, nmB V.o2]))),
  ("both", ([], .str V.n1, makeB V.w2 [makeB V.w0 [], makeB V.w0 []], makeB V.w2 [nmB V.o1, makeB V.w1 [nmB V.o0, nmB V.o1]]))]
def Wv.fnP (V : Wv) (p : Str × (List D × D × D × D)) : D := V.fn p.2.1 p.2.2.1 p.2.2.2.1 p.2.2.2.2
def spFunOf : DSp where
  n := 5
  f := fun ds Q _ => ∃ (V : Wv) (rest : List D) (gives base body : D), ds = [.dic V.dic, .tup (.str V.n0 :: rest), gives, base, body] ∧ rest.length ≤ 1 ∧ Q (V.fn rest gives base body)
  len := fun ds Q E ⟨_, _, _, _, _, e, _⟩ => by rw [e]; rfl
  mono := fun ds Q Q' E E' k _ ⟨V, r, g, b, c, e, h, q⟩ => ⟨V, r, g, b, c, e, h, k _ q⟩
def spAgainF : DSp where
  n := 2
  f := fun ds Q _ => ∃ (V : Wv) (one : D), ds = [.dic V.dic, one] ∧ Q (againB [nmB V.o1, one])
  len := fun ds Q E ⟨_, _, e, _⟩ => by rw [e]; rfl
  mono := fun ds Q Q' E E' k _ ⟨V, r, e, q⟩ => ⟨V, r, e, k _ q⟩
def spFunctions : DSp where
  n := 2
  f := fun ds Q _ => ∃ (V : Wv) (z : Int), ds = [.dic V.dic, .int z] ∧ Q (.lst ((V.fnL z).map fun p => .tup [.str p.1, V.fnP p]))
  len := fun ds Q E ⟨_, _, e, _⟩ => by rw [e]; rfl
  mono := fun ds Q Q' E E' k _ ⟨V, r, e, q⟩ => ⟨V, r, e, k _ q⟩
theorem dic_ix {V : Wv} {x : Str} {d : D} {Q : D → Prop} (h : lookD V.dic (.inr x) = some d) (q : Q d) : ixD (.dic V.dic) (.str x) Q := ⟨.inr x, d, rfl, h, q⟩
section
variable {P : Program} {w : World} {K : PySem.W.Frag} {C CU a l : Addr} {mg : Str → Option Value} {base : Heap} {W : Wd} {k : Nat} {f : Addr} {fd : FuncData}
theorem ok_againF (T : TxtU K C CU mg) (Fn : Fun K "_law_again" "_law_again" s__law_again f fd) : GnOk P w K mg base CX0 (k + 1) f fd ["_law_world_here", "_law_one"] (spD W K spAgainF) := by
  refine Fn.okD sc__law_again rfl fun cdv A outer s H I ds Q Ed E hr h => ?_
  have hu := hr.units
  obtain ⟨V, one, rfl, q⟩ := h
  refine ⟨_, (dss_one (ds_ret (de_tup (da_cons de_str (da_cons (de_tup (da_cons (de_at hu (de_name 0) de_str) (da_cons (de_name 1) da_nil))) da_nil))))), ?_⟩
  simp only [getD_0, getD_s, set_0, set_s, boolD_bl, intD_int, startD, List.map, List.length_cons, List.length_nil, List.replicate, List.cons_append, List.nil_append, defEnds, wipeD, if_true, if_false, Bool.not_true, Bool.not_false, Bool.false_eq_true]
  exact ⟨.inr "here", _, rfl, rfl, by decide, by decide, q⟩
theorem ok_fun_of (T : TxtU K C CU mg) (Fn : Fun K "_law_fun_of" "_law_fun_of" s__law_fun_of f fd) : GnOk P w K mg base CX0 (k + 1) f fd ["_law_world_here", "_law_takes", "_law_gives", "_law_base", "_law_body"] (spD W K spFunOf) := by
  refine Fn.okD sc__law_fun_of rfl fun cdv A outer s H I ds Q Ed E hr h => ?_
  have hu := hr.units
  obtain ⟨V, rest, gives, base, body, rfl, hl, q⟩ := h
  refine ⟨_, (dss_cons (ds_set 5 (de_add (de_slice (de_at hu (de_name 0) de_str) do_none (do_some de_int)) (de_mul (de_slice (de_at hu (de_name 0) de_str) (do_some de_int) do_none) (de_intOf T.b_int (da_cons (de_c .gt (de_len T.b_len (da_cons (de_name 1) da_nil)) de_int) da_nil)))) sc__law_fun_of.nd)
  (dss_one (ds_ret (de_tup (da_cons de_str (da_cons (de_name 1) (da_cons (de_name 2) (da_cons (de_tup (da_cons (de_tup (da_cons (de_tuple T.b_tuple (da_cons (de_slice (de_name 5) (do_some de_int) do_none) da_nil)) (da_cons (de_name 3) da_nil))) (da_cons (de_tup (da_cons (de_tuple T.b_tuple (da_cons (de_name 5) da_nil)) (da_cons (de_name 4) da_nil))) da_nil))) da_nil)))))))), ?_⟩
  simp only [getD_0, getD_s, set_0, set_s, boolD_bl, intD_int, startD, List.map, List.length_cons, List.length_nil, List.replicate, List.cons_append, List.nil_append, defEnds, wipeD, if_true, if_false, Bool.not_true, Bool.not_false, Bool.false_eq_true]
  match rest, hl with
  | [], _ =>
    refine ⟨.inr "own", _, rfl, rfl, ?_⟩
    refine ⟨.inr "own", _, rfl, rfl, ?_⟩
    refine ⟨by show -(2 ^ 63) ≤ (0 : Int); decide, by show (0 : Int) < 2 ^ 63; decide, by show 1 * 0 ≤ sizeLine; decide, ?_⟩
    refine ⟨by show 2 + 0 ≤ sizeLine; decide, ?_⟩
    repeat refine ⟨_, rfl, ?_⟩
    refine ⟨by decide, by decide, by decide, by decide, q⟩
  | [x], _ =>
    refine ⟨.inr "own", _, rfl, rfl, ?_⟩
    refine ⟨.inr "own", _, rfl, rfl, ?_⟩
    refine ⟨by show -(2 ^ 63) ≤ (1 : Int); decide, by show (1 : Int) < 2 ^ 63; decide, by show 1 * 1 ≤ sizeLine; decide, ?_⟩
    refine ⟨by show 2 + 1 ≤ sizeLine; decide, ?_⟩
    repeat refine ⟨_, rfl, ?_⟩
    refine ⟨by decide, by decide, by decide, by decide, q⟩
theorem ok_functions (T : TxtU K C CU mg) (Fn : Fun K "_law_functions" "_law_functions" s__law_functions f fd) (C__law_fun_of : Cal P w K mg base CX0 W k "_law_fun_of" ["_law_world_here", "_law_takes", "_law_gives", "_law_base", "_law_body"] spFunOf) (C__law_again : Cal P w K mg base CX0 W k "_law_again" ["_law_world_here", "_law_one"] spAgainF) : GnOk P w K mg base CX0 (k + 1) f fd ["_law_world_here", "_law_number_here"] (spD W K spFunctions) := by
  refine Fn.okD sc__law_functions rfl fun cdv A outer s H I ds Q Ed E hr h => ?_
  have hu := hr.units
  obtain ⟨V, z, rfl, q⟩ := h
  refine ⟨_, (dss_cons (ds_parM3 (i := 2) (j := 3) (l := 4) rfl sc__law_functions.nd rfl rfl rfl (by decide) (by decide) (by decide) rfl rfl rfl (dm_dat (de_at hu (de_name 0) de_str) (dm_dat (de_at hu (de_name 0) de_str) (dm_dat (de_at hu (de_name 0) de_str) dm_nil))))
  (dss_cons (by first | exact (ds_par (i := 5) (j := 6) rfl sc__law_functions.nd rfl rfl (by decide) rfl rfl (da_cons (de_at hu (de_name 0) de_str) (da_cons (de_at hu (de_name 0) de_str) da_nil))) | exact (ds_asg (de_tup (da_cons (de_at hu (de_name 0) de_str) (da_cons (de_at hu (de_name 0) de_str) da_nil))) (dg_tup (n := 2) rfl (dgs_cons (dg_name 5 sc__law_functions.nd) (dgs_cons (dg_name 6 sc__law_functions.nd) dgs_nil)))))
  (dss_cons (by first | exact (ds_par (i := 7) (j := 8) rfl sc__law_functions.nd rfl rfl (by decide) rfl rfl (da_cons (de_tup (da_cons de_str (da_cons (de_at hu (de_name 6) de_int) (da_cons (de_tup da_nil) da_nil)))) (da_cons (de_tup (da_cons de_str (da_cons (de_name 2) (da_cons (de_tup (da_cons de_str (da_cons (de_name 1) da_nil))) da_nil)))) da_nil))) | exact (ds_asg (de_tup (da_cons (de_tup (da_cons de_str (da_cons (de_at hu (de_name 6) de_int) (da_cons (de_tup da_nil) da_nil)))) (da_cons (de_tup (da_cons de_str (da_cons (de_name 2) (da_cons (de_tup (da_cons de_str (da_cons (de_name 1) da_nil))) da_nil)))) da_nil))) (dg_tup (n := 2) rfl (dgs_cons (dg_name 7 sc__law_functions.nd) (dgs_cons (dg_name 8 sc__law_functions.nd) dgs_nil)))))
  (dss_cons (ds_set 9 (de_tup (da_cons de_str (da_cons (de_tup (da_cons (de_name 3) da_nil)) da_nil))) sc__law_functions.nd)
  (dss_cons (ds_own 10 (da_cons (de_tup (da_cons de_str (da_cons (de_fn C__law_fun_of (hr.mono (by omega)) pass0 lets0 (da_cons (de_name 0) (da_cons (de_tup (da_cons (de_name 5) da_nil)) (da_cons de_str (da_cons (de_tup (da_cons de_str (da_cons de_int da_nil))) (da_cons (de_tup (da_cons de_str (da_cons (de_name 2) (da_cons (de_name 9) da_nil)))) da_nil)))))) da_nil))) da_nil) sc__law_functions.nd)
  (dss_cons (ds_set 11 (de_tup (da_cons de_str (da_cons (de_name 4) (da_cons (de_name 2) (da_cons (de_fn C__law_again (hr.mono (by omega)) pass0 lets0 (da_cons (de_name 0) (da_cons (de_name 2) da_nil))) (da_cons (de_fn C__law_again (hr.mono (by omega)) pass0 lets0 (da_cons (de_name 0) (da_cons (de_name 4) da_nil))) da_nil)))))) sc__law_functions.nd)
  (dss_cons (ds_append 10 (de_tup (da_cons de_str (da_cons (de_fn C__law_fun_of (hr.mono (by omega)) pass0 lets0 (da_cons (de_name 0) (da_cons (de_tup (da_cons (de_name 5) (da_cons de_str da_nil))) (da_cons de_str (da_cons (de_name 4) (da_cons (de_name 11) da_nil)))))) da_nil))))
  (dss_cons (ds_set 12 (de_tup (da_cons de_str (da_cons (de_name 2) (da_cons (de_name 4) (da_cons (de_fn C__law_again (hr.mono (by omega)) pass0 lets0 (da_cons (de_name 0) (da_cons (de_name 2) da_nil))) (da_cons (de_fn C__law_again (hr.mono (by omega)) pass0 lets0 (da_cons (de_name 0) (da_cons (de_name 4) da_nil))) da_nil)))))) sc__law_functions.nd)
  (dss_cons (ds_append 10 (de_tup (da_cons de_str (da_cons (de_fn C__law_fun_of (hr.mono (by omega)) pass0 lets0 (da_cons (de_name 0) (da_cons (de_tup (da_cons (de_name 5) (da_cons de_str da_nil))) (da_cons de_str (da_cons (de_name 4) (da_cons (de_name 12) da_nil)))))) da_nil))))
  (dss_cons (ds_set 13 (de_tup (da_cons de_str (da_cons (de_at hu (de_name 6) de_int) (da_cons (de_tup (da_cons (de_name 2) (da_cons (de_tup (da_cons de_str (da_cons (de_at hu (de_name 6) de_int) (da_cons (de_tup (da_cons (de_name 2) (da_cons (de_name 9) da_nil))) da_nil)))) da_nil))) da_nil)))) sc__law_functions.nd)
  (dss_cons (ds_append 10 (de_tup (da_cons de_str (da_cons (de_fn C__law_fun_of (hr.mono (by omega)) pass0 lets0 (da_cons (de_name 0) (da_cons (de_tup (da_cons (de_name 5) da_nil)) (da_cons (de_name 5) (da_cons (de_name 7) (da_cons (de_name 13) da_nil)))))) da_nil))))
  (dss_cons (ds_append 10 (de_tup (da_cons de_str (da_cons (de_fn C__law_fun_of (hr.mono (by omega)) pass0 lets0 (da_cons (de_name 0) (da_cons (de_tup (da_cons (de_name 5) da_nil)) (da_cons (de_name 5) (da_cons (de_name 7) (da_cons (de_tup (da_cons de_str (da_cons (de_at hu (de_name 6) de_int) (da_cons (de_tup (da_cons (de_name 8) (da_cons (de_name 9) da_nil))) da_nil)))) da_nil)))))) da_nil))))
  (dss_cons (ds_set 14 (de_tup (da_cons de_str (da_cons (de_at hu (de_name 6) de_int) (da_cons (de_tup (da_cons (de_name 2) (da_cons (de_tup (da_cons de_str (da_cons (de_tup (da_cons (de_name 3) (da_cons (de_name 4) da_nil))) da_nil))) da_nil))) da_nil)))) sc__law_functions.nd)
  (dss_cons (ds_append 10 (de_tup (da_cons de_str (da_cons (de_fn C__law_fun_of (hr.mono (by omega)) pass0 lets0 (da_cons (de_name 0) (da_cons (de_tup (da_cons (de_name 5) (da_cons (de_name 5) da_nil))) (da_cons (de_name 5) (da_cons (de_name 4) (da_cons (de_name 14) da_nil)))))) da_nil))))
  (dss_cons (ds_set 15 (de_tup (da_cons de_str (da_cons (de_name 2) (da_cons (de_name 4) (da_cons (de_tup (da_cons de_str (da_cons (de_at hu (de_name 6) de_int) (da_cons (de_tup (da_cons (de_name 2) (da_cons (de_fn C__law_again (hr.mono (by omega)) pass0 lets0 (da_cons (de_name 0) (da_cons (de_name 4) da_nil))) da_nil))) da_nil)))) (da_cons (de_fn C__law_again (hr.mono (by omega)) pass0 lets0 (da_cons (de_name 0) (da_cons (de_name 4) da_nil))) da_nil)))))) sc__law_functions.nd)
  (dss_cons (ds_append 10 (de_tup (da_cons de_str (da_cons (de_fn C__law_fun_of (hr.mono (by omega)) pass0 lets0 (da_cons (de_name 0) (da_cons (de_tup (da_cons (de_name 5) (da_cons de_str da_nil))) (da_cons (de_name 5) (da_cons (de_name 7) (da_cons (de_name 15) da_nil)))))) da_nil))))
  (dss_freeze 10
  (dss_cons (ds_set 16 (de_tup (da_cons de_str (da_cons (de_at hu (de_at hu (de_name 0) de_str) de_int) (da_cons (de_tup (da_cons (de_name 3) (da_cons (de_tup (da_cons de_str (da_cons (de_at hu (de_name 6) de_int) (da_cons (de_tup (da_cons (de_name 2) (da_cons (de_name 3) da_nil))) da_nil)))) da_nil))) da_nil)))) sc__law_functions.nd)
  (dss_one (ds_ret (de_add (de_name 10) (de_lst (da_cons (de_tup (da_cons de_str (da_cons (de_fn C__law_fun_of (hr.mono (by omega)) pass0 lets0 (da_cons (de_name 0) (da_cons (de_tup (da_cons (de_name 5) da_nil)) (da_cons (de_at hu (de_name 0) de_str) (da_cons (de_tup (da_cons de_str (da_cons (de_at hu (de_name 6) de_int) (da_cons (de_tup (da_cons (de_name 7) (da_cons (de_name 7) da_nil))) da_nil)))) (da_cons (de_name 16) da_nil)))))) da_nil))) da_nil))))))))))))))))))))))), ?_⟩
  simp only [getD_0, getD_s, set_0, set_s, boolD_bl, intD_int, startD, List.map, List.length_cons, List.length_nil, List.replicate, List.cons_append, List.nil_append, defEnds, wipeD, if_true, if_false, Bool.not_true, Bool.not_false, Bool.false_eq_true]
  refine ⟨.inr "first", _, rfl, rfl, .inr "here", _, rfl, rfl, .inr "more", _, rfl, rfl, _, _, _, rfl, ?_⟩
  refine ⟨.inr "row", _, rfl, rfl, .inr "words", _, rfl, rfl, ?_⟩
  repeat first
    | refine ⟨by decide, ?_⟩
    | refine ⟨Nat.lt_of_lt_of_le (m := 100) (by simp only [List.length_cons, List.length_nil, List.length_append]; decide) (by decide), ?_⟩
    | refine ⟨small_len (by simp only [List.length_cons, List.length_nil, List.length_append]; decide), ?_⟩
    | refine ⟨_, rfl, ?_⟩
    | refine dic_ix rfl ?_
    | refine ⟨V, [], _, _, _, rfl, by simp, ?_⟩
    | refine ⟨V, [_], _, _, _, rfl, by simp, ?_⟩
    | refine ⟨V, _, rfl, ?_⟩
    | refine ⟨_, _, rfl, ?_⟩
  refine ⟨by simp [Ent.isOwn], ?_⟩
  repeat first
    | refine ⟨by decide, ?_⟩
    | refine ⟨_, rfl, ?_⟩
    | refine dic_ix rfl ?_
    | refine ⟨V, [], _, _, _, rfl, by simp, ?_⟩
  refine ⟨by show 7 + 1 ≤ sizeLine; decide, ?_⟩
  exact q
end
end KB
namespace KB
open PySem L2 Dk
/-- signs from the blank to ~ -/
def ascii (x : Str) : Bool := x.cps.all fun c => decide (32 ≤ c ∧ c < 127)
def keyOk : Key → Bool
  | .inl i => decide (i.natAbs.log2 < 1900)
  | .inr x => ascii x
def keyWt : Key → Nat
  | .inl i => i.natAbs.log2 + 12
  | .inr x => 10 * x.length + 2
mutual
def gd : D → Bool
  | .dic kvs => gdk kvs
  | .tup xs => gds xs
  | .lst xs => gds xs
  | .bl _ => true
  | .int _ => true
  | .str x => ascii x
  | .non => true
  | .obj _ _ => false
  | .opq _ => false
  | .ptp _ => false
  | .dfz _ => false
def gds : List D → Bool
  | [] => true
  | d :: ds => gd d && gds ds
def gdk : List (Key × D) → Bool
  | [] => true
  | (k, d) :: ds => keyOk k && (gd d && gdk ds)
end
mutual
def wtD : D → Nat
  | .dic kvs => wtk kvs + 12
  | .tup xs => wts xs + 13
  | .lst xs => wts xs + 13
  | .bl _ => 10
  | .int i => 40 * i.natAbs.log2 + 12
  | .str x => 10 * x.length + 12
  | .non => 10
  | .obj _ _ => 10
  | .opq _ => 10
  | .ptp _ => 10
  | .dfz _ => 10
def wts : List D → Nat
  | [] => 0
  | d :: ds => wtD d + 2 + wts ds
def wtk : List (Key × D) → Nat
  | [] => 0
  | (k, d) :: ds => keyWt k + 2 + wtD d + 2 + wtk ds
end
def dpD (d : D) : Nat := (pyF d).depth
theorem ascii_ok {x : Str} (h : ascii x = true) : PyData.strOk x = true := by
  unfold ascii at h
  unfold PyData.strOk
  rw [Array.all_eq_true] at h ⊢
  intro i hi
  have := h i hi
  rw [decide_eq_true_eq] at this ⊢
  omega
theorem gds_mem : ∀ {xs : List D}, gds xs = true ↔ ∀ x ∈ xs, gd x = true
  | [] => by simp [gds]
  | x :: xs => by simp [gds, gds_mem (xs := xs)]
theorem wts_app : ∀ xs ys : List D, wts (xs ++ ys) = wts xs + wts ys
  | [], ys => by simp [wts]
  | x :: xs, ys => by simp only [List.cons_append, wts, wts_app xs ys]; omega
theorem wts_mem : ∀ {xs : List D} {x : D}, x ∈ xs → wtD x + 2 ≤ wts xs
  | y :: ys, x, h => by
    rcases List.mem_cons.mp h with rfl | h
    · simp only [wts]; omega
    · have := wts_mem h
      simp only [wts]; omega
theorem wts_take_drop (n : Nat) (xs : List D) : wts (xs.take n) + wts (xs.drop n) = wts xs := by
  rw [← wts_app, List.take_append_drop]
theorem shown_join : ∀ ps : List PyData, (∀ p ∈ ps, PyData.strOk p.shown = true) → (Str.join ", " (PyData.shownAll ps)).length ≤ (ps.map fun p => p.shown.length + 2).sum ∧ PyData.strOk (Str.join ", " (PyData.shownAll ps)) = true := by
  intro ps h
  refine ⟨?_, ?_⟩
  · clear h
    induction ps with
    | nil => simp only [PyData.shownAll, List.map_nil, List.sum_nil]; exact Nat.le_refl _
    | cons p r ih =>
      cases r with
      | nil => simp only [PyData.shownAll, List.map_cons, List.map_nil, List.sum_cons, List.sum_nil]; show p.shown.length ≤ _; omega
      | cons q r =>
        simp only [PyData.shownAll, List.map_cons, List.sum_cons] at ih ⊢
        show (p.shown ++ ", " ++ Str.join ", " (q.shown :: PyData.shownAll r)).length ≤ _
        rw [len_app, len_app]
        have e2 : (", " : Str).length = 2 := rfl
        omega
  · rw [shownAll_eq]
    refine ok_join (ok_lit ", ") fun p hp => ?_
    obtain ⟨d, hd, rfl⟩ := List.mem_map.mp hp
    exact h d hd
theorem log_len {i : Int} (h : i.natAbs.log2 < 1900) : (PyData.int i).shown.length ≤ i.natAbs.log2 + 12 ∧ PyData.strOk (PyData.int i).shown = true := by
  have e : (PyData.int i).shown = Str.ofString (toString i) := by simp only [PyData.shown]
  rw [e]
  refine ⟨?_, ok_lit _⟩
  rw [PySem.ofString_length]
  have := PySem.int_text_length_le (a := i) (k := i.natAbs.log2 + 1) (by omega) (by omega)
  omega
mutual
theorem shown_any : ∀ d : D, gd d = true → wtD d ≤ 76000 → shF d = true ∧ shortP (pyF d) = true ∧ (pyF d).shown.length ≤ wtD d ∧ PyData.strOk (pyF d).shown = true
  | .non, _, _ => by simp only [pyF, shF, shortP, wtD, PyData.shown, true_and]; exact ⟨by decide, ok_lit _⟩
  | .bl b, _, _ => by cases b <;> (simp only [pyF, shF, shortP, wtD, PyData.shown, true_and]; exact ⟨by decide, ok_lit _⟩)
  | .int i, _, w => by
    simp only [wtD] at w
    have h : i.natAbs.log2 < 1900 := by omega
    simp only [pyF, shF, shortP, wtD, decide_eq_true_eq, true_and]
    exact ⟨by omega, Nat.le_trans (log_len h).1 (by omega), (log_len h).2⟩
  | .str x, h, w => by
    simp only [gd] at h
    simp only [wtD] at w
    have h2 := Sn.str (m := x.length) (Nat.le_refl _) (ascii_ok h)
    simp only [pyF, shF, shortP, wtD, decide_eq_true_eq, true_and]
    refine ⟨?_, Nat.le_trans h2.ln (by omega), h2.ok⟩
    have := h2.ln
    have e : (PyData.str x).shown = reprText x := by simp only [PyData.shown]
    rw [e] at this
    rw [sizeLine_eq]
    omega
  | .tup xs, h, w => by
    simp only [gd] at h
    simp only [wtD] at w
    obtain ⟨a, b, c, d⟩ := shown_anys xs h (by omega)
    obtain ⟨l, o⟩ := shown_join (pyFs xs) d
    simp only [pyF, shF, shortP, wtD, a, b, true_and]
    rw [PyData.shown_tuple]
    refine ⟨?_, ok_app (ok_app (ok_lit _) o) (ok_lit _)⟩
    rw [len_app, len_app]
    have e1 : ("(" : Str).length = 1 := rfl
    have h3 : (((if (pyFs xs).length == 1 then ",)" else ")" : String) : Str)).length ≤ 2 := by split <;> decide
    omega
  | .lst xs, h, w => by
    simp only [gd] at h
    simp only [wtD] at w
    obtain ⟨a, b, c, d⟩ := shown_anys xs h (by omega)
    obtain ⟨l, o⟩ := shown_join (pyFs xs) d
    simp only [pyF, shF, shortP, wtD, a, b, true_and]
    rw [PyData.shown_list]
    refine ⟨?_, ok_app (ok_app (ok_lit _) o) (ok_lit _)⟩
    rw [len_app, len_app]
    have e1 : ("[" : Str).length = 1 := rfl
    have e3 : ("]" : Str).length = 1 := rfl
    omega
  | .dic kvs, h, w => by
    simp only [gd] at h
    simp only [wtD] at w
    obtain ⟨a, b, c, d⟩ := shown_anyk kvs h (by omega)
    simp only [pyF, shF, shortP, wtD, a, b, true_and]
    rw [PyData.shown_dict]
    refine ⟨?_, ok_app (ok_app (ok_lit _) d) (ok_lit _)⟩
    rw [len_app, len_app]
    have e1 : ("{" : Str).length = 1 := rfl
    have e3 : ("}" : Str).length = 1 := rfl
    omega
  | .obj _ _, h, _ => by simp [gd] at h
  | .opq _, h, _ => by simp [gd] at h
  | .ptp _, h, _ => by simp [gd] at h
  | .dfz _, h, _ => by simp [gd] at h
theorem shown_anys : ∀ xs : List D, gds xs = true → wts xs ≤ 76000 → shFs xs = true ∧ shortPs (pyFs xs) = true ∧ ((pyFs xs).map fun p => p.shown.length + 2).sum ≤ wts xs ∧ ∀ p ∈ pyFs xs, PyData.strOk p.shown = true
  | [], _, _ => by simp [pyFs, shFs, shortPs, wts]
  | x :: xs, h, w => by
    simp only [gds, Bool.and_eq_true] at h
    simp only [wts] at w
    obtain ⟨a, b, c, d⟩ := shown_any x h.1 (by omega)
    obtain ⟨a', b', c', d'⟩ := shown_anys xs h.2 (by omega)
    simp only [pyFs, shFs, shortPs, wts, a, b, a', b', Bool.and_self, true_and, List.map_cons, List.sum_cons]
    refine ⟨by omega, fun p hp => ?_⟩
    rcases List.mem_cons.mp hp with rfl | hp
    · exact d
    · exact d' p hp
theorem shown_anyk : ∀ ks : List (Key × D), gdk ks = true → wtk ks ≤ 76000 → shFk ks = true ∧ shortPk (pyFk ks) = true ∧ (Str.join ", " (PyData.shownKv (pyFk ks))).length ≤ wtk ks ∧ PyData.strOk (Str.join ", " (PyData.shownKv (pyFk ks))) = true
  | [], _, _ => by simp only [pyFk, shFk, shortPk, wtk, PyData.shownKv, true_and]; exact ⟨Nat.le_refl _, ok_join (ok_lit _) fun p hp => by cases hp⟩
  | (k, x) :: ks, h, w => by
    simp only [gdk, Bool.and_eq_true] at h
    simp only [wtk] at w
    obtain ⟨a, b, c, d⟩ := shown_any x h.2.1 (by omega)
    obtain ⟨a', b', c', d'⟩ := shown_anyk ks h.2.2 (by omega)
    have key : shortP (toPy (keyD k)) = true ∧ (toPy (keyD k)).shown.length ≤ keyWt k ∧ PyData.strOk (toPy (keyD k)).shown = true := by
      cases k with
      | inl i =>
        have h1 := h.1
        simp only [keyOk, decide_eq_true_eq] at h1
        simp only [keyD, toPy, shortP, keyWt, decide_eq_true_eq]
        exact ⟨by omega, log_len h1⟩
      | inr y =>
        have h1 := h.1
        simp only [keyOk] at h1
        simp only [keyWt] at w
        have h2 := Sn.str (m := y.length) (Nat.le_refl _) (ascii_ok h1)
        simp only [keyD, toPy, shortP, keyWt, decide_eq_true_eq]
        refine ⟨?_, h2.ln, h2.ok⟩
        have := h2.ln
        have e : (PyData.str y).shown = reprText y := by simp only [PyData.shown]
        rw [e] at this
        rw [sizeLine_eq]
        omega
    have one : ((toPy (keyD k)).shown ++ ": " ++ (pyF x).shown).length ≤ keyWt k + 2 + wtD x ∧ PyData.strOk ((toPy (keyD k)).shown ++ ": " ++ (pyF x).shown) = true := by
      refine ⟨?_, ok_app (ok_app key.2.2 (ok_lit _)) d⟩
      rw [len_app, len_app]
      have e2 : (": " : Str).length = 2 := rfl
      have := key.2.1
      omega
    simp only [pyFk, shFk, shortPk, wtk, a, b, a', b', key.1, Bool.and_self, true_and, PyData.shownKv]
    cases ks with
    | nil =>
      simp only [pyFk, PyData.shownKv, wtk]
      exact ⟨Nat.le_trans one.1 (by omega), one.2⟩
    | cons p ks =>
      obtain ⟨k2, x2⟩ := p
      simp only [pyFk, PyData.shownKv] at c' d' ⊢
      have e : ∀ (a b : Str) (r : List Str), Str.join ", " (a :: b :: r) = a ++ ", " ++ Str.join ", " (b :: r) := fun _ _ _ => rfl
      rw [e]
      refine ⟨?_, ok_app (ok_app one.2 (ok_lit _)) d'⟩
      rw [len_app, len_app]
      have e2 : (", " : Str).length = 2 := rfl
      have := one.1
      omega
end
end KB
namespace KB
open PySem L2 Dk
mutual
/-- d is a worth of the kind f, of at most n rows one in another, its numbers at most cap -/
inductive WD (ks : List Kind) (cap : Int) : Nat → Str → D → Prop
  | num (n : Nat) (i : Int) : 0 ≤ i → i ≤ cap → WD ks cap n numS (.int i)
  | node (n : Nat) (k : Kind) (b : Bough) (ds : List D) : k ∈ ks → b ∈ k.2 → WDs ks cap n b.2 ds → WD ks cap (n + 1) k.1 (.tup (.str b.1 :: ds))
inductive WDs (ks : List Kind) (cap : Int) : Nat → List Str → List D → Prop
  | nil (n : Nat) : WDs ks cap n [] []
  | cons (n : Nat) (f : Str) (fs : List Str) (d : D) (ds : List D) : WD ks cap n f d → WDs ks cap n fs ds → WDs ks cap n (f :: fs) (d :: ds)
end
theorem WDs.len {ks : List Kind} {cap : Int} {n : Nat} {fs : List Str} {ds : List D} (h : WDs ks cap n fs ds) : ds.length = fs.length := by
  induction fs generalizing ds with
  | nil => cases h; rfl
  | cons g fs ih => cases h with | cons _ _ _ e es h1 h2 => simp [ih h2]
theorem WDs.all {ks : List Kind} {cap : Int} {n : Nat} {fs : List Str} {ds : List D} (h : WDs ks cap n fs ds) : ∀ d ∈ ds, ∃ f, WD ks cap n f d := by
  induction fs generalizing ds with
  | nil => cases h; intro d hd; cases hd
  | cons g fs ih =>
    cases h with
    | cons _ _ _ e es h1 h2 =>
      intro d hd
      rcases List.mem_cons.mp hd with rfl | hd
      · exact ⟨g, h1⟩
      · exact ih h2 d hd
mutual
theorem WD.cap {ks : List Kind} {c c' : Int} (l : c ≤ c') : ∀ {n : Nat} {f : Str} {d : D}, WD ks c n f d → WD ks c' n f d
  | _, _, _, .num n i h1 h2 => .num n i h1 (Int.le_trans h2 l)
  | _, _, _, .node n k b ds hk hb h => .node n k b ds hk hb (WDs.cap l h)
theorem WDs.cap {ks : List Kind} {c c' : Int} (l : c ≤ c') : ∀ {n : Nat} {f : List Str} {d : List D}, WDs ks c n f d → WDs ks c' n f d
  | _, _, _, .nil n => .nil n
  | _, _, _, .cons n f fs d ds h1 h2 => .cons n f fs d ds (WD.cap l h1) (WDs.cap l h2)
end
end KB
namespace KB
open PySem L2 Dk
theorem WD.inv {ks : List Kind} {c : Int} {n : Nat} {f : Str} {d : D} (h : WD ks c n f d) : (f = numS ∧ ∃ i, d = .int i ∧ 0 ≤ i ∧ i ≤ c) ∨ ∃ m k b ds, n = m + 1 ∧ f = k.1 ∧ k ∈ ks ∧ b ∈ k.2 ∧ d = .tup (.str b.1 :: ds) ∧ WDs ks c m b.2 ds := by
  cases h with
  | num n i h1 h2 => exact .inl ⟨rfl, i, rfl, h1, h2⟩
  | node n k b ds hk hb h => exact .inr ⟨n, k, b, ds, rfl, rfl, hk, hb, rfl, h⟩
end KB
namespace KB
open PySem L2 Dk
theorem dp_tup {xs : List D} : dpD (.tup xs) = PyData.depthAll (pyFs xs) + 1 := by
  unfold dpD
  rw [pyF, PyData.depth]
  try omega
end KB
namespace KB
open PySem L2 Dk
/-- a thing of at most n levels, of at most this weight -/
structure Tg (n m : Nat) (d : D) : Prop where
  g : gd d = true
  dp : dpD d ≤ n
  wt : wtD d ≤ m
theorem Tg.mono {n m n' m' : Nat} {d : D} (h : Tg n m d) (a : n ≤ n') (b : m ≤ m') : Tg n' m' d := ⟨h.g, Nat.le_trans h.dp a, Nat.le_trans h.wt b⟩
theorem depth_all : ∀ {xs : List D} {n : Nat}, (∀ x ∈ xs, dpD x ≤ n) → PyData.depthAll (pyFs xs) ≤ n
  | [], n, _ => by simp [pyFs, PyData.depthAll]
  | x :: xs, n, h => by
    simp only [pyFs, PyData.depthAll]
    exact Nat.max_le.mpr ⟨h x (by simp), depth_all fun y hy => h y (List.mem_cons_of_mem _ hy)⟩
theorem dp_lst {xs : List D} : dpD (.lst xs) = PyData.depthAll (pyFs xs) + 1 := by
  unfold dpD
  rw [pyF, PyData.depth]
  try omega
structure Tgs (n m : Nat) (xs : List D) : Prop where
  g : ∀ x ∈ xs, gd x = true
  dp : ∀ x ∈ xs, dpD x ≤ n
  wt : wts xs ≤ m
theorem Tgs.tup {n m : Nat} {xs : List D} (h : Tgs n m xs) : Tg (n + 1) (m + 13) (.tup xs) := ⟨by rw [gd]; exact gds_mem.mpr h.g, by rw [dp_tup]; have := depth_all h.dp; omega, by rw [wtD]; have := h.wt; omega⟩
theorem Tgs.lst {n m : Nat} {xs : List D} (h : Tgs n m xs) : Tg (n + 1) (m + 13) (.lst xs) := ⟨by rw [gd]; exact gds_mem.mpr h.g, by rw [dp_lst]; have := depth_all h.dp; omega, by rw [wtD]; have := h.wt; omega⟩
theorem Tgs.nil {n m : Nat} : Tgs n m [] := ⟨by simp, by simp, by simp [wts]⟩
theorem Tgs.cons {n m m' : Nat} {x : D} {xs : List D} (h : Tg n m x) (h' : Tgs n m' xs) : Tgs n (m + 2 + m') (x :: xs) := by
  refine ⟨fun y hy => ?_, fun y hy => ?_, by rw [wts]; have := h.wt; have := h'.wt; omega⟩
  · rcases List.mem_cons.mp hy with rfl | hy
    · exact h.g
    · exact h'.g y hy
  · rcases List.mem_cons.mp hy with rfl | hy
    · exact h.dp
    · exact h'.dp y hy
theorem Tgs.mono {n m n' m' : Nat} {d : List D} (h : Tgs n m d) (a : n ≤ n') (b : m ≤ m') : Tgs n' m' d := ⟨h.g, fun x hx => Nat.le_trans (h.dp x hx) a, Nat.le_trans h.wt b⟩
theorem Tgs.get {n m : Nat} {xs : List D} (h : Tgs n m xs) {x : D} (hx : x ∈ xs) : Tg n m x := ⟨h.g x hx, h.dp x hx, by have := wts_mem hx; have := h.wt; omega⟩
theorem wts_cut {xs : List D} {lo hi : Option Int} : wts (cutD xs lo hi) ≤ wts xs := by
  unfold cutD
  have h1 := wts_take_drop (HT.sIx xs.length 0 lo) xs
  have h2 := wts_take_drop (HT.sIx xs.length xs.length hi - HT.sIx xs.length 0 lo) (xs.drop (HT.sIx xs.length 0 lo))
  omega
theorem cut_mem {xs : List D} {lo hi : Option Int} {x : D} (h : x ∈ cutD xs lo hi) : x ∈ xs := List.mem_of_mem_drop (List.mem_of_mem_take h)
theorem Tgs.cut {n m : Nat} {xs : List D} (h : Tgs n m xs) (lo hi : Option Int) : Tgs n m (cutD xs lo hi) := ⟨fun x hx => h.g x (cut_mem hx), fun x hx => h.dp x (cut_mem hx), Nat.le_trans wts_cut h.wt⟩
theorem sIx_nat {n d i : Nat} (h : i ≤ n) : HT.sIx n d (some (i : Int)) = i := by
  unfold HT.sIx
  first
    | (simp; omega)
    | (simp only; rw [if_neg (by omega)]; simp; omega)
    | (have : ¬ ((i : Int) < 0) := by omega
       simp [this]; omega)
/-- signs -/
theorem ascii_mem {x : Str} : ascii x = true ↔ ∀ c ∈ x.cps.toList, 32 ≤ c ∧ c < 127 := by
  unfold ascii
  rw [← Array.all_toList, List.all_eq_true]
  simp only [decide_eq_true_eq]
theorem Tg.str {n m : Nat} {x : Str} (h : ascii x = true) (l : 10 * x.length + 12 ≤ m) : Tg n m (.str x) := ⟨by rw [gd]; exact h, by simp [dpD, pyF, PyData.depth], by rw [wtD]; exact l⟩
theorem Tg.int {n m : Nat} {i : Int} (l : 40 * i.natAbs.log2 + 12 ≤ m) : Tg n m (.int i) := ⟨by rw [gd], by simp [dpD, pyF, PyData.depth], by rw [wtD]; exact l⟩
theorem Tg.bl {n m : Nat} {b : Bool} (l : 10 ≤ m) : Tg n m (.bl b) := ⟨by simp [gd], by simp [dpD, pyF, PyData.depth], by rw [wtD]; exact l⟩
theorem Tg.non {n m : Nat} (l : 10 ≤ m) : Tg n m .non := ⟨by simp [gd], by simp [dpD, pyF, PyData.depth], by rw [wtD]; exact l⟩
theorem forall_cons {α : Type} {a : α} {l : List α} {P : α → Prop} (h : P a) (h' : ∀ x ∈ l, P x) : ∀ x ∈ a :: l, P x := fun x hx => by
  rcases List.mem_cons.mp hx with rfl | hx
  · exact h
  · exact h' x hx
theorem gd_str {x : Str} (h : gd (.str x) = true) : ascii x = true := by rwa [gd] at h
end KB
namespace KB
open PySem L2 Dk
mutual
/-- a part of the field f, of size s -/
inductive Wor (ks : List Kind) : Nat → Str → D → Prop
  | num (i : Nat) : Wor ks i numS (.int i)
  | node {n : Nat} {k : Kind} {b : Bough} {ds : List D} : k ∈ ks → b ∈ k.2 → Wors ks n b.2 ds → Wor ks (n + 1) k.1 (.tup (.str b.1 :: ds))
inductive Wors (ks : List Kind) : Nat → List Str → List D → Prop
  | nil : Wors ks 0 [] []
  | cons {m n : Nat} {f : Str} {fs : List Str} {d : D} {ds : List D} : Wor ks m f d → Wors ks n fs ds → Wors ks (m + n) (f :: fs) (d :: ds)
end
theorem Wors.len {ks : List Kind} : ∀ {fs : List Str} {ds : List D} {s : Nat}, Wors ks s fs ds → ds.length = fs.length
  | [], _, _, h => by cases h; rfl
  | g :: fs, _, _, h => by cases h with | cons h1 h2 => simp [Wors.len h2]
theorem Wor.inv {ks : List Kind} {s : Nat} {f : Str} {d : D} (h : Wor ks s f d) : (f = numS ∧ d = .int (s : Nat)) ∨ ∃ n k b ds, s = n + 1 ∧ f = k.1 ∧ k ∈ ks ∧ b ∈ k.2 ∧ d = .tup (.str b.1 :: ds) ∧ Wors ks n b.2 ds := by
  cases h with
  | num i => exact .inl ⟨rfl, rfl⟩
  | node hk hb h => exact .inr ⟨_, _, _, _, rfl, rfl, hk, hb, rfl, h⟩
theorem tg_nm {x : Str} (h : nameOk x = true) : gd (.str x) = true ∧ wtD (.str x) ≤ 92 := by
  obtain ⟨_, l, _, c⟩ := nameOk_split h
  refine ⟨?_, by rw [wtD]; omega⟩
  rw [gd]
  exact ascii_mem.mpr fun d hd => by have := c d hd; omega
mutual
theorem Wor.big {ks : List Kind} (g : Good ks) : ∀ {s : Nat} {f : Str} {d : D}, Wor ks s f d → gd d = true ∧ dpD d ≤ s ∧ wtD d + 2 ≤ 240 * s + 14
  | _, _, _, .num i => by
    refine ⟨by simp [gd], by simp [dpD, pyF, PyData.depth], ?_⟩
    rw [wtD]
    have : (Int.natAbs (i : Int)).log2 ≤ i := by
      rw [Int.natAbs_natCast]
      exact Nat.log2_le_self i
    omega
  | _, _, _, .node (n := n) (k := k) (b := b) (ds := ds) hk hb h => by
    obtain ⟨h1, h2, h3⟩ := Wors.big g h
    have hn := nameOk_split (g.bn k hk b hb)
    have h8 := g.s3 k hk b hb
    have hl := h.len
    have tn := tg_nm (g.bn k hk b hb)
    refine ⟨?_, ?_, ?_⟩
    · rw [gd, gds_mem]
      exact forall_cons tn.1 h1
    · rw [dp_tup]
      have := depth_all (n := n) (forall_cons (a := D.str b.1) (by simp [dpD, pyF, PyData.depth]) h2)
      omega
    · rw [wtD, wts]
      have := tn.2
      omega
theorem Wors.big {ks : List Kind} (g : Good ks) : ∀ {s : Nat} {fs : List Str} {ds : List D}, Wors ks s fs ds → (∀ d ∈ ds, gd d = true) ∧ (∀ d ∈ ds, dpD d ≤ s) ∧ wts ds ≤ 240 * s + 14 * ds.length
  | _, _, _, .nil => by simp [wts]
  | _, _, _, .cons (m := m) (n := n) h1 h2 => by
    obtain ⟨a1, a2, a3⟩ := Wor.big g h1
    obtain ⟨b1, b2, b3⟩ := Wors.big g h2
    refine ⟨forall_cons a1 b1, forall_cons (by omega) fun d hd => by have := b2 d hd; omega, ?_⟩
    rw [wts, List.length_cons]
    omega
end
end KB
namespace KB
open PySem L2 Dk
def letB (c : Nat) : Bool := decide (97 ≤ c) && decide (c ≤ 122)
def figB (c : Nat) : Bool := decide (48 ≤ c) && decide (c ≤ 57)
mutual
def txD : D → List Nat
  | .int i => tl (Str.ofString (toString i))
  | .tup ds => txT ds
  | .non => []
  | .bl _ => []
  | .str _ => []
  | .lst _ => []
  | .dic _ => []
  | .dfz _ => []
  | .obj _ _ => []
  | .opq _ => []
  | .ptp _ => []
def txT : List D → List Nat
  | .str b :: ds => tl b ++ (if ds = [] then [] else 40 :: (TL.joinL [44, 32] (txDs ds) ++ [41]))
  | _ => []
def txDs : List D → List (List Nat)
  | [] => []
  | d :: ds => txD d :: txDs ds
end
mutual
/-- a part of the field f, of s boughs, its numbers at most c -/
inductive WP (ks : List Kind) (c : Nat) : Nat → Str → D → Prop
  | num (i : Nat) : i ≤ c → WP ks c 0 numS (.int i)
  | node {n : Nat} {k : Kind} {b : Bough} {ds : List D} : k ∈ ks → b ∈ k.2 → WPs ks c n b.2 ds → WP ks c (n + 1) k.1 (.tup (.str b.1 :: ds))
inductive WPs (ks : List Kind) (c : Nat) : Nat → List Str → List D → Prop
  | nil : WPs ks c 0 [] []
  | cons {m n : Nat} {f : Str} {fs : List Str} {d : D} {ds : List D} : WP ks c m f d → WPs ks c n fs ds → WPs ks c (m + n) (f :: fs) (d :: ds)
end
theorem WP.inv {ks : List Kind} {c s : Nat} {f : Str} {d : D} (h : WP ks c s f d) : (∃ i : Nat, s = 0 ∧ f = numS ∧ d = .int i ∧ i ≤ c) ∨ ∃ n k b ds, s = n + 1 ∧ f = k.1 ∧ k ∈ ks ∧ b ∈ k.2 ∧ d = .tup (.str b.1 :: ds) ∧ WPs ks c n b.2 ds := by
  cases h with
  | num i hi => exact .inl ⟨i, rfl, rfl, rfl, hi⟩
  | node hk hb h => exact .inr ⟨_, _, _, _, rfl, rfl, hk, hb, rfl, h⟩
theorem WPs.len {ks : List Kind} {c : Nat} : ∀ {fs : List Str} {ds : List D} {s : Nat}, WPs ks c s fs ds → ds.length = fs.length
  | [], _, _, h => by cases h; rfl
  | g :: fs, _, _, h => by cases h with | cons h1 h2 => simp [WPs.len h2]
end KB
namespace KB
open PySem L2 Dk
def stop (r : List Nat) : Prop := ∀ c ∈ r.head?, letB c = false ∧ figB c = false
end KB
namespace KB
open PySem L2 Dk
/-- may be shown, in so many signs -/
structure Shn (L n : Nat) (d : D) : Prop where
  s : shF d = true
  q : shortP (pyF d) = true
  l : (pyF d).shown.length ≤ L
  o : PyData.strOk (pyF d).shown = true
  p : dpD d ≤ n
theorem Shn.rep {L p : Nat} {d : D} {Q : D → Prop} (h : Shn L p d) (hL : L ≤ 1000000) (hp : p ≤ 62) (q : Q (.str (pyF d).shown)) : reprF [d] Q := ⟨h.s, h.q, Nat.le_trans h.p hp, Nat.le_trans h.l (Nat.le_trans hL (by decide)), q⟩
theorem Shn.any {d : D} (h : gd d = true) (w : wtD d ≤ 76000) : Shn (wtD d) (dpD d) d :=
  let ⟨a, b, c, e⟩ := shown_any d h w
  ⟨a, b, c, e, Nat.le_refl _⟩
theorem Shn.str {x : Str} {m : Nat} (h : ascii x = true) (hl : x.length ≤ m) (hm : m ≤ 100000) : Shn (10 * m + 12) 0 (.str x) := by
  have h2 := Sn.str (m := x.length) (Nat.le_refl _) (ascii_ok h)
  have e : (PyData.str x).shown = reprText x := by simp only [PyData.shown]
  have h3 := h2.ln
  refine ⟨by simp only [shF], ?_, ?_, ?_, by simp [dpD, pyF, PyData.depth]⟩
  · simp only [pyF, shortP, decide_eq_true_eq]
    rw [e] at h3
    rw [sizeLine_eq]
    omega
  · simp only [pyF]
    omega
  · simp only [pyF]
    exact h2.ok
theorem Shn.num {i : Nat} (h : i ≤ 1000000) : Shn 40 0 (.int i) := by
  have hl : (Int.natAbs (i : Int)).log2 < 20 := by
    by_cases z : i = 0
    · subst z; decide
    · rw [Int.natAbs_natCast]
      exact (Nat.log2_lt z).mpr (by omega)
  have h2 := log_len (i := (i : Int)) (by omega)
  refine ⟨by simp only [shF], ?_, ?_, ?_, by simp [dpD, pyF, PyData.depth]⟩
  · simp only [pyF, shortP, decide_eq_true_eq]
    omega
  · simp only [pyF]
    have := h2.1
    omega
  · simp only [pyF]
    exact h2.2
theorem shs {L p : Nat} : ∀ {xs : List D}, (∀ x ∈ xs, Shn L p x) → shFs xs = true ∧ shortPs (pyFs xs) = true ∧ ((pyFs xs).map fun p => p.shown.length + 2).sum ≤ xs.length * (L + 2) ∧ ∀ p ∈ pyFs xs, PyData.strOk p.shown = true
  | [], _ => by simp [pyFs, shFs, shortPs]
  | x :: xs, h => by
    have a := h x (by simp)
    obtain ⟨b1, b2, b3, b4⟩ := shs (xs := xs) fun y hy => h y (List.mem_cons_of_mem _ hy)
    simp only [pyFs, shFs, shortPs, a.s, a.q, b1, b2, Bool.and_self, true_and, List.map_cons, List.sum_cons, List.length_cons, Nat.succ_mul]
    have := a.l
    exact ⟨by omega, forall_cons a.o b4⟩
theorem Shn.lst {L p : Nat} {xs : List D} (h : ∀ x ∈ xs, Shn L p x) : Shn (xs.length * (L + 2) + 2) (p + 1) (.lst xs) := by
  obtain ⟨a, b, c, d⟩ := shs h
  obtain ⟨l, o⟩ := shown_join (pyFs xs) d
  refine ⟨by simp only [shF, a], by simp only [pyF, shortP, b], ?_, ?_, ?_⟩
  · simp only [pyF]
    rw [PyData.shown_list, len_app, len_app]
    have e1 : ("[" : Str).length = 1 := rfl
    have e3 : ("]" : Str).length = 1 := rfl
    omega
  · simp only [pyF]
    rw [PyData.shown_list]
    exact ok_app (ok_app (ok_lit _) o) (ok_lit _)
  · rw [dp_lst]
    have := depth_all fun x hx => (h x hx).p
    omega
mutual
theorem WP.sh {ks : List Kind} {c : Nat} (g : Good ks) (hc : c ≤ 1000000) : ∀ {s : Nat} {f : Str} {d : D}, WP ks c s f d → Shn (500 * s + 40) s d
  | _, _, _, .num i hi => Shn.num (by omega)
  | _, _, _, .node (n := n) (k := k) (b := b) (ds := ds) hk hb h => by
    obtain ⟨a1, a2, a3, a4, a5⟩ := WPs.sh g hc h
    have hl := h.len
    have h8 := g.s3 k hk b hb
    have hn := nameOk_split (g.bn k hk b hb)
    have tn := Shn.str (m := 8) (gd_str (tg_nm (g.bn k hk b hb)).1) hn.2.1 (by decide)
    have o : ∀ p ∈ pyFs (.str b.1 :: ds), PyData.strOk p.shown = true := by
      rw [pyFs]
      exact forall_cons tn.o a4
    obtain ⟨l, oj⟩ := shown_join (pyFs (.str b.1 :: ds)) o
    have e3 : ((pyFs (.str b.1 :: ds)).map fun p => p.shown.length + 2).sum ≤ 94 + (500 * n + 42 * ds.length) := by
      rw [pyFs, List.map_cons, List.sum_cons]
      have := tn.l
      omega
    refine ⟨by rw [shF, shFs, tn.s, a1]; rfl, ?_, ?_, ?_, ?_⟩
    · rw [pyF, shortP, pyFs, shortPs, tn.q, a2]; rfl
    · rw [pyF, PyData.shown_tuple, len_app, len_app]
      have e1 : ("(" : Str).length = 1 := rfl
      have e4 : (((if (pyFs (.str b.1 :: ds)).length == 1 then ",)" else ")" : String) : Str)).length ≤ 2 := by split <;> decide
      omega
    · rw [pyF, PyData.shown_tuple]
      exact ok_app (ok_app (ok_lit _) oj) (ok_lit _)
    · rw [dp_tup]
      have := depth_all (n := n) (forall_cons (a := D.str b.1) (by simp [dpD, pyF, PyData.depth]) a5)
      omega
theorem WPs.sh {ks : List Kind} {c : Nat} (g : Good ks) (hc : c ≤ 1000000) : ∀ {s : Nat} {fs : List Str} {ds : List D}, WPs ks c s fs ds → shFs ds = true ∧ shortPs (pyFs ds) = true ∧ ((pyFs ds).map fun p => p.shown.length + 2).sum ≤ 500 * s + 42 * ds.length ∧ (∀ p ∈ pyFs ds, PyData.strOk p.shown = true) ∧ ∀ d ∈ ds, dpD d ≤ s
  | _, _, _, .nil => by simp [pyFs, shFs, shortPs]
  | _, _, _, .cons h1 h2 => by
    have a := WP.sh g hc h1
    obtain ⟨b1, b2, b3, b4, b5⟩ := WPs.sh g hc h2
    have al := a.l
    have ap := a.p
    refine ⟨by rw [shFs, a.s, b1]; rfl, by rw [pyFs, shortPs, a.q, b2]; rfl, ?_, ?_, forall_cons (by omega) fun d hd => by have := b5 d hd; omega⟩
    · rw [pyFs, List.map_cons, List.sum_cons, List.length_cons]
      omega
    · rw [pyFs]
      exact forall_cons a.o b4
end
structure TI (ks : List Kind) (m : Nat) (kvs : List (Key × D)) : Prop where
  len : kvs.length ≤ m
  ok : ∀ kv ∈ kvs, ∃ s k d n, k ∈ ks ∧ WP ks 1000000 s k.1 d ∧ s ≤ 40 ∧ n ≤ m ∧ kv.1 = .inr (txt (txD d)) ∧ kv.2 = .lst (List.replicate n d)
theorem TI.nil {ks : List Kind} : TI ks 0 [] := ⟨by simp, by simp⟩
theorem TI.mono {ks : List Kind} {m m' : Nat} {kvs : List (Key × D)} (h : TI ks m kvs) (l : m ≤ m') : TI ks m' kvs := ⟨Nat.le_trans h.len l, fun kv hk => let ⟨s, k, d, n, a, b, c, e, f⟩ := h.ok kv hk; ⟨s, k, d, n, a, b, c, by omega, f⟩⟩
theorem TI.get {ks : List Kind} {m : Nat} {kvs : List (Key × D)} (h : TI ks m kvs) {kv : Key × D} (hm : kv ∈ kvs) : ∃ s k d n, lookD kvs kv.1 = some (.lst (List.replicate n d)) ∧ k ∈ ks ∧ WP ks 1000000 s k.1 d ∧ s ≤ 40 ∧ n ≤ m := by
  unfold lookD
  cases e : kvs.find? fun kv' => decide (kv'.1 = kv.1) with
  | none =>
    rw [List.find?_eq_none] at e
    exact absurd (by simp) (e kv hm)
  | some kv' =>
    obtain ⟨s, k, d, n, a1, a2, a3, a4, a5, a6⟩ := h.ok kv' (List.mem_of_find?_eq_some e)
    exact ⟨s, k, d, n, by rw [Option.map_some, a6], a1, a2, a3, a4⟩
theorem TI.put {ks : List Kind} {m s n : Nat} {kvs : List (Key × D)} (h : TI ks m kvs) {k : Kind} {d : D} (hk : k ∈ ks) (hd : WP ks 1000000 s k.1 d) (hs : s ≤ 40) (hn : n ≤ m) : TI ks (m + 1) (putD kvs (.inr (txt (txD d))) (.lst (List.replicate n d ++ [d]))) := by
  have e : List.replicate n d ++ [d] = List.replicate (n + 1) d := by rw [List.replicate_succ']
  rw [e]
  have hl := h.len
  unfold putD
  split
  · refine ⟨by rw [List.length_map]; omega, fun kv hkv => ?_⟩
    obtain ⟨kv0, h0, rfl⟩ := List.mem_map.mp hkv
    split
    · rename_i ek
      exact ⟨s, k, d, n + 1, hk, hd, hs, by omega, ek, rfl⟩
    · exact (h.mono (Nat.le_succ _)).ok kv0 h0
  · refine ⟨by rw [List.length_append, List.length_singleton]; omega, fun kv hkv => ?_⟩
    rcases List.mem_append.mp hkv with hkv | hkv
    · exact (h.mono (Nat.le_succ _)).ok kv hkv
    · rw [List.mem_singleton.mp hkv]
      exact ⟨s, k, d, n + 1, hk, hd, hs, by omega, rfl, rfl⟩
theorem WPs.all {ks : List Kind} {c : Nat} : ∀ {s : Nat} {fs : List Str} {ds : List D}, WPs ks c s fs ds → ∀ d ∈ ds, ∃ t f, t ≤ s ∧ WP ks c t f d
  | _, [], _, h => by cases h; simp
  | _, f :: fs, _, h => by
    cases h with
    | cons h1 h2 =>
      intro x hx
      rcases List.mem_cons.mp hx with rfl | hx
      · exact ⟨_, _, by omega, h1⟩
      · obtain ⟨t, f', a, b⟩ := WPs.all h2 x hx
        exact ⟨t, f', by omega, b⟩
end KB
namespace Dk
open PySem L2
end Dk
namespace PySem
section
variable {prog : Program} {w : World} {A : Around} {E : Value → Shared → Prop} {s : Shared}
theorem list_add_raw {l b : Addr} {items items2 : Array Value} {Q : Value → Shared → Prop} (hl : s.heap.IsList l items) (hb : s.heap.IsList b items2) (hsz : items.size + items2.size ≤ sizeLine)
    (h : Q (.ref s.heap.objs.size) { s with heap := s.heap.push { cls := .type "list", data := .seq (items ++ items2) } }) : wpAny (model prog w) A (binaryOp .Add (.ref l) (.ref b)) Q E s := by
  obtain ⟨⟨cls, dd, data, sl⟩, ho, hc, n, hd⟩ := id hl
  obtain ⟨⟨cls2, dd2, data2, sl2⟩, ho2, hc2, n2, hd2⟩ := id hb
  simp only at hc hd hc2 hd2
  subst hc hd hc2 hd2
  exact concat_meets ⟨_, ho, rfl⟩ ⟨_, ho2, rfl⟩ noFill_list_add seq_list_add PySem.F.slot_list_add PySem.F.entry_list_add (PySem.F.args_list_add_2 _ _) (PyProof.Rows.list_addW l b items items2 n n2 dd dd2 sl sl2 hsz) ⟨ho, ho2, h⟩
end
section
variable {prog : Program} {w : World} {A : Around} {R : Result → Shared → Prop} {I : Addr} {fp wr : List Addr} {n : Nat} {P : Nat → Value → Prop} {St : Nat → Heap → Prop}
theorem codeAny_sum_lists (W : Walks prog w A.in1 I fp wr n P St) (b : Nat → Addr) (hval : ∀ i v, P i v → v = .ref (b i)) (xs tot : Nat → Array Value) (h0 : Heap) (hb : ∀ i, i < n → h0.IsList (b i) (xs i)) (ht : ∀ i, tot (i + 1) = tot i ++ xs i) (hsz : ∀ i, i ≤ n → (tot i).size ≤ sizeLine)
    (hw : ∀ c o, h0.get? c = some o → c ∉ wr) (S : Addr) (hSf : S ∉ fp) (hS0 : h0.objs.size ≤ S) (hwS : ∀ c ∈ wr, c < S) :
    ∀ (k i : Nat) (s : Shared) (acc : Addr) (c : Nat), n - i = k → i ≤ n → St i s.heap → s.heap.get? S = some { cls := .type "list", dict := none, data := .seq #[.ref acc] c, slots := #[] } → s.heap.IsList acc (tot i) → acc ∉ wr → acc ≠ S → (0 < i → h0.objs.size ≤ acc ∧ s.heap.get? acc = some { cls := .type "list", data := .seq (tot i) }) →
    (∀ c o, h0.get? c = some o → s.heap.get? c = some o) → 0 < n →
    (∀ h' tk acc', h0.objs.size ≤ acc' → h'.get? acc' = some { cls := .type "list", data := .seq (tot n) } → (∀ c o, h0.get? c = some o → h'.get? c = some o) → R (.ok (.ret (.ref acc'))) { s with heap := h', toks := tk }) →
    codeAny (model prog w) A (.builtin "sum.loop" ⟨[.ref I, .ref S, rawInt 2, rawInt 0], []⟩) R s := by
  have hSw : S ∉ wr := fun h => hSf (W.sub _ h)
  intro k
  induction k with
  | zero =>
    intro i s acc c hk hi hst hS hacc haw hne hfr hold hn hR
    have hin : i = n := by omega
    subst hin
    refine codeAny_builtin F.entry_sum_loop ?_
    rw [Around.under_plainId F.plain_sum_loop _]
    show wpAny _ A.in1 (seqItems? (.ref S) >>= _) _ _ s
    refine wpAny_bind (wpAny_seqItems hS rfl ?_)
    show wpAny _ A.in1 (tryCatch (pyNext (.ref I)) _ >>= _) _ _ s
    refine wpAny_bind (wpAny_tryCatch (W.done s _ _ hst fun h' tk hk' => ?_))
    exact wpAny_pure (hR h' tk acc (hfr hn).1 (hk' acc _ haw (hfr hn).2) fun c o e => hk' c o (hw c o e) (hold c o e))
  | succ k ih =>
    intro i s acc c hk hi hst hS hacc haw hne hfr hold hn hR
    have hlt : i < n := by omega
    refine codeAny_builtin F.entry_sum_loop ?_
    rw [Around.under_plainId F.plain_sum_loop _]
    show wpAny _ A.in1 (seqItems? (.ref S) >>= _) _ _ s
    refine wpAny_bind (wpAny_seqItems hS rfl ?_)
    show wpAny _ A.in1 (tryCatch (pyNext (.ref I)) _ >>= _) _ _ s
    refine wpAny_bind (wpAny_tryCatch (W.item i s _ _ hlt hst fun v h' tk hP hst' hk' => ?_))
    obtain rfl := hval i v hP
    have hS' := hk' S _ hSw hS
    have hacc' : h'.IsList acc (tot i) := hacc.at fun o e => hk' acc o haw e
    have hold' : ∀ c o, h0.get? c = some o → h'.get? c = some o := fun c o e => hk' c o (hw c o e) (hold c o e)
    have hbi : h'.IsList (b i) (xs i) := (hb i hlt).at fun o e => hold' _ o e
    have hz := hsz (i + 1) hlt
    rw [ht, Array.size_append] at hz
    have hSlt : S < h'.objs.size := Heap.lt_size hS'
    show wpAny _ A.in1 ((holding [Value.ref (b i)] (binaryOp .Add (.ref acc) (.ref (b i)))).attempt >>= _) _ _ _
    refine wpAny_bind (wpAny_attempt (wpAny_holding (list_add_raw hacc' hbi hz ?_)))
    show wpAny _ A.in1 (updateSeq S (fun _ => #[.ref h'.objs.size]) >>= _) _ _ _
    have hS1 := Heap.get?_push_of_some { cls := .type "list", data := .seq (tot i ++ xs i) } hS'
    refine wpAny_bind (wpAny_updateSeq hS1 rfl ?_)
    have hS₂ := Heap.get?_update_self (Obj.mapSeq fun _ => #[Value.ref h'.objs.size]) hS1 rfl
    refine wpAny_bind (wpAny_letGo ?_)
    have other : ∀ c o, c ≠ S → h'.get? c = some o → (((h'.push { cls := .type "list", data := .seq (tot i ++ xs i) }).update S (Obj.mapSeq fun _ => #[Value.ref h'.objs.size])).update S (Obj.mapSeq fun _ => #[Value.ref h'.objs.size])).get? c = some o := fun c o hc e =>
      (Heap.get?_update_other _ _ (Ne.symm hc)).trans ((Heap.get?_update_other _ _ (Ne.symm hc)).trans (Heap.get?_push_of_some _ e))
    have new : (((h'.push { cls := .type "list", data := .seq (tot i ++ xs i) }).update S (Obj.mapSeq fun _ => #[Value.ref h'.objs.size])).update S (Obj.mapSeq fun _ => #[Value.ref h'.objs.size])).get? h'.objs.size = some { cls := .type "list", data := .seq (tot i ++ xs i) } :=
      (Heap.get?_update_other _ _ (Nat.ne_of_lt hSlt)).trans ((Heap.get?_update_other _ _ (Nat.ne_of_lt hSlt)).trans (Heap.get?_push_size _ rfl))
    refine wpAny_bind (wpAny_updateSeq hS₂ rfl (wpAny_pure ⟨plainId_quiet F.plain_sum_loop _, ih (i + 1) _ h'.objs.size _ (by omega) hlt (W.frame _ _ _ hst' fun c hc o e => other c o (fun q => hSf (q ▸ hc)) e) (Heap.get?_update_self _ hS₂ rfl) ?_ ?_ (Nat.ne_of_gt hSlt) (fun _ => ⟨Nat.le_of_lt (Nat.lt_of_le_of_lt hS0 hSlt), by rw [ht]; exact new⟩) (fun c o e => other c o (fun q => ?_) (hold' c o e)) hn fun h'' tk'' acc' e1 e2 e3 => ?_⟩))
    · rw [ht]
      exact ⟨_, new, rfl, _, rfl⟩
    · exact fun hm => absurd (Nat.lt_trans (hwS _ hm) hSlt) (Nat.lt_irrefl _)
    · exact absurd (Heap.lt_size e) (by rw [q]; exact Nat.not_lt.mpr hS0)
    · exact hR h'' tk'' acc' e1 e2 e3
end
section
variable {prog : Program} {w : World} {A : Around} {E : Value → Shared → Prop} {s : Shared}
theorem sub_list_str : isSubtype (.type "list") (.type "str") = pure false := by rw [isSubtype_type]; kernel_rfl
theorem sub_list_bytes : isSubtype (.type "list") (.type "bytes") = pure false := by rw [isSubtype_type]; kernel_rfl
theorem sub_list_bytearray : isSubtype (.type "list") (.type "bytearray") = pure false := by rw [isSubtype_type]; kernel_rfl
theorem args_sum2 (a b : Value) : argsOk "sum" ⟨[a, b], []⟩ := by unfold argsOk; kernel_rfl
theorem call_sum_lists {l p0 : Addr} {items : Array Value} {Q : Value → Shared → Prop} (hh : A.handled = none) (hl : s.heap.IsList l items) (hp : s.heap.IsList p0 #[]) (b : Nat → Addr) (hval : ∀ (i : Nat) (v : Value), items[i]? = some v → v = .ref (b i)) (xs tot : Nat → Array Value) (hb : ∀ i, i < items.size → s.heap.IsList (b i) (xs i)) (ht0 : tot 0 = #[]) (ht : ∀ i, tot (i + 1) = tot i ++ xs i) (hsz : ∀ i, i ≤ items.size → (tot i).size ≤ sizeLine) (hn : 0 < items.size)
    (h : ∀ h' tk acc', s.heap.objs.size ≤ acc' → h'.get? acc' = some { cls := .type "list", data := .seq (tot items.size) } → (∀ c o, s.heap.get? c = some o → h'.get? c = some o) → Q (.ref acc') { s with heap := h', toks := tk }) :
    wpAny (model prog w) A (call (.builtin "sum") [.ref l, .ref p0]) Q E s := by
  refine call_function_tree F.kind_sum F.plain_sum F.entry_sum (args_sum2 _ _) ?_
  unfold Builtin.«sum»
  simp only [List.length_cons, List.length_nil]
  rw [if_neg (by decide)]
  refine wpAny_bind (wpAny_of_eq (show Builtin.Builtins.bindParams "sum" ["start"] 0 ⟨[Value.ref p0], []⟩ = pure [some (.ref p0)] from rfl) ?_)
  have hlt : l < s.heap.objs.size := by obtain ⟨_, e, _⟩ := hl; exact Heap.lt_size e
  have hplt : p0 < s.heap.objs.size := by obtain ⟨_, e, _⟩ := hp; exact Heap.lt_size e
  refine wpAny_bind (wpAny_pyIter_list hl ?_)
  have hp2 := hp.push { cls := .type "list_iterator", data := .fields #[.ref l, .int 0 0] }
  have hl2 := hl.push { cls := .type "list_iterator", data := .fields #[.ref l, .int 0 0] }
  refine wpAny_bind (wpAny_pure ?_)
  simp only [List.forIn_cons, List.forIn_nil]
  refine wpAny_bind (wpAny_bind (wpAny_bind (wpAny_isInstance (T := "list") (b := false) hp2.typeIs sub_list_str ?_)))
  simp only [Bool.false_eq_true, if_false]
  refine wpAny_pure (wpAny_bind (wpAny_bind (wpAny_isInstance (T := "list") (b := false) hp2.typeIs sub_list_bytes ?_)))
  simp only [Bool.false_eq_true, if_false]
  refine wpAny_pure (wpAny_bind (wpAny_bind (wpAny_isInstance (T := "list") (b := false) hp2.typeIs sub_list_bytearray ?_)))
  simp only [Bool.false_eq_true, if_false]
  refine wpAny_pure (wpAny_pure ?_)
  refine wpAny_bind (wpAny_newObj_type ?_)
  have hsz2 : (s.heap.push { cls := .type "list_iterator", data := .fields #[.ref l, .int 0 0] }).objs.size = s.heap.objs.size + 1 := Heap.size_push ..
  have hSf : (s.heap.push { cls := .type "list_iterator", data := .fields #[.ref l, .int 0 0] }).objs.size ∉ [s.heap.objs.size, l] := by
    rw [hsz2]
    intro hm
    rcases List.mem_cons.mp hm with e | hm
    · exact absurd e (Nat.succ_ne_self _)
    · rcases List.mem_cons.mp hm with e | hm
      · rw [← e] at hlt
        exact absurd (Nat.lt_of_succ_lt hlt) (Nat.lt_irrefl _)
      · cases hm
  refine wpAny_pure ⟨plainId_quiet F.plain_sum_loop _, codeAny_sum_lists (Walks.list (A := A.in1) hh s.heap.objs.size l (Nat.ne_of_lt hlt) items) b hval xs tot s.heap hb ht hsz (fun c o e hm => ?_) _ hSf (by rw [hsz2]; exact Nat.le_succ _) (fun c hm => ?_) items.size 0 _ p0 0 rfl (Nat.zero_le _)
    ⟨⟨_, Heap.get?_push_of_some _ (Heap.get?_push_size _ rfl), rfl, rfl⟩, hl2.push _⟩ (Heap.get?_push_size _ rfl) (by rw [ht0]; exact hp2.push _) (fun hm => ?_) ?_ (fun q => absurd q (Nat.lt_irrefl _)) (fun c o e => Heap.get?_push_of_some _ (Heap.get?_push_of_some _ e)) hn fun h' tk acc' e1 e2 e3 => h h' tk acc' e1 e2 e3⟩
  · rw [List.mem_singleton.mp hm] at e
    exact absurd (Heap.lt_size e) (Nat.lt_irrefl _)
  · rw [List.mem_singleton.mp hm, hsz2]
    exact Nat.lt_succ_self _
  · rw [List.mem_singleton.mp hm] at hplt
    exact absurd hplt (Nat.lt_irrefl _)
  · rw [hsz2]
    exact Nat.ne_of_lt (Nat.lt_succ_of_lt hplt)
end
end PySem
namespace Dk
open PySem L2
def rSumL (K : PySem.W.Frag) : List V → Hp → VK → Prop := fun vs H Q => ∃ (a p0 : Addr) (bs : List Addr) (vss : List (List V)), vs = [V.ref a, V.ref p0] ∧ SqL K H a (bs.map V.ref) ∧ SqL K H p0 [] ∧ bs.length = vss.length ∧ (∀ (i : Nat) b v, bs[i]? = some b → vss[i]? = some v → SqL K H b v) ∧ bs ≠ [] ∧ vss.flatten.length ≤ sizeLine ∧
  ∀ p : Addr, H p = none → Q (.ref p) (upd H p (.lst vss.flatten))
theorem vals_refs : ∀ {bs : List Addr} {its : List Value}, Vals (bs.map V.ref) its → its = bs.map Value.ref
  | [], _, r => by cases r; rfl
  | b :: bs, _, r => by
    cases r with
    | cons r t =>
      have : _ = Value.ref b := r
      rw [this, vals_refs t]
      rfl
theorem vals_app : ∀ {xs ys : List V} {us vs : List Value}, Vals xs us → Vals ys vs → Vals (xs ++ ys) (us ++ vs)
  | _, _, _, _, .nil, h => h
  | _, _, _, _, .cons r t, h => .cons r (vals_app t h)
theorem cr_sumL {X : Cx} (hc : X.calm = true) : CallR X (.builtin "sum") (rSumL X.K) := by
  intro pins s σ H vs us Q I r h
  obtain ⟨a, p0, bs, vss, rfl, hs, hp, hlen, hin, hne, hsz, q⟩ := h
  obtain ⟨its, rv, hl, _⟩ := I.list hs
  obtain ⟨its0, rv0, hl0, _⟩ := I.list hp
  cases rv0
  obtain rfl := vals_refs rv
  have pick : ∀ i : Nat, ∃ x : Array Value, i < bs.length → s.heap.IsList (bs.getD i 0) x ∧ Vals (vss.getD i []) x.toList := fun i => by
    by_cases hi : i < bs.length
    · obtain ⟨x, rx, lx, _⟩ := I.list (hin i bs[i] (vss[i]'(by omega)) (List.getElem?_eq_getElem hi) (List.getElem?_eq_getElem _))
      refine ⟨x.toArray, fun _ => ⟨?_, ?_⟩⟩
      · rw [List.getD_eq_getElem?_getD, List.getElem?_eq_getElem hi]
        exact lx.isList
      · rw [List.getD_eq_getElem?_getD, List.getElem?_eq_getElem (by omega)]
        exact rx
    · exact ⟨#[], fun h => absurd h hi⟩
  obtain ⟨xs, hxs⟩ := Classical.axiomOfChoice pick
  have hT : ∀ i, i ≤ bs.length → Vals (vss.take i).flatten ((List.range i).flatMap fun j => (xs j).toList) := fun i => by
    induction i with
    | zero => intro _; exact .nil
    | succ i ih =>
      intro hi
      have hv : vss[i]? = some (vss[i]'(by omega)) := List.getElem?_eq_getElem _
      have := (hxs i (by omega)).2
      rw [List.getD_eq_getElem?_getD, hv] at this
      rw [List.range_succ, List.flatMap_append, List.take_add_one, hv, List.flatten_append]
      refine vals_app (ih (by omega)) ?_
      simpa using this
  have full := hT bs.length (Nat.le_refl _)
  rw [hlen, List.take_length] at full
  have part : ∀ i, i ≤ bs.length → ((List.range i).flatMap fun j => (xs j).toList).length ≤ sizeLine := fun i hi => by
    have h1 := (hT i hi).length
    have h2 : (vss.take i).flatten.length ≤ vss.flatten.length := by
      conv => rhs; rw [← List.take_append_drop i vss, List.flatten_append, List.length_append]
      omega
    omega
  match us, r with
  | _, .cons ra (.cons rb .nil) =>
    cases ra
    cases rb
    refine call_sum_lists (I.ok.hd hc) hl.isList hl0.isList (fun i => bs.getD i 0) (fun i v hv => ?_) xs (fun i => ((List.range i).flatMap fun j => (xs j).toList).toArray) (fun i hi => (hxs i (by simpa using hi)).1) rfl (fun i => ?_) (fun i hi => ?_) ?_ fun h' tk acc' e1 e2 e3 => ?_
    · have hv : (bs.map Value.ref)[i]? = some v := by simpa using hv
      rw [List.getElem?_map] at hv
      cases hb : bs[i]? with
      | none => rw [hb] at hv; cases hv
      | some b =>
        rw [hb] at hv
        cases hv
        rw [List.getD_eq_getElem?_getD, hb]
        rfl
    · rw [List.range_succ, List.flatMap_append]
      simp
    · have := part i (by simpa using hi)
      simpa using this
    · have := List.length_pos_iff.mpr hne
      simpa using this
    · have es : (bs.map Value.ref).toArray.size = vss.length := by simp [hlen]
      rw [es] at e2
      exact ⟨.ref acc', upd H acc' (.lst vss.flatten), I.laid (t' := tk) e3 e1 ⟨hsz, _, 0, full, e2⟩, rfl, q acc' (I.hok.fresh e1)⟩
end Dk
namespace Dk
open PySem L2
/-- sum(lists, []) -/
def sumLsD (ds : List D) (Q : D → Prop) : Prop := ∃ xss : List (List D), ds = [.lst (xss.map D.lst), .lst []] ∧ xss ≠ [] ∧ xss.flatten.length ≤ sizeLine ∧ Q (.lst xss.flatten)
theorem reps_lsts {K : PySem.W.Frag} {I : Hp} : ∀ {xss : List (List D)} {vs : List V}, Reps K I vs (xss.map D.lst) → ∃ (bs : List Addr) (wss : List (List V)), vs = bs.map V.ref ∧ bs.length = wss.length ∧ bs.length = xss.length ∧ (∀ (i : Nat) b w, bs[i]? = some b → wss[i]? = some w → I b = some (.lst w)) ∧ Reps K I wss.flatten xss.flatten
  | [], vs, r => by
    cases r
    exact ⟨[], [], rfl, rfl, rfl, by simp, .nil⟩
  | xs :: xss, vs, r => by
    rw [List.map_cons] at r
    cases r with
    | cons r t =>
      obtain ⟨bs, wss, e, l1, l2, h, rf⟩ := reps_lsts t
      cases r with
      | @lst b ws _ hb rw_ =>
        refine ⟨b :: bs, ws :: wss, by rw [e]; rfl, by simp [l1], by simp [l2], fun i b' w h1 h2 => ?_, ?_⟩
        · cases i with
          | zero =>
            cases h1
            cases h2
            exact hb
          | succ i => exact h i b' w (by simpa using h1) (by simpa using h2)
        · rw [List.flatten_cons, List.flatten_cons]
          exact rw_.append rf
section
variable {F : Fx} {X : Cx} {K : PySem.W.Frag} {e e2 : Expr} {t : DAT} {p pos : Pos}
theorem lc_sumLs : LiftC F K (rSumL K) sumLsD := by
  intro vs ds I H Q st rs ⟨xss, e, hne, hl, q⟩
  subst e
  cases rs with
  | cons r1 rt =>
    cases rt with
    | cons r2 rn =>
      cases rn
      cases r1 with
      | @lst a ws _ ha r =>
        cases r2 with
        | @lst p0 ws2 _ hp r2 =>
          cases r2
          obtain ⟨bs, wss, e, l1, l2, h, rf⟩ := reps_lsts r
          subst e
          refine ⟨a, p0, bs, wss, rfl, .of (st.sub _ _ ha), .of (st.sub _ _ hp), l1, fun i b w h1 h2 => .of (st.sub _ _ (h i b w h1 h2)), fun e => ?_, by rw [rf.length]; exact hl, fun p hp' => ?_⟩
          · subst e
            rw [List.length_nil] at l2
            exact hne (List.eq_nil_of_length_eq_zero l2.symm)
          · have l := st.laid hp' (.lst wss.flatten)
            exact q _ _ _ l (.lst upd_same (rf.mono l.i))
end
end Dk
namespace PySem
section
variable {prog : Program} {w : World} {A : Around} {R : Result → Shared → Prop} {I : Addr} {fp wr : List Addr} {P : Nat → Value → Prop} {St : Nat → Heap → Prop}
theorem codeAny_sum_none (W : Walks prog w A.in1 I fp wr 0 P St) (h0 : Heap) (hw : ∀ c o, h0.get? c = some o → c ∉ wr) (S : Addr) (s : Shared) (acc : Addr) (c : Nat) (hst : St 0 s.heap) (hS : s.heap.get? S = some { cls := .type "list", dict := none, data := .seq #[.ref acc] c, slots := #[] })
    (hold : ∀ c o, h0.get? c = some o → s.heap.get? c = some o) (hR : ∀ h' tk, (∀ c o, h0.get? c = some o → h'.get? c = some o) → R (.ok (.ret (.ref acc))) { s with heap := h', toks := tk }) :
    codeAny (model prog w) A (.builtin "sum.loop" ⟨[.ref I, .ref S, rawInt 2, rawInt 0], []⟩) R s := by
  refine codeAny_builtin F.entry_sum_loop ?_
  rw [Around.under_plainId F.plain_sum_loop _]
  show wpAny _ A.in1 (seqItems? (.ref S) >>= _) _ _ s
  refine wpAny_bind (wpAny_seqItems hS rfl ?_)
  show wpAny _ A.in1 (tryCatch (pyNext (.ref I)) _ >>= _) _ _ s
  refine wpAny_bind (wpAny_tryCatch (W.done s _ _ hst fun h' tk hk' => ?_))
  exact wpAny_pure (hR h' tk fun c o e => hk' c o (hw c o e) (hold c o e))
end
section
variable {prog : Program} {w : World} {A : Around} {E : Value → Shared → Prop} {s : Shared}
theorem call_sum_none {l p0 : Addr} {Q : Value → Shared → Prop} (hh : A.handled = none) (hl : s.heap.IsList l #[]) (hp : s.heap.IsList p0 #[])
    (h : ∀ h' tk, (∀ c o, s.heap.get? c = some o → h'.get? c = some o) → Q (.ref p0) { s with heap := h', toks := tk }) :
    wpAny (model prog w) A (call (.builtin "sum") [.ref l, .ref p0]) Q E s := by
  refine call_function_tree F.kind_sum F.plain_sum F.entry_sum (args_sum2 _ _) ?_
  unfold Builtin.«sum»
  simp only [List.length_cons, List.length_nil]
  rw [if_neg (by decide)]
  refine wpAny_bind (wpAny_of_eq (show Builtin.Builtins.bindParams "sum" ["start"] 0 ⟨[Value.ref p0], []⟩ = pure [some (.ref p0)] from rfl) ?_)
  have hlt : l < s.heap.objs.size := by obtain ⟨_, e, _⟩ := hl; exact Heap.lt_size e
  refine wpAny_bind (wpAny_pyIter_list hl ?_)
  have hp2 := hp.push { cls := .type "list_iterator", data := .fields #[.ref l, .int 0 0] }
  have hl2 := hl.push { cls := .type "list_iterator", data := .fields #[.ref l, .int 0 0] }
  refine wpAny_bind (wpAny_pure ?_)
  simp only [List.forIn_cons, List.forIn_nil]
  refine wpAny_bind (wpAny_bind (wpAny_bind (wpAny_isInstance (T := "list") (b := false) hp2.typeIs sub_list_str ?_)))
  simp only [Bool.false_eq_true, if_false]
  refine wpAny_pure (wpAny_bind (wpAny_bind (wpAny_isInstance (T := "list") (b := false) hp2.typeIs sub_list_bytes ?_)))
  simp only [Bool.false_eq_true, if_false]
  refine wpAny_pure (wpAny_bind (wpAny_bind (wpAny_isInstance (T := "list") (b := false) hp2.typeIs sub_list_bytearray ?_)))
  simp only [Bool.false_eq_true, if_false]
  refine wpAny_pure (wpAny_pure ?_)
  refine wpAny_bind (wpAny_newObj_type ?_)
  refine wpAny_pure ⟨plainId_quiet F.plain_sum_loop _, codeAny_sum_none (Walks.list (A := A.in1) hh s.heap.objs.size l (Nat.ne_of_lt hlt) #[]) s.heap (fun c o e hm => ?_) _ _ p0 0
    ⟨⟨_, Heap.get?_push_of_some _ (Heap.get?_push_size _ rfl), rfl, rfl⟩, hl2.push _⟩ (Heap.get?_push_size _ rfl) (fun c o e => Heap.get?_push_of_some _ (Heap.get?_push_of_some _ e)) fun h' tk e3 => h h' tk e3⟩
  rw [List.mem_singleton.mp hm] at e
  exact absurd (Heap.lt_size e) (Nat.lt_irrefl _)
end
end PySem
namespace Dk
open PySem L2
def rSumL0 (K : PySem.W.Frag) : List V → Hp → VK → Prop := fun vs H Q => rSumL K vs H Q ∨ ∃ (a p0 : Addr), vs = [V.ref a, V.ref p0] ∧ SqL K H a [] ∧ SqL K H p0 [] ∧ Q (.ref p0) H
theorem cr_sumL0 {X : Cx} (hc : X.calm = true) : CallR X (.builtin "sum") (rSumL0 X.K) := by
  intro pins s σ H vs us Q I r h
  rcases h with h | ⟨a, p0, rfl, hs, hp, q⟩
  · exact cr_sumL hc pins s σ H vs us Q I r h
  obtain ⟨its, rv, hl, _⟩ := I.list hs
  cases rv
  obtain ⟨its0, rv0, hl0, _⟩ := I.list hp
  cases rv0
  match us, r with
  | _, .cons ra (.cons rb .nil) =>
    cases ra
    cases rb
    refine call_sum_none (I.ok.hd hc) hl.isList hl0.isList fun h' tk e3 => ⟨.ref p0, H, I.kept e3, rfl, q⟩
/-- sum(lists, []) -/
def sumLs0D (ds : List D) (Q : D → Prop) : Prop := ∃ xss : List (List D), ds = [.lst (xss.map D.lst), .lst []] ∧ xss.flatten.length ≤ sizeLine ∧ Q (.lst xss.flatten)
theorem mono_sumLs0D : MonoN sumLs0D := fun ds Q Q' k ⟨xss, e, l, q⟩ => ⟨xss, e, l, k _ q⟩
section
variable {F : Fx} {X : Cx} {K : PySem.W.Frag} {e e2 : Expr} {t : DAT} {p pos : Pos}
theorem lc_sumLs0 : LiftC F K (rSumL0 K) sumLs0D := by
  intro vs ds I H Q st rs ⟨xss, e, hl, q⟩
  cases xss with
  | cons x xs => exact .inl (lc_sumLs vs ds I H Q st rs ⟨x :: xs, e, by simp, hl, q⟩)
  | nil =>
    subst e
    cases rs with
    | cons r1 rt =>
      cases rt with
      | cons r2 rn =>
        cases rn
        cases r1 with
        | @lst a ws _ ha r =>
          cases r
          cases r2 with
          | @lst p0 ws2 _ hp r2 =>
            cases r2
            exact .inr ⟨a, p0, rfl, .of (st.sub _ _ ha), .of (st.sub _ _ hp), q _ _ _ st.stp (.lst hp .nil)⟩
theorem de_sumLs0 (hc : X.calm = true) (hm : X.mg "sum" = none) (ha : DA F X (e :: [e2]) t) (hg : Gl X "sum" := by rfl) (he : starEach (e :: [e2]) X.env = (false, eval e X.env) :: starEach [e2] X.env := by rfl) (hpl : (backTo pos (starEach [e2] X.env)).any (·.1) = false := by rfl) : DE F X (.Call (.Name "sum" p) (e :: [e2]) [] pos) (fun ρ Q => t ρ fun ds => sumLs0D ds Q) :=
  de_callB mono_sumLs0D lc_sumLs0 (cr_sumL0 hc) hm (by decide +kernel) ha hg (by decide) (by decide) he hpl
end
end Dk
namespace KB
open PySem L2 Dk
open PyProof.Rows (envOfC)
abbrev s__law_due : Stmt := top 35
theorem sc__law_due : FnScope ["_law_world_here", "_law_word", "_law_numbers", "_law_more", "_law_number_here", "_law_words", "_law_one"] ["_law_world_here", "_law_word", "_law_numbers", "_law_more", "_law_number_here"] (defScope s__law_due) := ⟨rfl, rfl, rfl, by decide +kernel, rfl, by decide +kernel, by decide +kernel⟩
theorem bd__law_due (kV doc pm : Value) (an : Option Addr) (cdv ct : Value) (us : List Value) (hl : us.length = 5) : bindArgs (PySem.W.fnOf "_law_due" "_law_due" (defArgs s__law_due) (defBody s__law_due) (defScope s__law_due) .none kV doc pm an cdv ct) ⟨us, []⟩ = pure ((["_law_world_here", "_law_word", "_law_numbers", "_law_more", "_law_number_here"] : List Str).zip us) := by
  match us, hl with
  | [v0, v1, v2, v3, v4], _ => rfl
abbrev s__law_right : Stmt := top 36
theorem sc__law_right : FnScope ["_law_here_book", "_law_world_here", "_law_word", "_law_own", "_law_numbers", "_law_more", "_law_number_here", "_law_things", "_law_written", "_law_told"] ["_law_here_book", "_law_world_here", "_law_word", "_law_own", "_law_numbers", "_law_more", "_law_number_here"] (defScope s__law_right) := ⟨rfl, rfl, rfl, by decide +kernel, rfl, by decide +kernel, by decide +kernel⟩
theorem bd__law_right (kV doc pm : Value) (an : Option Addr) (cdv ct : Value) (us : List Value) (hl : us.length = 7) : bindArgs (PySem.W.fnOf "_law_right" "_law_right" (defArgs s__law_right) (defBody s__law_right) (defScope s__law_right) .none kV doc pm an cdv ct) ⟨us, []⟩ = pure ((["_law_here_book", "_law_world_here", "_law_word", "_law_own", "_law_numbers", "_law_more", "_law_number_here"] : List Str).zip us) := by
  match us, hl with
  | [v0, v1, v2, v3, v4, v5, v6], _ => rfl
abbrev s__law_often_right : Stmt := top 37
theorem sc__law_often_right : FnScope ["_law_here_book", "_law_world_here", "_law_own", "_law_numbers", "_law_number_here", "_law_worth", "_law_turn", "_law_one"] ["_law_here_book", "_law_world_here", "_law_own", "_law_numbers", "_law_number_here"] (defScope s__law_often_right) := ⟨rfl, rfl, rfl, by decide +kernel, rfl, by decide +kernel, by decide +kernel⟩
theorem bd__law_often_right (kV doc pm : Value) (an : Option Addr) (cdv ct : Value) (us : List Value) (hl : us.length = 5) : bindArgs (PySem.W.fnOf "_law_often_right" "_law_often_right" (defArgs s__law_often_right) (defBody s__law_often_right) (defScope s__law_often_right) .none kV doc pm an cdv ct) ⟨us, []⟩ = pure ((["_law_here_book", "_law_world_here", "_law_own", "_law_numbers", "_law_number_here"] : List Str).zip us) := by
  match us, hl with
  | [v0, v1, v2, v3, v4], _ => rfl
theorem le_all : ∀ {vs : List Int} {m : Int}, leF m vs ∈ m :: vs ∧ ∀ y ∈ m :: vs, leF m vs ≤ y
  | [], m => by simp [leF]
  | v :: vs, m => by
    obtain ⟨h1, h2⟩ := le_all (vs := vs) (m := if v < m then v else m)
    have e : leF m (v :: vs) = leF (if v < m then v else m) vs := rfl
    rw [e]
    by_cases hv : v < m
    · rw [if_pos hv] at h1 h2 ⊢
      refine ⟨List.mem_cons_of_mem _ h1, fun y hy => ?_⟩
      rcases List.mem_cons.mp hy with rfl | hy
      · have := h2 v (by simp); omega
      · exact h2 y hy
    · rw [if_neg hv] at h1 h2 ⊢
      refine ⟨?_, fun y hy => ?_⟩
      · rcases List.mem_cons.mp h1 with h | h
        · rw [h]; simp
        · exact List.mem_cons_of_mem _ (List.mem_cons_of_mem _ h)
      · rcases List.mem_cons.mp hy with rfl | hy
        · exact h2 y (by simp)
        rcases List.mem_cons.mp hy with rfl | hy
        · have := h2 m (by simp); omega
        · exact h2 y (List.mem_cons_of_mem _ hy)
theorem gr_all : ∀ {vs : List Int} {m : Int}, grF m vs ∈ m :: vs ∧ ∀ y ∈ m :: vs, y ≤ grF m vs
  | [], m => by simp [grF]
  | v :: vs, m => by
    obtain ⟨h1, h2⟩ := gr_all (vs := vs) (m := if m < v then v else m)
    have e : grF m (v :: vs) = grF (if m < v then v else m) vs := rfl
    rw [e]
    by_cases hv : m < v
    · rw [if_pos hv] at h1 h2 ⊢
      refine ⟨List.mem_cons_of_mem _ h1, fun y hy => ?_⟩
      rcases List.mem_cons.mp hy with rfl | hy
      · have := h2 v (by simp); omega
      · exact h2 y hy
    · rw [if_neg hv] at h1 h2 ⊢
      refine ⟨?_, fun y hy => ?_⟩
      · rcases List.mem_cons.mp h1 with h | h
        · rw [h]; simp
        · exact List.mem_cons_of_mem _ (List.mem_cons_of_mem _ h)
      · rcases List.mem_cons.mp hy with rfl | hy
        · exact h2 y (by simp)
        rcases List.mem_cons.mp hy with rfl | hy
        · have := h2 m (by simp); omega
        · exact h2 y (List.mem_cons_of_mem _ hy)
theorem swap_mem {x m : Int} {vs : List Int} : x ∈ vs ++ [m] ↔ x ∈ m :: vs := by simp [or_comm]
theorem le_one {vs : List Int} {m x : Int} (h1 : x ∈ vs ++ [m]) (h2 : ∀ y ∈ vs ++ [m], x ≤ y) : x = leF m vs := by
  have h := le_all (vs := vs) (m := m)
  have a := h.2 x (swap_mem.mp h1)
  have b := h2 _ (swap_mem.mpr h.1)
  omega
theorem gr_one {vs : List Int} {m x : Int} (h1 : x ∈ vs ++ [m]) (h2 : ∀ y ∈ vs ++ [m], y ≤ x) : x = grF m vs := by
  have h := gr_all (vs := vs) (m := m)
  have a := h.2 x (swap_mem.mp h1)
  have b := h2 _ (swap_mem.mpr h.1)
  omega
/-- numbers that are not great -/
def NumOk (i : Int) : Prop := 0 ≤ i ∧ i ≤ 1000000
def Small (i : Int) : Prop := i.natAbs ≤ 16000000
theorem small_log {i : Int} (h : Small i) : i.natAbs.log2 ≤ 23 := by
  by_cases z : i.natAbs = 0
  · rw [z]; decide
  · have := (Nat.log2_lt (k := 24) z).mpr (by unfold Small at h; omega)
    omega
theorem row_gd {w0 w1 : Str} (h0 : nameOk w0 = true) (h1 : nameOk w1 = true) : ∀ {vs : List Int}, (∀ v ∈ vs, Small v) → gd (rowD w0 w1 vs) = true ∧ wtD (rowD w0 w1 vs) ≤ 1100 * vs.length + 120 ∧ dpD (rowD w0 w1 vs) ≤ vs.length + 1
  | [], _ => by
    have a := tg_nm h0
    have b := (nameOk_split h0).2.1
    refine ⟨by simp only [rowD, gd, gds, gd_str a.1, Bool.and_self], by simp only [rowD, wtD, wts, List.length_nil]; omega, ?_⟩
    unfold rowD
    rw [dp_tup]
    have := depth_all (xs := [D.str w0]) (n := 0) fun x hx => by rw [List.mem_singleton.mp hx]; simp [dpD, pyF, PyData.depth]
    simp only [List.length_nil]
    omega
  | v :: vs, h => by
    have a := tg_nm h1
    have b := (nameOk_split h1).2.1
    obtain ⟨i1, i2, i3⟩ := row_gd h0 h1 (vs := vs) fun x hx => h x (List.mem_cons_of_mem _ hx)
    have l := small_log (h v (by simp))
    refine ⟨by simp only [rowD, gd, gds, gd_str a.1, i1, Bool.and_self], by simp only [rowD, wtD, wts, List.length_cons]; omega, ?_⟩
    unfold rowD
    rw [dp_tup]
    have := depth_all (xs := [D.str w1, .int v, rowD w0 w1 vs]) (n := vs.length + 1) fun x hx => by
      simp only [List.mem_cons, List.not_mem_nil, or_false] at hx
      rcases hx with rfl | rfl | rfl
      · simp [dpD, pyF, PyData.depth]
      · simp [dpD, pyF, PyData.depth]
      · exact i3
    simp only [List.length_cons]
    omega
theorem any_rep {d : D} {Q : D → Prop} (h : gd d = true) (w : wtD d ≤ 76000) (p : dpD d ≤ 62) (q : Q (.str (pyF d).shown)) : reprF [d] Q := (Shn.any h w).rep (by omega) p q
def thD (V : Wv) (word : Str) (vs : List Int) (m : Int) : List D := [rowD V.w0 V.w1 vs] ++ (if word = "greatest" ∨ word = "least" ∨ word = "below" then [.int m] else if word = "behind" then [rowD V.w0 V.w1 (vs.take 2)] else [])
def dueD (V : Wv) (word : Str) (vs : List Int) (m z : Int) : D :=
  if word = "sum" then .int vs.sum else if word = "greatest" then .int (grF m vs) else if word = "least" then .int (leF m vs) else if word = "doubled" then rowD V.w0 V.w1 (vs.flatMap fun v => [v, v]) else if word = "added" then rowD V.w0 V.w1 (vs.map fun v => v + z)
  else if word = "behind" then rowD V.w0 V.w1 (vs ++ vs.take 2) else if word = "below" then rowD V.w0 V.w1 (vs.filter fun v => decide (v < m)) else .tup [.str V.w2, rowD V.w0 V.w1 (vs.drop 1), rowD V.w0 V.w1 vs]
theorem ev_word {V : Wv} (ok : V.Ok) {z m : Int} {vs : List Int} (hl : vs.length ≤ 8) {p : Str × (List D × D × D × D)} (hp : p ∈ V.fnL z) : ∃ n, EvT (V.rows p.2.1 p.2.2.2.1 p.2.2.2.2) 400 53 (thD V p.1 vs m) 0 (dueD V p.1 vs m z) n := by
  have hw := ok.w
  have ho := ok.o
  simp only [List.nodup_cons, List.mem_cons, List.not_mem_nil, or_false, not_or, not_false_iff, List.nodup_nil, and_true] at hw ho
  have w01 : V.w0 ≠ V.w1 := hw.1.1
  have o01 : V.o0 ≠ V.o1 := ho.1.1
  have o02 : V.o0 ≠ V.o2 := ho.1.2
  have o12 : V.o1 ≠ V.o2 := ho.2
  simp only [Wv.fnL, List.mem_cons, List.not_mem_nil, or_false] at hp
  rcases hp with rfl | rfl | rfl | rfl | rfl | rfl | rfl | rfl
  · exact ⟨_, (ev_sum w01 o01 vs 0 (by omega)).up (by omega)⟩
  · exact ⟨_, (ev_great w01 o01 o02 o12 vs m 0 (by omega)).up (by omega)⟩
  · exact ⟨_, (ev_least w01 o01 o02 o12 vs m 0 (by omega)).up (by omega)⟩
  · exact ⟨_, (ev_double w01 o01 vs 0 (by omega)).up (by omega)⟩
  · exact ⟨_, (ev_add w01 o01 vs 0 (by omega)).up (by omega)⟩
  · exact ⟨_, (ev_behind w01 o01 o02 o12 (vs.take 2) vs 0 (by omega)).up (by omega)⟩
  · exact ⟨_, (ev_below w01 o01 o02 o12 vs 0 (by omega)).up (by omega)⟩
  · exact ⟨_, (ev_both w01 o01 vs 0 (by omega)).up (by omega)⟩
def spDue : DSp where
  n := 5
  f := fun ds Q _ => ∃ (V : Wv) (p : Str × (List D × D × D × D)) (vs : List Int) (m z : Int), ds = [.dic V.dic, .str p.1, .lst (vs.map D.int), .int m, .int z] ∧ p ∈ V.fnL z ∧ vs.length ≤ 8 ∧ Q (dueD V p.1 vs m z)
  len := fun ds Q E ⟨_, _, _, _, _, e, _⟩ => by rw [e]; rfl
  mono := fun ds Q Q' E E' k _ ⟨V, p, vs, m, z, e, h1, h2, q⟩ => ⟨V, p, vs, m, z, e, h1, h2, k _ q⟩
section
variable {P : Program} {w : World} {K : PySem.W.Frag} {C CU a l : Addr} {mg : Str → Option Value} {base : Heap} {W : Wd} {k : Nat} {f : Addr} {fd : FuncData}
theorem ok_due (T : TxtU K C CU mg) (Fn : Fun K "_law_due" "_law_due" s__law_due f fd) (C__law_row_of : Cal P w K mg base CX0 W k "_law_row_of" ["_law_words", "_law_numbers"] spRowOf) : GnOk P w K mg base CX0 (k + 1) f fd ["_law_world_here", "_law_word", "_law_numbers", "_law_more", "_law_number_here"] (spD W K spDue) := by
  refine Fn.okD sc__law_due rfl fun cdv A outer s H I ds Q Ed E hr h => ?_
  have hu := hr.units
  have hu2 : (A.deeper (envOfC "_law_due" (defScope s__law_due) s.heap.objs.size f cdv)).units + 66 < cLine := by have := hr.room.un; omega
  obtain ⟨V, p, vs, m, z, rfl, hp, hl, q⟩ := h
  refine ⟨_, (dss_cons (ds_set 5 (de_at hu (de_name 0) de_str) sc__law_due.nd)
  (dss_cons (ds_if (dt_c (.eq hu) (de_name 1) de_str)
  (dss_one (ds_ret (de_sum rfl T.b_sum (da_cons (de_name 2) da_nil))))
  dss_nil)
  (dss_cons (ds_if (dt_in hu2 (de_name 1) (de_tup (da_cons de_str (da_cons de_str da_nil))))
  (dss_one (ds_ret (de_at hu (de_lst (da_cons (de_minL rfl T.b_min (da_cons (de_add (de_name 2) (de_lst (da_cons (de_name 3) da_nil))) da_nil)) (da_cons (de_maxL rfl T.b_max (da_cons (de_add (de_name 2) (de_lst (da_cons (de_name 3) da_nil))) da_nil)) da_nil))) (de_intOf T.b_int (da_cons (de_c (.eq hu) (de_name 1) de_str) da_nil)))))
  dss_nil)
  (dss_cons (ds_if (dt_c (.eq hu) (de_name 1) de_str)
  (dss_one (ds_ret (de_fn C__law_row_of (hr.mono (by omega)) pass0 lets0 (da_cons (de_name 5) (da_cons (de_sumLs0 rfl T.b_sum (da_cons (de_lc (own := [("_law_one", 6)]) rfl sc__law_due.nd (di_seq (de_name 2)) (blkOk_by (own := [("_law_one", 6)]) (N := ["_law_world_here", "_law_word", "_law_numbers", "_law_more", "_law_number_here", "_law_words", "_law_one"]) (sc := defScope s__law_due) (by decide +kernel)) (fun _ _ _ _ _ => (dg_name 6 sc__law_due.nd)) (fun _ _ _ _ _ => dif_nil) (fun _ _ _ _ _ => (de_lst (da_cons (de_name 6) (da_cons (de_name 6) da_nil))))) (da_cons (de_lst da_nil) da_nil))) da_nil)))))
  dss_nil)
  (dss_cons (ds_if (dt_c (.eq hu) (de_name 1) de_str)
  (dss_one (ds_ret (de_fn C__law_row_of (hr.mono (by omega)) pass0 lets0 (da_cons (de_name 5) (da_cons (de_lc (own := [("_law_one", 6)]) rfl sc__law_due.nd (di_seq (de_name 2)) (blkOk_by (own := [("_law_one", 6)]) (N := ["_law_world_here", "_law_word", "_law_numbers", "_law_more", "_law_number_here", "_law_words", "_law_one"]) (sc := defScope s__law_due) (by decide +kernel)) (fun _ _ _ _ _ => (dg_name 6 sc__law_due.nd)) (fun _ _ _ _ _ => dif_nil) (fun _ _ _ _ _ => (de_add (de_name 6) (de_name 4)))) da_nil)))))
  dss_nil)
  (dss_cons (ds_if (dt_c (.eq hu) (de_name 1) de_str)
  (dss_one (ds_ret (de_fn C__law_row_of (hr.mono (by omega)) pass0 lets0 (da_cons (de_name 5) (da_cons (de_add (de_name 2) (de_slice (de_name 2) do_none (do_some de_int))) da_nil)))))
  dss_nil)
  (dss_cons (ds_if (dt_c (.eq hu) (de_name 1) de_str)
  (dss_one (ds_ret (de_fn C__law_row_of (hr.mono (by omega)) pass0 lets0 (da_cons (de_name 5) (da_cons (de_lc (own := [("_law_one", 6)]) rfl sc__law_due.nd (di_seq (de_name 2)) (blkOk_by (own := [("_law_one", 6)]) (N := ["_law_world_here", "_law_word", "_law_numbers", "_law_more", "_law_number_here", "_law_words", "_law_one"]) (sc := defScope s__law_due) (by decide +kernel)) (fun _ _ _ _ _ => (dg_name 6 sc__law_due.nd)) (fun _ _ _ _ _ => (dif_one (dt_c .lt (de_name 6) (de_name 3)))) (fun _ _ _ _ _ => (de_name 6))) da_nil)))))
  dss_nil)
  (dss_one (ds_ret (de_tup (da_cons (de_at hu (de_name 5) de_int) (da_cons (de_fn C__law_row_of (hr.mono (by omega)) pass0 lets0 (da_cons (de_name 5) (da_cons (de_slice (de_name 2) (do_some de_int) do_none) da_nil))) (da_cons (de_fn C__law_row_of (hr.mono (by omega)) pass0 lets0 (da_cons (de_name 5) (da_cons (de_name 2) da_nil))) da_nil))))))))))))), ?_⟩
  simp only [getD_0, getD_s, set_0, set_s, boolD_bl, intD_int, startD, List.map, List.length_cons, List.length_nil, List.replicate, List.cons_append, List.nil_append, defEnds, wipeD, if_true, if_false, Bool.not_true, Bool.not_false, Bool.false_eq_true]
  refine ⟨.inr "words", _, rfl, rfl, ?_⟩
  have hz : vs.length ≤ sizeLine := small_len (by omega)
  have hz1 : (vs.map D.int).length + [D.int m].length ≤ sizeLine := small_len (by rw [List.length_map, List.length_singleton]; omega)
  have hm1 : vs.map D.int ++ [D.int m] = (vs ++ [m]).map D.int := by simp
  simp only [Wv.fnL, List.mem_cons, List.not_mem_nil, or_false] at hp
  rcases hp with rfl | rfl | rfl | rfl | rfl | rfl | rfl | rfl <;> dsimp only
  · rw [eqD_str, boolD_bl, if_pos (by decide)]
    exact ⟨vs, rfl, q⟩
  · rw [eqD_str, boolD_bl, if_neg (by decide)]
    refine ⟨by decide, ?_⟩
    refine ⟨_, ["greatest", "least"], rfl, rfl, ?_⟩
    show boolD (.bl true) _
    rw [boolD_bl, if_pos rfl]
    refine ⟨by decide, hz1, ?_⟩
    rw [hm1]
    refine ⟨_, rfl, by simp, fun x h1 h2 => ?_⟩
    refine ⟨by decide, hz1, ?_⟩
    rw [hm1]
    refine ⟨_, rfl, by simp, fun y h3 h4 => ?_⟩
    refine ⟨by decide, ?_⟩
    rw [eqD_str]
    exact ⟨_, atI_nat (j := 1) rfl, by rw [gr_one h3 h4]; exact q⟩
  · rw [eqD_str, boolD_bl, if_neg (by decide)]
    refine ⟨by decide, ?_⟩
    refine ⟨_, ["greatest", "least"], rfl, rfl, ?_⟩
    show boolD (.bl true) _
    rw [boolD_bl, if_pos rfl]
    refine ⟨by decide, hz1, ?_⟩
    rw [hm1]
    refine ⟨_, rfl, by simp, fun x h1 h2 => ?_⟩
    refine ⟨by decide, hz1, ?_⟩
    rw [hm1]
    refine ⟨_, rfl, by simp, fun y h3 h4 => ?_⟩
    refine ⟨by decide, ?_⟩
    rw [eqD_str]
    exact ⟨_, atI_nat (j := 0) rfl, by rw [le_one h1 h2]; exact q⟩
  · rw [eqD_str, boolD_bl, if_neg (by decide)]
    refine ⟨by decide, ?_⟩
    refine ⟨_, ["greatest", "least"], rfl, rfl, ?_⟩
    show boolD (.bl false) _
    rw [boolD_bl, if_neg (by decide), eqD_str, boolD_bl, if_pos (by decide)]
    refine ⟨by rw [List.length_map]; exact hz, ?_⟩
    refine lcD_map D.int (fun v => D.lst [.int v, .int v]) (fun _ => true) (fun d hd R S hR _ => ?_) ?_
    · exact ⟨_, rfl, _, rfl, by decide, hR rfl⟩
    refine ⟨by decide, ?_⟩
    rw [List.filter_eq_self.mpr (by simp)]
    have e : (vs.map fun v => [D.int v, D.int v]).flatten = (vs.flatMap fun v => [v, v]).map D.int := by rw [List.map_flatMap, List.flatMap_def]; rfl
    have l : (vs.flatMap fun v => [v, v]).length = 2 * vs.length := by
      clear q hl hz hz1 hm1 e
      induction vs with
      | nil => rfl
      | cons a b ih => rw [List.flatMap_cons, List.length_append, ih]; simp; omega
    refine ⟨vs.map fun v => [D.int v, D.int v], by rw [List.map_map]; rfl, ?_, ?_⟩
    · rw [e, List.length_map, l]
      exact small_len (by omega)
    · rw [e]
      exact ⟨V, _, rfl, by omega, q⟩
  · rw [eqD_str, boolD_bl, if_neg (by decide)]
    refine ⟨by decide, ?_⟩
    refine ⟨_, ["greatest", "least"], rfl, rfl, ?_⟩
    show boolD (.bl false) _
    rw [boolD_bl, if_neg (by decide), eqD_str, boolD_bl, if_neg (by decide), eqD_str, boolD_bl, if_pos (by decide)]
    refine ⟨by rw [List.length_map]; exact hz, ?_⟩
    refine lcD_map D.int (fun v => D.int (v + z)) (fun _ => true) (fun d hd R S hR _ => ?_) ?_
    · exact ⟨_, rfl, _, rfl, hR rfl⟩
    rw [List.filter_eq_self.mpr (by simp)]
    exact ⟨V, vs.map fun v => v + z, by rw [List.map_map]; rfl, by rw [List.length_map]; omega, q⟩
  · rw [eqD_str, boolD_bl, if_neg (by decide)]
    refine ⟨by decide, ?_⟩
    refine ⟨_, ["greatest", "least"], rfl, rfl, ?_⟩
    show boolD (.bl false) _
    rw [boolD_bl, if_neg (by decide), eqD_str, boolD_bl, if_neg (by decide), eqD_str, boolD_bl, if_neg (by decide), eqD_str, boolD_bl, if_pos (by decide)]
    simp only [sliceD]
    rw [show cutD (vs.map D.int) none (some 2) = (vs.take 2).map D.int by rw [List.map_take]; exact cutD_to _ 2]
    refine ⟨small_len (by rw [List.length_map, List.length_map, List.length_take]; omega), V, vs ++ vs.take 2, by rw [List.map_append], by rw [List.length_append, List.length_take]; omega, q⟩
  · rw [eqD_str, boolD_bl, if_neg (by decide)]
    refine ⟨by decide, ?_⟩
    refine ⟨_, ["greatest", "least"], rfl, rfl, ?_⟩
    show boolD (.bl false) _
    rw [boolD_bl, if_neg (by decide), eqD_str, boolD_bl, if_neg (by decide), eqD_str, boolD_bl, if_neg (by decide), eqD_str, boolD_bl, if_neg (by decide), eqD_str, boolD_bl, if_pos (by decide)]
    refine ⟨by rw [List.length_map]; exact hz, ?_⟩
    refine lcD_map D.int D.int (fun v => decide (v < m)) (fun v hd R S hR hS => ?_) ?_
    · refine ⟨_, rfl, _, rfl, ?_⟩
      show boolD (.bl (decide (v < m))) _
      rw [boolD_bl]
      by_cases hv : v < m
      · rw [if_pos (decide_eq_true hv)]
        exact ⟨_, rfl, hR (decide_eq_true hv)⟩
      · rw [if_neg (by simpa using hv)]
        exact hS (decide_eq_false hv)
    exact ⟨V, vs.filter fun v => decide (v < m), rfl, Nat.le_trans (List.length_filter_le _ _) (by omega), q⟩
  · rw [eqD_str, boolD_bl, if_neg (by decide)]
    refine ⟨by decide, ?_⟩
    refine ⟨_, ["greatest", "least"], rfl, rfl, ?_⟩
    show boolD (.bl false) _
    rw [boolD_bl, if_neg (by decide), eqD_str, boolD_bl, if_neg (by decide), eqD_str, boolD_bl, if_neg (by decide), eqD_str, boolD_bl, if_neg (by decide), eqD_str, boolD_bl, if_neg (by decide)]
    refine ⟨_, atI_nat (j := 2) rfl, ?_⟩
    show spRowOf.f [V.words, .lst (cutD (vs.map D.int) (some ((1 : Nat) : Int)) none)] _ _
    rw [cutD_from, ← List.map_drop]
    exact ⟨V, vs.drop 1, rfl, by rw [List.length_drop]; omega, V, vs, rfl, by omega, by decide, q⟩
theorem int_gd {i : Int} (h : Small i) : gd (.int i) = true ∧ wtD (.int i) ≤ 932 ∧ dpD (.int i) ≤ 0 := by
  have := small_log h
  exact ⟨by simp only [gd], by simp only [wtD]; omega, by simp [dpD, pyF, PyData.depth]⟩
theorem NumOk.small {i : Int} (h : NumOk i) : Small i := by unfold NumOk at h; unfold Small; omega
theorem sum_num : ∀ {vs : List Int}, (∀ v ∈ vs, NumOk v) → 0 ≤ vs.sum ∧ vs.sum ≤ 1000000 * vs.length
  | [], _ => by simp
  | v :: vs, h => by
    have a := h v (by simp)
    have b := sum_num (vs := vs) fun x hx => h x (List.mem_cons_of_mem _ hx)
    unfold NumOk at a
    rw [List.sum_cons, List.length_cons]
    omega
theorem two_gd {a b : D} {A B n : Nat} (ha : gd a = true ∧ wtD a ≤ A ∧ dpD a ≤ n) (hb : gd b = true ∧ wtD b ≤ B ∧ dpD b ≤ n) (hA : A ≤ 30000 := by omega) (hB : B ≤ 30000 := by omega) (hn : n ≤ 50 := by omega) : gd (.tup [a, b]) = true ∧ wtD (.tup [a, b]) ≤ 76000 ∧ dpD (.tup [a, b]) ≤ 62 := by
  refine ⟨by simp only [gd, gds, ha.1, hb.1, Bool.and_self], by simp only [wtD, wts]; omega, ?_⟩
  rw [dp_tup]
  have := depth_all (xs := [a, b]) (n := n) fun x hx => by
    simp only [List.mem_cons, List.not_mem_nil, or_false] at hx
    rcases hx with rfl | rfl
    · exact ha.2.2
    · exact hb.2.2
  omega
theorem le_row {d : D} {A n : Nat} (h : gd d = true ∧ wtD d ≤ A ∧ dpD d ≤ n) (hA : A ≤ 76000 := by omega) (hn : n ≤ 62 := by omega) : gd d = true ∧ wtD d ≤ 76000 ∧ dpD d ≤ 62 := ⟨h.1, Nat.le_trans h.2.1 hA, Nat.le_trans h.2.2 hn⟩
theorem up_row {d : D} {A n m : Nat} (h : gd d = true ∧ wtD d ≤ A ∧ dpD d ≤ n) (hn : n ≤ m := by omega) : gd d = true ∧ wtD d ≤ A ∧ dpD d ≤ m := ⟨h.1, h.2.1, Nat.le_trans h.2.2 hn⟩
theorem due_gd {V : Wv} (ok : V.Ok) {z m : Int} (hz : NumOk z) (hm : NumOk m) {vs : List Int} (hl : vs.length ≤ 8) (hv : ∀ v ∈ vs, NumOk v) {p : Str × (List D × D × D × D)} (hp : p ∈ V.fnL z) : gd (dueD V p.1 vs m z) = true ∧ wtD (dueD V p.1 vs m z) ≤ 76000 ∧ dpD (dueD V p.1 vs m z) ≤ 62 := by
  have R : ∀ us : List Int, (∀ v ∈ us, Small v) → gd (rowD V.w0 V.w1 us) = true ∧ wtD (rowD V.w0 V.w1 us) ≤ 1100 * us.length + 120 ∧ dpD (rowD V.w0 V.w1 us) ≤ us.length + 1 := fun us h => row_gd (ok.ow _ (by simp)) (ok.ow _ (by simp)) h
  simp only [Wv.fnL, List.mem_cons, List.not_mem_nil, or_false] at hp
  rcases hp with rfl | rfl | rfl | rfl | rfl | rfl | rfl | rfl
  · have := sum_num hv
    exact le_row (int_gd (i := vs.sum) (by unfold Small; omega))
  · refine le_row (int_gd (i := grF m vs) (NumOk.small ?_))
    rcases List.mem_cons.mp (gr_all (vs := vs) (m := m)).1 with h | h
    · rw [h]; exact hm
    · exact hv _ h
  · refine le_row (int_gd (i := leF m vs) (NumOk.small ?_))
    rcases List.mem_cons.mp (le_all (vs := vs) (m := m)).1 with h | h
    · rw [h]; exact hm
    · exact hv _ h
  · have l : (vs.flatMap fun v => [v, v]).length ≤ 2 * vs.length := by
      clear hv hl
      induction vs with
      | nil => simp
      | cons a b ih => rw [List.flatMap_cons, List.length_append, List.length_cons, List.length_cons, List.length_cons, List.length_nil]; omega
    refine le_row (R (vs.flatMap fun v => [v, v]) fun x hx => ?_)
    obtain ⟨v, h1, h2⟩ := List.mem_flatMap.mp hx
    simp only [List.mem_cons, List.not_mem_nil, or_false, or_self] at h2
    subst h2
    exact (hv _ h1).small
  · refine le_row (R (vs.map fun v => v + z) fun x hx => ?_) (by rw [List.length_map]; omega) (by rw [List.length_map]; omega)
    obtain ⟨v, h1, rfl⟩ := List.mem_map.mp hx
    have := hv v h1
    unfold NumOk at this hz
    unfold Small
    omega
  · have l : (vs ++ vs.take 2).length ≤ 10 := by rw [List.length_append, List.length_take]; omega
    refine le_row (R (vs ++ vs.take 2) fun x hx => ?_)
    rcases List.mem_append.mp hx with h | h
    · exact (hv _ h).small
    · exact (hv _ (List.mem_of_mem_take h)).small
  · have l := List.length_filter_le (fun v => decide (v < m)) vs
    exact le_row (R (vs.filter fun v => decide (v < m)) fun x hx => (hv _ (List.mem_filter.mp hx).1).small)
  · have r1 := R (vs.drop 1) fun x hx => (hv _ (List.mem_of_mem_drop hx)).small
    have r2 := R vs fun x hx => (hv _ hx).small
    have l : (vs.drop 1).length ≤ 8 := by rw [List.length_drop]; omega
    have a := tg_nm (ok.ow V.w2 (by simp))
    refine ⟨by show gd (.tup [.str V.w2, rowD V.w0 V.w1 (vs.drop 1), rowD V.w0 V.w1 vs]) = true; simp only [gd, gds, gd_str a.1, r1.1, r2.1, Bool.and_self], by show wtD (.tup [.str V.w2, rowD V.w0 V.w1 (vs.drop 1), rowD V.w0 V.w1 vs]) ≤ 76000; simp only [wtD, wts]; have := (nameOk_split (ok.ow V.w2 (by simp))).2.1; omega, ?_⟩
    show dpD (.tup [.str V.w2, rowD V.w0 V.w1 (vs.drop 1), rowD V.w0 V.w1 vs]) ≤ 62
    rw [dp_tup]
    have := depth_all (xs := [.str V.w2, rowD V.w0 V.w1 (vs.drop 1), rowD V.w0 V.w1 vs]) (n := 9) fun x hx => by
      simp only [List.mem_cons, List.not_mem_nil, or_false] at hx
      rcases hx with rfl | rfl | rfl
      · simp [dpD, pyF, PyData.depth]
      · omega
      · omega
    omega
theorem one_gd {a : D} {A n : Nat} (ha : gd a = true ∧ wtD a ≤ A ∧ dpD a ≤ n) (hA : A ≤ 30000 := by omega) (hn : n ≤ 50 := by omega) : gd (.tup [a]) = true ∧ wtD (.tup [a]) ≤ 76000 ∧ dpD (.tup [a]) ≤ 62 := by
  refine ⟨by simp only [gd, gds, ha.1, Bool.and_self], by simp only [wtD, wts]; omega, ?_⟩
  rw [dp_tup]
  have := depth_all (xs := [a]) (n := n) fun x hx => by rw [List.mem_singleton.mp hx]; exact ha.2.2
  omega
theorem th_gd {V : Wv} (ok : V.Ok) {m : Int} (hm : NumOk m) {vs : List Int} (hl : vs.length ≤ 8) (hv : ∀ v ∈ vs, NumOk v) {x : Str} : gd (.tup (thD V x vs m)) = true ∧ wtD (.tup (thD V x vs m)) ≤ 76000 ∧ dpD (.tup (thD V x vs m)) ≤ 62 := by
  have R : ∀ us : List Int, (∀ v ∈ us, Small v) → gd (rowD V.w0 V.w1 us) = true ∧ wtD (rowD V.w0 V.w1 us) ≤ 1100 * us.length + 120 ∧ dpD (rowD V.w0 V.w1 us) ≤ us.length + 1 := fun us h => row_gd (ok.ow _ (by simp)) (ok.ow _ (by simp)) h
  have r := up_row (m := 9) (R vs fun x hx => (hv _ hx).small)
  have r2 := up_row (m := 9) (R (vs.take 2) fun x hx => (hv _ (List.mem_of_mem_take hx)).small) (by rw [List.length_take]; omega)
  unfold thD
  split
  · exact two_gd r (up_row (int_gd hm.small))
  · split
    · exact two_gd r r2 (by omega) (by rw [List.length_take]; omega)
    · exact one_gd r
def spRight (C : Addr) : DSp where
  n := 7
  f := fun ds Q _ => ∃ (V : Wv) (p : Str × (List D × D × D × D)) (vs : List Int) (m z : Int), ds = [bookD C V.ks, .dic V.dic, .str p.1, V.fnP p, .lst (vs.map D.int), .int m, .int z] ∧ V.Ok ∧ p ∈ V.fnL z ∧ NumOk z ∧ NumOk m ∧ vs.length ≤ 8 ∧ (∀ v ∈ vs, NumOk v) ∧ Q (.bl true)
  len := fun ds Q E ⟨_, _, _, _, _, e, _⟩ => by rw [e]; rfl
  mono := fun ds Q Q' E E' k _ ⟨V, p, vs, m, z, e, h1, h2, h3, h4, h5, h6, q⟩ => ⟨V, p, vs, m, z, e, h1, h2, h3, h4, h5, h6, k _ q⟩
def spOften (C : Addr) : DSp where
  n := 5
  f := fun ds Q _ => ∃ (V : Wv) (p : Str × (List D × D × D × D)) (vs : List Int) (z : Int), ds = [bookD C V.ks, .dic V.dic, V.fnP p, .lst (vs.map D.int), .int z] ∧ V.Ok ∧ p ∈ V.fnL z ∧ p.1 = "added" ∧ NumOk z ∧ vs.length ≤ 8 ∧ (∀ v ∈ vs, NumOk v) ∧ Q (.bl true)
  len := fun ds Q E ⟨_, _, _, _, e, _⟩ => by rw [e]; rfl
  mono := fun ds Q Q' E E' k _ ⟨V, p, vs, z, e, h1, h2, h3, h4, h5, h6, q⟩ => ⟨V, p, vs, z, e, h1, h2, h3, h4, h5, h6, k _ q⟩
theorem ok_right (T : TxtU K C CU mg) (Fn : Fun K "_law_right" "_law_right" s__law_right f fd) (C__law_row_of : Cal P w K mg base CX0 W k "_law_row_of" ["_law_words", "_law_numbers"] spRowOf) (C__law_due : Cal P w K mg base CX0 W k "_law_due" ["_law_world_here", "_law_word", "_law_numbers", "_law_more", "_law_number_here"] spDue) (CD_run : CalKd P w K mg base CX0 W k "run" ["book", "fun", "things", "most"] 400 (spRun C 53)) : GnOk P w K mg base CX0 (k + 1) f fd ["_law_here_book", "_law_world_here", "_law_word", "_law_own", "_law_numbers", "_law_more", "_law_number_here"] (spD W K (spRight C)) := by
  refine Fn.okD sc__law_right rfl fun cdv A outer s H I ds Q Ed E hr h => ?_
  have hu := hr.units
  have hu2 : (A.deeper (envOfC "_law_right" (defScope s__law_right) s.heap.objs.size f cdv)).units + 66 < cLine := by have := hr.room.un; omega
  obtain ⟨V, p, vs, m, z, rfl, ok, hp, hz, hm, hl, hv, q⟩ := h
  refine ⟨_, (dss_cons (ds_set 7 (de_tup (da_cons (de_fn C__law_row_of (hr.mono (by omega)) pass0 lets0 (da_cons (de_at hu (de_name 1) de_str) (da_cons (de_name 4) da_nil))) da_nil)) sc__law_right.nd)
  (dss_cons (ds_if (dt_in hu2 (de_name 2) (de_tup (da_cons de_str (da_cons de_str (da_cons de_str da_nil)))))
  (dss_one (ds_set 7 (de_add (de_name 7) (de_tup (da_cons (de_name 5) da_nil))) sc__law_right.nd))
  dss_nil)
  (dss_cons (ds_if (dt_c (.eq hu) (de_name 2) de_str)
  (dss_one (ds_set 7 (de_add (de_name 7) (de_tup (da_cons (de_fn C__law_row_of (hr.mono (by omega)) pass0 lets0 (da_cons (de_at hu (de_name 1) de_str) (da_cons (de_slice (de_name 4) do_none (do_some de_int)) da_nil))) da_nil))) sc__law_right.nd))
  dss_nil)
  (dss_cons (ds_set 8 (de_reprF T.b_repr hr.gd hu (da_cons (de_name 7) da_nil)) sc__law_right.nd)
  (dss_cons (ds_set 9 (de_reprF T.b_repr hr.gd hu (da_cons (de_fnKd CD_run (hr.mono (by omega)) pass0 lets0 (da_cons (de_name 0) (da_cons (de_name 3) (da_cons (de_name 7) da_nil)))) da_nil)) sc__law_right.nd)
  (dss_one (ds_ret (de_and (de_c (.eq hu) (de_name 9) (de_reprF T.b_repr hr.gd hu (da_cons (de_fn C__law_due (hr.mono (by omega)) pass0 lets0 (da_cons (de_name 1) (da_cons (de_name 2) (da_cons (de_name 4) (da_cons (de_name 5) (da_cons (de_name 6) da_nil)))))) da_nil))) (de_one (de_c (.eq hu) (de_reprF T.b_repr hr.gd hu (da_cons (de_name 7) da_nil)) (de_name 8))))))))))), ?_⟩
  simp only [getD_0, getD_s, set_0, set_s, boolD_bl, intD_int, startD, List.map, List.length_cons, List.length_nil, List.replicate, List.cons_append, List.nil_append, defEnds, wipeD, if_true, if_false, Bool.not_true, Bool.not_false, Bool.false_eq_true]
  have core : ∀ d, d = D.tup (thD V p.1 vs m) → reprF [d] fun d_1 => (spRun C 53).f [bookD C V.ks, V.fnP p, d, D.int 400] (fun d_2 => reprF [d_2] fun x => spDue.f [D.dic V.dic, D.str p.fst, D.lst (vs.map D.int), D.int m, D.int z] (fun d_3 => reprF [d_3] fun y => eqD x y fun x => boolD x fun k => if k = true then reprF [d] fun x => eqD x d_1 Q else Q (D.bl false)) (fun _ => False)) fun _ => False := by
    rintro _ rfl
    have g1 := th_gd ok hm hl hv (x := p.1)
    have g2 := due_gd ok hz hm hl hv hp
    obtain ⟨n, ev⟩ := ev_word ok (m := m) hl hp
    have hw := ok.w
    simp only [List.nodup_cons, List.mem_cons, List.not_mem_nil, or_false, not_or, not_false_iff, List.nodup_nil, and_true] at hw
    refine any_rep g1.1 g1.2.1 g1.2.2 ⟨V.ks, (V.n0, [(V.w0, []), (V.w1, [numS, V.n0])]), _, _, _, V.rows p.2.1 p.2.2.2.1 p.2.2.2.2, _, _, n, 400, rfl, ok.good, by simp [Wv.ks], rfl, fn_nd hw.1.1, by simp [Wv.rows, fnR], ev, ?_⟩
    refine any_rep g2.1 g2.2.1 g2.2.2 ⟨V, p, vs, m, z, rfl, hp, hl, any_rep g2.1 g2.2.1 g2.2.2 ?_⟩
    rw [eqD_str, boolD_bl, if_pos (by simp)]
    refine any_rep g1.1 g1.2.1 g1.2.2 ?_
    rw [eqD_str]
    simpa using q
  refine ⟨.inr "words", _, rfl, rfl, V, vs, rfl, by omega, by decide, ?_⟩
  generalize hR : rowD V.w0 V.w1 vs = R at core
  have hth : ∀ x, thD V x vs m = [R] ++ (if x = "greatest" ∨ x = "least" ∨ x = "below" then [.int m] else if x = "behind" then [rowD V.w0 V.w1 (vs.take 2)] else []) := fun x => by rw [← hR]; rfl
  rw [hth] at core
  simp only [Wv.fnL, List.mem_cons, List.not_mem_nil, or_false] at hp
  rcases hp with rfl | rfl | rfl | rfl | rfl | rfl | rfl | rfl <;> dsimp only at core ⊢ <;> refine ⟨by decide, _, ["greatest", "least", "below"], rfl, rfl, ?_⟩
  · show boolD (.bl false) _; rw [boolD_bl, if_neg (by decide), eqD_str, boolD_bl, if_neg (by decide)]; exact core _ rfl
  · show boolD (.bl true) _; rw [boolD_bl, if_pos rfl]; refine ⟨by decide, by show 1 + 1 ≤ sizeLine; decide, ?_⟩; show eqD _ _ _; rw [eqD_str, boolD_bl, if_neg (by decide)]; exact core _ rfl
  · show boolD (.bl true) _; rw [boolD_bl, if_pos rfl]; refine ⟨by decide, by show 1 + 1 ≤ sizeLine; decide, ?_⟩; show eqD _ _ _; rw [eqD_str, boolD_bl, if_neg (by decide)]; exact core _ rfl
  · show boolD (.bl false) _; rw [boolD_bl, if_neg (by decide), eqD_str, boolD_bl, if_neg (by decide)]; exact core _ rfl
  · show boolD (.bl false) _; rw [boolD_bl, if_neg (by decide), eqD_str, boolD_bl, if_neg (by decide)]; exact core _ rfl
  · show boolD (.bl false) _; rw [boolD_bl, if_neg (by decide), eqD_str, boolD_bl, if_pos (by decide)]
    refine dic_ix rfl ?_
    simp only [sliceD]
    rw [show cutD (vs.map D.int) none (some 2) = (vs.take 2).map D.int by rw [List.map_take]; exact cutD_to _ 2]
    exact ⟨V, vs.take 2, rfl, by rw [List.length_take]; omega, by decide, by show 1 + 1 ≤ sizeLine; decide, core _ rfl⟩
  · show boolD (.bl true) _; rw [boolD_bl, if_pos rfl]; refine ⟨by decide, by show 1 + 1 ≤ sizeLine; decide, ?_⟩; show eqD _ _ _; rw [eqD_str, boolD_bl, if_neg (by decide)]; exact core _ rfl
  · show boolD (.bl false) _; rw [boolD_bl, if_neg (by decide), eqD_str, boolD_bl, if_neg (by decide)]; exact core _ rfl
theorem ok_often (T : TxtU K C CU mg) (Fn : Fun K "_law_often_right" "_law_often_right" s__law_often_right f fd) (C__law_row_of : Cal P w K mg base CX0 W k "_law_row_of" ["_law_words", "_law_numbers"] spRowOf) (CD_run : CalKd P w K mg base CX0 W k "run" ["book", "fun", "things", "most"] 400 (spRun C 53)) : GnOk P w K mg base CX0 (k + 1) f fd ["_law_here_book", "_law_world_here", "_law_own", "_law_numbers", "_law_number_here"] (spD W K (spOften C)) := by
  refine Fn.okD sc__law_often_right rfl fun cdv A outer s H I ds Q Ed E hr h => ?_
  have hu := hr.units
  obtain ⟨V, p, vs, z, rfl, ok, hp, hpw, hz, hl, hv, q⟩ := h
  refine ⟨_, (dss_cons (ds_set 5 (de_fn C__law_row_of (hr.mono (by omega)) pass0 lets0 (da_cons (de_at hu (de_name 1) de_str) (da_cons (de_name 3) da_nil))) sc__law_often_right.nd)
  (dss_cons (ds_for PassesOwn.never rfl (di_range1 T.b_range (da_cons de_int da_nil)) (dg_name 6 sc__law_often_right.nd)
  (dss_cons (ds_set 5 (de_fnKd CD_run (hr.mono (by omega)) pass0 lets0 (da_cons (de_name 0) (da_cons (de_name 2) (da_cons (de_tup (da_cons (de_name 5) da_nil)) da_nil)))) sc__law_often_right.nd)
  (dss_one (ds_if (dt_c (.ne hu) (de_reprF T.b_repr hr.gd hu (da_cons (de_name 5) da_nil)) (de_reprF T.b_repr hr.gd hu (da_cons (de_fn C__law_row_of (hr.mono (by omega)) pass0 lets0 (da_cons (de_at hu (de_name 1) de_str) (da_cons (de_lc (own := [("_law_one", 7)]) rfl sc__law_often_right.nd (di_seq (de_name 3)) (blkOk_by (own := [("_law_one", 7)]) (N := ["_law_here_book", "_law_world_here", "_law_own", "_law_numbers", "_law_number_here", "_law_worth", "_law_turn", "_law_one"]) (sc := defScope s__law_often_right) (by decide +kernel)) (fun _ _ _ _ _ => (dg_name 7 sc__law_often_right.nd)) (fun _ _ _ _ _ => dif_nil) (fun _ _ _ _ _ => (de_add (de_name 7) (de_mul (de_name 4) (de_add (de_name 6) de_int))))) da_nil))) da_nil)))
  (dss_one (ds_ret de_bl))
  dss_nil))))
  (dss_one (ds_ret de_bl)))), ?_⟩
  simp only [getD_0, getD_s, set_0, set_s, boolD_bl, intD_int, startD, List.map, List.length_cons, List.length_nil, List.replicate, List.cons_append, List.nil_append, defEnds, wipeD, if_true, if_false, Bool.not_true, Bool.not_false, Bool.false_eq_true]
  refine ⟨.inr "words", _, rfl, rfl, V, vs, rfl, by omega, ?_⟩
  have hw := ok.w
  simp only [List.nodup_cons, List.mem_cons, List.not_mem_nil, or_false, not_or, not_false_iff, List.nodup_nil, and_true] at hw
  have zz : -1000000 ≤ z ∧ z ≤ 1000000 := by unfold NumOk at hz; omega
  refine ⟨6, rfl, by decide, by decide, ?_⟩
  refine forD_ind (fun ds ρ => ∃ (t : Nat) (u6 u7 : Option Ent), t ≤ 6 ∧ ds = (rngD 0 6).drop t ∧ ρ = [some (.dat (bookD C V.ks)), some (.dat (.dic V.dic)), some (.dat (V.fnP p)), some (.dat (.lst (vs.map D.int))), some (.dat (.int z)), some (.dat (rowD V.w0 V.w1 (vs.map fun v => v + z * (t : Nat)))), u6, u7]) (fun ρ ⟨t, u6, u7, ht, e1, e2⟩ => ?_) (fun d ds ρ R ⟨t, u6, u7, ht, e1, e2⟩ hR => ?_) _ _ ⟨0, none, none, by omega, rfl, by simp⟩
  · exact q
  obtain ⟨h6, rfl, rfl⟩ := rng_drop e1
  subst e2
  have hN : ∀ v ∈ vs, ∀ j : Nat, j ≤ 6 → Small (v + z * (j : Nat)) := fun v h j hj => by
    have := hv v h
    unfold NumOk at this
    have a : -6000000 ≤ z * (j : Int) ∧ z * (j : Int) ≤ 6000000 := by
      have hj' : j = 0 ∨ j = 1 ∨ j = 2 ∨ j = 3 ∨ j = 4 ∨ j = 5 ∨ j = 6 := by omega
      rcases hj' with rfl | rfl | rfl | rfl | rfl | rfl | rfl <;> constructor <;> simp <;> omega
    unfold Small
    omega
  obtain ⟨n, ev⟩ := ev_word ok (m := 0) (vs := vs.map fun v => v + z * (t : Nat)) (by rw [List.length_map]; exact hl) hp
  have e3 : thD V p.1 (vs.map fun v => v + z * (t : Nat)) 0 = [rowD V.w0 V.w1 (vs.map fun v => v + z * (t : Nat))] := by rw [hpw]; rfl
  have e4 : dueD V p.1 (vs.map fun v => v + z * (t : Nat)) 0 z = rowD V.w0 V.w1 (vs.map fun v => v + z * ((t + 1 : Nat) : Int)) := by
    rw [hpw]
    show rowD V.w0 V.w1 ((vs.map fun v => v + z * (t : Nat)).map fun v => v + z) = _
    rw [List.map_map]
    congr 1
    refine List.map_congr_left fun v _ => ?_
    show v + z * (t : Int) + z = v + z * ((t + 1 : Nat) : Int)
    rw [Int.natCast_add, Int.mul_add]
    simp
    omega
  rw [e3, e4] at ev
  have r := le_row (row_gd (ok.ow V.w0 (by simp)) (ok.ow V.w1 (by simp)) (vs := vs.map fun v => v + z * ((t + 1 : Nat) : Int)) fun x hx => by
    obtain ⟨v, h1, rfl⟩ := List.mem_map.mp hx
    exact hN v h1 _ (by omega)) (by rw [List.length_map]; omega) (by rw [List.length_map]; omega)
  refine ⟨_, rfl, _, rfl, _, rfl, by decide, V.ks, (V.n0, [(V.w0, []), (V.w1, [numS, V.n0])]), _, _, _, V.rows p.2.1 p.2.2.2.1 p.2.2.2.2, _, _, n, 400, rfl, ok.good, by simp [Wv.ks], rfl, fn_nd hw.1.1, by simp [Wv.rows, fnR], ev, ?_⟩
  refine ⟨_, rfl, any_rep r.1 r.2.1 r.2.2 ?_⟩
  refine ⟨_, rfl, dic_ix rfl ⟨_, rfl, by rw [List.length_map]; exact small_len (by omega), ?_⟩⟩
  refine lcD_map D.int (fun v => D.int (v + z * ((t + 1 : Nat) : Int))) (fun _ => true) (fun v hd R' S hR' _ => ?_) ?_
  · refine ⟨_, rfl, _, rfl, _, rfl, ?_⟩
    show mulD (.int z) (.int (0 + (t : Int) + 1)) fun y => addD (.int v) y R'
    refine ⟨.inr ⟨by omega, by omega⟩, ?_⟩
    have e5 : (0 + (t : Int) + 1) = ((t + 1 : Nat) : Int) := by omega
    rw [e5]
    exact hR' rfl
  rw [List.filter_eq_self.mpr (by simp)]
  refine ⟨V, vs.map fun v => v + z * ((t + 1 : Nat) : Int), by rw [List.map_map]; rfl, by rw [List.length_map]; omega, any_rep r.1 r.2.1 r.2.2 ?_⟩
  rw [neD_str, boolD_bl, if_neg (by simp)]
  exact hR _ ⟨t + 1, _, _, by omega, rfl, rfl⟩
end
end KB
namespace KB
open PySem L2 Dk
open PyProof.Rows (envOfC)
abbrev s_law : Stmt := top 38
theorem sc_law : FnScope ["_law_script", "_law_turn", "_law_deck_here", "_law_world_here", "_law_here_book", "_law_asked", "_law_k", "_law_number_here", "_law_word", "_law_own", "_law_numbers", "_law_j", "_law_more", "_law_often"] ["_law_script"] (defScope s_law) := ⟨rfl, rfl, rfl, by decide +kernel, rfl, by decide +kernel, by decide +kernel⟩
/-- all but the deck -/
def offD (p l : Addr) (H : Hp) : Hp := fun b => if b = p ∨ b = l then none else H b
theorem offD_sub {p l : Addr} {H : Hp} : Same (offD p l H) H := fun b o h => by
  unfold offD at h
  split at h
  · cases h
  · exact h
theorem offD_of {p l : Addr} {H H' : Hp} (s : Same H H') (np : H p = none) (nl : H l = none) : Same H (offD p l H') := fun b o h => by
  have h1 : b ≠ p := fun e => by rw [e, np] at h; cases h
  have h2 : b ≠ l := fun e => by rw [e, nl] at h; cases h
  unfold offD
  rw [if_neg (by rintro (e | e); exact h1 e; exact h2 e)]
  exact s b o h
theorem at_deck2 {K : PySem.W.Frag} {a p l : Addr} {H : Hp} {σ : St} {n : Nat} (d : deckAt p l H) (hl : σ.length = n) (h0 : σ[0]? = some (some (.ref a))) (h2 : σ[2]? = some (some (.ref p))) : At ⟨DeckW p l, H, offD p l H⟩ K (offD p l H) (((List.replicate n none).set 2 (some (.dat (.opq p)))).set 0 (some (.dat (.opq a)))) σ H := by
  have st : StI (DeckW p l) (offD p l H) H := ⟨offD_sub, (fun b o h m => by
    unfold offD at h
    rw [if_pos (show b = p ∨ b = l from m)] at h
    cases h), d⟩
  have look : ∀ j e, (((List.replicate n none).set 2 (some (Ent.dat (.opq p)))).set 0 (some (.dat (.opq a))))[j]? = some (some e) → (j = 0 ∧ e = .dat (.opq a)) ∨ (j = 2 ∧ e = .dat (.opq p)) := fun j e h => by
    by_cases j0 : j = 0
    · subst j0
      rw [List.getElem?_set] at h
      simp at h
      exact .inl ⟨rfl, h.2.symm⟩
    · rw [List.getElem?_set_ne (fun e => j0 e.symm)] at h
      by_cases j2 : j = 2
      · subst j2
        rw [List.getElem?_set] at h
        simp at h
        exact .inr ⟨rfl, h.2.symm⟩
      · rw [List.getElem?_set_ne (fun e => j2 e.symm), List.getElem?_replicate] at h
        split at h <;> cases h
  refine ⟨st.stp, by simp [hl], fun j e h => ?_, fun j j' e e' v hj h1 h2 o1 => ?_⟩
  · rcases look j e h with ⟨rfl, rfl⟩ | ⟨rfl, rfl⟩
    · exact ⟨_, h0, .inl ⟨_, rfl, .opq a⟩⟩
    · exact ⟨_, h2, .inl ⟨_, rfl, .opq p⟩⟩
  · rcases look j e h1 with ⟨rfl, rfl⟩ | ⟨rfl, rfl⟩ <;> exact o1.elim
def spLaw (K : PySem.W.Frag) : Sp := fun vs H Q _ => ∃ (a : Addr) (ns : List Int), vs = [.ref a] ∧ SqL K H a (ns.map V.int) ∧ ns.length ≤ 63 ∧ ∀ H', Q (.bl true) H'
def AskOk (V : Wv) (d : D) : Prop := ∃ (p : Str × (List D × D × D × D)) (vs : List Int) (m z : Int), d = .tup [.str p.1, V.fnP p, .lst (vs.map D.int), .int m, .int z] ∧ p ∈ V.fnL z ∧ NumOk z ∧ NumOk m ∧ vs.length ≤ 8 ∧ ∀ v ∈ vs, NumOk v
theorem cutV_from (xs : List V) (k : Nat) : cutV xs (some (k : Int)) none = xs.drop k := by
  unfold cutV
  rw [HT.sIx_none, show HT.sIx xs.length 0 (some (k : Int)) = min k xs.length from HT.sIx_nat _ _ k]
  by_cases h : k ≤ xs.length
  · rw [Nat.min_eq_left h, List.take_of_length_le (by simp)]
  · rw [Nat.min_eq_right (by omega), List.drop_of_length_le (by omega), List.drop_of_length_le (by omega), List.take_nil]
section
variable {P : Program} {w : World} {K : PySem.W.Frag} {C CU a l : Addr} {mg : Str → Option Value} {base : Heap} {W : Wd} {k : Nat} {f : Addr} {fd : FuncData}
theorem ok_law (T : TxtU K C CU mg) (Fn : Fun K "law" "law" s_law f fd)
    {fK : Addr} {fdK : FuncData} (GK : GnOk P w K mg base CX0 1 fK fdK ["_law_script"] (spDeck K)) (mK : mg "_law_deck" = some (.ref fK)) (kK : PySem.W.keepIn K (.ref fK) = true) (bK : Binds K fdK ["_law_script"] [])
    (Cdraw : ∀ p l, Cal P w K mg base CX0 (DeckW p l) 1 "_law_draw" ["_law_deck_here", "_law_most"] (spDraw p))
    (Cnumber : ∀ p l, Cal P w K mg base CX0 (DeckW p l) 2 "_law_number" ["_law_deck_here"] (spNumber p))
    (Cworld : ∀ p l, Cal P w K mg base CX0 (DeckW p l) 3 "_law_world" ["_law_deck_here"] (spWorld p))
    (Cfunctions : ∀ W, Cal P w K mg base CX0 W 2 "_law_functions" ["_law_world_here", "_law_number_here"] spFunctions)
    (CBook : ∀ W, CalC P w K mg base CX0 W 5 "Book" C ["self", "kinds"] (spBook C))
    (Coften : ∀ W, Cal P w K mg base CX0 W 70 "_law_often_right" ["_law_here_book", "_law_world_here", "_law_own", "_law_numbers", "_law_number_here"] (spOften C))
    (Cright : ∀ W, Cal P w K mg base CX0 W 70 "_law_right" ["_law_here_book", "_law_world_here", "_law_word", "_law_own", "_law_numbers", "_law_more", "_law_number_here"] (spRight C)) : GnOk P w K mg base CX0 72 f fd ["_law_script"] (spLaw K) := by
  refine Fn.gn sc_law (fun vs H Q E h => ?_) fun cdv A outer s H vs Q E hr h => ?_
  · obtain ⟨a, ns, rfl, _⟩ := h
    rfl
  have hu := hr.units
  obtain ⟨a, ns, rfl, hS, h63, q⟩ := h
  refine ⟨_, PSs.nox (pss_cons (ps_for PassesOwn.never rfl (pi_range1 rfl T.b_range (pa_cons pe_int pa_nil)) (pg_name (i := 1) sc_law.nd rfl (.inl rfl)) (pss_cons (ps_set (i := 2) sc_law.nd rfl (by first | exact Or.inl rfl | exact Or.inr rfl) (gn_call GK (hr.mono (by omega)) rfl mK kK bK .nil pass0 (pa_cons (pe_slice sl_list (pv 0) (po_some (pv 1)) po_none) pa_nil) (by decide) rfl rfl)) (pss_any (F := fun i : Addr × Addr × Hp × Hp => ⟨DeckW i.1 i.2.1, i.2.2.1, i.2.2.2⟩) (fun i => by
    have C__law_draw := Cdraw i.1 i.2.1
    have C__law_number := Cnumber i.1 i.2.1
    have C__law_world := Cworld i.1 i.2.1
    have C_Book := CBook (DeckW i.1 i.2.1)
    have C__law_functions := Cfunctions (DeckW i.1 i.2.1)
    have C__law_often_right := Coften (DeckW i.1 i.2.1)
    have C__law_right := Cright (DeckW i.1 i.2.1)
    exact (dss_cons (ds_set 3 (de_fn C__law_world (hr.mono (by omega)) pass0 lets0 (da_cons (de_name 2) da_nil)) sc_law.nd)
  (dss_cons (ds_set 4 (de_make C_Book (hr.mono (by omega)) pass0 lets0 (da_cons (de_at hu (de_name 3) de_str) da_nil)) sc_law.nd)
  (dss_cons (ds_own 5 da_nil sc_law.nd)
  (dss_cons (ds_for PassesOwn.never rfl (di_range1 T.b_range (da_cons de_int da_nil)) (dg_name 6 sc_law.nd)
  (dss_cons (ds_set 7 (de_fn C__law_number (hr.mono (by omega)) pass0 lets0 (da_cons (de_name 2) da_nil)) sc_law.nd)
  (dss_one (ds_for PassesOwn.never rfl (di_seq (de_fn C__law_functions (hr.mono (by omega)) pass0 lets0 (da_cons (de_name 3) (da_cons (de_name 7) da_nil)))) (dg_tup (n := 2) rfl (dgs_cons (dg_name 8 sc_law.nd) (dgs_cons (dg_name 9 sc_law.nd) dgs_nil)))
  (dss_cons (by first | exact (ds_setLc (i := 10) (own := [("_law_j", 11)]) rfl sc_law.nd rfl rfl (sw_true rfl rfl rfl (by decide +kernel)) (di_range1 T.b_range (da_cons (de_fn C__law_draw (hr.mono (by omega)) pass0 lets0 (da_cons (de_name 2) (da_cons de_int da_nil))) da_nil)) (blkOk_by (own := [("_law_j", 11)]) (N := ["_law_script", "_law_turn", "_law_deck_here", "_law_world_here", "_law_here_book", "_law_asked", "_law_k", "_law_number_here", "_law_word", "_law_own", "_law_numbers", "_law_j", "_law_more", "_law_often"]) (sc := defScope s_law) (by decide +kernel)) (fun _ _ _ _ _ => (dg_name 11 sc_law.nd)) (fun _ _ _ _ _ => dif_nil) (fun _ _ _ _ _ => (de_fn C__law_number (hr.mono (by omega)) pass0 lets0 (da_cons (de_name 2) da_nil)))) | exact (ds_set 10 (de_lc (own := [("_law_j", 11)]) rfl sc_law.nd (di_range1 T.b_range (da_cons (de_fn C__law_draw (hr.mono (by omega)) pass0 lets0 (da_cons (de_name 2) (da_cons de_int da_nil))) da_nil)) (blkOk_by (own := [("_law_j", 11)]) (N := ["_law_script", "_law_turn", "_law_deck_here", "_law_world_here", "_law_here_book", "_law_asked", "_law_k", "_law_number_here", "_law_word", "_law_own", "_law_numbers", "_law_j", "_law_more", "_law_often"]) (sc := defScope s_law) (by decide +kernel)) (fun _ _ _ _ _ => (dg_name 11 sc_law.nd)) (fun _ _ _ _ _ => dif_nil) (fun _ _ _ _ _ => (de_fn C__law_number (hr.mono (by omega)) pass0 lets0 (da_cons (de_name 2) da_nil)))) sc_law.nd))
  (dss_cons (ds_set 12 (de_at hu (de_add (de_lst (da_cons (de_fn C__law_number (hr.mono (by omega)) pass0 lets0 (da_cons (de_name 2) da_nil)) da_nil)) (de_name 10)) (de_fn C__law_draw (hr.mono (by omega)) pass0 lets0 (da_cons (de_name 2) (da_cons (de_add (de_len T.b_len (da_cons (de_name 10) da_nil)) de_int) da_nil)))) sc_law.nd)
  (dss_cons (ds_append 5 (de_tup (da_cons (de_name 8) (da_cons (de_name 9) (da_cons (de_name 10) (da_cons (de_name 12) (da_cons (de_name 7) da_nil)))))))
  (dss_cons (ds_set 13 (de_or (de_c (.ne hu) (de_name 8) de_str) (de_one (de_fn C__law_often_right (hr.mono (by omega)) pass0 lets0 (da_cons (de_name 4) (da_cons (de_name 3) (da_cons (de_name 9) (da_cons (de_name 10) (da_cons (de_name 7) da_nil)))))))) sc_law.nd)
  (dss_one (ds_if (dt_not (dt_val (de_name 13)))
  (dss_one (ds_ret de_bl))
  dss_nil))))))))))
  (dss_freeze 5
  (dss_one (ds_for PassesOwn.never rfl (di_seq (de_add (de_name 5) (de_slice (de_name 5) do_none (do_some de_int)))) (dg_tup (n := 5) rfl (dgs_cons (dg_name 8 sc_law.nd) (dgs_cons (dg_name 9 sc_law.nd) (dgs_cons (dg_name 10 sc_law.nd) (dgs_cons (dg_name 12 sc_law.nd) (dgs_cons (dg_name 7 sc_law.nd) dgs_nil))))))
  (dss_one (ds_if (dt_not (dt_val (de_fn C__law_right (hr.mono (by omega)) pass0 lets0 (da_cons (de_name 4) (da_cons (de_name 3) (da_cons (de_name 8) (da_cons (de_name 9) (da_cons (de_name 10) (da_cons (de_name 12) (da_cons (de_name 7) da_nil))))))))))
  (dss_one (ds_ret de_bl))
  dss_nil))))))))))))) (pss_one (ps_ret pe_bl))), ?_⟩
  refine ⟨2, rfl, by decide, by decide, for_range (lo := 0) (n := 2) (fun _ σ' H' => σ'.length = 14 ∧ σ'[0]? = some (some (.ref a)) ∧ SqL K H' a (ns.map V.int)) ⟨rfl, rfl, hS⟩ (fun i σ' H1 hi ⟨hl, h0, hS1⟩ => ?_) fun σ' H1 _ => q H1⟩
  have hlen : ∀ j v, (σ'.set j v).length = 14 := fun j v => by rw [List.length_set]; exact hl
  have g0 : (σ'.set 1 (some (.int (0 + (i : Int)))))[0]? = some (some (.ref a)) := by rw [List.getElem?_set_ne (by decide)]; exact h0
  have g1 : (σ'.set 1 (some (V.int (0 + (i : Int)))))[1]? = some (some (.int (0 + (i : Int)))) := by rw [List.getElem?_set_self (by omega)]
  unfold gName
  generalize hσ : σ'.set 1 (some (V.int (0 + (i : Int)))) = σ1 at g0 g1 ⊢
  have l1 : σ1.length = 14 := by rw [← hσ]; exact hlen _ _
  have e0 : (0 : Int) + (i : Int) = ((i : Nat) : Int) := by omega
  refine ⟨_, g0, _, g1, _, rfl, a, _, rfl, hS1, fun c nc => ?_⟩
  rw [e0, cutV_from, ← List.map_drop]
  refine ⟨c, ns.drop i, rfl, .of upd_same, by rw [List.length_drop]; omega, fun p l H2 sm np nl dk => ?_⟩
  have s1 : Same H1 (upd H1 c (.lst ((ns.drop i).map V.int))) := Same.laid nc
  have np1 : H1 p = none := Same.free s1 np
  have nl1 : H1 l = none := Same.free s1 nl
  have s2 : Same H1 (offD p l H2) := offD_of (Same.trans s1 sm) np1 nl1
  have g2 : (σ1.set 2 (some (.ref p)))[2]? = some (some (.ref p)) := by rw [List.getElem?_set_self (by omega)]
  have g3 : (σ1.set 2 (some (V.ref p)))[0]? = some (some (.ref a)) := by rw [List.getElem?_set_ne (by decide)]; exact g0
  refine ⟨(p, l, H2, offD p l H2), offD p l H2, _, at_deck2 (n := 14) dk (by rw [List.length_set]; exact l1) g3 g2, ?_⟩
  generalize hZ : ends _ _ _ _ = Z
  have hnx : ∀ ρ, ρ.length = 14 → ρ[0]? = some (some (.dat (.opq a))) → Z.nx ρ := by
    rw [← hZ]
    intro ρ lr r0 I' σ2 H3 sI A'
    refine ⟨by rw [← A'.len]; exact lr, ?_, ?_⟩
    · obtain ⟨v, hv, er⟩ := A'.env 0 _ r0
      rw [hv]
      rcases er with ⟨d, ed, rd⟩ | ⟨p', o, _, h3⟩
      · cases ed
        cases rd
        rfl
      · exact absurd h3.rep.isOwn (by simp [Ent.isOwn])
    · exact (Same.trans s2 (Same.trans sI A'.st.sub)).seq hS1
  clear hZ
  simp only [getD_0, getD_s, set_0, set_s, boolD_bl, intD_int, startD, List.map, List.length_cons, List.length_nil, List.replicate, List.cons_append, List.nil_append, defEnds, wipeD, if_true, if_false, Bool.not_true, Bool.not_false, Bool.false_eq_true]
  refine ⟨rfl, fun V ok => dic_ix rfl ⟨V.ks, rfl, ok.good, by decide, 4, rfl, by decide, by decide, ?_⟩⟩
  refine forD_ind (fun ds ρ => ∃ (xs : List D) (u1 u6 u7 u8 u9 u10 u11 u12 u13 : Option Ent), (∀ x ∈ xs, AskOk V x) ∧ xs.length + 8 * ds.length ≤ 32 ∧ ρ = [some (.dat (.opq a)), u1, some (.dat (.opq p)), some (.dat (.dic V.dic)), some (.dat (bookD C V.ks)), some (.own xs), u6, u7, u8, u9, u10, u11, u12, u13]) (fun ρ ⟨xs, u1, u6, u7, u8, u9, u10, u11, u12, u13, hx, hxl, e⟩ => ?_) (fun d ds ρ R ⟨xs, u1, u6, u7, u8, u9, u10, u11, u12, u13, hx, hxl, e⟩ hR => ?_) _ _ ⟨[], none, none, none, none, none, none, none, none, none, by simp, by rw [rngD_length]; decide, rfl⟩
  · subst e
    refine ⟨_, rfl, by simp [Ent.isOwn], _, rfl, _, rfl, ?_⟩
    have hc : (cutD xs none (some (8 : Int))).length ≤ 32 := Nat.le_trans (cutD_len _ _ _) (by rw [List.length_nil] at hxl; omega)
    refine ⟨small_len (by show xs.length + (cutD xs none (some (8 : Int))).length ≤ 1000; rw [List.length_nil] at hxl; omega), ?_⟩
    have hmem : ∀ x ∈ xs ++ cutD xs none (some (8 : Int)), AskOk V x := fun x h => by
      rcases List.mem_append.mp h with h | h
      · exact hx x h
      · exact hx x (cutD_mem h)
    refine forD_ind (fun ds ρ => ∃ (v6 v7 v8 v9 v10 v11 v12 v13 : Option Ent), (∀ x ∈ ds, AskOk V x) ∧ ρ = [some (.dat (.opq a)), u1, some (.dat (.opq p)), some (.dat (.dic V.dic)), some (.dat (bookD C V.ks)), some (.dat (.lst xs)), v6, v7, v8, v9, v10, v11, v12, v13]) (fun ρ ⟨v6, v7, v8, v9, v10, v11, v12, v13, hv, e⟩ => ?_) (fun d ds ρ R ⟨v6, v7, v8, v9, v10, v11, v12, v13, hv, e⟩ hR => ?_) _ _ ⟨u6, u7, u8, u9, u10, u11, u12, u13, hmem, rfl⟩
    · subst e
      exact hnx _ rfl rfl
    · subst e
      obtain ⟨pp, vs, m, z, rfl, hp, hz, hm, hl8, hvs⟩ := hv _ (List.mem_cons_self ..)
      refine ⟨_, rfl, rfl, _, _, rfl, _, _, rfl, _, _, rfl, _, _, rfl, _, _, rfl, rfl, ?_⟩
      refine ⟨_, rfl, _, rfl, _, rfl, _, rfl, _, rfl, _, rfl, _, rfl, V, pp, vs, m, z, rfl, ok, hp, hz, hm, hl8, hvs, ?_⟩
      show boolD (.bl true) _
      rw [boolD_bl]
      exact hR _ ⟨_, _, _, _, _, _, _, _, fun x h => hv x (List.mem_cons_of_mem _ h), rfl⟩
  subst e
  refine ⟨_, rfl, rfl, fun z z0 z1 => ?_⟩
  refine ⟨_, rfl, _, rfl, V, z, rfl, ?_⟩
  refine forD_ind (fun l ρ => ∃ (ps : List (Str × (List D × D × D × D))) (xs : List D) (u8 u9 u10 u11 u12 u13 : Option Ent), (∀ x ∈ ps, x ∈ V.fnL z) ∧ l = ps.map (fun p => D.tup [.str p.1, V.fnP p]) ∧ (∀ x ∈ xs, AskOk V x) ∧ xs.length + l.length + 8 * ds.length ≤ 32 ∧ ρ = [some (.dat (.opq a)), u1, some (.dat (.opq p)), some (.dat (.dic V.dic)), some (.dat (bookD C V.ks)), some (.own xs), some (.dat d), some (.dat (.int z)), u8, u9, u10, u11, u12, u13]) (fun ρ ⟨ps, xs, u8, u9, u10, u11, u12, u13, hps, hl, hx, hxl, e⟩ => ?_) (fun d1 l1 ρ R1 ⟨ps, xs, u8, u9, u10, u11, u12, u13, hps, hl, hx, hxl, e⟩ hR1 => ?_) _ _ ⟨V.fnL z, xs, u8, u9, u10, u11, u12, u13, fun _ h => h, rfl, hx, by rw [List.length_map]; show xs.length + 8 + _ ≤ 32; rw [List.length_cons] at hxl; omega, rfl⟩
  · subst e
    exact hR _ ⟨xs, _, _, _, _, _, _, _, _, _, hx, by rw [List.length_nil] at hxl; omega, rfl⟩
  subst e
  cases ps with
  | nil => cases hl
  | cons pp ps =>
  obtain ⟨rfl, rfl⟩ := List.cons.inj hl
  refine ⟨_, rfl, rfl, _, _, rfl, _, _, rfl, rfl, _, rfl, 9, rfl, by decide, by decide, fun n n0 n9 => ?_⟩
  obtain ⟨n, rfl⟩ := Int.eq_ofNat_of_zero_le n0
  have hn8 : n ≤ 8 := by omega
  refine ⟨_, rfl, by omega, by omega, small_len (by rw [rngD_length]; show n ≤ 1000; omega), lcD_any D.int NumOk (fun d hd R S hR => ⟨_, rfl, rfl, fun i i0 i1 => hR i ⟨i0, i1⟩⟩) fun vs hvl hvs => ?_⟩
  rw [rngD_length] at hvl
  have hvl : vs.length = n := hvl
  refine ⟨_, rfl, rfl, fun m0 a0 a1 => ?_⟩
  refine ⟨by decide, _, rfl, ?_⟩
  have hms : ∀ x ∈ m0 :: vs, NumOk x := fun x hx => by
    rcases List.mem_cons.mp hx with rfl | hx
    · exact ⟨a0, a1⟩
    · exact hvs x hx
  refine ⟨small_len (by show 1 + (vs.map D.int).length ≤ 1000; rw [List.length_map]; omega), ?_⟩
  refine ⟨_, rfl, _, rfl, ?_⟩
  simp only [lenD, addD, List.length_map, hvl]
  refine ⟨((n : Nat) : Int) + 1, rfl, by omega, ?_, fun r r0 r1 => ?_⟩
  · exact Nat.lt_of_le_of_lt (small_log (i := (n : Int) + 1) (by unfold Small; omega)) (by decide)
  obtain ⟨r, rfl⟩ := Int.eq_ofNat_of_zero_le r0
  have hr : r < (m0 :: vs).length := by rw [List.length_cons, hvl]; omega
  have hM := hms _ (List.getElem_mem hr)
  refine ⟨.int (m0 :: vs)[r], atI_nat (j := r) ?_, ?_⟩
  · show ((m0 :: vs).map D.int)[r]? = _
    rw [List.getElem?_map, List.getElem?_eq_getElem hr]
    rfl
  generalize (m0 :: vs)[r] = m at hM
  have hpp := hps pp (by simp)
  have hv8 : vs.length ≤ 8 := by omega
  have ask : AskOk V (.tup [.str pp.1, V.fnP pp, .lst (vs.map D.int), .int m, .int z]) := ⟨pp, vs, m, z, rfl, hpp, ⟨z0, z1⟩, hM, hv8, hvs⟩
  have ask' : ∀ x ∈ xs ++ [D.tup [.str pp.1, V.fnP pp, .lst (vs.map D.int), .int m, .int z]], AskOk V x := fun x h => by
    rcases List.mem_append.mp h with h | h
    · exact hx x h
    · rw [List.mem_singleton.mp h]; exact ask
  rw [List.length_cons] at hxl
  simp only [getD_0, getD_s, set_0, set_s, boolD_bl, intD_int, startD, List.map, List.length_cons, List.length_nil, List.replicate, List.cons_append, List.nil_append, defEnds, wipeD, if_true, if_false, Bool.not_true, Bool.not_false, Bool.false_eq_true]
  refine ⟨_, rfl, by decide, Nat.lt_of_lt_of_le (m := 100) (by omega) (by decide), ?_⟩
  rw [neD_str, boolD_bl]
  by_cases hpw : pp.1 = "added"
  · rw [if_neg (by simp [hpw])]
    refine ⟨V, pp, vs, z, rfl, ok, hpp, hpw, ⟨z0, z1⟩, hv8, hvs, ?_⟩
    show boolD (.bl true) _
    rw [boolD_bl]
    exact hR1 _ ⟨ps, _, _, _, _, _, _, _, fun x h => hps x (List.mem_cons_of_mem _ h), rfl, ask', by rw [List.length_append, List.length_singleton]; omega, rfl⟩
  · rw [if_pos (by simp [hpw])]
    exact hR1 _ ⟨ps, _, _, _, _, _, _, _, fun x h => hps x (List.mem_cons_of_mem _ h), rfl, ask', by rw [List.length_append, List.length_singleton]; omega, rfl⟩
end
end KB
namespace Dk
open PySem L2 PySem.Spec PyProof.Rows
section
variable {F : PySem.W.Frag → Bool} {fn : List He.FnD} {K : PySem.W.Frag}
theorem SaysX.fact (c : SaysX F fn K) : F K = true := (He.ba (show (F K && fn.all fun d => (He.Fa.code d.at_ d.qual).ok K) = true from congrArg (fun z : Bool × List He.FnV => z.1) c)).1
theorem SaysX.def_ (c : SaysX F fn K) (i : Nat) {d : He.FnD} (h : fn[i]? = some d := by rfl) :
    ∃ oc od osl kV doc pm an cdv ct, K.lookup (He.fAd K d.at_) = some ⟨oc, od, .func (PySem.W.fnOf d.name d.qual d.params d.body d.scope .none kV doc pm an cdv ct), osl⟩ ∧ PySem.W.codeIn K cdv d.qual = true := by
  have c2 := (He.ba (show (F K && fn.all fun d => (He.Fa.code d.at_ d.qual).ok K) = true from congrArg (fun z : Bool × List He.FnV => z.1) c)).2
  have e : fn.map (fun d => He.fnObs K d.at_) = fn.map He.FnD.val := congrArg (fun z : Bool × List He.FnV => z.2) c
  have e2 : (fn.map fun d => He.fnObs K d.at_)[i]? = (fn.map He.FnD.val)[i]? := by rw [e]
  rw [List.getElem?_map, List.getElem?_map, h] at e2
  exact He.fn_ok (Option.some.inj e2) (List.all_eq_true.mp c2 d (List.mem_of_getElem? h))
end
theorem faS_in {K : PySem.W.Frag} {x z : Str} (c : (He.Fa.str x z).ok K = true) : ∃ t, PySem.W.nsIn K mainGlobals x = some (some (.str z t)) := by
  have c2 : (match PySem.W.nsIn K mainGlobals x with
    | some (some (.str y _)) => decide (y = z)
    | _ => false) = true := c
  cases e : PySem.W.nsIn K mainGlobals x with
  | none => rw [e] at c2; cases c2
  | some o =>
    rw [e] at c2
    cases o with
    | none => cases c2
    | some v =>
      cases v with
      | str y t =>
        have ej : y = z := of_decide_eq_true c2
        exact ⟨t, by rw [ej]⟩
      | _ => cases c2
theorem faI_in {K : PySem.W.Frag} {x : Str} {i : Int} (c : (He.Fa.int x i).ok K = true) : ∃ t, PySem.W.nsIn K mainGlobals x = some (some (.int i t)) := by
  have c2 : (match PySem.W.nsIn K mainGlobals x with
    | some (some (.int j _)) => decide (j = i)
    | _ => false) = true := c
  cases e : PySem.W.nsIn K mainGlobals x with
  | none => rw [e] at c2; cases c2
  | some o =>
    rw [e] at c2
    cases o with
    | none => cases c2
    | some v =>
      cases v with
      | int j t =>
        have ej : j = i := of_decide_eq_true c2
        exact ⟨t, by rw [ej]⟩
      | _ => cases c2
theorem walk_gnE {l : PySem.W.OpenLaw} {n k : Nat} {q : Program} {loose : List Str} {XP : (Str → Option Value) → Heap → Prop} {YP : World → Heap → Prop} {d : DefRec} {x : Str} {sp : PySem.W.Frag → Sp}
    (hn : l.most = some n) (hn2 : n ≤ sizeLine) (hdf : d.params.defaults = []) (room : Room k callerA)
    (F : ∀ (w : World) (mg : Str → Option Value) (fa : Addr) (h : Heap), YP w h → h.Ns mainGlobals mg → mg d.name = some (.ref fa) →
      ∃ (K : PySem.W.Frag) (fd : FuncData), K.In h ∧ (∀ (s : Shared) (u : Value), BindsTo s fd ⟨[u], []⟩ [(x, u)]) ∧ ∀ base : Heap, K.In base → base.Ns mainGlobals mg → GnOk l.prog w K mg base CX0 k fa fd [x] (sp K))
    (says : ∀ (K : PySem.W.Frag) (H : Hp) (a : Addr) (ns : List Int), ns.length ≤ n → SqL K H a (ns.map V.int) → sp K [.ref a] H (fun v _ => v = .bl true) fun _ _ _ => False) :
    PySem.W.WalkO q loose XP YP l.row.toRowW d [] (fun f vs => PySem.call f vs) := by
  refine Att.attach_call hn hdf fun w s0 s1 mg mb fa o pm cd doc a us ns G Y ho hd hcd hmg hobj hints hlen hg => ?_
  obtain ⟨K, fd, KX, hb, hF⟩ := F w mg fa _ Y G.T.g hmg
  exact law_gn KX G.T.g G.T.b G.T.builtins G.T.nolimit hg hobj hints (Nat.le_trans hlen hn2) room hF hb (fun H _ hS => says _ H a ns hlen hS) fun H e s' z => z
end Dk
namespace KB
open PySem L2 Dk PySem.Spec PyProof.Rows
theorem all_mk {l : PySem.W.OpenLaw} {w : World} {K : PySem.W.Frag} {h : Heap} {mg : Str → Option Value} {fa : Addr} (X : K.In h) (G : h.Ns mainGlobals mg) (hfa : mg "law" = some (.ref fa))
    {C_Book : Addr}
    {C_Runner : Addr}
    {f1 : Addr} {od1 an1 : Option Addr} {sl1 : Array (Option Value)} {oc1 kV1 dc1 pm1 cd1 ct1 : Value}
    {f2 : Addr} {od2 an2 : Option Addr} {sl2 : Array (Option Value)} {oc2 kV2 dc2 pm2 cd2 ct2 : Value}
    {f3 : Addr} {od3 an3 : Option Addr} {sl3 : Array (Option Value)} {oc3 kV3 dc3 pm3 cd3 ct3 : Value}
    {f4 : Addr} {od4 an4 : Option Addr} {sl4 : Array (Option Value)} {oc4 kV4 dc4 pm4 cd4 ct4 : Value}
    {f5 : Addr} {od5 an5 : Option Addr} {sl5 : Array (Option Value)} {oc5 kV5 dc5 pm5 cd5 ct5 : Value}
    {f6 : Addr} {od6 an6 : Option Addr} {sl6 : Array (Option Value)} {oc6 kV6 dc6 pm6 cd6 ct6 : Value}
    {f7 : Addr} {od7 an7 : Option Addr} {sl7 : Array (Option Value)} {oc7 kV7 dc7 pm7 cd7 ct7 : Value}
    {f8 : Addr} {od8 an8 : Option Addr} {sl8 : Array (Option Value)} {oc8 kV8 dc8 pm8 cd8 ct8 : Value}
    {f9 : Addr} {od9 an9 : Option Addr} {sl9 : Array (Option Value)} {oc9 kV9 dc9 pm9 cd9 ct9 : Value}
    {f10 : Addr} {od10 an10 : Option Addr} {sl10 : Array (Option Value)} {oc10 kV10 dc10 pm10 cd10 ct10 : Value}
    {f11 : Addr} {od11 an11 : Option Addr} {sl11 : Array (Option Value)} {oc11 kV11 dc11 pm11 cd11 ct11 : Value}
    {f12 : Addr} {od12 an12 : Option Addr} {sl12 : Array (Option Value)} {oc12 kV12 dc12 pm12 cd12 ct12 : Value}
    {f13 : Addr} {od13 an13 : Option Addr} {sl13 : Array (Option Value)} {oc13 kV13 dc13 pm13 cd13 ct13 : Value}
    {f14 : Addr} {od14 an14 : Option Addr} {sl14 : Array (Option Value)} {oc14 kV14 dc14 pm14 cd14 ct14 : Value}
    {f15 : Addr} {od15 an15 : Option Addr} {sl15 : Array (Option Value)} {oc15 kV15 dc15 pm15 cd15 ct15 : Value}
    {f16 : Addr} {od16 an16 : Option Addr} {sl16 : Array (Option Value)} {oc16 kV16 dc16 pm16 cd16 ct16 : Value}
    {f17 : Addr} {od17 an17 : Option Addr} {sl17 : Array (Option Value)} {oc17 kV17 dc17 pm17 cd17 ct17 : Value}
    {f18 : Addr} {od18 an18 : Option Addr} {sl18 : Array (Option Value)} {oc18 kV18 dc18 pm18 cd18 ct18 : Value}
    {f19 : Addr} {od19 an19 : Option Addr} {sl19 : Array (Option Value)} {oc19 kV19 dc19 pm19 cd19 ct19 : Value}
    {f20 : Addr} {od20 an20 : Option Addr} {sl20 : Array (Option Value)} {oc20 kV20 dc20 pm20 cd20 ct20 : Value}
    {f21 : Addr} {od21 an21 : Option Addr} {sl21 : Array (Option Value)} {oc21 kV21 dc21 pm21 cd21 ct21 : Value}
    {f22 : Addr} {od22 an22 : Option Addr} {sl22 : Array (Option Value)} {oc22 kV22 dc22 pm22 cd22 ct22 : Value}
    {f23 : Addr} {od23 an23 : Option Addr} {sl23 : Array (Option Value)} {oc23 kV23 dc23 pm23 cd23 ct23 : Value}
    {f24 : Addr} {od24 an24 : Option Addr} {sl24 : Array (Option Value)} {oc24 kV24 dc24 pm24 cd24 ct24 : Value}
    {f25 : Addr} {od25 an25 : Option Addr} {sl25 : Array (Option Value)} {oc25 kV25 dc25 pm25 cd25 ct25 : Value}
    {f26 : Addr} {od26 an26 : Option Addr} {sl26 : Array (Option Value)} {oc26 kV26 dc26 pm26 cd26 ct26 : Value}
    {t1 : Tok}
    {t2 : Tok}
    {t3 : Tok}
    (aCBook : PySem.W.nsIn K mainGlobals "Book" = some (some (.ref C_Book)))
    (aCRunner : PySem.W.nsIn K mainGlobals "Runner" = some (some (.ref C_Runner)))
    (a1 : PySem.W.nsIn K mainGlobals "is_name" = some (some (.ref f1))) (l1 : K.lookup f1 = some ⟨oc1, od1, .func (PySem.W.fnOf "is_name" "is_name" (defArgs s_is_name) (defBody s_is_name) (defScope s_is_name) .none kV1 dc1 pm1 an1 cd1 ct1), sl1⟩) (c1 : PySem.W.codeIn K cd1 "is_name" = true) (k1 : PySem.W.keepIn K (.ref f1) = true)
    (a2 : PySem.W.nsIn K mainGlobals "is_bough" = some (some (.ref f2))) (l2 : K.lookup f2 = some ⟨oc2, od2, .func (PySem.W.fnOf "is_bough" "is_bough" (defArgs s_is_bough) (defBody s_is_bough) (defScope s_is_bough) .none kV2 dc2 pm2 an2 cd2 ct2), sl2⟩) (c2 : PySem.W.codeIn K cd2 "is_bough" = true) (k2 : PySem.W.keepIn K (.ref f2) = true)
    (a3 : PySem.W.nsIn K mainGlobals "is_kind" = some (some (.ref f3))) (l3 : K.lookup f3 = some ⟨oc3, od3, .func (PySem.W.fnOf "is_kind" "is_kind" (defArgs s_is_kind) (defBody s_is_kind) (defScope s_is_kind) .none kV3 dc3 pm3 an3 cd3 ct3), sl3⟩) (c3 : PySem.W.codeIn K cd3 "is_kind" = true) (k3 : PySem.W.keepIn K (.ref f3) = true)
    (a4 : PySem.W.nsIn K mainGlobals "are_unlike" = some (some (.ref f4))) (l4 : K.lookup f4 = some ⟨oc4, od4, .func (PySem.W.fnOf "are_unlike" "are_unlike" (defArgs s_are_unlike) (defBody s_are_unlike) (defScope s_are_unlike) .none kV4 dc4 pm4 an4 cd4 ct4), sl4⟩) (c4 : PySem.W.codeIn K cd4 "are_unlike" = true) (k4 : PySem.W.keepIn K (.ref f4) = true)
    (a5 : PySem.W.nsIn K mainGlobals "is_kinds" = some (some (.ref f5))) (l5 : K.lookup f5 = some ⟨oc5, od5, .func (PySem.W.fnOf "is_kinds" "is_kinds" (defArgs s_is_kinds) (defBody s_is_kinds) (defScope s_is_kinds) .none kV5 dc5 pm5 an5 cd5 ct5), sl5⟩) (c5 : PySem.W.codeIn K cd5 "is_kinds" = true) (k5 : PySem.W.keepIn K (.ref f5) = true)
    (a6 : PySem.W.nsIn K mainGlobals "with_worths" = some (some (.ref f6))) (l6 : K.lookup f6 = some ⟨oc6, od6, .func (PySem.W.fnOf "with_worths" "with_worths" (defArgs s_with_worths) (defBody s_with_worths) (defScope s_with_worths) .none kV6 dc6 pm6 an6 cd6 ct6), sl6⟩) (c6 : PySem.W.codeIn K cd6 "with_worths" = true) (k6 : PySem.W.keepIn K (.ref f6) = true)
    (a7 : PySem.W.findIn K (.ref C_Book) "__init__" = some (some (.ref f7))) (l7 : K.lookup f7 = some ⟨oc7, od7, .func (PySem.W.fnOf "__init__" "Book.__init__" (defArgs s_Book___init__) (defBody s_Book___init__) (defScope s_Book___init__) .none kV7 dc7 pm7 an7 cd7 ct7), sl7⟩) (c7 : PySem.W.codeIn K cd7 "Book.__init__" = true) (k7 : PySem.W.keepIn K (.ref f7) = true)
    (i7 : PySem.W.isFn K (.ref f7) = true)
    (a8 : PySem.W.findIn K (.ref C_Book) "boughs" = some (some (.ref f8))) (l8 : K.lookup f8 = some ⟨oc8, od8, .func (PySem.W.fnOf "boughs" "Book.boughs" (defArgs s_Book_boughs) (defBody s_Book_boughs) (defScope s_Book_boughs) .none kV8 dc8 pm8 an8 cd8 ct8), sl8⟩) (c8 : PySem.W.codeIn K cd8 "Book.boughs" = true) (k8 : PySem.W.keepIn K (.ref f8) = true)
    (i8 : PySem.W.isFn K (.ref f8) = true)
    (a9 : PySem.W.findIn K (.ref C_Runner) "__init__" = some (some (.ref f9))) (l9 : K.lookup f9 = some ⟨oc9, od9, .func (PySem.W.fnOf "__init__" "Runner.__init__" (defArgs s_Runner___init__) (defBody s_Runner___init__) (defScope s_Runner___init__) .none kV9 dc9 pm9 an9 cd9 ct9), sl9⟩) (c9 : PySem.W.codeIn K cd9 "Runner.__init__" = true) (k9 : PySem.W.keepIn K (.ref f9) = true)
    (i9 : PySem.W.isFn K (.ref f9) = true)
    (a10 : PySem.W.findIn K (.ref C_Runner) "given" = some (some (.ref f10))) (l10 : K.lookup f10 = some ⟨oc10, od10, .func (PySem.W.fnOf "given" "Runner.given" (defArgs s_Runner_given) (defBody s_Runner_given) (defScope s_Runner_given) .none kV10 dc10 pm10 an10 cd10 ct10), sl10⟩) (c10 : PySem.W.codeIn K cd10 "Runner.given" = true) (k10 : PySem.W.keepIn K (.ref f10) = true)
    (i10 : PySem.W.isFn K (.ref f10) = true)
    (a11 : PySem.W.findIn K (.ref C_Runner) "all_given" = some (some (.ref f11))) (l11 : K.lookup f11 = some ⟨oc11, od11, .func (PySem.W.fnOf "all_given" "Runner.all_given" (defArgs s_Runner_all_given) (defBody s_Runner_all_given) (defScope s_Runner_all_given) .none kV11 dc11 pm11 an11 cd11 ct11), sl11⟩) (c11 : PySem.W.codeIn K cd11 "Runner.all_given" = true) (k11 : PySem.W.keepIn K (.ref f11) = true)
    (i11 : PySem.W.isFn K (.ref f11) = true)
    (a12 : PySem.W.findIn K (.ref C_Runner) "stands_for" = some (some (.ref f12))) (l12 : K.lookup f12 = some ⟨oc12, od12, .func (PySem.W.fnOf "stands_for" "Runner.stands_for" (defArgs s_Runner_stands_for) (defBody s_Runner_stands_for) (defScope s_Runner_stands_for) .none kV12 dc12 pm12 an12 cd12 ct12), sl12⟩) (c12 : PySem.W.codeIn K cd12 "Runner.stands_for" = true) (k12 : PySem.W.keepIn K (.ref f12) = true)
    (i12 : PySem.W.isFn K (.ref f12) = true)
    (a13 : PySem.W.nsIn K mainGlobals "run" = some (some (.ref f13))) (l13 : K.lookup f13 = some ⟨oc13, od13, .func (PySem.W.fnOf "run" "run" (defArgs s_run) (defBody s_run) (defScope s_run) .none kV13 dc13 pm13 an13 cd13 ct13), sl13⟩) (c13 : PySem.W.codeIn K cd13 "run" = true) (k13 : PySem.W.keepIn K (.ref f13) = true)
    (a14 : PySem.W.nsIn K mainGlobals "_law_deck" = some (some (.ref f14))) (l14 : K.lookup f14 = some ⟨oc14, od14, .func (PySem.W.fnOf "_law_deck" "_law_deck" (defArgs s__law_deck) (defBody s__law_deck) (defScope s__law_deck) .none kV14 dc14 pm14 an14 cd14 ct14), sl14⟩) (c14 : PySem.W.codeIn K cd14 "_law_deck" = true) (k14 : PySem.W.keepIn K (.ref f14) = true)
    (a15 : PySem.W.nsIn K mainGlobals "_law_draw" = some (some (.ref f15))) (l15 : K.lookup f15 = some ⟨oc15, od15, .func (PySem.W.fnOf "_law_draw" "_law_draw" (defArgs s__law_draw) (defBody s__law_draw) (defScope s__law_draw) .none kV15 dc15 pm15 an15 cd15 ct15), sl15⟩) (c15 : PySem.W.codeIn K cd15 "_law_draw" = true) (k15 : PySem.W.keepIn K (.ref f15) = true)
    (a16 : PySem.W.nsIn K mainGlobals "_law_names" = some (some (.ref f16))) (l16 : K.lookup f16 = some ⟨oc16, od16, .func (PySem.W.fnOf "_law_names" "_law_names" (defArgs s__law_names) (defBody s__law_names) (defScope s__law_names) .none kV16 dc16 pm16 an16 cd16 ct16), sl16⟩) (c16 : PySem.W.codeIn K cd16 "_law_names" = true) (k16 : PySem.W.keepIn K (.ref f16) = true)
    (a17 : PySem.W.nsIn K mainGlobals "_law_number" = some (some (.ref f17))) (l17 : K.lookup f17 = some ⟨oc17, od17, .func (PySem.W.fnOf "_law_number" "_law_number" (defArgs s__law_number) (defBody s__law_number) (defScope s__law_number) .none kV17 dc17 pm17 an17 cd17 ct17), sl17⟩) (c17 : PySem.W.codeIn K cd17 "_law_number" = true) (k17 : PySem.W.keepIn K (.ref f17) = true)
    (a18 : PySem.W.nsIn K mainGlobals "_law_row_of" = some (some (.ref f18))) (l18 : K.lookup f18 = some ⟨oc18, od18, .func (PySem.W.fnOf "_law_row_of" "_law_row_of" (defArgs s__law_row_of) (defBody s__law_row_of) (defScope s__law_row_of) .none kV18 dc18 pm18 an18 cd18 ct18), sl18⟩) (c18 : PySem.W.codeIn K cd18 "_law_row_of" = true) (k18 : PySem.W.keepIn K (.ref f18) = true)
    (a19 : PySem.W.nsIn K mainGlobals "_law_world" = some (some (.ref f19))) (l19 : K.lookup f19 = some ⟨oc19, od19, .func (PySem.W.fnOf "_law_world" "_law_world" (defArgs s__law_world) (defBody s__law_world) (defScope s__law_world) .none kV19 dc19 pm19 an19 cd19 ct19), sl19⟩) (c19 : PySem.W.codeIn K cd19 "_law_world" = true) (k19 : PySem.W.keepIn K (.ref f19) = true)
    (a20 : PySem.W.nsIn K mainGlobals "_law_fun_of" = some (some (.ref f20))) (l20 : K.lookup f20 = some ⟨oc20, od20, .func (PySem.W.fnOf "_law_fun_of" "_law_fun_of" (defArgs s__law_fun_of) (defBody s__law_fun_of) (defScope s__law_fun_of) .none kV20 dc20 pm20 an20 cd20 ct20), sl20⟩) (c20 : PySem.W.codeIn K cd20 "_law_fun_of" = true) (k20 : PySem.W.keepIn K (.ref f20) = true)
    (a21 : PySem.W.nsIn K mainGlobals "_law_again" = some (some (.ref f21))) (l21 : K.lookup f21 = some ⟨oc21, od21, .func (PySem.W.fnOf "_law_again" "_law_again" (defArgs s__law_again) (defBody s__law_again) (defScope s__law_again) .none kV21 dc21 pm21 an21 cd21 ct21), sl21⟩) (c21 : PySem.W.codeIn K cd21 "_law_again" = true) (k21 : PySem.W.keepIn K (.ref f21) = true)
    (a22 : PySem.W.nsIn K mainGlobals "_law_functions" = some (some (.ref f22))) (l22 : K.lookup f22 = some ⟨oc22, od22, .func (PySem.W.fnOf "_law_functions" "_law_functions" (defArgs s__law_functions) (defBody s__law_functions) (defScope s__law_functions) .none kV22 dc22 pm22 an22 cd22 ct22), sl22⟩) (c22 : PySem.W.codeIn K cd22 "_law_functions" = true) (k22 : PySem.W.keepIn K (.ref f22) = true)
    (a23 : PySem.W.nsIn K mainGlobals "_law_due" = some (some (.ref f23))) (l23 : K.lookup f23 = some ⟨oc23, od23, .func (PySem.W.fnOf "_law_due" "_law_due" (defArgs s__law_due) (defBody s__law_due) (defScope s__law_due) .none kV23 dc23 pm23 an23 cd23 ct23), sl23⟩) (c23 : PySem.W.codeIn K cd23 "_law_due" = true) (k23 : PySem.W.keepIn K (.ref f23) = true)
    (a24 : PySem.W.nsIn K mainGlobals "_law_right" = some (some (.ref f24))) (l24 : K.lookup f24 = some ⟨oc24, od24, .func (PySem.W.fnOf "_law_right" "_law_right" (defArgs s__law_right) (defBody s__law_right) (defScope s__law_right) .none kV24 dc24 pm24 an24 cd24 ct24), sl24⟩) (c24 : PySem.W.codeIn K cd24 "_law_right" = true) (k24 : PySem.W.keepIn K (.ref f24) = true)
    (a25 : PySem.W.nsIn K mainGlobals "_law_often_right" = some (some (.ref f25))) (l25 : K.lookup f25 = some ⟨oc25, od25, .func (PySem.W.fnOf "_law_often_right" "_law_often_right" (defArgs s__law_often_right) (defBody s__law_often_right) (defScope s__law_often_right) .none kV25 dc25 pm25 an25 cd25 ct25), sl25⟩) (c25 : PySem.W.codeIn K cd25 "_law_often_right" = true) (k25 : PySem.W.keepIn K (.ref f25) = true)
    (a26 : PySem.W.nsIn K mainGlobals "law" = some (some (.ref f26))) (l26 : K.lookup f26 = some ⟨oc26, od26, .func (PySem.W.fnOf "law" "law" (defArgs s_law) (defBody s_law) (defScope s_law) .none kV26 dc26 pm26 an26 cd26 ct26), sl26⟩) (c26 : PySem.W.codeIn K cd26 "law" = true) (k26 : PySem.W.keepIn K (.ref f26) = true)
    (g1 : PySem.W.nsIn K mainGlobals "LETTERS" = some (some (.str "abcdefghijklmnopqrstuvwxyz" t1)))
    (g2 : PySem.W.nsIn K mainGlobals "LONGEST" = some (some (.int (8) t2)))
    (g3 : PySem.W.nsIn K mainGlobals "NUM" = some (some (.str "num" t3)))
    (z1 : PySem.W.nsIn K mainGlobals "isinstance" = some none)
    (z2 : PySem.W.nsIn K mainGlobals "str" = some none)
    (z3 : PySem.W.nsIn K mainGlobals "tuple" = some none)
    (z4 : PySem.W.nsIn K mainGlobals "len" = some none)
    (z5 : PySem.W.nsIn K mainGlobals "all" = some none)
    (z6 : PySem.W.nsIn K mainGlobals "any" = some none)
    (z7 : PySem.W.nsIn K mainGlobals "range" = some none)
    (z8 : PySem.W.nsIn K mainGlobals "sum" = some none)
    (z9 : PySem.W.nsIn K mainGlobals "min" = some none)
    (z10 : PySem.W.nsIn K mainGlobals "max" = some none)
    (z11 : PySem.W.nsIn K mainGlobals "int" = some none)
    (z12 : PySem.W.nsIn K mainGlobals "repr" = some none)
    (z13 : PySem.W.nsIn K mainGlobals "list" = some none)
    (z14 : PySem.W.nsIn K mainGlobals "sorted" = some none)
    (z15 : PySem.W.nsIn K mainGlobals "zip" = some none)
    (z16 : PySem.W.nsIn K mainGlobals "dict" = some none)
    (pgBook : PySem.W.plainGet K C_Book Str.empty = true) (hdBook : PySem.W.hasDictIn K C_Book = true) (poBook : PySem.W.plainOver K C_Book = true) (saBook : PySem.W.findIn K (.ref C_Book) "__setattr__" = some (some (.builtin "object.__setattr__"))) (mkBook : PySem.W.makesIn K C_Book = true) (kcBook : PySem.W.keepIn K (.ref C_Book) = true)
    (nBookkinds : PySem.W.findIn K (.ref C_Book) "kinds" = some none)
    (nBooknames_by : PySem.W.findIn K (.ref C_Book) "names_by" = some none)
    (nBookkinds_by : PySem.W.findIn K (.ref C_Book) "kinds_by" = some none)
    (nBookfields_by : PySem.W.findIn K (.ref C_Book) "fields_by" = some none)
    (pgRunner : PySem.W.plainGet K C_Runner Str.empty = true) (hdRunner : PySem.W.hasDictIn K C_Runner = true) (poRunner : PySem.W.plainOver K C_Runner = true) (saRunner : PySem.W.findIn K (.ref C_Runner) "__setattr__" = some (some (.builtin "object.__setattr__"))) (mkRunner : PySem.W.makesIn K C_Runner = true) (kcRunner : PySem.W.keepIn K (.ref C_Runner) = true)
    (nRunnerrows_by_bough : PySem.W.findIn K (.ref C_Runner) "rows_by_bough" = some none)
    (nRunnermost_runs : PySem.W.findIn K (.ref C_Runner) "most_runs" = some none)
    (nRunnermany_runs : PySem.W.findIn K (.ref C_Runner) "many_runs" = some none)
    (y1 : Dk.kwdI K f13 "most" 400 = true) :
    ∃ fd : FuncData, (∀ (s : Shared) (v : Value), BindsTo s fd ⟨[v], []⟩ [("_law_script", v)]) ∧ ∀ base : Heap, K.In base → base.Ns mainGlobals mg → GnOk l.prog w K mg base CX0 72 fa fd ["_law_script"] (spLaw K) := by
  have F_is_name := fun_mk (st := s_is_name) l1 c1 k1
  have m_is_name := PySem.W.mg_of X G a1
  have F_is_bough := fun_mk (st := s_is_bough) l2 c2 k2
  have m_is_bough := PySem.W.mg_of X G a2
  have F_is_kind := fun_mk (st := s_is_kind) l3 c3 k3
  have m_is_kind := PySem.W.mg_of X G a3
  have F_are_unlike := fun_mk (st := s_are_unlike) l4 c4 k4
  have m_are_unlike := PySem.W.mg_of X G a4
  have F_is_kinds := fun_mk (st := s_is_kinds) l5 c5 k5
  have m_is_kinds := PySem.W.mg_of X G a5
  have F_with_worths := fun_mk (st := s_with_worths) l6 c6 k6
  have m_with_worths := PySem.W.mg_of X G a6
  have F_Book___init__ := fun_mk (st := s_Book___init__) l7 c7 k7
  have M_Book___init__ : Meth K C_Book "__init__" f7 := ⟨a7, i7, k7⟩
  have F_Book_boughs := fun_mk (st := s_Book_boughs) l8 c8 k8
  have M_Book_boughs : Meth K C_Book "boughs" f8 := ⟨a8, i8, k8⟩
  have F_Runner___init__ := fun_mk (st := s_Runner___init__) l9 c9 k9
  have M_Runner___init__ : Meth K C_Runner "__init__" f9 := ⟨a9, i9, k9⟩
  have F_Runner_given := fun_mk (st := s_Runner_given) l10 c10 k10
  have M_Runner_given : Meth K C_Runner "given" f10 := ⟨a10, i10, k10⟩
  have F_Runner_all_given := fun_mk (st := s_Runner_all_given) l11 c11 k11
  have M_Runner_all_given : Meth K C_Runner "all_given" f11 := ⟨a11, i11, k11⟩
  have F_Runner_stands_for := fun_mk (st := s_Runner_stands_for) l12 c12 k12
  have M_Runner_stands_for : Meth K C_Runner "stands_for" f12 := ⟨a12, i12, k12⟩
  have F_run := fun_mk (st := s_run) l13 c13 k13
  have m_run := PySem.W.mg_of X G a13
  have F__law_deck := fun_mk (st := s__law_deck) l14 c14 k14
  have m__law_deck := PySem.W.mg_of X G a14
  have F__law_draw := fun_mk (st := s__law_draw) l15 c15 k15
  have m__law_draw := PySem.W.mg_of X G a15
  have F__law_names := fun_mk (st := s__law_names) l16 c16 k16
  have m__law_names := PySem.W.mg_of X G a16
  have F__law_number := fun_mk (st := s__law_number) l17 c17 k17
  have m__law_number := PySem.W.mg_of X G a17
  have F__law_row_of := fun_mk (st := s__law_row_of) l18 c18 k18
  have m__law_row_of := PySem.W.mg_of X G a18
  have F__law_world := fun_mk (st := s__law_world) l19 c19 k19
  have m__law_world := PySem.W.mg_of X G a19
  have F__law_fun_of := fun_mk (st := s__law_fun_of) l20 c20 k20
  have m__law_fun_of := PySem.W.mg_of X G a20
  have F__law_again := fun_mk (st := s__law_again) l21 c21 k21
  have m__law_again := PySem.W.mg_of X G a21
  have F__law_functions := fun_mk (st := s__law_functions) l22 c22 k22
  have m__law_functions := PySem.W.mg_of X G a22
  have F__law_due := fun_mk (st := s__law_due) l23 c23 k23
  have m__law_due := PySem.W.mg_of X G a23
  have F__law_right := fun_mk (st := s__law_right) l24 c24 k24
  have m__law_right := PySem.W.mg_of X G a24
  have F__law_often_right := fun_mk (st := s__law_often_right) l25 c25 k25
  have m__law_often_right := PySem.W.mg_of X G a25
  have F_law := fun_mk (st := s_law) l26 c26 k26
  have m_law := PySem.W.mg_of X G a26
  have cl_Book : Cls K C_Book := ⟨pgBook, hdBook, poBook, saBook⟩
  have mC_Book := PySem.W.mg_of X G aCBook
  have Mk_Book : Mk K C_Book f7 := ⟨mkBook, a7, i7, kcBook⟩
  have cl_Runner : Cls K C_Runner := ⟨pgRunner, hdRunner, poRunner, saRunner⟩
  have mC_Runner := PySem.W.mg_of X G aCRunner
  have Mk_Runner : Mk K C_Runner f9 := ⟨mkRunner, a9, i9, kcRunner⟩
  have T0 : TxtB K C_Book mg := ⟨⟨t1, PySem.W.mg_of X G g1⟩, ⟨t2, PySem.W.mg_of X G g2⟩, ⟨t3, PySem.W.mg_of X G g3⟩, PySem.W.mg_none_of X G z1, PySem.W.mg_none_of X G z2, PySem.W.mg_none_of X G z3, PySem.W.mg_none_of X G z4, PySem.W.mg_none_of X G z5, PySem.W.mg_none_of X G z6, PySem.W.mg_none_of X G z7, PySem.W.mg_none_of X G z8, PySem.W.mg_none_of X G z9, PySem.W.mg_none_of X G z10, PySem.W.mg_none_of X G z11, PySem.W.mg_none_of X G z12, PySem.W.mg_none_of X G z13, PySem.W.mg_none_of X G z14, PySem.W.mg_none_of X G z15, cl_Book, nBookkinds, nBooknames_by, nBookkinds_by, nBookfields_by⟩
  have T : TxtU K C_Book C_Runner mg := ⟨T0, (PySem.W.mg_none_of X G z16), cl_Runner, nRunnerrows_by_bough, nRunnermost_runs, nRunnermany_runs⟩
  have e := hfa.symm.trans m_law
  cases e
  refine ⟨PySem.W.fnOf "law" "law" (defArgs s_law) (defBody s_law) (defScope s_law) .none kV26 dc26 pm26 an26 cd26 ct26, fun s v => .of_eq rfl, fun base _ _ => ?_⟩
  have Cname : ∀ k W, Cal l.prog w K mg base CX0 W (k + 1) "is_name" ["thing"] spIsName := fun k W => Cal.of F_is_name (ok_is_name T0 F_is_name) m_is_name bd_is_name
  have Cbough : ∀ W, Cal l.prog w K mg base CX0 W 2 "is_bough" ["thing"] spIsBough := fun W => Cal.of F_is_bough (ok_is_bough T0 F_is_bough (Cname 0 W)) m_is_bough bd_is_bough
  have Ckind : ∀ W, Cal l.prog w K mg base CX0 W 3 "is_kind" ["thing"] spIsKind := fun W => Cal.of F_is_kind (ok_is_kind T0 F_is_kind (Cname 1 W) (Cbough W)) m_is_kind bd_is_kind
  have Cunl : ∀ W, Cal l.prog w K mg base CX0 W 3 "are_unlike" ["names"] spUnlike := fun W => Cal.of F_are_unlike (ok_are_unlike T0 F_are_unlike (k := 2)) m_are_unlike bd_are_unlike
  have Ckinds : ∀ W, Cal l.prog w K mg base CX0 W 4 "is_kinds" ["thing"] spIsKinds := fun W => Cal.of F_is_kinds (ok_is_kinds T0 F_is_kinds (Ckind W) (Cunl W)) m_is_kinds bd_is_kinds
  have Cwith : ∀ W, Cal l.prog w K mg base CX0 W 4 "with_worths" ["kinds"] spWith := fun W => Cal.of F_with_worths (ok_with_worths T0 F_with_worths (k := 3)) m_with_worths bd_with_worths
  have CBook : ∀ W, CalC l.prog w K mg base CX0 W 5 "Book" C_Book ["self", "kinds"] (spBook C_Book) := fun W => ⟨_, _, Mk_Book, ok_init T0 F_Book___init__ (Ckinds W) (Cwith W), mC_Book, F_Book___init__.binds bd_Book___init__, rfl⟩
  have Cboughs : ∀ W j, CalM l.prog w K mg base CX0 W (j + 1) C_Book "boughs" ["self", "kind"] (spBoughs C_Book) := fun W j => ⟨_, _, cl_Book, M_Book_boughs, ok_boughs T0 F_Book_boughs (k := j), F_Book_boughs.binds bd_Book_boughs, rfl⟩
  have Cdraw : ∀ k p q, Cal l.prog w K mg base CX0 (DeckW p q) (k + 1) "_law_draw" ["_law_deck_here", "_law_most"] (spDraw p) := fun k p q => Cal.of F__law_draw (ok_draw F__law_draw).gn m__law_draw bd__law_draw
  have Cnames : ∀ k p q, CalO l.prog w K mg base (DeckW p q) (k + 2) "_law_names" ["_law_deck_here", "_law_many"] (spNames p) := fun k p q => CalO.of F__law_names (ok_names T0 F__law_names (Cdraw k p q)) m__law_names bd__law_names
  have CI : ∀ W, CalI l.prog w K mg base CX0 W 55 "Runner" C_Runner ["self", "book", "fun", "most"] (spRunner C_Book C_Runner) := fun W => ⟨_, _, Mk_Runner, ok_runner T F_Runner___init__ (k := 54) (Cboughs W 53), mC_Runner, F_Runner___init__.binds bd_Runner___init__, rfl⟩
  have CG : ∀ W, CalS l.prog w K mg base CX0 W 55 C_Runner "given" ["self", "things"] (spGiven C_Runner 53) := fun W => ⟨_, _, cl_Runner, M_Runner_given, all_given_ok T F_Runner_stands_for F_Runner_all_given F_Runner_given M_Runner_stands_for M_Runner_all_given M_Runner_given (F_Runner_stands_for.binds bd_Runner_stands_for) (F_Runner_all_given.binds bd_Runner_all_given) (F_Runner_given.binds bd_Runner_given) 52, F_Runner_given.binds bd_Runner_given⟩
  obtain ⟨uK, bK, rK⟩ := Dk.Fun.bindsK F_run y1 rfl bdk_run
  have CD : ∀ W, CalKd l.prog w K mg base CX0 W 57 "run" ["book", "fun", "things", "most"] 400 (spRun C_Book 53) := fun W => ⟨_, _, uK, ok_run T F_run (CI W) (CG W), m_run, F_run.kp, bK, rK⟩
  have Crow : ∀ W j, Cal l.prog w K mg base CX0 W (j + 1) "_law_row_of" ["_law_words", "_law_numbers"] spRowOf := fun W j => Cal.of F__law_row_of (ok_row_of T F__law_row_of (k := j)) m__law_row_of bd__law_row_of
  have Cdue : ∀ W, Cal l.prog w K mg base CX0 W 57 "_law_due" ["_law_world_here", "_law_word", "_law_numbers", "_law_more", "_law_number_here"] spDue := fun W => Cal.of F__law_due (ok_due T F__law_due (k := 56) (Crow W 55)) m__law_due bd__law_due
  exact ok_law T F_law (ok_deck F__law_deck T0.b_list T0.b_sum T0.b_len).gn m__law_deck F__law_deck.kp (F__law_deck.binds bd__law_deck) (Cdraw 0)
    (fun p q => Cal.of F__law_number (ok_number T F__law_number (Cdraw 0 p q)) m__law_number bd__law_number)
    (fun p q => Cal.of F__law_world (ok_world T F__law_world (Cnames 0 p q)) m__law_world bd__law_world)
    (fun W => Cal.of F__law_functions (ok_functions T F__law_functions (Cal.of F__law_fun_of (ok_fun_of T F__law_fun_of (k := 0)) m__law_fun_of bd__law_fun_of) (Cal.of F__law_again (ok_againF T F__law_again (k := 0)) m__law_again bd__law_again)) m__law_functions bd__law_functions)
    CBook
    (fun W => Cal.of F__law_often_right ((ok_often T F__law_often_right (k := 57) (Crow W 56) (CD W)).mono (by decide)) m__law_often_right bd__law_often_right)
    (fun W => Cal.of F__law_right ((ok_right T F__law_right (k := 57) (Crow W 56) (Cdue W) (CD W)).mono (by decide)) m__law_right bd__law_right)
theorem all_run {l : PySem.W.OpenLaw} {w : World} {K : PySem.W.Frag} {h : Heap} {mg : Str → Option Value} {fa : Addr} (X : K.In h) (G : h.Ns mainGlobals mg) (hfa : mg "law" = some (.ref fa)) (c : Dk.SaysX hBs hFn K) :
    ∃ fd : FuncData, (∀ (s : Shared) (v : Value), BindsTo s fd ⟨[v], []⟩ [("_law_script", v)]) ∧ ∀ base : Heap, K.In base → base.Ns mainGlobals mg → GnOk l.prog w K mg base CX0 72 fa fd ["_law_script"] (spLaw K) := by
  have c0 := c.fact
  obtain ⟨b0, c0⟩ := He.ba c0
  obtain ⟨b1, c0⟩ := He.ba c0
  obtain ⟨b2, c0⟩ := He.ba c0
  have b3 := c0
  obtain ⟨aCBook, aCRunner, a1, k1, a2, k2, a3, k3, a4, k4, a5, k5, a6, k6, a7, k7, i7, a8, k8, i8, a9, k9, i9, a10, k10⟩ : (PySem.W.nsIn K mainGlobals "Book" = some (some (.ref (He.ga K "Book")))) ∧ (PySem.W.nsIn K mainGlobals "Runner" = some (some (.ref (He.ga K "Runner")))) ∧ (PySem.W.nsIn K mainGlobals "is_name" = some (some (.ref (He.fAd K ("is_name", none))))) ∧ (PySem.W.keepIn K (.ref (He.fAd K ("is_name", none))) = true) ∧ (PySem.W.nsIn K mainGlobals "is_bough" = some (some (.ref (He.fAd K ("is_bough", none))))) ∧ (PySem.W.keepIn K (.ref (He.fAd K ("is_bough", none))) = true) ∧ (PySem.W.nsIn K mainGlobals "is_kind" = some (some (.ref (He.fAd K ("is_kind", none))))) ∧ (PySem.W.keepIn K (.ref (He.fAd K ("is_kind", none))) = true) ∧ (PySem.W.nsIn K mainGlobals "are_unlike" = some (some (.ref (He.fAd K ("are_unlike", none))))) ∧ (PySem.W.keepIn K (.ref (He.fAd K ("are_unlike", none))) = true) ∧ (PySem.W.nsIn K mainGlobals "is_kinds" = some (some (.ref (He.fAd K ("is_kinds", none))))) ∧ (PySem.W.keepIn K (.ref (He.fAd K ("is_kinds", none))) = true) ∧ (PySem.W.nsIn K mainGlobals "with_worths" = some (some (.ref (He.fAd K ("with_worths", none))))) ∧ (PySem.W.keepIn K (.ref (He.fAd K ("with_worths", none))) = true) ∧ (PySem.W.findIn K (.ref (He.ga K "Book")) "__init__" = some (some (.ref (He.fAd K ("Book", some "__init__"))))) ∧ (PySem.W.keepIn K (.ref (He.fAd K ("Book", some "__init__"))) = true) ∧ (PySem.W.isFn K (.ref (He.fAd K ("Book", some "__init__"))) = true) ∧ (PySem.W.findIn K (.ref (He.ga K "Book")) "boughs" = some (some (.ref (He.fAd K ("Book", some "boughs"))))) ∧ (PySem.W.keepIn K (.ref (He.fAd K ("Book", some "boughs"))) = true) ∧ (PySem.W.isFn K (.ref (He.fAd K ("Book", some "boughs"))) = true) ∧ (PySem.W.findIn K (.ref (He.ga K "Runner")) "__init__" = some (some (.ref (He.fAd K ("Runner", some "__init__"))))) ∧ (PySem.W.keepIn K (.ref (He.fAd K ("Runner", some "__init__"))) = true) ∧ (PySem.W.isFn K (.ref (He.fAd K ("Runner", some "__init__"))) = true) ∧ (PySem.W.findIn K (.ref (He.ga K "Runner")) "given" = some (some (.ref (He.fAd K ("Runner", some "given"))))) ∧ (PySem.W.keepIn K (.ref (He.fAd K ("Runner", some "given"))) = true) := of_decide_eq_true b0
  obtain ⟨i10, a11, k11, i11, a12, k12, i12, a13, k13, a14, k14, a15, k15, a16, k16, a17, k17, a18, k18, a19, k19, a20, k20, a21, k21⟩ : (PySem.W.isFn K (.ref (He.fAd K ("Runner", some "given"))) = true) ∧ (PySem.W.findIn K (.ref (He.ga K "Runner")) "all_given" = some (some (.ref (He.fAd K ("Runner", some "all_given"))))) ∧ (PySem.W.keepIn K (.ref (He.fAd K ("Runner", some "all_given"))) = true) ∧ (PySem.W.isFn K (.ref (He.fAd K ("Runner", some "all_given"))) = true) ∧ (PySem.W.findIn K (.ref (He.ga K "Runner")) "stands_for" = some (some (.ref (He.fAd K ("Runner", some "stands_for"))))) ∧ (PySem.W.keepIn K (.ref (He.fAd K ("Runner", some "stands_for"))) = true) ∧ (PySem.W.isFn K (.ref (He.fAd K ("Runner", some "stands_for"))) = true) ∧ (PySem.W.nsIn K mainGlobals "run" = some (some (.ref (He.fAd K ("run", none))))) ∧ (PySem.W.keepIn K (.ref (He.fAd K ("run", none))) = true) ∧ (PySem.W.nsIn K mainGlobals "_law_deck" = some (some (.ref (He.fAd K ("_law_deck", none))))) ∧ (PySem.W.keepIn K (.ref (He.fAd K ("_law_deck", none))) = true) ∧ (PySem.W.nsIn K mainGlobals "_law_draw" = some (some (.ref (He.fAd K ("_law_draw", none))))) ∧ (PySem.W.keepIn K (.ref (He.fAd K ("_law_draw", none))) = true) ∧ (PySem.W.nsIn K mainGlobals "_law_names" = some (some (.ref (He.fAd K ("_law_names", none))))) ∧ (PySem.W.keepIn K (.ref (He.fAd K ("_law_names", none))) = true) ∧ (PySem.W.nsIn K mainGlobals "_law_number" = some (some (.ref (He.fAd K ("_law_number", none))))) ∧ (PySem.W.keepIn K (.ref (He.fAd K ("_law_number", none))) = true) ∧ (PySem.W.nsIn K mainGlobals "_law_row_of" = some (some (.ref (He.fAd K ("_law_row_of", none))))) ∧ (PySem.W.keepIn K (.ref (He.fAd K ("_law_row_of", none))) = true) ∧ (PySem.W.nsIn K mainGlobals "_law_world" = some (some (.ref (He.fAd K ("_law_world", none))))) ∧ (PySem.W.keepIn K (.ref (He.fAd K ("_law_world", none))) = true) ∧ (PySem.W.nsIn K mainGlobals "_law_fun_of" = some (some (.ref (He.fAd K ("_law_fun_of", none))))) ∧ (PySem.W.keepIn K (.ref (He.fAd K ("_law_fun_of", none))) = true) ∧ (PySem.W.nsIn K mainGlobals "_law_again" = some (some (.ref (He.fAd K ("_law_again", none))))) ∧ (PySem.W.keepIn K (.ref (He.fAd K ("_law_again", none))) = true) := of_decide_eq_true b1
  obtain ⟨a22, k22, a23, k23, a24, k24, a25, k25, a26, k26, g1, g2, g3, z1, z2, z3, z4, z5, z6, z7, z8, z9, z10, z11, z12⟩ : (PySem.W.nsIn K mainGlobals "_law_functions" = some (some (.ref (He.fAd K ("_law_functions", none))))) ∧ (PySem.W.keepIn K (.ref (He.fAd K ("_law_functions", none))) = true) ∧ (PySem.W.nsIn K mainGlobals "_law_due" = some (some (.ref (He.fAd K ("_law_due", none))))) ∧ (PySem.W.keepIn K (.ref (He.fAd K ("_law_due", none))) = true) ∧ (PySem.W.nsIn K mainGlobals "_law_right" = some (some (.ref (He.fAd K ("_law_right", none))))) ∧ (PySem.W.keepIn K (.ref (He.fAd K ("_law_right", none))) = true) ∧ (PySem.W.nsIn K mainGlobals "_law_often_right" = some (some (.ref (He.fAd K ("_law_often_right", none))))) ∧ (PySem.W.keepIn K (.ref (He.fAd K ("_law_often_right", none))) = true) ∧ (PySem.W.nsIn K mainGlobals "law" = some (some (.ref (He.fAd K ("law", none))))) ∧ (PySem.W.keepIn K (.ref (He.fAd K ("law", none))) = true) ∧ ((He.Fa.str "LETTERS" "abcdefghijklmnopqrstuvwxyz").ok K = true) ∧ ((He.Fa.int "LONGEST" (8)).ok K = true) ∧ ((He.Fa.str "NUM" "num").ok K = true) ∧ (PySem.W.nsIn K mainGlobals "isinstance" = some none) ∧ (PySem.W.nsIn K mainGlobals "str" = some none) ∧ (PySem.W.nsIn K mainGlobals "tuple" = some none) ∧ (PySem.W.nsIn K mainGlobals "len" = some none) ∧ (PySem.W.nsIn K mainGlobals "all" = some none) ∧ (PySem.W.nsIn K mainGlobals "any" = some none) ∧ (PySem.W.nsIn K mainGlobals "range" = some none) ∧ (PySem.W.nsIn K mainGlobals "sum" = some none) ∧ (PySem.W.nsIn K mainGlobals "min" = some none) ∧ (PySem.W.nsIn K mainGlobals "max" = some none) ∧ (PySem.W.nsIn K mainGlobals "int" = some none) ∧ (PySem.W.nsIn K mainGlobals "repr" = some none) := of_decide_eq_true b2
  obtain ⟨z13, z14, z15, z16, pgBook, hdBook, poBook, saBook, mkBook, kcBook, nBookkinds, nBooknames_by, nBookkinds_by, nBookfields_by, pgRunner, hdRunner, poRunner, saRunner, mkRunner, kcRunner, nRunnerrows_by_bough, nRunnermost_runs, nRunnermany_runs, y1⟩ : (PySem.W.nsIn K mainGlobals "list" = some none) ∧ (PySem.W.nsIn K mainGlobals "sorted" = some none) ∧ (PySem.W.nsIn K mainGlobals "zip" = some none) ∧ (PySem.W.nsIn K mainGlobals "dict" = some none) ∧ (PySem.W.plainGet K (He.ga K "Book") Str.empty = true) ∧ (PySem.W.hasDictIn K (He.ga K "Book") = true) ∧ (PySem.W.plainOver K (He.ga K "Book") = true) ∧ (PySem.W.findIn K (.ref (He.ga K "Book")) "__setattr__" = some (some (.builtin "object.__setattr__"))) ∧ (PySem.W.makesIn K (He.ga K "Book") = true) ∧ (PySem.W.keepIn K (.ref (He.ga K "Book")) = true) ∧ (PySem.W.findIn K (.ref (He.ga K "Book")) "kinds" = some none) ∧ (PySem.W.findIn K (.ref (He.ga K "Book")) "names_by" = some none) ∧ (PySem.W.findIn K (.ref (He.ga K "Book")) "kinds_by" = some none) ∧ (PySem.W.findIn K (.ref (He.ga K "Book")) "fields_by" = some none) ∧ (PySem.W.plainGet K (He.ga K "Runner") Str.empty = true) ∧ (PySem.W.hasDictIn K (He.ga K "Runner") = true) ∧ (PySem.W.plainOver K (He.ga K "Runner") = true) ∧ (PySem.W.findIn K (.ref (He.ga K "Runner")) "__setattr__" = some (some (.builtin "object.__setattr__"))) ∧ (PySem.W.makesIn K (He.ga K "Runner") = true) ∧ (PySem.W.keepIn K (.ref (He.ga K "Runner")) = true) ∧ (PySem.W.findIn K (.ref (He.ga K "Runner")) "rows_by_bough" = some none) ∧ (PySem.W.findIn K (.ref (He.ga K "Runner")) "most_runs" = some none) ∧ (PySem.W.findIn K (.ref (He.ga K "Runner")) "many_runs" = some none) ∧ (Dk.kwdI K (He.fAd K ("run", none)) "most" 400 = true) := of_decide_eq_true b3
  obtain ⟨_, _, _, _, _, _, _, _, _, l1, c1⟩ := c.def_ 0 (d := hFn[0]) rfl
  obtain ⟨_, _, _, _, _, _, _, _, _, l2, c2⟩ := c.def_ 1 (d := hFn[1]) rfl
  obtain ⟨_, _, _, _, _, _, _, _, _, l3, c3⟩ := c.def_ 2 (d := hFn[2]) rfl
  obtain ⟨_, _, _, _, _, _, _, _, _, l4, c4⟩ := c.def_ 3 (d := hFn[3]) rfl
  obtain ⟨_, _, _, _, _, _, _, _, _, l5, c5⟩ := c.def_ 4 (d := hFn[4]) rfl
  obtain ⟨_, _, _, _, _, _, _, _, _, l6, c6⟩ := c.def_ 5 (d := hFn[5]) rfl
  obtain ⟨_, _, _, _, _, _, _, _, _, l7, c7⟩ := c.def_ 6 (d := hFn[6]) rfl
  obtain ⟨_, _, _, _, _, _, _, _, _, l8, c8⟩ := c.def_ 7 (d := hFn[7]) rfl
  obtain ⟨_, _, _, _, _, _, _, _, _, l9, c9⟩ := c.def_ 8 (d := hFn[8]) rfl
  obtain ⟨_, _, _, _, _, _, _, _, _, l10, c10⟩ := c.def_ 9 (d := hFn[9]) rfl
  obtain ⟨_, _, _, _, _, _, _, _, _, l11, c11⟩ := c.def_ 10 (d := hFn[10]) rfl
  obtain ⟨_, _, _, _, _, _, _, _, _, l12, c12⟩ := c.def_ 11 (d := hFn[11]) rfl
  obtain ⟨_, _, _, _, _, _, _, _, _, l13, c13⟩ := c.def_ 12 (d := hFn[12]) rfl
  obtain ⟨_, _, _, _, _, _, _, _, _, l14, c14⟩ := c.def_ 13 (d := hFn[13]) rfl
  obtain ⟨_, _, _, _, _, _, _, _, _, l15, c15⟩ := c.def_ 14 (d := hFn[14]) rfl
  obtain ⟨_, _, _, _, _, _, _, _, _, l16, c16⟩ := c.def_ 15 (d := hFn[15]) rfl
  obtain ⟨_, _, _, _, _, _, _, _, _, l17, c17⟩ := c.def_ 16 (d := hFn[16]) rfl
  obtain ⟨_, _, _, _, _, _, _, _, _, l18, c18⟩ := c.def_ 17 (d := hFn[17]) rfl
  obtain ⟨_, _, _, _, _, _, _, _, _, l19, c19⟩ := c.def_ 18 (d := hFn[18]) rfl
  obtain ⟨_, _, _, _, _, _, _, _, _, l20, c20⟩ := c.def_ 19 (d := hFn[19]) rfl
  obtain ⟨_, _, _, _, _, _, _, _, _, l21, c21⟩ := c.def_ 20 (d := hFn[20]) rfl
  obtain ⟨_, _, _, _, _, _, _, _, _, l22, c22⟩ := c.def_ 21 (d := hFn[21]) rfl
  obtain ⟨_, _, _, _, _, _, _, _, _, l23, c23⟩ := c.def_ 22 (d := hFn[22]) rfl
  obtain ⟨_, _, _, _, _, _, _, _, _, l24, c24⟩ := c.def_ 23 (d := hFn[23]) rfl
  obtain ⟨_, _, _, _, _, _, _, _, _, l25, c25⟩ := c.def_ 24 (d := hFn[24]) rfl
  obtain ⟨_, _, _, _, _, _, _, _, _, l26, c26⟩ := c.def_ 25 (d := hFn[25]) rfl
  obtain ⟨_, g1⟩ := Dk.faS_in g1
  obtain ⟨_, g2⟩ := Dk.faI_in g2
  obtain ⟨_, g3⟩ := Dk.faS_in g3
  exact all_mk X G hfa aCBook aCRunner a1 l1 c1 k1 a2 l2 c2 k2 a3 l3 c3 k3 a4 l4 c4 k4 a5 l5 c5 k5 a6 l6 c6 k6 a7 l7 c7 k7 i7 a8 l8 c8 k8 i8 a9 l9 c9 k9 i9 a10 l10 c10 k10 i10 a11 l11 c11 k11 i11 a12 l12 c12 k12 i12 a13 l13 c13 k13 a14 l14 c14 k14 a15 l15 c15 k15 a16 l16 c16 k16 a17 l17 c17 k17 a18 l18 c18 k18 a19 l19 c19 k19 a20 l20 c20 k20 a21 l21 c21 k21 a22 l22 c22 k22 a23 l23 c23 k23 a24 l24 c24 k24 a25 l25 c25 k25 a26 l26 c26 k26 g1 g2 g3 z1 z2 z3 z4 z5 z6 z7 z8 z9 z10 z11 z12 z13 z14 z15 z16 pgBook hdBook poBook saBook mkBook kcBook nBookkinds nBooknames_by nBookkinds_by nBookfields_by pgRunner hdRunner poRunner saRunner mkRunner kcRunner nRunnerrows_by_bough nRunnermost_runs nRunnermany_runs y1
end KB
open PySem PySem.W PySem.Calls PyProof.Rows
set_option maxRecDepth 100000 in
set_option maxHeartbeats 0 in
theorem PySem.Challenge.cw_dressedkinds_k22_great_numbers_holds : PySem.Challenge.rw_dressedkinds_k22_great_numbers.Holds := by
  w_on; o_law
  refine HandSHeadRun.head_any (r := OpenLaw.row PySem.Challenge.rw_dressedkinds_k22_great_numbers) (q := view (OpenLaw.row PySem.Challenge.rw_dressedkinds_k22_great_numbers).prog [38]) (H := KB.hH) (ob := Dk.obX KB.hAs KB.hBs KB.hFn) (M := 15000) (loose := KB.hLoose) (d := HandSHeadRun.topDef (OpenLaw.row PySem.Challenge.rw_dressedkinds_k22_great_numbers).prog 38) (kwd := []) (fun s => Dk.obX_eq s)
    (by kernel_rfl) (fun s => by kernel_rfl) KB.hrun (by kernel_rfl) (by kernel_rfl) (by kernel_rfl) (by rfl) (by first | assumption | decide +kernel) (by decide +kernel) ⟨rfl, rfl, rfl, rfl, rfl, by decide +kernel⟩ ?hw ?hc
  case hw => w_witness2
  case hc =>
    refine Dk.walk_gnE (l := PySem.Challenge.rw_dressedkinds_k22_great_numbers) (n := 63) (k := 72) (x := "_law_script") (sp := KB.spLaw) rfl (by decide) (by kernel_rfl) ⟨rfl, by decide, by decide⟩ ?F fun K H a ns hl hS => ⟨a, ns, rfl, hS, hl, fun _ => rfl⟩
    intro w mg fa h Y G hmg0
    obtain ⟨K, KX, c⟩ := Y
    have hmg : mg ("law" : PySem.Str) = some (.ref fa) := by
      have e : (HandSHeadRun.topDef (OpenLaw.row PySem.Challenge.rw_dressedkinds_k22_great_numbers).prog 38).name = ("law" : PySem.Str) := by kernel_rfl
      rw [← e]
      exact hmg0
    obtain ⟨fd, hb, hF⟩ := KB.all_run KX G hmg c
    exact ⟨K, fd, KX, hb, hF⟩
